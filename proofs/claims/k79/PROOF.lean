import PyProof.Rows.All
import Wide.All
import OpenK.AllK
import Wide.FinOn
import HandS.ForMost
import HandS.ForExc
import HandS.Walk
import HandS.Zip
import HandS.DictComp
import HandS.Flow
import HandS.TupAny
import HandS.TupMul
import HandS.Wide
import HandS.Conv
import HandS.Deep
import HandS.Style
import HandS.TupLe
import KE.SortData
import PyProof.ReprRoads
import KE.KStar
import KE.KDictSum
import HandS.SetFor
import HandS.Strs
import HandS.Zip0
import KE.GoesMore
import HandS.Small
import HandS.More
import HandS.TryOnly
import KE.KDictZip
import HandS.IsInst
import HandS.TupSets
import HandS.Iter
import HandS.List
import HandS.ExcValue
import HandS.WordsDict
import HandS.TupLen
import PyProof.StrOps2
import KE.DataMinMax
import KE.KItemsList
import HandS.SortKw
import HandS.ListItems
import HandS.ExcInit
import HandS.ExcOwn
import HandS.ExcField
import KE.KExcIs
import KE.KTryMore
import KE.KExcInit
import PyProof.ExcBaseAll.ValueError
import PyProof.ExcBaseAll.LookupError
import PyProof.ExcBaseAll.RuntimeError
import HandS.ExcIs
import KE.KDictCopyH
import KE.KDictKeyed
import HandS.DictEq
import PyProof.ListStr
import PyProof.ExcBaseAll.OverflowError
import HandS.Defaults
import KE.KUnpackStar
import HandS.SuiteRaise
import HandS.ExcInitHot
import HandS.StrMore
import PyProof.StrLawsRepr
import PyProof.FitsInt
import PySem.Challenge.RW_driveout_k79_whole_more_is_seen
set_option Elab.async false
set_option linter.all false
set_option maxRecDepth 100000
set_option maxHeartbeats 1000000
namespace DL
open PySem PySem.Spec PyProof.Rows
open L2 hiding St V
abbrev D := PyData
abbrev Vl := L2.V
abbrev St := L2.St
abbrev KF := PySem.W.Frag
def kD : Key → D
  | .inl i => .int i
  | .inr x => .str x
def kT (ks : List Key) : D := .tuple (ks.map kD)
mutual
inductive Rp (H : Hp) : Vl → D → Prop
  | non : Rp H .non .none
  | bl (b : Bool) : Rp H (.bl b) (.bool b)
  | int (i : Int) : Rp H (.int i) (.int i)
  | str (x : Str) : Rp H (.str x) (.str x)
  | lst {a : Addr} {xs : List Vl} {ds : List D} : H a = some (.lst xs) → RpL H xs ds → Rp H (.ref a) (.list ds)
  | tup {a : Addr} {xs : List Vl} {ds : List D} : H a = some (.tup xs) → RpL H xs ds → Rp H (.ref a) (.tuple ds)
  | dK {a : Addr} {kvs : List (Key × Vl)} {ds : List (D × D)} : H a = some (.dK kvs) → RpK H kvs ds → Rp H (.ref a) (.dict ds)
  | dT {a : Addr} {kvs : List (List Key × Vl)} {ds : List (D × D)} : H a = some (.dT kvs) → RpT H kvs ds → Rp H (.ref a) (.dict ((.none, .none) :: ds))
inductive RpL (H : Hp) : List Vl → List D → Prop
  | nil : RpL H [] []
  | cons {v : Vl} {vs : List Vl} {d : D} {ds : List D} : Rp H v d → RpL H vs ds → RpL H (v :: vs) (d :: ds)
inductive RpK (H : Hp) : List (Key × Vl) → List (D × D) → Prop
  | nil : RpK H [] []
  | cons {k : Key} {v : Vl} {vs : List (Key × Vl)} {d : D} {ds : List (D × D)} : Rp H v d → RpK H vs ds → RpK H ((k, v) :: vs) ((kD k, d) :: ds)
inductive RpT (H : Hp) : List (List Key × Vl) → List (D × D) → Prop
  | nil : RpT H [] []
  | cons {k : List Key} {v : Vl} {vs : List (List Key × Vl)} {d : D} {ds : List (D × D)} : Rp H v d → RpT H vs ds → RpT H ((k, v) :: vs) ((kT k, d) :: ds)
end
def Sub (V H : Hp) : Prop := ∀ a o, V a = some o → H a = some o
theorem Sub.refl (H : Hp) : Sub H H := fun _ _ h => h
theorem Sub.trans {A B C : Hp} (h : Sub A B) (k : Sub B C) : Sub A C := fun a o e => k a o (h a o e)
theorem Sub.upd {H : Hp} {p : Addr} {o : HO} (h : H p = none) : Sub H (upd H p o) := fun a u e => by
  rw [upd_ne (ne_of_none e h)]; exact e
mutual
theorem Rp.mono {H H' : Hp} (s : Sub H H') : ∀ {v : Vl} {d : D}, Rp H v d → Rp H' v d
  | _, _, .non => .non
  | _, _, .bl b => .bl b
  | _, _, .int i => .int i
  | _, _, .str x => .str x
  | _, _, .lst h r => .lst (s _ _ h) (RpL.mono s r)
  | _, _, .tup h r => .tup (s _ _ h) (RpL.mono s r)
  | _, _, .dK h r => .dK (s _ _ h) (RpK.mono s r)
  | _, _, .dT h r => .dT (s _ _ h) (RpT.mono s r)
theorem RpL.mono {H H' : Hp} (s : Sub H H') : ∀ {v : List Vl} {d : List D}, RpL H v d → RpL H' v d
  | _, _, .nil => .nil
  | _, _, .cons h r => .cons (Rp.mono s h) (RpL.mono s r)
theorem RpK.mono {H H' : Hp} (s : Sub H H') : ∀ {v : List (Key × Vl)} {d : List (D × D)}, RpK H v d → RpK H' v d
  | _, _, .nil => .nil
  | _, _, .cons h r => .cons (Rp.mono s h) (RpK.mono s r)
theorem RpT.mono {H H' : Hp} (s : Sub H H') : ∀ {v : List (List Key × Vl)} {d : List (D × D)}, RpT H v d → RpT H' v d
  | _, _, .nil => .nil
  | _, _, .cons h r => .cons (Rp.mono s h) (RpT.mono s r)
end
theorem RpL.length {H : Hp} : ∀ {vs : List Vl} {ds : List D}, RpL H vs ds → vs.length = ds.length
  | _, _, .nil => rfl
  | _, _, .cons _ r => by rw [List.length_cons, List.length_cons, RpL.length r]
theorem RpL.get {H : Hp} : ∀ {vs : List Vl} {ds : List D}, RpL H vs ds → ∀ (i : Nat) (v : Vl), vs[i]? = some v → ∃ d, ds[i]? = some d ∧ Rp H v d
  | _, _, .nil, i, v, e => by simp at e
  | _, _, .cons h r, 0, v, e => by simp at e; subst e; exact ⟨_, rfl, h⟩
  | _, _, .cons h r, i + 1, v, e => by
    obtain ⟨d, e1, e2⟩ := RpL.get r i v (by simpa using e)
    exact ⟨d, by simpa using e1, e2⟩
theorem RpL.get' {H : Hp} : ∀ {vs : List Vl} {ds : List D}, RpL H vs ds → ∀ (i : Nat) (d : D), ds[i]? = some d → ∃ v, vs[i]? = some v ∧ Rp H v d
  | _, _, .nil, i, v, e => by simp at e
  | _, _, .cons h r, 0, v, e => by simp at e; subst e; exact ⟨_, rfl, h⟩
  | _, _, .cons h r, i + 1, v, e => by
    obtain ⟨d, e1, e2⟩ := RpL.get' r i v (by simpa using e)
    exact ⟨d, by simpa using e1, e2⟩
theorem RpL.append {H : Hp} : ∀ {vs ws : List Vl} {ds es : List D}, RpL H vs ds → RpL H ws es → RpL H (vs ++ ws) (ds ++ es)
  | _, _, _, _, .nil, s => s
  | _, _, _, _, .cons h r, s => .cons h (RpL.append r s)
theorem RpL.take {H : Hp} : ∀ (n : Nat) {vs : List Vl} {ds : List D}, RpL H vs ds → RpL H (vs.take n) (ds.take n)
  | 0, _, _, _ => by simp; exact .nil
  | n + 1, _, _, .nil => .nil
  | n + 1, _, _, .cons h r => .cons h (RpL.take n r)
theorem RpL.drop {H : Hp} : ∀ (n : Nat) {vs : List Vl} {ds : List D}, RpL H vs ds → RpL H (vs.drop n) (ds.drop n)
  | 0, _, _, r => r
  | n + 1, _, _, .nil => .nil
  | n + 1, _, _, .cons h r => RpL.drop n r
theorem RpL.reverse {H : Hp} : ∀ {vs : List Vl} {ds : List D}, RpL H vs ds → RpL H vs.reverse ds.reverse
  | _, _, .nil => .nil
  | _, _, .cons h r => by
    rw [List.reverse_cons, List.reverse_cons]
    exact RpL.append (RpL.reverse r) (.cons h .nil)
theorem RpL.set {H : Hp} {v : Vl} {d : D} (h : Rp H v d) : ∀ (i : Nat) {vs : List Vl} {ds : List D}, RpL H vs ds → RpL H (vs.set i v) (ds.set i d)
  | _, _, _, .nil => .nil
  | 0, _, _, .cons _ r => .cons h r
  | i + 1, _, _, .cons g r => .cons g (RpL.set h i r)
theorem RpL.one {H : Hp} {vs : List Vl} {d : D} (r : RpL H vs [d]) : ∃ v, vs = [v] ∧ Rp H v d := by
  cases r with
  | cons h r => cases r; exact ⟨_, rfl, h⟩
theorem RpL.two {H : Hp} {vs : List Vl} {d e : D} (r : RpL H vs [d, e]) : ∃ v w, vs = [v, w] ∧ Rp H v d ∧ Rp H w e := by
  cases r with
  | cons h r => obtain ⟨w, rfl, k⟩ := r.one; exact ⟨_, _, rfl, h, k⟩
def plainD : D → Bool
  | .list xs => plainL xs
  | .tuple xs => plainL xs
  | .dict _ => false
  | _ => true
where plainL : List D → Bool
  | [] => true
  | x :: xs => plainD x && plainL xs
mutual
theorem Rp.dp {K : KF} {H : Hp} : ∀ {v : Vl} {d : D}, Rp H v d → plainD d = true → Dp K H v d
  | _, _, .non, _ => .non
  | _, _, .bl b, _ => .bl b
  | _, _, .int i, _ => .int i
  | _, _, .str x, _ => .str x
  | _, _, .lst h r, p => .lst (SqL.of h) (RpL.dp r p)
  | _, _, .tup h r, p => .tup (SqT.of h) (RpL.dp r p)
  | _, _, .dK h r, p => by cases p
  | _, _, .dT h r, p => by cases p
theorem RpL.dp {K : KF} {H : Hp} : ∀ {v : List Vl} {d : List D}, RpL H v d → plainD.plainL d = true → DpAll K H v d
  | _, _, .nil, _ => .nil
  | _, _, .cons h r, p => by
    have p' := Bool.and_eq_true_iff.mp p
    exact .cons (Rp.dp h p'.1) (RpL.dp r p'.2)
end
inductive Cel where
  /-- data: what it reaches is not written any more -/
  | dat (d : D)
  /-- the box of that number -/
  | bx (k : Nat)
  /-- a list that may only be read (the script) -/
  | ext (d : D)
  /-- an exception that was caught, of the class of that name, with that in its field -/
  | ex (c : Str) (d : D)
  /-- a list of such exceptions -/
  | exs (l : List (Str × D))
  /-- a lobby: what it began with, the boxes of its operations and of its log -/
  | ob (b : D) (k1 k2 : Nat)
inductive Box where
  /-- a list or dict that may be written -/
  | live (d : D)
  /-- one that is data by now -/
  | froz (d : D)
  /-- a list whose items are the boxes of those numbers -/
  | refs (ks : List (Nat ⊕ D))
  /-- a dict with tuple keys whose values are the boxes of those numbers -/
  | refD (es : List (D × Nat))
  /-- one of the last two, while nobody may write -/
  | lock
  /-- a dict with tuple keys, with those pairs, while its keys are walked -/
  | lk (es : List (D × D))
def Box.mu : Box → Prop
  | .live _ => True
  | .refs _ => True
  | .refD _ => True
  | .froz _ => False
  | .lock => False
  | .lk _ => False
abbrev Env := List (Option Cel)
abbrev Bx := List Box
def softO : List Vl ⊕ List (Str × Vl) → HO
  | .inl xs => .tup xs
  | .inr fs => .xd fs
def NT (H : Hp) (a : Addr) : Prop := H a ≠ none ∧ ∀ xs, H a ≠ some (softO xs)
theorem NT.of {H : Hp} {a : Addr} {o : HO} (h : H a = some o) (n : ∀ xs, o ≠ softO xs) : NT H a := ⟨by rw [h]; simp, fun xs e => by rw [h] at e; injection e with e; exact n xs e⟩
theorem NT.some {H : Hp} {a : Addr} (n : NT H a) : ∃ o, H a = Option.some o ∧ ∀ xs, o ≠ softO xs := by
  cases e : H a with
  | none => exact absurd e n.1
  | some o => exact ⟨o, rfl, fun xs z => n.2 xs (by rw [e, z])⟩
def OwnAt (V H : Hp) (a : Addr) (d : D) : Prop :=
  match d with
  | .list ds => ∃ xs, H a = some (.lst xs) ∧ RpL V xs ds
  | .dict ds => (∃ kvs, H a = some (.dK kvs) ∧ RpK V kvs ds) ∨ (∃ kvs es, H a = some (.dT kvs) ∧ ds = (.none, .none) :: es ∧ RpT V kvs es)
  | _ => False
theorem OwnAt.some {V H : Hp} {a : Addr} {d : D} (h : OwnAt V H a d) : ∃ o, H a = some o := by
  cases d with
  | list ds => obtain ⟨xs, e, _⟩ := h; exact ⟨_, e⟩
  | dict ds =>
    rcases h with ⟨xs, e, _⟩ | ⟨xs, es, e, _⟩
    · exact ⟨_, e⟩
    · exact ⟨_, e⟩
  | _ => exact h.elim
theorem OwnAt.nt {V H : Hp} {a : Addr} {d : D} (h : OwnAt V H a d) : NT H a := by
  cases d with
  | list ds => obtain ⟨xs, e, _⟩ := h; exact NT.of e fun q z => by cases q <;> cases z
  | dict ds =>
    rcases h with ⟨xs, e, _⟩ | ⟨xs, es, e, _⟩
    · exact NT.of e fun q z => by cases q <;> cases z
    · exact NT.of e fun q z => by cases q <;> cases z
  | _ => exact h.elim
theorem OwnAt.mono {V V' H H' : Hp} {a : Addr} {d : D} (s : Sub V V') (e : ∀ o, H a = Option.some o → H' a = Option.some o) (h : OwnAt V H a d) : OwnAt V' H' a d := by
  cases d with
  | list ds => obtain ⟨xs, q, r⟩ := h; exact ⟨xs, e _ q, r.mono s⟩
  | dict ds =>
    rcases h with ⟨xs, q, r⟩ | ⟨xs, es, q, z, r⟩
    · exact .inl ⟨xs, e _ q, r.mono s⟩
    · exact .inr ⟨xs, es, e _ q, z, r.mono s⟩
  | _ => exact h.elim
theorem OwnAt.rp {V H V' : Hp} {a : Addr} {d : D} (s : Sub V V') (h : OwnAt V H a d) (e : ∀ o, H a = Option.some o → V' a = Option.some o) : Rp V' (.ref a) d := by
  cases d with
  | list ds => obtain ⟨xs, q, r⟩ := h; exact .lst (e _ q) (r.mono s)
  | dict ds =>
    rcases h with ⟨xs, q, r⟩ | ⟨xs, es, q, z, r⟩
    · exact .dK (e _ q) (r.mono s)
    · subst z; exact .dT (e _ q) (r.mono s)
  | _ => exact h.elim
def ExtAt (K : KF) (V : Hp) (v : Vl) (d : D) : Prop := ∃ a xs ds, v = .ref a ∧ d = .list ds ∧ SqL K V a xs ∧ RpL V xs ds
theorem Rd.mono {H H' : Hp} {a : Addr} {u : HO} (s : Sub H H') (h : Rd H a u) : Rd H' a u := by
  rcases h with h | ⟨o, h⟩
  · exact .inl (s _ _ h)
  · exact .inr ⟨o, s _ _ h⟩
theorem ExtAt.mono {K : KF} {V V' : Hp} {v : Vl} {d : D} (s : Sub V V') (h : ExtAt K V v d) : ExtAt K V' v d := by
  obtain ⟨a, xs, ds, e1, e2, q, r⟩ := h
  refine ⟨a, xs, ds, e1, e2, ?_, r.mono s⟩
  rcases q with q | q
  · exact .inl (Rd.mono s q)
  · exact .inr q
structure Wd where
  as : List Addr
  V : Hp
  H : Hp
  bx : Bx
def Wd.W (w : Wd) (a : Addr) : Prop := ∃ (k : Nat) (b : Box), w.as[k]? = some a ∧ w.bx[k]? = some b ∧ b.mu
def Wd.WL (w : Wd) (a : Addr) : Prop := ∃ (k : Nat) (d : D), w.as[k]? = some a ∧ w.bx[k]? = some (.live d)
theorem Wd.WL.W {w : Wd} {a : Addr} : w.WL a → w.W a := fun ⟨k, d, h1, h2⟩ => ⟨k, .live d, h1, h2, trivial⟩
structure Gr (w w' : Wd) : Prop where
  as : ∀ (k : Nat) (a : Addr), w.as[k]? = some a → w'.as[k]? = some a
  asn : ∀ (k : Nat) (a : Addr), w'.as[k]? = some a → w.as[k]? = some a ∨ w.H a = none
  v : Sub w.V w'.V
  vn : ∀ a, NT w.H a → ¬ w.W a → w'.V a = w.V a
  hn : ∀ a o, w.H a = some o → ¬ w.W a → w'.H a = some o
  hk : ∀ a, w.H a ≠ none → w'.H a ≠ none
  w : ∀ a, w'.W a → w.W a ∨ w.H a = none
theorem Gr.refl (w : Wd) : Gr w w := ⟨fun _ _ h => h, fun _ _ h => .inl h, Sub.refl _, fun _ _ _ => rfl, fun _ _ h _ => h, fun _ h => h, fun _ h => .inl h⟩
theorem Gr.trans {a b c : Wd} (g : Gr a b) (k : Gr b c) : Gr a c where
  as i x h := k.as i x (g.as i x h)
  asn i x h := by
    rcases k.asn i x h with h | h
    · exact g.asn i x h
    · right
      cases e : a.H x with
      | none => rfl
      | some o => exact absurd h (g.hk x (by rw [e]; simp))
  v := g.v.trans k.v
  vn x ha hw := by
    have h1 : ¬ b.W x := fun h => (g.w x h).elim hw (fun z => ha.1 z)
    obtain ⟨o, ho, hn⟩ := ha.some
    rw [k.vn x (NT.of (g.hn x o ho hw) hn) h1, g.vn x ha hw]
  hn x o ha hw := by
    have hne : a.H x ≠ none := by rw [ha]; simp
    have h1 : ¬ b.W x := fun h => (g.w x h).elim hw (fun z => hne z)
    exact k.hn x o (g.hn x o ha hw) h1
  hk x ha := k.hk x (g.hk x ha)
  w x h := by
    rcases k.w x h with h | h
    · exact g.w x h
    · right
      cases e : a.H x with
      | none => rfl
      | some o => exact absurd h (g.hk x (by rw [e]; simp))
def exh (a : Addr) (cls : Value) (d : Option Addr) : HO := .ext fun h => ∃ (oe : Obj) (vs : Array Value), h.get? a = some oe ∧ Zc cls d oe ∧ oe.data = .fields vs
def errF (c : Str) : Str := if c = "NotResult" then "room" else if c = "NotWay" then "way" else if c = "NoNumber" then "number" else if c = "TooMany" then "many" else if c = "BadLine" then "line" else if c = "BadScript" then "line" else "rank"
def ExcAt (K : KF) (V : Hp) (v : Vl) (c : Str) (d : D) : Prop := ∃ (a C dd : Addr) (v' : Vl), v = .ref a ∧ PySem.W.nsIn K mainGlobals c = some (some (.ref C)) ∧ V a = some (exh a (.ref C) (some dd)) ∧ V dd = some (.xd [(errF c, v')]) ∧ Rp V v' d
theorem ExcAt.mono {K : KF} {V V' : Hp} (s : Sub V V') {v : Vl} {c : Str} {d : D} (h : ExcAt K V v c d) : ExcAt K V' v c d := by
  obtain ⟨a, C, dd, v', e, n, h1, h2, r⟩ := h
  exact ⟨a, C, dd, v', e, n, s _ _ h1, s _ _ h2, r.mono s⟩
def ExL (K : KF) (V : Hp) : List Vl → List (Str × D) → Prop
  | [], [] => True
  | v :: vs, p :: l => ExcAt K V v p.1 p.2 ∧ ExL K V vs l
  | _, _ => False
theorem ExL.mono {K : KF} {V V' : Hp} (s : Sub V V') : ∀ {vs : List Vl} {l : List (Str × D)}, ExL K V vs l → ExL K V' vs l
  | [], [], _ => trivial
  | _ :: _, _ :: _, h => ⟨ExcAt.mono s h.1, ExL.mono s h.2⟩
  | [], _ :: _, h => h.elim
  | _ :: _, [], h => h.elim
def ExsAt (K : KF) (V : Hp) (v : Vl) (l : List (Str × D)) : Prop := ∃ (a : Addr) (xs : List Vl), v = .ref a ∧ V a = some (.lst xs) ∧ ExL K V xs l
theorem ExsAt.mono {K : KF} {V V' : Hp} (s : Sub V V') {v : Vl} {l : List (Str × D)} (h : ExsAt K V v l) : ExsAt K V' v l := by
  obtain ⟨a, xs, e, h1, h2⟩ := h
  exact ⟨a, xs, e, s _ _ h1, h2.mono s⟩
def ObAt (K : KF) (as : List Addr) (V : Hp) (v : Vl) (b : D) (k1 k2 : Nat) : Prop := ∃ (a C dx a1 a2 : Addr) (fs : List (Str × Vl)) (v0 : Vl), v = .ref a ∧ PySem.W.nsIn K mainGlobals "Lobby" = some (some (.ref C)) ∧ V a = some (.ins C dx fs) ∧
  fs.lookup ("own_begin" : Str) = some v0 ∧ fs.lookup ("own_operations" : Str) = some (.ref a1) ∧ fs.lookup ("own_log" : Str) = some (.ref a2) ∧ (∀ f, f ≠ ("own_begin" : Str) → f ≠ ("own_operations" : Str) → f ≠ ("own_log" : Str) → fs.lookup f = none) ∧ Rp V v0 b ∧ as[k1]? = some a1 ∧ as[k2]? = some a2
theorem ObAt.mono' {K : KF} {as as' : List Addr} {V V' : Hp} (sa : ∀ (k : Nat) (a : Addr), as[k]? = some a → as'[k]? = some a) (s : Sub V V') {v : Vl} {b : D} {k1 k2 : Nat} (h : ObAt K as V v b k1 k2) : ObAt K as' V' v b k1 k2 := by
  obtain ⟨a, C, dx, a1, a2, fs, v0, e, n, h1, h2, h3, h4, h5, r, y1, y2⟩ := h
  exact ⟨a, C, dx, a1, a2, fs, v0, e, n, s _ _ h1, h2, h3, h4, h5, r.mono s, sa _ _ y1, sa _ _ y2⟩
theorem ObAt.mono {K : KF} {as : List Addr} {V V' : Hp} (s : Sub V V') {v : Vl} {b : D} {k1 k2 : Nat} (h : ObAt K as V v b k1 k2) : ObAt K as V' v b k1 k2 := h.mono' (fun _ _ z => z) s
def CelR (K : KF) (as : List Addr) (V : Hp) (v : Vl) : Cel → Prop
  | .dat d => Rp V v d
  | .bx k => ∃ a, as[k]? = some a ∧ v = .ref a
  | .ext d => ExtAt K V v d
  | .ex c d => ExcAt K V v c d
  | .exs l => ExsAt K V v l
  | .ob b k1 k2 => ObAt K as V v b k1 k2
theorem CelR.mono {K : KF} {w w' : Wd} {v : Vl} {c : Cel} (g : Gr w w') (h : CelR K w.as w.V v c) : CelR K w'.as w'.V v c := by
  cases c with
  | dat d => exact Rp.mono g.v h
  | bx k => obtain ⟨a, h1, h2⟩ := h; exact ⟨a, g.as _ _ h1, h2⟩
  | ext d => exact ExtAt.mono g.v h
  | ex n d => exact ExcAt.mono g.v h
  | exs l => exact ExsAt.mono g.v h
  | ob b k1 k2 => exact ObAt.mono' g.as g.v h
def RefI (as : List Addr) (v : Vl) : Nat ⊕ D → Prop
  | .inl k => ∃ p, as[k]? = some p ∧ v = .ref p
  | .inr d => ∀ V : Hp, Rp V v d
def RefL (as : List Addr) : List Vl → List (Nat ⊕ D) → Prop
  | [], [] => True
  | v :: vs, k :: ks => RefI as v k ∧ RefL as vs ks
  | _, _ => False
def RefT (as : List Addr) : List (List Key × Vl) → List (D × Nat) → Prop
  | [], [] => True
  | (x, v) :: vs, (d, k) :: ks => d = kT x ∧ (∃ p, as[k]? = some p ∧ v = .ref p) ∧ RefT as vs ks
  | _, _ => False
theorem RefI.mono {as as' : List Addr} (s : ∀ (k : Nat) (a : Addr), as[k]? = some a → as'[k]? = some a) {v : Vl} : ∀ {k : Nat ⊕ D}, RefI as v k → RefI as' v k
  | .inl _, h => h.imp fun p q => ⟨s _ _ q.1, q.2⟩
  | .inr _, h => h
theorem RefL.mono {as as' : List Addr} (s : ∀ (k : Nat) (a : Addr), as[k]? = some a → as'[k]? = some a) : ∀ {vs : List Vl} {ks : List (Nat ⊕ D)}, RefL as vs ks → RefL as' vs ks
  | [], [], _ => trivial
  | _ :: _, _ :: _, h => ⟨RefI.mono s h.1, RefL.mono s h.2⟩
  | [], _ :: _, h => h.elim
  | _ :: _, [], h => h.elim
theorem RefT.mono {as as' : List Addr} (s : ∀ (k : Nat) (a : Addr), as[k]? = some a → as'[k]? = some a) : ∀ {vs : List (List Key × Vl)} {ks : List (D × Nat)}, RefT as vs ks → RefT as' vs ks
  | [], [], _ => trivial
  | (_, _) :: _, (_, _) :: _, h => ⟨h.1, h.2.1.imp fun p q => ⟨s _ _ q.1, q.2⟩, RefT.mono s h.2.2⟩
  | [], _ :: _, h => h.elim
  | _ :: _, [], h => h.elim
def BoxR (as : List Addr) (V H : Hp) (a : Addr) : Box → Prop
  | .live d => V a = none ∧ OwnAt V H a d
  | .froz d => Rp V (.ref a) d
  | .refs ks => V a = none ∧ ∃ xs, H a = some (.lst xs) ∧ RefL as xs ks
  | .refD es => V a = none ∧ ∃ kvs, H a = some (.dT kvs) ∧ RefT as kvs es
  | .lock => V a = none ∧ NT H a
  | .lk es => ∃ o kvs, V a = some (.frz o (.dT kvs)) ∧ RpT V kvs es
def Box.nf : Box → Prop
  | .froz _ => False
  | .lk _ => False
  | _ => True
theorem Box.mu.nf {b : Box} (h : b.mu) : b.nf := by cases b <;> first | exact trivial | exact h
theorem BoxR.vn {as : List Addr} {V H : Hp} {a : Addr} {b : Box} (q : BoxR as V H a b) (m : b.nf) : V a = none := by
  cases b with
  | froz d => exact m.elim
  | lk ks => exact m.elim
  | _ => exact q.1
theorem BoxR.nt {as : List Addr} {V H : Hp} {a : Addr} {b : Box} (q : BoxR as V H a b) (m : b.nf) : NT H a := by
  cases b with
  | live d => exact q.2.nt
  | froz d => exact m.elim
  | refs ks => obtain ⟨xs, h, _⟩ := q.2; exact NT.of h fun q z => by cases q <;> cases z
  | refD es => obtain ⟨xs, h, _⟩ := q.2; exact NT.of h fun q z => by cases q <;> cases z
  | lock => exact q.2
  | lk ks => exact m.elim
theorem BoxR.keep {as as' : List Addr} {V H V' H' : Hp} {a : Addr} {b : Box} (q : BoxR as V H a b) (sa : ∀ (k : Nat) (a : Addr), as[k]? = some a → as'[k]? = some a) (sv : Sub V V')
    (hv : b.nf → V' a = none) (hh : b.nf → ∀ o, H a = some o → H' a = some o) : BoxR as' V' H' a b := by
  cases b with
  | live d => exact ⟨hv trivial, q.2.mono sv (hh trivial)⟩
  | froz d => exact Rp.mono sv q
  | refs ks => obtain ⟨xs, h, r⟩ := q.2; exact ⟨hv trivial, xs, hh trivial _ h, r.mono sa⟩
  | refD es => obtain ⟨xs, h, r⟩ := q.2; exact ⟨hv trivial, xs, hh trivial _ h, r.mono sa⟩
  | lock => obtain ⟨o, h, n⟩ := q.2.some; exact ⟨hv trivial, NT.of (hh trivial _ h) n⟩
  | lk ks => obtain ⟨o, kvs, h, e⟩ := q; exact ⟨o, kvs, sv _ _ h, RpT.mono sv e⟩
structure StR (K : KF) (σ : St) (env : Env) (w : Wd) : Prop where
  vh : Sub w.V w.H
  len : σ.length = env.length
  cel : ∀ (i : Nat) (c : Cel), env[i]? = some (some c) → ∃ v, σ[i]? = some (some v) ∧ CelR K w.as w.V v c
  lenB : w.as.length = w.bx.length
  nd : w.as.Nodup
  box : ∀ (k : Nat) (a : Addr) (b : Box), w.as[k]? = some a → w.bx[k]? = some b → BoxR w.as w.V w.H a b
theorem StR.wv {K : KF} {σ : St} {env : Env} {w : Wd} (s : StR K σ env w) {a : Addr} (h : w.W a) : w.V a = none := by
  obtain ⟨k, b, h1, h2, m⟩ := h
  exact (s.box k a _ h1 h2).vn m.nf
theorem StR.wh {K : KF} {σ : St} {env : Env} {w : Wd} (s : StR K σ env w) {a : Addr} (h : w.W a) : w.H a ≠ none := by
  obtain ⟨k, b, h1, h2, m⟩ := h
  exact ((s.box k a _ h1 h2).nt m.nf).1
structure Ext (V H V' H' : Hp) : Prop where
  v : Sub V V'
  h : Sub H H'
  vh : Sub V' H'
  vn : ∀ a, NT H a → V' a = V a
theorem Ext.refl {V H : Hp} (s : Sub V H) : Ext V H V H := ⟨Sub.refl _, Sub.refl _, s, fun _ _ => rfl⟩
theorem Sub.ne {H H' : Hp} (s : Sub H H') {a : Addr} (h : H a ≠ none) : H' a ≠ none := by
  cases e : H a with
  | none => exact absurd e h
  | some o => rw [s a o e]; simp
theorem Ext.trans {V V1 V2 H H1 H2 : Hp} (g : Ext V H V1 H1) (k : Ext V1 H1 V2 H2) : Ext V H V2 H2 where
  v := g.v.trans k.v
  h := g.h.trans k.h
  vh := k.vh
  vn a ha := by
    obtain ⟨o, ho, hn⟩ := ha.some
    rw [k.vn a (NT.of (g.h a o ho) hn), g.vn a ha]
theorem Ext.new {V H : Hp} {p : Addr} {o : HO} (s : Sub V H) (h : H p = none) : Ext V H (upd V p o) (upd H p o) where
  v := Sub.upd (by
    cases e : V p with
    | none => rfl
    | some u => rw [s p u e] at h; cases h)
  h := Sub.upd h
  vh a u e := by
    by_cases z : a = p
    · subst z; rw [upd_same] at e ⊢; exact e
    · rw [upd_ne z] at e ⊢; exact s a u e
  vn a ha := by
    rw [upd_ne]
    intro z; subst z; exact ha.1 h
theorem Ext.hid {V H : Hp} {p : Addr} {o : HO} (s : Sub V H) (h : H p = none) : Ext V H V (upd H p o) where
  v := Sub.refl _
  h := Sub.upd h
  vh := s.trans (Sub.upd h)
  vn a ha := rfl
abbrev Wd.to (w : Wd) (V H : Hp) : Wd := { w with V := V, H := H }
theorem Ext.gr {w : Wd} {V' H' : Hp} (x : Ext w.V w.H V' H') : Gr w (w.to V' H') where
  as _ _ h := h
  asn _ _ h := .inl h
  v := x.v
  vn a ha _ := x.vn a ha
  hn a o ha _ := x.h a o ha
  hk a ha := x.h.ne ha
  w a h := .inl h
theorem StR.ext' {K : KF} {σ : St} {env : Env} {w : Wd} {V' H' : Hp} (e : StR K σ env w) (x : Ext w.V w.H V' H') : StR K σ env (w.to V' H') where
  vh := x.vh
  len := e.len
  cel i c h := by
    obtain ⟨v, h1, h2⟩ := e.cel i c h
    exact ⟨v, h1, CelR.mono x.gr h2⟩
  lenB := e.lenB
  nd := e.nd
  box k a b h1 h2 := by
    have h := e.box k a b h1 h2
    exact h.keep (fun _ _ z => z) x.v (fun m => (x.vn a (h.nt m)).trans (h.vn m)) fun _ o z => x.h a o z
inductive Res where
  | ok (d : D)
  | exc (c : Str) (d : D)
abbrev M := Env → Bx → Option (Res × Bx)
abbrev EXP := Str → D → Wd → Prop
def Post (K : KF) (EX : EXP) (Q : VK) (σ : St) (env : Env) (w : Wd) : Option (Res × Bx) → Prop
  | none => False
  | some (.ok d, bx) => ∀ v w', w'.bx = bx → Gr w w' → StR K σ env w' → Rp w'.V v d → Q v w'.H
  | some (.exc c d, bx) => ∀ w', w'.bx = bx → Gr w w' → StR K σ env w' → EX c d w'
def tX (K : KF) (EX : EXP) (m : M) : TE := fun σ H Q => ∃ w env, w.H = H ∧ StR K σ env w ∧ Post K EX Q σ env w (m env w.bx)
theorem Post.grow {K : KF} {EX : EXP} {Q : VK} {σ : St} {env : Env} {w w1 : Wd} {o : Option (Res × Bx)} (g : Gr w w1) (p : Post K EX Q σ env w o) : Post K EX Q σ env w1 o := by
  match o, p with
  | some (.ok d, b), p => exact fun v w' h g' e r => p v w' h (g.trans g') e r
  | some (.exc c d, b), p => exact fun w' h g' e => p w' h (g.trans g') e
def mRet (o : Option D) : M := fun _ b => o.map fun d => (.ok d, b)
def mBind (m : M) (f : D → M) : M := fun env b =>
  match m env b with
  | none => none
  | some (.exc c d, b) => some (.exc c d, b)
  | some (.ok d, b) => f d env b
abbrev P := Env → Bx → Option D
def lift (g : P) : M := fun env b => (g env b).map fun d => (.ok d, b)
section
variable {K : KF} {EX : EXP} {Q : VK} {R : Vl → Hp → Prop} {σ : St} {env : Env} {w : Wd} {m : M} {f : D → M}
theorem post_bind (p : Post K EX Q σ env w (mBind m f env w.bx))
    (k : ∀ d v w', Gr w w' → StR K σ env w' → Rp w'.V v d → Post K EX Q σ env w' (f d env w'.bx) → R v w'.H) : Post K EX R σ env w (m env w.bx) := by
  unfold mBind at p
  cases h : m env w.bx with
  | none => rw [h] at p; exact p.elim
  | some q =>
    obtain ⟨r, b⟩ := q
    rw [h] at p
    cases r with
    | ok d =>
      intro v w' hb g e r
      subst hb
      exact k d v w' g e r (Post.grow g p)
    | exc c d => exact p
theorem tX_bind (e : StR K σ env w) (p : Post K EX Q σ env w (mBind m f env w.bx))
    (k : ∀ d v w', Gr w w' → StR K σ env w' → Rp w'.V v d → Post K EX Q σ env w' (f d env w'.bx) → R v w'.H) : tX K EX m σ w.H R :=
  ⟨w, env, rfl, e, post_bind p k⟩
end
def kD1 (V H : Hp) (Q : VK) (d : D) : Prop := ∀ v V' H', Ext V H V' H' → Rp V' v d → Q v H'
theorem post_ret {K : KF} {EX : EXP} {Q : VK} {σ : St} {env : Env} {w : Wd} {o : Option D} (e : StR K σ env w) (p : Post K EX Q σ env w (mRet o env w.bx)) : ∃ d, o = some d ∧ kD1 w.V w.H Q d := by
  unfold mRet at p
  cases o with
  | none => exact p.elim
  | some d => exact ⟨d, rfl, fun v V' H' x r => p v (w.to V' H') rfl x.gr (e.ext' x) r⟩
def truthD : D → Option Bool
  | .none => some false
  | .bool b => some b
  | .int i => some (i != 0)
  | .str s => if s.length ≤ sizeLine then some ((s.length : Int) != 0) else none
  | .list xs => some (!xs.isEmpty)
  | .tuple xs => some (!xs.isEmpty)
  | .dict _ => none
def PostT (K : KF) (EX : EXP) (Q : Bool → Hp → Prop) (σ : St) (env : Env) (w : Wd) : Option (Res × Bx) → Prop
  | none => False
  | some (.ok d, bx) => ∃ b, truthD d = some b ∧ ∀ w', w'.bx = bx → Gr w w' → StR K σ env w' → Q b w'.H
  | some (.exc c d, bx) => ∀ w', w'.bx = bx → Gr w w' → StR K σ env w' → EX c d w'
def tXT (K : KF) (EX : EXP) (m : M) : TT := fun σ H Q => ∃ w env, w.H = H ∧ StR K σ env w ∧ PostT K EX Q σ env w (m env w.bx)
theorem PostT.grow {K : KF} {EX : EXP} {Q : Bool → Hp → Prop} {σ : St} {env : Env} {w w1 : Wd} {o : Option (Res × Bx)} (g : Gr w w1) (p : PostT K EX Q σ env w o) : PostT K EX Q σ env w1 o := by
  match o, p with
  | some (.ok d, b), p => obtain ⟨c, h, k⟩ := p; exact ⟨c, h, fun w' q g' e => k w' q (g.trans g') e⟩
  | some (.exc c d, b), p => exact fun w' h g' e => p w' h (g.trans g') e
theorem isEmptyL {H : Hp} {xs : List Vl} {ds : List D} (r : RpL H xs ds) : xs.isEmpty = ds.isEmpty := by
  cases r <;> rfl
theorem tru_of {K : KF} {H : Hp} {v : Vl} {d : D} {b : Bool} (r : Rp H v d) (h : truthD d = some b) : TruV K v H b := by
  cases r with
  | non => cases h; rfl
  | bl c => cases h; rfl
  | int i => cases h; rfl
  | str x =>
    have h : (if x.length ≤ sizeLine then some ((x.length : Int) != 0) else none) = some b := h
    by_cases z : x.length ≤ sizeLine
    · rw [if_pos z] at h; cases h; exact ⟨z, rfl⟩
    · rw [if_neg z] at h; cases h
  | lst e r => cases h; exact .inl ⟨_, SqL.of e, by rw [isEmptyL r]⟩
  | tup e r => cases h; exact .inr (.inl ⟨_, SqT.of e, by rw [isEmptyL r]⟩)
  | dK e r => cases h
  | dT e r => cases h
theorem _root_.L2.PE.imp {X : Cx} {e : Expr} {t t' : TE} (h : PE X e t) (k : ∀ σ H Q, t' σ H Q → t σ H Q) : PE X e t' := ⟨fun pins s σ H Q I q => h.run pins s σ H Q I (k σ H Q q)⟩
theorem _root_.L2.PT.imp {X : Cx} {e : Expr} {t t' : TT} (h : PT X e t) (k : ∀ σ H Q, t' σ H Q → t σ H Q) : PT X e t' := ⟨fun pins s σ H Q I q => h.run pins s σ H Q I (k σ H Q q)⟩
theorem _root_.L2.PW.imp {X : Cx} {e : Expr} {t t' : TT} (h : PW X e t) (k : ∀ σ H Q, t' σ H Q → t σ H Q) : PW X e t' := ⟨fun wh pins s σ H Q I q => h.run wh pins s σ H Q I (k σ H Q q)⟩
theorem _root_.L2.PA.imp {X : Cx} {e : List Expr} {t t' : TA} (h : PA X e t) (k : ∀ σ H Q, t' σ H Q → t σ H Q) : PA X e t' := ⟨fun pos pins s σ H Q I q => h.run pos pins s σ H Q I (k σ H Q q)⟩
theorem _root_.L2.PS.imp {X : Cx} {e : Stmt} {t t' : TS} (h : PS X e t) (k : ∀ D σ H, t' D σ H → t D σ H) : PS X e t' := ⟨fun pins s σ H D I q => h.run pins s σ H D I (k D σ H q)⟩
theorem _root_.L2.PSs.imp {X : Cx} {e : List Stmt} {t t' : TS} (h : PSs X e t) (k : ∀ D σ H, t' D σ H → t D σ H) : PSs X e t' := ⟨fun pins s σ H D I q => h.run pins s σ H D I (k D σ H q)⟩
theorem _root_.L2.PI.imp {X : Cx} {tg e : Expr} {t t' : TI} (h : PI X tg e t) (k : ∀ σ H Q, t' σ H Q → t σ H Q) : PI X tg e t' := ⟨fun pins s σ H Q I q => h.run pins s σ H Q I (k σ H Q q)⟩
end DL
set_option Elab.async false
set_option linter.all false
set_option maxRecDepth 100000
set_option maxHeartbeats 1000000
namespace DL
open PySem PySem.Spec PyProof.Rows
open L2 hiding St V
section
variable {X : Cx} {EX : EXP} {e : Expr} {m : M}
def pVar (i : Nat) : P := fun env b =>
  match env[i]? with
  | some (some (.dat d)) => some d
  | some (some (.bx k)) => (match b[k]? with | some (.froz d) => some d | _ => none)
  | _ => none
def pC (d : D) : P := fun _ _ => some d
theorem post_lift {K : KF} {Q : VK} {σ : St} {env : Env} {w : Wd} {g : P} (e : StR K σ env w) (p : Post K EX Q σ env w (lift g env w.bx)) : ∃ d, g env w.bx = some d ∧ ∀ v, Rp w.V v d → Q v w.H := by
  unfold lift at p
  cases h : g env w.bx with
  | none => rw [h] at p; exact p.elim
  | some d => rw [h] at p; exact ⟨d, rfl, fun v r => p v w rfl (Gr.refl w) e r⟩
theorem x_var {i : Nat} (h : PE X e (tVar i)) : PE X e (tX X.K EX (lift (pVar i))) := h.imp fun σ H Q ⟨w, env, hw, s, p⟩ => by
  subst hw
  obtain ⟨d, hd, k⟩ := post_lift s p
  unfold pVar at hd
  split at hd
  · rename_i d' he
    cases hd
    obtain ⟨v, h1, h2⟩ := s.cel i _ he
    exact ⟨v, h1, k v h2⟩
  · rename_i j he
    split at hd
    · rename_i d' hb
      cases hd
      obtain ⟨v, h1, a, h2, rfl⟩ := s.cel i _ he
      exact ⟨_, h1, k _ (s.box j a _ h2 hb)⟩
    · cases hd
  · cases hd
theorem x_const {v : Vl} {d : D} (h : PE X e (tC v)) (r : ∀ H, Rp H v d) : PE X e (tX X.K EX (lift (pC d))) := h.imp fun σ H Q ⟨w, env, hw, s, p⟩ => by
  subst hw
  obtain ⟨d', hd, k⟩ := post_lift s p
  cases hd
  exact k v (r _)
theorem x_int {i j pos} : PE X (.Constant (.int i) j pos) (tX X.K EX (lift (pC (.int i)))) := x_const pe_int fun _ => .int i
theorem x_bl {i j pos} : PE X (.Constant (.bool i) j pos) (tX X.K EX (lift (pC (.bool i)))) := x_const pe_bl fun _ => .bl i
theorem x_str {i j pos} : PE X (.Constant (.str i) j pos) (tX X.K EX (lift (pC (.str i)))) := x_const pe_str fun _ => .str i
theorem x_non {j pos} : PE X (.Constant .none j pos) (tX X.K EX (lift (pC .none))) := x_const pe_non fun _ => .non
theorem x_glob {x : Str} {v : Vl} {u : Value} {d : D} {pos : Pos} (hg : Gl X x) (hm : X.mg x = some u) (r : RelV v u) (q : ∀ H, Rp H v d) (hd : (x == ("__debug__" : Str)) = false := by decide) : PE X (.Name x pos) (tX X.K EX (lift (pC d))) :=
  x_const (v := v) (pe_glob hg hm r hd) q
end
def rD (f : D → D → Option D) : R2 := fun x y H Q => ∃ V dx dy d, Sub V H ∧ Rp V x dx ∧ Rp V y dy ∧ f dx dy = some d ∧ kD1 V H Q d
def uD (f : D → Option D) : Vl → Hp → VK → Prop := fun x H Q => ∃ V dx d, Sub V H ∧ Rp V x dx ∧ f dx = some d ∧ kD1 V H Q d
def cD (f : List D → Option D) : List Vl → Hp → VK → Prop := fun xs H Q => ∃ V ds d, Sub V H ∧ RpL V xs ds ∧ f ds = some d ∧ kD1 V H Q d
def mBin (f : D → D → Option D) (a b : M) : M := mBind a fun x => mBind b fun y => mRet (f x y)
def mUn (f : D → Option D) (a : M) : M := mBind a fun x => mRet (f x)
def pBin (f : D → D → Option D) (a b : P) : P := fun env bx => (a env bx).bind fun x => (b env bx).bind fun y => f x y
def pUn (f : D → Option D) (a : P) : P := fun env bx => (a env bx).bind f
theorem lift_bin (f : D → D → Option D) (a b : P) : mBin f (lift a) (lift b) = lift (pBin f a b) := by
  funext env bx
  unfold mBin mBind lift pBin mRet
  cases h : a env bx with
  | none => simp [h]
  | some x =>
    cases h2 : b env bx with
    | none => simp [h2]
    | some y => simp [h2]
theorem lift_un (f : D → Option D) (a : P) : mUn f (lift a) = lift (pUn f a) := by
  funext env bx
  unfold mUn mBind lift pUn mRet
  cases h : a env bx with
  | none => simp [h]
  | some x => simp
section
variable {X : Cx} {EX : EXP} {a b c : Expr} {ma mb mc : M} {pos : Pos}
theorem tOp_of {K : KF} {f : D → D → Option D} {σ : St} {H : Hp} {Q : VK} (h : tX K EX (mBin f ma mb) σ H Q) : tOp (rD f) (tX K EX ma) (tX K EX mb) σ H Q := by
  obtain ⟨w, env, hw, s, p⟩ := h
  subst hw
  refine tX_bind s p fun dx vx w1 g1 s1 r1 p1 => tX_bind s1 p1 fun dy vy w2 g2 s2 r2 p2 => ?_
  obtain ⟨d, hd, k⟩ := post_ret s2 p2
  exact ⟨w2.V, dx, dy, d, s2.vh, r1.mono g2.v, r2, hd, k⟩
theorem x_op {op : Operator} {f : D → D → Option D} (ho : OpR X (binaryOp op) (rD f)) (ha : PE X a (tX X.K EX ma)) (hb : PE X b (tX X.K EX mb)) : PE X (.BinOp a op b pos) (tX X.K EX (mBin f ma mb)) :=
  (pe_op ho ha hb).imp fun _ _ _ h => tOp_of h
theorem x_cmp {op : CmpOp} {f : D → D → Option D} (ho : OpR X (compareOp op) (rD f)) (ha : PE X a (tX X.K EX ma)) (hb : PE X b (tX X.K EX mb)) (hm : behindInMarks op b = false) : PE X (.Compare a [op] [b] pos) (tX X.K EX (mBin f ma mb)) :=
  (pe_cmpR ho ha hb hm).imp fun _ _ _ h => tOp_of h
theorem x_un {op : UnaryOp} {f : D → Option D} (ho : UnR X (unaryOp op) (uD f)) (ha : PE X a (tX X.K EX ma)) : PE X (.UnaryOp op a pos) (tX X.K EX (mUn f ma)) :=
  (pe_un ho ha).imp fun σ H Q ⟨w, env, hw, s, p⟩ => by
    subst hw
    refine tX_bind s p fun dx vx w1 g1 s1 r1 p1 => ?_
    obtain ⟨d, hd, k⟩ := post_ret s1 p1
    exact ⟨w1.V, dx, d, s1.vh, r1, hd, k⟩
def dNot (d : D) : Option D := (truthD d).map fun b => .bool (!b)
theorem x_not (ha : PE X a (tX X.K EX ma)) : PE X (.UnaryOp .Not a pos) (tX X.K EX (mUn dNot ma)) :=
  (pe_notT ha).imp fun σ H Q ⟨w, env, hw, s, p⟩ => by
    subst hw
    refine tX_bind s p fun dx vx w1 g1 s1 r1 p1 => ?_
    obtain ⟨d, hd, k⟩ := post_ret s1 p1
    unfold dNot at hd
    cases ht : truthD dx with
    | none => rw [ht] at hd; cases hd
    | some q =>
      rw [ht] at hd
      cases hd
      exact ⟨q, (tru_of (r1.mono s1.vh) ht), k _ _ _ (Ext.refl s1.vh) (.bl _)⟩
def mTru (t : Option Bool) (a b : M) : M := match t with
  | some true => a
  | some false => b
  | none => fun _ _ => none
def pTru (t : Option Bool) (a b : P) : P := match t with
  | some true => a
  | some false => b
  | none => fun _ _ => none
def asB : Option D → Option Bool
  | some (.bool b) => some b
  | _ => none
theorem lift_tru (t : Option Bool) (a b : P) : mTru t (lift a) (lift b) = lift (pTru t a b) := by
  cases t with
  | none => rfl
  | some t => cases t <;> rfl
theorem lift_ret (o : Option D) : mRet o = lift (fun _ _ => o) := rfl
def pBind (a : P) (f : D → P) : P := fun env bx => (a env bx).bind fun x => f x env bx
theorem lift_bind (a : P) (f : D → M) (g : D → P) (h : ∀ x, f x = lift (g x)) : mBind (lift a) f = lift (pBind a g) := by
  funext env bx
  unfold mBind lift pBind
  cases a env bx with
  | none => rfl
  | some x =>
    show f x env bx = _
    rw [h x]; rfl
def mChain (f g : D → D → Option D) (a b c : M) : M := mBind a fun x => mBind b fun y => mTru (asB (f x y)) (mBind c fun z => mRet (g y z)) (mRet (some (.bool false)))
def pChain (f g : D → D → Option D) (a b c : P) : P := pBind a fun x => pBind b fun y => pTru (asB (f x y)) (pBind c fun z _ _ => g y z) (fun _ _ => some (.bool false))
theorem lift_chain (f g : D → D → Option D) (a b c : P) : mChain f g (lift a) (lift b) (lift c) = lift (pChain f g a b c) :=
  lift_bind _ _ _ fun x => lift_bind _ _ _ fun y => by rw [← lift_tru, lift_bind _ _ _ fun z => lift_ret _]; rfl
theorem asB_some {o : Option D} {b : Bool} (h : asB o = some b) : o = some (.bool b) := by
  unfold asB at h
  split at h
  · cases h; rfl
  · cases h
theorem x_chain {op op' : CmpOp} {f g : D → D → Option D} (ho : OpR X (compareOp op) (rD f)) (ho' : OpR X (compareOp op') (rD g)) (ha : PE X a (tX X.K EX ma)) (hb : PE X b (tX X.K EX mb)) (hc : PE X c (tX X.K EX mc))
    (hm : lastMarks [op, op'] [b, c] = false := by rfl) : PE X (.Compare a [op, op'] [b, c] pos) (tX X.K EX (mChain f g ma mb mc)) :=
  (pe_chain ho ho' ha hb hc (hm := hm)).imp fun σ H Q ⟨w, env, hw, s, p⟩ => by
    subst hw
    refine tX_bind s p fun dx vx w1 g1 s1 r1 p1 => tX_bind s1 p1 fun dy vy w2 g2 s2 r2 p2 => ?_
    cases hf : asB (f dx dy) with
    | none => rw [hf] at p2; exact p2.elim
    | some t =>
      rw [hf] at p2
      refine ⟨w2.V, dx, dy, _, s2.vh, r1.mono g2.v, r2, asB_some hf, fun v V' H' x r => ?_⟩
      cases r
      refine ⟨t, rfl, ?_⟩
      cases t with
      | true =>
        rw [if_pos rfl]
        refine tX_bind (w := w2.to V' H') (s2.ext' x) (Post.grow x.gr p2) fun dz vz w3 g3 s3 r3 p3 => ?_
        obtain ⟨d, hd, k⟩ := post_ret s3 p3
        exact ⟨w3.V, dy, dz, d, s3.vh, (r2.mono x.v).mono g3.v, r3, hd, k⟩
      | false =>
        rw [if_neg Bool.false_ne_true]
        obtain ⟨d, hd, k⟩ := post_ret s2 p2
        cases hd
        exact k _ _ _ x (.bl _)
end
def mAnd (a b : M) : M := mBind a fun x => mTru (truthD x) b (mRet (some x))
def mOr (a b : M) : M := mBind a fun x => mTru (truthD x) (mRet (some x)) b
def mIf (c a b : M) : M := mBind c fun x => mTru (truthD x) a b
def pAnd (a b : P) : P := pBind a fun x => pTru (truthD x) b (fun _ _ => some x)
def pOr (a b : P) : P := pBind a fun x => pTru (truthD x) (fun _ _ => some x) b
def pIf (c a b : P) : P := pBind c fun x => pTru (truthD x) a b
theorem lift_and (a b : P) : mAnd (lift a) (lift b) = lift (pAnd a b) := lift_bind _ _ _ fun x => by rw [lift_ret, lift_tru]
theorem lift_or (a b : P) : mOr (lift a) (lift b) = lift (pOr a b) := lift_bind _ _ _ fun x => by rw [lift_ret, lift_tru]
theorem lift_if (c a b : P) : mIf (lift c) (lift a) (lift b) = lift (pIf c a b) := lift_bind _ _ _ fun x => by rw [lift_tru]
section
variable {X : Cx} {EX : EXP} {a b c : Expr} {rest : List Expr} {ma mb mc : M} {pos : Pos}
theorem truK {K : KF} {w : Wd} {σ : St} {env : Env} {v : Vl} {d : D} {t : Bool} (s : StR K σ env w) (r : Rp w.V v d) (h : truthD d = some t) : TruV K v w.H t := tru_of (r.mono s.vh) h
theorem x_one {op} {e : Expr} (h : PE X e (tX X.K EX ma)) : PE X (.BoolOp op [e] pos) (tX X.K EX ma) := pe_one h
theorem x_and (ha : PE X a (tX X.K EX ma)) (hb : PE X (.BoolOp .And (b :: rest) pos) (tX X.K EX mb)) : PE X (.BoolOp .And (a :: b :: rest) pos) (tX X.K EX (mAnd ma mb)) :=
  (pe_andT ha hb).imp fun σ H Q ⟨w, env, hw, s, p⟩ => by
    subst hw
    refine tX_bind s p fun dx vx w1 g1 s1 r1 p1 => ?_
    cases ht : truthD dx with
    | none => rw [ht] at p1; exact p1.elim
    | some t =>
      rw [ht] at p1
      refine ⟨t, truK s1 r1 ht, ?_⟩
      cases t with
      | true => rw [if_pos rfl]; exact ⟨w1, env, rfl, s1, p1⟩
      | false =>
        rw [if_neg Bool.false_ne_true]
        obtain ⟨d, hd, k⟩ := post_ret s1 p1
        cases hd
        exact k _ _ _ (Ext.refl s1.vh) r1
theorem x_or (ha : PE X a (tX X.K EX ma)) (hb : PE X (.BoolOp .Or (b :: rest) pos) (tX X.K EX mb)) : PE X (.BoolOp .Or (a :: b :: rest) pos) (tX X.K EX (mOr ma mb)) :=
  (pe_orT ha hb).imp fun σ H Q ⟨w, env, hw, s, p⟩ => by
    subst hw
    refine tX_bind s p fun dx vx w1 g1 s1 r1 p1 => ?_
    cases ht : truthD dx with
    | none => rw [ht] at p1; exact p1.elim
    | some t =>
      rw [ht] at p1
      refine ⟨t, truK s1 r1 ht, ?_⟩
      cases t with
      | true =>
        rw [if_pos rfl]
        obtain ⟨d, hd, k⟩ := post_ret s1 p1
        cases hd
        exact k _ _ _ (Ext.refl s1.vh) r1
      | false => rw [if_neg Bool.false_ne_true]; exact ⟨w1, env, rfl, s1, p1⟩
theorem t_val (ha : PE X a (tX X.K EX ma)) (he : ∀ whole, isTrue a X.env whole = (do let v ← whole; standAt a.pos; holding [v] (truthy v)) := by intro _; rfl) : PT X a (tXT X.K EX ma) :=
  (pt_truth ha he).imp fun σ H Q ⟨w, env, hw, s, p⟩ => by
    subst hw
    refine ⟨w, env, rfl, s, ?_⟩
    cases h : ma env w.bx with
    | none => rw [h] at p; exact p.elim
    | some q =>
      obtain ⟨r, b⟩ := q
      rw [h] at p
      cases r with
      | ok d =>
        obtain ⟨t, ht, k⟩ := p
        exact fun v w' hb g e r => ⟨t, truK e r ht, k w' hb g e⟩
      | exc c d => exact p
theorem tXT_bind {K : KF} {Q : Bool → Hp → Prop} {R : Bool → Hp → Prop} {σ : St} {env : Env} {w : Wd} {m : M} {f : D → M} (e : StR K σ env w) (p : PostT K EX Q σ env w (mBind m f env w.bx))
    (ht : ∀ d, truthD d = none → f d = fun _ _ => none)
    (k : ∀ d t w', truthD d = some t → Gr w w' → StR K σ env w' → PostT K EX Q σ env w' (f d env w'.bx) → R t w'.H) : tXT K EX m σ w.H R := by
  refine ⟨w, env, rfl, e, ?_⟩
  unfold mBind at p
  cases h : m env w.bx with
  | none => rw [h] at p; exact p.elim
  | some q =>
    obtain ⟨r, b⟩ := q
    rw [h] at p
    cases r with
    | ok d =>
      cases hd : truthD d with
      | none =>
        have p' : PostT K EX Q σ env w (f d env b) := p
        rw [ht d hd] at p'
        exact p'.elim
      | some t => exact ⟨t, hd, fun w' hb g e => by subst hb; exact k d t w' hd g e (PostT.grow g p)⟩
    | exc c d => exact p
theorem postT_ret {K : KF} {Q : Bool → Hp → Prop} {σ : St} {env : Env} {w : Wd} {d : D} {t : Bool} (e : StR K σ env w) (ht : truthD d = some t) (p : PostT K EX Q σ env w (mRet (some d) env w.bx)) : Q t w.H := by
  obtain ⟨b, hb, k⟩ := p
  rw [ht] at hb
  cases hb
  exact k w rfl (Gr.refl w) e
theorem tw_and1 (ha : PT X a (tXT X.K EX ma)) : PW X (.BoolOp .And [a] pos) (tXT X.K EX ma) := pw_and1 ha
theorem tw_or1 (ha : PT X a (tXT X.K EX ma)) : PW X (.BoolOp .Or [a] pos) (tXT X.K EX ma) := pw_or1 ha
theorem tw_and (ha : PT X a (tXT X.K EX ma)) (hb : PW X (.BoolOp .And (b :: rest) pos) (tXT X.K EX mb)) : PW X (.BoolOp .And (a :: b :: rest) pos) (tXT X.K EX (mAnd ma mb)) :=
  (pw_and ha hb).imp fun σ H Q ⟨w, env, hw, s, p⟩ => by
    subst hw
    refine tXT_bind s p (fun d hd => by rw [hd]; rfl) fun d t w1 ht g1 s1 p1 => ?_
    rw [ht] at p1
    cases t with
    | true => rw [if_pos rfl]; exact ⟨w1, env, rfl, s1, p1⟩
    | false => rw [if_neg Bool.false_ne_true]; exact postT_ret s1 ht p1
theorem tw_or (ha : PT X a (tXT X.K EX ma)) (hb : PW X (.BoolOp .Or (b :: rest) pos) (tXT X.K EX mb)) : PW X (.BoolOp .Or (a :: b :: rest) pos) (tXT X.K EX (mOr ma mb)) :=
  (pw_or ha hb).imp fun σ H Q ⟨w, env, hw, s, p⟩ => by
    subst hw
    refine tXT_bind s p (fun d hd => by rw [hd]; rfl) fun d t w1 ht g1 s1 p1 => ?_
    rw [ht] at p1
    cases t with
    | true => rw [if_pos rfl]; exact postT_ret s1 ht p1
    | false => rw [if_neg Bool.false_ne_true]; exact ⟨w1, env, rfl, s1, p1⟩
theorem t_not (ha : PT X a (tXT X.K EX ma)) : PT X (.UnaryOp .Not a pos) (tXT X.K EX (mUn dNot ma)) :=
  (pt_not ha).imp fun σ H Q ⟨w, env, hw, s, p⟩ => by
    subst hw
    refine tXT_bind s p (fun d hd => by unfold dNot; rw [hd]; rfl) fun d t w1 ht g1 s1 p1 => ?_
    unfold dNot at p1
    rw [ht] at p1
    exact postT_ret s1 rfl p1
theorem x_if (hc : PT X c (tXT X.K EX mc)) (ha : PE X a (tX X.K EX ma)) (hb : PE X b (tX X.K EX mb)) : PE X (.IfExp c a b pos) (tX X.K EX (mIf mc ma mb)) :=
  (pe_ifExp hc ha hb).imp fun σ H Q ⟨w, env, hw, s, p⟩ => by
    subst hw
    refine ⟨w, env, rfl, s, ?_⟩
    unfold mIf mBind at p
    cases h : mc env w.bx with
    | none => rw [h] at p; exact p.elim
    | some q =>
      obtain ⟨r, b⟩ := q
      rw [h] at p
      cases r with
      | ok d =>
        cases ht : truthD d with
        | none =>
          have p' : Post X.K EX Q σ env w (mTru (truthD d) ma mb env b) := p
          rw [ht] at p'
          exact p'.elim
        | some t =>
          have p' : Post X.K EX Q σ env w (mTru (truthD d) ma mb env b) := p
          rw [ht] at p'
          refine ⟨t, ht, fun w' hb g e => ?_⟩
          subst hb
          cases t with
          | true => rw [if_pos rfl]; exact ⟨w', env, rfl, e, Post.grow g p'⟩
          | false => rw [if_neg Bool.false_ne_true]; exact ⟨w', env, rfl, e, Post.grow g p'⟩
      | exc c d => exact p
end
end DL
set_option Elab.async false
set_option linter.all false
set_option maxRecDepth 100000
set_option maxHeartbeats 1000000
namespace DL
open PySem PySem.Spec PyProof.Rows
open L2 hiding St V
abbrev SZ : Nat := 16777216
theorem szLine {n : Nat} (h : n ≤ SZ) : n ≤ sizeLine := by rw [sizeLine_eq]; exact h
def dAdd : D → D → Option D
  | .int i, .int j => some (.int (i + j))
  | .list xs, .list ys => if xs.length + ys.length ≤ SZ then some (.list (xs ++ ys)) else none
  | .tuple xs, .tuple ys => if xs.length + ys.length ≤ SZ then some (.tuple (xs ++ ys)) else none
  | .str x, .str y => if x.length + y.length ≤ SZ then some (.str (x ++ y)) else none
  | .int i, .bool b => some (.int (i + b2i b))
  | _, _ => none
def dSub : D → D → Option D
  | .int i, .int j => some (.int (i - j))
  | _, _ => none
def mulOk (i j : Int) : Bool := decide (i.natAbs < 2 ^ 64) || decide (j.natAbs < 2 ^ 64) || decide (i.natAbs.log2 + j.natAbs.log2 < 1000000)
def dMul : D → D → Option D
  | .int i, .int j => if mulOk i j = true then some (.int (i * j)) else none
  | .list xs, .int k => if decide (-(2 ^ 63) ≤ k) && decide (k < 2 ^ 63) && decide (xs.length * k.toNat ≤ SZ) then some (.list (List.replicate k.toNat xs).flatten) else none
  | .tuple xs, .int k => if decide (xs ≠ []) && decide (2 ≤ k) && decide (k ≤ 1000) && decide (xs.length ≤ 1000) then some (.tuple (List.replicate k.toNat xs).flatten) else none
  | _, _ => none
def dFdiv : D → D → Option D
  | .int i, .int j => if decide (0 < j) && decide (j.natAbs.log2 < 9000) then some (.int (i / j)) else none
  | _, _ => none
def dMod : D → D → Option D
  | .int i, .int j => if 0 < j then some (.int (i % j)) else none
  | _, _ => none
def dPow : D → D → Option D
  | .int i, .int j => if decide (0 ≤ j) && decide (j ≤ 1000000) && decide (i.natAbs < 2 ^ 64) then some (.int (i ^ j.toNat)) else none
  | _, _ => none
def dNeg : D → Option D
  | .int i => some (.int (-i))
  | _ => none
def okD (d : D) : Bool := plainD d && SeqAt.shaped d
def eqS : D → D → Bool
  | .none, d => match d with
    | .none => true
    | _ => false
  | .bool a, d => match d with
    | .bool b => a == b
    | .int j => (if a then 1 else 0) == j
    | _ => false
  | .int i, d => match d with
    | .bool b => i == (if b then 1 else 0)
    | .int j => i == j
    | _ => false
  | .str x, d => match d with
    | .str y => x == y
    | _ => false
  | .list xs, d => match d with
    | .list ys => eqL xs ys
    | _ => false
  | .tuple xs, d => match d with
    | .tuple ys => eqL xs ys
    | _ => false
  | .dict _, _ => false
where eqL : List D → List D → Bool
  | [], ys => ys.isEmpty
  | x :: xs, ys => match ys with
    | y :: ys => eqS x y && eqL xs ys
    | [] => false
mutual
theorem eqS_eq : ∀ x y : D, eqS x y = PyData.eqv x y
  | .none, y => by cases y <;> simp [eqS, PyData.eqv]
  | .bool a, y => by cases y <;> simp [eqS, PyData.eqv]
  | .int a, y => by cases y <;> simp [eqS, PyData.eqv]
  | .str a, y => by cases y <;> simp [eqS, PyData.eqv]
  | .list xs, y => by
    cases y with
    | list ys => rw [eqS, PyData.eqv]; exact eqL_eq xs ys
    | _ => simp [eqS, PyData.eqv]
  | .tuple xs, y => by
    cases y with
    | tuple ys => rw [eqS, PyData.eqv]; exact eqL_eq xs ys
    | _ => simp [eqS, PyData.eqv]
  | .dict _, y => by cases y <;> simp [eqS, PyData.eqv]
theorem eqL_eq : ∀ xs ys : List D, eqS.eqL xs ys = PyData.eqvAll xs ys
  | [], [] => by simp [eqS.eqL, PyData.eqvAll]
  | [], _ :: _ => by simp [eqS.eqL, PyData.eqvAll]
  | x :: xs, [] => by simp [eqS.eqL, PyData.eqvAll]
  | x :: xs, y :: ys => by
    rw [eqS.eqL, PyData.eqvAll, eqS_eq x y, eqL_eq xs ys]
end
def bothStr : D → D → Option (Str × Str)
  | .str a, .str b => some (a, b)
  | _, _ => none
theorem bothStr_some {x y : D} {p : Str × Str} (h : bothStr x y = some p) : x = .str p.1 ∧ y = .str p.2 := by
  unfold bothStr at h
  split at h
  · cases h; exact ⟨rfl, rfl⟩
  · cases h
def dEq (x y : D) : Option D := match bothStr x y with
  | some p => some (.bool (p.1 == p.2))
  | none => if okD x && okD y then some (.bool (eqS x y)) else none
def dNe (x y : D) : Option D := match bothStr x y with
  | some p => some (.bool (!(p.1 == p.2)))
  | none => if okD x && okD y then some (.bool (!eqS x y)) else none
def isNon : D → Bool
  | .none => true
  | _ => false
def dIs (x y : D) : Option D := if isNon y then some (.bool (isNon x)) else none
def dIsNot (x y : D) : Option D := if isNon y then some (.bool (!isNon x)) else none
def asInts : List D → Option (List Int)
  | [] => some []
  | .int i :: r => (asInts r).map (i :: ·)
  | _ => none
def dLt : D → D → Option D
  | .int i, .int j => some (.bool (decide (i < j)))
  | .tuple xs, .tuple ys => (asInts xs).bind fun a => (asInts ys).map fun b => .bool (HT.lexLt a b)
  | _, _ => none
def dLe : D → D → Option D
  | .int i, .int j => some (.bool (decide (i ≤ j)))
  | _, _ => none
def dGt : D → D → Option D
  | .int i, .int j => some (.bool (decide (j < i)))
  | _, _ => none
def dGe : D → D → Option D
  | .int i, .int j => some (.bool (decide (j ≤ i)))
  | _, _ => none
def flatD : D → Bool
  | .none | .bool _ | .int _ | .str _ => true
  | _ => false
def keyD : D → Option Key
  | .int i => some (.inl i)
  | .str x => some (.inr x)
  | _ => none
def inD (x : D) : D → Option Bool
  | .list ys => if okD x && okD (.list ys) then some (ys.any fun z => PyData.eqv z x) else none
  | .tuple ys => if flatD x && ys.all flatD then some (ys.any fun z => PyData.eqv z x) else none
  | .str y => match x with
    | .str x => some (!(Builtin.Str.occurrences y x 0 y.length 1).isEmpty)
    | _ => none
  | .dict _ => none
  | _ => none
def dIn (x y : D) : Option D := (inD x y).map .bool
def dNotIn (x y : D) : Option D := (inD x y).map fun b => .bool (!b)
section
variable {X : Cx}
theorem ints_of {V : Hp} : ∀ {ds : List D} {xs : List Vl} {ns : List Int}, RpL V xs ds → asInts ds = some ns → xs = ns.map .int
  | [], _, _, .nil, h => by cases h; rfl
  | d :: ds, _, ns, .cons r rs, h => by
    cases d with
    | int i =>
      cases r
      cases q : asInts ds with
      | none => simp [asInts, q] at h
      | some ms =>
        simp [asInts, q] at h
        subst h
        rw [ints_of rs q]; rfl
    | _ => cases h
theorem op_addD : OpR X (binaryOp .Add) (rD dAdd) := by
  intro pins s σ H x y v u Q I rx ry ⟨V, dx, dy, d, sb, hx, hy, hf, k⟩
  unfold dAdd at hf
  split at hf
  · cases hf; cases hx; cases hy
    exact op_add pins s σ H _ _ v u Q I rx ry ⟨_, _, rfl, rfl, k _ _ _ (Ext.refl sb) (.int _)⟩
  · split at hf
    · rename_i hz
      cases hf
      cases hx with
      | lst ha ra => cases hy with
        | lst hb rb =>
          exact op_cat pins s σ H _ _ v u Q I rx ry ⟨_, _, _, _, rfl, rfl, sb _ _ ha, sb _ _ hb, by rw [ra.length, rb.length]; exact szLine hz, fun p hp => k _ _ _ (Ext.new sb hp) (.lst upd_same ((ra.append rb).mono (Ext.new sb hp).v))⟩
    · cases hf
  · split at hf
    · rename_i hz
      cases hf
      cases hx with
      | tup ha ra => cases hy with
        | tup hb rb =>
          refine op_catA pins s σ H _ _ v u Q I rx ry ⟨_, _, _, _, rfl, rfl, SqT.of (sb _ _ ha), SqT.of (sb _ _ hb), by rw [ra.length, rb.length]; exact szLine hz, fun e => ?_, fun _ e => ?_, fun _ _ p hp => ?_⟩
          · subst e; cases ra
            exact k _ _ _ (Ext.refl sb) (.tup hb rb)
          · subst e; cases rb
            rw [List.append_nil] at k
            exact k _ _ _ (Ext.refl sb) (.tup ha ra)
          · exact k _ _ _ (Ext.new sb hp) (.tup upd_same ((ra.append rb).mono (Ext.new sb hp).v))
    · cases hf
  · split at hf
    · rename_i hz
      cases hf; cases hx; cases hy
      exact op_add_str pins s σ H _ _ v u Q I rx ry ⟨_, _, rfl, rfl, szLine hz, k _ _ _ (Ext.refl sb) (.str _)⟩
    · cases hf
  · cases hf; cases hx; cases hy
    exact op_add_ib pins s σ H _ _ v u Q I rx ry ⟨_, _, rfl, rfl, k _ _ _ (Ext.refl sb) (.int _)⟩
  · cases hf
theorem natAbs_lt {i : Int} (h : i.natAbs < 2 ^ 64) : -(2 ^ 64) < i ∧ i < 2 ^ 64 := by omega
theorem RpL.rep {V : Hp} {xs : List Vl} {ds : List D} (r : RpL V xs ds) : ∀ n : Nat, RpL V (List.replicate n xs).flatten (List.replicate n ds).flatten
  | 0 => .nil
  | n + 1 => by
    rw [List.replicate_succ, List.replicate_succ, List.flatten_cons, List.flatten_cons]
    exact r.append (RpL.rep r n)
theorem op_mulD : OpR X (binaryOp .Mult) (rD dMul) := by
  intro pins s σ H x y v u Q I rx ry ⟨V, dx, dy, d, sb, hx, hy, hf, k⟩
  unfold dMul at hf
  split at hf
  · split at hf
    · rename_i hz
      cases hf; cases hx; cases hy
      unfold mulOk at hz
      rw [Bool.or_eq_true, Bool.or_eq_true, decide_eq_true_eq, decide_eq_true_eq, decide_eq_true_eq] at hz
      rcases hz with (hz | hz) | hz
      · exact op_mul pins s σ H _ _ v u Q I rx ry ⟨_, _, rfl, rfl, .inl (natAbs_lt hz), k _ _ _ (Ext.refl sb) (.int _)⟩
      · exact op_mul pins s σ H _ _ v u Q I rx ry ⟨_, _, rfl, rfl, .inr (natAbs_lt hz), k _ _ _ (Ext.refl sb) (.int _)⟩
      · exact op_mulW pins s σ H _ _ v u Q I rx ry ⟨_, _, rfl, rfl, hz, k _ _ _ (Ext.refl sb) (.int _)⟩
    · cases hf
  · split at hf
    · rename_i hz
      cases hf
      rw [Bool.and_eq_true, Bool.and_eq_true, decide_eq_true_eq, decide_eq_true_eq, decide_eq_true_eq] at hz
      cases hy
      cases hx with
      | lst ha ra =>
        exact op_rep pins s σ H _ _ v u Q I rx ry ⟨_, _, _, rfl, rfl, sb _ _ ha, hz.1.1, hz.1.2, by rw [ra.length]; exact szLine hz.2, fun p hp => k _ _ _ (Ext.new sb hp) (.lst upd_same ((RpL.rep ra _).mono (Ext.new sb hp).v))⟩
    · cases hf
  · split at hf
    · rename_i hz
      cases hf
      rw [Bool.and_eq_true, Bool.and_eq_true, Bool.and_eq_true, decide_eq_true_eq, decide_eq_true_eq, decide_eq_true_eq, decide_eq_true_eq] at hz
      cases hy
      cases hx with
      | tup ha ra =>
        refine op_repT pins s σ H _ _ v u Q I rx ry ⟨_, _, _, rfl, rfl, SqT.of (sb _ _ ha), ?_, hz.1.1.2, hz.1.2, by rw [ra.length]; exact hz.2, fun p hp => k _ _ _ (Ext.new sb hp) (.tup upd_same ((RpL.rep ra _).mono (Ext.new sb hp).v))⟩
        intro e; subst e; cases ra; exact hz.1.1.1 rfl
    · cases hf
  · cases hf
theorem op_fdivD : OpR X (binaryOp .FloorDiv) (rD dFdiv) := by
  intro pins s σ H x y v u Q I rx ry ⟨V, dx, dy, d, sb, hx, hy, hf, k⟩
  unfold dFdiv at hf
  split at hf
  · split at hf
    · rename_i hz
      cases hf; cases hx; cases hy
      rw [Bool.and_eq_true, decide_eq_true_eq, decide_eq_true_eq] at hz
      exact op_fdivW pins s σ H _ _ v u Q I rx ry ⟨_, _, rfl, rfl, hz, k _ _ _ (Ext.refl sb) (.int _)⟩
    · cases hf
  · cases hf
theorem op_modD : OpR X (binaryOp .Mod) (rD dMod) := by
  intro pins s σ H x y v u Q I rx ry ⟨V, dx, dy, d, sb, hx, hy, hf, k⟩
  unfold dMod at hf
  split at hf
  · split at hf
    · rename_i hz
      cases hf; cases hx; cases hy
      exact op_mod pins s σ H _ _ v u Q I rx ry ⟨_, _, rfl, rfl, hz, k _ _ _ (Ext.refl sb) (.int _)⟩
    · cases hf
  · cases hf
theorem op_powD : OpR X (binaryOp .Pow) (rD dPow) := by
  intro pins s σ H x y v u Q I rx ry ⟨V, dx, dy, d, sb, hx, hy, hf, k⟩
  unfold dPow at hf
  split at hf
  · split at hf
    · rename_i hz
      cases hf; cases hx; cases hy
      rw [Bool.and_eq_true, Bool.and_eq_true, decide_eq_true_eq, decide_eq_true_eq, decide_eq_true_eq] at hz
      exact op_pow pins s σ H _ _ v u Q I rx ry ⟨_, _, rfl, rfl, ⟨hz.1.1, hz.1.2, hz.2⟩, k _ _ _ (Ext.refl sb) (.int _)⟩
    · cases hf
  · cases hf
theorem un_negD : UnR X (unaryOp .USub) (uD dNeg) := by
  intro pins s σ H x v Q I rx ⟨V, dx, d, sb, hx, hf, k⟩
  unfold dNeg at hf
  split at hf
  · cases hf; cases hx
    exact un_neg pins s σ H _ v Q I rx ⟨_, rfl, k _ _ _ (Ext.refl sb) (.int _)⟩
  · cases hf
theorem okD_dp {K : KF} {V H : Hp} {v : Vl} {d : D} (sb : Sub V H) (r : Rp V v d) (h : okD d = true) : Dp K H v d ∧ SeqAt.shaped d = true := by
  unfold okD at h
  rw [Bool.and_eq_true] at h
  exact ⟨(r.mono sb).dp h.1, h.2⟩
theorem op_eqDD (hu : X.A.units + 64 < cLine) : OpR X (compareOp .Eq) (rD dEq) := by
  intro pins s σ H x y v u Q I rx ry ⟨V, dx, dy, d, sb, hx, hy, hf, k⟩
  unfold dEq at hf
  split at hf
  · rename_i p hp
    cases hf
    obtain ⟨rfl, rfl⟩ := bothStr_some hp
    cases hx
    cases hy
    refine op_eq pins s σ H _ _ v u Q I rx ry ⟨rfl, ?_⟩
    rw [dec_str]
    exact k _ _ _ (Ext.refl sb) (.bl _)
  split at hf
  · rename_i hz
    cases hf
    rw [Bool.and_eq_true] at hz
    obtain ⟨p1, q1⟩ := okD_dp (K := X.K) sb hx hz.1
    obtain ⟨p2, q2⟩ := okD_dp (K := X.K) sb hy hz.2
    exact op_eqD hu pins s σ H _ _ v u Q I rx ry ⟨_, _, p1, p2, q1, q2, by rw [← eqS_eq]; exact k _ _ _ (Ext.refl sb) (.bl _)⟩
  · cases hf
theorem op_neDD (hu : X.A.units + 64 < cLine) : OpR X (compareOp .NotEq) (rD dNe) := by
  intro pins s σ H x y v u Q I rx ry ⟨V, dx, dy, d, sb, hx, hy, hf, k⟩
  unfold dNe at hf
  split at hf
  · rename_i p hp
    cases hf
    obtain ⟨rfl, rfl⟩ := bothStr_some hp
    cases hx
    cases hy
    refine op_ne pins s σ H _ _ v u Q I rx ry ⟨rfl, ?_⟩
    rw [dec_str]
    exact k _ _ _ (Ext.refl sb) (.bl _)
  split at hf
  · rename_i hz
    cases hf
    rw [Bool.and_eq_true] at hz
    obtain ⟨p1, q1⟩ := okD_dp (K := X.K) sb hx hz.1
    obtain ⟨p2, q2⟩ := okD_dp (K := X.K) sb hy hz.2
    exact op_neD hu pins s σ H _ _ v u Q I rx ry ⟨_, _, p1, p2, q1, q2, by rw [← eqS_eq]; exact k _ _ _ (Ext.refl sb) (.bl _)⟩
  · cases hf
theorem isNon_iff {V : Hp} {v : Vl} {d : D} (r : Rp V v d) : decide (v = .non) = isNon d := by
  cases r <;> simp [isNon]
theorem op_isD : OpR X (compareOp .Is) (rD dIs) := by
  intro pins s σ H x y v u Q I rx ry ⟨V, dx, dy, d, sb, hx, hy, hf, k⟩
  unfold dIs at hf
  split at hf
  · rename_i hz
    cases hf
    have hy' : y = .non := by
      have := isNon_iff hy
      rw [hz] at this
      exact of_decide_eq_true this
    exact op_isN pins s σ H _ _ v u Q I rx ry ⟨hy', by rw [isNon_iff hx]; exact k _ _ _ (Ext.refl sb) (.bl _)⟩
  · cases hf
theorem op_isNotD : OpR X (compareOp .IsNot) (rD dIsNot) := by
  intro pins s σ H x y v u Q I rx ry ⟨V, dx, dy, d, sb, hx, hy, hf, k⟩
  unfold dIsNot at hf
  split at hf
  · rename_i hz
    cases hf
    have hy' : y = .non := by
      have := isNon_iff hy
      rw [hz] at this
      exact of_decide_eq_true this
    exact op_notN pins s σ H _ _ v u Q I rx ry ⟨hy', by rw [isNon_iff hx]; exact k _ _ _ (Ext.refl sb) (.bl _)⟩
  · cases hf
theorem op_ltD (hu : X.A.units < cLine) : OpR X (compareOp .Lt) (rD dLt) := by
  intro pins s σ H x y v u Q I rx ry ⟨V, dx, dy, d, sb, hx, hy, hf, k⟩
  unfold dLt at hf
  split at hf
  · cases hf; cases hx; cases hy
    exact op_lt pins s σ H _ _ v u Q I rx ry ⟨_, _, rfl, rfl, k _ _ _ (Ext.refl sb) (.bl _)⟩
  · rename_i xs ys
    cases h1 : asInts xs with
    | none => rw [h1] at hf; cases hf
    | some ns =>
      cases h2 : asInts ys with
      | none => rw [h1, h2] at hf; cases hf
      | some ms =>
        rw [h1, h2] at hf
        cases hf
        cases hx with
        | tup ha ra => cases hy with
          | tup hb rb =>
            have e1 := ints_of ra h1
            have e2 := ints_of rb h2
            subst e1; subst e2
            exact op_ltT hu pins s σ H _ _ v u Q I rx ry ⟨_, _, _, _, rfl, rfl, SqT.of (sb _ _ ha), SqT.of (sb _ _ hb), k _ _ _ (Ext.refl sb) (.bl _)⟩
  · cases hf
theorem op_leD : OpR X (compareOp .LtE) (rD dLe) := by
  intro pins s σ H x y v u Q I rx ry ⟨V, dx, dy, d, sb, hx, hy, hf, k⟩
  unfold dLe at hf
  split at hf
  · cases hf; cases hx; cases hy
    exact op_le pins s σ H _ _ v u Q I rx ry ⟨_, _, rfl, rfl, k _ _ _ (Ext.refl sb) (.bl _)⟩
  · cases hf
theorem op_gtD : OpR X (compareOp .Gt) (rD dGt) := by
  intro pins s σ H x y v u Q I rx ry ⟨V, dx, dy, d, sb, hx, hy, hf, k⟩
  unfold dGt at hf
  split at hf
  · cases hf; cases hx; cases hy
    exact op_gt pins s σ H _ _ v u Q I rx ry ⟨_, _, rfl, rfl, k _ _ _ (Ext.refl sb) (.bl _)⟩
  · cases hf
theorem op_geD : OpR X (compareOp .GtE) (rD dGe) := by
  intro pins s σ H x y v u Q I rx ry ⟨V, dx, dy, d, sb, hx, hy, hf, k⟩
  unfold dGe at hf
  split at hf
  · cases hf; cases hx; cases hy
    exact op_ge pins s σ H _ _ v u Q I rx ry ⟨_, _, rfl, rfl, k _ _ _ (Ext.refl sb) (.bl _)⟩
  · cases hf
theorem flat_of {V : Hp} {v : Vl} {d : D} (r : Rp V v d) (h : flatD d = true) : flatV v = true := by
  cases r <;> first | rfl | cases h
theorem eqV_of {V : Hp} {v w : Vl} {d e : D} (r : Rp V v d) (q : Rp V w e) (h : flatD d = true) (k : flatD e = true) : eqV v w = PyData.eqv d e := by
  cases r <;> cases q <;> first | (cases h; done) | (cases k; done) | (simp [eqV, PyData.eqv])
theorem all_flat {V : Hp} : ∀ {vs : List Vl} {ds : List D}, RpL V vs ds → ds.all flatD = true → vs.all flatV = true
  | _, _, .nil, _ => rfl
  | _, _, .cons r rs, h => by
    rw [List.all_cons, Bool.and_eq_true] at h
    rw [List.all_cons, flat_of r h.1, all_flat rs h.2]; rfl
theorem inV_of {V : Hp} {x : Vl} {dx : D} (hx : Rp V x dx) (fx : flatD dx = true) : ∀ {vs : List Vl} {ds : List D}, RpL V vs ds → ds.all flatD = true → inV x vs = ds.any fun z => PyData.eqv z dx
  | _, _, .nil, _ => rfl
  | _, _, .cons r rs, h => by
    rw [List.all_cons, Bool.and_eq_true] at h
    have ih := inV_of hx fx rs h.2
    unfold inV at ih ⊢
    rw [List.any_cons, List.any_cons, ih, eqV_of r hx h.1 fx]
theorem op_inDD (hu : X.A.units + 65 < cLine) : OpR X (compareOp .In) (rD dIn) := by
  intro pins s σ H x y v u Q I rx ry ⟨V, dx, dy, d, sb, hx, hy, hf, k⟩
  unfold dIn at hf
  cases hi : inD dx dy with
  | none => rw [hi] at hf; cases hf
  | some b =>
    rw [hi] at hf
    cases hf
    unfold inD at hi
    split at hi
    · split at hi
      · rename_i hz
        cases hi
        rw [Bool.and_eq_true] at hz
        obtain ⟨p1, q1⟩ := okD_dp (K := X.K) sb hx hz.1
        obtain ⟨p2, q2⟩ := okD_dp (K := X.K) sb hy hz.2
        exact op_inD hu pins s σ H _ _ v u Q I rx ry ⟨_, _, p1, p2, q1, q2, k _ _ _ (Ext.refl sb) (.bl _)⟩
      · cases hi
    · split at hi
      · rename_i hz
        cases hi
        rw [Bool.and_eq_true] at hz
        cases hy with
        | tup ha ra =>
          refine op_in_seq pins s σ H _ _ v u Q I rx ry ⟨_, _, rfl, .inr (SqT.of (sb _ _ ha)), flat_of hx hz.1, all_flat ra hz.2, ?_⟩
          rw [if_neg Bool.false_ne_true, inV_of hx hz.1 ra hz.2]
          exact k _ _ _ (Ext.refl sb) (.bl _)
      · cases hi
    · split at hi
      · cases hi; cases hx; cases hy
        exact op_in_str pins s σ H _ _ v u Q I rx ry ⟨_, _, rfl, rfl, k _ _ _ (Ext.refl sb) (.bl _)⟩
      · cases hi
    · cases hi
    · cases hi
theorem op_notInDD (hu : X.A.units + 65 < cLine) : OpR X (compareOp .NotIn) (rD dNotIn) := by
  intro pins s σ H x y v u Q I rx ry ⟨V, dx, dy, d, sb, hx, hy, hf, k⟩
  unfold dNotIn at hf
  cases hi : inD dx dy with
  | none => rw [hi] at hf; cases hf
  | some b =>
    rw [hi] at hf
    cases hf
    unfold inD at hi
    split at hi
    · split at hi
      · rename_i hz
        cases hi
        rw [Bool.and_eq_true] at hz
        obtain ⟨p1, q1⟩ := okD_dp (K := X.K) sb hx hz.1
        obtain ⟨p2, q2⟩ := okD_dp (K := X.K) sb hy hz.2
        exact op_notInD hu pins s σ H _ _ v u Q I rx ry ⟨_, _, p1, p2, q1, q2, k _ _ _ (Ext.refl sb) (.bl _)⟩
      · cases hi
    · split at hi
      · rename_i hz
        cases hi
        rw [Bool.and_eq_true] at hz
        cases hy with
        | tup ha ra =>
          refine op_notIn_seq pins s σ H _ _ v u Q I rx ry ⟨_, _, rfl, .inr (SqT.of (sb _ _ ha)), flat_of hx hz.1, all_flat ra hz.2, ?_⟩
          rw [if_pos rfl, inV_of hx hz.1 ra hz.2]
          exact k _ _ _ (Ext.refl sb) (.bl _)
      · cases hi
    · split at hi
      · cases hi; cases hx; cases hy
        exact op_notIn_str pins s σ H _ _ v u Q I rx ry ⟨_, _, rfl, rfl, k _ _ _ (Ext.refl sb) (.bl _)⟩
      · cases hi
    · cases hi
    · cases hi
end
end DL
set_option Elab.async false
set_option linter.all false
set_option maxRecDepth 100000
set_option maxHeartbeats 1000000
namespace DL
open PySem PySem.Spec PyProof.Rows
open L2 hiding St V
def keyG : D → Option (Sum Key (List Key))
  | .int i => some (.inl (.inl i))
  | .str x => some (.inl (.inr x))
  | .tuple xs => (keys xs).map .inr
  | _ => none
where keys : List D → Option (List Key)
  | [] => some []
  | x :: r => (keyD x).bind fun k => (keys r).map (k :: ·)
def lookD (kvs : List (D × D)) (k : D) : Option D := (kvs.find? fun p => decide (keyG p.1 = keyG k)).map (·.2)
def putD (kvs : List (D × D)) (k v : D) : List (D × D) :=
  if (kvs.any fun p => decide (keyG p.1 = keyG k)) = true then kvs.map (fun p => if keyG p.1 = keyG k then (p.1, v) else p) else kvs ++ [(k, v)]
def dropD (kvs : List (D × D)) (k : D) : List (D × D) := kvs.filter fun p => decide (keyG p.1 ≠ keyG k)
theorem keyD_kD (k : Key) : keyD (kD k) = some k := by cases k <;> rfl
theorem keyG_kD (k : Key) : keyG (kD k) = some (.inl k) := by cases k <;> rfl
theorem keys_kD : ∀ ks : List Key, keyG.keys (ks.map kD) = some ks
  | [] => rfl
  | k :: r => by
    show ((keyD (kD k)).bind fun k => (keyG.keys (r.map kD)).map (k :: ·)) = _
    rw [keyD_kD, keys_kD r]; rfl
theorem keyG_kT (ks : List Key) : keyG (kT ks) = some (.inr ks) := by
  show (keyG.keys (ks.map kD)).map Sum.inr = _
  rw [keys_kD]; rfl
theorem keyD_inv {d : D} {k : Key} (h : keyD d = some k) : d = kD k := by
  cases d <;> first | (cases h; rfl) | cases h
theorem keys_inv : ∀ {ds : List D} {ks : List Key}, keyG.keys ds = some ks → ds = ks.map kD
  | [], ks, h => by cases h; rfl
  | d :: ds, ks, h => by
    have h' : ((keyD d).bind fun k => (keyG.keys ds).map (k :: ·)) = some ks := h
    cases h1 : keyD d with
    | none => rw [h1] at h'; cases h'
    | some k =>
      cases h2 : keyG.keys ds with
      | none => rw [h1, h2] at h'; cases h'
      | some ms =>
        rw [h1, h2] at h'
        cases h'
        rw [keyD_inv h1, keys_inv h2]; rfl
theorem RpK.val {V : Hp} {k : Key} : ∀ {kvs : List (Key × Vl)} {ds : List (D × D)}, RpK V kvs ds → (valV kvs k = none ∧ lookD ds (kD k) = none) ∨ ∃ v d, valV kvs k = some v ∧ lookD ds (kD k) = some d ∧ Rp V v d
  | _, _, .nil => .inl ⟨rfl, rfl⟩
  | _, _, .cons (k := j) (v := v) (d := d) (ds := ds) r rs => by
    by_cases e : j = k
    · subst e
      refine .inr ⟨v, d, valV_pos rfl, ?_, r⟩
      unfold lookD
      rw [List.find?_cons_of_pos (by simp)]; rfl
    · have hne : ¬ keyG (kD j) = keyG (kD k) := by rw [keyG_kD, keyG_kD]; intro z; exact e (Sum.inl.inj (Option.some.inj z))
      have h1 : lookD ((kD j, d) :: ds) (kD k) = lookD ds (kD k) := by
        unfold lookD
        rw [List.find?_cons_of_neg (by simpa using hne)]
      rw [valV_neg (p := (j, v)) e, h1]
      exact RpK.val rs
theorem RpT.val {V : Hp} {k : List Key} : ∀ {kvs : List (List Key × Vl)} {ds : List (D × D)}, RpT V kvs ds → (valV kvs k = none ∧ lookD ds (kT k) = none) ∨ ∃ v d, valV kvs k = some v ∧ lookD ds (kT k) = some d ∧ Rp V v d
  | _, _, .nil => .inl ⟨rfl, rfl⟩
  | _, _, .cons (k := j) (v := v) (d := d) (ds := ds) r rs => by
    by_cases e : j = k
    · subst e
      refine .inr ⟨v, d, valV_pos rfl, ?_, r⟩
      unfold lookD
      rw [List.find?_cons_of_pos (by simp)]; rfl
    · have hne : ¬ keyG (kT j) = keyG (kT k) := by rw [keyG_kT, keyG_kT]; intro z; exact e (Sum.inr.inj (Option.some.inj z))
      have h1 : lookD ((kT j, d) :: ds) (kT k) = lookD ds (kT k) := by
        unfold lookD
        rw [List.find?_cons_of_neg (by simpa using hne)]
      rw [valV_neg (p := (j, v)) e, h1]
      exact RpT.val rs
def dLook (kvs : List (D × D)) (k : D) : Option (Option D) :=
  match kvs with
  | (.none, _) :: r => match keyG k with
    | some (.inr _) => some (lookD r k)
    | _ => none
  | _ => match keyG k with
    | some (.inl _) => some (lookD kvs k)
    | _ => none
def dPut (kvs : List (D × D)) (k v : D) : Option (List (D × D)) :=
  match kvs with
  | (.none, _) :: r => match keyG k with
    | some (.inr _) => if r.length < SZ then some ((.none, .none) :: putD r k v) else none
    | _ => none
  | _ => match keyG k with
    | some (.inl _) => if kvs.length < SZ then some (putD kvs k v) else none
    | _ => none
def dIx : D → D → Option D
  | .list xs, .int i => atI xs i
  | .tuple xs, .int i => atI xs i
  | .str x, .int i => if x.length ≤ SZ then (atI x.cps.toList i).map fun c => .str ⟨#[c]⟩ else none
  | _, _ => none
theorem RpL.at {V : Hp} {vs : List Vl} {ds : List D} (r : RpL V vs ds) {i : Int} {d : D} (h : atI ds i = some d) : ∃ v, atI vs i = some v ∧ Rp V v d := by
  unfold atI at h ⊢
  rw [r.length]
  cases hx : ixN ds.length i with
  | none => rw [hx] at h; cases h
  | some j =>
    rw [hx] at h
    exact r.get' j d h
section
variable {X : Cx} {EX : EXP}
theorem ix_D : IxR X (rD dIx) := by
  intro value slice pins s σ H x y v u Q I rx ry ⟨V, dx, dy, d, sb, hx, hy, hf, k⟩ hs
  unfold dIx at hf
  split at hf
  · cases hy
    cases hx with
    | lst ha ra =>
      obtain ⟨z, hz, rz⟩ := ra.at hf
      exact ix_list value slice pins s σ H _ _ v u Q I rx ry ⟨_, _, _, z, rfl, rfl, SqL.of (sb _ _ ha), hz, k _ _ _ (Ext.refl sb) rz⟩ hs
  · cases hy
    cases hx with
    | tup ha ra =>
      obtain ⟨z, hz, rz⟩ := ra.at hf
      exact ix_tup value slice pins s σ H _ _ v u Q I rx ry ⟨_, _, _, z, rfl, rfl, SqT.of (sb _ _ ha), hz, k _ _ _ (Ext.refl sb) rz⟩ hs
  · split at hf
    · rename_i z i hz
      cases hy
      cases hx
      cases hc : atI z.cps.toList i with
      | none => rw [hc] at hf; cases hf
      | some c =>
        rw [hc] at hf
        cases hf
        exact ix_str value slice pins s σ H _ _ v u Q I rx ry ⟨_, _, c, rfl, rfl, szLine hz, hc, k _ _ _ (Ext.refl sb) (.str _)⟩ hs
    · cases hf
  · cases hf
variable {a b : Expr} {ma mb : M} {pos : Pos}
theorem x_ix (ha : PE X a (tX X.K EX ma)) (hb : PE X b (tX X.K EX mb)) (hs : PlainIx b) : PE X (.Subscript a b pos) (tX X.K EX (mBin dIx ma mb)) :=
  (pe_ix ix_D ha hb hs).imp fun _ _ _ h => tOp_of h
def DLook (V : Hp) (a : Addr) (kvs : List (D × D)) : Prop := (∃ xs, V a = some (.dK xs) ∧ RpK V xs kvs) ∨ (∃ xs es, V a = some (.dT xs) ∧ kvs = (.none, .none) :: es ∧ RpT V xs es)
theorem Rp.dict {V : Hp} {v : Vl} {kvs : List (D × D)} (h : Rp V v (.dict kvs)) : ∃ a, v = .ref a ∧ DLook V a kvs := by
  cases h with
  | dK e r => exact ⟨_, rfl, .inl ⟨_, e, r⟩⟩
  | dT e r => exact ⟨_, rfl, .inr ⟨_, _, e, rfl, r⟩⟩
theorem RpL.keysV {V : Hp} : ∀ {xs : List Vl} {ks : List Key}, RpL V xs (ks.map kD) → xs = ks.map kV
  | _, [], .nil => rfl
  | _, k :: r, .cons h rs => by
    have e := RpL.keysV rs
    rw [e]
    cases k with
    | inl i => cases h; rfl
    | inr x => cases h; rfl
theorem keyG_inl {k : D} {j : Key} (h : keyG k = some (.inl j)) : k = kD j := by
  cases k with
  | int i => cases h; rfl
  | str x => cases h; rfl
  | tuple xs =>
    have hk' : (keyG.keys xs).map Sum.inr = some (Sum.inl j) := h
    cases hq : keyG.keys xs with
    | none => rw [hq] at hk'; cases hk'
    | some ks => rw [hq] at hk'; cases hk'
  | _ => cases h
theorem keyG_inr {k : D} {ks : List Key} (h : keyG k = some (.inr ks)) : k = kT ks := by
  cases k with
  | tuple xs =>
    have hk' : (keyG.keys xs).map Sum.inr = some (Sum.inr ks) := h
    cases hq : keyG.keys xs with
    | none => rw [hq] at hk'; cases hk'
    | some ks' =>
      rw [hq] at hk'
      cases hk'
      rw [keys_inv hq]; rfl
  | _ => cases h
theorem Rp.kD {V : Hp} {y : Vl} {k : Key} (h : Rp V y (kD k)) : y = kV k := by
  cases k with
  | inl i => cases h; rfl
  | inr x => cases h; rfl
theorem RpK.noT {V : Hp} {xs : List (Key × Vl)} {kvs : List (D × D)} (r : RpK V xs kvs) : ∀ {z : D} {q : List (D × D)}, kvs ≠ (.none, z) :: q := by
  intro z q e
  subst e
  generalize h : ((PyData.none, z) :: q : List (D × D)) = l at r
  cases r with
  | nil => cases h
  | cons r rs =>
    rename_i k v vs d ds
    injection h with h1 h2
    injection h1 with h3 h4
    cases k <;> cases h3
theorem dget_of {V H : Hp} {a : Addr} {kvs : List (D × D)} {y : Vl} {k : D} {o : Option D} (sb : Sub V H) (g : DLook V a kvs) (ry : Rp V y k) (ok : dLook kvs k = some o) :
    ∃ o', DGet H a y o' ∧ ((o' = none ∧ o = none) ∨ ∃ v d, o' = some v ∧ o = some d ∧ Rp V v d) := by
  rcases g with ⟨xs, e, r⟩ | ⟨xs, es, e, z, r⟩
  · have h2 : (match keyG k with
        | some (.inl _) => some (lookD kvs k)
        | _ => none) = some o := by
      unfold dLook at ok
      split at ok
      · exact (r.noT rfl).elim
      · exact ok
    split at h2
    · rename_i j hk
      cases h2
      have ek := keyG_inl hk
      subst ek
      have ey := ry.kD
      subst ey
      exact ⟨_, DGet.k (sb _ _ e), r.val⟩
    · cases h2
  · subst z
    unfold dLook at ok
    dsimp only at ok
    split at ok
    · rename_i ks hk
      cases ok
      have ek := keyG_inr hk
      subst ek
      cases ry with
      | tup hb rb =>
        have eb := rb.keysV
        subst eb
        exact ⟨_, DGet.t (sb _ _ e) (sb _ _ hb), r.val⟩
    · cases ok
def dIxD (x k : D) : Option D := match x with
  | .dict kvs => (dLook kvs k).bind id
  | _ => none
theorem x_dget (hu : X.A.units + 1 < cLine) (ha : PE X a (tX X.K EX ma)) (hb : PE X b (tX X.K EX mb)) (hs : NoSl b) : PE X (.Subscript a b pos) (tX X.K EX (mBin dIxD ma mb)) :=
  (pe_dget hu ha hb hs).imp fun σ H Q ⟨w, env, hw, s, p⟩ => by
    subst hw
    refine tX_bind s p fun dx vx w1 g1 s1 r1 p1 => tX_bind s1 p1 fun dy vy w2 g2 s2 r2 p2 => ?_
    obtain ⟨d, hd, k⟩ := post_ret s2 p2
    unfold dIxD at hd
    split at hd
    · rename_i kvs
      cases ho : dLook kvs dy with
      | none => rw [ho] at hd; cases hd
      | some o =>
        rw [ho] at hd
        have hd' : o = some d := hd
        subst hd'
        obtain ⟨a', rfl, g⟩ := (r1.mono g2.v).dict
        obtain ⟨o', h1, h2⟩ := dget_of s2.vh g r2 ho
        rcases h2 with ⟨rfl, z⟩ | ⟨v, d', rfl, z, rv⟩
        · cases z
        · cases z
          exact ⟨a', v, rfl, h1, k _ _ _ (Ext.refl s2.vh) rv⟩
    · cases hd
end
inductive ResP where
  | ok (o : Option Int)
  | exc (c : Str) (d : D)
abbrev MP := Env → Bx → Option (ResP × Bx)
def PostP (K : KF) (EX : EXP) (Q : Option Int → Hp → Prop) (σ : St) (env : Env) (w : Wd) : Option (ResP × Bx) → Prop
  | none => False
  | some (.ok o, bx) => ∀ w', w'.bx = bx → Gr w w' → StR K σ env w' → Q o w'.H
  | some (.exc c d, bx) => ∀ w', w'.bx = bx → Gr w w' → StR K σ env w' → EX c d w'
def tXP (K : KF) (EX : EXP) (m : MP) : TO := fun σ H Q => ∃ w env, w.H = H ∧ StR K σ env w ∧ PostP K EX Q σ env w (m env w.bx)
def mpNone : MP := fun _ b => some (.ok none, b)
def mpSome (m : M) : MP := fun env b =>
  match m env b with
  | none => none
  | some (.exc c d, b) => some (.exc c d, b)
  | some (.ok (.int i), b) => some (.ok (some i), b)
  | some (.ok _, _) => none
def cutL {α : Type} (xs : List α) (lo hi : Option Int) : List α := (xs.drop (HT.sIx xs.length 0 lo)).take (HT.sIx xs.length xs.length hi - HT.sIx xs.length 0 lo)
def dSl (lo hi : Option Int) : D → Option D
  | .list xs => some (.list (cutL xs lo hi))
  | .tuple xs => some (.tuple (cutL xs lo hi))
  | .str x => if x.length ≤ SZ then some (.str (cutS x lo hi)) else none
  | _ => none
def mSl (m : M) (l h : MP) : M := mBind m fun x env b =>
  match l env b with
  | none => none
  | some (.exc c d, b) => some (.exc c d, b)
  | some (.ok lo, b) => match h env b with
    | none => none
    | some (.exc c d, b) => some (.exc c d, b)
    | some (.ok hi, b) => mRet (dSl lo hi x) env b
abbrev PP := Env → Bx → Option (Option Int)
def liftP (g : PP) : MP := fun env b => (g env b).map fun d => (.ok d, b)
def ppNone : PP := fun _ _ => some none
def ppSome (g : P) : PP := fun env b => (g env b).bind fun d => match d with | .int i => some (some i) | _ => none
def pSl (m : P) (l h : PP) : P := fun env b => (m env b).bind fun x => (l env b).bind fun lo => (h env b).bind fun hi => dSl lo hi x
theorem lift_psome (g : P) : mpSome (lift g) = liftP (ppSome g) := by
  funext env b
  unfold mpSome lift liftP ppSome
  cases g env b with
  | none => rfl
  | some d => cases d <;> rfl
theorem lift_sl (g : P) (l h : PP) : mSl (lift g) (liftP l) (liftP h) = lift (pSl g l h) := by
  funext env b
  unfold mSl mBind lift liftP pSl mRet
  cases g env b with
  | none => rfl
  | some d =>
    simp only [Option.map_some, Option.bind_some]
    cases l env b with
    | none => rfl
    | some lo =>
      simp only [Option.map_some, Option.bind_some]
      cases h env b with
      | none => rfl
      | some hi => rfl
theorem RpL.cut {V : Hp} {xs : List Vl} {ds : List D} (r : RpL V xs ds) (lo hi : Option Int) : RpL V (cutV xs lo hi) (cutL ds lo hi) := by
  unfold cutV cutL
  rw [r.length]
  exact (r.drop _).take _
def slD : Vl → Option Int → Option Int → Hp → VK → Prop := fun x lo hi H Q => ∃ V dx d, Sub V H ∧ Rp V x dx ∧ dSl lo hi dx = some d ∧ kD1 V H Q d
section
variable {X : Cx} {EX : EXP} {e : Expr} {m : M} {lo hi : Option Expr} {l h : MP} {pos p2 : Pos}
theorem x_pnone : PO X none (tXP X.K EX mpNone) := ⟨fun pins s σ H Q I ⟨w, env, hw, st, p⟩ => po_none.run pins s σ H Q I (by subst hw; exact p w rfl (Gr.refl w) st)⟩
theorem x_psome (ha : PE X e (tX X.K EX m)) : PO X (some e) (tXP X.K EX (mpSome m)) := ⟨fun pins s σ H Q I ⟨w, env, hw, st, p⟩ => (po_some ha).run pins s σ H Q I (by
  subst hw
  refine ⟨w, env, rfl, st, ?_⟩
  unfold mpSome at p
  cases hm : m env w.bx with
  | none => rw [hm] at p; exact p.elim
  | some q =>
    obtain ⟨r, b⟩ := q
    rw [hm] at p
    cases r with
    | exc c d => exact p
    | ok d =>
      cases d with
      | int i => exact fun v w' hb g s' r => by cases r; exact ⟨i, rfl, p w' hb g s'⟩
      | _ => exact p.elim)⟩
theorem sl_D : SlR X slD := by
  intro pins s σ H x v vl vu lo hi sl Q I rx hs pl pu ⟨V, dx, d, sb, hx, hf, k⟩
  unfold dSl at hf
  split at hf
  · cases hf
    cases hx with
    | lst ha ra => exact sl_list pins s σ H _ v vl vu lo hi sl Q I rx hs pl pu ⟨_, _, rfl, SqL.of (sb _ _ ha), fun p hp => k _ _ _ (Ext.new sb hp) (.lst upd_same ((ra.cut lo hi).mono (Ext.new sb hp).v))⟩
  · cases hf
    cases hx with
    | tup ha ra =>
      refine sl_tupA pins s σ H _ v vl vu lo hi sl Q I rx hs pl pu ⟨_, _, rfl, SqT.of (sb _ _ ha), fun z => ?_, fun z p hp => k _ _ _ (Ext.new sb hp) (.tup upd_same ((ra.cut lo hi).mono (Ext.new sb hp).v))⟩
      rename_i ds a xs
      have e : cutL ds lo hi = ds := by
        unfold cutL
        rw [ra.length] at z
        rw [z.1, z.2]
        simp
      rw [e] at k
      exact k _ _ _ (Ext.refl sb) (.tup ha ra)
  · split at hf
    · rename_i hz
      cases hf
      cases hx
      exact sl_str pins s σ H _ v vl vu lo hi sl Q I rx hs pl pu ⟨_, rfl, szLine hz, k _ _ _ (Ext.refl sb) (.str _)⟩
    · cases hf
  · cases hf
theorem x_slice (he : PE X e (tX X.K EX m)) (hl : PO X lo (tXP X.K EX l)) (hu : PO X hi (tXP X.K EX h)) : PE X (.Subscript e (.Slice lo hi none p2) pos) (tX X.K EX (mSl m l h)) :=
  (pe_slice sl_D he hl hu).imp fun σ H Q ⟨w, env, hw, s, p⟩ => by
    subst hw
    refine tX_bind s p fun dx vx w1 g1 s1 r1 p1 => ⟨w1, env, rfl, s1, ?_⟩
    cases hl : l env w1.bx with
    | none => rw [hl] at p1; exact p1.elim
    | some q =>
      obtain ⟨r, b⟩ := q
      rw [hl] at p1
      cases r with
      | exc c d => exact p1
      | ok o =>
        intro w2 hb g2 s2
        refine ⟨w2, env, rfl, s2, ?_⟩
        have p1 : Post X.K EX Q σ env w1 (match h env b with
          | none => none
          | some (.exc c d, b) => some (.exc c d, b)
          | some (.ok hi, b) => mRet (dSl o hi dx) env b) := p1
        subst hb
        cases hh : h env w2.bx with
        | none => rw [hh] at p1; exact p1.elim
        | some q =>
          obtain ⟨r, b⟩ := q
          rw [hh] at p1
          cases r with
          | exc c d => exact fun w' hb g s' => p1 w' hb (g2.trans g) s'
          | ok o2 =>
            intro w3 hb g3 s3
            subst hb
            have p1 : Post X.K EX Q σ env w1 (mRet (dSl o o2 dx) env w3.bx) := p1
            obtain ⟨d, hd, k⟩ := post_ret s3 (Post.grow (g2.trans g3) p1)
            exact ⟨w3.V, dx, d, s3.vh, (r1.mono g2.v).mono g3.v, hd, k⟩
def dRev : D → Option D
  | .list xs => some (.list xs.reverse)
  | _ => none
theorem x_rev {k : Nat} {p1 p2 p3 pos : Pos} (he : PE X e (tX X.K EX m)) : PE X (.Subscript e (.Slice none none (some (.UnaryOp .USub (.Constant (.int 1) k p1) p2)) p3) pos) (tX X.K EX (mUn dRev m)) :=
  (pe_revL he).imp fun σ H Q ⟨w, env, hw, s, p⟩ => by
    subst hw
    refine tX_bind s p fun dx vx w1 g1 s1 r1 p1 => ?_
    obtain ⟨d, hd, k⟩ := post_ret s1 p1
    unfold dRev at hd
    split at hd
    · cases hd
      cases r1 with
      | lst ha ra => exact ⟨_, _, rfl, SqL.of (s1.vh _ _ ha), fun p hp => k _ _ _ (Ext.new s1.vh hp) (.lst upd_same (ra.reverse.mono (Ext.new s1.vh hp).v))⟩
    · cases hd
end
end DL
set_option Elab.async false
set_option linter.all false
set_option maxRecDepth 100000
set_option maxHeartbeats 1000000
namespace DL
open PySem PySem.Spec PyProof.Rows
open L2 hiding St V
inductive ResL where
  | ok (ds : List D)
  | exc (c : Str) (d : D)
abbrev MA := Env → Bx → Option (ResL × Bx)
def PostA (K : KF) (EX : EXP) (Q : List Vl → Hp → Prop) (σ : St) (env : Env) (w : Wd) : Option (ResL × Bx) → Prop
  | none => False
  | some (.ok ds, bx) => ∀ vs w', w'.bx = bx → Gr w w' → StR K σ env w' → RpL w'.V vs ds → Q vs w'.H
  | some (.exc c d, bx) => ∀ w', w'.bx = bx → Gr w w' → StR K σ env w' → EX c d w'
def tXA (K : KF) (EX : EXP) (m : MA) : TA := fun σ H Q => ∃ w env, w.H = H ∧ StR K σ env w ∧ PostA K EX Q σ env w (m env w.bx)
theorem PostA.grow {K : KF} {EX : EXP} {Q : List Vl → Hp → Prop} {σ : St} {env : Env} {w w1 : Wd} {o : Option (ResL × Bx)} (g : Gr w w1) (p : PostA K EX Q σ env w o) : PostA K EX Q σ env w1 o := by
  match o, p with
  | some (.ok d, b), p => exact fun v w' h g' e r => p v w' h (g.trans g') e r
  | some (.exc c d, b), p => exact fun w' h g' e => p w' h (g.trans g') e
def maNil : MA := fun _ b => some (.ok [], b)
def maCons (m : M) (r : MA) : MA := fun env b =>
  match m env b with
  | none => none
  | some (.exc c d, b) => some (.exc c d, b)
  | some (.ok x, b) => match r env b with
    | none => none
    | some (.exc c d, b) => some (.exc c d, b)
    | some (.ok xs, b) => some (.ok (x :: xs), b)
def seqOf : D → Option (List D)
  | .list xs => some xs
  | .tuple xs => some xs
  | _ => none
def maStar (m : M) (r : MA) : MA := fun env b =>
  match m env b with
  | none => none
  | some (.exc c d, b) => some (.exc c d, b)
  | some (.ok x, b) => match seqOf x with
    | none => none
    | some ys => match r env b with
      | none => none
      | some (.exc c d, b) => some (.exc c d, b)
      | some (.ok xs, b) => some (.ok (ys ++ xs), b)
abbrev PL := Env → Bx → Option (List D)
def liftA (g : PL) : MA := fun env b => (g env b).map fun d => (.ok d, b)
def plNil : PL := fun _ _ => some []
def plCons (m : P) (r : PL) : PL := fun env b => (m env b).bind fun x => (r env b).map fun xs => x :: xs
def plStar (m : P) (r : PL) : PL := fun env b => (m env b).bind fun x => (seqOf x).bind fun ys => (r env b).map fun xs => ys ++ xs
theorem lift_acons (m : P) (r : PL) : maCons (lift m) (liftA r) = liftA (plCons m r) := by
  funext env b
  unfold maCons lift liftA plCons
  cases m env b with
  | none => rfl
  | some x =>
    simp only [Option.map_some, Option.bind_some]
    cases r env b <;> rfl
theorem lift_astar (m : P) (r : PL) : maStar (lift m) (liftA r) = liftA (plStar m r) := by
  funext env b
  unfold maStar lift liftA plStar
  cases m env b with
  | none => rfl
  | some x =>
    simp only [Option.map_some, Option.bind_some]
    cases seqOf x with
    | none => rfl
    | some ys =>
      simp only [Option.bind_some]
      cases r env b <;> rfl
def mApp (g : List D → Option D) (ms : MA) : M := fun env b =>
  match ms env b with
  | none => none
  | some (.exc c d, b) => some (.exc c d, b)
  | some (.ok ds, b) => (g ds).map fun d => (.ok d, b)
def pApp (g : List D → Option D) (ms : PL) : P := fun env b => (ms env b).bind g
theorem lift_app (g : List D → Option D) (ms : PL) : mApp g (liftA ms) = lift (pApp g ms) := by
  funext env b
  unfold mApp lift liftA pApp
  cases ms env b <;> rfl
def PostO (K : KF) (EX : EXP) (Q : VK) (σ : St) (env : Env) (w : Wd) : Option (Res × Bx) → Prop
  | none => False
  | some (.ok d, bx) => ∀ p w', w'.bx = bx → Gr w w' → StR K σ env w' → w.H p = none → w'.V p = none → OwnAt w'.V w'.H p d → (∀ k : Nat, w'.as[k]? ≠ some p) → Q (.ref p) w'.H
  | some (.exc c d, bx) => ∀ w', w'.bx = bx → Gr w w' → StR K σ env w' → EX c d w'
def tXO (K : KF) (EX : EXP) (m : M) : TE := fun σ H Q => ∃ w env, w.H = H ∧ StR K σ env w ∧ PostO K EX Q σ env w (m env w.bx)
theorem StR.as_some {K : KF} {σ : St} {env : Env} {w : Wd} (s : StR K σ env w) {k : Nat} {a : Addr} (h : w.as[k]? = some a) : w.H a ≠ none := by
  have hl : k < w.as.length := by
    rcases Nat.lt_or_ge k w.as.length with h' | h'
    · exact h'
    · rw [List.getElem?_eq_none h'] at h; cases h
  have hb : ∃ b, w.bx[k]? = some b := ⟨w.bx[k]'(by rw [← s.lenB]; exact hl), List.getElem?_eq_getElem _⟩
  obtain ⟨b, hb⟩ := hb
  have q := s.box k a b h hb
  cases b with
  | live d => obtain ⟨o, ho⟩ := q.2.some; rw [ho]; simp
  | refs ks => exact (q.nt trivial).1
  | refD es => exact (q.nt trivial).1
  | lock => exact (q.nt trivial).1
  | lk ks => obtain ⟨o, kvs, h, _⟩ := q; rw [s.vh _ _ h]; simp
  | froz d =>
    have q : Rp w.V (.ref a) d := q
    have : ∃ o, w.V a = some o := by
      cases q with
      | lst e _ => exact ⟨_, e⟩
      | tup e _ => exact ⟨_, e⟩
      | dK e _ => exact ⟨_, e⟩
      | dT e _ => exact ⟨_, e⟩
    obtain ⟨o, ho⟩ := this
    rw [s.vh _ _ ho]; simp
theorem see {K : KF} {σ : St} {env : Env} {w w' : Wd} {p : Addr} {d : D} (g : Gr w w') (s : StR K σ env w') (h0 : w.H p = none) (hv : w'.V p = none) (o : OwnAt w'.V w'.H p d) (ha : ∀ k : Nat, w'.as[k]? ≠ some p) :
    ∃ V', Gr w (w'.to V' w'.H) ∧ StR K σ env (w'.to V' w'.H) ∧ Rp V' (.ref p) d := by
  obtain ⟨ob, ho⟩ := o.some
  have hs : Sub w'.V (upd w'.V p ob) := Sub.upd hv
  refine ⟨upd w'.V p ob, ⟨g.as, g.asn, g.v.trans hs, fun a hne hw => ?_, g.hn, g.hk, g.w⟩, ⟨fun a u e => ?_, s.len, fun i c h => ?_, s.lenB, s.nd, fun k a b h1 h2 => ?_⟩, ?_⟩
  · show upd w'.V p ob a = w.V a
    rw [upd_ne (by intro z; subst z; exact hne.1 h0)]
    exact g.vn a hne hw
  · by_cases z : a = p
    · subst z
      have e : upd w'.V a ob a = some u := e
      rw [upd_same] at e; rw [← e]; exact ho
    · have e : upd w'.V p ob a = some u := e
      rw [upd_ne z] at e; exact s.vh a u e
  · obtain ⟨v, h1, h2⟩ := s.cel i c h
    refine ⟨v, h1, ?_⟩
    cases c with
    | dat d => exact Rp.mono hs h2
    | bx k => exact h2
    | ext d => exact ExtAt.mono hs h2
    | ex n d => exact ExcAt.mono hs h2
    | exs l => exact ExsAt.mono hs h2
    | ob b k1 k2 => exact ObAt.mono hs h2
  · have q := s.box k a b h1 h2
    refine q.keep (fun _ _ z => z) hs (fun m => ?_) fun _ o z => z
    show upd w'.V p ob a = none
    rw [upd_ne (by intro z; subst z; exact ha k h1)]
    exact q.vn m
  · exact o.rp hs fun o' z => by rw [upd_same, ← ho, z]
section
variable {X : Cx} {EX : EXP} {e : Expr} {es : List Expr} {m : M} {ms : MA} {pos : Pos}
theorem x_anil : PA X [] (tXA X.K EX maNil) := pa_nil.imp fun σ H Q ⟨w, env, hw, s, p⟩ => by
  subst hw
  exact p [] w rfl (Gr.refl w) s .nil
theorem acons_of {K : KF} {σ : St} {H : Hp} {Q : List Vl → Hp → Prop} (h : tXA K EX (maCons m ms) σ H Q) : tCons (tX K EX m) (tXA K EX ms) σ H Q := by
  obtain ⟨w, env, hw, s, p⟩ := h
  subst hw
  refine ⟨w, env, rfl, s, ?_⟩
  unfold maCons at p
  cases hm : m env w.bx with
  | none => rw [hm] at p; exact p.elim
  | some q =>
    obtain ⟨r, b⟩ := q
    rw [hm] at p
    cases r with
    | exc c d => exact p
    | ok x =>
      intro v w1 hb g1 s1 r1
      subst hb
      refine ⟨w1, env, rfl, s1, ?_⟩
      cases hr : ms env w1.bx with
      | none => simp only [hr] at p; exact p.elim
      | some q =>
        obtain ⟨r, b⟩ := q
        simp only [hr] at p
        cases r with
        | exc c d => exact fun w' hb g e => p w' hb (g1.trans g) e
        | ok xs => exact fun vs w2 hb g2 s2 r2 => p (v :: vs) w2 hb (g1.trans g2) s2 (.cons (r1.mono g2.v) r2)
theorem x_acons (he : PE X e (tX X.K EX m)) (hr : PA X es (tXA X.K EX ms)) (hs : starEach (e :: es) X.env = (false, eval e X.env) :: starEach es X.env := by rfl) : PA X (e :: es) (tXA X.K EX (maCons m ms)) :=
  (pa_cons he hr hs).imp fun _ _ _ h => acons_of h
theorem seq_of {V : Hp} {v : Vl} {d : D} {ds : List D} (r : Rp V v d) (h : seqOf d = some ds) : ∃ a xs, v = .ref a ∧ (V a = some (.lst xs) ∨ V a = some (.tup xs)) ∧ RpL V xs ds := by
  cases r with
  | lst e r => cases h; exact ⟨_, _, rfl, .inl e, r⟩
  | tup e r => cases h; exact ⟨_, _, rfl, .inr e, r⟩
  | _ => cases h
theorem x_astar {p : Pos} (he : PE X e (tX X.K EX m)) (hr : PA X es (tXA X.K EX ms)) : PA X (.Starred e p :: es) (tXA X.K EX (maStar m ms)) := by
  refine ⟨fun pos pins s σ H Q I ⟨w, env, hw, st, q⟩ => ?_⟩
  subst hw
  refine PySem.W.items_star (thn (he.run pins s σ w.H (fun v H' => ∃ x w', w'.H = H' ∧ Gr w w' ∧ StR X.K σ env w' ∧ Rp w'.V v x ∧ PostA X.K EX Q σ env w (match seqOf x with
      | none => none
      | some ys => match ms env w'.bx with
        | none => none
        | some (.exc c d, b) => some (.exc c d, b)
        | some (.ok xs, b) => some (.ok (ys ++ xs), b))) I ⟨w, env, rfl, st, ?_⟩) fun u s1 ⟨v, H1, I1, rv, x, w1, hw1, g1, st1, r1, q1⟩ => ?_)
  · unfold maStar at q
    cases hm : m env w.bx with
    | none => rw [hm] at q; exact q.elim
    | some z =>
      obtain ⟨r, b⟩ := z
      rw [hm] at q
      cases r with
      | exc c d => exact q
      | ok x => exact fun v w' hb g e r => ⟨x, w', rfl, g, e, r, by subst hb; exact q⟩
  · subst hw1
    cases hx : seqOf x with
    | none => rw [hx] at q1; exact q1.elim
    | some ys =>
      rw [hx] at q1
      obtain ⟨a, xs, rfl, hxs, rx⟩ := seq_of r1 hx
      cases rv
      obtain ⟨its, n, o, T, hT, ho, hc, hd, hv, hz⟩ : ∃ (its : List Value) (n : Nat) (o : Obj) (T : String), (T = "list" ∨ T = "tuple") ∧ s1.heap.get? a = some o ∧ o.cls = .type T ∧ o.data = .seq its.toArray n ∧ Vals xs its ∧ xs.length ≤ sizeLine := by
        rcases hxs with h | h
        · obtain ⟨its, rv, ⟨o, n, ho, hc, _, hd⟩, hz⟩ := I1.list (SqL.of (st1.vh _ _ h))
          exact ⟨its, n, o, _, .inl rfl, ho, hc, hd, rv, hz⟩
        · obtain ⟨its, rv, ⟨o, ho, hc, n, hd⟩, hz⟩ := I1.tuple (SqT.of (st1.vh _ _ h))
          exact ⟨its, n, o, _, .inr rfl, ho, hc, hd, rv, hz⟩
      have hT' : s1.TypeIs (.ref a) T := ⟨o, ho, hc⟩
      have z : wpAny (model X.prog X.w) X.A (PySem.collect (.ref a)) (fun here s₂ => wpAny (model X.prog X.w) X.A (spliced (backTo pos (starEach es X.env))) (fun vs s₃ => AP X pins σ Q (here ++ vs) s₃) X.xe s₂) X.xe s1 := by
        refine wpAny_collect_seq a hT ho hc hd (fun h' hk => ?_) (by rw [List.size_toArray, ← hv.length]; exact hz)
        have I2 : Inv X pins σ w1.H { s1 with heap := h' } := I1.kept (t' := s1.toks) hk
        refine thn (hr.run pos pins _ σ w1.H (fun vs H' => Q (xs ++ vs) H') I2 ⟨w1, env, rfl, st1, ?_⟩) fun us s2 ⟨vs, H2, I3, r3, q3⟩ => ⟨xs ++ vs, H2, I3, by simpa using hv.append r3, q3⟩
        cases hr : ms env w1.bx with
        | none => simp only [hr] at q1; exact q1.elim
        | some q =>
          obtain ⟨r, b⟩ := q
          simp only [hr] at q1
          cases r with
          | exc c d => exact fun w' hb g e => q1 w' hb (g1.trans g) e
          | ok zs => exact fun vs w2 hb g2 s2 r2 => q1 _ w2 hb (g1.trans g2) s2 ((rx.mono g2.v).append r2)
      unfold PySem.W.StarOf notIterableAtAll
      rcases hT with rfl | rfl
      · exact wpAny_bind (wpAny_specialOf hT' PySem.F.slot_list_iter.lookup (wpAny_pure ⟨rfl, z⟩))
      · exact wpAny_bind (wpAny_specialOf hT' PySem.F.slot_tuple_iter.lookup (wpAny_pure ⟨rfl, z⟩))
theorem app_of {K : KF} {g : List D → Option D} {σ : St} {H : Hp} {Q : VK} (h : tX K EX (mApp g ms) σ H Q) : tXA K EX ms σ H fun vs H1 => cD g vs H1 Q := by
  obtain ⟨w, env, hw, s, p⟩ := h
  subst hw
  refine ⟨w, env, rfl, s, ?_⟩
  unfold mApp at p
  cases hm : ms env w.bx with
  | none => rw [hm] at p; exact p.elim
  | some q =>
    obtain ⟨r, b⟩ := q
    rw [hm] at p
    cases r with
    | exc c d => exact p
    | ok ds =>
      intro vs w1 hb g1 s1 r1
      subst hb
      cases hd : g ds with
      | none => simp only [hd] at p; exact p.elim
      | some d =>
        simp only [hd, Option.map_some] at p
        exact ⟨w1.V, ds, d, s1.vh, r1, hd, fun v V' H' x r => p v (w1.to V' H') rfl (g1.trans x.gr) (s1.ext' x) r⟩
theorem x_callB {id : String} {x : Str} {p : Pos} {g : List D → Option D} (hc : CallR X (.builtin id) (cD g)) (hg : Gl X x) (hm : X.mg x = none) (hv : bootBuiltins x = some (.builtin id)) (ha : PA X (e :: es) (tXA X.K EX ms)) (hn : x ≠ "__name__" := by decide)
    (hdb : (x == ("__debug__" : Str)) = false := by decide) (he : starEach (e :: es) X.env = (false, eval e X.env) :: starEach es X.env := by rfl) (hpl : (backTo pos (starEach es X.env)).any (·.1) = false := by rfl) :
    PE X (.Call (.Name x p) (e :: es) [] pos) (tX X.K EX (mApp g ms)) := (pe_callB hc hg hm hv ha hn hdb he hpl).imp fun _ _ _ h => app_of h
theorem x_callTy {T : String} {x : Str} {p : Pos} {g : List D → Option D} (hc : CallR X (.type T) (cD g)) (hg : Gl X x) (hm : X.mg x = none) (hv : bootBuiltins x = some (.type T)) (ha : PA X (e :: es) (tXA X.K EX ms)) (hn : x ≠ "__name__" := by decide)
    (hdb : (x == ("__debug__" : Str)) = false := by decide) (he : starEach (e :: es) X.env = (false, eval e X.env) :: starEach es X.env := by rfl) (hpl : (backTo pos (starEach es X.env)).any (·.1) = false := by rfl) :
    PE X (.Call (.Name x p) (e :: es) [] pos) (tX X.K EX (mApp g ms)) := (pe_callTy hc hg hm hv ha hn hdb he hpl).imp fun _ _ _ h => app_of h
def gTupD (ds : List D) : Option D := if ds.length ≤ SZ then some (.tuple ds) else none
def gLstD (ds : List D) : Option D := if ds.length ≤ SZ then some (.list ds) else none
theorem x_tup {x1} (h : PA X es (tXA X.K EX ms)) : PE X (.Tuple es x1 pos) (tX X.K EX (mApp gTupD ms)) := (pe_tup h).imp fun σ H Q q => by
  obtain ⟨w, env, hw, s, p⟩ := app_of q
  refine ⟨w, env, hw, s, ?_⟩
  revert p
  cases ms env w.bx with
  | none => exact id
  | some z =>
    obtain ⟨r, b⟩ := z
    cases r with
    | exc c d => exact id
    | ok ds =>
      intro p vs w1 hb g1 s1 r1
      obtain ⟨V, ds', d, sb, r, hd, k⟩ := p vs w1 hb g1 s1 r1
      unfold gTupD at hd
      split at hd
      · rename_i hz
        cases hd
        exact ⟨by rw [r.length]; exact szLine hz, fun p hp => k _ _ _ (Ext.new sb hp) (.tup upd_same (r.mono (Ext.new sb hp).v))⟩
      · cases hd
theorem x_lst (h : PA X es (tXA X.K EX ms)) : PE X (.List es pos) (tX X.K EX (mApp gLstD ms)) := (pe_lst h).imp fun σ H Q q => by
  obtain ⟨w, env, hw, s, p⟩ := app_of q
  refine ⟨w, env, hw, s, ?_⟩
  revert p
  cases ms env w.bx with
  | none => exact id
  | some z =>
    obtain ⟨r, b⟩ := z
    cases r with
    | exc c d => exact id
    | ok ds =>
      intro p vs w1 hb g1 s1 r1
      obtain ⟨V, ds', d, sb, r, hd, k⟩ := p vs w1 hb g1 s1 r1
      unfold gLstD at hd
      split at hd
      · rename_i hz
        cases hd
        exact ⟨by rw [r.length]; exact szLine hz, fun p hp => k _ _ _ (Ext.new sb hp) (.lst upd_same (r.mono (Ext.new sb hp).v))⟩
      · cases hd
theorem post_own {K : KF} {Q : VK} {σ : St} {env : Env} {w w1 : Wd} {d : D} {p : Addr} {o : HO} (g1 : Gr w w1) (s1 : StR K σ env w1) (q : PostO K EX Q σ env w (some (.ok d, w1.bx))) (hp : w1.H p = none) (ho : OwnAt w1.V (upd w1.H p o) p d) : Q (.ref p) (upd w1.H p o) := by
  have hv : w1.V p = none := by
    cases e : w1.V p with
    | none => rfl
    | some u => rw [s1.vh p u e] at hp; cases hp
  have h0 : w.H p = none := by
    cases e : w.H p with
    | none => rfl
    | some u => exact absurd hp (g1.hk p (by rw [e]; simp))
  have x := Ext.hid (o := o) s1.vh hp
  exact q p (w1.to w1.V (upd w1.H p o)) rfl (g1.trans x.gr) (s1.ext' x) h0 hv ho fun k hk => s1.as_some hk hp
theorem x_lstO (h : PA X es (tXA X.K EX ms)) : PE X (.List es pos) (tXO X.K EX (mApp gLstD ms)) := (pe_lst h).imp fun σ H Q ⟨w, env, hw, s, p⟩ => by
  subst hw
  refine ⟨w, env, rfl, s, ?_⟩
  unfold mApp at p
  cases hm : ms env w.bx with
  | none => rw [hm] at p; exact p.elim
  | some z =>
    obtain ⟨r, b⟩ := z
    rw [hm] at p
    cases r with
    | exc c d => exact p
    | ok ds =>
      intro vs w1 hb g1 s1 r1
      subst hb
      cases hd : gLstD ds with
      | none => simp only [hd] at p; exact p.elim
      | some d =>
        simp only [hd, Option.map_some] at p
        unfold gLstD at hd
        split at hd
        · rename_i hz
          cases hd
          exact ⟨by rw [r1.length]; exact szLine hz, fun q hq => post_own g1 s1 p hq ⟨vs, upd_same, r1⟩⟩
        · cases hd
def mEmK : M := fun _ b => some (.ok (.dict []), b)
theorem x_dictO : PE X (.Dict [] [] pos) (tXO X.K EX mEmK) := pe_dnewK.imp fun σ H Q ⟨w, env, hw, s, p⟩ q hq => by
  subst hw
  exact post_own (Gr.refl w) s p hq (.inl ⟨[], upd_same, .nil⟩)
theorem x_ofO (h : PE X e (tXO X.K EX m)) : PE X e (tX X.K EX m) := h.imp fun σ H Q ⟨w, env, hw, s, p⟩ => by
  refine ⟨w, env, hw, s, ?_⟩
  revert p
  cases m env w.bx with
  | none => exact id
  | some z =>
    obtain ⟨r, b⟩ := z
    cases r with
    | exc c d => exact id
    | ok d =>
      intro p q w1 hb g1 s1 h0 hv ho ha
      obtain ⟨V', g', s', r'⟩ := see g1 s1 h0 hv ho ha
      exact p _ (w1.to V' w1.H) hb g' s' r'
def cO (f : List D → Option D) : List Vl → Hp → VK → Prop := fun xs H Q => ∃ V ds d, Sub V H ∧ RpL V xs ds ∧ f ds = some d ∧ ∀ p V' H', Ext V H V' H' → H p = none → V' p = none → OwnAt V' H' p d → Q (.ref p) H'
theorem appO_of {K : KF} {g : List D → Option D} {σ : St} {H : Hp} {Q : VK} (h : tXO K EX (mApp g ms) σ H Q) : tXA K EX ms σ H fun vs H1 => cO g vs H1 Q := by
  obtain ⟨w, env, hw, s, p⟩ := h
  subst hw
  refine ⟨w, env, rfl, s, ?_⟩
  unfold mApp at p
  cases hm : ms env w.bx with
  | none => rw [hm] at p; exact p.elim
  | some q =>
    obtain ⟨r, b⟩ := q
    rw [hm] at p
    cases r with
    | exc c d => exact p
    | ok ds =>
      intro vs w1 hb g1 s1 r1
      subst hb
      cases hd : g ds with
      | none => simp only [hd] at p; exact p.elim
      | some d =>
        simp only [hd, Option.map_some] at p
        refine ⟨w1.V, ds, d, s1.vh, r1, hd, fun q V' H' x hq hv ho => ?_⟩
        have h0 : w.H q = none := by
          cases e : w.H q with
          | none => rfl
          | some u => exact absurd hq (g1.hk q (by rw [e]; simp))
        exact p q (w1.to V' H') rfl (g1.trans x.gr) (s1.ext' x) h0 hv ho fun k hk => s1.as_some hk hq
theorem x_callTyO {T : String} {x : Str} {p : Pos} {g : List D → Option D} (hc : CallR X (.type T) (cO g)) (hg : Gl X x) (hm : X.mg x = none) (hv : bootBuiltins x = some (.type T)) (ha : PA X (e :: es) (tXA X.K EX ms)) (hn : x ≠ "__name__" := by decide)
    (hdb : (x == ("__debug__" : Str)) = false := by decide) (he : starEach (e :: es) X.env = (false, eval e X.env) :: starEach es X.env := by rfl) (hpl : (backTo pos (starEach es X.env)).any (·.1) = false := by rfl) :
    PE X (.Call (.Name x p) (e :: es) [] pos) (tXO X.K EX (mApp g ms)) := (pe_callTy hc hg hm hv ha hn hdb he hpl).imp fun _ _ _ h => appO_of h
end
def cLen : List D → Option D
  | [.list xs] => some (.int xs.length)
  | [.tuple xs] => some (.int xs.length)
  | [.str x] => if x.length ≤ SZ then some (.int x.length) else none
  | _ => none
def cAbs : List D → Option D
  | [.int i] => some (.int (if i < 0 then -i else i))
  | _ => none
def cInt : List D → Option D
  | [.int i] => some (.int i)
  | [.bool b] => some (.int (if b then 1 else 0))
  | _ => none
def cList : List D → Option D
  | [.list xs] => some (.list xs)
  | [.tuple xs] => some (.list xs)
  | _ => none
def cTuple : List D → Option D
  | [.list xs] => some (.tuple xs)
  | [.tuple xs] => some (.tuple xs)
  | _ => none
def maxI : List Int → Option Int
  | [] => none
  | x :: r => some (r.foldl (fun a b => if b > a then b else a) x)
def cMax : List D → Option D
  | [.list xs] => (asInts xs).bind fun ns => (maxI ns).map .int
  | _ => none
def asBools : List D → Option (List Bool)
  | [] => some []
  | .bool i :: r => (asBools r).map (i :: ·)
  | _ => none
def cAll : List D → Option D
  | [.list xs] => (asBools xs).map fun bs => .bool (bs.all id)
  | _ => none
def cAny : List D → Option D
  | [.list xs] => (asBools xs).map fun bs => .bool (bs.any id)
  | _ => none
def cRepr : List D → Option D
  | [d] => if okD d && d.showable && decide (d.shown.length ≤ SZ) then some (.str d.shown) else none
  | _ => none
section
variable {X : Cx} {EX : EXP}
theorem b_len : CallR X (.builtin "len") (cD cLen) := by
  intro pins s σ H xs us Q I rs ⟨V, ds, d, sb, r, hf, k⟩
  unfold cLen at hf
  split at hf
  · cases hf
    obtain ⟨v, rfl, rv⟩ := r.one
    cases rv with
    | lst e rr => exact call_len pins s σ H _ us Q I rs ⟨_, _, rfl, .inl ⟨_, SqL.of (sb _ _ e), rr.length.symm⟩, k _ _ _ (Ext.refl sb) (.int _)⟩
  · cases hf
    obtain ⟨v, rfl, rv⟩ := r.one
    cases rv with
    | tup e rr => exact call_len pins s σ H _ us Q I rs ⟨_, _, rfl, .inr ⟨_, SqT.of (sb _ _ e), rr.length.symm⟩, k _ _ _ (Ext.refl sb) (.int _)⟩
  · split at hf
    · rename_i hz
      cases hf
      obtain ⟨v, rfl, rv⟩ := r.one
      cases rv
      exact call_len pins s σ H _ us Q I rs ⟨_, _, rfl, ⟨szLine hz, rfl⟩, k _ _ _ (Ext.refl sb) (.int _)⟩
    · cases hf
  · cases hf
theorem b_abs : CallR X (.builtin "abs") (cD cAbs) := by
  intro pins s σ H xs us Q I rs ⟨V, ds, d, sb, r, hf, k⟩
  unfold cAbs at hf
  split at hf
  · cases hf
    obtain ⟨v, rfl, rv⟩ := r.one
    cases rv
    exact call_abs pins s σ H _ us Q I rs ⟨_, rfl, k _ _ _ (Ext.refl sb) (.int _)⟩
  · cases hf
theorem b_int : CallR X (.type "int") (cD cInt) := by
  intro pins s σ H xs us Q I rs ⟨V, ds, d, sb, r, hf, k⟩
  unfold cInt at hf
  split at hf
  · cases hf
    obtain ⟨v, rfl, rv⟩ := r.one
    cases rv
    exact call_int1 pins s σ H _ us Q I rs (.inl ⟨_, rfl, k _ _ _ (Ext.refl sb) (.int _)⟩)
  · cases hf
    obtain ⟨v, rfl, rv⟩ := r.one
    cases rv
    exact call_int1 pins s σ H _ us Q I rs (.inr ⟨_, rfl, k _ _ _ (Ext.refl sb) (.int _)⟩)
  · cases hf
theorem b_listO : CallR X (.type "list") (cO cList) := by
  intro pins s σ H xs us Q I rs ⟨V, ds, d, sb, r, hf, k⟩
  have go : ∀ {p : Addr} (h : H p = none), V p = none := fun {p} h => by
    cases e : V p with
    | none => rfl
    | some u => rw [sb p u e] at h; cases h
  unfold cList at hf
  split at hf
  · cases hf
    obtain ⟨v, rfl, rv⟩ := r.one
    cases rv with
    | lst e rr => exact call_list_of pins s σ H _ us Q I rs ⟨_, _, rfl, .inl (SqL.of (sb _ _ e)), fun l hl => k l V _ (Ext.hid sb hl) hl (go hl) ⟨_, upd_same, rr⟩⟩
  · cases hf
    obtain ⟨v, rfl, rv⟩ := r.one
    cases rv with
    | tup e rr => exact call_list_of pins s σ H _ us Q I rs ⟨_, _, rfl, .inr (SqT.of (sb _ _ e)), fun l hl => k l V _ (Ext.hid sb hl) hl (go hl) ⟨_, upd_same, rr⟩⟩
  · cases hf
theorem b_list : CallR X (.type "list") (cD cList) := by
  intro pins s σ H xs us Q I rs ⟨V, ds, d, sb, r, hf, k⟩
  unfold cList at hf
  split at hf
  · cases hf
    obtain ⟨v, rfl, rv⟩ := r.one
    cases rv with
    | lst e rr => exact call_list_of pins s σ H _ us Q I rs ⟨_, _, rfl, .inl (SqL.of (sb _ _ e)), fun l hl => k _ _ _ (Ext.new sb hl) (.lst upd_same (rr.mono (Ext.new sb hl).v))⟩
  · cases hf
    obtain ⟨v, rfl, rv⟩ := r.one
    cases rv with
    | tup e rr => exact call_list_of pins s σ H _ us Q I rs ⟨_, _, rfl, .inr (SqT.of (sb _ _ e)), fun l hl => k _ _ _ (Ext.new sb hl) (.lst upd_same (rr.mono (Ext.new sb hl).v))⟩
  · cases hf
theorem b_tuple : CallR X (.type "tuple") (cD cTuple) := by
  intro pins s σ H xs us Q I rs ⟨V, ds, d, sb, r, hf, k⟩
  unfold cTuple at hf
  split at hf
  · cases hf
    obtain ⟨v, rfl, rv⟩ := r.one
    cases rv with
    | lst e rr => exact call_tuple_of pins s σ H _ us Q I rs ⟨_, _, rfl, .inl ⟨SqL.of (sb _ _ e), fun l hl => k _ _ _ (Ext.new sb hl) (.tup upd_same (rr.mono (Ext.new sb hl).v))⟩⟩
  · cases hf
    obtain ⟨v, rfl, rv⟩ := r.one
    cases rv with
    | tup e rr => exact call_tuple_of pins s σ H _ us Q I rs ⟨_, _, rfl, .inr ⟨SqT.of (sb _ _ e), k _ _ _ (Ext.refl sb) (.tup e rr)⟩⟩
  · cases hf
theorem maxI_spec : ∀ {ns : List Int} {m : Int}, maxI ns = some m → m ∈ ns ∧ ∀ y, y ∈ ns → y ≤ m := by
  intro ns m h
  cases ns with
  | nil => cases h
  | cons x r =>
    have h : r.foldl (fun a b => if b > a then b else a) x = m := Option.some.inj h
    have go : ∀ (r : List Int) (x m : Int), r.foldl (fun a b => if b > a then b else a) x = m → (m = x ∨ m ∈ r) ∧ x ≤ m ∧ ∀ y, y ∈ r → y ≤ m := by
      intro r
      induction r with
      | nil => intro x m h; exact ⟨.inl h.symm, by have h : x = m := h; omega, fun y hy => by cases hy⟩
      | cons z r ih =>
        intro x m h
        obtain ⟨h1, h2, h3⟩ := ih _ _ h
        by_cases c : z > x
        · dsimp only at h1 h2
          rw [if_pos c] at h1 h2
          refine ⟨.inr ?_, by omega, fun y hy => ?_⟩
          · rcases h1 with rfl | h1
            · exact List.mem_cons_self
            · exact List.mem_cons_of_mem _ h1
          · rcases List.mem_cons.mp hy with rfl | hy
            · exact h2
            · exact h3 y hy
        · dsimp only at h1 h2
          rw [if_neg c] at h1 h2
          refine ⟨?_, h2, fun y hy => ?_⟩
          · rcases h1 with rfl | h1
            · exact .inl rfl
            · exact .inr (List.mem_cons_of_mem _ h1)
          · rcases List.mem_cons.mp hy with rfl | hy
            · omega
            · exact h3 y hy
    obtain ⟨h1, h2, h3⟩ := go r x m h
    refine ⟨?_, fun y hy => ?_⟩
    · rcases h1 with rfl | h1
      · exact List.mem_cons_self
      · exact List.mem_cons_of_mem _ h1
    · rcases List.mem_cons.mp hy with rfl | hy
      · exact h2
      · exact h3 y hy
theorem b_max (hc : X.calm = true) : CallR X (.builtin "max") (cD cMax) := by
  intro pins s σ H xs us Q I rs ⟨V, ds, d, sb, r, hf, k⟩
  unfold cMax at hf
  split at hf
  · rename_i ys
    cases hi : asInts ys with
    | none => rw [hi] at hf; cases hf
    | some ns =>
      rw [hi] at hf
      cases hm : maxI ns with
      | none => simp only [Option.bind_some, hm] at hf; cases hf
      | some m =>
        simp only [Option.bind_some, hm] at hf
        cases hf
        obtain ⟨v, rfl, rv⟩ := r.one
        cases rv with
        | lst e rr =>
          have z := ints_of rr hi
          subst z
          obtain ⟨m1, m2⟩ := maxI_spec hm
          refine cr_max hc pins s σ H _ us Q I rs ⟨_, _, rfl, SqL.of (sb _ _ e), List.length_pos_of_mem m1, fun m' h1 h2 => ?_⟩
          have : m' = m := by have := h2 m m1; have := m2 m' h1; omega
          subst this
          exact k _ _ _ (Ext.refl sb) (.int _)
  · cases hf
theorem bools_of {V : Hp} : ∀ {ds : List D} {xs : List Vl} {ns : List Bool}, RpL V xs ds → asBools ds = some ns → xs = ns.map .bl
  | [], _, _, .nil, h => by cases h; rfl
  | d :: ds, _, ns, .cons r rs, h => by
    cases d with
    | bool i =>
      cases r
      cases q : asBools ds with
      | none => simp [asBools, q] at h
      | some ms =>
        simp [asBools, q] at h
        subst h
        rw [bools_of rs q]; rfl
    | _ => cases h
theorem b_all (hc : X.calm = true) : CallR X (.builtin "all") (cD cAll) := by
  intro pins s σ H xs us Q I rs ⟨V, ds, d, sb, r, hf, k⟩
  unfold cAll at hf
  split at hf
  · rename_i ys
    cases hi : asBools ys with
    | none => rw [hi] at hf; cases hf
    | some ns =>
      rw [hi] at hf
      cases hf
      obtain ⟨v, rfl, rv⟩ := r.one
      cases rv with
      | lst e rr =>
        have z := bools_of rr hi
        subst z
        exact cr_all hc pins s σ H _ us Q I rs ⟨_, _, rfl, SqL.of (sb _ _ e), k _ _ _ (Ext.refl sb) (.bl _)⟩
  · cases hf
theorem b_any (hc : X.calm = true) : CallR X (.builtin "any") (cD cAny) := by
  intro pins s σ H xs us Q I rs ⟨V, ds, d, sb, r, hf, k⟩
  unfold cAny at hf
  split at hf
  · rename_i ys
    cases hi : asBools ys with
    | none => rw [hi] at hf; cases hf
    | some ns =>
      rw [hi] at hf
      cases hf
      obtain ⟨v, rfl, rv⟩ := r.one
      cases rv with
      | lst e rr =>
        have z := bools_of rr hi
        subst z
        exact cr_any hc pins s σ H _ us Q I rs ⟨_, _, rfl, SqL.of (sb _ _ e), k _ _ _ (Ext.refl sb) (.bl _)⟩
  · cases hf
end
end DL
set_option Elab.async false
set_option linter.all false
set_option maxRecDepth 100000
set_option maxHeartbeats 1000000
namespace DL
open PySem PySem.Spec PyProof.Rows
open L2 hiding St V
structure WalkD (J : It) (V : Hp) (items : List D) : Prop where
  go : ∀ i V1 H1, Sub V V1 → Sub V1 H1 → i < items.length → J.go i H1
  stop : ∀ V1 H1, Sub V V1 → Sub V1 H1 → J.stop items.length H1
  yld : ∀ i V1 H1 x H2 d, Sub V V1 → Sub V1 H1 → items[i]? = some d → J.yld i H1 x H2 → ∃ V2, Ext V1 H1 V2 H2 ∧ Rp V2 x d
def PostI (K : KF) (EX : EXP) (R : It → Hp → Prop) (σ : St) (env : Env) (w : Wd) : Option (ResL × Bx) → Prop
  | none => False
  | some (.ok ds, bx) => ∀ J w', w'.bx = bx → Gr w w' → StR K σ env w' → ds.length ≤ sizeLine → WalkD J w'.V ds → R J w'.H
  | some (.exc c d, bx) => ∀ w', w'.bx = bx → Gr w w' → StR K σ env w' → EX c d w'
def tXI (K : KF) (EX : EXP) (m : MA) : TI := fun σ H Q => ∃ w env, w.H = H ∧ StR K σ env w ∧ PostI K EX Q σ env w (m env w.bx)
def maSeq (m : M) : MA := fun env b =>
  match m env b with
  | none => none
  | some (.exc c d, b) => some (.exc c d, b)
  | some (.ok d, b) => (seqOf d).map fun ds => (.ok ds, b)
def maOf (g : List D → Option (List D)) (m : MA) : MA := fun env b =>
  match m env b with
  | none => none
  | some (.exc c d, b) => some (.exc c d, b)
  | some (.ok d, b) => (g d).map fun ds => (.ok ds, b)
def plSeq (m : P) : PL := fun env b => (m env b).bind seqOf
def plOf (g : List D → Option (List D)) (m : PL) : PL := fun env b => (m env b).bind g
theorem lift_aseq (m : P) : maSeq (lift m) = liftA (plSeq m) := by
  funext env b
  unfold maSeq lift liftA plSeq
  cases m env b <;> rfl
theorem lift_aof (g : List D → Option (List D)) (m : PL) : maOf g (liftA m) = liftA (plOf g m) := by
  funext env b
  unfold maOf liftA plOf
  cases m env b <;> rfl
def rangeD (lo hi : Int) : List D := (List.range (hi - lo).toNat).map fun i => .int (lo + (i : Nat))
def rgOk (lo hi : Int) : Bool := decide (-(2 ^ 62) ≤ lo) && decide (lo < 2 ^ 62) && decide (-(2 ^ 62) ≤ hi) && decide (hi < 2 ^ 62) && decide ((hi - lo).toNat ≤ SZ)
def range1 : List D → Option (List D)
  | [.int j] => if rgOk 0 j then some (rangeD 0 j) else none
  | _ => none
def range2 : List D → Option (List D)
  | [.int i, .int j] => if rgOk i j then some (rangeD i j) else none
  | _ => none
def range3 : List D → Option (List D)
  | [.int i, .int j, .int c] => if decide (c ≠ 0) && decide (c.natAbs < 1073741824) && Builtin.Range.small i j c && decide (0 ≤ Builtin.Range.rangeSize i j c) && decide ((Builtin.Range.rangeSize i j c).toNat ≤ SZ) then some ((List.range (Builtin.Range.rangeSize i j c).toNat).map fun (k : Nat) => .int (i + (k : Int) * c)) else none
  | _ => none
def enumD (xs : List D) : List D := xs.zipIdx.map fun p => .tuple [.int (p.2 : Nat), p.1]
section
variable {X : Cx} {EX : EXP} {e tg : Expr} {es : List Expr} {m : M} {ms : MA} {pos : Pos}
theorem pie_map {pins : List (Addr × Obj)} {σ : St} {R R' : It → Hp → Prop} {itv : Value} {s2 : Shared} (h : PIE X pins σ tg R' itv s2) (k : ∀ J H', Inv X pins σ H' s2 → R' J H' → R J H') : PIE X pins σ tg R itv s2 := by
  obtain ⟨it, fp, tn, J, H', h1, h2, h3, h4, h5, h6⟩ := h
  exact ⟨it, fp, tn, J, H', h1, h2, h3, h4, h5, k J H' h2 h6⟩
theorem pi_run {t t' : TI} (h : PI X tg e t') (k : ∀ σ H R, t σ H R → ∃ R', t' σ H R' ∧ ∀ pins s2 J H', Inv X pins σ H' s2 → R' J H' → R J H') : PI X tg e t := by
  refine ⟨fun pins s σ H R I q => ?_⟩
  obtain ⟨R', h1, h2⟩ := k σ H R q
  exact thn (h.run pins s σ H R' I h1) fun v s1 z => thn z fun itv s2 z => pie_map z fun J H' I' r => h2 pins s2 J H' I' r
theorem walkD_list {K : KF} {V : Hp} {a : Addr} {xs : List Vl} {ds : List D} (h : V a = some (.lst xs)) (r : RpL V xs ds) : WalkD (Itl K a) V ds where
  go i V1 H1 s1 s2 hi := by
    have hi' : i < xs.length := by rw [r.length]; exact hi
    exact ⟨xs, xs[i], SqL.of (s2 _ _ (s1 _ _ h)), List.getElem?_eq_getElem hi'⟩
  stop V1 H1 s1 s2 := ⟨xs, SqL.of (s2 _ _ (s1 _ _ h)), by rw [r.length]; exact Nat.le_refl _⟩
  yld i V1 H1 x H2 d s1 s2 hd hy := by
    obtain ⟨rfl, hx⟩ := hy
    have hx' := hx xs (SqL.of (s2 _ _ (s1 _ _ h)))
    obtain ⟨d', h1, h2⟩ := r.get i x hx'
    rw [hd] at h1
    cases h1
    exact ⟨V1, Ext.refl s2, h2.mono s1⟩
theorem walkD_tup {K : KF} {V : Hp} {a : Addr} {xs : List Vl} {ds : List D} (h : V a = some (.tup xs)) (r : RpL V xs ds) : WalkD (Itt K a) V ds where
  go i V1 H1 s1 s2 hi := by
    have hi' : i < xs.length := by rw [r.length]; exact hi
    exact ⟨xs, xs[i], SqT.of (s2 _ _ (s1 _ _ h)), List.getElem?_eq_getElem hi'⟩
  stop V1 H1 s1 s2 := ⟨xs, SqT.of (s2 _ _ (s1 _ _ h)), by rw [r.length]; exact Nat.le_refl _⟩
  yld i V1 H1 x H2 d s1 s2 hd hy := by
    obtain ⟨rfl, hx⟩ := hy
    have hx' := hx xs (SqT.of (s2 _ _ (s1 _ _ h)))
    obtain ⟨d', h1, h2⟩ := r.get i x hx'
    rw [hd] at h1
    cases h1
    exact ⟨V1, Ext.refl s2, h2.mono s1⟩
theorem aseq_out {σ : St} {env : Env} {w : Wd} {R : It → Hp → Prop} (p : PostI X.K EX R σ env w (maSeq m env w.bx)) :
    (∃ c d b, m env w.bx = some (.exc c d, b)) ∨ (∃ ds b, m env w.bx = some (.ok (.list ds), b)) ∨ ∃ ds b, m env w.bx = some (.ok (.tuple ds), b) := by
  unfold maSeq at p
  cases hm : m env w.bx with
  | none => rw [hm] at p; exact p.elim
  | some q =>
    obtain ⟨r, b⟩ := q
    rw [hm] at p
    cases r with
    | exc c d => exact .inl ⟨c, d, b, rfl⟩
    | ok d =>
      cases d with
      | list ds => exact .inr (.inl ⟨ds, b, rfl⟩)
      | tuple ds => exact .inr (.inr ⟨ds, b, rfl⟩)
      | _ => exact p.elim
theorem i_seq (he : PE X e (tX X.K EX m)) : PI X tg e (tXI X.K EX (maSeq m)) := by
  refine ⟨fun pins s σ H R I ⟨w, env, hw, st, p⟩ => ?_⟩
  subst hw
  have hL : ∀ {ds : List D} {b : Bx}, m env w.bx = some (.ok (.tuple ds), b) → False ∨ True := fun _ => .inr trivial
  rcases aseq_out p with ⟨c, d, b, hm⟩ | ⟨ds, b, hm⟩ | ⟨ds, b, hm⟩
  · refine (pi_list he).run pins s σ w.H R I ⟨w, env, rfl, st, ?_⟩
    unfold maSeq at p
    rw [hm] at p ⊢
    exact p
  · refine thn ((pi_list (tg := tg) he).run pins s σ w.H (fun J H' => ∃ a xs, SqL X.K H' a xs ∧ xs.length = ds.length ∧ (ds.length ≤ sizeLine → R J H')) I ⟨w, env, rfl, st, ?_⟩) fun v s1 z => thn z fun itv s2 z => pie_map z fun J H' I' r => ?_
    · unfold maSeq at p
      rw [hm] at p ⊢
      intro v w1 hb g1 s1 r1
      cases r1 with
      | lst ha ra => exact ⟨_, rfl, ⟨_, SqL.of (s1.vh _ _ ha)⟩, _, _, SqL.of (s1.vh _ _ ha), ra.length, fun hz => p _ w1 hb g1 s1 hz (walkD_list ha ra)⟩
    · obtain ⟨a, xs, h1, h2, h3⟩ := r
      obtain ⟨_, _, _, hz⟩ := I'.list h1
      exact h3 (by rw [← h2]; exact hz)
  · refine thn ((pi_tup (tg := tg) he).run pins s σ w.H (fun J H' => ∃ a xs, SqT X.K H' a xs ∧ xs.length = ds.length ∧ (ds.length ≤ sizeLine → R J H')) I ⟨w, env, rfl, st, ?_⟩) fun v s1 z => thn z fun itv s2 z => pie_map z fun J H' I' r => ?_
    · unfold maSeq at p
      rw [hm] at p ⊢
      intro v w1 hb g1 s1 r1
      cases r1 with
      | tup ha ra => exact ⟨_, rfl, ⟨_, SqT.of (s1.vh _ _ ha)⟩, _, _, SqT.of (s1.vh _ _ ha), ra.length, fun hz => p _ w1 hb g1 s1 hz (walkD_tup ha ra)⟩
    · obtain ⟨a, xs, h1, h2, h3⟩ := r
      obtain ⟨_, _, _, hz⟩ := I'.tuple h1
      exact h3 (by rw [← h2]; exact hz)
theorem aof_of {K : KF} {g : List D → Option (List D)} {σ : St} {H : Hp} {R : It → Hp → Prop} (h : tXI K EX (maOf g ms) σ H R) :
    tXA K EX ms σ H fun vs H1 => ∃ σ' env w ds ds', w.H = H1 ∧ StR K σ' env w ∧ RpL w.V vs ds ∧ g ds = some ds' ∧ ∀ J V' H', Ext w.V w.H V' H' → ds'.length ≤ sizeLine → WalkD J V' ds' → R J H' := by
  obtain ⟨w, env, hw, s, p⟩ := h
  subst hw
  refine ⟨w, env, rfl, s, ?_⟩
  unfold maOf at p
  cases hm : ms env w.bx with
  | none => rw [hm] at p; exact p.elim
  | some q =>
    obtain ⟨r, b⟩ := q
    rw [hm] at p
    cases r with
    | exc c d => exact p
    | ok ds =>
      intro vs w1 hb g1 s1 r1
      subst hb
      cases hd : g ds with
      | none => simp only [hd] at p; exact p.elim
      | some ds' =>
        simp only [hd, Option.map_some] at p
        exact ⟨σ, env, w1, ds, ds', rfl, s1, r1, hd, fun J V' H' x hz hW => p J (w1.to V' H') rfl (g1.trans x.gr) (s1.ext' x) hz hW⟩
theorem walkD_range {V : Hp} {lo hi : Int} : WalkD (Itr lo (hi - lo).toNat) V (rangeD lo hi) where
  go i V1 H1 s1 s2 hi' := by
    have : i < (hi - lo).toNat := by simpa [rangeD] using hi'
    exact this
  stop V1 H1 s1 s2 := by
    have : (hi - lo).toNat ≤ (rangeD lo hi).length := by simp [rangeD]
    exact this
  yld i V1 H1 x H2 d s1 s2 hd hy := by
    obtain ⟨rfl, rfl⟩ := hy
    unfold rangeD at hd
    rw [List.getElem?_map] at hd
    cases hr : (List.range (hi - lo).toNat)[i]? with
    | none => rw [hr] at hd; cases hd
    | some j =>
      rw [hr] at hd
      cases hd
      have : j = i := by
        rw [List.getElem?_eq_some_iff] at hr
        obtain ⟨h1, h2⟩ := hr
        rw [List.getElem_range] at h2
        exact h2.symm
      subst this
      exact ⟨V1, Ext.refl s2, .int _⟩
theorem rgOk_spec {lo hi : Int} (h : rgOk lo hi = true) : -(2 ^ 62) ≤ lo ∧ lo < 2 ^ 62 ∧ -(2 ^ 62) ≤ hi ∧ hi < 2 ^ 62 ∧ (hi - lo).toNat ≤ SZ := by
  unfold rgOk at h
  simp only [Bool.and_eq_true, decide_eq_true_eq] at h
  exact ⟨h.1.1.1.1, h.1.1.1.2, h.1.1.2, h.1.2, h.2⟩
theorem rangeD_len (lo hi : Int) : (rangeD lo hi).length = (hi - lo).toNat := by simp [rangeD]
theorem i_range1 (h : PI X tg e (iRng1 (tXA X.K EX ms))) : PI X tg e (tXI X.K EX (maOf range1 ms)) := h.imp fun σ H R h => by
  obtain ⟨w, env, hw, st, p⟩ := aof_of h
  refine ⟨w, env, hw, st, ?_⟩
  revert p
  cases ms env w.bx with
  | none => exact id
  | some q =>
    obtain ⟨r, b⟩ := q
    cases r with
    | exc c d => exact id
    | ok ds =>
      intro p vs w1 hb g1 s1 r1
      obtain ⟨_, _, w2, ds, ds', hw2, s2, r2, hd, k⟩ := p vs w1 hb g1 s1 r1
      unfold range1 at hd
      split at hd
      · split at hd
        · rename_i j hz
          cases hd
          obtain ⟨v, rfl, rv⟩ := r2.one
          cases rv
          obtain ⟨h1, h2, h3, h4, h5⟩ := rgOk_spec hz
          refine ⟨j, rfl, h3, h4, ?_⟩
          rw [← hw2]
          have e : (j - 0).toNat = j.toNat := by rw [Int.sub_zero]
          rw [← e]
          exact k _ _ _ (Ext.refl s2.vh) (by rw [rangeD_len]; exact szLine h5) walkD_range
        · cases hd
      · cases hd
theorem i_range2 (h : PI X tg e (iRng2 (tXA X.K EX ms))) : PI X tg e (tXI X.K EX (maOf range2 ms)) := h.imp fun σ H R h => by
  obtain ⟨w, env, hw, st, p⟩ := aof_of h
  refine ⟨w, env, hw, st, ?_⟩
  revert p
  cases ms env w.bx with
  | none => exact id
  | some q =>
    obtain ⟨r, b⟩ := q
    cases r with
    | exc c d => exact id
    | ok ds =>
      intro p vs w1 hb g1 s1 r1
      obtain ⟨_, _, w2, ds, ds', hw2, s2, r2, hd, k⟩ := p vs w1 hb g1 s1 r1
      unfold range2 at hd
      split at hd
      · split at hd
        · rename_i i j hz
          cases hd
          obtain ⟨v, u, rfl, rv, ru⟩ := r2.two
          cases rv; cases ru
          obtain ⟨h1, h2, h3, h4, h5⟩ := rgOk_spec hz
          refine ⟨i, j, rfl, ⟨h1, h2, h3, h4⟩, ?_⟩
          rw [← hw2]
          exact k _ _ _ (Ext.refl s2.vh) (by rw [rangeD_len]; exact szLine h5) walkD_range
        · cases hd
      · cases hd
theorem i_range3 (h : PI X tg e (iRng3 (tXA X.K EX ms))) : PI X tg e (tXI X.K EX (maOf range3 ms)) := h.imp fun σ H R h => by
  obtain ⟨w, env, hw, st, p⟩ := aof_of h
  refine ⟨w, env, hw, st, ?_⟩
  revert p
  cases ms env w.bx with
  | none => exact id
  | some q =>
    obtain ⟨r, b⟩ := q
    cases r with
    | exc c d => exact id
    | ok ds =>
      intro p vs w1 hb g1 s1 r1
      obtain ⟨_, _, w2, ds, ds', hw2, s2, r2, hd, k⟩ := p vs w1 hb g1 s1 r1
      unfold range3 at hd
      split at hd
      · split at hd
        · rename_i i j c hz
          cases hd
          simp only [Bool.and_eq_true, decide_eq_true_eq] at hz
          cases r2 with
          | cons r1' r2 =>
            obtain ⟨v, u, rfl, rv, ru⟩ := r2.two
            cases r1'; cases rv; cases ru
            refine ⟨i, j, c, (Builtin.Range.rangeSize i j c).toNat, rfl, ⟨hz.1.1.1.1, hz.1.1.1.2, hz.1.1.2, (Int.toNat_of_nonneg hz.1.2).symm⟩, ?_⟩
            rw [← hw2]
            refine k _ _ _ (Ext.refl s2.vh) (by rw [List.length_map, List.length_range]; exact szLine hz.2) ⟨fun i V1 H1 _ _ hi' => ?_, fun V1 H1 _ _ => ?_, fun i V1 H1 x H2 d _ s3 hd hy => ?_⟩
            · rw [List.length_map, List.length_range] at hi'; exact hi'
            · show _ ≤ _
              rw [List.length_map, List.length_range]; exact Nat.le_refl _
            · obtain ⟨rfl, rfl⟩ := hy
              rw [List.getElem?_map] at hd
              obtain ⟨q, hr, rfl⟩ := Option.map_eq_some_iff.mp hd
              have : q = i := by
                rw [List.getElem?_eq_some_iff] at hr
                obtain ⟨h1, h2⟩ := hr
                rw [List.getElem_range] at h2
                exact h2.symm
              subst this
              exact ⟨V1, Ext.refl s3, .int _⟩
        · cases hd
      · cases hd
end
end DL
set_option Elab.async false
set_option linter.all false
set_option maxRecDepth 100000
set_option maxHeartbeats 1000000
namespace DL
open PySem PySem.Spec PyProof.Rows
open L2 hiding St V
abbrev Tg := D → Env → Option Env
def PostG (K : KF) (Q : St → Hp → Prop) (σ : St) (w : Wd) (vs : List Nat) : Option Env → Prop
  | none => False
  | some env' => ∀ σ', StR K σ' env' w → (∀ j : Nat, j ∉ vs → σ'[j]? = σ[j]?) → σ'.length = σ.length → Q σ' w.H
def tXG (K : KF) (f : Tg) (vs : List Nat) : TG := fun v σ H Q => ∃ w env d, w.H = H ∧ StR K σ env w ∧ Rp w.V v d ∧ PostG K Q σ w vs (f d env)
def gN (i : Nat) : Tg := fun d env => if i < env.length then some (env.set i (some (.dat d))) else none
theorem StR.set {K : KF} {σ : St} {env : Env} {w : Wd} {i : Nat} {v : Vl} {c : Cel} (s : StR K σ env w) (r : CelR K w.as w.V v c) : StR K (σ.set i (some v)) (env.set i (some c)) w where
  vh := s.vh
  len := by rw [List.length_set, List.length_set]; exact s.len
  cel j c' h := by
    by_cases e : i = j
    · subst e
      rw [List.getElem?_set_self'] at h
      cases hh : env[i]? with
      | none => rw [hh] at h; cases h
      | some q =>
        rw [hh] at h
        cases h
        refine ⟨v, ?_, r⟩
        rw [List.getElem?_set_self']
        have : i < σ.length := by
          rw [s.len]
          rcases Nat.lt_or_ge i env.length with h' | h'
          · exact h'
          · rw [List.getElem?_eq_none h'] at hh; cases hh
        rw [List.getElem?_eq_getElem this]; rfl
    · rw [List.getElem?_set_ne e] at h ⊢
      exact s.cel j c' h
  lenB := s.lenB
  nd := s.nd
  box := s.box
section
variable {X : Cx} {EX : EXP} {e tg : Expr} {es : List Expr} {m : M} {pos : Pos}
theorem g_name {i : Nat} (h : PG X tg (gName i)) : PG X tg (tXG X.K (gN i) [i]) := ⟨fun pins s σ H v u Q I r ⟨w, env, d, hw, st, rv, p⟩ => by
  subst hw
  refine h.run pins s σ w.H v u Q I r ?_
  show Q (σ.set i (some v)) w.H
  unfold gN at p
  split at p
  · refine p _ (st.set rv) (fun j hj => ?_) (by rw [List.length_set])
    rw [List.getElem?_set_ne]
    intro z; subst z; exact hj List.mem_cons_self
  · exact p.elim⟩
abbrev Tgs := List D → Env → Option Env
def tXGs (K : KF) (f : Tgs) (vs : List Nat) : TGs := fun v σ H Q => ∃ w env d, w.H = H ∧ StR K σ env w ∧ RpL w.V v d ∧ PostG K Q σ w vs (f d env)
def gsNil : Tgs := fun ds env => match ds with
  | [] => some env
  | _ => none
def gsCons (f : Tg) (r : Tgs) : Tgs := fun ds env => match ds with
  | d :: ds => (f d env).bind fun env => r ds env
  | [] => none
theorem gs_nil : PGs X [] (tXGs X.K gsNil []) := ⟨fun pins s σ H vs us Q I r ⟨w, env, d, hw, st, rv, p⟩ => by
  subst hw
  cases rv with
  | nil => exact pgs_nil.run pins s σ w.H _ us Q I r ⟨rfl, p σ st (fun _ _ => rfl) rfl⟩
  | cons a b => exact p.elim⟩
theorem gs_cons {f : Tg} {r : Tgs} {vs ws : List Nat} (h1 : PG X e (tXG X.K f vs)) (h2 : PGs X es (tXGs X.K r ws)) (hs : (assignEach (e :: es) X.env).map (·.2) = assign e X.env :: (assignEach es X.env).map (·.2) := by rfl) : PGs X (e :: es) (tXGs X.K (gsCons f r) (vs ++ ws)) :=
  ⟨fun pins s σ H xs us Q I rr ⟨w, env, d, hw, st, rv, p⟩ => by
    subst hw
    refine (pgs_cons h1 h2 hs).run pins s σ w.H xs us Q I rr ?_
    cases rv with
    | nil => exact p.elim
    | @cons v vs' d ds a b =>
      refine ⟨v, vs', rfl, w, env, d, rfl, st, a, ?_⟩
      unfold gsCons at p
      cases hf : f d env with
      | none => simp only [hf, Option.bind_none] at p; exact p.elim
      | some env1 =>
        simp only [hf, Option.bind_some] at p
        intro σ1 st1 k1 l1
        refine ⟨w, env1, ds, rfl, st1, b, ?_⟩
        revert p
        cases r ds env1 with
        | none => exact id
        | some env2 =>
          intro p σ2 st2 k2 l2
          refine p σ2 st2 (fun j hj => ?_) (l2.trans l1)
          rw [List.mem_append, not_or] at hj
          rw [k2 j hj.2, k1 j hj.1]⟩
def gT (n : Nat) (r : Tgs) : Tg := fun d env => match d with
  | .tuple ds => if ds.length = n then r ds env else none
  | _ => none
theorem g_tup {r : Tgs} {n : Nat} {vs : List Nat} {k : Nat} (hc : X.calm = true) (h : PGs X es (tXGs X.K r vs)) (hn : (assignEach es X.env).length = n := by rfl) (hp : PG X (.Tuple es k pos) (gTup X.K n (tXGs X.K r vs))) : PG X (.Tuple es k pos) (tXG X.K (gT n r) vs) :=
  ⟨fun pins s σ H v u Q I rr ⟨w, env, d, hw, st, rv, p⟩ => by
    subst hw
    refine hp.run pins s σ w.H v u Q I rr ?_
    unfold gT at p
    split at p
    · rename_i ds
      split at p
      · rename_i hl
        cases rv with
        | tup ha ra => exact ⟨_, _, rfl, SqT.of (st.vh _ _ ha), by rw [ra.length]; exact hl, w, env, ds, rfl, st, ra, p⟩
      · exact p.elim
    · exact p.elim⟩
end
inductive Out where
  | nx (env : Env)
  | rt (d : D)
  | bk (env : Env)
  | ct (env : Env)
  | exc (c : Str) (d : D)
abbrev S := Env → Bx → Option (Out × Bx)
def PostS (K : KF) (EX : EXP) (D : Ends) (w : Wd) : Option (Out × Bx) → Prop
  | none => False
  | some (.nx env, bx) => ∀ σ w', w'.bx = bx → Gr w w' → StR K σ env w' → D.nx σ w'.H
  | some (.rt d, bx) => ∀ v σ env w', w'.bx = bx → Gr w w' → StR K σ env w' → Rp w'.V v d → D.rt v w'.H
  | some (.bk env, bx) => ∀ σ w', w'.bx = bx → Gr w w' → StR K σ env w' → D.bk σ w'.H
  | some (.ct env, bx) => ∀ σ w', w'.bx = bx → Gr w w' → StR K σ env w' → D.ct σ w'.H
  | some (.exc c d, bx) => ∀ σ env w', w'.bx = bx → Gr w w' → StR K σ env w' → EX c d w'
def tS (K : KF) (EX : EXP) (m : S) : TS := fun D σ H => ∃ w env, w.H = H ∧ StR K σ env w ∧ PostS K EX D w (m env w.bx)
theorem PostS.grow {K : KF} {EX : EXP} {D : Ends} {w w1 : Wd} {o : Option (Out × Bx)} (g : Gr w w1) (p : PostS K EX D w o) : PostS K EX D w1 o := by
  match o, p with
  | some (.nx d, b), p => exact fun σ w' h g' e => p σ w' h (g.trans g') e
  | some (.rt d, b), p => exact fun v σ env w' h g' e r => p v σ env w' h (g.trans g') e r
  | some (.bk d, b), p => exact fun σ w' h g' e => p σ w' h (g.trans g') e
  | some (.ct d, b), p => exact fun σ w' h g' e => p σ w' h (g.trans g') e
  | some (.exc c d, b), p => exact fun σ env w' h g' e => p σ env w' h (g.trans g') e
def sNil : S := fun env b => some (.nx env, b)
def sSeq (s t : S) : S := fun env b =>
  match s env b with
  | some (.nx e, b) => t e b
  | o => o
def sAsg (f : Tg) (m : M) : S := fun env b =>
  match m env b with
  | none => none
  | some (.exc c d, b) => some (.exc c d, b)
  | some (.ok d, b) => (f d env).map fun e => (.nx e, b)
def sNew (i : Nat) (m : M) : S := fun env b =>
  match m env b with
  | none => none
  | some (.exc c d, b) => some (.exc c d, b)
  | some (.ok d, b) => if i < env.length then some (.nx (env.set i (some (.bx b.length))), b ++ [.live d]) else none
def sDo (m : M) : S := fun env b =>
  match m env b with
  | none => none
  | some (.exc c d, b) => some (.exc c d, b)
  | some (.ok _, b) => some (.nx env, b)
def sRet (m : M) : S := fun env b =>
  match m env b with
  | none => none
  | some (.exc c d, b) => some (.exc c d, b)
  | some (.ok d, b) => some (.rt d, b)
def sIf (c : M) (s t : S) : S := fun env b =>
  match c env b with
  | none => none
  | some (.exc c d, b) => some (.exc c d, b)
  | some (.ok d, b) => match truthD d with
    | some true => s env b
    | some false => t env b
    | none => none
def loopS (f : Tg) (body : S) : List D → Env → Bx → Option (Out × Bx)
  | [], env, b => some (.nx env, b)
  | d :: ds, env, b => match f d env with
    | none => none
    | some env1 => match body env1 b with
      | some (.nx e, b) => loopS f body ds e b
      | some (.ct e, b) => loopS f body ds e b
      | some (.bk e, b) => some (.nx e, b)
      | o => o
def sFor (f : Tg) (mi : MA) (body : S) : S := fun env b =>
  match mi env b with
  | none => none
  | some (.exc c d, b) => some (.exc c d, b)
  | some (.ok ds, b) => loopS f body ds env b
section
variable {X : Cx} {EX : EXP} {st : Stmt} {rest : List Stmt} {e c tg : Expr} {m mc : M} {s t : S} {pos : Pos}
theorem ss_nil : PSs X [] (tS X.K EX sNil) := pss_nil.imp fun D σ H ⟨w, env, hw, sr, p⟩ => by
  subst hw
  exact p σ w rfl (Gr.refl w) sr
theorem ss_cons (h1 : PS X st (tS X.K EX s)) (h2 : PSs X rest (tS X.K EX t)) : PSs X (st :: rest) (tS X.K EX (sSeq s t)) := (pss_cons h1 h2).imp fun D σ H ⟨w, env, hw, sr, p⟩ => by
  subst hw
  refine ⟨w, env, rfl, sr, ?_⟩
  unfold sSeq at p
  cases hs : s env w.bx with
  | none => rw [hs] at p; exact p.elim
  | some q =>
    obtain ⟨o, b⟩ := q
    rw [hs] at p
    cases o with
    | nx env1 =>
      intro σ1 w1 hb g1 s1
      subst hb
      exact ⟨w1, env1, rfl, s1, PostS.grow g1 p⟩
    | rt d => exact p
    | bk d => exact p
    | ct d => exact p
    | exc c d => exact p
theorem ss_one (h1 : PS X st (tS X.K EX s)) : PSs X [st] (tS X.K EX s) := pss_one h1
theorem s_expr {De : Ends} {K : KF} {σ : St} {env : Env} {w : Wd} {R : Vl → Hp → Prop} (sr : StR K σ env w) {m : M} {o : D → Bx → Option (Out × Bx)}
    (p : PostS K EX De w (match m env w.bx with
      | none => none
      | some (.exc c d, b) => some (.exc c d, b)
      | some (.ok d, b) => o d b))
    (k : ∀ d v w', Gr w w' → StR K σ env w' → Rp w'.V v d → PostS K EX De w' (o d w'.bx) → R v w'.H) : tX K EX m σ w.H R := by
  refine ⟨w, env, rfl, sr, ?_⟩
  cases hm : m env w.bx with
  | none => rw [hm] at p; exact p.elim
  | some q =>
    obtain ⟨r, b⟩ := q
    rw [hm] at p
    cases r with
    | exc c d => exact fun w' hb g e => p σ env w' hb g e
    | ok d =>
      intro v w' hb g e r
      subst hb
      exact k d v w' g e r (PostS.grow g p)
theorem s_asg {f : Tg} {vs : List Nat} (h : PS X st (tAsg (tX X.K EX m) (tXG X.K f vs))) : PS X st (tS X.K EX (sAsg f m)) := h.imp fun D σ H ⟨w, env, hw, sr, p⟩ => by
  subst hw
  refine s_expr sr p fun d v w1 g1 s1 r1 p1 => ⟨w1, env, d, rfl, s1, r1, ?_⟩
  revert p1
  cases f d env with
  | none => exact id
  | some env1 => exact fun p1 σ1 s1 _ _ => p1 σ1 w1 rfl (Gr.refl w1) s1
theorem s_set {i : Nat} (h : PS X st (tAsg (tX X.K EX m) (gName i))) : PS X st (tS X.K EX (sAsg (gN i) m)) := h.imp fun D σ H ⟨w, env, hw, sr, p⟩ => by
  subst hw
  refine s_expr sr p fun d v w1 g1 s1 r1 p1 => ?_
  unfold gN at p1
  split at p1
  · exact p1 _ w1 rfl (Gr.refl w1) (s1.set r1)
  · exact p1.elim
theorem s_do (h : PS X st (tDrop (tX X.K EX m))) : PS X st (tS X.K EX (sDo m)) := h.imp fun D σ H ⟨w, env, hw, sr, p⟩ => by
  subst hw
  exact s_expr sr p fun d v w1 g1 s1 r1 p1 => p1 σ w1 rfl (Gr.refl w1) s1
theorem s_ret (h : PE X e (tX X.K EX m)) : PS X (.Return (some e) pos) (tS X.K EX (sRet m)) := (ps_ret h).imp fun D σ H ⟨w, env, hw, sr, p⟩ => by
  subst hw
  exact s_expr sr p fun d v w1 g1 s1 r1 p1 => p1 v σ env w1 rfl (Gr.refl w1) s1 r1
theorem StR.newBoxG {K : KF} {σ : St} {env : Env} {w : Wd} {i : Nat} {p : Addr} {nb : Box} (s : StR K σ env w) (hq : BoxR w.as w.V w.H p nb) (ha : ∀ k : Nat, w.as[k]? ≠ some p) :
    StR K (σ.set i (some (.ref p))) (env.set i (some (.bx w.bx.length))) { w with as := w.as ++ [p], bx := w.bx ++ [nb] } := by
  have s' : StR K σ env { w with as := w.as ++ [p], bx := w.bx ++ [nb] } := by
    refine ⟨s.vh, s.len, fun j c h => ?_, by simp [s.lenB], ?_, fun k a b h1 h2 => ?_⟩
    · obtain ⟨v, h1, h2⟩ := s.cel j c h
      refine ⟨v, h1, ?_⟩
      cases c with
      | dat d => exact h2
      | bx k =>
        obtain ⟨a, h3, h4⟩ := h2
        refine ⟨a, ?_, h4⟩
        have hl : k < w.as.length := by
          rcases Nat.lt_or_ge k w.as.length with h' | h'
          · exact h'
          · rw [List.getElem?_eq_none h'] at h3; cases h3
        rw [List.getElem?_append_left hl]; exact h3
      | ext d => exact h2
      | ex _ _ => exact h2
      | exs _ => exact h2
      | ob b k1 k2 => exact ObAt.mono' (fun k a z => by rw [List.getElem?_append_left (List.getElem?_eq_some_iff.mp z).1]; exact z) (Sub.refl _) h2
    · rw [List.nodup_append]
      refine ⟨s.nd, by simp, fun a h1 b h2 => ?_⟩
      rw [List.mem_singleton] at h2
      subst h2
      intro z
      subst z
      obtain ⟨k, hk⟩ := List.getElem?_of_mem h1
      exact ha k hk
    · rcases Nat.lt_or_ge k w.as.length with hl | hl
      · rw [List.getElem?_append_left hl] at h1
        rw [List.getElem?_append_left (by rw [← s.lenB]; exact hl)] at h2
        exact (s.box k a b h1 h2).keep (fun k a z => by rw [List.getElem?_append_left (List.getElem?_eq_some_iff.mp z).1]; exact z) (Sub.refl _) (fun m => (s.box k a b h1 h2).vn m) fun _ o z => z
      · rw [List.getElem?_append_right hl] at h1
        rw [List.getElem?_append_right (by rw [← s.lenB]; exact hl)] at h2
        rw [← s.lenB] at h2
        cases hk : k - w.as.length with
        | zero =>
          rw [hk] at h1 h2
          cases h1; cases h2
          exact hq.keep (fun k a z => by rw [List.getElem?_append_left (List.getElem?_eq_some_iff.mp z).1]; exact z) (Sub.refl _) (fun m => hq.vn m) fun _ o z => z
        | succ n => rw [hk] at h1; cases h1
  refine s'.set ⟨p, ?_, rfl⟩
  rw [← s.lenB]
  show (w.as ++ [p])[w.as.length]? = some p
  simp
theorem Gr.newBoxG {w w' : Wd} {p : Addr} {nb : Box} (g : Gr w w') (h0 : w.H p = none) (hl : w'.as.length = w'.bx.length) : Gr w { w' with as := w'.as ++ [p], bx := w'.bx ++ [nb] } where
  as k a h := by
    have h := g.as k a h
    have hl : k < w'.as.length := by
      rcases Nat.lt_or_ge k w'.as.length with h' | h'
      · exact h'
      · rw [List.getElem?_eq_none h'] at h; cases h
    show (w'.as ++ [p])[k]? = _
    rw [List.getElem?_append_left hl]; exact h
  asn k a h := by
    have h : (w'.as ++ [p])[k]? = some a := h
    rcases Nat.lt_or_ge k w'.as.length with hl | hl
    · rw [List.getElem?_append_left hl] at h
      exact g.asn k a h
    · rw [List.getElem?_append_right hl] at h
      cases hk : k - w'.as.length with
      | zero => rw [hk] at h; cases h; exact .inr h0
      | succ n => rw [hk] at h; cases h
  v := g.v
  vn := g.vn
  hn := g.hn
  hk := g.hk
  w a h := by
    obtain ⟨k, d', h1, h2, h3⟩ := h
    have h1 : (w'.as ++ [p])[k]? = some a := h1
    have h2 : (w'.bx ++ [nb])[k]? = some d' := h2
    rcases Nat.lt_or_ge k w'.as.length with hk | hk
    · rw [List.getElem?_append_left hk] at h1
      rw [List.getElem?_append_left (by rw [← hl]; exact hk)] at h2
      exact g.w a ⟨k, d', h1, h2, h3⟩
    · rw [List.getElem?_append_right hk] at h1
      cases hk : k - w'.as.length with
      | zero => rw [hk] at h1; cases h1; exact .inr h0
      | succ n => rw [hk] at h1; cases h1
theorem StR.newBox {K : KF} {σ : St} {env : Env} {w : Wd} {i : Nat} {p : Addr} {d : D} (s : StR K σ env w) (hv : w.V p = none) (ho : OwnAt w.V w.H p d) (ha : ∀ k : Nat, w.as[k]? ≠ some p) :
    StR K (σ.set i (some (.ref p))) (env.set i (some (.bx w.bx.length))) { w with as := w.as ++ [p], bx := w.bx ++ [.live d] } := s.newBoxG (nb := .live d) ⟨hv, ho⟩ ha
theorem Gr.newBox {w w' : Wd} {p : Addr} {d : D} (g : Gr w w') (h0 : w.H p = none) (hl : w'.as.length = w'.bx.length) : Gr w { w' with as := w'.as ++ [p], bx := w'.bx ++ [.live d] } := g.newBoxG h0 hl
theorem s_new {i : Nat} (h : PS X st (tAsg (tXO X.K EX m) (gName i))) : PS X st (tS X.K EX (sNew i m)) := h.imp fun D σ H ⟨w, env, hw, sr, p⟩ => by
  subst hw
  refine ⟨w, env, rfl, sr, ?_⟩
  unfold sNew at p
  cases hm : m env w.bx with
  | none => rw [hm] at p; exact p.elim
  | some q =>
    obtain ⟨r, b⟩ := q
    rw [hm] at p
    cases r with
    | exc c d => exact fun w' hb g e => p σ env w' hb g e
    | ok d =>
      intro q w1 hb g1 s1 h0 hv ho ha
      subst hb
      dsimp only at p
      split at p
      · exact p _ { w1 with as := w1.as ++ [q], bx := w1.bx ++ [.live d] } rfl (g1.newBox h0 s1.lenB) (s1.newBox hv ho ha)
      · exact p.elim
theorem s_if {a b : List Stmt} (hc : PT X c (tXT X.K EX mc)) (ha : PSs X a (tS X.K EX s)) (hb : PSs X b (tS X.K EX t)) : PS X (.If c a b pos) (tS X.K EX (sIf mc s t)) := (ps_if hc ha hb).imp fun D σ H ⟨w, env, hw, sr, p⟩ => by
  subst hw
  refine ⟨w, env, rfl, sr, ?_⟩
  unfold sIf at p
  cases hm : mc env w.bx with
  | none => rw [hm] at p; exact p.elim
  | some q =>
    obtain ⟨r, b⟩ := q
    rw [hm] at p
    cases r with
    | exc c d => exact fun w' hb g e => p σ env w' hb g e
    | ok d =>
      dsimp only at p
      cases ht : truthD d with
      | none => rw [ht] at p; exact p.elim
      | some k =>
        rw [ht] at p
        refine ⟨k, ht, fun w' hb g e => ?_⟩
        subst hb
        cases k with
        | true => rw [if_pos rfl]; exact ⟨w', env, rfl, e, PostS.grow g p⟩
        | false => rw [if_neg Bool.false_ne_true]; exact ⟨w', env, rfl, e, PostS.grow g p⟩
theorem WalkD.mono {J : It} {V V' : Hp} {ds : List D} (h : WalkD J V ds) (s : Sub V V') : WalkD J V' ds where
  go i V1 H1 s1 s2 hi := h.go i V1 H1 (s.trans s1) s2 hi
  stop V1 H1 s1 s2 := h.stop V1 H1 (s.trans s1) s2
  yld i V1 H1 x H2 d s1 s2 := h.yld i V1 H1 x H2 d (s.trans s1) s2
theorem s_for {mi : MA} {f : Tg} {vs : List Nat} (h : PS X st (tFor (tXI X.K EX mi) (tXG X.K f vs) (tS X.K EX s))) : PS X st (tS X.K EX (sFor f mi s)) := h.imp fun D σ H ⟨w, env, hw, sr, p⟩ => by
  subst hw
  refine ⟨w, env, rfl, sr, ?_⟩
  unfold sFor at p
  cases hm : mi env w.bx with
  | none => rw [hm] at p; exact p.elim
  | some q =>
    obtain ⟨r, b⟩ := q
    rw [hm] at p
    cases r with
    | exc c d => exact fun w' hb g e => p σ env w' hb g e
    | ok ds =>
      intro J w1 hb g1 s1 hz hW
      subst hb
      have p1 : PostS X.K EX D w1 (loopS f s ds env w1.bx) := PostS.grow g1 p
      refine ⟨fun i m σ H => i + m = ds.length ∧ ∃ w2 env2, w2.H = H ∧ StR X.K σ env2 w2 ∧ Gr w1 w2 ∧ PostS X.K EX D w2 (loopS f s (ds.drop i) env2 w2.bx), ⟨ds.length, by omega, w1, env, rfl, s1, Gr.refl _, by rw [List.drop_zero]; exact p1⟩, ?_⟩
      intro i m σ2 H2 ⟨hi, w2, env2, hw2, s2, g2, p2⟩
      subst hw2
      have hW2 := hW.mono g2.v
      cases m with
      | zero =>
        have e : i = ds.length := by omega
        subst e
        refine .inl ⟨hW2.stop w2.V w2.H (Sub.refl _) s2.vh, ?_⟩
        rw [List.drop_length] at p2
        exact p2 σ2 w2 rfl (Gr.refl _) s2
      | succ m =>
        have hlt : i < ds.length := by omega
        refine .inr ⟨hW2.go i w2.V w2.H (Sub.refl _) s2.vh hlt, fun σ' H' => i + 1 + m = ds.length ∧ ∃ w3 env3, w3.H = H' ∧ StR X.K σ' env3 w3 ∧ Gr w1 w3 ∧ PostS X.K EX D w3 (loopS f s (ds.drop (i + 1)) env3 w3.bx), fun σ' H' hN => ⟨m, by omega, hN⟩, fun x H' hy => ?_⟩
        obtain ⟨V3, x3, rx⟩ := hW2.yld i w2.V w2.H x H' ds[i] (Sub.refl _) s2.vh (List.getElem?_eq_getElem hlt) hy
        rw [List.drop_eq_getElem_cons hlt] at p2
        have s3 : StR X.K σ2 env2 (w2.to V3 H') := s2.ext' x3
        refine ⟨w2.to V3 H', env2, ds[i], rfl, s3, rx, ?_⟩
        unfold loopS at p2
        cases hf : f ds[i] env2 with
        | none => simp only [hf] at p2; exact p2.elim
        | some env3 =>
          simp only [hf] at p2
          intro σ3 st3 _ _
          refine ⟨w2.to V3 H', env3, rfl, st3, ?_⟩
          have p3 := PostS.grow x3.gr p2
          show PostS X.K EX _ (w2.to V3 H') (s env3 w2.bx)
          have go : ∀ {σ' : St} {env' : Env} {w' : Wd} {b' : Bx}, w'.bx = b' → Gr (w2.to V3 H') w' → StR X.K σ' env' w' → PostS X.K EX D (w2.to V3 H') (loopS f s (ds.drop (i + 1)) env' b') →
              i + 1 + m = ds.length ∧ ∃ w3 env3, w3.H = w'.H ∧ StR X.K σ' env3 w3 ∧ Gr w1 w3 ∧ PostS X.K EX D w3 (loopS f s (ds.drop (i + 1)) env3 w3.bx) := by
            intro σ' env' w' b' hb g' s' q
            subst hb
            exact ⟨by omega, w', env', rfl, s', (g2.trans x3.gr).trans g', PostS.grow g' q⟩
          cases ho : s env3 w2.bx with
          | none => rw [ho] at p3; exact p3.elim
          | some z =>
            obtain ⟨o, b⟩ := z
            rw [ho] at p3
            cases o with
            | nx e => exact fun σ' w' hb g' s' => go hb g' s' p3
            | ct e => exact fun σ' w' hb g' s' => go hb g' s' p3
            | bk e => exact fun σ' w' hb g' s' => p3 σ' w' hb g' s'
            | rt d => exact p3
            | exc c d => exact p3
end
end DL
set_option Elab.async false
set_option linter.all false
set_option maxRecDepth 100000
set_option maxHeartbeats 1000000
namespace DL
open PySem PySem.Spec PyProof.Rows
open L2 hiding St V
def wipeE (env : Env) : List Nat → Env
  | [] => env
  | v :: vs => (wipeE env vs).set v none
def mTrue : M := fun _ b => some (.ok (.bool true), b)
def compL (f : Tg) (mc me : M) (env : Env) : List D → Bx → Option (List D × Bx)
  | [], b => some ([], b)
  | d :: ds, b => match f d env with
    | none => none
    | some env1 => match mc env1 b with
      | some (.ok t, b) => match truthD t with
        | some true => match me env1 b with
          | some (.ok y, b) => (compL f mc me env ds b).map fun r => (y :: r.1, r.2)
          | _ => none
        | some false => compL f mc me env ds b
        | none => none
      | _ => none
def mComp (mi : MA) (vs : List Nat) (f : Tg) (mc me : M) : M := fun env b =>
  match mi env b with
  | none => none
  | some (.exc c d, b) => some (.exc c d, b)
  | some (.ok ds, b) => (compL f mc me (wipeE env vs) ds b).map fun r => (.ok (.list r.1), r.2)
def compP (f : Tg) (pc pe : P) (env : Env) (b : Bx) : List D → Option (List D)
  | [] => some []
  | d :: ds => (f d env).bind fun env1 => (pc env1 b).bind fun t => (truthD t).bind fun
    | true => (pe env1 b).bind fun y => (compP f pc pe env b ds).map fun r => y :: r
    | false => compP f pc pe env b ds
def pTrue : P := fun _ _ => some (.bool true)
def pComp (pi : PL) (vs : List Nat) (f : Tg) (pc pe : P) : P := fun env b => (pi env b).bind fun ds => (compP f pc pe (wipeE env vs) b ds).map fun r => .list r
theorem lift_compL (f : Tg) (pc pe : P) (env : Env) : ∀ (ds : List D) (b : Bx), compL f (lift pc) (lift pe) env ds b = (compP f pc pe env b ds).map fun r => (r, b)
  | [], b => rfl
  | d :: ds, b => by
    unfold compL compP lift
    cases f d env with
    | none => rfl
    | some env1 =>
      simp only [Option.bind_some]
      cases pc env1 b with
      | none => rfl
      | some t =>
        simp only [Option.map_some, Option.bind_some]
        cases truthD t with
        | none => rfl
        | some k =>
          cases k with
          | true =>
            simp only [Option.bind_some]
            cases pe env1 b with
            | none => rfl
            | some y =>
              simp only [Option.map_some, Option.bind_some]
              have ih := lift_compL f pc pe env ds b
              unfold lift at ih
              rw [ih]
              cases compP f pc pe env b ds <;> rfl
          | false =>
            have ih := lift_compL f pc pe env ds b
            unfold lift at ih
            simp only [Option.bind_some]
            rw [ih]
theorem lift_comp (pi : PL) (vs : List Nat) (f : Tg) (pc pe : P) : mComp (liftA pi) vs f (lift pc) (lift pe) = lift (pComp pi vs f pc pe) := by
  funext env b
  unfold mComp liftA pComp
  cases h0 : pi env b with
  | none =>
    show none = (((pi env b).bind fun ds => (compP f pc pe (wipeE env vs) b ds).map fun r => PyData.list r)).map fun d => (Res.ok d, b)
    rw [h0]; rfl
  | some ds =>
    simp only [Option.map_some, Option.bind_some]
    rw [lift_compL]
    show _ = ((((pi env b).bind fun ds => (compP f pc pe (wipeE env vs) b ds).map fun r => PyData.list r)).map fun d => (Res.ok d, b))
    rw [h0]
    simp only [Option.bind_some]
    cases compP f pc pe (wipeE env vs) b ds <;> rfl
theorem wipeE_get : ∀ {vs : List Nat} {env : Env} {i : Nat} {c : Cel}, (wipeE env vs)[i]? = some (some c) → env[i]? = some (some c) ∧ i ∉ vs
  | [], env, i, c, h => ⟨h, by simp⟩
  | v :: vs, env, i, c, h => by
    have h : ((wipeE env vs).set v none)[i]? = some (some c) := h
    by_cases e : v = i
    · subst e
      rw [List.getElem?_set_self'] at h
      cases hh : (wipeE env vs)[v]? with
      | none => rw [hh] at h; cases h
      | some q => rw [hh] at h; cases h
    · rw [List.getElem?_set_ne e] at h
      obtain ⟨h1, h2⟩ := wipeE_get h
      exact ⟨h1, by simp only [List.mem_cons, not_or]; exact ⟨fun z => e z.symm, h2⟩⟩
theorem wipeE_length (env : Env) : ∀ vs : List Nat, (wipeE env vs).length = env.length
  | [] => rfl
  | v :: vs => by
    show ((wipeE env vs).set v none).length = _
    rw [List.length_set, wipeE_length env vs]
theorem wipe_at : ∀ {vs : List Nat} {σ : St} {i : Nat}, i ∉ vs → (wipe σ vs)[i]? = σ[i]?
  | [], σ, i, _ => rfl
  | v :: vs, σ, i, h => by
    rw [List.mem_cons, not_or] at h
    show ((wipe σ vs).set v none)[i]? = _
    rw [List.getElem?_set_ne (fun z => h.1 z.symm)]
    exact wipe_at h.2
theorem wipe_none : ∀ {vs : List Nat} {σ : St} {i : Nat}, i ∈ vs → i < σ.length → (wipe σ vs)[i]? = some none
  | v :: vs, σ, i, h, hl => by
    show ((wipe σ vs).set v none)[i]? = _
    by_cases e : v = i
    · subst e
      rw [List.getElem?_set_self (by rw [wipe_length]; exact hl)]
    · rw [List.getElem?_set_ne e]
      rcases List.mem_cons.mp h with z | z
      · exact absurd z.symm e
      · exact wipe_none z hl
theorem wipe_ext {σ τ : St} {vs : List Nat} (hl : σ.length = τ.length) (h : ∀ j : Nat, j ∉ vs → σ[j]? = τ[j]?) : wipe σ vs = wipe τ vs := by
  apply List.ext_getElem?
  intro i
  by_cases hi : i ∈ vs
  · rcases Nat.lt_or_ge i σ.length with hs | hs
    · rw [wipe_none hi hs, wipe_none hi (by rw [← hl]; exact hs)]
    · rw [List.getElem?_eq_none (by rw [wipe_length]; exact hs), List.getElem?_eq_none (by rw [wipe_length, ← hl]; exact hs)]
  · rw [wipe_at hi, wipe_at hi, h i hi]
theorem StR.wipe {K : KF} {σ : St} {env : Env} {w : Wd} (s : StR K σ env w) (vs : List Nat) : StR K (wipe σ vs) (wipeE env vs) w where
  vh := s.vh
  len := by rw [wipe_length, wipeE_length]; exact s.len
  cel i c h := by
    obtain ⟨h1, h2⟩ := wipeE_get h
    obtain ⟨v, h3, h4⟩ := s.cel i c h1
    exact ⟨v, by rw [wipe_at h2]; exact h3, h4⟩
  lenB := s.lenB
  nd := s.nd
  box := s.box
theorem StR.carry {K : KF} {σ τ : St} {env envt : Env} {w w' : Wd} (s : StR K σ env w) (t : StR K τ envt w') (g : Gr w w') : StR K σ env w' where
  vh := t.vh
  len := s.len
  cel i c h := by
    obtain ⟨v, h1, h2⟩ := s.cel i c h
    exact ⟨v, h1, CelR.mono g h2⟩
  lenB := t.lenB
  nd := t.nd
  box := t.box
theorem StR.hid {K : KF} {σ : St} {env : Env} {w : Wd} {p : Addr} {o : HO} (s : StR K σ env w) (hv : w.V p = none) (hw : ∀ k : Nat, w.as[k]? ≠ some p) : StR K σ env { w with H := upd w.H p o } where
  vh a u e := by
    have e : w.V a = some u := e
    show upd w.H p o a = some u
    rw [upd_ne (by intro z; subst z; rw [hv] at e; cases e)]
    exact s.vh a u e
  len := s.len
  cel := s.cel
  lenB := s.lenB
  nd := s.nd
  box k a b h1 h2 := by
    have q := s.box k a b h1 h2
    refine q.keep (fun _ _ z => z) (Sub.refl _) (fun m => q.vn m) fun m u e => ?_
    show upd w.H p o a = some u
    rw [upd_ne (by intro z; subst z; exact hw k h1)]
    exact e
theorem Gr.hid {w w' : Wd} {p : Addr} {o : HO} (g : Gr w w') (h0 : w.H p = none) : Gr w { w' with H := upd w'.H p o } where
  as := g.as
  asn := g.asn
  v := g.v
  vn := g.vn
  hn a u h1 h2 := by
    show upd w'.H p o a = some u
    rw [upd_ne (by intro z; subst z; rw [h0] at h1; cases h1)]
    exact g.hn a u h1 h2
  hk a h := by
    show upd w'.H p o a ≠ none
    rw [upd_ne (by intro z; subst z; exact h h0)]
    exact g.hk a h
  w := g.w
section
variable {X : Cx} {EX : EXP} {e tg : Expr} {m : M} {pos : Pos}
def XF : EXP := fun _ _ _ => False
theorem lc_of {mi : MA} {vs : List Nat} {f : Tg} {mc me : M} {K : KF} {σ : St} {H : Hp} {Q : VK} (h : tXO K EX (mComp mi vs f mc me) σ H Q) :
    tLc (tXI K EX mi) (tXG K f vs) (tXT K XF mc) (tX K XF me) vs σ H Q := by
  obtain ⟨w, env, hw, sr, p⟩ := h
  subst hw
  refine ⟨w, env, rfl, sr, ?_⟩
  unfold mComp at p
  cases hm : mi env w.bx with
  | none => rw [hm] at p; exact p.elim
  | some q =>
    obtain ⟨r, b⟩ := q
    rw [hm] at p
    cases r with
    | exc c d => exact p
    | ok ds =>
      intro J w1 hb g1 s1 hz hW
      subst hb
      intro D hD
      dsimp only at p
      have hV1 : w1.V D = none := by
        cases e : w1.V D with
        | none => rfl
        | some u => rw [s1.vh _ _ e] at hD; cases hD
      have h0 : w.H D = none := by
        cases e : w.H D with
        | none => rfl
        | some u => exact absurd hD (g1.hk D (by rw [e]; simp))
      cases hc : compL f mc me (wipeE env vs) ds w1.bx with
      | none => rw [hc] at p; exact p.elim
      | some q =>
        obtain ⟨r, bx'⟩ := q
        rw [hc] at p
        have hnW1 : ¬ w1.W D := fun ⟨k, d, z1, z2⟩ => s1.as_some z1 hD
        have hnA1 : ∀ k : Nat, w1.as[k]? ≠ some D := fun k z => s1.as_some z hD
        refine ⟨fun i m H => i + m = ds.length ∧ ∃ w2 acc rs rest, w2.H = H ∧ StR K σ env w2 ∧ Gr w1 w2 ∧ H D = some (.lst acc) ∧ w2.V D = none ∧ ¬ w2.W D ∧ (∀ k : Nat, w2.as[k]? ≠ some D) ∧ RpL w2.V acc rs ∧
            acc.length ≤ i ∧ compL f mc me (wipeE env vs) (ds.drop i) w2.bx = some (rest, bx') ∧ rs ++ rest = r,
          ⟨ds.length, by omega, { w1 with H := upd w1.H D (.lst []) }, [], [], r, rfl, s1.hid hV1 hnA1, (Gr.refl w1).hid hD, upd_same, hV1, hnW1, hnA1, .nil, Nat.zero_le _, by rw [List.drop_zero]; exact hc, rfl⟩, ?_⟩
        intro i m H2 ⟨hi, w2, acc, rs, rest, hw2, s2, g2, hacc, hv2, hnW2, hnA2, rl, hal, hcc, hr⟩
        subst hw2
        have hW2 := hW.mono g2.v
        cases m with
        | zero =>
          have e : i = ds.length := by omega
          subst e
          refine .inl ⟨hW2.stop w2.V w2.H (Sub.refl _) s2.vh, ?_⟩
          rw [List.drop_length] at hcc
          cases hcc
          rw [List.append_nil] at hr
          subst hr
          exact p D w2 rfl (g1.trans g2) s2 h0 hv2 ⟨acc, hacc, rl⟩ hnA2
        | succ m =>
          have hlt : i < ds.length := by omega
          refine .inr ⟨hW2.go i w2.V w2.H (Sub.refl _) s2.vh hlt, fun H' => i + 1 + m = ds.length ∧ ∃ w3 acc rs rest, w3.H = H' ∧ StR K σ env w3 ∧ Gr w1 w3 ∧ H' D = some (.lst acc) ∧ w3.V D = none ∧ ¬ w3.W D ∧ (∀ k : Nat, w3.as[k]? ≠ some D) ∧ RpL w3.V acc rs ∧
            acc.length ≤ i + 1 ∧ compL f mc me (wipeE env vs) (ds.drop (i + 1)) w3.bx = some (rest, bx') ∧ rs ++ rest = r, fun H' hN => ⟨m, by omega, hN⟩, fun x H' hy => ?_⟩
          obtain ⟨V3, x3, rx⟩ := hW2.yld i w2.V w2.H x H' ds[i] (Sub.refl _) s2.vh (List.getElem?_eq_getElem hlt) hy
          rw [List.drop_eq_getElem_cons hlt] at hcc
          have s3 : StR K (wipe σ vs) (wipeE env vs) (w2.to V3 H') := (s2.ext' x3).wipe vs
          have hD2 : w2.H D ≠ none := by rw [hacc]; simp
          have gx : Gr w2 (w2.to V3 H') := x3.gr
          -- what stays of the new list behind an evaluation
          have keep : ∀ {w' : Wd}, Gr w2 w' → w'.H D = some (.lst acc) ∧ w'.V D = none ∧ ¬ w'.W D ∧ (∀ k : Nat, w'.as[k]? ≠ some D) ∧ RpL w'.V acc rs := fun {w'} g =>
            ⟨g.hn D _ hacc hnW2, (g.vn D (NT.of hacc fun q z => by cases q <;> cases z) hnW2).trans hv2, fun z => (g.w D z).elim hnW2 hD2, fun k z => (g.asn k D z).elim (hnA2 k) hD2, rl.mono g.v⟩
          refine ⟨w2.to V3 H', wipeE env vs, ds[i], rfl, s3, rx, ?_⟩
          unfold compL at hcc
          cases hf : f ds[i] (wipeE env vs) with
          | none => simp only [hf] at hcc; cases hcc
          | some env3 =>
            simp only [hf] at hcc
            intro σ3 st3 ko kl
            refine ⟨?_, ?_⟩
            · have e1 : wipe σ3 vs = wipe (wipe σ vs) vs := wipe_ext kl ko
              have e2 : wipe (wipe σ vs) vs = wipe σ vs := wipe_ext (wipe_length _ _) fun j hj => wipe_at hj
              rw [e1, e2]
            refine ⟨w2.to V3 H', env3, rfl, st3, ?_⟩
            show PostT K XF _ σ3 env3 (w2.to V3 H') (mc env3 w2.bx)
            cases hmc : mc env3 w2.bx with
            | none => rw [hmc] at hcc; cases hcc
            | some z =>
              obtain ⟨rt, b4⟩ := z
              rw [hmc] at hcc
              cases rt with
              | exc c d => cases hcc
              | ok t =>
                dsimp only at hcc
                cases ht : truthD t with
                | none => rw [ht] at hcc; cases hcc
                | some k =>
                  rw [ht] at hcc
                  refine ⟨k, ht, fun w4 hb4 g4 s4 => ?_⟩
                  subst hb4
                  have g24 : Gr w2 w4 := gx.trans g4
                  cases k with
                  | false =>
                    rw [if_neg Bool.false_ne_true]
                    obtain ⟨k1, k2, k3, k4, k5⟩ := keep g24
                    exact ⟨by omega, w4, acc, rs, rest, rfl, s2.carry s4 g24, g2.trans g24, k1, k2, k3, k4, k5, by omega, hcc, hr⟩
                  | true =>
                    rw [if_pos rfl]
                    refine ⟨w4, env3, rfl, s4, ?_⟩
                    dsimp only at hcc
                    cases hme : me env3 w4.bx with
                    | none => rw [hme] at hcc; cases hcc
                    | some z =>
                      obtain ⟨ry, b5⟩ := z
                      rw [hme] at hcc
                      cases ry with
                      | exc c d => cases hcc
                      | ok y =>
                        intro v w5 hb5 g5 s5 r5
                        subst hb5
                        dsimp only at hcc
                        cases hcr : compL f mc me (wipeE env vs) (ds.drop (i + 1)) w5.bx with
                        | none => rw [hcr] at hcc; cases hcc
                        | some z =>
                          obtain ⟨rest', b6⟩ := z
                          rw [hcr] at hcc
                          simp only [Option.map_some, Option.some.injEq, Prod.mk.injEq] at hcc
                          obtain ⟨e1, e2⟩ := hcc
                          subst e1; subst e2
                          have g25 : Gr w2 w5 := g24.trans g5
                          obtain ⟨k1, k2, k3, k4, k5⟩ := keep g25
                          refine ⟨acc, k1, Nat.lt_of_lt_of_le (Nat.lt_of_le_of_lt hal hlt) hz, ?_⟩
                          have hD1 : w1.H D = none := hD
                          refine ⟨by omega, { w5 with H := upd w5.H D (.lst (acc ++ [v])) }, acc ++ [v], rs ++ [y], rest', rfl, (s2.carry s5 g25).hid k2 k4, (g2.trans g25).hid hD1, upd_same, k2, k3, k4, k5.append (.cons r5 .nil), by rw [List.length_append]; simp; omega, hcr, ?_⟩
                          rw [List.append_assoc]
                          exact hr
theorem x_lcO {mi : MA} {vs : List Nat} {f : Tg} {mc me : M} (h : PE X e (tLc (tXI X.K EX mi) (tXG X.K f vs) (tXT X.K XF mc) (tX X.K XF me) vs)) : PE X e (tXO X.K EX (mComp mi vs f mc me)) := h.imp fun _ _ _ q => lc_of q
theorem x_lc {mi : MA} {vs : List Nat} {f : Tg} {mc me : M} (h : PE X e (tLc (tXI X.K EX mi) (tXG X.K f vs) (tXT X.K XF mc) (tX X.K XF me) vs)) : PE X e (tX X.K EX (mComp mi vs f mc me)) := x_ofO (x_lcO h)
theorem see_of {K : KF} {σ : St} {H : Hp} {Q : VK} (h : tX K EX m σ H Q) : tXO K EX m σ H Q := by
  obtain ⟨w, env, hw, s, p⟩ := h
  refine ⟨w, env, hw, s, ?_⟩
  revert p
  cases m env w.bx with
  | none => exact id
  | some z =>
    obtain ⟨r, b⟩ := z
    cases r with
    | exc c d => exact id
    | ok d =>
      intro p q w1 hb g1 s1 h0 hv ho ha
      obtain ⟨V', g', s', r'⟩ := see g1 s1 h0 hv ho ha
      exact p _ (w1.to V' w1.H) hb g' s' r'
theorem s_setLc {st : Stmt} {i : Nat} {mi : MA} {vs : List Nat} {f : Tg} {mc me : M} (h : PS X st (tAsg (tLc (tXI X.K EX mi) (tXG X.K f vs) (tXT X.K XF mc) (tX X.K XF me) vs) (gName i))) : PS X st (tS X.K EX (sAsg (gN i) (mComp mi vs f mc me))) :=
  s_set (h.imp fun _ _ _ q => lc_of (see_of q))
theorem ts_nil : PTs X [] (tXT X.K XF mTrue) := ⟨fun pins s σ H Q I ⟨w, env, hw, st, p⟩ => pts_nil.run pins s σ H Q I (by
  subst hw
  obtain ⟨b, hb, k⟩ := p
  cases hb
  exact k w rfl (Gr.refl w) st)⟩
theorem ts_one {c : Expr} {mc : M} (h : PT X c (tXT X.K XF mc)) : PTs X [c] (tXT X.K XF mc) := pts_one h
end
end DL
set_option Elab.async false
set_option linter.all false
set_option maxRecDepth 100000
set_option maxHeartbeats 1000000
namespace DL
open PySem PySem.Spec PyProof.Rows
open L2 hiding St V
abbrev Fn := List Cel → Bx → Option (Res × Bx)
def strip : Box → Box
  | .live d => .live d
  | .froz d => .froz d
  | .lk ks => .lk ks
  | _ => .lock
def takeB (b : Bx) (n : Nat) : Bx := (b.take n).map strip
theorem BoxR.strip {as as' : List Addr} {V H : Hp} {a : Addr} {b : Box} (q : BoxR as V H a b) : BoxR as' V H a (strip b) := by
  cases b with
  | live d => exact q
  | froz d => exact q
  | refs ks => exact ⟨q.1, q.nt trivial⟩
  | refD ks => exact ⟨q.1, q.nt trivial⟩
  | lock => exact q
  | lk ks => exact q
theorem strip_mu {b : Box} (h : (strip b).mu) : b.mu := by cases b <;> first | exact h | exact h.elim
def runF (np nn : Nat) (s : S) : Fn := fun cs bx =>
  if cs.length = np then
    match s (cs.map some ++ List.replicate (nn - np) none) bx with
    | some (.rt d, b) => some (.ok d, takeB b bx.length)
    | some (.nx _, b) => some (.ok .none, takeB b bx.length)
    | some (.exc c d, b) => some (.exc c d, takeB b bx.length)
    | _ => none
  else none
def spF (K : KF) (EXf : XK → EXP) (F : Fn) : Sp := fun vs H Q E => ∃ w cs, w.H = H ∧ StR K (vs.map some) (cs.map some) w ∧ Post K (EXf E) Q (vs.map some) (cs.map some) w (F cs w.bx)
def ex0 : XK → EXP := fun _ => XF
structure FnG (P : Program) (w : World) (K : KF) (mg : Str → Option Value) (base : Heap) (CX : CXT) (k : Nat) (f : Addr) (fd : FuncData) (ps : List Str) (sp : Sp) : Prop where
  len : ∀ vs H Q E, sp vs H Q E → vs.length = ps.length
  run : ∀ (A : Around) (outer : List PySem.Env) (s : Shared) (H : Hp) (args : Args) (us : List Value) (vs : List Vl) (Q : VK) (E : XK), Room k A → A.guards = some [] → Env0 P w K mg base A outer s H → BindsTo s fd args (ps.zip us) → Vals vs us → sp vs H Q E →
    codeAny (model P w) A (.call (.ref f) args) (CR CX outer P w H s Q E) s
theorem StR.len_args {K : KF} {vs : List Vl} {cs : List Cel} {w : Wd} (s : StR K (vs.map some) (cs.map some) w) : vs.length = cs.length := by
  have := s.len
  rwa [List.length_map, List.length_map] at this
theorem StR.start {K : KF} {vs : List Vl} {cs : List Cel} {w : Wd} {N : List Str} (s : StR K (vs.map some) (cs.map some) w) : StR K (L2.start N vs) (cs.map some ++ List.replicate (N.length - cs.length) none) w where
  vh := s.vh
  len := by
    unfold L2.start
    rw [List.length_append, List.length_append, List.length_replicate, List.length_replicate, s.len_args, List.length_map, List.length_map, s.len_args]
  cel i c h := by
    rcases Nat.lt_or_ge i cs.length with hl | hl
    · rw [List.getElem?_append_left (by rw [List.length_map]; exact hl)] at h
      obtain ⟨v, h1, h2⟩ := s.cel i c h
      refine ⟨v, ?_, h2⟩
      unfold L2.start
      rw [List.getElem?_append_left (by rw [List.length_map, s.len_args]; exact hl)]
      exact h1
    · rw [List.getElem?_append_right (by rw [List.length_map]; exact hl)] at h
      rw [List.getElem?_replicate] at h
      split at h <;> cases h
  lenB := s.lenB
  nd := s.nd
  box := s.box
theorem leave {K : KF} {σ τ : St} {env envt : Env} {w w' : Wd} (s : StR K σ env w) (t : StR K τ envt w') (g : Gr w w') :
    ∃ w'', w''.H = w'.H ∧ w''.V = w'.V ∧ w''.bx = takeB w'.bx w.bx.length ∧ Gr w w'' ∧ StR K σ env w'' := by
  have hle : w.as.length ≤ w'.as.length := by
    rcases Nat.lt_or_ge w'.as.length w.as.length with h | h
    · have h1 : w.as[w'.as.length]? = some w.as[w'.as.length] := List.getElem?_eq_getElem h
      have h2 := g.as _ _ h1
      rw [List.getElem?_eq_none (Nat.le_refl _)] at h2
      cases h2
    · exact h
  have hat : ∀ {k : Nat} {a : Addr}, w.as[k]? = some a → k < w.as.length := fun {k a} h => by
    rcases Nat.lt_or_ge k w.as.length with h' | h'
    · exact h'
    · rw [List.getElem?_eq_none h'] at h; cases h
  have hbx : ∀ {k : Nat} {b : Box}, (takeB w'.bx w.bx.length)[k]? = some b → ∃ b0, w'.bx[k]? = some b0 ∧ strip b0 = b := fun {k b} h => by
    unfold takeB at h
    rw [List.getElem?_map, List.getElem?_take] at h
    split at h
    · exact Option.map_eq_some_iff.mp h
    · cases h
  have gW : Gr w { w' with as := w.as, bx := takeB w'.bx w.bx.length } := ⟨fun _ _ h => h, fun _ _ h => .inl h, g.v, g.vn, g.hn, g.hk, fun a ⟨k, d, h1, h2, h3⟩ => by
    obtain ⟨b0, e1, e2⟩ := hbx h2
    subst e2
    exact g.w a ⟨k, b0, g.as _ _ h1, e1, strip_mu h3⟩⟩
  refine ⟨{ w' with as := w.as, bx := takeB w'.bx w.bx.length }, rfl, rfl, rfl, gW, ⟨t.vh, s.len, fun i c h => ?_, ?_, s.nd, fun k a b h1 h2 => ?_⟩⟩
  · obtain ⟨v, h1, h2⟩ := s.cel i c h
    exact ⟨v, h1, CelR.mono gW h2⟩
  · show w.as.length = (takeB w'.bx w.bx.length).length
    unfold takeB
    rw [List.length_map, List.length_take, ← t.lenB, ← s.lenB]
    omega
  · obtain ⟨b0, e1, e2⟩ := hbx h2
    subst e2
    exact (t.box k a b0 (g.as _ _ h1) e1).strip
section
variable {P : Program} {w : World} {K : KF} {mg : Str → Option Value} {base : Heap}
theorem FnG.of {CX : CXT} {x qual : Str} {st : Stmt} {f : Addr} {fd : FuncData} {N ps : List Str} {k : Nat} {sp : Sp} (F : Fun K x qual st f fd) (S : FnScope N ps (defScope st)) (len : ∀ vs H Q E, sp vs H Q E → vs.length = ps.length)
    (body : ∀ (cdv : Value) (A : Around) (outer : List PySem.Env) (s : Shared) (H : Hp) (vs : List Vl) (Q : VK) (E : XK), Room k (A.deeper (envOfC qual (defScope st) s.heap.objs.size f cdv)) → A.guards = some [] → sp vs H Q E →
      ∃ t, PSs (cxOf CX P w K mg base N qual (defScope st) f cdv A outer s H E) (defBody st) t ∧ t { nx := fun _ H' => Q .non H', rt := Q } (L2.start N vs) H) : FnG P w K mg base CX (k + 1) f fd ps sp := by
  obtain ⟨oc, od, kV, doc, pm, an, cdv, ct, osl, efd, lk, code⟩ := F.ex
  subst efd
  refine ⟨len, ?_⟩
  intro A outer s H args us vs Q E room hgd env0 binds vals wish
  have inH : K.In s.heap := env0.mod.kin.keeps fun b o e => (env0.bs b o e).1
  have noLim : s.heap.NoLimit := env0.mod.nolimit.keeps fun b o e => (env0.bs b o e).1
  have kinds : ((ps.zip us).all fun y => (defScope st).names.lookup y.1 == some .local || (defScope st).names.lookup y.1 == some .cell) = true := by
    rw [List.all_eq_true]
    intro y hy
    rcases S.par y.1 (List.of_mem_zip hy).1 with q | q <;> simp [q]
  refine Att.call_fn inH noLim lk code room.depth binds kinds (fun s1 entry => ?_) S.co S.gen S.kind
  obtain ⟨t, derivation, reading⟩ := body cdv A outer s H vs Q E (room.deeper _) hgd wish
  have I := inv_start (CX := CX) (E := E) S room.hd env0 (len _ _ _ _ wish) vals entry
  have ran := derivation.run [] s1 _ H _ I reading
  refine wpAny_mono ran (fun fl s2 end2 => ?_) fun _ _ r => r
  have close : ∀ {σ2 : L2.St} {H2 : Hp} {v : Vl} {u : Value}, Inv (cxOf CX P w K mg base N qual (defScope st) f cdv A outer s H E) [] σ2 H2 s2 → RelV v u → Q v H2 → CR CX outer P w H s Q E (.ok (.ret u)) s2 := by
    intro σ2 H2 v u J rv q
    exact ⟨v, H2, J.os, J.bare, J.base, J.hok, rv, q⟩
  cases fl with
  | next => obtain ⟨σ2, H2, J, q⟩ := end2; exact close (v := .non) J rfl q
  | ret u => obtain ⟨v, σ2, H2, J, rv, q⟩ := end2; exact close J rv q
  | brk => obtain ⟨_, _, _, no⟩ := end2; exact no.elim
  | cont => obtain ⟨_, _, _, no⟩ := end2; exact no.elim
theorem body_of {EXf : XK → EXP} (hEX : ∀ E c d w w', w.H = w'.H → w.V = w'.V → EXf E c d w → EXf E c d w') {np nn : Nat} {s : S} {N : List Str} (hN : N.length = nn) {vs : List Vl} {H : Hp} {Q : VK} {E : XK} (h : spF K EXf (runF np nn s) vs H Q E) : tS K (EXf E) s { nx := fun _ H' => Q .non H', rt := Q } (L2.start N vs) H := by
  obtain ⟨w, cs, hw, sr, p⟩ := h
  subst hw
  unfold runF at p
  split at p
  · rename_i hl
    refine ⟨w, _, rfl, sr.start (N := N), ?_⟩
    rw [hN, hl]
    revert p
    cases s (cs.map some ++ List.replicate (nn - np) none) w.bx with
    | none => exact id
    | some z =>
      obtain ⟨o, b⟩ := z
      cases o with
      | nx e =>
        intro p σ w' hb g t
        subst hb
        obtain ⟨w'', e1, e2, e3, g', s'⟩ := leave sr t g
        rw [← e1]
        exact p .non w'' e3 g' s' .non
      | rt d =>
        intro p v σ env w' hb g t r
        subst hb
        obtain ⟨w'', e1, e2, e3, g', s'⟩ := leave sr t g
        rw [← e1]
        exact p v w'' e3 g' s' (by rw [e2]; exact r)
      | bk e => exact fun p => p.elim
      | ct e => exact fun p => p.elim
      | exc c d =>
        intro p σ env w' hb g t
        subst hb
        obtain ⟨w'', e1, e2, e3, g', s'⟩ := leave sr t g
        exact hEX E c d w'' w' e1 e2 (p w'' e3 g' s')
  · exact p.elim
theorem len_of {EXf : XK → EXP} {np nn : Nat} {s : S} {vs : List Vl} {H : Hp} {Q : VK} {E : XK} (h : spF K EXf (runF np nn s) vs H Q E) : vs.length = np := by
  obtain ⟨w, cs, hw, sr, p⟩ := h
  unfold runF at p
  split at p
  · rename_i hl
    rw [sr.len_args, hl]
  · exact p.elim
theorem ex0_hv : ∀ E c d w w', w.H = w'.H → w.V = w'.V → ex0 E c d w → ex0 E c d w' := fun _ _ _ _ _ _ _ h => h
theorem FnG.mk0 {x qual : Str} {st : Stmt} {f : Addr} {fd : FuncData} {N ps : List Str} {k np nn : Nat} {s : S} (F : Fun K x qual st f fd) (Sc : FnScope N ps (defScope st)) (hp : ps.length = np) (hn : N.length = nn)
    (body : ∀ (cdv : Value) (A : Around) (outer : List PySem.Env) (sh : Shared) (H : Hp) (E : XK), Room k (A.deeper (envOfC qual (defScope st) sh.heap.objs.size f cdv)) → A.guards = some [] →
      PSs (cxOf CX0 P w K mg base N qual (defScope st) f cdv A outer sh H E).nox (defBody st) (tS K XF s)) : FnG P w K mg base CX0 (k + 1) f fd ps (spF K ex0 (runF np nn s)) := by
  refine FnG.of F Sc (fun vs H Q E h => by rw [hp]; exact len_of h) fun cdv A outer sh H vs Q E hr hg h => ⟨tS K XF s, (body cdv A outer sh H E hr hg).nox, ?_⟩
  exact body_of ex0_hv hn h
end
def fP (F : Fn) (ds : List D) : Option D :=
  match F (ds.map .dat) [] with
  | some (.ok d, _) => some d
  | _ => none
section
variable {X : Cx} {EX : EXP} {CX : CXT} {k : Nat} {f : Addr} {fd : FuncData} {ps : List Str} {sp : Sp} {E : XK} {x : Str} {p pos : Pos} {e : Expr} {es : List Expr} {ms : MA} {F : Fn} {EXf : XK → EXP}
theorem run_G {pins : List (Addr × Obj)} {σ : St} {H : Hp} {s : Shared} {Q : VK} {us ws : List Value} {vs : List Vl} {kw : List (Str × Value)} (G : FnG X.prog X.w X.K X.mg X.base CX k f fd ps sp) (hr : Room k X.A) (hgd : X.A.guards = some []) (hb : BindsTo s fd ⟨us, kw⟩ (ps.zip ws)) (hx : Passes CX X E)
    (I : Inv X pins σ H s) (r : Vals vs ws) (h : sp vs H Q E) : wpAny (model X.prog X.w) X.A (call (.ref f) us kw) (EP X pins σ Q) X.xe s := by
  have ran := G.run X.A X.stack s H ⟨us, kw⟩ ws vs Q E hr hgd I.env0 hb r h
  refine wpAny_call (codeAny_mono ran fun res s' got => ?_)
  match res, got with
  | .ok (.ret u), got => exact I.after got
  | .error er, got => exact hx pins σ H s er s' I got
theorem StR.args {K : KF} {V H : Hp} {vs : List Vl} {ds : List D} (sb : Sub V H) (r : RpL V vs ds) : StR K (vs.map some) ((ds.map Cel.dat).map some) ⟨[], V, H, []⟩ where
  vh := sb
  len := by rw [List.length_map, List.length_map, List.length_map, r.length]
  cel i c h := by
    rw [List.getElem?_map, List.getElem?_map] at h
    cases hd : ds[i]? with
    | none => rw [hd] at h; cases h
    | some d =>
      rw [hd] at h
      cases h
      obtain ⟨v, h1, h2⟩ := r.get' i d hd
      exact ⟨v, by rw [List.getElem?_map, h1]; rfl, h2⟩
  lenB := rfl
  nd := List.nodup_nil
  box k a b h1 h2 := by cases h1
theorem noW {V H : Hp} {a : Addr} : ¬ (⟨[], V, H, []⟩ : Wd).W a := fun ⟨k, d, h, _, _⟩ => by cases h
theorem Gr.ext {V H : Hp} {w' : Wd} (g : Gr ⟨[], V, H, []⟩ w') (vh : Sub w'.V w'.H) : Ext V H w'.V w'.H := ⟨g.v, fun a o h => g.hn a o h noW, vh, fun a h => g.vn a h noW⟩
theorem sp_of {K : KF} {vs : List Vl} {H : Hp} {Q : VK} (h : cD (fP F) vs H Q) : spF K EXf F vs H Q E := by
  obtain ⟨V, ds, d, sb, r, hd, kk⟩ := h
  refine ⟨⟨[], V, H, []⟩, ds.map Cel.dat, rfl, StR.args sb r, ?_⟩
  unfold fP at hd
  revert hd
  show (match F (ds.map .dat) [] with
    | some (.ok d, _) => some d
    | _ => none) = some d → Post K (EXf E) Q _ _ _ (F (ds.map .dat) [])
  cases F (ds.map .dat) [] with
  | none => intro hd; cases hd
  | some z =>
    obtain ⟨o, b⟩ := z
    cases o with
    | exc c d => intro hd; cases hd
    | ok d' =>
      intro hd
      cases hd
      exact fun v w' hb g t rv => kk v w'.V w'.H (g.ext t.vh) rv
theorem x_call (G : FnG X.prog X.w X.K X.mg X.base CX k f fd ps (spF X.K EXf F)) (hr : Room k X.A) (hgd : X.A.guards = some []) (hg : Gl X x) (hm : X.mg x = some (.ref f)) (hk : PySem.W.keepIn X.K (.ref f) = true) (hb : Binds X.K fd ps []) (hx : Passes CX X E)
    (ha : PA X (e :: es) (tXA X.K EX ms)) (hdb : (x == ("__debug__" : Str)) = false := by decide) (he : starEach (e :: es) X.env = (false, eval e X.env) :: starEach es X.env := by rfl) (hpl : (backTo pos (starEach es X.env)).any (·.1) = false := by rfl) :
    PE X (.Call (.Name x p) (e :: es) [] pos) (tX X.K EX (mApp (fP F) ms)) := by
  refine ⟨fun pins s σ H Q I h => ?_⟩
  have h := app_of h
  refine wpAny_Call_Name_kw (ld_glob I hg hm ?_ hdb)
  refine PySem.W.callWith_K (h₀ := X.base) I.ok.mod.kin hk (thn (ha.run pos pins s σ H _ I h) fun us s1 ⟨vs, H1, I1, r, q⟩ => ⟨I1.kIn, ?_⟩) he hpl
  have hs := sp_of (K := X.K) (EXf := EXf) (E := E) q
  have hl := G.len _ _ _ _ hs
  have hb' := hb s1 us I1.kIn (by rw [List.append_nil, ← r.length]; exact hl)
  rw [List.append_nil] at hb'
  exact run_G G hr hgd hb' hx I1 r hs
def permD {α : Type} (ix : List Nat) (ds : List α) : List α := ix.filterMap fun i => ds[i]?
def fK (ix : List Nat) (F : Fn) (ds : List D) : Option D := if ds.length = ix.length then fP F (permD ix ds) else none
def mCallB (F : Fn) (i : Nat) (ms : MA) : M := fun env b =>
  match env[i]? with
  | some (some (.bx k)) => match ms env b with
    | none => none
    | some (.exc c d, b) => some (.exc c d, b)
    | some (.ok ds, b) => match b[k]? with
      | some (.live d0) => match F (.bx 0 :: ds.map .dat) [.live d0] with
        | some (r, [b1]) => some (r, b.set k (strip b1))
        | _ => none
      | _ => none
  | _ => none
theorem StR.argsB {K : KF} {w : Wd} {σ : St} {env : Env} {vs : List Vl} {ds : List D} {k : Nat} {a : Addr} {d0 : D} (s : StR K σ env w) (ha : w.as[k]? = some a) (hb : w.bx[k]? = some (.live d0)) (r : RpL w.V vs ds) :
    StR K ((.ref a :: vs).map some) ((.bx 0 :: ds.map Cel.dat).map some) ⟨[a], w.V, w.H, [.live d0]⟩ where
  vh := s.vh
  len := by simp [r.length]
  cel i c h := by
    cases i with
    | zero => cases h; exact ⟨.ref a, rfl, a, rfl, rfl⟩
    | succ i =>
      have h : ((ds.map Cel.dat).map some)[i]? = some (some c) := h
      obtain ⟨v, h1, h2⟩ := (StR.args (K := K) s.vh r).cel i c h
      refine ⟨v, h1, ?_⟩
      rw [List.getElem?_map, List.getElem?_map] at h
      cases hd : ds[i]? with
      | none => rw [hd] at h; cases h
      | some d => rw [hd] at h; cases h; exact h2
  lenB := rfl
  nd := by simp
  box j a' b h1 h2 := by
    cases j with
    | zero => cases h1; cases h2; exact s.box k a _ ha hb
    | succ j => cases h1
theorem backB {K : KF} {w w' : Wd} {σ : St} {env : Env} {τ : St} {envt : Env} {k : Nat} {a : Addr} {d0 : D} {b1 : Box} (s : StR K σ env w) (ha : w.as[k]? = some a) (hb : w.bx[k]? = some (.live d0)) (g : Gr ⟨[a], w.V, w.H, [.live d0]⟩ w') (t : StR K τ envt w') (e : w'.bx = [b1]) :
    Gr w { w' with as := w.as, bx := w.bx.set k (strip b1) } ∧ StR K σ env { w' with as := w.as, bx := w.bx.set k (strip b1) } := by
  have hW : ∀ {x : Addr}, (⟨[a], w.V, w.H, [.live d0]⟩ : Wd).W x → x = a := fun {x} ⟨j, d, h1, h2, h3⟩ => by
    cases j with
    | zero => cases h1; rfl
    | succ j => cases h1
  have hWa : w.W a := ⟨k, .live d0, ha, hb, trivial⟩
  have hnW : ∀ {x : Addr}, ¬ w.W x → ¬ (⟨[a], w.V, w.H, [.live d0]⟩ : Wd).W x := fun {x} h z => h (by rw [hW z]; exact hWa)
  have hk : k < w.bx.length := by
    rcases Nat.lt_or_ge k w.bx.length with h | h
    · exact h
    · rw [List.getElem?_eq_none h] at hb; cases hb
  have hat0 : w'.as[0]? = some a := g.as 0 a rfl
  have hbx0 : w'.bx[0]? = some b1 := by rw [e]; rfl
  have gg : Gr w { w' with as := w.as, bx := w.bx.set k (strip b1) } := by
    refine ⟨fun _ _ h => h, fun _ _ h => .inl h, g.v, fun x h1 h2 => g.vn x h1 (hnW h2), fun x o h1 h2 => g.hn x o h1 (hnW h2), g.hk, fun x ⟨j, d, h1, h2, h3⟩ => .inl ?_⟩
    have h2 : (w.bx.set k (strip b1))[j]? = some d := h2
    have h1 : w.as[j]? = some x := h1
    by_cases z : k = j
    · subst z
      rw [ha] at h1
      cases h1
      exact hWa
    · rw [List.getElem?_set_ne z] at h2
      exact ⟨j, d, h1, h2, h3⟩
  refine ⟨gg, t.vh, s.len, fun i c h => ?_, ?_, s.nd, fun j x b h1 h2 => ?_⟩
  · obtain ⟨v, h1, h2⟩ := s.cel i c h
    exact ⟨v, h1, CelR.mono gg h2⟩
  · show w.as.length = (w.bx.set k (strip b1)).length
    rw [List.length_set]; exact s.lenB
  · have h2 : (w.bx.set k (strip b1))[j]? = some b := h2
    have h1 : w.as[j]? = some x := h1
    by_cases z : k = j
    · subst z
      rw [ha] at h1
      cases h1
      rw [List.getElem?_set_self hk] at h2
      cases h2
      exact (t.box 0 a b1 hat0 hbx0).strip
    · rw [List.getElem?_set_ne z] at h2
      have q := s.box j x b h1 h2
      have hne : x ≠ a := by
        intro y
        subst y
        have := (List.getElem?_inj (i := k) (j := j) (by rw [s.lenB]; exact hk) s.nd).mp (ha.trans h1.symm)
        exact z this
      have hnc : ¬ (⟨[a], w.V, w.H, [.live d0]⟩ : Wd).W x := fun y => hne (hW y)
      exact q.keep (fun _ _ z => z) g.v (fun m => (g.vn x (q.nt m) hnc).trans (q.vn m)) fun _ o z => g.hn x o z hnc
theorem x_cbox {i : Nat} (G : FnG X.prog X.w X.K X.mg X.base CX k f fd ps (spF X.K ex0 F)) (hr : Room k X.A) (hgd : X.A.guards = some []) (hg : Gl X x) (hm : X.mg x = some (.ref f)) (hk : PySem.W.keepIn X.K (.ref f) = true) (hb : Binds X.K fd ps []) (hx : Passes CX X E)
    (h0 : PE X e (tVar i)) (ha : PA X es (tXA X.K XF ms)) (hdb : (x == ("__debug__" : Str)) = false := by decide) (he : starEach (e :: es) X.env = (false, eval e X.env) :: starEach es X.env := by rfl) (hpl : (backTo pos (starEach es X.env)).any (·.1) = false := by rfl) :
    PE X (.Call (.Name x p) (e :: es) [] pos) (tX X.K XF (mCallB F i ms)) := by
  refine ⟨fun pins s σ H Q I ⟨w, env, hw, st, q⟩ => ?_⟩
  subst hw
  have hA : tCons (tVar i) (tXA X.K XF ms) σ w.H fun vs H1 => spF X.K ex0 F vs H1 Q E := by
    unfold mCallB at q
    split at q
    · rename_i kk hi
      obtain ⟨v, hv, a, ha', rfl⟩ := st.cel i _ hi
      refine ⟨.ref a, hv, w, env, rfl, st, ?_⟩
      cases hms : ms env w.bx with
      | none => rw [hms] at q; exact q.elim
      | some z =>
        obtain ⟨r, b⟩ := z
        rw [hms] at q
        cases r with
        | exc c d => exact fun w' hb g t => q w' hb g t
        | ok ds =>
          dsimp only at q
          intro vs w1 hb1 g1 s1 r1
          subst hb1
          split at q
          · rename_i d0 hbk
            split at q
            · rename_i res b1 hF
              have ha1 := g1.as _ _ ha'
              refine ⟨⟨[a], w1.V, w1.H, [.live d0]⟩, .bx 0 :: ds.map Cel.dat, rfl, s1.argsB ha1 hbk r1, ?_⟩
              show Post X.K XF Q _ _ _ (F (.bx 0 :: ds.map .dat) [.live d0])
              rw [hF]
              cases res with
              | ok d =>
                intro v w' hb' g' t' r'
                obtain ⟨gg, ss⟩ := backB s1 ha1 hbk g' t' hb'
                exact q v { w' with as := w1.as, bx := w1.bx.set kk (strip b1) } rfl (g1.trans gg) ss r'
              | exc c d =>
                intro w' hb' g' t'
                obtain ⟨gg, ss⟩ := backB s1 ha1 hbk g' t' hb'
                exact (q { w' with as := w1.as, bx := w1.bx.set kk (strip b1) } rfl (g1.trans gg) ss).elim
            · exact q.elim
          · exact q.elim
    · exact q.elim
  refine wpAny_Call_Name_kw (ld_glob I hg hm ?_ hdb)
  refine PySem.W.callWith_K (h₀ := X.base) I.ok.mod.kin hk (thn ((pa_cons h0 ha he).run pos pins s σ w.H _ I hA) fun us s1 ⟨vs, H1, I1, r, hs⟩ => ⟨I1.kIn, ?_⟩) he hpl
  have hl := G.len _ _ _ _ hs
  have hb' := hb s1 us I1.kIn (by rw [List.append_nil, ← r.length]; exact hl)
  rw [List.append_nil] at hb'
  exact run_G G hr hgd hb' hx I1 r hs
end
end DL
set_option Elab.async false
set_option linter.all false
set_option maxRecDepth 100000
set_option maxHeartbeats 1000000
namespace DL
open PySem PySem.Spec PyProof.Rows
open L2 hiding St V
theorem end_call {P : Program} {w : World} {K : KF} {mg mb : Str → Option Value} {k : Nat} {fa a : Addr} {fd : FuncData} {x : Str} {sp : Sp} {s₁ : Shared} {vs : List Value} {ns : List Int}
    (inK : K.In s₁.heap) (nsG : s₁.heap.Ns mainGlobals mg) (nsB : s₁.heap.Ns builtinsNs mb) (boot : ∀ x : Str, x ≠ "__name__" → mb x = bootBuiltins x) (lim : s₁.heap.NoLimit) (gens0 : s₁.gens = #[])
    (obj : s₁.heap.get? a = some { cls := .type "list", data := .seq vs.toArray }) (nums : IntsAre vs ns) (len : ns.length ≤ sizeLine) (room : Room k callerA)
    (F : ∀ base : Heap, K.In base → base.Ns mainGlobals mg → FnG P w K mg base CX0 k fa fd [x] sp) (binds : ∀ (s : Shared) (u : Value), BindsTo s fd ⟨[u], []⟩ [(x, u)])
    (law : ∀ H : Hp, SqL K H a (ns.map .int) → sp [.ref a] H (fun v _ => v = .bl true) fun _ _ _ => False) :
    codeAny (model P w) callerA (.call (.ref fa) ⟨[.ref a], []⟩) (fun r s' => r = .ok (.ret (.bool true)) ∧ OldK s₁.heap s'.heap ∧ s'.os = s₁.os ∧ AllBare s'.gens) s₁ := by
  have relV := vals_ints nums
  have lenV := nums.length
  suffices main : ∀ H : Hp, (∀ b, H b = none ∨ ∃ o ys, H b = some (.frz o (.lst ys))) → SqL K H a (ns.map .int) → HOk P w H s₁.heap → (∀ b, H b ≠ none → b = a ∧ K.lookup a = none) →
      codeAny (model P w) callerA (.call (.ref fa) ⟨[.ref a], []⟩) (fun r s' => r = .ok (.ret (.bool true)) ∧ OldK s₁.heap s'.heap ∧ s'.os = s₁.os ∧ AllBare s'.gens) s₁ by
    cases own : K.lookup a with
    | some o =>
      have there := inK a o own
      rw [obj] at there
      cases there
      refine main (fun _ => none) (fun _ => .inl rfl) (.inr ⟨_, vs.toArray, _, own, rfl, rfl, rfl, ?_, ?_⟩) (fun b u z => nomatch (show (none : Option HO) = some u from z)) fun b z => absurd rfl z
      · rw [List.size_toArray, lenV]; exact len
      · simpa using relV
    | none =>
      let script : HO := .frz { cls := .type "list", data := .seq vs.toArray } (.lst (ns.map .int))
      have only : ∀ b u, (if b = a then some script else none) = some u → b = a ∧ u = script := by
        intro b u z
        split at z
        · rename_i e; cases z; exact ⟨e, rfl⟩
        · cases z
      refine main (fun b => if b = a then some script else none) (fun b => ?_) (.inl (.inr ⟨_, if_pos rfl⟩)) (fun b u z => ?_) fun b z => ?_
      · rcases Decidable.em (b = a) with e | e
        · exact .inr ⟨_, _, if_pos e⟩
        · exact .inl (if_neg e)
      · obtain ⟨rfl, rfl⟩ := only b u z
        exact ⟨obj, by rw [List.length_map]; exact len, vs, _, relV, obj⟩
      · cases q : (if b = a then some script else none) with
        | none => exact absurd q z
        | some u => exact ⟨(only b u q).1, own⟩
  intro H shape seq hok which
  have under : ∀ {b : Addr} {o : Obj}, s₁.heap.get? b = some o → H b = none → (hidT s₁.heap H).get? b = some o := fun e n => hidT_get e n
  have dictFree : ∀ {b : Addr} {o : Obj} {es : Array DictEntry} {ep : Nat}, s₁.heap.get? b = some o → o.data = .dict es ep → H b = none := by
    intro b o es ep e d
    cases q : H b with
    | none => rfl
    | some u =>
      have eb := (which b (by rw [q]; simp)).1
      subst eb
      rw [obj] at e
      cases e
      exact nomatch (show Data.seq vs.toArray _ = Data.dict es ep from d)
  have nsOf : ∀ {b : Addr} {m : Str → Option Value}, s₁.heap.Ns b m → (hidT s₁.heap H).Ns b m := by
    intro b m ⟨o, es, ep, e, d, r⟩
    exact ⟨o, es, ep, under e (dictFree e d), d, r⟩
  have inBase : K.In (hidT s₁.heap H) := by
    intro b o e
    refine under (inK b o e) ?_
    cases q : H b with
    | none => rfl
    | some u =>
      obtain ⟨eb, no⟩ := which b (by rw [q]; simp)
      subst eb
      rw [no] at e
      cases e
  obtain ⟨mc, lim1, lim2⟩ := lim
  have facts : Mod K mg (hidT s₁.heap H) := ⟨inBase, nsOf nsG, ⟨mb, nsOf nsB, boot⟩, ⟨mc, nsOf lim1, lim2⟩⟩
  have env0 : Env0 P w K mg (hidT s₁.heap H) callerA [] s₁ H :=
    { frames := rfl, mod := facts, bs := fun b o e => of_hidT e, bsz := Nat.le_of_eq (hidT_size _ _), funs := trivial, frf := fun b hb => (List.not_mem_nil hb).elim, hok := hok, bare := .of_eq gens0 }
  have ran := (F _ inBase (nsOf nsG)).run callerA [] s₁ H ⟨[.ref a], []⟩ [.ref a] [.ref a] _ _ room rfl env0 (binds s₁ (.ref a)) (.cons rfl .nil) (law H seq)
  refine codeAny_mono ran fun r s' got => ?_
  match r, got with
  | .ok (.ret u), ⟨v, H', sameOs, bare, un, hok', rel, yes⟩ =>
    have yes : v = .bl true := yes
    subst yes
    have eu : u = Value.bool true := rel
    subst eu
    refine ⟨rfl, OldK.of_keep fun b o e => ?_, sameOs, bare⟩
    rcases shape b with n | ⟨ob, ys, z⟩
    · exact un.keep b o e n (List.not_mem_nil) (List.not_mem_nil)
    · have was := (hok b _ z).1
      have now := (hok' b _ (un.frzs b ob _ z)).1
      rw [e] at was
      cases was
      exact now
theorem end_of {l : PySem.W.OpenLaw} {n k : Nat} {q : Program} {loose : List Str} {XP : (Str → Option Value) → Heap → Prop} {YP : World → Heap → Prop} {d : DefRec} {K : Params → KF} {sp : World → Sp} {x : Str}
    (hn : l.most = some n) (hn2 : n ≤ sizeLine) (hdf : d.params.defaults = []) (room : Room k callerA)
    (hY : ∀ (w : World) (h : Heap), YP w h → (K w.params).In h)
    (F : ∀ (w : World) (mg : Str → Option Value) (fa : Addr) (h : Heap), (K w.params).In h → h.Ns mainGlobals mg → mg d.name = some (.ref fa) →
      ∃ fd : FuncData, (∀ (s : Shared) (u : Value), BindsTo s fd ⟨[u], []⟩ [(x, u)]) ∧ ∀ base : Heap, (K w.params).In base → base.Ns mainGlobals mg → FnG l.prog w (K w.params) mg base CX0 k fa fd [x] (sp w))
    (law : ∀ (w : World) (H : Hp) (a : Addr) (ns : List Int), ns.length ≤ n → SqL (K w.params) H a (ns.map .int) → sp w [.ref a] H (fun v _ => v = .bl true) fun _ _ _ => False) :
    PySem.W.WalkO q loose XP YP l.row.toRowW d [] (fun f vs => PySem.call f vs) := by
  refine Att.attach_call hn hdf fun w s₀ s₁ mg mb fa o pm cd doc a vs ns G Y ho hd hcd named obj nums len gens0 => ?_
  have inK := hY w _ Y
  obtain ⟨fd, binds, promise⟩ := F w mg fa _ inK G.T.g named
  exact end_call inK G.T.g G.T.b G.T.builtins G.T.nolimit gens0 obj nums (Nat.le_trans len hn2) room promise binds fun H sq => law w H a ns len sq
theorem law_sp {K : KF} {F : Fn} {H : Hp} {a : Addr} {ns : List Int} (sq : SqL K H a (ns.map .int)) (h : F [.ext (.list (ns.map .int))] [] = some (.ok (.bool true), [])) : spF K ex0 F [.ref a] H (fun v _ => v = .bl true) fun _ _ _ => False := by
  let V : Hp := fun b => if b = a then H b else none
  have sub : Sub V H := fun b o e => by
    have e : (if b = a then H b else none) = some o := e
    split at e
    · exact e
    · cases e
  have sq' : SqL K V a (ns.map .int) := by
    rcases sq with sq | sq
    · refine .inl ?_
      have eV : V a = H a := if_pos rfl
      rcases sq with sq | ⟨o, sq⟩
      · exact .inl (eV.trans sq)
      · exact .inr ⟨o, eV.trans sq⟩
    · exact .inr sq
  have rl : RpL V (ns.map L2.V.int) (ns.map PyData.int) := by
    clear sq sq' h
    induction ns with
    | nil => exact .nil
    | cons n r ih => exact .cons (.int n) ih
  refine ⟨⟨[], V, H, []⟩, [.ext (.list (ns.map .int))], rfl, ⟨sub, rfl, fun i c e => ?_, rfl, List.nodup_nil, fun j x b e _ => by cases e⟩, ?_⟩
  · cases i with
    | zero => cases e; exact ⟨_, rfl, a, _, _, rfl, rfl, sq', rl⟩
    | succ i => cases e
  · show Post K XF _ _ _ _ (F _ [])
    rw [h]
    intro v w' _ _ _ r
    cases r
    rfl
end DL
set_option Elab.async false
set_option linter.all false
set_option maxRecDepth 100000
set_option maxHeartbeats 1000000
namespace DL
open PySem PySem.Spec PyProof.Rows
open L2 hiding St V
section
variable {X : Cx} {EX : EXP} {e tg : Expr} {es : List Expr} {m : M} {ms : MA} {pos : Pos}
theorem enumD_get {xs : List D} {i : Nat} {d : D} (h : (enumD xs)[i]? = some d) : ∃ x, xs[i]? = some x ∧ d = .tuple [.int (i : Nat), x] := by
  unfold enumD at h
  rw [List.getElem?_map] at h
  obtain ⟨q, h1, h2⟩ := Option.map_eq_some_iff.mp h
  rw [List.getElem?_zipIdx] at h1
  obtain ⟨x, h3, h4⟩ := Option.map_eq_some_iff.mp h1
  subst h4
  refine ⟨x, h3, ?_⟩
  rw [← h2]
  simp
theorem enumD_len (xs : List D) : (enumD xs).length = xs.length := by simp [enumD]
theorem pairNew {V1 H1 : Hp} {T : Addr} {x y : Vl} {dx dy : D} (s : Sub V1 H1) (hT : H1 T = none) (rx : Rp V1 x dx) (ry : Rp V1 y dy) : ∃ V2, Ext V1 H1 V2 (upd H1 T (.tup [x, y])) ∧ Rp V2 (.ref T) (.tuple [dx, dy]) :=
  ⟨_, Ext.new s hT, .tup upd_same (.cons (rx.mono (Ext.new (o := .tup [x, y]) s hT).v) (.cons (ry.mono (Ext.new (o := .tup [x, y]) s hT).v) .nil))⟩
theorem walkD_enumL {K : KF} {V : Hp} {a : Addr} {xs : List Vl} {ds : List D} (h : V a = some (.lst xs)) (r : RpL V xs ds) : WalkD (Ite K a) V (enumD ds) where
  go i V1 H1 s1 s2 hi := by
    rw [enumD_len, ← r.length] at hi
    exact walk_enum.goes i H1 hi (SqL.of (s2 _ _ (s1 _ _ h)))
  stop V1 H1 s1 s2 := by
    rw [enumD_len, ← r.length]
    exact walk_enum.stops H1 (SqL.of (s2 _ _ (s1 _ _ h)))
  yld i V1 H1 x H2 d s1 s2 hd hy := by
    obtain ⟨z, hz, rfl⟩ := enumD_get hd
    have hi : i < xs.length := by
      rcases Nat.lt_or_ge i xs.length with h' | h'
      · exact h'
      · rw [List.getElem?_eq_none (by rw [← r.length]; exact h')] at hz; cases hz
    obtain ⟨T, x1, y1, rfl, hT, rfl, e1, e2⟩ := (walk_enum (xs := xs)).yields i H1 x H2 hi (SqL.of (s2 _ _ (s1 _ _ h))) hy
    cases e1
    obtain ⟨d', h1, h2⟩ := r.get i y1 e2
    rw [hz] at h1
    cases h1
    exact pairNew s2 hT (.int _) (h2.mono s1)
theorem i_enumL (h : PI X tg e (iEnum X.K (tXA X.K EX ms))) : PI X tg e (tXI X.K EX (maOf (fun ds => match ds with
    | [.list xs] => some (enumD xs)
    | _ => none) ms)) := pi_run h fun σ H R q => by
  obtain ⟨w, env, hw, st, p⟩ := aof_of q
  refine ⟨fun J H' => ∃ a xs, SqL X.K H' a xs ∧ (xs.length ≤ sizeLine → R J H'), ⟨w, env, hw, st, ?_⟩, fun pins s2 J H' I ⟨a, xs, h1, h2⟩ => ?_⟩
  · revert p
    cases ms env w.bx with
    | none => exact id
    | some q =>
      obtain ⟨r, b⟩ := q
      cases r with
      | exc c d => exact id
      | ok ds =>
        intro p vs w1 hb g1 s1 r1
        obtain ⟨_, _, w2, ds, ds', hw2, s2, r2, hd, k⟩ := p vs w1 hb g1 s1 r1
        split at hd
        · cases hd
          obtain ⟨v, rfl, rv⟩ := r2.one
          cases rv with
          | lst ha ra =>
            have hS : SqL X.K w1.H _ _ := SqL.of (by rw [← hw2]; exact s2.vh _ _ ha)
            refine ⟨_, _, rfl, hS, _, _, hS, fun hz => ?_⟩
            rw [← hw2]
            exact k _ _ _ (Ext.refl s2.vh) (by rw [enumD_len, ← ra.length]; exact hz) (walkD_enumL ha ra)
        · cases hd
  · obtain ⟨_, _, _, hz⟩ := I.list h1
    exact h2 hz
end
def mFrz (i : Nat) : M := fun env b =>
  match env[i]? with
  | some (some (.bx k)) => match b[k]? with
    | some (.live d) => some (.ok d, b.set k (.froz d))
    | some (.froz d) => some (.ok d, b)
    | _ => none
  | some (some (.dat d)) => some (.ok d, b)
  | _ => none
theorem frozen {K : KF} {σ : St} {env : Env} {w : Wd} {k : Nat} {a : Addr} {d : D} (s : StR K σ env w) (ha : w.as[k]? = some a) (hb : w.bx[k]? = some (.live d)) :
    ∃ V', (∀ x, x ≠ a → V' x = w.V x) ∧ V' a = w.H a ∧ Sub w.V V' ∧ StR K σ env { w with V := V', bx := w.bx.set k (.froz d) } ∧ Gr w { w with V := V', bx := w.bx.set k (.froz d) } ∧ Rp V' (.ref a) d := by
  have hbx := s.box k a _ ha hb
  obtain ⟨ob, ho⟩ := hbx.2.some
  have hv : w.V a = none := hbx.1
  have hs : Sub w.V (upd w.V a ob) := Sub.upd hv
  have hk : k < w.bx.length := by
    rcases Nat.lt_or_ge k w.bx.length with h | h
    · exact h
    · rw [List.getElem?_eq_none h] at hb; cases hb
  have hWa : w.W a := ⟨k, .live d, ha, hb, trivial⟩
  have hr : Rp (upd w.V a ob) (.ref a) d := hbx.2.rp hs fun o z => by rw [upd_same, ← ho, z]
  have gg : Gr w { w with V := upd w.V a ob, bx := w.bx.set k (.froz d) } := by
    refine ⟨fun _ _ h => h, fun _ _ h => .inl h, hs, fun x h1 h2 => ?_, fun x o h1 _ => h1, fun x h => h, fun x ⟨j, d', h1, h2, h3⟩ => .inl ?_⟩
    · show upd w.V a ob x = w.V x
      rw [upd_ne]
      intro z; subst z; exact h2 hWa
    · have h2 : (w.bx.set k (.froz d))[j]? = some d' := h2
      by_cases z : k = j
      · subst z; rw [List.getElem?_set_self hk] at h2; cases h2; exact h3.elim
      · rw [List.getElem?_set_ne z] at h2; exact ⟨j, d', h1, h2, h3⟩
  refine ⟨upd w.V a ob, fun x hx => upd_ne hx, by rw [upd_same, ho], hs, ⟨fun x u e => ?_, s.len, fun i c h => ?_, ?_, s.nd, fun j x b h1 h2 => ?_⟩, gg, hr⟩
  · have e : upd w.V a ob x = some u := e
    by_cases z : x = a
    · subst z; rw [upd_same] at e; rw [← e]; exact ho
    · rw [upd_ne z] at e; exact s.vh x u e
  · obtain ⟨v, h1, h2⟩ := s.cel i c h
    exact ⟨v, h1, CelR.mono gg h2⟩
  · show w.as.length = (w.bx.set k (.froz d)).length
    rw [List.length_set]; exact s.lenB
  · have h2 : (w.bx.set k (.froz d))[j]? = some b := h2
    have h1 : w.as[j]? = some x := h1
    by_cases z : k = j
    · subst z
      rw [ha] at h1
      cases h1
      rw [List.getElem?_set_self hk] at h2
      cases h2
      exact hr
    · rw [List.getElem?_set_ne z] at h2
      have q := s.box j x b h1 h2
      have hne : x ≠ a := by
        intro y
        subst y
        exact z ((List.getElem?_inj (i := k) (j := j) (by rw [s.lenB]; exact hk) s.nd).mp (ha.trans h1.symm))
      exact q.keep (fun _ _ z => z) hs (fun m => by show upd w.V a ob x = none; rw [upd_ne hne]; exact q.vn m) fun _ o z => z
section
variable {X : Cx} {EX : EXP} {e o : Expr} {es : List Expr} {m : M} {ms : MA} {pos : Pos} {i : Nat}
theorem x_frz (h : PE X e (tVar i)) : PE X e (tX X.K EX (mFrz i)) := h.imp fun σ H Q ⟨w, env, hw, s, p⟩ => by
  subst hw
  unfold mFrz at p
  split at p
  · rename_i k hi
    obtain ⟨v, h1, a, h2, rfl⟩ := s.cel i _ hi
    refine ⟨_, h1, ?_⟩
    split at p
    · rename_i d hb
      obtain ⟨V', _, _, _, s', g', r'⟩ := frozen s h2 hb
      exact p _ { w with V := V', bx := w.bx.set k (.froz d) } rfl g' s' r'
    · rename_i d hb
      exact p _ w rfl (Gr.refl w) s (s.box k a _ h2 hb)
    · exact p.elim
  · rename_i d hi
    obtain ⟨v, h1, h2⟩ := s.cel i _ hi
    exact ⟨v, h1, p v w rfl (Gr.refl w) s h2⟩
  · exact p.elim
def frzB : Box → Box
  | .live d => .froz d
  | .froz d => .froz d
  | .lk ks => .lk ks
  | _ => .lock
theorem StR.live1 {K : KF} {σ : St} {env : Env} {w : Wd} (s : StR K σ env w) {k : Nat} {a : Addr} {b : Box} (ha : w.as[k]? = some a) (hb : w.bx[k]? = some b) (h : w.WL a) : ∃ d, b = .live d := by
  obtain ⟨j, d, h1, h2⟩ := h
  have hj : j < w.as.length := (List.getElem?_eq_some_iff.mp h1).1
  have e : j = k := (List.getElem?_inj hj s.nd).mp (h1.trans ha.symm)
  subst e
  exact ⟨d, by rw [hb] at h2; exact Option.some.inj h2⟩
theorem frozenAll {K : KF} {σ : St} {env : Env} {w : Wd} (s : StR K σ env w) :
    ∃ V', (∀ x, w.WL x → V' x = w.H x) ∧ (∀ x, ¬ w.WL x → V' x = w.V x) ∧ Sub w.V V' ∧ StR K σ env { w with V := V', bx := w.bx.map frzB } := by
  have hW : ∀ {x}, w.WL x → w.V x = none := fun {x} h => s.wv h.W
  let V' : Hp := fun x => open Classical in if w.WL x then w.H x else w.V x
  have h1 : ∀ x, w.WL x → V' x = w.H x := fun x h => if_pos h
  have h2 : ∀ x, ¬ w.WL x → V' x = w.V x := fun x h => if_neg h
  have sub : Sub w.V V' := fun x u e => by
    rw [h2 x (fun z => by rw [hW z] at e; cases e)]; exact e
  refine ⟨V', h1, h2, sub, ⟨fun x u e => ?_, s.len, fun i c h => ?_, ?_, s.nd, fun j x b z1 z2 => ?_⟩⟩
  · have e : V' x = some u := e
    by_cases z : w.WL x
    · rw [h1 x z] at e; exact e
    · rw [h2 x z] at e; exact s.vh x u e
  · obtain ⟨v, y1, y2⟩ := s.cel i c h
    refine ⟨v, y1, ?_⟩
    cases c with
    | dat d => exact Rp.mono sub y2
    | bx k => exact y2
    | ext d => exact ExtAt.mono sub y2
    | ex n d => exact ExcAt.mono sub y2
    | exs l => exact ExsAt.mono sub y2
    | ob b k1 k2 => exact ObAt.mono sub y2
  · show w.as.length = (w.bx.map frzB).length
    rw [List.length_map]; exact s.lenB
  · have z2 : (w.bx.map frzB)[j]? = some b := z2
    rw [List.getElem?_map] at z2
    obtain ⟨b0, y1, y2⟩ := Option.map_eq_some_iff.mp z2
    have q := s.box j x b0 z1 y1
    have nl : (∀ d, b0 ≠ .live d) → ¬ w.WL x := fun n z => by obtain ⟨d, e⟩ := s.live1 z1 y1 z; exact n d e
    cases b0 with
    | live d =>
      cases y2
      exact q.2.rp sub fun o z => (h1 x ⟨j, d, z1, y1⟩).trans z
    | froz d => cases y2; exact Rp.mono sub q
    | refs ks => cases y2; exact ⟨(h2 x (nl fun _ e => by cases e)).trans q.1, q.nt trivial⟩
    | refD ks => cases y2; exact ⟨(h2 x (nl fun _ e => by cases e)).trans q.1, q.nt trivial⟩
    | lock => cases y2; exact ⟨(h2 x (nl fun _ e => by cases e)).trans q.1, q.nt trivial⟩
    | lk ks => cases y2; obtain ⟨o, kvs, h, e⟩ := q; exact ⟨o, kvs, sub _ _ h, RpT.mono sub e⟩
theorem frz_nW {as : List Addr} {V H : Hp} {bx : Bx} {x : Addr} : ¬ (⟨as, V, H, bx.map frzB⟩ : Wd).W x := fun ⟨j, d, z1, z2, z3⟩ => by
  have z2 : (bx.map frzB)[j]? = some d := z2
  rw [List.getElem?_map] at z2
  obtain ⟨b0, y1, y2⟩ := Option.map_eq_some_iff.mp z2
  cases b0 <;> (cases y2; exact z3.elim)
def pPeek (g : P) : P := fun env b => (g env (b.map frzB)).bind fun r => if flatD r then some r else none
theorem flat_rp {V V' : Hp} {v : Vl} {d : D} (r : Rp V v d) (h : flatD d = true) : Rp V' v d := by
  cases r with
  | non => exact .non
  | bl b => exact .bl b
  | int i => exact .int i
  | str x => exact .str x
  | _ => cases h
theorem x_peek {g : P} (h : PE X e (tX X.K EX (lift g))) : PE X e (tX X.K EX (lift (pPeek g))) := h.imp fun σ H Q ⟨w, env, hw, s, p⟩ => by
  subst hw
  unfold lift pPeek at p
  obtain ⟨V', h1, h2, sub, s'⟩ := frozenAll s
  refine ⟨{ w with V := V', bx := w.bx.map frzB }, env, rfl, s', ?_⟩
  unfold lift
  cases hg : g env (w.bx.map frzB) with
  | none => rw [hg] at p; exact p.elim
  | some r =>
    rw [hg] at p
    simp only [Option.bind_some] at p
    split at p
    · rename_i hf
      intro v w' hb' g2 s2 r2
      have nW : ∀ {x}, ¬ (⟨w.as, V', w.H, w.bx.map frzB⟩ : Wd).W x := frz_nW
      have hH : ∀ x o, w.H x = some o → w'.H x = some o := fun x o z => g2.hn x o z nW
      let V2 : Hp := fun x => open Classical in if w.WL x then none else w'.V x
      have v2 : ∀ {x}, ¬ w.WL x → V2 x = w'.V x := fun {x} hx => if_neg hx
      have v2a : ∀ {x}, w.WL x → V2 x = none := fun {x} hx => if_pos hx
      have sub2 : Sub w.V V2 := fun x u z => by
        rw [v2 (fun y => by rw [s.wv y.W] at z; cases z)]
        exact g2.v x u (sub x u z)
      have gW : Gr w { w' with V := V2, as := w.as, bx := w.bx } :=
        ⟨fun _ _ z => z, fun _ _ z => .inl z, sub2, fun x z1 z2 => (v2 fun y => z2 y.W).trans ((g2.vn x z1 nW).trans (h2 x fun y => z2 y.W)), fun x o z1 _ => hH x o z1, fun x z => g2.hk x z, fun x z => .inl z⟩
      refine p v { w' with V := V2, as := w.as, bx := w.bx } rfl gW ⟨fun x u z => ?_, s.len, fun j c z => ?_, s.lenB, s.nd, fun j x b z1 z2 => ?_⟩ (flat_rp r2 hf)
      · have z : V2 x = some u := z
        by_cases hx : w.WL x
        · rw [v2a hx] at z; cases z
        · rw [v2 hx] at z; exact s2.vh x u z
      · obtain ⟨v', y1, y2⟩ := s.cel j c z
        exact ⟨v', y1, CelR.mono gW y2⟩
      · have q := s.box j x b z1 z2
        refine q.keep (fun _ _ z => z) sub2 (fun m => ?_) fun _ o z => hH x o z
        by_cases hx : w.WL x
        · exact v2a hx
        · exact (v2 hx).trans ((g2.vn x (q.nt m) nW).trans ((h2 x hx).trans (q.vn m)))
    · exact p.elim
def mBIx (i : Nat) (m : M) : M := fun env b =>
  match env[i]? with
  | some (some (.bx k)) => match m env b with
    | some (.ok (.int j), b) => match b[k]? with
      | some (.live (.list ds)) => (atI ds j).map fun d => (.ok d, b)
      | _ => none
    | some (.exc c d, b) => some (.exc c d, b)
    | _ => none
  | _ => none
def pBIx (i : Nat) (g : P) : P := fun env b =>
  match env[i]? with
  | some (some (.bx k)) => (g env b).bind fun j => match j with
    | .int j => match b[k]? with
      | some (.live (.list ds)) => atI ds j
      | _ => none
    | _ => none
  | _ => none
theorem lift_bix (i : Nat) (g : P) : mBIx i (lift g) = lift (pBIx i g) := by
  funext env b
  unfold mBIx lift pBIx
  cases hi : env[i]? with
  | none => rfl
  | some c =>
    cases c with
    | none => rfl
    | some c =>
      cases c with
      | bx k =>
        simp only
        cases g env b with
        | none => rfl
        | some d =>
          cases d with
          | int j =>
            simp only [Option.map_some, Option.bind_some]
            split <;> simp_all
          | _ => rfl
      | dat d => rfl
      | ext d => rfl
      | ex _ _ => rfl
      | exs _ => rfl
      | ob _ _ _ => rfl
theorem x_bix {b : Expr} (h0 : PE X e (tVar i)) (hb : PE X b (tX X.K EX m)) (hs : PlainIx b) : PE X (.Subscript e b pos) (tX X.K EX (mBIx i m)) := (pe_ix ix_list h0 hb hs).imp fun σ H Q ⟨w, env, hw, s, p⟩ => by
  subst hw
  unfold mBIx at p
  split at p
  · rename_i k hi
    obtain ⟨v, h1, a, h2, rfl⟩ := s.cel i _ hi
    refine ⟨_, h1, w, env, rfl, s, ?_⟩
    cases hm : m env w.bx with
    | none => rw [hm] at p; exact p.elim
    | some z =>
      obtain ⟨r, b1⟩ := z
      rw [hm] at p
      cases r with
      | exc c d => exact fun w' hb g e => p w' hb g e
      | ok d =>
        intro v w1 hb1 g1 s1 r1
        subst hb1
        cases d with
        | int j =>
          cases r1
          dsimp only at p
          split at p
          · rename_i ds hk
            obtain ⟨hv, xs, hx, rx⟩ := s1.box k a _ (g1.as _ _ h2) hk
            cases hat : atI ds j with
            | none => rw [hat] at p; exact p.elim
            | some d =>
              rw [hat] at p
              obtain ⟨z, hz, rz⟩ := rx.at hat
              exact ⟨a, xs, j, z, rfl, rfl, SqL.of hx, hz, p z w1 rfl g1 s1 rz⟩
          · exact p.elim
        | _ => exact p.elim
  · exact p.elim
abbrev BOp := D → List D → Option (D × D)
def mBop (f : BOp) (i : Nat) (ms : MA) : M := fun env b =>
  match env[i]? with
  | some (some (.bx k)) => match b[k]? with
    | some (.live _) => match ms env b with
      | none => none
      | some (.exc c d, b) => some (.exc c d, b)
      | some (.ok ds, b) => match b[k]? with
        | some (.live d0) => (f d0 ds).map fun r => (.ok r.1, b.set k (.live r.2))
        | _ => none
    | _ => none
  | _ => none
def isList : D → Bool
  | .list _ => true
  | _ => false
def BoxOp (T : String) (r : Vl → List Vl → Hp → VK → Prop) (f : BOp) : Prop := ∀ V H a d0 xs ds d d1 Q, Sub V H → V a = none → OwnAt V H a d0 → RpL V xs ds → f d0 ds = some (d, d1) → (∀ v o, OwnAt V (upd H a o) a d1 → Rp V v d → Q v (upd H a o)) → r (.ref a) xs H Q
theorem written {K : KF} {σ : St} {env : Env} {w : Wd} {k : Nat} {a : Addr} {d0 d1 : D} {o : HO} (s : StR K σ env w) (ha : w.as[k]? = some a) (hb : w.bx[k]? = some (.live d0)) (ho : OwnAt w.V (upd w.H a o) a d1) :
    Gr w { w with H := upd w.H a o, bx := w.bx.set k (.live d1) } ∧ StR K σ env { w with H := upd w.H a o, bx := w.bx.set k (.live d1) } := by
  have hv : w.V a = none := (s.box k a _ ha hb).1
  have t : StR K [] [] ⟨[a], w.V, upd w.H a o, [.live d1]⟩ := by
    refine StR.mk (fun x u e => ?_) rfl (fun i c h => by cases h) rfl (by simp) (fun j x b h1 h2 => ?_)
    · show upd w.H a o x = some u
      rw [upd_ne (by intro z; subst z; have e : w.V x = some u := e; rw [hv] at e; cases e)]
      exact s.vh x u e
    · cases j with
      | zero => cases h1; cases h2; exact ⟨hv, ho⟩
      | succ j => cases h1
  have g : Gr ⟨[a], w.V, w.H, [.live d0]⟩ ⟨[a], w.V, upd w.H a o, [.live d1]⟩ := by
    refine ⟨fun _ _ h => h, fun _ _ h => .inl h, Sub.refl _, fun _ _ _ => rfl, fun x u h1 h2 => ?_, fun x h => ?_, fun x ⟨j, d, h1, h2, h3⟩ => .inl ?_⟩
    · show upd w.H a o x = some u
      rw [upd_ne (by intro z; subst z; exact h2 ⟨0, .live d0, rfl, rfl, trivial⟩)]
      exact h1
    · show upd w.H a o x ≠ none
      by_cases z : x = a
      · subst z; rw [upd_same]; simp
      · rw [upd_ne z]; exact h
    · cases j with
      | zero => cases h1; exact ⟨0, .live d0, rfl, rfl, trivial⟩
      | succ j => cases h1
  exact backB s ha hb g t rfl
theorem x_bop {T : String} {r : Vl → List Vl → Hp → VK → Prop} {f : BOp} (op : BoxOp T r f) (hT2 : ∀ V H a d0, OwnAt V H a d0 → (T = "list" ∧ isList d0 = true) ∨ (T = "dict" ∧ isList d0 = false) → tyV X.K T (.ref a) H)
    (h : PE X e (tBM X.K T r (tVar i) (tXA X.K EX ms))) : PE X e (tX X.K EX (fun env b => match env[i]? with
      | some (some (.bx k)) => match b[k]? with
        | some (.live d0) => if (decide (T = "list") && isList d0) || (decide (T = "dict") && !isList d0) then mBop f i ms env b else none
        | _ => none
      | _ => none)) := h.imp fun σ H Q ⟨w, env, hw, s, p⟩ => by
  subst hw
  dsimp only at p
  split at p
  · rename_i k hi
    obtain ⟨v, h1, a, h2, rfl⟩ := s.cel i _ hi
    split at p
    · rename_i d00 hk0
      split at p
      · rename_i hty
        refine ⟨_, h1, hT2 w.V w.H a d00 (s.box k a _ h2 hk0).2 ?_, w, env, rfl, s, ?_⟩
        · simpa using hty
        · unfold mBop at p
          rw [hi] at p
          dsimp only at p
          rw [hk0] at p
          dsimp only at p
          cases hm : ms env w.bx with
          | none => rw [hm] at p; exact p.elim
          | some z =>
            obtain ⟨res, b1⟩ := z
            rw [hm] at p
            cases res with
            | exc c d => exact fun w' hb g e => p w' hb g e
            | ok ds =>
              intro vs w1 hb1 g1 s1 r1
              subst hb1
              dsimp only at p
              split at p
              · rename_i d0 hk
                have ha1 := g1.as _ _ h2
                have hbx := s1.box k a _ ha1 hk
                cases hf : f d0 ds with
                | none => rw [hf] at p; exact p.elim
                | some q =>
                  obtain ⟨d, d1⟩ := q
                  rw [hf] at p
                  refine op w1.V w1.H a d0 vs ds d d1 Q s1.vh hbx.1 hbx.2 r1 hf fun v o ho rv => ?_
                  obtain ⟨gg, ss⟩ := written s1 ha1 hk ho
                  exact p v { w1 with H := upd w1.H a o, bx := w1.bx.set k (.live d1) } rfl (g1.trans gg) ss rv
              · exact p.elim
      · exact p.elim
    · exact p.elim
  · exact p.elim
end
end DL
set_option Elab.async false
set_option linter.all false
set_option maxRecDepth 100000
set_option maxHeartbeats 1000000
namespace DL
open PySem PySem.Spec PyProof.Rows
open L2 hiding St V
def sSetL (i : Nat) (mv mi : M) : S := fun env b =>
  match mv env b with
  | none => none
  | some (.exc c d, b) => some (.exc c d, b)
  | some (.ok v, b) => match env[i]? with
    | some (some (.bx k)) => match mi env b with
      | none => none
      | some (.exc c d, b) => some (.exc c d, b)
      | some (.ok (.int j), b) => match b[k]? with
        | some (.live (.list ds)) => (ixN ds.length j).map fun n => (.nx env, b.set k (.live (.list (ds.set n v))))
        | _ => none
      | _ => none
    | _ => none
def sSetD (i : Nat) (mv mk : M) : S := fun env b =>
  match mv env b with
  | none => none
  | some (.exc c d, b) => some (.exc c d, b)
  | some (.ok v, b) => match env[i]? with
    | some (some (.bx k)) => match mk env b with
      | none => none
      | some (.exc c d, b) => some (.exc c d, b)
      | some (.ok y, b) => match b[k]? with
        | some (.live (.dict ds)) => (dPut ds y v).map fun ds' => (.nx env, b.set k (.live (.dict ds')))
        | _ => none
    | _ => none
section
variable {X : Cx} {EX : EXP} {st : Stmt} {mv mi mk : M} {i : Nat}
theorem s_setL (h : PS X st (tAsg (tX X.K EX mv) (gSub (tVar i) (tX X.K EX mi) rSetL))) : PS X st (tS X.K EX (sSetL i mv mi)) := h.imp fun De σ H ⟨w, env, hw, sr, p⟩ => by
  subst hw
  refine s_expr sr p fun v vv w1 g1 s1 r1 p1 => ?_
  split at p1
  · rename_i k hi
    obtain ⟨v0, h1, a, h2, rfl⟩ := s1.cel i _ hi
    refine ⟨_, h1, ?_⟩
    refine s_expr (De := De) (o := fun j b => match j with
      | .int j => match b[k]? with
        | some (.live (.list ds)) => (ixN ds.length j).map fun n => (.nx env, b.set k (.live (.list (ds.set n v))))
        | _ => none
      | _ => none) s1 ?_ fun j vj w2 g2 s2 r2 p2 => ?_
    · revert p1
      cases mi env w1.bx with
      | none => exact id
      | some z =>
        obtain ⟨r, b⟩ := z
        cases r with
        | exc c d => exact id
        | ok d => cases d <;> exact id
    · cases j with
      | int j =>
        dsimp only at p2
        cases r2
        split at p2
        · rename_i ds hk
          have ha2 := g2.as _ _ h2
          obtain ⟨hv, xs, hx, rx⟩ := s2.box k a _ ha2 hk
          cases hn : ixN ds.length j with
          | none => rw [hn] at p2; exact p2.elim
          | some n =>
            rw [hn] at p2
            obtain ⟨gg, ss⟩ := written s2 ha2 hk (d1 := .list (ds.set n v)) (o := .lst (xs.set n vv)) ⟨_, upd_same, rx.set (r1.mono g2.v) n⟩
            exact ⟨a, xs, j, n, rfl, rfl, hx, by rw [rx.length]; exact hn, p2 σ _ rfl gg ss⟩
        · exact p2.elim
      | _ => exact p2.elim
  · exact p1.elim
theorem RpK.put {V : Hp} {k : Key} {v : Vl} {d : D} (r : Rp V v d) : ∀ {kvs : List (Key × Vl)} {ds : List (D × D)}, RpK V kvs ds → RpK V (putK kvs k v) (putD ds (kD k) d) := by
  have any_eq : ∀ {kvs : List (Key × Vl)} {ds : List (D × D)}, RpK V kvs ds → (kvs.any fun kv => decide (kv.1 = k)) = ds.any fun p => decide (keyG p.1 = keyG (kD k)) := by
    intro kvs ds rr
    induction ds generalizing kvs with
    | nil => cases rr; rfl
    | cons p q ih => cases rr with
      | cons r1 r2 =>
        rw [List.any_cons, List.any_cons, ih r2]
        congr 1
        rw [keyG_kD, keyG_kD]
        simp
  have map_eq : ∀ {kvs : List (Key × Vl)} {ds : List (D × D)}, RpK V kvs ds → RpK V (kvs.map fun kv => if kv.1 = k then (kv.1, v) else kv) (ds.map fun p => if keyG p.1 = keyG (kD k) then (p.1, d) else p) := by
    intro kvs ds rr
    induction ds generalizing kvs with
    | nil => cases rr; exact .nil
    | cons p q ih => cases rr with
      | cons r1 r2 =>
        rename_i j u vs d'
        rw [List.map_cons, List.map_cons]
        by_cases e : j = k
        · subst e
          rw [if_pos rfl, if_pos rfl]
          exact .cons r (ih r2)
        · have hne : ¬ keyG (kD j) = keyG (kD k) := by rw [keyG_kD, keyG_kD]; intro z; exact e (Sum.inl.inj (Option.some.inj z))
          rw [if_neg e, if_neg hne]
          exact .cons r1 (ih r2)
  have app : ∀ {kvs : List (Key × Vl)} {ds : List (D × D)}, RpK V kvs ds → RpK V (kvs ++ [(k, v)]) (ds ++ [(kD k, d)]) := by
    intro kvs ds rr
    induction ds generalizing kvs with
    | nil => cases rr; exact .cons r .nil
    | cons p q ih => cases rr with
      | cons r1 r2 => exact .cons r1 (ih r2)
  intro kvs ds rr
  unfold putK putD
  rw [any_eq rr]
  split
  · exact map_eq rr
  · exact app rr
theorem RpT.put {V : Hp} {k : List Key} {v : Vl} {d : D} (r : Rp V v d) : ∀ {kvs : List (List Key × Vl)} {ds : List (D × D)}, RpT V kvs ds → RpT V (putK kvs k v) (putD ds (kT k) d) := by
  have any_eq : ∀ {kvs : List (List Key × Vl)} {ds : List (D × D)}, RpT V kvs ds → (kvs.any fun kv => decide (kv.1 = k)) = ds.any fun p => decide (keyG p.1 = keyG (kT k)) := by
    intro kvs ds rr
    induction ds generalizing kvs with
    | nil => cases rr; rfl
    | cons p q ih => cases rr with
      | cons r1 r2 =>
        rw [List.any_cons, List.any_cons, ih r2]
        congr 1
        rw [keyG_kT, keyG_kT]
        simp
  have map_eq : ∀ {kvs : List (List Key × Vl)} {ds : List (D × D)}, RpT V kvs ds → RpT V (kvs.map fun kv => if kv.1 = k then (kv.1, v) else kv) (ds.map fun p => if keyG p.1 = keyG (kT k) then (p.1, d) else p) := by
    intro kvs ds rr
    induction ds generalizing kvs with
    | nil => cases rr; exact .nil
    | cons p q ih => cases rr with
      | cons r1 r2 =>
        rename_i j u vs d'
        rw [List.map_cons, List.map_cons]
        by_cases e : j = k
        · subst e
          rw [if_pos rfl, if_pos rfl]
          exact .cons r (ih r2)
        · have hne : ¬ keyG (kT j) = keyG (kT k) := by rw [keyG_kT, keyG_kT]; intro z; exact e (Sum.inr.inj (Option.some.inj z))
          rw [if_neg e, if_neg hne]
          exact .cons r1 (ih r2)
  have app : ∀ {kvs : List (List Key × Vl)} {ds : List (D × D)}, RpT V kvs ds → RpT V (kvs ++ [(k, v)]) (ds ++ [(kT k, d)]) := by
    intro kvs ds rr
    induction ds generalizing kvs with
    | nil => cases rr; exact .cons r .nil
    | cons p q ih => cases rr with
      | cons r1 r2 => exact .cons r1 (ih r2)
  intro kvs ds rr
  unfold putK putD
  rw [any_eq rr]
  split
  · exact map_eq rr
  · exact app rr
theorem RpK.length {V : Hp} : ∀ {kvs : List (Key × Vl)} {ds : List (D × D)}, RpK V kvs ds → kvs.length = ds.length
  | _, _, .nil => rfl
  | _, _, .cons _ r => by rw [List.length_cons, List.length_cons, RpK.length r]
theorem RpT.length {V : Hp} : ∀ {kvs : List (List Key × Vl)} {ds : List (D × D)}, RpT V kvs ds → kvs.length = ds.length
  | _, _, .nil => rfl
  | _, _, .cons _ r => by rw [List.length_cons, List.length_cons, RpT.length r]
theorem ltLine {n : Nat} (h : n < SZ) : n < sizeLine := by rw [sizeLine_eq]; exact h
theorem dput_of {V H : Hp} {a : Addr} {kvs ds' : List (D × D)} {y v : Vl} {k d : D} (sb : Sub V H) (o : OwnAt V H a (.dict kvs)) (ry : Rp V y k) (rv : Rp V v d) (h : dPut kvs k d = some ds') : ∃ ob, DPut H a y v (upd H a ob) ∧ OwnAt V (upd H a ob) a (.dict ds') := by
  rcases o with ⟨xs, e, r⟩ | ⟨xs, es, e, z, r⟩
  · have h2 : (match keyG k with
        | some (.inl _) => if kvs.length < SZ then some (putD kvs k d) else none
        | _ => none) = some ds' := by
      unfold dPut at h
      split at h
      · exact (r.noT rfl).elim
      · exact h
    split at h2
    · rename_i j hk
      split at h2
      · rename_i hz
        cases h2
        have ek := keyG_inl hk
        subst ek
        have ey := ry.kD
        subst ey
        exact ⟨_, DPut.k e (by rw [r.length]; exact ltLine hz), .inl ⟨_, upd_same, RpK.put rv r⟩⟩
      · cases h2
    · cases h2
  · subst z
    unfold dPut at h
    dsimp only at h
    split at h
    · rename_i ks hk
      split at h
      · rename_i hz
        cases h
        have ek := keyG_inr hk
        subst ek
        cases ry with
        | tup hb rb =>
          have eb := rb.keysV
          subst eb
          exact ⟨_, DPut.t e (sb _ _ hb) (by rw [r.length]; exact ltLine hz), .inr ⟨_, _, upd_same, rfl, RpT.put rv r⟩⟩
      · cases h
    · cases h
theorem s_setD (h : PS X st (sDPut (tVar i) (tX X.K EX mk) (tX X.K EX mv))) : PS X st (tS X.K EX (sSetD i mv mk)) := h.imp fun De σ H ⟨w, env, hw, sr, p⟩ => by
  subst hw
  refine s_expr sr p fun v vv w1 g1 s1 r1 p1 => ?_
  split at p1
  · rename_i k hi
    obtain ⟨v0, h1, a, h2, rfl⟩ := s1.cel i _ hi
    refine ⟨_, h1, ?_⟩
    refine s_expr (De := De) (o := fun y b => match b[k]? with
        | some (.live (.dict ds)) => (dPut ds y v).map fun ds' => (.nx env, b.set k (.live (.dict ds')))
        | _ => none) s1 p1 fun y vy w2 g2 s2 r2 p2 => ?_
    split at p2
    · rename_i ds hk
      have ha2 := g2.as _ _ h2
      have hb := s2.box k a _ ha2 hk
      cases hn : dPut ds y v with
      | none => rw [hn] at p2; exact p2.elim
      | some ds' =>
        rw [hn] at p2
        obtain ⟨ob, hP, hO⟩ := dput_of s2.vh hb.2 r2 (r1.mono g2.v) hn
        obtain ⟨gg, ss⟩ := written s2 ha2 hk hO
        exact ⟨a, _, rfl, hP, p2 σ { w2 with H := upd w2.H a ob, bx := w2.bx.set k (.live (.dict ds')) } rfl gg ss⟩
    · exact p2.elim
  · exact p1.elim
end
def fAppend : BOp := fun c as => match c, as with
  | .list ds, [d] => if ds.length < SZ then some (.none, .list (ds ++ [d])) else none
  | _, _ => none
theorem bx_append : BoxOp "list" rAppend fAppend := by
  intro V H a d0 xs ds d d1 Q sb hv ho rr hf k
  unfold fAppend at hf
  split at hf
  · split at hf
    · rename_i hz
      cases hf
      obtain ⟨v, rfl, rv⟩ := rr.one
      obtain ⟨ys, hy, ry⟩ := ho
      exact ⟨a, ys, v, rfl, rfl, hy, by rw [ry.length]; exact ltLine hz, k _ _ ⟨_, upd_same, ry.append (.cons rv .nil)⟩ .non⟩
    · cases hf
  · cases hf
def mBopL (f : BOp) (i : Nat) (ms : MA) : M := fun env b => match env[i]? with
  | some (some (.bx k)) => match b[k]? with
    | some (.live d0) => if isList d0 = true then mBop f i ms env b else none
    | _ => none
  | _ => none
theorem x_bopL {X : Cx} {EX : EXP} {e : Expr} {i : Nat} {ms : MA} {r : Vl → List Vl → Hp → VK → Prop} {f : BOp} (op : BoxOp "list" r f) (h : PE X e (tBM X.K "list" r (tVar i) (tXA X.K EX ms))) : PE X e (tX X.K EX (mBopL f i ms)) := by
  have q := x_bop op (fun V H a d0 ho hT => by
    rcases hT with ⟨_, hT⟩ | ⟨hT, _⟩
    · cases d0 with
      | list ds => obtain ⟨xs, e, _⟩ := ho; exact .inl ⟨rfl, xs, SqL.of e⟩
      | _ => cases hT
    · exact absurd hT (by decide)) h
  have c1 : decide (("list" : String) = "list") = true := by decide
  have c2 : decide (("list" : String) = "dict") = false := by decide
  simp only [c1, c2, Bool.true_and, Bool.false_and, Bool.or_false] at q
  exact q
section
variable {prog : Program} {w : World} {A : Around} {E : Value → Shared → Prop} {s : Shared}
theorem sorted_via {v : Value} {Q : Value → Shared → Prop} (h : wpAny (model prog w) A.in1 (PySem.collect v) (fun vs s' => vs.length ≤ sizeLine ∧
      wpAny (model prog w) A.in1 (call (.builtin "list.sort") [.ref s'.heap.objs.size]) (fun _ s'' => Q (.ref s'.heap.objs.size) s'') E { s' with heap := s'.heap.push { cls := .type "list", data := .seq vs.toArray } }) E s) :
    wpAny (model prog w) A (call (.builtin "sorted") [v]) Q E s := by
  refine Calls.call_function_entry kind_sorted plain_sorted entry_sorted (args_sorted1 _) ?_
  unfold Builtin.«sorted»
  refine wpAny_bind (m := checkCount "sorted" 1 1 _) (wpAny_pure ?_)
  refine wpAny_bind (wpAny_mono h (fun vs s1 ⟨small, rest⟩ => ?_) fun _ _ e => e)
  refine wpAny_bind (wpAny_newList ?_ small)
  exact wpAny_bind (wpAny_holding (wpAny_mono rest (fun _ s2 q => wpAny_pure ⟨_, rfl, q⟩) fun _ _ e => e))
end
end DL
set_option Elab.async false
set_option linter.all false
set_option maxRecDepth 100000
set_option maxHeartbeats 1000000
namespace DL
open PySem PySem.Spec PyProof.Rows
open L2 hiding St V
section
open PySem.W PySem.SeqAt
theorem call_tuple_lt {A : Around} {s : Shared} {prog : Program} {w : World} {E : Value → Shared → Prop} {Q : Value → Shared → Prop} {l b : Addr} {items items2 : Array Value} {e r : Nat → Bool} (hl : s.heap.IsTuple l items) (hb : s.heap.IsTuple b items2)
    (he : ∀ j (h1 : j < items.size) (h2 : j < items2.size), EqAt A.in1 s items[j] items2[j] (e j)) (hr : ∀ j (h1 : j < items.size) (h2 : j < items2.size), e j = false → RcLt A.in1 s items[j] items2[j] (r j))
    (h : Q (.bool (firstLt e r (decide (items.size < items2.size)) (List.range (min items.size items2.size)))) s) : wpAny (model prog w) A (call (.builtin "tuple.__lt__") [.ref l, .ref b]) Q E s := by
  obtain ⟨⟨cls, dd, data, sl⟩, ho, hc, n, hd⟩ := id hl
  obtain ⟨⟨cls2, dd2, data2, sl2⟩, ho2, hc2, n2, hd2⟩ := id hb
  simp only at hc hd hc2 hd2
  subst hc hd hc2 hd2
  exact call_meets F.slot_tuple_lt ⟨_, ho, rfl⟩ F.entry_tuple_lt (F.args_tuple_lt_2 _ _) (tuple_ltAt l b items items2 n n2 dd dd2 sl sl2 e r) ⟨ho, ho2, he, hr, h⟩
theorem oneLt_tuples {prog : Program} {w : World} {A : Around} {E : Value → Shared → Prop} {s : Shared} {f : Bool} {xs ys : List PyData} {a b : Value} {as bs : List Addr} {Q : Bool → Shared → Prop} (ra : Reads s.heap a (.tuple xs) as) (rb : Reads s.heap b (.tuple ys) bs) (h : alike (.tuple xs) (.tuple ys) = true)
    (hu : A.units + min (PyData.tuple xs).depth (PyData.tuple ys).depth < cLine) (hq : Q (dataLt (.tuple xs) (.tuple ys)) s) : wpAny (model prog w) A (oneLt' f a b) Q E s := by
  cases f with
  | false => exact oneLt_alike (f := false) (fun z => absurd z Bool.false_ne_true) ra rb h (fun z => by cases z) hu hq
  | true =>
    have hal : alikeAll xs ys = true := by simpa [alike] using h
    cases ra with
    | @tuple l o vs n _ as₁ h1 h2 h3 h4 =>
      cases rb with
      | @tuple l' o' vs' n' _ bs₁ k1 k2 k3 k4 =>
        have n1 : vs.size = xs.length := by simpa using ReadsAll.length _ _ _ h4
        have n2 : vs'.size = ys.length := by simpa using ReadsAll.length _ _ _ k4
        rw [dataLt_tuple, ← firstLt_toks xs ys hal, ← n1, ← n2] at hq
        rw [oneLt'_eq]
        simp only [if_true]
        refine wpAny_bind (wpAny_cRoomFor (room_here hu) ?_)
        refine wpAny_bind (wpAny_callSpecialIfBound?_slot (T := "tuple") ⟨_, h1, h2⟩ F.slot_tuple_lt (call_tuple_lt (e := pairEq xs ys) (r := fun j => dataLt (xs.getD j .none) (ys.getD j .none)) ⟨_, h1, h2, _, h3⟩ ⟨_, k1, k2, _, k3⟩ (fun j j1 j2 => ?_) (fun j j1 j2 hj => ?_) ?_))
        · have := eqAt_alikeAll xs ys A.in1 s vs.toList vs'.toList _ _ h4 k4 hal (room_in hu) j (by simpa using j1) (by simpa using j2)
          simpa using this
        · have := rcLt_alikeAll xs ys A.in1 s vs.toList vs'.toList _ _ h4 k4 hal (room_in hu) j (by simpa using j1) (by simpa using j2) hj
          simpa using this
        · exact wpAny_truthy_bool hq
def nonE : PyData → Bool
  | .tuple (_ :: _) => true
  | _ => false
theorem first_opts {M : Model} {A : Around} {E : Value → Shared → Prop} {s : Shared} : ∀ {vs : List Value} {ds : List PyData} {Q : List (Option Value) → Shared → Prop}, EachIs (fun v d => ∃ as, Reads s.heap v d as) vs ds → (∀ d ∈ ds, ∃ xs, d = .tuple xs) →
    (∀ fs : List (Option Value), EachIs (fun f d => f.isSome = nonE d) fs ds → Q fs s) → wpAny M A (vs.mapM firstOfTuple') Q E s
  | _, _, _, .nil, _, h => by rw [List.mapM_nil]; exact wpAny_pure (h [] .nil)
  | _, _, Q, .cons ⟨as, r⟩ t, ht, h => by
    obtain ⟨xs, rfl⟩ := ht _ List.mem_cons_self
    cases r with
    | @tuple a o vs n _ as₁ h1 h2 h3 h4 =>
      rw [List.mapM_cons]
      refine wpAny_bind ?_
      rw [kas_first_eq]
      refine wpAny_bind (Looks.here (show Looks M s.heap (typeOf (.ref a)) o.cls from (Looks.ld h1).andThen .now) ?_)
      rw [h2, if_neg (by first | decide | simp)]
      refine wpAny_bind (listItems_at h1 h3 (wpAny_pure ?_))
      refine wpAny_bind (first_opts t (fun d hd => ht d (List.mem_cons_of_mem _ hd)) fun fs hfs => wpAny_pure (h _ (.cons ?_ hfs)))
      have n1 : vs.size = xs.length := by simpa using ReadsAll.length _ _ _ h4
      cases xs with
      | nil => simp [nonE, n1] at n1 ⊢
      | cons x r =>
        have : 0 < vs.size := by rw [n1]; simp
        simp [nonE, this]
theorem each_right {α β : Type} {R : α → β → Prop} : ∀ {as : List α} {bs : List β}, EachIs R as bs → ∀ b ∈ bs, ∃ a ∈ as, R a b
  | _, _, .nil, b, h => by cases h
  | _, _, .cons r t, b, h => by
    rcases List.mem_cons.mp h with rfl | h
    · exact ⟨_, List.mem_cons_self, r⟩
    · obtain ⟨a, ha, q⟩ := each_right t b h
      exact ⟨a, List.mem_cons_of_mem _ ha, q⟩
theorem kind_rows {M : Model} {A : Around} {s : Shared} {vs : List Value} {d0 : PyData} {ds : List PyData} (e : EachIs (fun v d => ∃ as, Reads s.heap v d as) vs (d0 :: ds)) (ht : ∀ d ∈ d0 :: ds, ∃ xs, d = .tuple xs) (hne : ¬ ∀ d ∈ d0 :: ds, nonE d = true) {E : Value → Shared → Prop} {Q : SortKind → Shared → Prop} (h : Q (if nonE d0 = true then general' else oneType') s) :
    wpAny M A (keyKind' vs.toArray) Q E s := by
  rw [keyKind'_eq, List.mapM_toArray, map_eq_pure_bind]
  refine wpAny_bind (wpAny_bind (first_opts e ht fun fs hfs => wpAny_pure ?_))
  have hall : ¬ (fs.toArray.all fun x => x.isSome) = true := fun z => hne fun d hd => by
    simp only [List.all_toArray, List.all_eq_true] at z
    obtain ⟨f, hf, q⟩ := each_right hfs d hd
    rw [← q]; exact z f hf
  rw [if_neg hall]
  cases hfs with
  | cons hf hr =>
    rename_i f fr
    have h0 : ((f :: fr).toArray[0]?.bind id).isSome = nonE d0 := by rw [← hf]; simp
    rw [h0]
    by_cases c : nonE d0 = true
    · rw [if_pos c] at h ⊢
      exact wpAny_pure h
    · rw [if_neg c] at h ⊢
      rw [oneTypeOnly'_eq, List.mapM_toArray, map_eq_pure_bind]
      cases e with
      | cons r0 rr =>
        rename_i v1 vr
        have looks : ∀ v ∈ v1 :: vr, Looks M s.heap (typeOf v) (Value.type "tuple") := fun v hv => by
          obtain ⟨d, hd, as, r⟩ := (EachIs.cons r0 rr).left v hv
          obtain ⟨xs, rfl⟩ := ht d hd
          exact looks_reads r
        refine wpAny_bind (wpAny_bind (wpAny_bind (kas_mapM (r := Value.type "tuple") _ (fun v hv Q' hq => (looks v hv).here hq) (wpAny_pure ?_))))
        have hall : ((List.map (fun _ => Value.type "tuple") (v1 :: vr)).toArray.all fun x => x == Value.type "tuple") = true := by
          simp only [List.all_toArray, List.all_map, List.all_eq_true]
          intro _ _
          rfl
        have h0 : (List.map (fun _ => Value.type "tuple") (v1 :: vr)).toArray[0]? = some (Value.type "tuple") := by simp
        rw [h0]
        simp only [hall, if_true]
        exact wpAny_pure (wpAny_pure h)
theorem sorts_rows {prog : Program} {w : World} {A : Around} {s : Shared} {vs : List Value} {ds : List PyData} (e : EachIs (fun v d => ∃ as, Reads s.heap v d as) vs ds) (hal : AllAlike ds) (ht : ∀ d ∈ ds, ∃ xs, d = .tuple xs) (hu : ∀ d, d ∈ ds → A.units + d.depth < cLine) : SortsAt prog w A s (dataKind s.heap ds) vs := by
  by_cases hne : ∀ d ∈ ds, nonE d = true
  · refine SortsAt.data e hal (.inl fun d hd => ?_) hu
    obtain ⟨xs, rfl⟩ := ht d hd
    cases xs with
    | nil => exact absurd (hne _ hd) (by simp [nonE])
    | cons x r => exact ⟨x, r, rfl⟩
  · cases ds with
    | nil => exact absurd (fun d hd => by cases hd) hne
    | cons d0 ds0 =>
      refine ⟨fun v hv => ?_, if nonE d0 = true then general' else oneType', ?_, fun _ E Q hq => kind_rows e ht hne hq⟩
      · obtain ⟨d, hd, as, r⟩ := e.left v hv
        exact ⟨_, dataKind_some hal hd r⟩
      · intro E x y a b Q ha hb hq
        obtain ⟨d, as, hd, ra, rfl⟩ := dataKind_inv ha
        obtain ⟨d', as', hd', rb, rfl⟩ := dataKind_inv hb
        have hdd := hal d hd d' hd'
        have hroom : A.units + min d.depth d'.depth < cLine := Nat.lt_of_le_of_lt (Nat.add_le_add_left (Nat.min_le_left _ _) _) (hu d hd)
        obtain ⟨xs, rfl⟩ := ht d hd
        obtain ⟨ys, rfl⟩ := ht d' hd'
        split
        · exact oneLt_tuples (f := false) ra rb hdd hroom hq
        · rw [keyLt'_oneType]
          exact oneLt_tuples (f := true) ra rb hdd hroom hq
theorem list_sort_any {prog : Program} {w : World} {A : Around} {E : Value → Shared → Prop} {s : Shared} {β : Type} {vs : List Value} {bs : List β} {enc : β → PyData} {R : Value → β → Prop} {a : Addr} {n : Nat} {Q : Value → Shared → Prop} (ho : s.heap.get? a = some (seqObj "list" vs.toArray n)) (e : EachIs R vs bs) (er : EachIs (fun v b => ∃ as, Reads s.heap v (enc b) as ∧ a ∉ as) vs bs) (hal : AllAlike (bs.map enc)) (hk : Sortable (bs.map enc) ∨ ∀ d ∈ bs.map enc, ∃ xs, d = .tuple xs) (hL : bs.length ≤ sizeLine)
    (hu : ∀ b, b ∈ bs → A.units + 1 + (enc b).depth < cLine) (h : ∀ out, out.length = bs.length → EachIs R out (bs.mergeSort (dataLe false enc)) → Q .none { s with heap := sortedHeap s.heap a vs (List.toArray out) }) :
    wpAny (model prog w) A (call (.builtin "list.sort") [.ref a]) Q E s := by
  rcases hk with hk | ht
  · exact list_sort_data ho e er hal hk hL hu h
  have er' : EachIs (fun v b => ∃ as, Reads (sortingHeap s.heap a vs) v (enc b) as) vs bs := each_keepBut (h' := sortingHeap s.heap a vs) (fun _ _ hb q => sortingHeap_old hb q) (fun o q => by rw [ho] at q; rw [← Option.some.inj q]) hal er
  refine wpAny_call_entry slot_list_sort ⟨_, ho, rfl⟩ entry_list_sort (list_sort_vals (κ := dataKind (sortingHeap s.heap a vs) (bs.map enc)) ho (sorts_rows (s := { s with heap := sortingHeap s.heap a vs }) (each_map (R := fun v d => ∃ as, Reads (sortingHeap s.heap a vs) v d as) enc er') hal ht (bound_map hu)) (by rw [e.length]; exact hL) ⟨.none, rfl, ?_⟩) (args_list_sort _)
  exact h _ (by rw [sortVals_length false rfl]; exact e.length) (sortVals_data false e er' hal)
end
def isIntD : D → Bool
  | .int _ => true
  | _ => false
def isRow : D → Bool
  | .tuple xs => xs.all isIntD
  | _ => false
def leD (a b : D) : Bool := PySem.W.dataLe false (fun d : D => d) a b
def itemsOf : D → Option (List D)
  | .list xs => some xs
  | .tuple xs => some xs
  | .dict ((.none, _) :: _) => none
  | .dict kvs => some (kvs.map (·.1))
  | _ => none
def insL {α : Type} (le : α → α → Bool) (a : α) : List α → List α
  | [] => [a]
  | b :: r => if le a b = true then a :: b :: r else b :: insL le a r
def insSort {α : Type} (le : α → α → Bool) : List α → List α
  | [] => []
  | a :: r => insL le a (insSort le r)
theorem insL_at {α : Type} {le : α → α → Bool} {a : α} : ∀ (l₁ l₂ : List α), (∀ b ∈ l₁, le a b = false) → (∀ b ∈ l₂, le a b = true) → insL le a (l₁ ++ l₂) = l₁ ++ a :: l₂
  | [], [], _, _ => rfl
  | [], b :: r, _, h => by
    show (if le a b = true then _ else _) = _
    rw [if_pos (h b List.mem_cons_self)]
    rfl
  | b :: r, l₂, h1, h2 => by
    show (if le a b = true then _ else _) = _
    rw [if_neg (by rw [h1 b List.mem_cons_self]; exact Bool.false_ne_true)]
    show b :: insL le a (r ++ l₂) = b :: (r ++ a :: l₂)
    rw [insL_at r l₂ (fun c hc => h1 c (List.mem_cons_of_mem _ hc)) h2]
theorem insSort_eq {α : Type} {le : α → α → Bool} (tr : ∀ a b c, le a b = true → le b c = true → le a c = true) (to : ∀ a b, (le a b || le b a) = true) : ∀ l : List α, insSort le l = l.mergeSort le
  | [] => by simp [insSort]
  | a :: l => by
    obtain ⟨l₁, l₂, e1, e2, h⟩ := List.mergeSort_cons tr to a l
    have pw := List.pairwise_mergeSort tr to (a :: l)
    rw [e1] at pw ⊢
    rw [insSort, insSort_eq tr to l, e2]
    refine insL_at l₁ l₂ (fun b hb => by simpa using h b hb) fun b hb => ?_
    exact (List.pairwise_cons.mp (List.pairwise_append.mp pw).2.1).1 b hb
def sortD (ds : List D) : Option (List D) := if (ds.all isIntD || ds.all isRow) && decide (ds.length ≤ SZ) then some (insSort leD ds) else none
theorem leD_tot : PySem.W.TotalLe leD := by
  have h : PySem.W.TotalLe (PySem.W.dataLe false fun d : D => d) := by
    unfold PySem.W.dataLe
    exact PySem.W.sortLe_total _ _ _
  exact h
theorem sortD_def (ds : List D) : sortD ds = if (ds.all isIntD || ds.all isRow) && decide (ds.length ≤ SZ) then some (ds.mergeSort leD) else none := by
  unfold sortD
  rw [insSort_eq leD_tot.trans fun a b => by rw [Bool.or_eq_true]; exact leD_tot.total a b]
def cSorted : List D → Option D
  | [d] => (itemsOf d).bind fun ds => (sortD ds).map .list
  | _ => none
theorem isIntD_inv {d : D} (h : isIntD d = true) : ∃ i, d = .int i := by
  cases d <;> first | exact ⟨_, rfl⟩ | cases h
theorem row_inv {d : D} (h : isRow d = true) : ∃ xs, d = .tuple xs ∧ xs.all isIntD = true := by
  unfold isRow at h
  split at h
  · exact ⟨_, rfl, h⟩
  · cases h
open PySem.W in
theorem alike_ints : ∀ {xs ys : List D}, xs.all isIntD = true → ys.all isIntD = true → alikeAll xs ys = true
  | [], [], _, _ => by simp [alikeAll]
  | [], _ :: _, _, _ => by simp [alikeAll]
  | _ :: _, [], _, _ => by simp [alikeAll]
  | x :: xs, y :: ys, h, k => by
    rw [List.all_cons, Bool.and_eq_true] at h k
    obtain ⟨i, rfl⟩ := isIntD_inv h.1
    obtain ⟨j, rfl⟩ := isIntD_inv k.1
    simp [alikeAll, alike, alike_ints h.2 k.2]
open PySem.W in
theorem alike_of {ds : List D} (h : (ds.all isIntD || ds.all isRow) = true) : AllAlike ds ∧ (Sortable ds ∨ ∀ d ∈ ds, ∃ xs, d = .tuple xs) := by
  rw [Bool.or_eq_true] at h
  rcases h with h | h
  · rw [List.all_eq_true] at h
    refine ⟨fun d hd d' hd' => ?_, .inl (.inr fun d hd => ?_)⟩
    · obtain ⟨i, rfl⟩ := isIntD_inv (h d hd)
      obtain ⟨j, rfl⟩ := isIntD_inv (h d' hd')
      simp [alike]
    · obtain ⟨i, rfl⟩ := isIntD_inv (h d hd)
      exact ⟨(fun z => by cases z), (fun xs z => by cases z)⟩
  · rw [List.all_eq_true] at h
    refine ⟨fun d hd d' hd' => ?_, .inr fun d hd => ?_⟩
    · obtain ⟨xs, rfl, h2⟩ := row_inv (h d hd)
      obtain ⟨ys, rfl, k2⟩ := row_inv (h d' hd')
      simp [alike, alike_ints h2 k2]
    · obtain ⟨xs, rfl, h2⟩ := row_inv (h d hd)
      exact ⟨xs, rfl⟩
theorem ints_reads {h : Heap} : ∀ {vs : List Value} {ds : List D} {as : List Addr}, ReadsAll h vs ds as → ds.all isIntD = true → as = []
  | _, _, _, .nil, _ => rfl
  | _, _, _, .cons r rs, hd => by
    rw [List.all_cons, Bool.and_eq_true] at hd
    obtain ⟨i, rfl⟩ := isIntD_inv hd.1
    cases r
    rw [ints_reads rs hd.2]; rfl
theorem reads_none {h : Heap} {v : Value} {d : D} {as : List Addr} (r : Reads h v d as) (hd : isIntD d = true ∨ isRow d = true) : as = [] ∧ d.depth ≤ 1 := by
  rcases hd with hd | hd
  · obtain ⟨i, rfl⟩ := isIntD_inv hd
    cases r
    exact ⟨rfl, Nat.zero_le _⟩
  · obtain ⟨xs, rfl, h2⟩ := row_inv hd
    cases r with
    | tuple a b c rs =>
      refine ⟨ints_reads rs h2, ?_⟩
      have dep : ∀ ys : List D, ys.all isIntD = true → PyData.depthAll ys = 0 := by
        intro ys
        induction ys with
        | nil => intro _; simp [PyData.depthAll]
        | cons y ys ih =>
          intro hy
          rw [List.all_cons, Bool.and_eq_true] at hy
          obtain ⟨i, rfl⟩ := isIntD_inv hy.1
          simp [PyData.depthAll, PyData.depth, ih hy.2]
      have := dep xs h2
      simp only [PyData.depth, this]
      omega
theorem plain_ints : ∀ {ds : List D}, ds.all isIntD = true → plainD.plainL ds = true
  | [], _ => rfl
  | d :: ds, h => by
    rw [List.all_cons, Bool.and_eq_true] at h
    obtain ⟨i, rfl⟩ := isIntD_inv h.1
    show (plainD (.int i) && plainD.plainL ds) = true
    rw [plain_ints h.2]; rfl
theorem plain_one {d : D} (hd : isIntD d = true ∨ isRow d = true) : plainD d = true := by
  rcases hd with hd | hd
  · obtain ⟨i, rfl⟩ := isIntD_inv hd; rfl
  · obtain ⟨xs, rfl, h2⟩ := row_inv hd
    exact plain_ints (ds := xs) h2
open PySem.W in
theorem each_of {V : Hp} : ∀ {xs : List Vl} {us : List Value} {ds : List D}, Vals xs us → RpL V xs ds → EachIs (fun u d => ∃ x, RelV x u ∧ Rp V x d) us ds
  | _, _, _, .nil, .nil => .nil
  | _, _, _, .cons r rs, .cons q qs => .cons ⟨_, r, q⟩ (each_of rs qs)
open PySem.W in
theorem vals_each {V : Hp} : ∀ {us : List Value} {ds : List D}, EachIs (fun u d => ∃ x, RelV x u ∧ Rp V x d) us ds → ∃ xs, Vals xs us ∧ RpL V xs ds
  | _, _, .nil => ⟨[], .nil, .nil⟩
  | _, _, .cons ⟨x, r, q⟩ rest => by
    obtain ⟨xs, h1, h2⟩ := vals_each rest
    exact ⟨x :: xs, .cons r h1, .cons q h2⟩
open PySem.W in
theorem each_mem {R R' : Value → D → Prop} : ∀ {us : List Value} {ds : List D}, EachIs R us ds → (∀ u d, d ∈ ds → R u d → R' u d) → EachIs R' us ds
  | _, _, .nil, _ => .nil
  | _, _, .cons r rs, h => .cons (h _ _ List.mem_cons_self r) (each_mem rs fun u d hd q => h u d (List.mem_cons_of_mem _ hd) q)
section
variable {X : Cx} {pins : List (Addr × Obj)} {s : Shared} {σ : St} {H V : Hp} {Q : VK}
theorem sort_end (hu : X.A.units + 100 < cLine) (I : Inv X pins σ H s) (sb : Sub V H) {s' : Shared} {us : List Value} {xs : List Vl} {ds r : List D} {tk : Nat} {h' : Heap} (es : s' = { s with heap := h', toks := tk }) (kept : ∀ b o, s.heap.get? b = some o → h'.get? b = some o)
    (rv : Vals xs us) (rd : RpL V xs ds) (hs : sortD ds = some r) (k : kD1 V H Q (.list r)) :
    us.length ≤ sizeLine ∧ wpAny (model X.prog X.w) X.A.in1 (call (.builtin "list.sort") [.ref s'.heap.objs.size]) (fun _ s'' => EP X pins σ Q (.ref s'.heap.objs.size) s'') X.xe { s' with heap := s'.heap.push { cls := .type "list", data := .seq us.toArray } } := by
  rw [sortD_def] at hs
  split at hs
  · rename_i hz
    cases hs
    rw [Bool.and_eq_true, decide_eq_true_eq] at hz
    subst es
    obtain ⟨al, so⟩ := alike_of hz.1
    have hd : ∀ d, d ∈ ds → isIntD d = true ∨ isRow d = true := fun d hd => by
      have h1 := hz.1
      rw [Bool.or_eq_true, List.all_eq_true, List.all_eq_true] at h1
      exact h1.imp (fun h => h d hd) fun h => h d hd
    have hlen : us.length ≤ sizeLine := by rw [← rv.length, rd.length]; exact szLine hz.2
    refine ⟨hlen, ?_⟩
    have I1 : Inv X pins σ H { s with heap := h', toks := tk } := I.kept kept
    have e0 : PySem.W.EachIs (fun u d => ∃ x, RelV x u ∧ Rp V x d) us ds := each_of rv rd
    have hpush : ∀ b o, h'.get? b = some o → (h'.push { cls := .type "list", data := .seq us.toArray }).get? b = some o := fun b o e => Heap.get?_push_of_some _ e
    have erd : PySem.W.EachIs (fun u d => ∃ as, Reads (h'.push { cls := .type "list", data := .seq us.toArray }) u d as ∧ h'.objs.size ∉ as) us ds := each_mem e0 fun u d hd' ⟨x, r1, r2⟩ => by
      obtain ⟨as, q⟩ := Dp.reads I1 d x u ((r2.mono sb).dp (plain_one (hd d hd'))) r1
      obtain ⟨z, _⟩ := reads_none q (hd d hd')
      exact ⟨as, PyProof.Rows.Reads.keeps hpush q, by rw [z]; simp⟩
    have e1 : ds.map (fun d : D => d) = ds := List.map_id' ds
    refine list_sort_any (enc := fun d : D => d) (n := 0) (Heap.get?_push_size _ rfl) e0 erd (by rw [e1]; exact al) (by rw [e1]; exact so) (szLine hz.2) (fun d hd' => ?_) fun out hl eo => ?_
    · have hdep : d.depth ≤ 1 := by
        rcases hd d hd' with z | z
        · obtain ⟨i, rfl⟩ := isIntD_inv z; exact Nat.zero_le _
        · obtain ⟨xs', rfl, h2⟩ := row_inv z
          have dep : ∀ ys : List D, ys.all isIntD = true → PyData.depthAll ys = 0 := by
            intro ys
            induction ys with
            | nil => intro _; simp [PyData.depthAll]
            | cons y ys ih =>
              intro hy
              rw [List.all_cons, Bool.and_eq_true] at hy
              obtain ⟨i, rfl⟩ := isIntD_inv hy.1
              simp [PyData.depthAll, PyData.depth, ih hy.2]
          have := dep xs' h2
          simp only [PyData.depth, this]
          omega
      show X.A.in1.units + 1 + d.depth < cLine
      have : X.A.in1.units = X.A.units + 1 := rfl
      omega
    · obtain ⟨ys, v1, v2⟩ := vals_each eo
      obtain ⟨ep, hat⟩ : ∃ ep, (sortedHeap (h'.push { cls := .type "list", data := .seq us.toArray }) h'.objs.size us (List.toArray out)).get? h'.objs.size = some (seqObj "list" out.toArray ep) := by
        obtain ⟨n, z⟩ := sortedHeap_at (n := 0) (vs := us) (out := out.toArray) (Heap.get?_push_size h' rfl)
        exact ⟨n, z⟩
      have hn : H h'.objs.size = none := I1.hok.fresh (Nat.le_refl _)
      have hold : ∀ b o, h'.get? b = some o → (sortedHeap (h'.push { cls := .type "list", data := .seq us.toArray }) h'.objs.size us (List.toArray out)).get? b = some o := fun b o e => by
        have hb := Heap.lt_size e
        rw [sortedHeap_old (Nat.ne_of_lt hb) (by rw [Heap.size_push]; exact Nat.lt_succ_of_lt hb)]
        exact hpush b o e
      refine ⟨.ref h'.objs.size, upd H h'.objs.size (.lst ys), I1.laid (t' := tk) hold (Nat.le_refl _) ⟨by rw [v1.length, hl]; exact szLine hz.2, out, ep, v1, hat⟩, rfl, k _ _ _ (Ext.new sb hn) (.lst upd_same (v2.mono (Ext.new (o := .lst ys) sb hn).v))⟩
  · cases hs
theorem b_sorted (hu : X.A.units + 100 < cLine) (hh : X.A.handled = none) : CallR X (.builtin "sorted") (cD cSorted) := by
  intro pins s σ H xs us Q I rs ⟨V, ds, d, sb, r, hf, k⟩
  unfold cSorted at hf
  split at hf
  · rename_i x
    cases hi : itemsOf x with
    | none => rw [hi] at hf; cases hf
    | some ys =>
      rw [hi] at hf
      cases hso : sortD ys with
      | none => simp only [Option.bind_some, hso] at hf; cases hf
      | some zs =>
        simp only [Option.bind_some, hso] at hf
        cases hf
        obtain ⟨v, rfl, rv⟩ := r.one
        obtain ⟨u, rfl, ru⟩ := vals1 rs
        refine sorted_via ?_
        cases rv with
        | lst ha ra =>
          cases hi
          cases ru
          obtain ⟨its, rv, ⟨o, n, ho, hc, _, hd⟩, hz⟩ := I.list (SqL.of (sb _ _ ha))
          refine wpAny_collect_seq _ (.inl rfl) ho hc hd (fun h' hk => ?_) (by rw [List.size_toArray, ← rv.length]; exact hz)
          exact sort_end hu I sb (tk := s.toks) rfl hk rv ra hso k
        | tup ha ra =>
          cases hi
          cases ru
          obtain ⟨its, rv, ⟨o, ho, hc, n, hd⟩, hz⟩ := I.tuple (SqT.of (sb _ _ ha))
          refine wpAny_collect_seq _ (.inr rfl) ho hc hd (fun h' hk => ?_) (by rw [List.size_toArray, ← rv.length]; exact hz)
          exact sort_end hu I sb (tk := s.toks) rfl hk rv ra hso k
        | dK ha ra =>
          rename_i a kvs ds'
          cases ru
          have hi' : itemsOf (.dict ds') = some (ds'.map (·.1)) := by
            unfold itemsOf
            split
            · rename_i heq; cases heq
            · rename_i heq; cases heq
            · rename_i q r heq
              cases heq
              exact (ra.noT rfl).elim
            · rename_i heq; cases heq; rfl
            · rename_i h1 h2 h3 h4; exact absurd rfl (h4 _)
          rw [hi'] at hi
          cases hi
          obtain ⟨z1, z2, vs, kv, dd⟩ := dk_of I.hok (sb _ _ ha)
          obtain ⟨ep, hat⟩ := dd.dictAt
          refine PySem.W.kdu_collect (PySem.W.kdl_dict (knd := mixKind X.prog X.w) (kvs := vs) (ep := ep) z2) (A := X.A.in1) hh hat (by rw [← kv.length]; exact z1) fun h' tk acc hk hacc => ?_
          have hv : Vals (kvs.map fun kv => kV kv.1) acc.toList := by
            refine vals_of_at ?_ fun j x u e1 e2 => ?_
            · rw [List.length_map, kv.length, Array.length_toList]; exact hacc.1.symm
            · rw [List.getElem?_map] at e1
              obtain ⟨q, e3, rfl⟩ := Option.map_eq_some_iff.mp e1
              obtain ⟨kk, x, e4, e5⟩ := hacc.2 j u (by rw [← Array.getElem?_toList]; exact e2)
              obtain ⟨u', e6, _⟩ := kv_get kv (i := j) (k := q.1) (v := q.2) e3
              rw [e4] at e6
              cases e6
              exact relV_key e5
          have hr : RpL V (kvs.map fun kv => kV kv.1) (ds'.map (·.1)) := by
            clear hso hi' hv hacc kv dd hat z1 ha hh k r rs
            induction ds' generalizing kvs with
            | nil => cases ra; exact .nil
            | cons p q ih => cases ra with
              | cons r1 r2 =>
                rename_i kk vv vs' d'
                refine .cons ?_ (ih r2)
                cases kk with
                | inl i => exact .int i
                | inr x => exact .str x
          exact sort_end hu I sb rfl hk hv hr hso k
        | dT ha ra => cases hi
        | non => cases hi
        | bl b => cases hi
        | int i => cases hi
        | str x => cases hi
  · cases hf
end
end DL
set_option Elab.async false
set_option linter.all false
set_option maxRecDepth 100000
set_option maxHeartbeats 1000000
namespace DL
open PySem PySem.Spec PyProof.Rows
open L2 hiding St V
def compD (f : Tg) (mc mk me : M) (env : Env) : List D → Bx → List (D × D) → Option (List (D × D) × Bx)
  | [], b, acc => some (acc, b)
  | d :: ds, b, acc => match f d env with
    | none => none
    | some env1 => match mc env1 b with
      | some (.ok t, b) => match truthD t with
        | some true => match mk env1 b with
          | some (.ok kx, b) => match me env1 b with
            | some (.ok y, b) => match keyD kx with
              | some _ => compD f mc mk me env ds b (putD acc kx y)
              | none => none
            | _ => none
          | _ => none
        | some false => compD f mc mk me env ds b acc
        | none => none
      | _ => none
def mCompD (mi : MA) (vs : List Nat) (f : Tg) (mc mk me : M) : M := fun env b =>
  match mi env b with
  | none => none
  | some (.exc c d, b) => some (.exc c d, b)
  | some (.ok ds, b) => (compD f mc mk me (wipeE env vs) ds b []).map fun r => (.ok (.dict r.1), r.2)
def compDP (f : Tg) (pc pk pe : P) (env : Env) (b : Bx) : List D → List (D × D) → Option (List (D × D))
  | [], acc => some acc
  | d :: ds, acc => (f d env).bind fun env1 => (pc env1 b).bind fun t => (truthD t).bind fun
    | true => (pk env1 b).bind fun kx => (pe env1 b).bind fun y => (keyD kx).bind fun _ => compDP f pc pk pe env b ds (putD acc kx y)
    | false => compDP f pc pk pe env b ds acc
def pCompD (pi : PL) (vs : List Nat) (f : Tg) (pc pk pe : P) : P := fun env b => (pi env b).bind fun ds => (compDP f pc pk pe (wipeE env vs) b ds []).map fun r => .dict r
theorem lift_compDL (f : Tg) (pc pk pe : P) (env : Env) : ∀ (ds : List D) (b : Bx) (acc : List (D × D)), compD f (lift pc) (lift pk) (lift pe) env ds b acc = (compDP f pc pk pe env b ds acc).map fun r => (r, b)
  | [], b, acc => rfl
  | d :: ds, b, acc => by
    have ih := fun acc => lift_compDL f pc pk pe env ds b acc
    unfold lift at ih
    unfold compD compDP lift
    cases f d env with
    | none => rfl
    | some env1 =>
      simp only [Option.bind_some]
      cases pc env1 b with
      | none => rfl
      | some t =>
        simp only [Option.map_some, Option.bind_some]
        cases truthD t with
        | none => rfl
        | some k =>
          cases k with
          | true =>
            simp only [Option.bind_some]
            cases pk env1 b with
            | none => rfl
            | some kx =>
              simp only [Option.map_some, Option.bind_some]
              cases pe env1 b with
              | none => rfl
              | some y =>
                simp only [Option.map_some, Option.bind_some]
                cases keyD kx with
                | none => rfl
                | some kk => simp only [Option.bind_some]; exact ih _
          | false => simp only [Option.bind_some]; exact ih _
theorem lift_compD (pi : PL) (vs : List Nat) (f : Tg) (pc pk pe : P) : mCompD (liftA pi) vs f (lift pc) (lift pk) (lift pe) = lift (pCompD pi vs f pc pk pe) := by
  funext env b
  show mCompD (liftA pi) vs f (lift pc) (lift pk) (lift pe) env b = (((pi env b).bind fun ds => (compDP f pc pk pe (wipeE env vs) b ds []).map fun r => PyData.dict r)).map fun d => (Res.ok d, b)
  unfold mCompD liftA
  cases h0 : pi env b with
  | none => rfl
  | some ds =>
    simp only [Option.map_some, Option.bind_some]
    rw [lift_compDL]
    cases compDP f pc pk pe (wipeE env vs) b ds [] <;> rfl
section
variable {X : Cx} {EX : EXP} {e : Expr}
theorem dc_of {mi : MA} {vs : List Nat} {f : Tg} {mc mk me : M} {K : KF} {σ : St} {H : Hp} {Q : VK} (h : tXO K EX (mCompD mi vs f mc mk me) σ H Q) :
    tDc (tXI K EX mi) (tXG K f vs) (tXT K XF mc) (tX K XF mk) (tX K XF me) vs σ H Q := by
  obtain ⟨w, env, hw, sr, p⟩ := h
  subst hw
  refine ⟨w, env, rfl, sr, ?_⟩
  unfold mCompD at p
  cases hm : mi env w.bx with
  | none => rw [hm] at p; exact p.elim
  | some q =>
    obtain ⟨r, b⟩ := q
    rw [hm] at p
    cases r with
    | exc c d => exact p
    | ok ds =>
      intro J w1 hb g1 s1 hz hW
      subst hb
      intro D hD
      dsimp only at p
      have hV1 : w1.V D = none := by
        cases e : w1.V D with
        | none => rfl
        | some u => rw [s1.vh _ _ e] at hD; cases hD
      have h0 : w.H D = none := by
        cases e : w.H D with
        | none => rfl
        | some u => exact absurd hD (g1.hk D (by rw [e]; simp))
      cases hc : compD f mc mk me (wipeE env vs) ds w1.bx [] with
      | none => rw [hc] at p; exact p.elim
      | some q =>
        obtain ⟨r, bx'⟩ := q
        rw [hc] at p
        have hnW1 : ¬ w1.W D := fun ⟨k, d, z1, z2⟩ => s1.as_some z1 hD
        have hnA1 : ∀ k : Nat, w1.as[k]? ≠ some D := fun k z => s1.as_some z hD
        refine ⟨fun i m H => i + m = ds.length ∧ ∃ w2 acc rs, w2.H = H ∧ StR K σ env w2 ∧ Gr w1 w2 ∧ H D = some (.dK acc) ∧ w2.V D = none ∧ ¬ w2.W D ∧ (∀ k : Nat, w2.as[k]? ≠ some D) ∧ RpK w2.V acc rs ∧
            acc.length ≤ i ∧ compD f mc mk me (wipeE env vs) (ds.drop i) w2.bx rs = some (r, bx'),
          ⟨ds.length, by omega, { w1 with H := upd w1.H D (.dK []) }, [], [], rfl, s1.hid hV1 hnA1, (Gr.refl w1).hid hD, upd_same, hV1, hnW1, hnA1, .nil, Nat.zero_le _, by rw [List.drop_zero]; exact hc⟩, ?_⟩
        intro i m H2 ⟨hi, w2, acc, rs, hw2, s2, g2, hacc, hv2, hnW2, hnA2, rl, hal, hcc⟩
        subst hw2
        have hW2 := hW.mono g2.v
        cases m with
        | zero =>
          have e : i = ds.length := by omega
          subst e
          refine .inl ⟨hW2.stop w2.V w2.H (Sub.refl _) s2.vh, ?_⟩
          rw [List.drop_length] at hcc
          cases hcc
          exact p D w2 rfl (g1.trans g2) s2 h0 hv2 (.inl ⟨acc, hacc, rl⟩) hnA2
        | succ m =>
          have hlt : i < ds.length := by omega
          refine .inr ⟨hW2.go i w2.V w2.H (Sub.refl _) s2.vh hlt, fun H' => i + 1 + m = ds.length ∧ ∃ w3 acc rs, w3.H = H' ∧ StR K σ env w3 ∧ Gr w1 w3 ∧ H' D = some (.dK acc) ∧ w3.V D = none ∧ ¬ w3.W D ∧ (∀ k : Nat, w3.as[k]? ≠ some D) ∧ RpK w3.V acc rs ∧
            acc.length ≤ i + 1 ∧ compD f mc mk me (wipeE env vs) (ds.drop (i + 1)) w3.bx rs = some (r, bx'), fun H' hN => ⟨m, by omega, hN⟩, fun x H' hy => ?_⟩
          obtain ⟨V3, x3, rx⟩ := hW2.yld i w2.V w2.H x H' ds[i] (Sub.refl _) s2.vh (List.getElem?_eq_getElem hlt) hy
          rw [List.drop_eq_getElem_cons hlt] at hcc
          have s3 : StR K (wipe σ vs) (wipeE env vs) (w2.to V3 H') := (s2.ext' x3).wipe vs
          have hD2 : w2.H D ≠ none := by rw [hacc]; simp
          have gx : Gr w2 (w2.to V3 H') := x3.gr
          -- what stays of the new list behind an evaluation
          have keep : ∀ {w' : Wd}, Gr w2 w' → w'.H D = some (.dK acc) ∧ w'.V D = none ∧ ¬ w'.W D ∧ (∀ k : Nat, w'.as[k]? ≠ some D) ∧ RpK w'.V acc rs := fun {w'} g =>
            ⟨g.hn D _ hacc hnW2, (g.vn D (NT.of hacc fun q z => by cases q <;> cases z) hnW2).trans hv2, fun z => (g.w D z).elim hnW2 hD2, fun k z => (g.asn k D z).elim (hnA2 k) hD2, rl.mono g.v⟩
          refine ⟨w2.to V3 H', wipeE env vs, ds[i], rfl, s3, rx, ?_⟩
          unfold compD at hcc
          cases hf : f ds[i] (wipeE env vs) with
          | none => simp only [hf] at hcc; cases hcc
          | some env3 =>
            simp only [hf] at hcc
            intro σ3 st3 ko kl
            refine ⟨?_, ?_⟩
            · have e1 : wipe σ3 vs = wipe (wipe σ vs) vs := wipe_ext kl ko
              have e2 : wipe (wipe σ vs) vs = wipe σ vs := wipe_ext (wipe_length _ _) fun j hj => wipe_at hj
              rw [e1, e2]
            refine ⟨w2.to V3 H', env3, rfl, st3, ?_⟩
            show PostT K XF _ σ3 env3 (w2.to V3 H') (mc env3 w2.bx)
            cases hmc : mc env3 w2.bx with
            | none => rw [hmc] at hcc; cases hcc
            | some z =>
              obtain ⟨rt, b4⟩ := z
              rw [hmc] at hcc
              cases rt with
              | exc c d => cases hcc
              | ok t =>
                dsimp only at hcc
                cases ht : truthD t with
                | none => rw [ht] at hcc; cases hcc
                | some k =>
                  rw [ht] at hcc
                  refine ⟨k, ht, fun w4 hb4 g4 s4 => ?_⟩
                  subst hb4
                  have g24 : Gr w2 w4 := gx.trans g4
                  cases k with
                  | false =>
                    rw [if_neg Bool.false_ne_true]
                    obtain ⟨k1, k2, k3, k4, k5⟩ := keep g24
                    exact ⟨by omega, w4, acc, rs, rfl, s2.carry s4 g24, g2.trans g24, k1, k2, k3, k4, k5, by omega, hcc⟩
                  | true =>
                    rw [if_pos rfl]
                    refine ⟨w4, env3, rfl, s4, ?_⟩
                    dsimp only at hcc
                    cases hmk : mk env3 w4.bx with
                    | none => rw [hmk] at hcc; cases hcc
                    | some z =>
                      obtain ⟨rk, b5⟩ := z
                      rw [hmk] at hcc
                      cases rk with
                      | exc c d => cases hcc
                      | ok kd =>
                        intro vk w5 hb5 g5 s5 r5
                        subst hb5
                        dsimp only at hcc
                        refine ⟨w5, env3, rfl, s5, ?_⟩
                        cases hme : me env3 w5.bx with
                        | none => rw [hme] at hcc; cases hcc
                        | some z =>
                          obtain ⟨ry, b6⟩ := z
                          rw [hme] at hcc
                          cases ry with
                          | exc c d => cases hcc
                          | ok y =>
                            intro v w6 hb6 g6 s6 r6
                            subst hb6
                            dsimp only at hcc
                            split at hcc
                            · rename_i kk hkk
                              have g26 : Gr w2 w6 := (g24.trans g5).trans g6
                              obtain ⟨k1, k2, k3, k4, k5⟩ := keep g26
                              have ek := keyD_inv hkk
                              subst ek
                              have evk := r5.kD
                              have hD1 : w1.H D = none := hD
                              refine ⟨acc, kk, evk, k1, Nat.lt_of_lt_of_le (Nat.lt_of_le_of_lt hal hlt) hz, ?_⟩
                              refine ⟨by omega, { w6 with H := upd w6.H D (.dK (putK acc kk v)) }, putK acc kk v, putD rs (kD kk) y, rfl, (s2.carry s6 g26).hid k2 k4, (g2.trans g26).hid hD1, upd_same, k2, k3, k4, RpK.put r6 k5, ?_, hcc⟩
                              have := length_putK acc kk v
                              omega
                            · cases hcc
theorem x_dcO {mi : MA} {vs : List Nat} {f : Tg} {mc mk me : M} (h : PE X e (tDc (tXI X.K EX mi) (tXG X.K f vs) (tXT X.K XF mc) (tX X.K XF mk) (tX X.K XF me) vs)) : PE X e (tXO X.K EX (mCompD mi vs f mc mk me)) := h.imp fun _ _ _ q => dc_of q
theorem x_dc {mi : MA} {vs : List Nat} {f : Tg} {mc mk me : M} (h : PE X e (tDc (tXI X.K EX mi) (tXG X.K f vs) (tXT X.K XF mc) (tX X.K XF mk) (tX X.K XF me) vs)) : PE X e (tX X.K EX (mCompD mi vs f mc mk me)) := x_ofO (x_dcO h)
def insI (x : Int) : List Int → List Int
  | [] => [x]
  | y :: r => if x < y then x :: y :: r else if x = y then y :: r else y :: insI x r
def uniqI (ns : List Int) : List Int := ns.foldr insI []
end
end DL
set_option Elab.async false
set_option linter.all false
set_option maxRecDepth 100000
set_option maxHeartbeats 3200000
namespace DL
open PySem PySem.Spec PyProof.Rows
open L2 hiding St V
abbrev setO0 (w : World) : Obj := { cls := .type "set", dict := none, data := .set #[] 0 (.fresh 0 0 (!w.params.followText "set-order")) }
section
variable {P : Program} {w : World} {A : Around} {E : Value → Shared → Prop} {s : Shared}
end
end DL
set_option Elab.async false
set_option linter.all false
set_option maxRecDepth 100000
set_option maxHeartbeats 3200000
namespace DL
open PySem PySem.Spec PyProof.Rows
open L2 hiding St V
theorem insI_mem {x k : Int} : ∀ {l : List Int}, k ∈ insI x l ↔ k = x ∨ k ∈ l
  | [] => by simp [insI]
  | y :: r => by
    unfold insI
    split
    · simp
    · split
      · rename_i h; subst h; simp
      · simp only [List.mem_cons, insI_mem (l := r)]
        constructor
        · rintro (h | h | h) <;> simp [h]
        · rintro (h | h | h) <;> simp [h]
theorem insI_sorted {x : Int} : ∀ {l : List Int}, l.Pairwise (· < ·) → (insI x l).Pairwise (· < ·)
  | [], _ => by simp [insI]
  | y :: r, h => by
    unfold insI
    rw [List.pairwise_cons] at h
    split
    · rename_i c
      rw [List.pairwise_cons, List.pairwise_cons]
      refine ⟨fun z hz => ?_, h⟩
      rcases List.mem_cons.mp hz with e | m
      · omega
      · have := h.1 z m; omega
    · split
      · rw [List.pairwise_cons]; exact h
      · rename_i c1 c2
        rw [List.pairwise_cons]
        refine ⟨fun z hz => ?_, insI_sorted h.2⟩
        rcases insI_mem.mp hz with e | m
        · omega
        · exact h.1 z m
theorem uniq_spec : ∀ ns : List Int, (uniqI ns).Pairwise (· < ·) ∧ ∀ k, k ∈ uniqI ns ↔ k ∈ ns
  | [] => ⟨List.Pairwise.nil, fun k => Iff.rfl⟩
  | n :: r => by
    obtain ⟨h1, h2⟩ := uniq_spec r
    refine ⟨insI_sorted h1, fun k => ?_⟩
    show k ∈ insI n (uniqI r) ↔ _
    rw [insI_mem, h2, List.mem_cons]
theorem sorted_unique : ∀ {xs ys : List Int}, xs.Pairwise (· < ·) → ys.Pairwise (· < ·) → (∀ k, k ∈ xs ↔ k ∈ ys) → xs = ys
  | [], [], _, _, _ => rfl
  | [], y :: ys, _, _, h => absurd ((h y).mpr List.mem_cons_self) (List.not_mem_nil)
  | x :: xs, [], _, _, h => absurd ((h x).mp List.mem_cons_self) (List.not_mem_nil)
  | x :: xs, y :: ys, hx, hy, h => by
    rw [List.pairwise_cons] at hx hy
    have e : x = y := by
      rcases List.mem_cons.mp ((h x).mp List.mem_cons_self) with e | m
      · exact e
      · rcases List.mem_cons.mp ((h y).mpr List.mem_cons_self) with e' | m'
        · exact e'.symm
        · have := hx.1 y m'; have := hy.1 x m; omega
    subst e
    congr 1
    refine sorted_unique hx.2 hy.2 fun k => ⟨fun m => ?_, fun m => ?_⟩
    · rcases List.mem_cons.mp ((h k).mp (List.mem_cons_of_mem _ m)) with e | m'
      · subst e; have := hx.1 k m; omega
      · exact m'
    · rcases List.mem_cons.mp ((h k).mpr (List.mem_cons_of_mem _ m)) with e | m'
      · subst e; have := hy.1 k m; omega
      · exact m'
section
variable {X : Cx} {EX : EXP} {e : Expr} {m : M} {p p2 q pos : Pos}
end
end DL
set_option Elab.async false
set_option linter.all false
set_option maxRecDepth 100000
set_option maxHeartbeats 1000000
namespace DL
open PySem PySem.Spec PyProof.Rows
open L2 hiding St V
section
variable {X : Cx} {EX : EXP} {a b c e tg o : Expr} {es : List Expr} {rest : List Expr} {ga gb gc g : P} {gs : PL} {pos p p2 q : Pos}
theorem d_op {op : Operator} {f : D → D → Option D} (ho : OpR X (binaryOp op) (rD f)) (ha : PE X a (tX X.K EX (lift ga))) (hb : PE X b (tX X.K EX (lift gb))) : PE X (.BinOp a op b pos) (tX X.K EX (lift (pBin f ga gb))) := by
  rw [← lift_bin]; exact x_op ho ha hb
theorem d_cmp {op : CmpOp} {f : D → D → Option D} (ho : OpR X (compareOp op) (rD f)) (ha : PE X a (tX X.K EX (lift ga))) (hb : PE X b (tX X.K EX (lift gb))) (hm : behindInMarks op b = false) : PE X (.Compare a [op] [b] pos) (tX X.K EX (lift (pBin f ga gb))) := by
  rw [← lift_bin]; exact x_cmp ho ha hb hm
theorem d_un {op : UnaryOp} {f : D → Option D} (ho : UnR X (unaryOp op) (uD f)) (ha : PE X a (tX X.K EX (lift ga))) : PE X (.UnaryOp op a pos) (tX X.K EX (lift (pUn f ga))) := by
  rw [← lift_un]; exact x_un ho ha
theorem d_not (ha : PE X a (tX X.K EX (lift ga))) : PE X (.UnaryOp .Not a pos) (tX X.K EX (lift (pUn dNot ga))) := by
  rw [← lift_un]; exact x_not ha
theorem d_chain {op op' : CmpOp} {f f' : D → D → Option D} (ho : OpR X (compareOp op) (rD f)) (ho' : OpR X (compareOp op') (rD f')) (ha : PE X a (tX X.K EX (lift ga))) (hb : PE X b (tX X.K EX (lift gb))) (hc : PE X c (tX X.K EX (lift gc)))
    (hm : lastMarks [op, op'] [b, c] = false := by rfl) : PE X (.Compare a [op, op'] [b, c] pos) (tX X.K EX (lift (pChain f f' ga gb gc))) := by
  rw [← lift_chain]; exact x_chain ho ho' ha hb hc hm
theorem d_and (ha : PE X a (tX X.K EX (lift ga))) (hb : PE X (.BoolOp .And (b :: rest) pos) (tX X.K EX (lift gb))) : PE X (.BoolOp .And (a :: b :: rest) pos) (tX X.K EX (lift (pAnd ga gb))) := by
  rw [← lift_and]; exact x_and ha hb
theorem d_or (ha : PE X a (tX X.K EX (lift ga))) (hb : PE X (.BoolOp .Or (b :: rest) pos) (tX X.K EX (lift gb))) : PE X (.BoolOp .Or (a :: b :: rest) pos) (tX X.K EX (lift (pOr ga gb))) := by
  rw [← lift_or]; exact x_or ha hb
theorem dw_and (ha : PT X a (tXT X.K EX (lift ga))) (hb : PW X (.BoolOp .And (b :: rest) pos) (tXT X.K EX (lift gb))) : PW X (.BoolOp .And (a :: b :: rest) pos) (tXT X.K EX (lift (pAnd ga gb))) := by
  rw [← lift_and]; exact tw_and ha hb
theorem dw_or (ha : PT X a (tXT X.K EX (lift ga))) (hb : PW X (.BoolOp .Or (b :: rest) pos) (tXT X.K EX (lift gb))) : PW X (.BoolOp .Or (a :: b :: rest) pos) (tXT X.K EX (lift (pOr ga gb))) := by
  rw [← lift_or]; exact tw_or ha hb
theorem dt_not (ha : PT X a (tXT X.K EX (lift ga))) : PT X (.UnaryOp .Not a pos) (tXT X.K EX (lift (pUn dNot ga))) := by
  rw [← lift_un]; exact t_not ha
theorem d_if (hc : PT X c (tXT X.K EX (lift gc))) (ha : PE X a (tX X.K EX (lift ga))) (hb : PE X b (tX X.K EX (lift gb))) : PE X (.IfExp c a b pos) (tX X.K EX (lift (pIf gc ga gb))) := by
  rw [← lift_if]; exact x_if hc ha hb
theorem d_ix (ha : PE X a (tX X.K EX (lift ga))) (hb : PE X b (tX X.K EX (lift gb))) (hs : PlainIx b) : PE X (.Subscript a b pos) (tX X.K EX (lift (pBin dIx ga gb))) := by
  rw [← lift_bin]; exact x_ix ha hb hs
theorem d_dget (hu : X.A.units + 1 < cLine) (ha : PE X a (tX X.K EX (lift ga))) (hb : PE X b (tX X.K EX (lift gb))) (hs : NoSl b) : PE X (.Subscript a b pos) (tX X.K EX (lift (pBin dIxD ga gb))) := by
  rw [← lift_bin]; exact x_dget hu ha hb hs
theorem d_bix {i : Nat} (h0 : PE X e (tVar i)) (hb : PE X b (tX X.K EX (lift g))) (hs : PlainIx b) : PE X (.Subscript e b pos) (tX X.K EX (lift (pBIx i g))) := by
  rw [← lift_bix]; exact x_bix h0 hb hs
theorem d_pnone : PO X none (tXP X.K EX (liftP ppNone)) := x_pnone
theorem d_psome (ha : PE X e (tX X.K EX (lift g))) : PO X (some e) (tXP X.K EX (liftP (ppSome g))) := by
  rw [← lift_psome]; exact x_psome ha
theorem d_slice {lo hi : Option Expr} {l h : PP} (he : PE X e (tX X.K EX (lift g))) (hl : PO X lo (tXP X.K EX (liftP l))) (hu : PO X hi (tXP X.K EX (liftP h))) : PE X (.Subscript e (.Slice lo hi none p2) pos) (tX X.K EX (lift (pSl g l h))) := by
  rw [← lift_sl]; exact x_slice he hl hu
theorem d_anil : PA X [] (tXA X.K EX (liftA plNil)) := x_anil
theorem d_acons (he : PE X e (tX X.K EX (lift g))) (hr : PA X es (tXA X.K EX (liftA gs))) (hs : starEach (e :: es) X.env = (false, eval e X.env) :: starEach es X.env := by rfl) : PA X (e :: es) (tXA X.K EX (liftA (plCons g gs))) := by
  rw [← lift_acons]; exact x_acons he hr hs
theorem d_astar (he : PE X e (tX X.K EX (lift g))) (hr : PA X es (tXA X.K EX (liftA gs))) : PA X (.Starred e p :: es) (tXA X.K EX (liftA (plStar g gs))) := by
  rw [← lift_astar]; exact x_astar he hr
theorem d_callB {id : String} {x : Str} {f : List D → Option D} (hc : CallR X (.builtin id) (cD f)) (hg : Gl X x) (hm : X.mg x = none) (hv : bootBuiltins x = some (.builtin id)) (ha : PA X (e :: es) (tXA X.K EX (liftA gs))) (hn : x ≠ "__name__" := by decide)
    (hdb : (x == ("__debug__" : Str)) = false := by decide) (he : starEach (e :: es) X.env = (false, eval e X.env) :: starEach es X.env := by rfl) (hpl : (backTo pos (starEach es X.env)).any (·.1) = false := by rfl) :
    PE X (.Call (.Name x p) (e :: es) [] pos) (tX X.K EX (lift (pApp f gs))) := by
  rw [← lift_app]; exact x_callB hc hg hm hv ha hn hdb he hpl
theorem d_callTy {T : String} {x : Str} {f : List D → Option D} (hc : CallR X (.type T) (cD f)) (hg : Gl X x) (hm : X.mg x = none) (hv : bootBuiltins x = some (.type T)) (ha : PA X (e :: es) (tXA X.K EX (liftA gs))) (hn : x ≠ "__name__" := by decide)
    (hdb : (x == ("__debug__" : Str)) = false := by decide) (he : starEach (e :: es) X.env = (false, eval e X.env) :: starEach es X.env := by rfl) (hpl : (backTo pos (starEach es X.env)).any (·.1) = false := by rfl) :
    PE X (.Call (.Name x p) (e :: es) [] pos) (tX X.K EX (lift (pApp f gs))) := by
  rw [← lift_app]; exact x_callTy hc hg hm hv ha hn hdb he hpl
theorem d_tup {x1} (h : PA X es (tXA X.K EX (liftA gs))) : PE X (.Tuple es x1 pos) (tX X.K EX (lift (pApp gTupD gs))) := by
  rw [← lift_app]; exact x_tup h
theorem d_lst (h : PA X es (tXA X.K EX (liftA gs))) : PE X (.List es pos) (tX X.K EX (lift (pApp gLstD gs))) := by
  rw [← lift_app]; exact x_lst h
theorem d_lstO (h : PA X es (tXA X.K EX (liftA gs))) : PE X (.List es pos) (tXO X.K EX (lift (pApp gLstD gs))) := by
  rw [← lift_app]; exact x_lstO h
theorem d_callTyO {T : String} {x : Str} {f : List D → Option D} (hc : CallR X (.type T) (cO f)) (hg : Gl X x) (hm : X.mg x = none) (hv : bootBuiltins x = some (.type T)) (ha : PA X (e :: es) (tXA X.K EX (liftA gs))) (hn : x ≠ "__name__" := by decide)
    (hdb : (x == ("__debug__" : Str)) = false := by decide) (he : starEach (e :: es) X.env = (false, eval e X.env) :: starEach es X.env := by rfl) (hpl : (backTo pos (starEach es X.env)).any (·.1) = false := by rfl) :
    PE X (.Call (.Name x p) (e :: es) [] pos) (tXO X.K EX (lift (pApp f gs))) := by
  rw [← lift_app]; exact x_callTyO hc hg hm hv ha hn hdb he hpl
theorem di_seq (he : PE X e (tX X.K EX (lift g))) : PI X tg e (tXI X.K EX (liftA (plSeq g))) := by
  rw [← lift_aseq]; exact i_seq he
theorem di_range1 (h : PI X tg e (iRng1 (tXA X.K EX (liftA gs)))) : PI X tg e (tXI X.K EX (liftA (plOf range1 gs))) := by
  rw [← lift_aof]; exact i_range1 h
theorem di_range2 (h : PI X tg e (iRng2 (tXA X.K EX (liftA gs)))) : PI X tg e (tXI X.K EX (liftA (plOf range2 gs))) := by
  rw [← lift_aof]; exact i_range2 h
theorem di_range3 (h : PI X tg e (iRng3 (tXA X.K EX (liftA gs)))) : PI X tg e (tXI X.K EX (liftA (plOf range3 gs))) := by
  rw [← lift_aof]; exact i_range3 h
theorem d_lc {pi : PL} {vs : List Nat} {f : Tg} {pc pe : P} (h : PE X e (tLc (tXI X.K EX (liftA pi)) (tXG X.K f vs) (tXT X.K XF (lift pc)) (tX X.K XF (lift pe)) vs)) : PE X e (tX X.K EX (lift (pComp pi vs f pc pe))) := by
  rw [← lift_comp]; exact x_lc h
theorem ds_setLc {st : Stmt} {i : Nat} {pi : PL} {vs : List Nat} {f : Tg} {pc pe : P} (h : PS X st (tAsg (tLc (tXI X.K EX (liftA pi)) (tXG X.K f vs) (tXT X.K XF (lift pc)) (tX X.K XF (lift pe)) vs) (gName i))) : PS X st (tS X.K EX (sAsg (gN i) (lift (pComp pi vs f pc pe)))) := by
  rw [← lift_comp]; exact s_setLc h
theorem d_dc {pi : PL} {vs : List Nat} {f : Tg} {pc pk pe : P} (h : PE X e (tDc (tXI X.K EX (liftA pi)) (tXG X.K f vs) (tXT X.K XF (lift pc)) (tX X.K XF (lift pk)) (tX X.K XF (lift pe)) vs)) : PE X e (tX X.K EX (lift (pCompD pi vs f pc pk pe))) := by
  rw [← lift_compD]; exact x_dc h
theorem dts_nil : PTs X [] (tXT X.K XF (lift pTrue)) := ts_nil
end
def enumL : List D → Option (List D) := fun ds => match ds with
    | [.list xs] => some (enumD xs)
    | _ => none
section
variable {X : Cx} {EX : EXP} {CX : CXT} {k : Nat} {f : Addr} {fd : FuncData} {ps : List Str} {E : XK} {x : Str} {p pos : Pos} {e tg : Expr} {es : List Expr} {ms : MA} {gs : PL} {F : Fn} {EXf : XK → EXP}
theorem di_enum (h : PI X tg e (iEnum X.K (tXA X.K EX (liftA gs)))) : PI X tg e (tXI X.K EX (liftA (plOf enumL gs))) := by
  rw [← lift_aof]; exact i_enumL h
theorem d_call (G : FnG X.prog X.w X.K X.mg X.base CX k f fd ps (spF X.K EXf F)) (hr : Room k X.A) (hgd : X.A.guards = some []) (hg : Gl X x) (hm : X.mg x = some (.ref f)) (hk : PySem.W.keepIn X.K (.ref f) = true) (hb : Binds X.K fd ps []) (hx : Passes CX X E)
    (ha : PA X (e :: es) (tXA X.K EX (liftA gs))) (hdb : (x == ("__debug__" : Str)) = false := by decide) (he : starEach (e :: es) X.env = (false, eval e X.env) :: starEach es X.env := by rfl) (hpl : (backTo pos (starEach es X.env)).any (·.1) = false := by rfl) :
    PE X (.Call (.Name x p) (e :: es) [] pos) (tX X.K EX (lift (pApp (fP F) gs))) := by
  rw [← lift_app]; exact x_call G hr hgd hg hm hk hb hx ha hdb he hpl
theorem d_cbox {i : Nat} (G : FnG X.prog X.w X.K X.mg X.base CX k f fd ps (spF X.K ex0 F)) (hr : Room k X.A) (hgd : X.A.guards = some []) (hg : Gl X x) (hm : X.mg x = some (.ref f)) (hk : PySem.W.keepIn X.K (.ref f) = true) (hb : Binds X.K fd ps []) (hx : Passes CX X E)
    (h0 : PE X e (tVar i)) (ha : PA X es (tXA X.K XF (liftA gs))) (hdb : (x == ("__debug__" : Str)) = false := by decide) (he : starEach (e :: es) X.env = (false, eval e X.env) :: starEach es X.env := by rfl) (hpl : (backTo pos (starEach es X.env)).any (·.1) = false := by rfl) :
    PE X (.Call (.Name x p) (e :: es) [] pos) (tX X.K XF (mCallB F i (liftA gs))) := x_cbox G hr hgd hg hm hk hb hx h0 ha hdb he hpl
end
def runFO (np nn : Nat) (s : S) (m : M) : Fn := fun cs bx =>
  if cs.length = np then
    match s (cs.map some ++ List.replicate (nn - np) none) bx with
    | some (.nx e, b) => match m e b with
      | some (.ok d, b) => some (.ok d, b.take bx.length)
      | _ => none
    | _ => none
  else none
def spO (K : KF) (F : Fn) : Sp := fun vs H Q _ => ∃ V ds d, Sub V H ∧ RpL V vs ds ∧ fP F ds = some d ∧ ∀ p V' H', Ext V H V' H' → H p = none → V' p = none → OwnAt V' H' p d → Q (.ref p) H'
section
variable {P : Program} {w : World} {K : KF} {mg : Str → Option Value} {base : Heap}
theorem FnG.mkO {x qual : Str} {st : Stmt} {f : Addr} {fd : FuncData} {N ps : List Str} {k np nn : Nat} {s : S} {m : M} (F : Fun K x qual st f fd) (Sc : FnScope N ps (defScope st)) (hp : ps.length = np) (hn : N.length = nn)
    (body : ∀ (cdv : Value) (A : Around) (outer : List PySem.Env) (sh : Shared) (H : Hp) (E : XK), Room k (A.deeper (envOfC qual (defScope st) sh.heap.objs.size f cdv)) → A.guards = some [] →
      PSs (cxOf CX0 P w K mg base N qual (defScope st) f cdv A outer sh H E).nox (defBody st) (tSeq (tS K XF s) (tRet (tXO K XF m)))) : FnG P w K mg base CX0 (k + 1) f fd ps (spO K (runFO np nn s m)) := by
  refine FnG.of F Sc (fun vs H Q E h => ?_) fun cdv A outer sh H vs Q E hr hg h => ⟨_, (body cdv A outer sh H E hr hg).nox, ?_⟩
  · obtain ⟨V, ds, d, sb, r, hd, _⟩ := h
    unfold fP runFO at hd
    rw [hp, r.length]
    by_cases z : (ds.map Cel.dat).length = np
    · simpa using z
    · rw [if_neg z] at hd; cases hd
  · obtain ⟨V, ds, d, sb, r, hd, kk⟩ := h
    have sr := StR.args (K := K) sb r
    unfold fP runFO at hd
    by_cases z : (ds.map Cel.dat).length = np
    · rw [if_pos z] at hd
      refine ⟨⟨[], V, H, []⟩, _, rfl, sr.start (N := N), ?_⟩
      rw [hn, z]
      revert hd
      cases s ((ds.map Cel.dat).map some ++ List.replicate (nn - np) none) [] with
      | none => intro hd; cases hd
      | some q =>
        obtain ⟨o, b⟩ := q
        cases o with
        | nx env =>
          intro hd σ w1 hb g1 s1
          subst hb
          refine ⟨w1, env, rfl, s1, ?_⟩
          dsimp only at hd
          revert hd
          cases m env w1.bx with
          | none => intro hd; cases hd
          | some q =>
            obtain ⟨o, b⟩ := q
            cases o with
            | exc c d => intro hd; cases hd
            | ok d' =>
              intro hd
              cases hd
              intro p w2 hb2 g2 s2 h0 hv ho ha
              have gg := g1.trans g2
              refine kk p w2.V w2.H (gg.ext s2.vh) ?_ hv ho
              cases e : H p with
              | none => rfl
              | some u => exact absurd h0 (g1.hk p (by show H p ≠ none; rw [e]; simp))
        | rt d => intro hd; cases hd
        | bk d => intro hd; cases hd
        | ct d => intro hd; cases hd
        | exc c d => intro hd; cases hd
    · rw [if_neg z] at hd; cases hd
end
section
variable {X : Cx} {EX : EXP} {CX : CXT} {k : Nat} {f : Addr} {fd : FuncData} {ps : List Str} {E : XK} {x : Str} {p pos : Pos} {a b e : Expr} {es rest : List Expr} {ms : MA} {gs : PL} {F : Fn} {ma mb : M}
theorem x_callO (G : FnG X.prog X.w X.K X.mg X.base CX k f fd ps (spO X.K F)) (hr : Room k X.A) (hgd : X.A.guards = some []) (hg : Gl X x) (hm : X.mg x = some (.ref f)) (hk : PySem.W.keepIn X.K (.ref f) = true) (hb : Binds X.K fd ps []) (hx : Passes CX X E)
    (ha : PA X (e :: es) (tXA X.K EX ms)) (hdb : (x == ("__debug__" : Str)) = false := by decide) (he : starEach (e :: es) X.env = (false, eval e X.env) :: starEach es X.env := by rfl) (hpl : (backTo pos (starEach es X.env)).any (·.1) = false := by rfl) :
    PE X (.Call (.Name x p) (e :: es) [] pos) (tXO X.K EX (mApp (fP F) ms)) := by
  refine ⟨fun pins s σ H Q I h => ?_⟩
  have h := appO_of h
  refine wpAny_Call_Name_kw (ld_glob I hg hm ?_ hdb)
  refine PySem.W.callWith_K (h₀ := X.base) I.ok.mod.kin hk (thn (ha.run pos pins s σ H _ I h) fun us s1 ⟨vs, H1, I1, r, q⟩ => ⟨I1.kIn, ?_⟩) he hpl
  have hs : spO X.K F vs H1 Q E := q
  have hl := G.len _ _ _ _ hs
  have hb' := hb s1 us I1.kIn (by rw [List.append_nil, ← r.length]; exact hl)
  rw [List.append_nil] at hb'
  exact run_G G hr hgd hb' hx I1 r hs
theorem d_callO (G : FnG X.prog X.w X.K X.mg X.base CX k f fd ps (spO X.K F)) (hr : Room k X.A) (hgd : X.A.guards = some []) (hg : Gl X x) (hm : X.mg x = some (.ref f)) (hk : PySem.W.keepIn X.K (.ref f) = true) (hb : Binds X.K fd ps []) (hx : Passes CX X E)
    (ha : PA X (e :: es) (tXA X.K EX (liftA gs))) (hdb : (x == ("__debug__" : Str)) = false := by decide) (he : starEach (e :: es) X.env = (false, eval e X.env) :: starEach es X.env := by rfl) (hpl : (backTo pos (starEach es X.env)).any (·.1) = false := by rfl) :
    PE X (.Call (.Name x p) (e :: es) [] pos) (tXO X.K EX (lift (pApp (fP F) gs))) := by
  rw [← lift_app]; exact x_callO G hr hgd hg hm hk hb hx ha hdb he hpl
theorem x_orO (ha : PE X a (tXO X.K EX ma)) (hb : PE X b (tXO X.K EX mb)) : PE X (.BoolOp .Or [a, b] pos) (tXO X.K EX (mOr ma mb)) := (pe_orT ha (pe_one hb)).imp fun σ H Q ⟨w, env, hw, s, q⟩ => by
  subst hw
  refine ⟨w, env, rfl, s, ?_⟩
  unfold mOr mBind at q
  cases hm : ma env w.bx with
  | none => rw [hm] at q; exact q.elim
  | some z =>
    obtain ⟨r, b⟩ := z
    rw [hm] at q
    cases r with
    | exc c d => exact q
    | ok d =>
      intro p' w1 hb1 g1 s1 h0 hv ho hA
      subst hb1
      dsimp only at q
      cases d with
      | list ds =>
        obtain ⟨xs, e1, r1⟩ := ho
        have q' : PostO X.K EX Q σ env w (mTru (some (!ds.isEmpty)) (mRet (some (.list ds))) mb env w1.bx) := q
        refine ⟨!ds.isEmpty, .inl ⟨xs, SqL.of e1, by rw [isEmptyL r1]⟩, ?_⟩
        cases hE : (!ds.isEmpty) with
        | true =>
          rw [hE] at q'
          rw [if_pos rfl]
          exact q' p' w1 rfl g1 s1 h0 hv ⟨xs, e1, r1⟩ hA
        | false =>
          rw [hE] at q'
          rw [if_neg Bool.false_ne_true]
          refine ⟨w1, env, rfl, s1, ?_⟩
          have q' : PostO X.K EX Q σ env w (mb env w1.bx) := q'
          revert q'
          cases mb env w1.bx with
          | none => exact id
          | some z =>
            obtain ⟨r, b⟩ := z
            cases r with
            | exc c d => exact fun q w' hb g t => q w' hb (g1.trans g) t
            | ok d => exact fun q p2 w' hb g t hp hv' ho' hA' => q p2 w' hb (g1.trans g) t (by
                cases e : w.H p2 with
                | none => rfl
                | some u => exact absurd hp (g1.hk p2 (by rw [e]; simp))) hv' ho' hA'
      | dict kvs => exact (show PostO X.K EX Q σ env w none from q).elim
      | none => exact ho.elim
      | bool b => exact ho.elim
      | int i => exact ho.elim
      | str x => exact ho.elim
      | tuple xs => exact ho.elim
theorem d_orO {ga gb : P} (ha : PE X a (tXO X.K EX (lift ga))) (hb : PE X b (tXO X.K EX (lift gb))) : PE X (.BoolOp .Or [a, b] pos) (tXO X.K EX (lift (pOr ga gb))) := by
  rw [← lift_or]; exact x_orO ha hb
end
theorem hu100 {k : Nat} {A : Around} (r : Room k A) : A.units + 100 < cLine := by have := r.un; omega
theorem hu65 {k : Nat} {A : Around} (r : Room k A) : A.units + 65 < cLine := by have := r.un; omega
theorem hu64 {k : Nat} {A : Around} (r : Room k A) : A.units + 64 < cLine := by have := r.un; omega
theorem hu1 {k : Nat} {A : Around} (r : Room k A) : A.units + 1 < cLine := by have := r.un; omega
theorem hu0 {k : Nat} {A : Around} (r : Room k A) : A.units < cLine := by have := r.un; omega
end DL
set_option Elab.async false
set_option linter.all false
set_option maxRecDepth 100000
set_option maxHeartbeats 1000000
namespace DL
open PySem PySem.Spec PyProof.Rows
open L2 hiding St V
section
variable {X : Cx} {EX : EXP} {st : Stmt} {m : M} {ms : MA}
end
section
variable {P : Program} {w : World} {K : KF} {mg : Str → Option Value} {base : Heap}
end
end DL
set_option Elab.async false
set_option linter.all false
set_option maxRecDepth 100000
set_option maxHeartbeats 1000000
namespace DL
open PySem PySem.Spec PyProof.Rows
open L2 hiding St V
def Bools (f : D → D → Option D) : Prop := ∀ x y d, f x y = some d → ∃ k, d = .bool k
def MBools (m : M) : Prop := ∀ env b d b', m env b = some (.ok d, b') → ∃ k, d = .bool k
theorem bind_ok {m : M} {f : D → M} {env : Env} {b : Bx} {d : D} {b' : Bx} (e : mBind m f env b = some (.ok d, b')) : ∃ x b1, m env b = some (.ok x, b1) ∧ f x env b1 = some (.ok d, b') := by
  unfold mBind at e
  cases hm : m env b with
  | none => rw [hm] at e; cases e
  | some q =>
    obtain ⟨r, b1⟩ := q
    rw [hm] at e
    cases r with
    | exc c d => cases e
    | ok x => exact ⟨x, b1, rfl, e⟩
theorem ret_ok {o : Option D} {env : Env} {b b' : Bx} {d : D} (e : mRet o env b = some (.ok d, b')) : o = some d := by
  unfold mRet at e
  cases o with
  | none => cases e
  | some x => cases e; rfl
theorem MBools.bin {f : D → D → Option D} {a b : M} (h : Bools f) : MBools (mBin f a b) := fun env bx d b' e => by
  obtain ⟨x, b1, _, e⟩ := bind_ok e
  obtain ⟨y, b2, _, e⟩ := bind_ok e
  exact h _ _ _ (ret_ok e)
theorem MBools.chain {f g : D → D → Option D} {a b c : M} (h : Bools g) : MBools (mChain f g a b c) := fun env bx d b' e => by
  obtain ⟨x, b1, _, e⟩ := bind_ok e
  obtain ⟨y, b2, _, e⟩ := bind_ok e
  cases ht : asB (f x y) with
  | none => rw [ht] at e; cases e
  | some t =>
    rw [ht] at e
    cases t with
    | true =>
      obtain ⟨z, b3, _, e⟩ := bind_ok e
      exact h _ _ _ (ret_ok e)
    | false => cases e; exact ⟨_, rfl⟩
section
variable {X : Cx} {EX : EXP} {a b c : Expr} {ma mb mc m : M} {ga gb gc : P} {pos : Pos}
theorem test_of {te : TE} {e : Expr} (h : PT X e (tTest te)) (k : ∀ σ H Q, tX X.K EX m σ H Q → te σ H Q) (hb : MBools m) : PT X e (tXT X.K EX m) := h.imp fun σ H Q ⟨w, env, hw, s, p⟩ => by
  subst hw
  refine k σ w.H _ ⟨w, env, rfl, s, ?_⟩
  cases hm : m env w.bx with
  | none => rw [hm] at p; exact p.elim
  | some q =>
    obtain ⟨r, b⟩ := q
    rw [hm] at p
    cases r with
    | exc c d => exact p
    | ok d =>
      obtain ⟨t, ht, kk⟩ := p
      obtain ⟨t', e'⟩ := hb _ _ _ _ hm
      subst e'
      cases ht
      intro v w' hb' g e r
      cases r
      exact ⟨_, rfl, kk w' hb' g e⟩
theorem t_cmp {op : CmpOp} {f : D → D → Option D} (hf : Bools f) (ho : OpR X (compareOp op) (rD f)) (ha : PE X a (tX X.K EX ma)) (hb : PE X b (tX X.K EX mb)) (hm : behindInMarks op b = false) : PT X (.Compare a [op] [b] pos) (tXT X.K EX (mBin f ma mb)) :=
  test_of (pt_cmpR ho ha hb hm) (fun _ _ _ h => tOp_of h) (.bin hf)
theorem dt_cmp {op : CmpOp} {f : D → D → Option D} (hf : Bools f) (ho : OpR X (compareOp op) (rD f)) (ha : PE X a (tX X.K EX (lift ga))) (hb : PE X b (tX X.K EX (lift gb))) (hm : behindInMarks op b = false) : PT X (.Compare a [op] [b] pos) (tXT X.K EX (lift (pBin f ga gb))) := by
  rw [← lift_bin]; exact t_cmp hf ho ha hb hm
theorem chain_of {f g : D → D → Option D} {σ : St} {H : Hp} {Q : VK} (h : tX X.K EX (mChain f g ma mb mc) σ H Q) : tChain (rD f) (rD g) (tX X.K EX ma) (tX X.K EX mb) (tX X.K EX mc) σ H Q := by
  obtain ⟨w, env, hw, s, p⟩ := h
  subst hw
  refine tX_bind s p fun dx vx w1 g1 s1 r1 p1 => tX_bind s1 p1 fun dy vy w2 g2 s2 r2 p2 => ?_
  cases hf : asB (f dx dy) with
  | none => rw [hf] at p2; exact p2.elim
  | some t =>
    rw [hf] at p2
    refine ⟨w2.V, dx, dy, _, s2.vh, r1.mono g2.v, r2, asB_some hf, fun v V' H' x r => ?_⟩
    cases r
    refine ⟨t, rfl, ?_⟩
    cases t with
    | true =>
      rw [if_pos rfl]
      refine tX_bind (w := w2.to V' H') (s2.ext' x) (Post.grow x.gr p2) fun dz vz w3 g3 s3 r3 p3 => ?_
      obtain ⟨d, hd, k⟩ := post_ret s3 p3
      exact ⟨w3.V, dy, dz, d, s3.vh, (r2.mono x.v).mono g3.v, r3, hd, k⟩
    | false =>
      rw [if_neg Bool.false_ne_true]
      obtain ⟨d, hd, k⟩ := post_ret s2 p2
      cases hd
      exact k _ _ _ x (.bl _)
theorem t_chain {op op' : CmpOp} {f f' : D → D → Option D} (hf : Bools f') (ho : OpR X (compareOp op) (rD f)) (ho' : OpR X (compareOp op') (rD f')) (ha : PE X a (tX X.K EX ma)) (hb : PE X b (tX X.K EX mb)) (hc : PE X c (tX X.K EX mc))
    (hm : lastMarks [op, op'] [b, c] = false := by with_unfolding_all rfl) : PT X (.Compare a [op, op'] [b, c] pos) (tXT X.K EX (mChain f f' ma mb mc)) :=
  test_of (pt_chain ho ho' ha hb hc (hm := hm)) (fun _ _ _ h => chain_of h) (.chain hf)
theorem dt_chain {op op' : CmpOp} {f f' : D → D → Option D} (hf : Bools f') (ho : OpR X (compareOp op) (rD f)) (ho' : OpR X (compareOp op') (rD f')) (ha : PE X a (tX X.K EX (lift ga))) (hb : PE X b (tX X.K EX (lift gb))) (hc : PE X c (tX X.K EX (lift gc)))
    (hm : lastMarks [op, op'] [b, c] = false := by with_unfolding_all rfl) : PT X (.Compare a [op, op'] [b, c] pos) (tXT X.K EX (lift (pChain f f' ga gb gc))) := by
  rw [← lift_chain]; exact t_chain hf ho ho' ha hb hc (hm := hm)
end
theorem bo_dEq : Bools dEq := fun x y d h => by
  unfold dEq at h
  split at h
  · cases h; exact ⟨_, rfl⟩
  · split at h <;> cases h; exact ⟨_, rfl⟩
theorem bo_dNe : Bools dNe := fun x y d h => by
  unfold dNe at h
  split at h
  · cases h; exact ⟨_, rfl⟩
  · split at h <;> cases h; exact ⟨_, rfl⟩
theorem bo_dIsNot : Bools dIsNot := fun x y d h => by
  unfold dIsNot at h; split at h <;> cases h; exact ⟨_, rfl⟩
theorem bo_map {o : Option Bool} {d : D} (h : o.map PyData.bool = some d) : ∃ k, d = .bool k := by
  cases o with
  | none => cases h
  | some b => cases h; exact ⟨b, rfl⟩
theorem bo_dIn : Bools dIn := fun x y d h => bo_map h
theorem bo_dNotIn : Bools dNotIn := fun x y d h => by
  unfold dNotIn at h
  cases e : inD x y with
  | none => rw [e] at h; cases h
  | some b => rw [e] at h; cases h; exact ⟨_, rfl⟩
theorem bo_dLt : Bools dLt := fun x y d h => by
  unfold dLt at h
  split at h
  · cases h; exact ⟨_, rfl⟩
  · rename_i xs ys
    cases e1 : asInts xs with
    | none => rw [e1] at h; cases h
    | some a =>
      cases e2 : asInts ys with
      | none => rw [e1, e2] at h; cases h
      | some b => rw [e1, e2] at h; cases h; exact ⟨_, rfl⟩
  · cases h
theorem bo_dLe : Bools dLe := fun x y d h => by
  unfold dLe at h
  split at h <;> first | (cases h; exact ⟨_, rfl⟩) | cases h
theorem bo_dGt : Bools dGt := fun x y d h => by
  unfold dGt at h
  split at h <;> first | (cases h; exact ⟨_, rfl⟩) | cases h
end DL
set_option Elab.async false
set_option linter.all false
set_option maxRecDepth 100000
set_option maxHeartbeats 1000000
namespace DL
open PySem PySem.Spec PyProof.Rows
open L2 hiding St V
def pXSl (i : Nat) (l h : PP) : P := fun env b => match env[i]? with
  | some (some (.ext (.list ds))) => (l env b).bind fun lo => (h env b).bind fun hi => some (.list (cutL ds lo hi))
  | _ => none
def pCallX (F : Fn) (i : Nat) (gs : PL) : P := fun env b => match env[i]? with
  | some (some (.ext d)) => (gs env b).bind fun ds => match F (.ext d :: ds.map .dat) [] with
    | some (.ok r, _) => some r
    | _ => none
  | _ => none
section
variable {X : Cx} {EX : EXP} {CX : CXT} {k : Nat} {f : Addr} {fd : FuncData} {ps : List Str} {E : XK} {x : Str} {p p2 pos : Pos} {e : Expr} {es : List Expr} {gs : PL} {F : Fn} {lo hi : Option Expr} {l h : PP} {i : Nat} {EXf : XK → EXP}
theorem d_xsl (he : PE X e (tVar i)) (hl : PO X lo (tXP X.K EX (liftP l))) (hu : PO X hi (tXP X.K EX (liftP h))) : PE X (.Subscript e (.Slice lo hi none p2) pos) (tX X.K EX (lift (pXSl i l h))) :=
  (pe_slice sl_list he hl hu).imp fun σ H Q ⟨w, env, hw, s, p⟩ => by
    subst hw
    obtain ⟨d, hd, kk⟩ := post_lift s p
    clear kk
    unfold lift at p
    rw [hd] at p
    unfold pXSl at hd
    split at hd
    · rename_i ds hi'
      obtain ⟨v, hv, a, xs, ds', rfl, e1, sq, rl⟩ := s.cel i _ hi'
      cases e1
      cases h1 : l env w.bx with
      | none => rw [h1] at hd; cases hd
      | some o1 =>
        cases h2 : h env w.bx with
        | none => rw [h1, h2] at hd; cases hd
        | some o2 =>
          rw [h1, h2] at hd
          cases hd
          refine ⟨.ref a, hv, w, env, rfl, s, ?_⟩
          unfold liftP
          rw [h1]
          intro w2 hb2 g2 s2
          refine ⟨w2, env, rfl, s2, ?_⟩
          rw [hb2]
          show PostP X.K EX _ σ env w2 ((h env w.bx).map fun d => (.ok d, w.bx))
          rw [h2]
          intro w3 hb3 g3 s3
          have sq3 : SqL X.K w3.V a xs := by
            have gv : Sub w.V w3.V := fun b o e => g3.v b o (g2.v b o e)
            rcases sq with sq | sq
            · exact .inl (Rd.mono gv sq)
            · exact .inr sq
          have rl3 : RpL w3.V xs ds := rl.mono fun b o e => g3.v b o (g2.v b o e)
          have sqH : SqL X.K w3.H a xs := by
            rcases sq3 with z | z
            · exact .inl (Rd.mono s3.vh z)
            · exact .inr z
          refine ⟨a, xs, rfl, sqH, fun p' hp => ?_⟩
          have x3 := Ext.new (o := .lst (cutV xs o1 o2)) s3.vh hp
          exact p _ (w3.to _ _) hb3 ((g2.trans g3).trans x3.gr) (s3.ext' x3) (.lst upd_same ((rl3.cut o1 o2).mono x3.v))
    · cases hd
theorem d_cext (G : FnG X.prog X.w X.K X.mg X.base CX k f fd ps (spF X.K EXf F)) (hr : Room k X.A) (hgd : X.A.guards = some []) (hg : Gl X x) (hm : X.mg x = some (.ref f)) (hk : PySem.W.keepIn X.K (.ref f) = true) (hb : Binds X.K fd ps []) (hx : Passes CX X E)
    (h0 : PE X e (tVar i)) (ha : PA X es (tXA X.K EX (liftA gs))) (hdb : (x == ("__debug__" : Str)) = false := by decide) (he : starEach (e :: es) X.env = (false, eval e X.env) :: starEach es X.env := by rfl) (hpl : (backTo pos (starEach es X.env)).any (·.1) = false := by rfl) :
    PE X (.Call (.Name x p) (e :: es) [] pos) (tX X.K EX (lift (pCallX F i gs))) := by
  refine ⟨fun pins s σ H Q I ⟨w, env, hw, st, q⟩ => ?_⟩
  subst hw
  have hA : tCons (tVar i) (tXA X.K EX (liftA gs)) σ w.H fun vs H1 => spF X.K EXf F vs H1 Q E := by
    obtain ⟨r, hd, kk⟩ := post_lift st q
    clear kk
    unfold lift at q
    rw [hd] at q
    unfold pCallX at hd
    split at hd
    · rename_i d hi'
      obtain ⟨v, hv, hE⟩ := st.cel i _ hi'
      refine ⟨v, hv, w, env, rfl, st, ?_⟩
      unfold liftA
      cases h1 : gs env w.bx with
      | none => rw [h1] at hd; cases hd
      | some ds =>
        rw [h1] at hd
        intro vs w1 hb1 g1 s1 r1
        have hd : (match F (.ext d :: ds.map .dat) [] with
          | some (.ok r, _) => some r
          | _ => none) = some r := hd
        refine ⟨⟨[], w1.V, w1.H, []⟩, .ext d :: ds.map Cel.dat, rfl, ?_, ?_⟩
        · have sa := StR.args (K := X.K) s1.vh r1
          refine ⟨s1.vh, by simp [r1.length], fun j c hj => ?_, rfl, List.nodup_nil, fun j a b z _ => by cases z⟩
          cases j with
          | zero => cases hj; exact ⟨v, rfl, ExtAt.mono g1.v hE⟩
          | succ j => exact sa.cel j c hj
        · show Post X.K (EXf E) Q _ _ _ (F (.ext d :: ds.map .dat) [])
          revert hd
          cases F (.ext d :: ds.map .dat) [] with
          | none => intro hd; cases hd
          | some z =>
            obtain ⟨o, b⟩ := z
            cases o with
            | exc c d => intro hd; cases hd
            | ok d' =>
              intro hd
              cases hd
              intro v' w' hb g t rv
              have x3 := g.ext t.vh
              exact q v' (w1.to w'.V w'.H) hb1 (g1.trans x3.gr) (s1.ext' x3) rv
    · cases hd
  refine wpAny_Call_Name_kw (ld_glob I hg hm ?_ hdb)
  refine PySem.W.callWith_K (h₀ := X.base) I.ok.mod.kin hk (thn ((pa_cons h0 ha he).run pos pins s σ w.H _ I hA) fun us s1 ⟨vs, H1, I1, r, hs⟩ => ⟨I1.kIn, ?_⟩) he hpl
  have hl := G.len _ _ _ _ hs
  have hb' := hb s1 us I1.kIn (by rw [List.append_nil, ← r.length]; exact hl)
  rw [List.append_nil] at hb'
  exact run_G G hr hgd hb' hx I1 r hs
end
end DL
set_option Elab.async false
set_option linter.all false
set_option maxRecDepth 100000
set_option maxHeartbeats 1000000
namespace DL
open PySem PySem.Spec PyProof.Rows
open L2 hiding St V
def mCallO (F : Fn) (m0 : M) : M := fun env b =>
  match m0 env b with
  | none => none
  | some (.exc c d, b) => some (.exc c d, b)
  | some (.ok d0, b) => match F [.bx 0] [.live d0] with
    | some (r, [_]) => some (r, b)
    | _ => none
theorem StR.more {K : KF} {σ : St} {env : Env} {w : Wd} {p : Addr} {d : D} (s : StR K σ env w) (hv : w.V p = none) (ho : OwnAt w.V w.H p d) (ha : ∀ k : Nat, w.as[k]? ≠ some p) :
    StR K σ env { w with as := w.as ++ [p], bx := w.bx ++ [.live d] } := by
  have h := s.newBox (i := σ.length) hv ho ha
  rw [List.set_eq_of_length_le (Nat.le_refl _), List.set_eq_of_length_le (by rw [s.len]; exact Nat.le_refl _)] at h
  exact h
theorem app_some {as : List Addr} {q p p0 : Addr} {k : Nat} (h : (as ++ [q])[k]? = some p) (h0 : as[k]? = some p0) : as[k]? = some p := by
  rw [List.getElem?_append_left (List.getElem?_eq_some_iff.mp h0).1] at h; exact h
theorem RefI.cut {as : List Addr} {q : Addr} {v v0 : Vl} : ∀ {k : Nat ⊕ D}, RefI (as ++ [q]) v k → RefI as v0 k → RefI as v k
  | .inl _, ⟨p, e1, e2⟩, ⟨p0, e3, _⟩ => ⟨p, app_some e1 e3, e2⟩
  | .inr _, h, _ => h
theorem RefL.cut {as : List Addr} {q : Addr} : ∀ {vs vs0 : List Vl} {ks : List (Nat ⊕ D)}, RefL (as ++ [q]) vs ks → RefL as vs0 ks → RefL as vs ks
  | [], _, [], _, _ => trivial
  | v :: vs, v0 :: vs0, k :: ks, h, h0 => ⟨RefI.cut h.1 h0.1, RefL.cut h.2 h0.2⟩
  | [], _, _ :: _, h, _ => h.elim
  | _ :: _, _, [], h, _ => h.elim
  | _ :: _, [], _ :: _, _, h => h.elim
theorem RefT.cut {as : List Addr} {q : Addr} : ∀ {vs vs0 : List (List Key × Vl)} {ks : List (D × Nat)}, RefT (as ++ [q]) vs ks → RefT as vs0 ks → RefT as vs ks
  | [], _, [], _, _ => trivial
  | (_, _) :: vs, (_, _) :: vs0, (_, _) :: ks, h, h0 => ⟨h.1, by
    obtain ⟨_, ⟨p, e1, e2⟩, _⟩ := h
    obtain ⟨_, ⟨p0, e3, _⟩, _⟩ := h0
    exact ⟨p, app_some e1 e3, e2⟩, RefT.cut h.2.2 h0.2.2⟩
  | [], _, _ :: _, h, _ => h.elim
  | _ :: _, _, [], h, _ => h.elim
  | _ :: _, [], _ :: _, _, h => h.elim
theorem BoxR.cut {as : List Addr} {q x : Addr} {V H V0 H0 : Hp} {b : Box} (t : BoxR (as ++ [q]) V H x b) (s : BoxR as V0 H0 x b) : BoxR as V H x b := by
  cases b with
  | live d => exact t
  | froz d => exact t
  | refs ks => obtain ⟨v, xs, h, r⟩ := t; obtain ⟨_, _, _, r0⟩ := s; exact ⟨v, xs, h, r.cut r0⟩
  | refD ks => obtain ⟨v, xs, h, r⟩ := t; obtain ⟨_, _, _, r0⟩ := s; exact ⟨v, xs, h, r.cut r0⟩
  | lock => exact t
  | lk ks => exact t
theorem StR.less {K : KF} {σ : St} {env : Env} {w1 w' : Wd} {q : Addr} {b1 : Box} (s : StR K σ env w1) (gv : Sub w1.V w'.V) (t : StR K σ env { w' with as := w1.as ++ [q], bx := w1.bx ++ [b1] }) : StR K σ env { w' with as := w1.as, bx := w1.bx } := by
  refine ⟨t.vh, s.len, fun i c h => ?_, s.lenB, s.nd, fun k x b h1 h2 => ?_⟩
  · obtain ⟨v, h1, h2⟩ := s.cel i c h
    refine ⟨v, h1, ?_⟩
    cases c with
    | dat d => exact Rp.mono gv h2
    | bx k => exact h2
    | ext d => exact ExtAt.mono gv h2
    | ex n d => exact ExcAt.mono gv h2
    | exs l => exact ExsAt.mono gv h2
    | ob b k1 k2 => exact ObAt.mono gv h2
  · have h1 : w1.as[k]? = some x := h1
    have h2 : w1.bx[k]? = some b := h2
    refine BoxR.cut (t.box k x b ?_ ?_) (s.box k x b h1 h2)
    · show (w1.as ++ [q])[k]? = _
      rw [List.getElem?_append_left (List.getElem?_eq_some_iff.mp h1).1]; exact h1
    · show (w1.bx ++ [b1])[k]? = _
      rw [List.getElem?_append_left (List.getElem?_eq_some_iff.mp h2).1]; exact h2
theorem Gr.less {w w1 w' : Wd} {as : List Addr} {bx : Bx} (g1 : Gr w w1) (g : Gr w { w' with as := as, bx := bx }) : Gr w { w' with as := w1.as, bx := w1.bx } :=
  ⟨g1.as, g1.asn, g.v, g.vn, g.hn, g.hk, g1.w⟩
section
variable {X : Cx} {CX : CXT} {k : Nat} {f : Addr} {fd : FuncData} {ps : List Str} {E : XK} {x : Str} {p pos : Pos} {e : Expr} {F : Fn} {m0 : M}
theorem x_cboxO (G : FnG X.prog X.w X.K X.mg X.base CX k f fd ps (spF X.K ex0 F)) (hr : Room k X.A) (hgd : X.A.guards = some []) (hg : Gl X x) (hm : X.mg x = some (.ref f)) (hk : PySem.W.keepIn X.K (.ref f) = true) (hb : Binds X.K fd ps []) (hx : Passes CX X E)
    (h0 : PE X e (tXO X.K XF m0)) (hdb : (x == ("__debug__" : Str)) = false := by decide) (he : starEach [e] X.env = (false, eval e X.env) :: starEach [] X.env := by rfl) (hpl : (backTo pos (starEach [] X.env)).any (·.1) = false := by rfl) :
    PE X (.Call (.Name x p) [e] [] pos) (tX X.K XF (mCallO F m0)) := by
  refine ⟨fun pins s σ H Q I ⟨w, env, hw, st, q⟩ => ?_⟩
  subst hw
  have hA : tCons (tXO X.K XF m0) tNil σ w.H fun vs H1 => spF X.K ex0 F vs H1 Q E := by
    refine ⟨w, env, rfl, st, ?_⟩
    unfold mCallO at q
    cases hm0 : m0 env w.bx with
    | none => rw [hm0] at q; exact q.elim
    | some z =>
      obtain ⟨r, b⟩ := z
      rw [hm0] at q
      cases r with
      | exc c d => exact fun w' hb g t => q w' hb g t
      | ok d0 =>
        dsimp only at q
        intro a w1 hb1 g1 s1 hq hv ho ha
        subst hb1
        show spF X.K ex0 F [.ref a] w1.H Q E
        split at q
        · rename_i res b1 hF
          have sE := s1.more hv ho ha
          have gE := g1.newBox (d := d0) hq s1.lenB
          have ha1 : (w1.as ++ [a])[w1.as.length]? = some a := by simp
          have hb1 : (w1.bx ++ [Box.live d0])[w1.as.length]? = some (.live d0) := by rw [s1.lenB]; simp
          have sa := sE.argsB (vs := []) (ds := []) ha1 hb1 .nil
          have bset : ∀ b2 : Box, (w1.bx ++ [Box.live d0]).set w1.as.length b2 = w1.bx ++ [b2] := fun b2 => by rw [s1.lenB]; simp
          refine ⟨⟨[a], w1.V, w1.H, [.live d0]⟩, [.bx 0], rfl, sa, ?_⟩
          show Post X.K XF Q _ _ _ (F [.bx 0] [.live d0])
          rw [hF]
          have fin : ∀ w' : Wd, w'.bx = [b1] → Gr ⟨[a], w1.V, w1.H, [.live d0]⟩ w' → (∃ τ envt, StR X.K τ envt w') → Gr w { w' with as := w1.as, bx := w1.bx } ∧ StR X.K σ env { w' with as := w1.as, bx := w1.bx } := fun w' hb' g' ⟨τ, envt, t'⟩ => by
            obtain ⟨gg, ss⟩ := backB sE ha1 hb1 g' t' hb'
            have g2 := gE.trans gg
            refine ⟨g1.less g2, ?_⟩
            have ss : StR X.K σ env { w' with as := w1.as ++ [a], bx := (w1.bx ++ [Box.live d0]).set w1.as.length (strip b1) } := ss
            rw [bset] at ss
            exact s1.less g'.v ss
          cases res with
          | ok d =>
            intro v w' hb' g' t' r'
            obtain ⟨gg, ss⟩ := fin w' hb' g' ⟨_, _, t'⟩
            exact q v { w' with as := w1.as, bx := w1.bx } rfl gg ss r'
          | exc c d =>
            intro w' hb' g' t'
            obtain ⟨gg, ss⟩ := fin w' hb' g' ⟨_, _, t'⟩
            exact (q { w' with as := w1.as, bx := w1.bx } rfl gg ss).elim
        · exact q.elim
  refine wpAny_Call_Name_kw (ld_glob I hg hm ?_ hdb)
  refine PySem.W.callWith_K (h₀ := X.base) I.ok.mod.kin hk (thn ((pa_cons h0 pa_nil he).run pos pins s σ w.H _ I hA) fun us s1 ⟨vs, H1, I1, r, hs⟩ => ⟨I1.kIn, ?_⟩) he hpl
  have hl := G.len _ _ _ _ hs
  have hb' := hb s1 us I1.kIn (by rw [List.append_nil, ← r.length]; exact hl)
  rw [List.append_nil] at hb'
  exact run_G G hr hgd hb' hx I1 r hs
end
end DL
set_option Elab.async false
set_option linter.all false
set_option maxRecDepth 100000
set_option maxHeartbeats 1000000
namespace DL
open PySem PySem.Spec PyProof.Rows
open L2 hiding St V
section
variable {prog : Program} {wd : World} {AR : Around} {ER : Value → Shared → Prop} {st : Shared}
structure MixAt (h : Heap) (zv tI tO p q la lb : Addr) (i j : Nat) (us vs : Array Value) (u0 v0 : Value) : Prop where
  zip : IsZip h zv tI tO .none
  inn : IsPair h tI (.ref p) (.ref q)
  out : IsPair h tO u0 v0
  itl : h.IsListIter p la i
  itt : h.IsTupleIter q lb j
  lst : h.IsList la us
  tup : h.IsTuple lb vs
end
end DL
set_option Elab.async false
set_option linter.all false
set_option maxRecDepth 100000
set_option maxHeartbeats 1000000
namespace DL
open PySem PySem.Spec PyProof.Rows
open L2 hiding St V
section
variable {prog : Program} {wd : World} {AR : Around} {ER : Value → Shared → Prop} {st : Shared}
end
section
variable {prog : Program} {wd : World} {AR : Around} {ER : Value → Shared → Prop} {st : Shared}
end
end DL
set_option Elab.async false
set_option linter.all false
set_option maxRecDepth 100000
set_option maxHeartbeats 1000000
namespace DL
open PySem PySem.Spec PyProof.Rows
open L2 hiding St V
section
variable {X : Cx} {EX : EXP} {e tg : Expr} {ms : MA} {gs : PL}
end
end DL
set_option Elab.async false
set_option linter.all false
set_option maxRecDepth 100000
set_option maxHeartbeats 1000000
namespace DL
open PySem PySem.Spec PyProof.Rows
open L2 hiding St V
def rgL : D → D → Option D
  | .int i, .int j => if rgOk i j = true then some (.list (rangeD i j)) else none
  | _, _ => none
theorem rg_rp (V : Hp) (i j : Int) : RpL V (rgV i j) (rangeD i j) := by
  unfold rgV rangeD
  generalize List.range (j - i).toNat = l
  induction l with
  | nil => exact .nil
  | cons x l ih => exact .cons (.int _) ih
theorem rgL_inv {x y d : D} (h : rgL x y = some d) : ∃ i j, x = .int i ∧ y = .int j ∧ rgOk i j = true ∧ d = .list (rangeD i j) := by
  unfold rgL at h
  split at h
  · split at h
    · rename_i k; cases h; exact ⟨_, _, rfl, rfl, k, rfl⟩
    · cases h
  · cases h
section
variable {X : Cx} {EX : EXP} {a b : Expr} {ga gb : P} {p p2 q pos : Pos}
theorem d_lrange2 (hc : X.calm = true) (hg : Gl X "list") (hm : X.mg "list" = none) (hg2 : Gl X "range") (hm2 : X.mg "range" = none) (ha : PE X a (tX X.K EX (lift ga))) (hb : PE X b (tX X.K EX (lift gb)))
    (na : starEach [a, b] X.env = (false, eval a X.env) :: starEach [b] X.env := by rfl) (nb : starEach [b] X.env = (false, eval b X.env) :: starEach [] X.env := by rfl) (hp : (backTo q (starEach [b] X.env)).any (·.1) = false := by rfl)
    (ne : starEach [.Call (.Name "range" p2) [a, b] [] q] X.env = (false, eval (.Call (.Name "range" p2) [a, b] [] q) X.env) :: starEach [] X.env := by rfl) :
    PE X (.Call (.Name "list" p) [.Call (.Name "range" p2) [a, b] [] q] [] pos) (tX X.K EX (lift (pBin rgL ga gb))) := by
  rw [← lift_bin]
  refine (pe_listRg hc hg hm (prg_2 hg2 hm2 ha hb na nb hp) ne).imp fun σ H Q ⟨w, env, hw, s, pp⟩ => ?_
  subst hw
  refine tX_bind s pp fun dx vx w1 g1 s1 r1 p1 => tX_bind s1 p1 fun dy vy w2 g2 s2 r2 p2 => ?_
  obtain ⟨d, hd, k⟩ := post_ret s2 p2
  obtain ⟨i, j, rfl, rfl, ok, rfl⟩ := rgL_inv hd
  cases r1
  cases r2
  obtain ⟨b1, b2, b3, b4, b5⟩ := rgOk_spec ok
  refine ⟨i, j, rfl, rfl, ⟨b1, b2, b3, b4, b5⟩, fun c hc => ?_⟩
  have x3 := Ext.new (o := .lst (rgV i j)) s2.vh hc
  exact k _ _ _ x3 (.lst upd_same (rg_rp _ i j))
end
section
variable {X : Cx} {EX : EXP} {st : Stmt} {m m0 : M} {gs : PL}
def sParL2 (i j : Nat) (m m0 : M) : S := fun env b =>
  match m env b with
  | none => none
  | some (.exc c d, b) => some (.exc c d, b)
  | some (.ok x, b) => match m0 env b with
    | none => none
    | some (.exc c d, b) => some (.exc c d, b)
    | some (.ok d0, b) => if i < env.length ∧ j < env.length then some (.nx ((env.set i (some (.dat x))).set j (some (.bx b.length))), b ++ [.live d0]) else none
theorem s_parL2 {i j : Nat} (h : PS X st (tPar i j (tCons (tX X.K EX m) (tCons (tXO X.K EX m0) tNil)))) : PS X st (tS X.K EX (sParL2 i j m m0)) := h.imp fun D σ H ⟨w, env, hw, sr, p⟩ => by
  subst hw
  refine ⟨w, env, rfl, sr, ?_⟩
  unfold sParL2 at p
  cases hm : m env w.bx with
  | none => rw [hm] at p; exact p.elim
  | some z =>
    obtain ⟨r, b⟩ := z
    rw [hm] at p
    cases r with
    | exc c d => exact fun w' hb g e => p σ env w' hb g e
    | ok x =>
      dsimp only at p
      intro v w1 hb1 g1 s1 rx
      subst hb1
      refine ⟨w1, env, rfl, s1, ?_⟩
      cases hm0 : m0 env w1.bx with
      | none => rw [hm0] at p; exact p.elim
      | some z =>
        obtain ⟨r, b⟩ := z
        rw [hm0] at p
        cases r with
        | exc c d => exact fun w' hb g e => p σ env w' hb (g1.trans g) e
        | ok d0 =>
          dsimp only at p
          intro q w2 hb2 g2 s2 hq hv ho ha
          subst hb2
          have sE := s2.more hv ho ha
          have gE := g2.newBox (d := d0) hq s2.lenB
          refine ⟨_, _, rfl, ?_⟩
          split at p
          · have hk : (w2.as ++ [q])[w2.bx.length]? = some q := by rw [← s2.lenB]; simp
            exact p _ { w2 with as := w2.as ++ [q], bx := w2.bx ++ [.live d0] } rfl (g1.trans gE) ((sE.set (c := .dat x) (Rp.mono g2.v rx)).set (c := .bx w2.bx.length) ⟨q, hk, rfl⟩)
          · exact p.elim
end
end DL
set_option Elab.async false
set_option linter.all false
set_option maxRecDepth 100000
set_option maxHeartbeats 1000000
namespace DL
open PySem PySem.Spec PyProof.Rows
open L2 hiding St V
section
variable {X : Cx}
def rGetK : Vl → List Vl → Hp → VK → Prop := fun x xs H Q => ∃ a kvs k d, x = .ref a ∧ xs = [kV k, d] ∧ H a = some (.dK kvs) ∧ (∀ v, valV kvs k = some v → Q v H) ∧ (valV kvs k = none → Q d H)
theorem mt_getK : MtR X "dict.get" rGetK := by
  intro pins s σ H x xs v us Q I rx rxs ⟨a, kvs, k, d, e1, e2, ha, q1, q2⟩
  subst e1 e2
  cases rx
  cases rxs with
  | cons rk r => cases r with
    | cons rd r =>
      cases r
      obtain ⟨z, hd, vs, rel, dd⟩ := dk_of I.hok ha
      refine call_meetsIn PySem.F.slot_dict_get dd.typeIs PySem.F.entry_dict_get (PySem.F.args_dict_get_3 _ _ _) (meets_dict_get_default (mixKind X.prog X.w) a (kV_is rk) hd _) ⟨_, dd.mapOf, ?_⟩
      cases l : valV kvs k with
      | none =>
        have hn : valueAt vs k = none := RelO.none_of (by rw [← l]; exact rel.val k)
        rw [hn]
        exact ⟨d, H, I.tok _, rd, q2 l⟩
      | some v =>
        obtain ⟨w', hw, rw'⟩ := RelO.some_of (v := v) (o := valueAt vs k) (by rw [← l]; exact rel.val k)
        rw [hw]
        exact ⟨v, H, I.tok _, rw', q1 v l⟩
def rPopK : Vl → List Vl → Hp → VK → Prop := fun x xs H Q => ∃ a kvs k v, x = .ref a ∧ xs = [kV k] ∧ H a = some (.dK kvs) ∧ valV kvs k = some v ∧ Q v (upd H a (.dK (dropK kvs k)))
theorem mt_popK : MtR X "dict.pop" rPopK := by
  intro pins s σ H x xs v us Q I rx rxs ⟨a, kvs, k, d, e1, e2, ha, l, q⟩
  subst e1 e2
  cases rx
  cases rxs with
  | cons rk r =>
    cases r
    exact d_pop I ha rk l (.inl rfl) fun w' s' I' r' => ⟨d, _, I', r', q⟩
end
def noT : List (D × D) → Bool
  | (.none, _) :: _ => false
  | _ => true
def fGetD : D → List D → Option D
  | .dict kvs, [k, d] => match keyG k with
    | some (.inl _) => if noT kvs = true then some ((lookD kvs k).getD d) else none
    | _ => none
  | _, _ => none
def fPop : BOp := fun c as => match c, as with
  | .dict ds, [k] => match keyG k with
    | some (.inl _) => if noT ds = true then (lookD ds k).map fun v => (v, .dict (dropD ds k)) else none
    | _ => none
  | _, _ => none
theorem fGetD_inv {x : D} {as : List D} {r : D} (h : fGetD x as = some r) : ∃ kvs k d j, x = .dict kvs ∧ as = [k, d] ∧ k = kD j ∧ noT kvs = true ∧ r = (lookD kvs k).getD d := by
  unfold fGetD at h
  split at h
  · split at h
    · rename_i j hk
      split at h
      · rename_i hn; cases h; exact ⟨_, _, _, j, rfl, rfl, keyG_inl hk, hn, rfl⟩
      · cases h
    · cases h
  · cases h
theorem fPop_inv {x : D} {as : List D} {r : D × D} (h : fPop x as = some r) : ∃ ds k j v, x = .dict ds ∧ as = [k] ∧ k = kD j ∧ noT ds = true ∧ lookD ds k = some v ∧ r = (v, .dict (dropD ds k)) := by
  unfold fPop at h
  split at h
  · split at h
    · rename_i j hk
      split at h
      · rename_i ds k _ _ hn
        cases hl : lookD _ _ with
        | none => rw [hl] at h; cases h
        | some v => rw [hl] at h; cases h; exact ⟨_, _, j, v, rfl, rfl, keyG_inl hk, hn, hl, rfl⟩
      · cases h
    · cases h
  · cases h
theorem RpK.drop {V : Hp} {k : Key} : ∀ {kvs : List (Key × Vl)} {ds : List (D × D)}, RpK V kvs ds → RpK V (dropK kvs k) (dropD ds (kD k))
  | _, _, .nil => .nil
  | _, _, .cons (k := k') (v := v) (vs := vs) (d := d) (ds := ds) r1 r2 => by
    have ih := RpK.drop (k := k) r2
    unfold dropK dropD at *
    rw [List.filter_cons, List.filter_cons]
    have e : (keyG (kD k') ≠ keyG (kD k)) ↔ k' ≠ k := by
      rw [keyG_kD, keyG_kD]
      constructor
      · exact fun h z => h (by rw [z])
      · intro h z; injection z with z; injection z with z; exact h z
    by_cases hk : k' = k
    · rw [if_neg (by simp [hk]), if_neg (by simp [hk])]
      exact ih
    · rw [if_pos (by simpa using hk), if_pos (by simpa using e.mpr hk)]
      exact .cons r1 ih
theorem bx_pop : BoxOp "dict" rPopK fPop := by
  intro V H a d0 xs ds d d1 Q sb hv ho rr hf k
  obtain ⟨es, kk, j, v, rfl, rfl, rfl, hn, hl, er⟩ := fPop_inv hf
  cases er
  obtain ⟨y, rfl, ry⟩ := rr.one
  rcases ho with ⟨kvs, hk, rk⟩ | ⟨kvs, es', hk, rfl, rt⟩
  · obtain rfl := Rp.kD ry
    rcases rk.val (k := j) with ⟨_, l2⟩ | ⟨v', d', l1, l2, r⟩
    · rw [l2] at hl; cases hl
    · rw [l2] at hl; cases hl
      exact ⟨a, kvs, j, v', rfl, rfl, hk, l1, k _ _ (.inl ⟨_, upd_same, rk.drop⟩) r⟩
  · cases hn
def mBopD (f : BOp) (i : Nat) (ms : MA) : M := fun env b => match env[i]? with
  | some (some (.bx k)) => match b[k]? with
    | some (.live d0) => if (!isList d0) = true then mBop f i ms env b else none
    | _ => none
  | _ => none
theorem x_bopD {X : Cx} {EX : EXP} {e : Expr} {i : Nat} {ms : MA} {r : Vl → List Vl → Hp → VK → Prop} {f : BOp} (op : BoxOp "dict" r f) (h : PE X e (tBM X.K "dict" r (tVar i) (tXA X.K EX ms))) : PE X e (tX X.K EX (mBopD f i ms)) := by
  have q := x_bop op (fun V H a d0 ho hT => by
    rcases hT with ⟨hT, _⟩ | ⟨_, hT⟩
    · exact absurd hT (by decide)
    · cases d0 with
      | dict ds =>
        rcases ho with ⟨kvs, hk, _⟩ | ⟨kvs, _, hk, _⟩
        · exact .inr (.inr (.inl ⟨rfl, .inl ⟨_, hk⟩⟩))
        · exact .inr (.inr (.inl ⟨rfl, .inr ⟨_, hk⟩⟩))
      | list ds => cases hT
      | none => exact ho.elim
      | bool b => exact ho.elim
      | int i => exact ho.elim
      | str x => exact ho.elim
      | tuple xs => exact ho.elim) h
  have c1 : decide (("dict" : String) = "list") = false := by decide
  have c2 : decide (("dict" : String) = "dict") = true := by decide
  simp only [c1, c2, Bool.true_and, Bool.false_and, Bool.false_or] at q
  exact q
def pMeth (f : D → List D → Option D) (g : P) (gs : PL) : P := fun env b => (g env b).bind fun o => (gs env b).bind fun as => f o as
theorem d_dgetm {X : Cx} {EX : EXP} {e : Expr} {g : P} {gs : PL} (h : PE X e (tBM X.K "dict" rGetK (tX X.K EX (lift g)) (tXA X.K EX (liftA gs)))) : PE X e (tX X.K EX (lift (pMeth fGetD g gs))) := h.imp fun σ H Q ⟨w, env, hw, s, p⟩ => by
  subst hw
  obtain ⟨r, hd, kk⟩ := post_lift s p
  clear kk
  unfold lift at p
  rw [hd] at p
  unfold pMeth at hd
  refine ⟨w, env, rfl, s, ?_⟩
  unfold lift
  cases h1 : g env w.bx with
  | none => rw [h1] at hd; cases hd
  | some o =>
    rw [h1] at hd
    cases h2 : gs env w.bx with
    | none => rw [Option.bind_some, h2] at hd; cases hd
    | some as =>
      rw [Option.bind_some, h2] at hd
      obtain ⟨kvs, k, d, j, rfl, rfl, rfl, hn, rfl⟩ := fGetD_inv hd
      intro v w1 hb1 g1 s1 r1
      obtain ⟨a, rfl, dl⟩ := r1.dict
      rcases dl with ⟨xs, hx, rk⟩ | ⟨xs, es, hx, rfl, _⟩
      · refine ⟨.inr (.inr (.inl ⟨rfl, .inl ⟨_, s1.vh _ _ hx⟩⟩)), w1, env, rfl, s1, ?_⟩
        unfold liftA
        rw [hb1, h2]
        intro vs w2 hb2 g2 s2 r2
        cases r2 with
        | cons ry r2 => cases r2 with
          | cons rd r2 =>
            cases r2
            obtain rfl := Rp.kD ry
            have hx2 : w2.H a = some (.dK xs) := s2.vh _ _ (g2.v _ _ hx)
            refine ⟨a, xs, j, _, rfl, rfl, hx2, fun v' l => ?_, fun l => ?_⟩
            · rcases rk.val (k := j) with ⟨l1, _⟩ | ⟨v2, d2, l1, l2, r⟩
              · rw [l1] at l; cases l
              · rw [l1] at l; cases l
                rw [l2] at p
                exact p _ w2 hb2 (g1.trans g2) s2 (Rp.mono g2.v r)
            · rcases rk.val (k := j) with ⟨_, l2⟩ | ⟨v2, d2, l1, _, _⟩
              · rw [l2] at p
                exact p _ w2 hb2 (g1.trans g2) s2 rd
              · rw [l1] at l; cases l
      · cases hn
end DL
set_option Elab.async false
set_option linter.all false
set_option maxRecDepth 100000
set_option maxHeartbeats 1000000
namespace DL
open PySem PySem.Spec PyProof.Rows
open L2 hiding St V
def viewO (p a : Addr) : HO := .ext fun h => h.IsValuesView p a
theorem viewO_ok {P : Program} {w : World} {H : Hp} {h : Heap} {p a : Addr} (e : h.get? p = some { cls := .type "dict_values", data := .fields #[.ref a] }) : ObjOk P w H h p (viewO p a) :=
  ⟨⟨_, e, rfl, rfl⟩, ⟨_, e⟩, fun g1 g2 x keep => let ⟨o, ho, r⟩ := x; ⟨o, keep o ho, r⟩⟩
def rValsK : Vl → List Vl → Hp → VK → Prop := fun x xs H Q => ∃ a kvs, x = .ref a ∧ xs = [] ∧ H a = some (.dK kvs) ∧ ∀ p, H p = none → Q (.ref p) (upd H p (viewO p a))
section
variable {X : Cx}
theorem mt_valsK : MtR X "dict.values" rValsK := by
  intro pins s σ H x xs v us Q I rx rxs ⟨a, kvs, e1, e2, ha, q⟩
  subst e1 e2
  cases rx
  cases rxs
  obtain ⟨z, hd, vs, rel, dd⟩ := dk_of I.hok ha
  refine call_meetsIn PySem.F.slot_dict_values dd.typeIs PySem.F.entry_dict_values (PySem.F.args_dict_values_1 _) (meets_dict_values (mixKind X.prog X.w) a hd) ⟨⟨vs, dd⟩, ?_⟩
  exact ⟨.ref s.heap.objs.size, _, I.laid (t' := s.toks) (fun b u e => Heap.get?_push_of_some _ e) (Nat.le_refl _) (viewO_ok (Heap.get?_push_size _ rfl)), rfl, q _ (I.hok.fresh (Nat.le_refl _))⟩
def rSortV : List Vl → Hp → VK → Prop := fun xs H Q => ∃ p a V kvs ds zs, xs = [.ref p] ∧ H p = some (viewO p a) ∧ Sub V H ∧ V a = some (.dK kvs) ∧ RpK V kvs ds ∧ sortD (ds.map (·.2)) = some zs ∧ kD1 V H Q (.list zs)
theorem vals2 {V : Hp} : ∀ {kvs : List (Key × Vl)} {ds : List (D × D)}, RpK V kvs ds → RpL V (kvs.map (·.2)) (ds.map (·.2))
  | _, _, .nil => .nil
  | _, _, .cons r1 r2 => .cons r1 (vals2 r2)
theorem cr_sortV (hu : X.A.units + 100 < cLine) (hh : X.A.handled = none) : CallR X (.builtin "sorted") rSortV := by
  intro pins s σ H xs us Q I rs ⟨p, a, V, kvs, ds, zs, ex, hp, sb, ha, ra, hso, k⟩
  subst ex
  rw [Vals.ref1 rs]
  refine sorted_via ?_
  obtain ⟨z1, z2, vs, kv, dd⟩ := dk_of I.hok (sb _ _ ha)
  obtain ⟨ep, hat⟩ := dd.dictAt
  have view : s.heap.IsValuesView p a := (show ObjOk X.prog X.w H s.heap p (viewO p a) from I.hok p _ hp).1
  refine PySem.W.kdu_collect (PySem.W.kdl_values (knd := mixKind X.prog X.w) (kvs := vs) (ep := ep)) (A := X.A.in1) hh ⟨view, hat⟩ (by rw [← kv.length]; exact z1) fun h' tk acc hk hacc => ?_
  have hv : Vals (kvs.map (·.2)) acc.toList := by
    refine vals_of_at ?_ fun j x u e1 e2 => ?_
    · rw [List.length_map, kv.length, Array.length_toList]; exact hacc.1.symm
    · rw [List.getElem?_map] at e1
      obtain ⟨q, e3, rfl⟩ := Option.map_eq_some_iff.mp e1
      obtain ⟨kk, e4⟩ := hacc.2 j u (by rw [← Array.getElem?_toList]; exact e2)
      obtain ⟨u', e6, e7⟩ := kv_get kv (i := j) (k := q.1) (v := q.2) e3
      rw [e4] at e6
      cases e6
      exact e7
  exact sort_end hu I sb rfl hk hv (vals2 ra) hso k
end
def dSortV : D → Option D
  | .dict ds => if noT ds = true then (sortD (ds.map (·.2))).map .list else none
  | _ => none
theorem dSortV_inv {x d : D} (h : dSortV x = some d) : ∃ ds zs, x = .dict ds ∧ noT ds = true ∧ sortD (ds.map (·.2)) = some zs ∧ d = .list zs := by
  unfold dSortV at h
  split at h
  · rename_i ds
    split at h
    · rename_i hn
      cases hs : sortD (ds.map (·.2)) with
      | none => rw [hs] at h; cases h
      | some zs => rw [hs] at h; cases h; exact ⟨ds, zs, rfl, hn, hs, rfl⟩
    · cases h
  · cases h
section
variable {X : Cx} {EX : EXP} {e : Expr} {m : M} {g : P} {p pos ap cp : Pos}
theorem x_sortV (hu : X.A.units + 100 < cLine) (hh : X.A.handled = none) (hg : Gl X "sorted") (hm : X.mg "sorted" = none) (he : PE X e (tX X.K EX m)) (hbase : attributeBase e "values" X.env (eval e X.env) = eval e X.env := by rfl) (hline : (ap.endLine == cp.line) = true := by rfl)
    (nb : starEach [.Call (.Attribute e "values" ap) [] [] cp] X.env = (false, eval (.Call (.Attribute e "values" ap) [] [] cp) X.env) :: starEach [] X.env := by rfl) :
    PE X (.Call (.Name "sorted" p) [.Call (.Attribute e "values" ap) [] [] cp] [] pos) (tX X.K EX (mUn dSortV m)) := by
  have inner := pe_bm0 (X := X) PySem.F.plainAttrs_dict PySem.F.slot_dict_values PySem.F.type_dict_values mt_valsK he hbase hline
  refine (pe_callB (cr_sortV hu hh) hg hm (by decide +kernel) (pa_cons inner pa_nil nb) (he := nb) (hpl := by rfl)).imp fun σ H Q ⟨w, env, hw, st, pp⟩ => ?_
  subst hw
  refine tX_bind st pp fun dx vx w1 g1 s1 r1 p1 => ?_
  obtain ⟨d, hd, k⟩ := post_ret s1 p1
  obtain ⟨ds, zs, rfl, hn, hs, rfl⟩ := dSortV_inv hd
  obtain ⟨a, rfl, dl⟩ := r1.dict
  rcases dl with ⟨xs, hx, rk⟩ | ⟨xs, es, hx, rfl, _⟩
  · refine ⟨.inr (.inr (.inl ⟨rfl, .inl ⟨_, s1.vh _ _ hx⟩⟩)), a, xs, rfl, rfl, s1.vh _ _ hx, fun b hb => ?_⟩
    have x1 : Ext w1.V w1.H w1.V (upd w1.H b (viewO b a)) := Ext.hid s1.vh hb
    exact ⟨b, a, w1.V, xs, ds, zs, rfl, upd_same, x1.vh, hx, rk, hs, fun v V' H' x2 r => k v V' H' (x1.trans x2) r⟩
  · cases hn
end
end DL
set_option Elab.async false
set_option linter.all false
set_option maxRecDepth 100000
set_option maxHeartbeats 1000000
namespace DL
open PySem PySem.Spec PyProof.Rows
open L2 hiding St V
theorem et_made (la : Addr) (us : Array Value) (n : Nat) (dct : Option Addr) (sl : Array (Option Value)) :
    Meets (Builtin.«enumerate.__new__» ⟨[.type "enumerate", .ref la], []⟩) (fun _ R s => s.heap.get? la = some { cls := .type "tuple", dict := dct, data := .seq us n, slots := sl } ∧
      R (.ok (.ret (.ref (s.heap.push { cls := .type "tuple_iterator", data := .fields #[.ref la, .int 0 0] }).objs.size)))
        { s with heap := (s.heap.push { cls := .type "tuple_iterator", data := .fields #[.ref la, .int 0 0] }).push { cls := .type "enumerate", data := .fields #[.none, .bool false, .ref s.heap.objs.size, rawInt 0, .none, .none] } }) :=
  .of_wp fun prog w A R s k => by
    obtain ⟨hp, g, d, tk, os⟩ := s; obtain ⟨m1, k⟩ := k
    have hsub := sub_enumerate
    have q1 : Heap.IsTuple (Shared.heap ⟨hp, g, d, tk, os⟩) la us := ⟨_, m1, rfl, n, rfl⟩
    wp_walk using AutoSeq1.wpAny_loadPart' m1
    refine wpAny_stack_any fun st => wpAny_pure ?_
    split
    · rename_i c _ _ _ _ _
      cases (c == Value.type "enumerate")
      · wp_walk using AutoSeq1.wpAny_loadPart' m1, wpAny_pyIter_tuple q1
        exact ⟨_, rfl, k⟩
      · wp_walk using AutoSeq1.wpAny_loadPart' m1, wpAny_pyIter_tuple q1
        exact ⟨_, rfl, k⟩
    · wp_walk using AutoSeq1.wpAny_loadPart' m1, wpAny_pyIter_tuple q1
      exact ⟨_, rfl, k⟩
section
variable {prog : Program} {wd : World} {AR : Around} {ER : Value → Shared → Prop} {st : Shared}
theorem et_call {la : Addr} {us : Array Value} {Q : Value → Shared → Prop} (m1 : st.heap.IsTuple la us)
    (k : ∀ h', IsEnum h' (st.heap.objs.size + 1) st.heap.objs.size 0 .none → h'.IsTupleIter st.heap.objs.size la 0 → (∀ b o, st.heap.get? b = some o → h'.get? b = some o) → Q (.ref (st.heap.objs.size + 1)) { st with heap := h' }) :
    wpAny (model prog wd) AR (call (.type "enumerate") [.ref la]) Q ER st := by
  obtain ⟨⟨c, dct, dt, sl⟩, hl, hc, n, hd⟩ := m1
  replace hc : c = .type "tuple" := hc
  replace hd : dt = .seq us n := hd
  subst hc hd
  refine callType_new F.called_enumerate (by decide) (F.typeCall_enumerate_1 _) (F.newCall_enumerate_1 _) (fun obj => F.args_object_init_2 obj _) F.entry_enumerate_new (et_made la us n dct sl) ⟨hl, ?_⟩
  have y1 : (st.heap.push { cls := .type "tuple_iterator", data := .fields #[.ref la, .int 0 0] }).objs.size = st.heap.objs.size + 1 := Heap.size_push ..
  show _ ∧ _
  rw [y1]
  have me : IsEnum ((st.heap.push { cls := .type "tuple_iterator", data := .fields #[.ref la, .int 0 0] }).push { cls := .type "enumerate", data := .fields #[.none, .bool false, .ref st.heap.objs.size, rawInt 0, .none, .none] }) (st.heap.objs.size + 1) st.heap.objs.size 0 .none := by
    have z := Heap.get?_push_size (st.heap.push { cls := .type "tuple_iterator", data := .fields #[.ref la, .int 0 0] }) (o := { cls := .type "enumerate", data := .fields #[.none, .bool false, .ref st.heap.objs.size, rawInt 0, .none, .none] }) rfl
    rw [y1] at z; exact z
  exact ⟨⟨_, me, rfl⟩, k _ me ⟨_, Heap.get?_push_of_some _ (Heap.get?_push_size _ rfl), rfl, rfl⟩ fun b o x => Heap.get?_push_of_some _ (Heap.get?_push_of_some _ x)⟩
end
def ItE (K : KF) (a : Addr) : It :=
  ⟨fun i H => ∃ (us : List Vl) (x : Vl), SqT K H a us ∧ us[i]? = some x, fun i H r H' => ∃ T x, r = .ref T ∧ H T = none ∧ H' = upd H T (.tup [.int (i : Nat), x]) ∧ ∀ us, SqT K H a us → us[i]? = some x, fun i H => ∃ us : List Vl, SqT K H a us ∧ us.length = i⟩
theorem two {b e it : Addr} (h : b ∈ [e, it]) : b = e ∨ b = it := by simpa using h
theorem turn_et {P : Program} {w : World} {K : KF} {elts : List Expr} {kk : Nat} {tpos : Pos} (a e it : Addr) :
    Turn P w K (.Tuple elts kk tpos) (ItE K a) [e, it] e (fun i h => (∃ old, IsEnum h e it ((i : Nat) : Int) old) ∧ h.IsTupleIter it a i ∧ e ≠ it ∧ a ≠ it ∧ a ≠ e) where
  mem := List.mem_cons_self
  obj := fun i h ⟨⟨old, he⟩, ⟨o, ho, hc, hd⟩, _⟩ b hb => by
    rcases two hb with rfl | rfl
    · exact ⟨_, he, fun v q => nomatch q⟩
    · exact ⟨o, ho, fun v q => by rw [hd] at q; cases q⟩
  keep := fun i h h' ⟨⟨old, he⟩, hi, n1⟩ k => ⟨⟨old, k e (by simp) _ he⟩, hi.at fun o q => k it (by simp) o q, n1⟩
  item := by
    intro X hP hw hK hc i pins s σ H E I hf ⟨⟨old, he⟩, hit, n1, n2, n3⟩ ⟨us, x, sx, hx⟩
    subst hP hw hK
    obtain ⟨its, rv, pt, _⟩ := I.tuple sx
    obtain ⟨u, hu, ru⟩ := rv.get hx
    have lt1 : e < s.heap.objs.size := Heap.lt_size he
    have lt2 : it < s.heap.objs.size := by obtain ⟨_, q, _⟩ := hit; exact Heap.lt_size q
    have D := Draws.tuple (prog := X.prog) (w := X.w) (A := X.A.in1) (I.ok.hd hc) it a n2 its.toArray
    have hlen : i < its.toArray.size := by
      rw [List.size_toArray]
      exact (List.getElem?_eq_some_iff.mp hu).1
    refine wpAny_pyNext_enum_itemD D he ⟨hit, pt⟩ hlen n1 (by simp; exact ⟨n1, fun z => n3 z.symm⟩) fun x' h' tk hx' ho hst' hT hsz keep => ?_
    have ex : x' = u := by
      have h2 : its.toArray[i]? = some u := by simpa using hu
      rw [h2] at hx'
      exact (Option.some.inj hx').symm
    subst ex
    refine ⟨_, rfl, wpAny_letOwnedTupleGo_enum (s := { s with heap := h', toks := tk + 1 }) ho fun h2 he2 sb => ?_⟩
    have nT : h2.get? s.heap.objs.size = some { cls := .type "tuple", data := .seq #[.int i tk, x'] } := (sb.2 _ (Nat.ne_of_gt lt1)).trans hT
    have new : ObjOk X.prog X.w (upd H s.heap.objs.size (.tup [.int (i : Nat), x])) h2 s.heap.objs.size (.tup [.int (i : Nat), x]) := ⟨by show 2 ≤ sizeLine; decide, [.int i tk, x'], .cons ⟨_, rfl⟩ (.cons ru .nil), ⟨_, nT, rfl, _, rfl⟩⟩
    have I2 : Inv X pins σ (upd H s.heap.objs.size (.tup [.int (i : Nat), x])) { s with heap := h2, toks := tk + 1 } :=
      I.turnedNew (ch := [e, it]) (fun b ob nb q => (sb.2 b (fun z => nb (by simp [z]))).trans (keep b ob (fun z => nb (by simp [z])) (fun z => nb (by simp [z])) q)) hf (Nat.le_refl _) new
    refine ⟨.ref s.heap.objs.size, _, I2, rfl, ⟨_, x, rfl, I.hok.fresh (Nat.le_refl _), rfl, fun ys hy => by rw [I.tuple_inj hy sx]; exact hx⟩, ⟨⟨x', ?_⟩, hst'.1.at fun o q => (sb.2 it (Ne.symm n1)).trans q, n1, n2, n3⟩, fun b hb => ?_⟩
    · have e1 : ((i + 1 : Nat) : Int) = (i : Int) + 1 := by omega
      rw [e1]; exact he2
    · have lt : b < s.heap.objs.size := by
        rcases two hb with rfl | rfl
        · exact lt1
        · exact lt2
      rw [upd_ne (Nat.ne_of_lt lt)]
      exact (hf b hb).1
  done := by
    intro X hP hw hK hc i pins s σ H E I hf ⟨⟨old, he⟩, hit, n1, n2, n3⟩ ⟨us, sx, hx⟩
    subst hP hw hK
    obtain ⟨its, rv, pt, _⟩ := I.tuple sx
    obtain ⟨f0, f1, f2, f3, f4, f5⟩ := hf it (by simp)
    have D := Draws.tuple (prog := X.prog) (w := X.w) (A := X.A.in1) (I.ok.hd hc) it a n2 its.toArray
    have en : its.toArray.size = i := by rw [List.size_toArray, ← hx, rv.length]
    exact wpAny_pyNext_enum_endD D he ⟨by rw [en]; exact hit, pt⟩ fun h' eb => ⟨rfl, I.turned (t' := s.toks) (fun b o hb q => eb b o hb q) f0 f1 f3 f4 f5⟩
  self := fun A i s Q E m h => let ⟨⟨_, he⟩, _⟩ := m; wpAny_pyIter_enum he h
end DL
set_option Elab.async false
set_option linter.all false
set_option maxRecDepth 100000
set_option maxHeartbeats 1000000
namespace DL
open PySem PySem.Spec PyProof.Rows
open L2 hiding St V
def iEnumA (K : KF) (ta : TA) : TI := fun σ H R => ta σ H fun vs H1 => ∃ a xs, vs = [.ref a] ∧ ((SqL K H1 a xs ∧ R (Ite K a) H1) ∨ (SqT K H1 a xs ∧ R (ItE K a) H1))
theorem pi_enumA {X : Cx} {e : Expr} {ta : TA} {p pos tpos : Pos} {elts : List Expr} {kk : Nat} (hg : Gl X "enumerate") (hm : X.mg "enumerate" = none) (ha : PA X [e] ta) (hs : starEach [e] X.env = [(false, eval e X.env)] := by rfl) :
    PI X (.Tuple elts kk tpos) (.Call (.Name "enumerate" p) [e] [] pos) (iEnumA X.K ta) := by
  refine ⟨fun pins s σ H R I h => Call_ (ld_blt I hg hm boot_enumerate (PyProof.Rows.callWith_type1 (thn (ha.run pos pins s σ H _ I h) fun us s1 ⟨vs, H1, I1, r1, q1⟩ => ?_) hs rfl))⟩
  obtain ⟨a, xs, ex, q1⟩ := q1
  subst ex
  rw [Vals.ref1 r1]
  have fr : ∀ b, b ∈ [s1.heap.objs.size + 1, s1.heap.objs.size] → FpOk X pins H1 b := fun b hb => by
    have hle : s1.heap.objs.size ≤ b := by
      rcases two hb with rfl | rfl <;> first | exact Nat.le_add_right _ _ | exact Nat.le_refl _
    exact I1.fpOk hle (I1.hok.fresh hle)
  rcases q1 with ⟨k1, q⟩ | ⟨k1, q⟩
  · obtain ⟨its, rv, p1, _⟩ := I1.list k1
    refine call_enumerate_list p1.isList fun h' me mi hsz keep => wpAny_pyIter_enum me ?_
    exact ⟨_, _, _, _, H1, rfl, I1.kept (t' := s1.toks) keep, turn_enum a (s1.heap.objs.size + 1) s1.heap.objs.size, ⟨⟨.none, me⟩, mi, Nat.succ_ne_self _⟩, fr, q⟩
  · obtain ⟨its, rv, p1, _⟩ := I1.tuple k1
    obtain ⟨o1, l1, _⟩ := id p1
    have lt := Heap.lt_size l1
    refine et_call (show s1.heap.IsTuple a its.toArray from p1) fun h' me mi keep => wpAny_pyIter_enum me ?_
    exact ⟨_, _, _, _, H1, rfl, I1.kept (t' := s1.toks) keep, turn_et a (s1.heap.objs.size + 1) s1.heap.objs.size, ⟨⟨.none, me⟩, mi, Nat.succ_ne_self _, Nat.ne_of_lt lt, Nat.ne_of_lt (Nat.lt_succ_of_lt lt)⟩, fr, q⟩
theorem walkD_et {K : KF} {V : Hp} {a : Addr} {xs : List Vl} {ds : List D} (h : V a = some (.tup xs)) (r : RpL V xs ds) : WalkD (ItE K a) V (enumD ds) where
  go i V1 H1 s1 s2 hi := by
    rw [enumD_len, ← r.length] at hi
    exact ⟨xs, _, SqT.of (s2 _ _ (s1 _ _ h)), List.getElem?_eq_getElem hi⟩
  stop V1 H1 s1 s2 := ⟨xs, SqT.of (s2 _ _ (s1 _ _ h)), by rw [enumD_len, r.length]⟩
  yld i V1 H1 x H2 d s1 s2 hd hy := by
    obtain ⟨z, hz, rfl⟩ := enumD_get hd
    obtain ⟨T, x1, rfl, hT, rfl, e2⟩ := hy
    have e2 := e2 xs (SqT.of (s2 _ _ (s1 _ _ h)))
    obtain ⟨d', h1, h2⟩ := r.get i x1 e2
    rw [hz] at h1
    cases h1
    exact pairNew s2 hT (.int _) (h2.mono s1)
def enumA : List D → Option (List D)
  | [.list xs] => some (enumD xs)
  | [.tuple xs] => some (enumD xs)
  | _ => none
section
variable {X : Cx} {EX : EXP} {e tg : Expr} {ms : MA} {gs : PL}
theorem x_enumA (h : PI X tg e (iEnumA X.K (tXA X.K EX ms))) : PI X tg e (tXI X.K EX (maOf enumA ms)) := pi_run h fun σ H R q => by
  obtain ⟨w, env, hw, st, p⟩ := aof_of q
  refine ⟨fun J H' => ∃ a xs, (SqL X.K H' a xs ∨ SqT X.K H' a xs) ∧ (xs.length ≤ sizeLine → R J H'), ⟨w, env, hw, st, ?_⟩, fun pins s2 J H' I ⟨a, xs, h1, h2⟩ => ?_⟩
  · revert p
    cases ms env w.bx with
    | none => exact id
    | some q =>
      obtain ⟨r, b⟩ := q
      cases r with
      | exc c d => exact id
      | ok ds =>
        intro p vs w1 hb g1 s1 r1
        obtain ⟨_, _, w2, ds, ds', hw2, s2, r2, hd, k⟩ := p vs w1 hb g1 s1 r1
        unfold enumA at hd
        split at hd
        · cases hd
          obtain ⟨v, rfl, rv⟩ := r2.one
          cases rv with
          | lst ha ra =>
            have hS : SqL X.K w1.H _ _ := SqL.of (by rw [← hw2]; exact s2.vh _ _ ha)
            refine ⟨_, _, rfl, .inl ⟨hS, _, _, .inl hS, fun hz => ?_⟩⟩
            rw [← hw2]
            exact k _ _ _ (Ext.refl s2.vh) (by rw [enumD_len, ← ra.length]; exact hz) (walkD_enumL ha ra)
        · cases hd
          obtain ⟨v, rfl, rv⟩ := r2.one
          cases rv with
          | tup ha ra =>
            have hS : SqT X.K w1.H _ _ := SqT.of (by rw [← hw2]; exact s2.vh _ _ ha)
            refine ⟨_, _, rfl, .inr ⟨hS, _, _, .inr hS, fun hz => ?_⟩⟩
            rw [← hw2]
            exact k _ _ _ (Ext.refl s2.vh) (by rw [enumD_len, ← ra.length]; exact hz) (walkD_et ha ra)
        · cases hd
  · rcases h1 with h1 | h1
    · obtain ⟨_, _, _, hz⟩ := I.list h1
      exact h2 hz
    · obtain ⟨_, _, _, hz⟩ := I.tuple h1
      exact h2 hz
theorem di_enumA (h : PI X tg e (iEnumA X.K (tXA X.K EX (liftA gs)))) : PI X tg e (tXI X.K EX (liftA (plOf enumA gs))) := by
  rw [← lift_aof]; exact x_enumA h
end
end DL
set_option Elab.async false
set_option linter.all false
set_option maxRecDepth 100000
set_option maxHeartbeats 1000000
namespace DL
open PySem PySem.Spec PyProof.Rows
open L2 hiding St V
def sPutN (i j : Nat) (pk : P) (gs : PL) : S := fun env b =>
  match gs env b with
  | some [x, y] => match env[i]? with
    | some (some (.bx k)) => match pk env b with
      | some key => match b[k]? with
        | some (.live (.dict ds)) => match dPut ds key x with
          | some ds' => if j < env.length then some (.nx (env.set j (some (.dat y))), b.set k (.live (.dict ds'))) else none
          | none => none
        | _ => none
      | none => none
    | _ => none
  | _ => none
theorem s_putN {X : Cx} {EX : EXP} {st : Stmt} {i j : Nat} {pk : P} {gs : PL} (h : PS X st (tAsg (tX X.K EX (lift (pApp gTupD gs))) (gTup X.K 2 (gCons (gSub (tVar i) (tX X.K EX (lift pk)) rSetD) (gCons (gName j) gNil))))) : PS X st (tS X.K EX (sPutN i j pk gs)) := h.imp fun De σ H ⟨w, env, hw, sr, p⟩ => by
  subst hw
  unfold sPutN at p
  refine ⟨w, env, rfl, sr, ?_⟩
  split at p
  · rename_i x y hgs
    split at p
    · rename_i k hi
      split at p
      · rename_i key hk
        split at p
        · rename_i ds hb
          split at p
          · rename_i ds' hn
            split at p
            · rename_i hj
              have e : pApp gTupD gs env w.bx = some (.tuple [x, y]) := by
                show (gs env w.bx).bind gTupD = _
                rw [hgs]; rfl
              unfold lift
              rw [e]
              intro v w1 hb1 g1 s1 r1
              cases r1 with
              | tup ha ra =>
                obtain ⟨vx, vy, rfl, rx, ry⟩ := ra.two
                refine ⟨_, _, rfl, SqT.of (s1.vh _ _ ha), rfl, vx, [vy], rfl, ?_⟩
                obtain ⟨v0, h1, a, h2, rfl⟩ := s1.cel i _ hi
                refine ⟨_, h1, w1, env, rfl, s1, ?_⟩
                rw [hb1]
                show Post X.K EX _ σ env w1 ((pk env w.bx).map fun d => (.ok d, w.bx))
                rw [hk]
                intro vk w2 hb2 g2 s2 rk
                have ha2 := g2.as _ _ h2
                have hb' : w2.bx[k]? = some (.live (.dict ds)) := by rw [hb2]; exact hb
                obtain ⟨ob, hP, hO⟩ := dput_of s2.vh (s2.box k a _ ha2 hb').2 rk (rx.mono g2.v) hn
                obtain ⟨gg, ss⟩ := written s2 ha2 hb' hO
                refine ⟨a, _, rfl, hP, vy, [], rfl, rfl, ?_⟩
                have g3 := (g1.trans g2).trans gg
                exact p _ { w2 with H := upd w2.H a ob, bx := w2.bx.set k (.live (.dict ds')) } (by rw [← hb2]) g3 (ss.set (c := .dat y) ((ry.mono g2.v).mono gg.v))
            · exact p.elim
          · exact p.elim
        · exact p.elim
      · exact p.elim
    · exact p.elim
  · exact p.elim
end DL
set_option Elab.async false
set_option linter.all false
set_option maxRecDepth 100000
set_option maxHeartbeats 1000000
namespace DL
open PySem PySem.Spec PyProof.Rows
open L2 hiding St V
def compP2 (f : Tg) (pc : P) (pi1 : PL) (vs1 : List Nat) (f1 : Tg) (pc1 pe : P) (env : Env) (b : Bx) : List D → Option (List D)
  | [] => some []
  | d :: ds => (f d env).bind fun env1 => (pc env1 b).bind fun t => (truthD t).bind fun
    | true => (pi1 env1 b).bind fun is => (compP f1 pc1 pe (wipeE env1 vs1) b is).bind fun r1 => (compP2 f pc pi1 vs1 f1 pc1 pe env b ds).map fun r => r1 ++ r
    | false => compP2 f pc pi1 vs1 f1 pc1 pe env b ds
def lenOk (r : List D) : Option D := if r.length ≤ SZ then some (.list r) else none
def pComp2 (pi : PL) (vs : List Nat) (f : Tg) (pc : P) (pi1 : PL) (vs1 : List Nat) (f1 : Tg) (pc1 pe : P) : P := fun env b => (pi env b).bind fun ds => (compP2 f pc pi1 vs1 f1 pc1 pe (wipeE env vs) b ds).bind lenOk
theorem g_wk {X : Cx} {tg : Expr} {f : Tg} {vs ws : List Nat} (h : PG X tg (tXG X.K f vs)) (hs : ∀ i ∈ vs, i ∈ ws) : PG X tg (tXG X.K f ws) := ⟨fun pins s σ H v u Q I r ⟨w, env, d, hw, st, rv, p⟩ => by
  refine h.run pins s σ H v u Q I r ⟨w, env, d, hw, st, rv, ?_⟩
  revert p
  cases f d env with
  | none => exact id
  | some env1 => exact fun p σ1 s1 k l => p σ1 s1 (fun j hj => k j fun z => hj (hs j z)) l⟩
theorem lc2_of {EX : EXP} {pi pi1 : PL} {vs vs1 : List Nat} {f f1 : Tg} {pc pc1 pe : P} {K : KF} {σ : St} {H : Hp} {Q : VK} (h : tXO K EX (lift (pComp2 pi vs f pc pi1 vs1 f1 pc1 pe)) σ H Q) :
    tLc2 (tXI K EX (liftA pi)) (tXG K f vs) (tXT K XF (lift pc)) (tXI K XF (liftA pi1)) (tXG K f1 vs1) (tXT K XF (lift pc1)) (tX K XF (lift pe)) vs vs1 σ H Q := by
  obtain ⟨w, env, hw, sr, p⟩ := h
  subst hw
  refine ⟨w, env, rfl, sr, ?_⟩
  have p : PostO K EX Q σ env w ((pComp2 pi vs f pc pi1 vs1 f1 pc1 pe env w.bx).map fun d => (.ok d, w.bx)) := p
  cases hv : pComp2 pi vs f pc pi1 vs1 f1 pc1 pe env w.bx with
  | none => rw [hv] at p; exact p.elim
  | some d =>
    rw [hv] at p
    unfold pComp2 at hv
    show PostI K EX _ σ env w ((pi env w.bx).map fun d => (.ok d, w.bx))
    cases hi : pi env w.bx with
    | none => rw [hi] at hv; cases hv
    | some ds =>
      rw [hi] at hv
      have hv : (compP2 f pc pi1 vs1 f1 pc1 pe (wipeE env vs) w.bx ds).bind lenOk = some d := hv
      cases hc : compP2 f pc pi1 vs1 f1 pc1 pe (wipeE env vs) w.bx ds with
      | none => rw [hc] at hv; cases hv
      | some r =>
        rw [hc] at hv
        have hv : lenOk r = some d := hv
        obtain ⟨hz, rfl⟩ : r.length ≤ SZ ∧ d = .list r := by
          unfold lenOk at hv
          split at hv
          · cases hv; exact ⟨by assumption, rfl⟩
          · cases hv
        intro J w1 hb g1 s1 hzd hW D hD
        have hV1 : w1.V D = none := by
          cases e : w1.V D with
          | none => rfl
          | some u => rw [s1.vh _ _ e] at hD; cases hD
        have h0 : w.H D = none := by
          cases e : w.H D with
          | none => rfl
          | some u => exact absurd hD (g1.hk D (by rw [e]; simp))
        have hnW1 : ¬ w1.W D := fun ⟨k, d, z1, z2⟩ => s1.as_some z1 hD
        have hnA1 : ∀ k : Nat, w1.as[k]? ≠ some D := fun k z => s1.as_some z hD
        refine ⟨fun i m H => i + m = ds.length ∧ ∃ w2 acc rs rest, w2.H = H ∧ w2.bx = w.bx ∧ StR K σ env w2 ∧ Gr w1 w2 ∧ H D = some (.lst acc) ∧ w2.V D = none ∧ ¬ w2.W D ∧ (∀ k : Nat, w2.as[k]? ≠ some D) ∧ RpL w2.V acc rs ∧
            compP2 f pc pi1 vs1 f1 pc1 pe (wipeE env vs) w.bx (ds.drop i) = some rest ∧ rs ++ rest = r,
          ⟨ds.length, by omega, { w1 with H := upd w1.H D (.lst []) }, [], [], r, rfl, hb, s1.hid hV1 hnA1, (Gr.refl w1).hid hD, upd_same, hV1, hnW1, hnA1, .nil, by rw [List.drop_zero]; exact hc, rfl⟩, ?_⟩
        intro i m H2 ⟨hi', w2, acc, rs, rest, hw2, hb2, s2, g2, hacc, hv2, hnW2, hnA2, rl, hcc, hr⟩
        subst hw2
        have hW2 := hW.mono g2.v
        cases m with
        | zero =>
          have e : i = ds.length := by omega
          subst e
          refine .inl ⟨hW2.stop w2.V w2.H (Sub.refl _) s2.vh, ?_⟩
          rw [List.drop_length] at hcc
          cases hcc
          rw [List.append_nil] at hr
          subst hr
          exact p D w2 hb2 (g1.trans g2) s2 h0 hv2 ⟨acc, hacc, rl⟩ hnA2
        | succ m =>
          have hlt : i < ds.length := by omega
          refine .inr ⟨hW2.go i w2.V w2.H (Sub.refl _) s2.vh hlt, fun H' => i + 1 + m = ds.length ∧ ∃ w3 acc rs rest, w3.H = H' ∧ w3.bx = w.bx ∧ StR K σ env w3 ∧ Gr w1 w3 ∧ H' D = some (.lst acc) ∧ w3.V D = none ∧ ¬ w3.W D ∧ (∀ k : Nat, w3.as[k]? ≠ some D) ∧ RpL w3.V acc rs ∧
            compP2 f pc pi1 vs1 f1 pc1 pe (wipeE env vs) w.bx (ds.drop (i + 1)) = some rest ∧ rs ++ rest = r, fun H' hN => ⟨m, by omega, hN⟩, fun x H' hy => ?_⟩
          obtain ⟨V3, x3, rx⟩ := hW2.yld i w2.V w2.H x H' ds[i] (Sub.refl _) s2.vh (List.getElem?_eq_getElem hlt) hy
          rw [List.drop_eq_getElem_cons hlt] at hcc
          have s3 : StR K (wipe σ vs) (wipeE env vs) (w2.to V3 H') := (s2.ext' x3).wipe vs
          have gx : Gr w2 (w2.to V3 H') := x3.gr
          have keep : ∀ {v v' : Wd} {acc : List Vl} {rs : List PyData}, v.H D = some (.lst acc) → v.V D = none → ¬ v.W D → (∀ k : Nat, v.as[k]? ≠ some D) → RpL v.V acc rs → Gr v v' → v'.H D = some (.lst acc) ∧ v'.V D = none ∧ ¬ v'.W D ∧ (∀ k : Nat, v'.as[k]? ≠ some D) ∧ RpL v'.V acc rs := fun {v v' acc rs} a1 a2 a3 a4 a5 g =>
            have ne : v.H D ≠ none := by rw [a1]; simp
            ⟨g.hn D _ a1 a3, (g.vn D (NT.of a1 fun q z => by cases q <;> cases z) a3).trans a2, fun z => (g.w D z).elim a3 ne, fun k z => (g.asn k D z).elim (a4 k) ne, a5.mono g.v⟩
          refine ⟨w2.to V3 H', wipeE env vs, ds[i], rfl, s3, rx, ?_⟩
          unfold compP2 at hcc
          cases hf : f ds[i] (wipeE env vs) with
          | none => simp only [hf] at hcc; cases hcc
          | some env3 =>
            simp only [hf, Option.bind_some] at hcc
            intro σ3 st3 ko kl
            refine ⟨?_, ?_⟩
            · have e1 : wipe σ3 vs = wipe (wipe σ vs) vs := wipe_ext kl ko
              have e2 : wipe (wipe σ vs) vs = wipe σ vs := wipe_ext (wipe_length _ _) fun j hj => wipe_at hj
              rw [e1, e2]
            refine ⟨w2.to V3 H', env3, rfl, st3, ?_⟩
            show PostT K XF _ σ3 env3 (w2.to V3 H') ((pc env3 w2.bx).map fun d => (.ok d, w2.bx))
            rw [hb2]
            cases hmc : pc env3 w.bx with
            | none => rw [hmc] at hcc; cases hcc
            | some t =>
              rw [hmc] at hcc
              simp only [Option.bind_some] at hcc
              cases ht : truthD t with
              | none => rw [ht] at hcc; cases hcc
              | some k =>
                rw [ht] at hcc
                simp only [Option.bind_some] at hcc
                refine ⟨k, ht, fun w4 hb4 g4 s4 => ?_⟩
                have g24 : Gr w2 w4 := gx.trans g4
                obtain ⟨k1, k2, k3, k4, k5⟩ := keep hacc hv2 hnW2 hnA2 rl g24
                cases k with
                | false =>
                  show ite _ _ _
                  rw [if_neg Bool.false_ne_true]
                  exact ⟨by omega, w4, acc, rs, rest, rfl, hb4, s2.carry s4 g24, g2.trans g24, k1, k2, k3, k4, k5, hcc, hr⟩
                | true =>
                  show ite _ _ _
                  rw [if_pos rfl]
                  dsimp only at hcc
                  cases hpi : pi1 env3 w.bx with
                  | none => rw [hpi] at hcc; cases hcc
                  | some is =>
                    rw [hpi] at hcc
                    simp only [Option.bind_some] at hcc
                    cases hc1 : compP f1 pc1 pe (wipeE env3 vs1) w.bx is with
                    | none => rw [hc1] at hcc; cases hcc
                    | some r1 =>
                      rw [hc1] at hcc
                      simp only [Option.bind_some] at hcc
                      cases hc2 : compP2 f pc pi1 vs1 f1 pc1 pe (wipeE env vs) w.bx (ds.drop (i + 1)) with
                      | none => rw [hc2] at hcc; cases hcc
                      | some rest' =>
                        rw [hc2] at hcc
                        simp only [Option.map_some, Option.some.injEq] at hcc
                        subst hcc
                        refine ⟨w4, env3, rfl, s4, ?_⟩
                        show PostI K XF _ σ3 env3 w4 ((pi1 env3 w4.bx).map fun d => (.ok d, w4.bx))
                        rw [hb4, hpi]
                        intro J1 w5 hb5 g5 s5 hz5 hW5
                        obtain ⟨l1, l2, l3, l4, l5⟩ := keep k1 k2 k3 k4 k5 g5
                        refine ⟨fun j k H => j + k = is.length ∧ ∃ w6 acc rs rest1, w6.H = H ∧ w6.bx = w.bx ∧ StR K σ3 env3 w6 ∧ Gr w1 w6 ∧ Sub w5.V w6.V ∧ H D = some (.lst acc) ∧ w6.V D = none ∧ ¬ w6.W D ∧ (∀ k : Nat, w6.as[k]? ≠ some D) ∧ RpL w6.V acc rs ∧
                            compP f1 pc1 pe (wipeE env3 vs1) w.bx (is.drop j) = some rest1 ∧ rs ++ (rest1 ++ rest') = r,
                          ⟨is.length, by omega, w5, acc, rs, r1, rfl, hb5, s5, (g2.trans g24).trans g5, Sub.refl _, l1, l2, l3, l4, l5, by rw [List.drop_zero]; exact hc1, hr⟩, ?_⟩
                        intro j k H6 ⟨hj', w6, acc6, rs6, rest1, hw6, hb6, s6, g6, sv6, hacc6, hv6, hnW6, hnA6, rl6, hcc6, hr6⟩
                        subst hw6
                        have hW6 := hW5.mono sv6
                        cases k with
                        | zero =>
                          have e : j = is.length := by omega
                          subst e
                          refine .inl ⟨hW6.stop w6.V w6.H (Sub.refl _) s6.vh, ?_⟩
                          rw [List.drop_length] at hcc6
                          cases hcc6
                          exact ⟨by omega, w6, acc6, rs6, rest', rfl, hb6, s1.carry s6 g6, g6, hacc6, hv6, hnW6, hnA6, rl6, rfl, hr6⟩
                        | succ k =>
                          have hlt6 : j < is.length := by omega
                          refine .inr ⟨hW6.go j w6.V w6.H (Sub.refl _) s6.vh hlt6, fun H' => j + 1 + k = is.length ∧ ∃ w7 acc rs rest1, w7.H = H' ∧ w7.bx = w.bx ∧ StR K σ3 env3 w7 ∧ Gr w1 w7 ∧ Sub w5.V w7.V ∧ H' D = some (.lst acc) ∧ w7.V D = none ∧ ¬ w7.W D ∧ (∀ k : Nat, w7.as[k]? ≠ some D) ∧ RpL w7.V acc rs ∧
                            compP f1 pc1 pe (wipeE env3 vs1) w.bx (is.drop (j + 1)) = some rest1 ∧ rs ++ (rest1 ++ rest') = r, fun H' hN => ⟨k, by omega, hN⟩, fun x1 H7 hy1 => ?_⟩
                          obtain ⟨V7, x7, rx7⟩ := hW6.yld j w6.V w6.H x1 H7 is[j] (Sub.refl _) s6.vh (List.getElem?_eq_getElem hlt6) hy1
                          rw [List.drop_eq_getElem_cons hlt6] at hcc6
                          have s7 : StR K (wipe σ3 vs1) (wipeE env3 vs1) (w6.to V7 H7) := (s6.ext' x7).wipe vs1
                          have gx7 : Gr w6 (w6.to V7 H7) := x7.gr
                          refine ⟨w6.to V7 H7, wipeE env3 vs1, is[j], rfl, s7, rx7, ?_⟩
                          unfold compP at hcc6
                          cases hf1 : f1 is[j] (wipeE env3 vs1) with
                          | none => simp only [hf1] at hcc6; cases hcc6
                          | some env4 =>
                            simp only [hf1, Option.bind_some] at hcc6
                            intro σ4 st4 ko4 kl4
                            refine ⟨?_, ?_⟩
                            · have e1 : wipe σ4 vs1 = wipe (wipe σ3 vs1) vs1 := wipe_ext kl4 ko4
                              have e2 : wipe (wipe σ3 vs1) vs1 = wipe σ3 vs1 := wipe_ext (wipe_length _ _) fun j hj => wipe_at hj
                              rw [e1, e2]
                            refine ⟨w6.to V7 H7, env4, rfl, st4, ?_⟩
                            show PostT K XF _ σ4 env4 (w6.to V7 H7) ((pc1 env4 w6.bx).map fun d => (.ok d, w6.bx))
                            rw [hb6]
                            cases hm1 : pc1 env4 w.bx with
                            | none => rw [hm1] at hcc6; cases hcc6
                            | some t1 =>
                              rw [hm1] at hcc6
                              simp only [Option.bind_some] at hcc6
                              cases ht1 : truthD t1 with
                              | none => rw [ht1] at hcc6; cases hcc6
                              | some q =>
                                rw [ht1] at hcc6
                                simp only [Option.bind_some] at hcc6
                                refine ⟨q, ht1, fun w8 hb8 g8 s8 => ?_⟩
                                have g68 : Gr w6 w8 := gx7.trans g8
                                obtain ⟨n1, n2, n3, n4, n5⟩ := keep hacc6 hv6 hnW6 hnA6 rl6 g68
                                cases q with
                                | false =>
                                  show ite _ _ _
                                  rw [if_neg Bool.false_ne_true]
                                  exact ⟨by omega, w8, acc6, rs6, rest1, rfl, hb8, s6.carry s8 g68, g6.trans g68, sv6.trans g68.v, n1, n2, n3, n4, n5, hcc6, hr6⟩
                                | true =>
                                  show ite _ _ _
                                  rw [if_pos rfl]
                                  dsimp only at hcc6
                                  refine ⟨w8, env4, rfl, s8, ?_⟩
                                  show Post K XF _ σ4 env4 w8 ((pe env4 w8.bx).map fun d => (.ok d, w8.bx))
                                  rw [hb8]
                                  cases hpe : pe env4 w.bx with
                                  | none => rw [hpe] at hcc6; cases hcc6
                                  | some y =>
                                    rw [hpe] at hcc6
                                    simp only [Option.bind_some] at hcc6
                                    cases hcr : compP f1 pc1 pe (wipeE env3 vs1) w.bx (is.drop (j + 1)) with
                                    | none => rw [hcr] at hcc6; cases hcc6
                                    | some rest2 =>
                                      rw [hcr] at hcc6
                                      simp only [Option.map_some, Option.some.injEq] at hcc6
                                      subst hcc6
                                      intro v w9 hb9 g9 s9 r9
                                      have g69 : Gr w6 w9 := g68.trans g9
                                      obtain ⟨o1, o2, o3, o4, o5⟩ := keep n1 n2 n3 n4 n5 g9
                                      have hlen : acc6.length < sizeLine := by
                                        rw [o5.length]
                                        have : rs6.length + ((y :: rest2) ++ rest').length = r.length := (List.length_append).symm.trans (congrArg List.length hr6)
                                        rw [List.cons_append, List.length_cons] at this
                                        have h2 : rs6.length < r.length := by rw [← this]; omega
                                        exact Nat.lt_of_lt_of_le h2 (szLine hz)
                                      refine ⟨acc6, o1, hlen, by omega, { w9 with H := upd w9.H D (.lst (acc6 ++ [v])) }, acc6 ++ [v], rs6 ++ [y], rest2, rfl, hb9, (s6.carry s9 g69).hid o2 o4, (g6.trans g69).hid hD, sv6.trans g69.v, upd_same, o2, o3, o4, o5.append (.cons r9 .nil), rfl, ?_⟩
                                      rw [List.append_assoc]
                                      exact hr6
theorem d_lc2 {X : Cx} {EX : EXP} {e : Expr} {pi pi1 : PL} {vs vs1 : List Nat} {f f1 : Tg} {pc pc1 pe : P} (h : PE X e (tLc2 (tXI X.K EX (liftA pi)) (tXG X.K f vs) (tXT X.K XF (lift pc)) (tXI X.K XF (liftA pi1)) (tXG X.K f1 vs1) (tXT X.K XF (lift pc1)) (tX X.K XF (lift pe)) vs vs1)) : PE X e (tX X.K EX (lift (pComp2 pi vs f pc pi1 vs1 f1 pc1 pe))) :=
  x_ofO (h.imp fun _ _ _ q => lc2_of q)
end DL
set_option Elab.async false
set_option linter.all false
set_option maxRecDepth 100000
set_option maxHeartbeats 1000000
namespace DL
open PySem PySem.Spec PyProof.Rows
open L2 hiding St V
def cDict : List D → Option D
  | [.dict kvs] => if noT kvs = true then some (.dict kvs) else none
  | _ => none
theorem b_dictO {X : Cx} : CallR X (.type "dict") (cO cDict) := by
  intro pins s σ H xs us Q I rs ⟨V, ds, d, sb, r, hf, k⟩
  unfold cDict at hf
  split at hf
  · rename_i kvs
    split at hf
    · rename_i hn
      cases hf
      obtain ⟨v, rfl, rv⟩ := r.one
      obtain ⟨a, rfl, dl⟩ := rv.dict
      rcases dl with ⟨xs, hx, rk⟩ | ⟨xs, es, hx, rfl, _⟩
      · exact call_dictD pins s σ H _ us Q I rs ⟨a, xs, rfl, .inl (sb _ _ hx), fun p hp => k p V _ (Ext.hid sb hp) hp (by
          cases e : V p with
          | none => rfl
          | some u => rw [sb p u e] at hp; cases hp) (.inl ⟨xs, upd_same, rk⟩)⟩
      · cases hn
    · cases hf
  · cases hf
theorem x_globS {X : Cx} {EX : EXP} {x : Str} {i : Str} {pos : Pos} (hg : Gl X x) (hm : ∃ t, X.mg x = some (.str i t)) (hd : (x == ("__debug__" : Str)) = false := by decide) : PE X (.Name x pos) (tX X.K EX (lift (pC (.str i)))) := by
  obtain ⟨t, hm⟩ := hm
  exact x_glob (v := .str i) hg hm ⟨t, rfl⟩ (fun _ => .str _) hd
section
variable {X : Cx} {EX : EXP} {st : Stmt} {m0 m1 : M} {ms : MA}
def sParF2 (i j : Nat) (m0 m1 : M) : S := fun env b =>
  match m0 env b with
  | none => none
  | some (.exc c d, b) => some (.exc c d, b)
  | some (.ok d0, b) => match m1 env (b ++ [.live d0]) with
    | none => none
    | some (.exc c d, b) => some (.exc c d, b)
    | some (.ok y, b2) => if i < env.length ∧ j < env.length then some (.nx ((env.set i (some (.bx b.length))).set j (some (.dat y))), b2) else none
theorem s_parF2 {i j : Nat} (h : PS X st (tPar i j (tCons (tXO X.K EX m0) (tCons (tX X.K EX m1) tNil)))) : PS X st (tS X.K EX (sParF2 i j m0 m1)) := h.imp fun D σ H ⟨w, env, hw, sr, p⟩ => by
  subst hw
  refine ⟨w, env, rfl, sr, ?_⟩
  unfold sParF2 at p
  cases hm : m0 env w.bx with
  | none => rw [hm] at p; exact p.elim
  | some z =>
    obtain ⟨r, b⟩ := z
    rw [hm] at p
    cases r with
    | exc c d => exact fun w' hb g e => p σ env w' hb g e
    | ok d0 =>
      dsimp only at p
      intro q w1 hb1 g1 s1 hq hv ho ha
      subst hb1
      have sE := s1.more hv ho ha
      have gE := g1.newBox (d := d0) hq s1.lenB
      refine ⟨{ w1 with as := w1.as ++ [q], bx := w1.bx ++ [.live d0] }, env, rfl, sE, ?_⟩
      show Post X.K EX _ σ env _ (m1 env (w1.bx ++ [.live d0]))
      cases hm1 : m1 env (w1.bx ++ [.live d0]) with
      | none => rw [hm1] at p; exact p.elim
      | some z =>
        obtain ⟨r, b2⟩ := z
        rw [hm1] at p
        cases r with
        | exc c d => exact fun w' hb g e => p σ env w' hb (gE.trans g) e
        | ok y =>
          dsimp only at p
          intro v w2 hb2 g2 s2 ry
          subst hb2
          refine ⟨_, _, rfl, ?_⟩
          split at p
          · have hk : w2.as[w1.bx.length]? = some q := g2.as _ _ (by show (w1.as ++ [q])[w1.bx.length]? = _; rw [← s1.lenB]; simp)
            exact p _ w2 rfl (gE.trans g2) ((s2.set (c := .bx w1.bx.length) ⟨q, hk, rfl⟩).set (c := .dat y) ry)
          · exact p.elim
end
end DL
set_option Elab.async false
set_option linter.all false
set_option maxRecDepth 100000
set_option maxHeartbeats 1000000
namespace DL
open PySem PySem.Spec PyProof.Rows
open L2 hiding St V
def relab (scope outer : Scope) : Scope := { scope with names := scope.names.map fun (n, k) => if (k == NameKind.free && outer.kind == .function && outer.names.lookup n == some .cell) = true then (n, NameKind.cell) else (n, k) }
end DL
set_option Elab.async false
set_option linter.all false
set_option maxRecDepth 100000
set_option maxHeartbeats 1000000
namespace DL
open PySem PySem.Spec PyProof.Rows
open L2 hiding St V
end DL
set_option Elab.async false
set_option linter.all false
set_option maxRecDepth 100000
set_option maxHeartbeats 1000000
namespace DL
open PySem PySem.Spec PyProof.Rows
open L2 hiding St V
structure ZOut (H0 H : Hp) (S : Addr) (us vs : List Vl) (Ts : List Addr) (n : Nat) : Prop where
  keep : ∀ c o, H0 c = some o → H c = some o
  s0 : H0 S = none
  hs : H S = some (.lst (Ts.map V.ref))
  len : Ts.length = n
  pair : ∀ (i : Nat) (T : Addr), Ts[i]? = some T → ∃ x y, us[i]? = some x ∧ vs[i]? = some y ∧ H T = some (.tup [x, y]) ∧ H0 T = none
def Zst (h : Heap) (H : Hp) (zv tI tO p q la lb : Addr) (i : Nat) : Prop :=
  IsPair h tI (.ref p) (.ref q) ∧ h.IsListIter p la i ∧ h.IsListIter q lb i ∧ (∃ o, h.get? tO = some o) ∧
    ((IsZip h zv tI tO .none ∧ ∃ x y, IsPair h tO x y) ∨ ∃ T f ys, IsZipHeld h zv tI tO T f ∧ H T = some (.tup ys))
section
variable {X : Cx} {pins : List (Addr × Obj)} {σ : L2.St} {zv tI tO p q la lb S : Addr} {us vs : List Vl} {H0 : Hp}
theorem Zst.push {h : Heap} {H H' : Hp} {i : Nat} {f : Obj → Obj} (z : Zst h H zv tI tO p q la lb i) (hn : S ∉ [zv, tI, tO, p, q]) (k : ∀ c o, c ≠ S → H c = some o → H' c = some o) (hS : ∀ ys, H S ≠ some (.tup ys)) :
    Zst (h.update S f) H' zv tI tO p q la lb i := by
  obtain ⟨m1, m2, m3, ⟨oO, mO⟩, m4⟩ := z
  have up : ∀ c o, c ∈ [zv, tI, tO, p, q] → h.get? c = some o → (h.update S f).get? c = some o := fun c o hc e => (Heap.get?_update_other _ _ (fun x : S = c => hn (by rw [x]; exact hc))).trans e
  refine ⟨up _ _ (by simp) m1, m2.at fun o e => up _ o (by simp) e, m3.at fun o e => up _ o (by simp) e, ⟨_, up _ _ (by simp) mO⟩, ?_⟩
  rcases m4 with ⟨a, x, y, b⟩ | ⟨T, g, ys, a, b⟩
  · exact .inl ⟨up _ _ (by simp) a, x, y, up _ _ (by simp) b⟩
  · exact .inr ⟨T, g, ys, up _ _ (by simp) a, k _ _ (fun e => hS ys (e ▸ b)) b⟩
end
end DL
set_option Elab.async false
set_option linter.all false
set_option maxRecDepth 100000
set_option maxHeartbeats 1000000
namespace DL
open PySem PySem.Spec PyProof.Rows
open L2 hiding St V
section
variable {X : Cx} {EX : EXP} {e e2 : Expr} {ms : MA} {gs : PL} {p p2 q pos : Pos}
end
end DL
set_option Elab.async false
set_option linter.all false
set_option maxRecDepth 100000
set_option maxHeartbeats 1000000
namespace DL
open PySem PySem.Spec PyProof.Rows
open L2 hiding St V
section
variable {prog : Program} {w : World} {A : Around} {E : Value → Shared → Prop} {s : Shared} {l : Addr} {its : List Value} {ns : List Int} {Q : Value → Shared → Prop}
end
end DL
set_option Elab.async false
set_option linter.all false
set_option maxRecDepth 100000
set_option maxHeartbeats 1000000
namespace DL
open PySem PySem.Spec PyProof.Rows
open L2 hiding St V
inductive TyE where
  | int | bool | str | list | tuple | dict
def nmT : TyE → String
  | .int => "int" | .bool => "bool" | .str => "str" | .list => "list" | .tuple => "tuple" | .dict => "dict"
def isT : TyE → D → Bool
  | .int, .int _ => true
  | .int, .bool _ => true
  | .bool, .bool _ => true
  | .str, .str _ => true
  | .list, .list _ => true
  | .tuple, .tuple _ => true
  | .dict, .dict _ => true
  | _, _ => false
theorem kit_D {K : KF} {H : Hp} {v : Vl} {d : D} (r : Rp H v d) : ∃ t : String, TyX K H v (.type t) ∧ ∀ T : TyE, kitB t (nmT T) = some (isT T d) := by
  cases r with
  | non => exact ⟨"NoneType", .base .non, fun T => by cases T <;> decide +kernel⟩
  | bl b => exact ⟨"bool", .base (.bl b), fun T => by cases T <;> (first | (show kitB "bool" "int" = some true; decide +kernel) | (show kitB "bool" "bool" = some true; decide +kernel) | (show kitB "bool" "str" = some false; decide +kernel) | (show kitB "bool" "list" = some false; decide +kernel) | (show kitB "bool" "tuple" = some false; decide +kernel) | (show kitB "bool" "dict" = some false; decide +kernel))⟩
  | int i => exact ⟨"int", .base (.int i), fun T => by cases T <;> (first | (show kitB "int" "int" = some true; decide +kernel) | (show kitB "int" "bool" = some false; decide +kernel) | (show kitB "int" "str" = some false; decide +kernel) | (show kitB "int" "list" = some false; decide +kernel) | (show kitB "int" "tuple" = some false; decide +kernel) | (show kitB "int" "dict" = some false; decide +kernel))⟩
  | str x => exact ⟨"str", .base (.str x), fun T => by cases T <;> (first | (show kitB "str" "int" = some false; decide +kernel) | (show kitB "str" "bool" = some false; decide +kernel) | (show kitB "str" "str" = some true; decide +kernel) | (show kitB "str" "list" = some false; decide +kernel) | (show kitB "str" "tuple" = some false; decide +kernel) | (show kitB "str" "dict" = some false; decide +kernel))⟩
  | lst h _ => exact ⟨"list", .base (.lst h), fun T => by cases T <;> (first | (show kitB "list" "int" = some false; decide +kernel) | (show kitB "list" "bool" = some false; decide +kernel) | (show kitB "list" "str" = some false; decide +kernel) | (show kitB "list" "list" = some true; decide +kernel) | (show kitB "list" "tuple" = some false; decide +kernel) | (show kitB "list" "dict" = some false; decide +kernel))⟩
  | tup h _ => exact ⟨"tuple", .base (.tup h), fun T => by cases T <;> (first | (show kitB "tuple" "int" = some false; decide +kernel) | (show kitB "tuple" "bool" = some false; decide +kernel) | (show kitB "tuple" "str" = some false; decide +kernel) | (show kitB "tuple" "list" = some false; decide +kernel) | (show kitB "tuple" "tuple" = some true; decide +kernel) | (show kitB "tuple" "dict" = some false; decide +kernel))⟩
  | dK h _ => exact ⟨"dict", .base (.dK h), fun T => by cases T <;> (first | (show kitB "dict" "int" = some false; decide +kernel) | (show kitB "dict" "bool" = some false; decide +kernel) | (show kitB "dict" "str" = some false; decide +kernel) | (show kitB "dict" "list" = some false; decide +kernel) | (show kitB "dict" "tuple" = some false; decide +kernel) | (show kitB "dict" "dict" = some true; decide +kernel))⟩
  | dT h _ => exact ⟨"dict", .base (.dT h), fun T => by cases T <;> (first | (show kitB "dict" "int" = some false; decide +kernel) | (show kitB "dict" "bool" = some false; decide +kernel) | (show kitB "dict" "str" = some false; decide +kernel) | (show kitB "dict" "list" = some false; decide +kernel) | (show kitB "dict" "tuple" = some false; decide +kernel) | (show kitB "dict" "dict" = some true; decide +kernel))⟩
def uIs (T : TyE) (d : D) : Option D := some (.bool (isT T d))
section
variable {X : Cx} {EX : EXP} {e : Expr} {g : P} {p p2 p3 pos tpos : Pos} {x y : Str} {kk : Nat}
theorem d_isi (T : TyE) (hg : Gl X "isinstance") (hm : X.mg "isinstance" = none) (hg2 : Gl X x) (hm2 : X.mg x = none) (hv : bootBuiltins x = some (.type (nmT T))) (he : PE X e (tX X.K EX (lift g)))
    (hn : x ≠ "__name__" := by decide) (hd : (x == ("__debug__" : Str)) = false := by decide)
    (n1 : starEach [e, .Name x p2] X.env = (false, eval e X.env) :: starEach [.Name x p2] X.env := by rfl) (n3 : (backTo pos (starEach [.Name x p2] X.env)).any (·.1) = false := by rfl) :
    PE X (.Call (.Name "isinstance" p) [e, .Name x p2] [] pos) (tX X.K EX (lift (pUn (uIs T) g))) := by
  rw [← lift_un]
  refine (pe_callB call_isi hg hm (by decide +kernel) (pa_cons he (pa_cons (pe_bltn (v := .ty (nmT T)) hg2 hm2 hv rfl hn hd) pa_nil) n1) (by decide) (by decide) n1 n3).imp fun σ H Q ⟨w, env, hw, s, pp⟩ => ?_
  subst hw
  refine tX_bind s pp fun dx vx w1 g1 s1 r1 p1 => ?_
  obtain ⟨d, hd, k⟩ := post_ret s1 p1
  cases hd
  obtain ⟨t, ty, hk⟩ := kit_D (K := X.K) (r1.mono s1.vh)
  exact ⟨vx, .ty (nmT T), .type t, .type (nmT T), isT T dx, rfl, .ty _, ty, kit_ty (hk T), k _ _ _ (Ext.refl s1.vh) (.bl _)⟩
end
end DL
set_option Elab.async false
set_option linter.all false
set_option maxRecDepth 100000
set_option maxHeartbeats 1000000
namespace L2
open PySem PySem.Spec PyProof.Rows
end L2
set_option Elab.async false
set_option linter.all false
set_option maxRecDepth 100000
set_option maxHeartbeats 1000000
namespace DL
open PySem PySem.Spec PyProof.Rows
open L2 hiding St V
section
variable {X : Cx} {EX : EXP}
end
end DL
set_option Elab.async false
set_option linter.all false
set_option maxRecDepth 100000
set_option maxHeartbeats 1000000
namespace DL
open PySem PySem.Spec PyProof.Rows
open L2 hiding St V
end DL
set_option Elab.async false
set_option linter.all false
set_option maxRecDepth 100000
set_option maxHeartbeats 1000000
namespace DL
open PySem PySem.Spec PyProof.Rows
open L2 hiding St V
def dIsNotB : D → D → Option D
  | .bool a, .bool b => some (.bool (!decide (a = b)))
  | _, _ => none
section
variable {X : Cx}
theorem op_isNotB : OpR X (compareOp .IsNot) (rD dIsNotB) := by
  intro pins s σ H x y v u Q I rx ry ⟨V, dx, dy, d, sb, hx, hy, hf, k⟩
  unfold dIsNotB at hf
  split at hf
  · cases hf
    cases hx
    cases hy
    exact op_notBl pins s σ H _ _ v u Q I rx ry ⟨_, _, rfl, rfl, k _ _ _ (Ext.refl sb) (.bl _)⟩
  · cases hf
end
theorem bo_dIsNotB : Bools dIsNotB := fun x y d h => by
  unfold dIsNotB at h; split at h <;> cases h; exact ⟨_, rfl⟩
section
variable {X : Cx}
variable {EX : EXP} {e : Expr} {m : M} {g : P} {p p2 q pos : Pos}
end
end DL
set_option Elab.async false
set_option linter.all false
set_option maxRecDepth 100000
set_option maxHeartbeats 1000000
namespace DL
open PySem PySem.Spec PyProof.Rows
open L2 hiding St V
def pairD : D → Option (Int × D)
  | .tuple [.int k, v] => some (k, v)
  | _ => none
def pairsD : List D → Option (List (Int × D))
  | [] => some []
  | d :: ds => (pairD d).bind fun p => (pairsD ds).map (p :: ·)
def foldP (acc : List (D × D)) (kvs : List (Int × D)) : List (D × D) := kvs.foldl (fun acc p => putD acc (.int p.1) p.2) acc
def cDictP : List D → Option D
  | [.list ds] => (pairsD ds).map fun kvs => .dict (foldP [] kvs)
  | _ => none
theorem pair_rp {V : Hp} {v : Vl} {d : D} {p : Int × D} (r : Rp V v d) (h : pairD d = some p) : ∃ a u, v = .ref a ∧ V a = some (.tup [.int p.1, u]) ∧ Rp V u p.2 := by
  unfold pairD at h
  split at h
  · cases h
    cases r with
    | tup ha rl =>
      cases rl with
      | cons r1 rl =>
        cases rl with
        | cons r2 rl =>
          cases rl
          cases r1
          exact ⟨_, _, rfl, ha, r2⟩
  · cases h
theorem pairs_rp {K : KF} {V H : Hp} (sb : Sub V H) : ∀ {vs : List Vl} {ds : List D} {kvs : List (Int × D)}, RpL V vs ds → pairsD ds = some kvs → ∃ (ps : List Addr) (kws : List (Key × Vl)), vs = ps.map L2.V.ref ∧ Paired (fun p kv => SqT K H p [L2.kV kv.1, kv.2]) ps kws ∧ ∀ {acc : List (Key × Vl)} {dc : List (D × D)}, RpK V acc dc → RpK V (mergeK acc kws) (foldP dc kvs)
  | _, _, _, .nil, h => by
    cases h
    exact ⟨[], [], rfl, .nil, fun r => r⟩
  | _, _, _, .cons r rs, h => by
    rename_i d ds
    unfold pairsD at h
    cases hp : pairD d with
    | none => rw [hp] at h; cases h
    | some p =>
      rw [hp, Option.bind_some] at h
      cases hps : pairsD ds with
      | none => rw [hps] at h; cases h
      | some kvs' =>
        rw [hps] at h
        cases h
        obtain ⟨a, u, rfl, ha, ru⟩ := pair_rp r hp
        obtain ⟨ps, kws, rfl, pp, f⟩ := pairs_rp (K := K) sb rs hps
        refine ⟨a :: ps, (.inl p.1, u) :: kws, rfl, .cons (SqT.of (sb _ _ ha)) pp, fun {acc dc} q => ?_⟩
        exact f (RpK.put (k := .inl p.1) ru q)
theorem b_dictP {X : Cx} (hc : X.calm = true) : CallR X (.type "dict") (cD cDictP) := by
  intro pins s σ H xs us Q I rs ⟨V, ds, d, sb, r, hf, k⟩
  unfold cDictP at hf
  split at hf
  · rename_i es
    cases hp : pairsD es with
    | none => rw [hp] at hf; cases hf
    | some kvs =>
      rw [hp] at hf
      cases hf
      obtain ⟨v, rfl, rv⟩ := r.one
      cases rv with
      | lst ha rl =>
        obtain ⟨ps, kws, rfl, pp, f⟩ := pairs_rp (K := X.K) sb rl hp
        refine call_dictP hc pins s σ H _ us Q I rs ⟨_, ps, kws, rfl, SqL.of (sb _ _ ha), pp, fun p hp => ?_⟩
        have x := Ext.new (o := .dK (mergeK [] kws)) sb hp
        exact k _ _ _ x (.dK upd_same ((f .nil).mono x.v))
  · cases hf
theorem RpL.atI {V : Hp} : ∀ {ys : List Vl} {ds : List D} {k : Nat} {d : D}, RpL V ys ds → ds[k]? = some d → ∃ y, ys[k]? = some y ∧ Rp V y d
  | _, _, _, _, .nil, h => by cases h
  | _, _, 0, _, .cons r _, h => by
    cases h
    exact ⟨_, rfl, r⟩
  | _, _, k + 1, _, .cons _ rs, h => by
    rw [List.getElem?_cons_succ] at h ⊢
    exact RpL.atI rs h
theorem RpL.erase {V : Hp} : ∀ {ys : List Vl} {ds : List D} (k : Nat), RpL V ys ds → RpL V (ys.eraseIdx k) (ds.eraseIdx k)
  | _, _, _, .nil => .nil
  | _, _, 0, .cons _ rs => rs
  | _, _, k + 1, .cons r rs => .cons r (RpL.erase k rs)
end DL
set_option Elab.async false
set_option linter.all false
set_option maxRecDepth 100000
set_option maxHeartbeats 1000000
namespace DL
open PySem PySem.Spec PyProof.Rows
open L2 hiding St V
section
variable {X : Cx} {EX : EXP}
end
end DL
set_option Elab.async false
set_option linter.all false
set_option maxRecDepth 100000
set_option maxHeartbeats 1000000
namespace DL
open PySem PySem.Spec PyProof.Rows
open L2 hiding St V
section
variable {prog : Program} {w : World} {A : Around} {E : Value → Shared → Prop} {s : Shared}
end
section
variable {X : Cx} {EX : EXP}
variable {e : Expr} {m : M} {g : P}
end
end DL
set_option Elab.async false
set_option linter.all false
set_option maxRecDepth 100000
set_option maxHeartbeats 1000000
namespace DL
open PySem PySem.Spec PyProof.Rows
open L2 hiding St V
section
variable {P : Program} {w : World} {K : KF} {mg : Str → Option Value} {base : Heap}
end
end DL
set_option Elab.async false
set_option linter.all false
set_option maxRecDepth 100000
set_option maxHeartbeats 1000000
namespace DL
open PySem PySem.Spec PyProof.Rows
open L2 hiding St V
section
variable {prog : Program} {w : World} {A : Around} {E : Value → Shared → Prop} {s : Shared}
end
end DL
set_option Elab.async false
set_option linter.all false
set_option maxRecDepth 100000
set_option maxHeartbeats 1000000
namespace DL
open PySem PySem.Spec PyProof.Rows
open L2 hiding St V
end DL
set_option Elab.async false
set_option linter.all false
set_option maxRecDepth 100000
set_option maxHeartbeats 1000000
namespace DL
open PySem PySem.Spec PyProof.Rows
open L2 hiding St V
section
variable {X : Cx}
def rGet1 : Vl → List Vl → Hp → VK → Prop := fun x xs H Q => ∃ a kvs k, x = .ref a ∧ xs = [kV k] ∧ H a = some (.dK kvs) ∧ (∀ v, valV kvs k = some v → Q v H) ∧ (valV kvs k = none → Q .non H)
theorem mt_get1 : MtR X "dict.get" rGet1 := by
  intro pins s σ H x xs v us Q I rx rxs ⟨a, kvs, k, e1, e2, ha, q1, q2⟩
  subst e1 e2
  cases rx
  cases rxs with
  | cons rk r =>
    cases r
    obtain ⟨z, hd, vs, rel, dd⟩ := dk_of I.hok ha
    refine call_meetsIn PySem.F.slot_dict_get dd.typeIs PySem.F.entry_dict_get (PySem.F.args_dict_get_2 _ _) (meets_dict_get (mixKind X.prog X.w) a (kV_is rk) hd) ⟨_, dd.mapOf, ?_⟩
    cases l : valV kvs k with
    | none =>
      have hn : valueAt vs k = none := RelO.none_of (by rw [← l]; exact rel.val k)
      rw [hn]
      exact ⟨.non, H, I.tok _, rfl, q2 l⟩
    | some v =>
      obtain ⟨w', hw, rw'⟩ := RelO.some_of (v := v) (o := valueAt vs k) (by rw [← l]; exact rel.val k)
      rw [hw]
      exact ⟨v, H, I.tok _, rw', q1 v l⟩
end
def fGet1 : D → List D → Option D
  | x, [k] => fGetD x [k, .none]
  | _, _ => none
theorem fGet1_inv {x : D} {as : List D} {r : D} (h : fGet1 x as = some r) : ∃ kvs k j, x = .dict kvs ∧ as = [k] ∧ k = kD j ∧ noT kvs = true ∧ r = (lookD kvs k).getD .none := by
  unfold fGet1 at h
  split at h
  · obtain ⟨kvs, k, d, j, rfl, e, rfl, hn, rfl⟩ := fGetD_inv h
    cases e
    exact ⟨_, _, j, rfl, rfl, rfl, hn, rfl⟩
  · cases h
theorem d_dget1 {X : Cx} {EX : EXP} {e : Expr} {g : P} {gs : PL} (h : PE X e (tBM X.K "dict" rGet1 (tX X.K EX (lift g)) (tXA X.K EX (liftA gs)))) : PE X e (tX X.K EX (lift (pMeth fGet1 g gs))) := h.imp fun σ H Q ⟨w, env, hw, s, p⟩ => by
  subst hw
  obtain ⟨r, hd, kk⟩ := post_lift s p
  clear kk
  unfold lift at p
  rw [hd] at p
  unfold pMeth at hd
  refine ⟨w, env, rfl, s, ?_⟩
  unfold lift
  cases h1 : g env w.bx with
  | none => rw [h1] at hd; cases hd
  | some o =>
    rw [h1] at hd
    cases h2 : gs env w.bx with
    | none => rw [Option.bind_some, h2] at hd; cases hd
    | some as =>
      rw [Option.bind_some, h2] at hd
      obtain ⟨kvs, k, j, rfl, rfl, rfl, hn, rfl⟩ := fGet1_inv hd
      intro v w1 hb1 g1 s1 r1
      obtain ⟨a, rfl, dl⟩ := r1.dict
      rcases dl with ⟨xs, hx, rk⟩ | ⟨xs, es, hx, rfl, _⟩
      · refine ⟨.inr (.inr (.inl ⟨rfl, .inl ⟨_, s1.vh _ _ hx⟩⟩)), w1, env, rfl, s1, ?_⟩
        unfold liftA
        rw [hb1, h2]
        intro vs w2 hb2 g2 s2 r2
        cases r2 with
        | cons ry r2 =>
          cases r2
          obtain rfl := Rp.kD ry
          have hx2 : w2.H a = some (.dK xs) := s2.vh _ _ (g2.v _ _ hx)
          refine ⟨a, xs, j, rfl, rfl, hx2, fun v' l => ?_, fun l => ?_⟩
          · rcases rk.val (k := j) with ⟨l1, _⟩ | ⟨v2, d2, l1, l2, r⟩
            · rw [l1] at l; cases l
            · rw [l1] at l; cases l
              rw [l2] at p
              exact p _ w2 hb2 (g1.trans g2) s2 (Rp.mono g2.v r)
          · rcases rk.val (k := j) with ⟨_, l2⟩ | ⟨v2, d2, l1, _, _⟩
            · rw [l2] at p
              exact p _ w2 hb2 (g1.trans g2) s2 .non
            · rw [l1] at l; cases l
      · cases hn
end DL
set_option Elab.async false
set_option linter.all false
set_option maxRecDepth 100000
set_option maxHeartbeats 1000000
namespace DL
open PySem PySem.Spec PyProof.Rows
open L2
theorem d_dictSetT {X : Cx} {pins : List (Addr × Obj)} {σ : L2.St} {H : Hp} {s : Shared} {E : Value → Shared → Prop} {D b : Addr} {kvs : List (List Key × L2.V)} {k : List Key} {v : L2.V} {u r : Value} {Q : Unit → Shared → Prop} (hu : X.A.units + 1 < cLine) (I : Inv X pins σ H s) (hD : H D = some (.dT kvs)) (hz : kvs.length < sizeLine)
    (eb : H b = some (.tup (k.map kV))) (ry : RelV (.ref b) u) (rv : RelV v r) (h : ∀ s', Inv X pins σ (upd H D (.dT (putK kvs k v))) s' → Q () s') : wpAny (model X.prog X.w) X.A (dictSet D u r) Q E s := by
  cases (show u = Value.ref b from ry)
  obtain ⟨z, hd, xs, rel, dd⟩ := dt_of I.hok hD
  have hzx : xs.length ≤ sizeLine := by rw [← Paired.length rel]; exact z
  have hl : (putK kvs k v).length ≤ sizeLine := by have := length_putK kvs k v; omega
  refine wpAny_dictSet_heap (hsz := hzx) (show (tupleKind (mixKind X.prog X.w)).room X.A from Nat.lt_of_succ_lt hu) (key_of I.hok eb) dd fun h' dd' hs => h _ ?_
  obtain ⟨q, es, ep, hq, h2, h3, h4, _, h5⟩ := dd'
  have keepT : ∀ c ys, H c = some (.tup ys) → upd H D (.dT (putK kvs k v)) c = some (.tup ys) := fun c ys ec => by
    rw [upd_ne (ne_of ec hD (fun z => nomatch z))]
    exact ec
  exact d_write I (by rw [hD]; exact True.intro) hs ⟨q, hq⟩ ⟨hl, hd, _, (rel.put k eb rv).keeps keepT, q, es, ep, hq, h2, h3, h4, h5⟩
section
variable {X : Cx}
abbrev StoreR := Addr → Hp → L2.V → L2.V → Hp → Prop
def StoreOk (X : Cx) (SR : StoreR) : Prop := ∀ (s3 : Shared) (H3 : Hp) (scope : Scope) (ce : PySem.Env) (fp : List Addr) (pins : List (Addr × Obj)) (σ : L2.St) (D : Addr) (H H' : Hp) (s : Shared) (y z : L2.V) (u r : Value) (Q : Unit → Shared → Prop) (E : Value → Shared → Prop),
  Inv (X.blk s3 H3 scope ce fp) pins σ H s → SR D H y z H' → RelV y u → RelV z r → (∀ s', Inv (X.blk s3 H3 scope ce fp) pins σ H' s' → Q () s') → wpAny (model X.prog X.w) X.A (dictSet D u r) Q E s
def tDcG (o0 : HO) (SR : StoreR) (wi : TI) (g : TG) (tt : TT) (tk tv : TE) (vs : List Nat) : TE := fun σ H Q => wi σ H fun J H1 => ∀ D, H1 D = none → ∃ W : Nat → Nat → Hp → Prop, (∃ m, W 0 m (upd H1 D o0)) ∧ ∀ i m H, W i m H →
  (J.stop i H ∧ Q (.ref D) H) ∨ (J.go i H ∧ ∃ Nx : Hp → Prop, (∀ H', Nx H' → ∃ m', m' < m ∧ W (i + 1) m' H') ∧ ∀ x H', J.yld i H x H' → g x (wipe σ vs) H' fun σ2 H2 => wipe σ2 vs = wipe σ vs ∧ tt σ2 H2 fun b H3 =>
    if b = true then tk σ2 H3 fun y H4 => tv σ2 H4 fun z H5 => ∃ H6, SR D H5 y z H6 ∧ Nx H6 else Nx H3)
theorem blk_out {pins : List (Addr × Obj)} {σ σ' : L2.St} {H3 H5 : Hp} {s3 s6 : Shared} {scope : Scope} {ce : PySem.Env} {fp : List Addr} (I3 : Inv X pins σ H3 s3) (f3 : ∀ b ∈ fp, FpOk X pins H3 b) (cL : ce.locals = s3.heap.objs.size) (I6 : Inv (X.blk s3 H3 scope ce fp) [] σ' H5 s6) :
    Inv X pins σ H5 s6 ∧ (∃ m, s6.heap.Ns s3.heap.objs.size m) ∧ FpOk X pins H5 s3.heap.objs.size := by
  have free : H5 s3.heap.objs.size = none := by
    have z : H5 ce.locals = none := I6.free
    rwa [cL] at z
  refine ⟨I3.call' (ch := fp) I6.os I6.base I6.hok I6.bare fun b hb => ?_, ?_, I3.fpOk (Nat.le_refl _) free⟩
  · have z := (f3 b hb).2
    exact ⟨z.2.2.1, z.1, z.2.2.2.1, z.2.2.2.2⟩
  · obtain ⟨m, hn, _⟩ := I6.loc
    have hn : s6.heap.Ns ce.locals m := hn
    rw [cL] at hn
    exact ⟨m, hn⟩
theorem blk_turn {Y : Cx} {σ1 σ8 : L2.St} {vs : List Nat} {H' : Hp} {s' : Shared} {fp : List Addr} {g : Heap} (I' : Inv Y ([] ++ pinsAt fp g) σ8 H' s') (hw : wipe σ8 vs = σ1) :
    Inv Y [] σ1 H' s' ∧ ∀ b ∈ fp, ∀ o, g.get? b = some o → s'.heap.get? b = some o ∧ H' b = none := by
  refine ⟨(I'.unpinned (pins := [])).weak (by rw [← hw, wipe_length]) fun j v e => ?_, fun b hb o e => ?_⟩
  · rw [← hw] at e
    exact (wipe_some e).1
  · have z := I'.pin (b, o) (List.mem_append_right _ (List.mem_append_right _ (mem_pinsAt hb e)))
    exact ⟨z.1, z.2.1⟩
theorem dcG_core {o0 : HO} {SR : StoreR} {pins : List (Addr × Obj)} {s : Shared} {σ : L2.St} {H : Hp} {Q : VK} {kx vx tg iter : Expr} {ifs : List Expr} {scope : Scope} {own : List (Str × Nat)} {pos pos' : Pos} {wi : TI} {g : TG} {tt : TT} {tk tv : TE} {Qf : Value → Shared → Prop}
    (hc : X.calm = true) (h0 : ∀ (H : Hp) (h : Heap), sysModules < h.objs.size → ObjOk X.prog X.w H (h.push { cls := .type "dict", data := .dict #[] }) h.objs.size o0) (hst : StoreOk X SR) (hN : X.N.Nodup) (I : Inv X pins σ H s) (hi : PI X tg iter wi) (ok : BlkOk X.N X.env.scope scope own)
    (hg : ∀ (s : Shared) (H : Hp) (C : Addr) (cl : List (Str × Addr)) (fp : List Addr), PG (X.blk s H scope (compEnvC scope cl C X.env) fp) tg g) (ht : ∀ (s : Shared) (H : Hp) (C : Addr) (cl : List (Str × Addr)) (fp : List Addr), PTs (X.blk s H scope (compEnvC scope cl C X.env) fp) ifs tt)
    (hk : ∀ (s : Shared) (H : Hp) (C : Addr) (cl : List (Str × Addr)) (fp : List Addr), PE (X.blk s H scope (compEnvC scope cl C X.env) fp) kx tk)
    (he : ∀ (s : Shared) (H : Hp) (C : Addr) (cl : List (Str × Addr)) (fp : List Addr), PE (X.blk s H scope (compEnvC scope cl C X.env) fp) vx tv) (hs : ∀ x, foldedSetIterable iter X.env x = pure x)
    (h : tDcG o0 SR wi g tt tk tv (own.map (·.2)) σ H Q)
    (fin : ∀ D C s' m H', Inv X pins σ H' s' → Q (.ref D) H' → s'.heap.Ns C m → FpOk X pins H' C → compPost (model X.prog X.w) X.A X.xe none Qf (.ref D) C (.ok .next) s') :
    wpAny (model X.prog X.w) X.A (comprehension (.DictComp kx vx [⟨tg, iter, ifs, 0⟩] scope pos) scope X.env pos' newDict false (eval iter X.env) none) Qf X.xe s := by
  have cells : ∀ y ∈ scope.names, y.2 = .free → ∃ c, X.env.cells.lookup y.1 = some c := fun y hy e => I.ok.has _ ((ok.free y hy e).elim .inl .inr)
  refine wpAny_comprehension_free (use := none) rfl hs (closure_ok cells) ok.kind (fun y hy e => by rw [ok.uniq y hy, e]) (thn (hi.run pins s σ H _ I h) fun xv s1 hx => thn hx fun itv s2 h2 => ?_)
  obtain ⟨it, fp, tn, J, H2, e, I2, T, st2, f2, q⟩ := h2
  subst e
  refine wpAny_newObj_type (newEnv_comp ?_)
  obtain ⟨W, ⟨m0, w0⟩, turn⟩ := q s2.heap.objs.size (I2.hok.fresh (Nat.le_refl _))
  generalize hs3 : ({ s2 with heap := s2.heap.push { cls := .type "dict", data := .dict #[] } } : Shared) = s3
  have h3 : s3.heap = s2.heap.push { cls := .type "dict", data := .dict #[] } := by rw [← hs3]
  generalize hD : s2.heap.objs.size = D at *
  have I3 : Inv X pins σ (upd H2 D o0) s3 := by
    rw [← hs3]
    refine I2.laid (t' := s2.toks) (fun b o e => Heap.get?_push_of_some _ e) (Nat.le_of_eq hD) ?_
    rw [← hD]
    exact h0 _ _ I2.big
  have low : ∀ b ∈ fp, b < s2.heap.objs.size := fun b hb => by
    obtain ⟨o, e, _⟩ := T.obj _ _ st2 b hb
    exact Heap.lt_size e
  have f3 : ∀ b ∈ fp, FpOk X pins (upd H2 D o0) b ∧ b < s3.heap.objs.size := fun b hb => by
    have hlt := low b hb
    refine ⟨⟨?_, (f2 b hb).2⟩, by rw [h3, Heap.size_push]; exact Nat.lt_succ_of_lt hlt⟩
    rw [upd_ne (by rw [← hD]; exact Nat.ne_of_lt hlt)]
    exact (f2 b hb).1
  have st3 : tn 0 s3.heap := T.keep _ _ _ st2 fun b _ o e => by rw [h3]; exact Heap.get?_push_of_some _ e
  have I4 := block_start I3 ok hN f3
  have st4 : tn 0 (pushCells (s3.heap.push { cls := .type "dict", data := .dict #[] }) scope.names) := T.keep _ _ _ st3 fun b _ o e => pushCells_keeps _ _ _ _ (Heap.get?_push_of_some _ e)
  let cl := cellsFrom (s3.heap.objs.size + 1) scope.names (cloFrom X.env.cells scope.names [])
  have pg := hg s3 (upd H2 D o0) s3.heap.objs.size cl fp
  have pt := ht s3 (upd H2 D o0) s3.heap.objs.size cl fp
  have pk := hk s3 (upd H2 D o0) s3.heap.objs.size cl fp
  have pe := he s3 (upd H2 D o0) s3.heap.objs.size cl fp
  show codeAny _ _ (.compStart (.DictComp kx vx [⟨tg, iter, ifs, 0⟩] scope pos) 0 (.ref it) (.ref D) (compEnvC scope cl s3.heap.objs.size X.env)) (compPost (model X.prog X.w) X.A X.xe none Qf (.ref D) s3.heap.objs.size) { s3 with heap := pushCells (s3.heap.push { cls := .type "dict", data := .dict #[] }) scope.names }
  have cL : (compEnvC scope cl s3.heap.objs.size X.env).locals = s3.heap.objs.size := rfl
  generalize hce : compEnvC scope cl s3.heap.objs.size X.env = ce at I4 pg pt pk pe cL ⊢
  generalize hH3 : upd H2 D o0 = H3 at I3 I4 pg pt pk pe w0 f3
  generalize hs4 : ({ s3 with heap := pushCells (s3.heap.push { cls := .type "dict", data := .dict #[] }) scope.names } : Shared) = s4 at I4 ⊢
  have st4 : tn 0 s4.heap := by rw [← hs4]; exact st4
  have stat : ∀ {σ' : L2.St} {H' : Hp} {s' : Shared}, Inv (X.blk s3 H3 scope ce fp) [] σ' H' s' → (∀ b ∈ fp, H' b = none) → ∀ b ∈ fp, FpOk (X.blk s3 H3 scope ce fp) [] H' b := fun {σ' H' s'} I' hn b hb =>
    ⟨hn b hb, (I'.ok.exf b hb).1, I'.ok.exfs b hb, .inl hb, fun x c e => (I'.ok.exf b hb).2 x c e, fun p hp => absurd (show p ∈ ([] : List (Addr × Obj)) ++ [] from hp) (by simp)⟩
  have loop : codeAny (model X.prog X.w) X.A (.compLoop (.DictComp kx vx [⟨tg, iter, ifs, 0⟩] scope pos) 0 (.ref it) (.ref D) ce) (compPost (model X.prog X.w) X.A X.xe none Qf (.ref D) s3.heap.objs.size) s4 := by
    refine compLoop_anyD (fun n s' => ∃ i H', Inv (X.blk s3 H3 scope ce fp) [] (wipe σ (own.map (·.2))) H' s' ∧ tn i s'.heap ∧ (∀ b ∈ fp, H' b = none) ∧ W i n H') ?_ m0 ⟨0, H3, I4, st4, fun b hb => (f3 b hb).1.1, w0⟩
    rintro n s5 ⟨i, H5, I5, st5, n5, w5⟩
    rcases turn i n H5 w5 with ⟨stop, qq⟩ | ⟨go, Nx, hNx, step⟩
    · refine thnF (T.done (X.blk s3 H3 scope ce fp) rfl rfl rfl hc i [] s5 _ H5 (fun _ _ => False) I5 (stat I5 n5) st5 stop) fun r s6 ⟨hr, I6⟩ => ?_
      subst hr
      obtain ⟨I7, ⟨m, hn⟩, ff⟩ := blk_out I3 (fun b hb => (f3 b hb).1) cL I6
      exact fin D s3.heap.objs.size s6 m H5 I7 qq hn ff
    · refine thnF (T.item (X.blk s3 H3 scope ce fp) rfl rfl rfl hc i [] s5 _ H5 (fun _ _ => False) I5 (stat I5 n5) st5 go) fun r s6 ⟨u, hr, h6⟩ => ?_
      subst hr
      refine thnF h6 fun _ s7 ⟨x, H7, I7, r7, y7, st7, n7⟩ => ?_
      refine thnF (pg.run _ s7 _ H7 x u _ (I7.pinned (stat I7 n7) (T.obj _ _ st7)) r7 (step x H7 y7)) fun _ s8 ⟨σ8, H8, I8, hw8, q8⟩ => ?_
      refine thnF (pt.run _ s8 σ8 H8 _ I8 q8) fun b s9 ⟨H9, I9, q9⟩ => ?_
      have next : ∀ {s' : Shared} {H' : Hp}, Inv (X.blk s3 H3 scope ce fp) ([] ++ pinsAt fp s7.heap) σ8 H' s' → Nx H' → ∃ m, m < n ∧ ∃ i H', Inv (X.blk s3 H3 scope ce fp) [] (wipe σ (own.map (·.2))) H' s' ∧ tn i s'.heap ∧ (∀ b ∈ fp, H' b = none) ∧ W i m H' := fun {s' H'} I' nx => by
        obtain ⟨m', hm, w'⟩ := hNx H' nx
        obtain ⟨J1, J2⟩ := blk_turn I' hw8
        refine ⟨m', hm, i + 1, H', J1, T.keep _ _ _ st7 fun b hb o e => (J2 b hb o e).1, fun b hb => ?_, w'⟩
        obtain ⟨o, e, _⟩ := T.obj _ _ st7 b hb
        exact (J2 b hb o e).2
      cases b with
      | false => exact next I9 (by simpa using q9)
      | true =>
        rw [if_pos rfl]
        rw [if_pos rfl] at q9
        refine thnF (pk.run _ s9 σ8 H9 _ I9 q9) fun z s10 ⟨yk, H10, I10, r10, q10⟩ => ?_
        refine thnF (pe.run _ s10 σ8 H10 _ I10 q10) fun z2 s11 ⟨yv, H11, I11, r11, H12, sr, nx⟩ => ?_
        exact hst s3 H3 scope ce fp _ _ D H11 H12 s11 yk yv z z2 _ _ I11 sr r10 r11 fun s12 I12 => next I12 nx
  exact codeAny_compStart_dict loop (T.self X.A 0 _ _ _ st4 loop)
end
end DL
set_option Elab.async false
set_option linter.all false
set_option maxRecDepth 100000
set_option maxHeartbeats 1000000
namespace DL
open PySem PySem.Spec PyProof.Rows
open L2 hiding St V
section
variable {X : Cx}
def srT : StoreR := fun D H y z H' => ∃ (kvs : List (List Key × L2.V)) (k : List Key) (kb : Addr), y = .ref kb ∧ H kb = some (.tup (k.map kV)) ∧ H D = some (.dT kvs) ∧ kvs.length < sizeLine ∧ H' = upd H D (.dT (putK kvs k z))
theorem srT_ok (hu : X.A.units + 1 < cLine) : StoreOk X srT := by
  intro s3 H3 scope ce fp pins σ D H H' s y z u r Q E I ⟨kvs, k, kb, e1, e2, e3, e4, e5⟩ ry rz h
  subst e1 e5
  exact d_dictSetT (X := X.blk s3 H3 scope ce fp) hu I e3 e4 e2 ry rz h
theorem pe_dcT {kx vx tg iter : Expr} {ifs : List Expr} {scope : Scope} {own : List (Str × Nat)} {pos : Pos} {wi : TI} {g : TG} {tt : TT} {tk tv : TE} (hc : X.calm = true) (hu : X.A.units + 1 < cLine) (hN : X.N.Nodup) (hi : PI X tg iter wi) (ok : BlkOk X.N X.env.scope scope own)
    (hg : ∀ (s : Shared) (H : Hp) (C : Addr) (cl : List (Str × Addr)) (fp : List Addr), PG (X.blk s H scope (compEnvC scope cl C X.env) fp) tg g) (ht : ∀ (s : Shared) (H : Hp) (C : Addr) (cl : List (Str × Addr)) (fp : List Addr), PTs (X.blk s H scope (compEnvC scope cl C X.env) fp) ifs tt)
    (hk : ∀ (s : Shared) (H : Hp) (C : Addr) (cl : List (Str × Addr)) (fp : List Addr), PE (X.blk s H scope (compEnvC scope cl C X.env) fp) kx tk)
    (he : ∀ (s : Shared) (H : Hp) (C : Addr) (cl : List (Str × Addr)) (fp : List Addr), PE (X.blk s H scope (compEnvC scope cl C X.env) fp) vx tv) (hs : ∀ x, foldedSetIterable iter X.env x = pure x := by intro _; rfl) :
    PE X (.DictComp kx vx [⟨tg, iter, ifs, 0⟩] scope pos) (tDcG (.dT []) srT wi g tt tk tv (own.map (·.2))) := by
  refine ⟨fun pins s σ H Q I h => ?_⟩
  rw [arm_eval_DictComp]
  refine dcG_core hc (fun H h hb => dt_empty h hb) (srT_ok hu) hN I hi ok hg ht hk he hs h fun D C s' m H' I' q hn f => ⟨m, hn, fun h'' sb => ?_⟩
  obtain ⟨f0, f1, _, f3, f4, f5⟩ := f
  exact ⟨.ref D, H', I'.turned (t' := s'.toks) (fun b o hb e => (sb.2 b hb).trans e) f0 f1 f3 f4 f5, rfl, q⟩
end
def compT (f : Tg) (mc mk me : M) (env : Env) : List D → Bx → List (D × D) → Option (List (D × D) × Bx)
  | [], b, acc => some (acc, b)
  | d :: ds, b, acc => match f d env with
    | none => none
    | some env1 => match mc env1 b with
      | some (.ok t, b) => match truthD t with
        | some true => match mk env1 b with
          | some (.ok kx, b) => match me env1 b with
            | some (.ok y, b) => match keyG kx with
              | some (.inr _) => compT f mc mk me env ds b (putD acc kx y)
              | _ => none
            | _ => none
          | _ => none
        | some false => compT f mc mk me env ds b acc
        | none => none
      | _ => none
def mCompT (mi : MA) (vs : List Nat) (f : Tg) (mc mk me : M) : M := fun env b =>
  match mi env b with
  | none => none
  | some (.exc c d, b) => some (.exc c d, b)
  | some (.ok ds, b) => (compT f mc mk me (wipeE env vs) ds b []).map fun r => (.ok (.dict ((.none, .none) :: r.1)), r.2)
def compTP (f : Tg) (pc pk pe : P) (env : Env) (b : Bx) : List D → List (D × D) → Option (List (D × D))
  | [], acc => some acc
  | d :: ds, acc => (f d env).bind fun env1 => (pc env1 b).bind fun t => (truthD t).bind fun
    | true => (pk env1 b).bind fun kx => (pe env1 b).bind fun y => (match keyG kx with | some (.inr _) => some () | _ => none).bind fun _ => compTP f pc pk pe env b ds (putD acc kx y)
    | false => compTP f pc pk pe env b ds acc
def pCompT (pi : PL) (vs : List Nat) (f : Tg) (pc pk pe : P) : P := fun env b => (pi env b).bind fun ds => (compTP f pc pk pe (wipeE env vs) b ds []).map fun r => .dict ((.none, .none) :: r)
theorem lift_compTL (f : Tg) (pc pk pe : P) (env : Env) : ∀ (ds : List D) (b : Bx) (acc : List (D × D)), compT f (lift pc) (lift pk) (lift pe) env ds b acc = (compTP f pc pk pe env b ds acc).map fun r => (r, b)
  | [], b, acc => rfl
  | d :: ds, b, acc => by
    have ih := fun acc => lift_compTL f pc pk pe env ds b acc
    unfold lift at ih
    unfold compT compTP lift
    cases f d env with
    | none => rfl
    | some env1 =>
      simp only [Option.bind_some]
      cases pc env1 b with
      | none => rfl
      | some t =>
        simp only [Option.map_some, Option.bind_some]
        cases truthD t with
        | none => rfl
        | some k =>
          cases k with
          | true =>
            simp only [Option.bind_some]
            cases pk env1 b with
            | none => rfl
            | some kx =>
              simp only [Option.map_some, Option.bind_some]
              cases pe env1 b with
              | none => rfl
              | some y =>
                simp only [Option.map_some, Option.bind_some]
                cases keyG kx with
                | none => rfl
                | some kk =>
                  cases kk with
                  | inl k => rfl
                  | inr k => simp only [Option.bind_some]; exact ih _
          | false => simp only [Option.bind_some]; exact ih _
theorem lift_compT (pi : PL) (vs : List Nat) (f : Tg) (pc pk pe : P) : mCompT (liftA pi) vs f (lift pc) (lift pk) (lift pe) = lift (pCompT pi vs f pc pk pe) := by
  funext env b
  show mCompT (liftA pi) vs f (lift pc) (lift pk) (lift pe) env b = (((pi env b).bind fun ds => (compTP f pc pk pe (wipeE env vs) b ds []).map fun r => PyData.dict ((.none, .none) :: r))).map fun d => (Res.ok d, b)
  unfold mCompT liftA
  cases h0 : pi env b with
  | none => rfl
  | some ds =>
    simp only [Option.map_some, Option.bind_some]
    rw [lift_compTL]
    cases compTP f pc pk pe (wipeE env vs) b ds [] <;> rfl
section
variable {X : Cx} {EX : EXP} {e : Expr}
theorem dcT_of {mi : MA} {vs : List Nat} {f : Tg} {mc mk me : M} {K : KF} {σ : St} {H : Hp} {Q : VK} (h : tXO K EX (mCompT mi vs f mc mk me) σ H Q) :
    tDcG (.dT []) srT (tXI K EX mi) (tXG K f vs) (tXT K XF mc) (tX K XF mk) (tX K XF me) vs σ H Q := by
  obtain ⟨w, env, hw, sr, p⟩ := h
  subst hw
  refine ⟨w, env, rfl, sr, ?_⟩
  unfold mCompT at p
  cases hm : mi env w.bx with
  | none => rw [hm] at p; exact p.elim
  | some q =>
    obtain ⟨r, b⟩ := q
    rw [hm] at p
    cases r with
    | exc c d => exact p
    | ok ds =>
      intro J w1 hb g1 s1 hz hW
      subst hb
      intro D hD
      dsimp only at p
      have hV1 : w1.V D = none := by
        cases e : w1.V D with
        | none => rfl
        | some u => rw [s1.vh _ _ e] at hD; cases hD
      have h0 : w.H D = none := by
        cases e : w.H D with
        | none => rfl
        | some u => exact absurd hD (g1.hk D (by rw [e]; simp))
      cases hc : compT f mc mk me (wipeE env vs) ds w1.bx [] with
      | none => rw [hc] at p; exact p.elim
      | some q =>
        obtain ⟨r, bx'⟩ := q
        rw [hc] at p
        have hnW1 : ¬ w1.W D := fun ⟨k, d, z1, z2⟩ => s1.as_some z1 hD
        have hnA1 : ∀ k : Nat, w1.as[k]? ≠ some D := fun k z => s1.as_some z hD
        refine ⟨fun i m H => i + m = ds.length ∧ ∃ w2 acc rs, w2.H = H ∧ StR K σ env w2 ∧ Gr w1 w2 ∧ H D = some (.dT acc) ∧ w2.V D = none ∧ ¬ w2.W D ∧ (∀ k : Nat, w2.as[k]? ≠ some D) ∧ RpT w2.V acc rs ∧
            acc.length ≤ i ∧ compT f mc mk me (wipeE env vs) (ds.drop i) w2.bx rs = some (r, bx'),
          ⟨ds.length, by omega, { w1 with H := upd w1.H D (.dT []) }, [], [], rfl, s1.hid hV1 hnA1, (Gr.refl w1).hid hD, upd_same, hV1, hnW1, hnA1, .nil, Nat.zero_le _, by rw [List.drop_zero]; exact hc⟩, ?_⟩
        intro i m H2 ⟨hi, w2, acc, rs, hw2, s2, g2, hacc, hv2, hnW2, hnA2, rl, hal, hcc⟩
        subst hw2
        have hW2 := hW.mono g2.v
        cases m with
        | zero =>
          have e : i = ds.length := by omega
          subst e
          refine .inl ⟨hW2.stop w2.V w2.H (Sub.refl _) s2.vh, ?_⟩
          rw [List.drop_length] at hcc
          cases hcc
          exact p D w2 rfl (g1.trans g2) s2 h0 hv2 (.inr ⟨acc, _, hacc, rfl, rl⟩) hnA2
        | succ m =>
          have hlt : i < ds.length := by omega
          refine .inr ⟨hW2.go i w2.V w2.H (Sub.refl _) s2.vh hlt, fun H' => i + 1 + m = ds.length ∧ ∃ w3 acc rs, w3.H = H' ∧ StR K σ env w3 ∧ Gr w1 w3 ∧ H' D = some (.dT acc) ∧ w3.V D = none ∧ ¬ w3.W D ∧ (∀ k : Nat, w3.as[k]? ≠ some D) ∧ RpT w3.V acc rs ∧
            acc.length ≤ i + 1 ∧ compT f mc mk me (wipeE env vs) (ds.drop (i + 1)) w3.bx rs = some (r, bx'), fun H' hN => ⟨m, by omega, hN⟩, fun x H' hy => ?_⟩
          obtain ⟨V3, x3, rx⟩ := hW2.yld i w2.V w2.H x H' ds[i] (Sub.refl _) s2.vh (List.getElem?_eq_getElem hlt) hy
          rw [List.drop_eq_getElem_cons hlt] at hcc
          have s3 : StR K (wipe σ vs) (wipeE env vs) (w2.to V3 H') := (s2.ext' x3).wipe vs
          have hD2 : w2.H D ≠ none := by rw [hacc]; simp
          have gx : Gr w2 (w2.to V3 H') := x3.gr
          -- what stays of the new list behind an evaluation
          have keep : ∀ {w' : Wd}, Gr w2 w' → w'.H D = some (.dT acc) ∧ w'.V D = none ∧ ¬ w'.W D ∧ (∀ k : Nat, w'.as[k]? ≠ some D) ∧ RpT w'.V acc rs := fun {w'} g =>
            ⟨g.hn D _ hacc hnW2, (g.vn D (NT.of hacc fun q z => by cases q <;> cases z) hnW2).trans hv2, fun z => (g.w D z).elim hnW2 hD2, fun k z => (g.asn k D z).elim (hnA2 k) hD2, rl.mono g.v⟩
          refine ⟨w2.to V3 H', wipeE env vs, ds[i], rfl, s3, rx, ?_⟩
          unfold compT at hcc
          cases hf : f ds[i] (wipeE env vs) with
          | none => simp only [hf] at hcc; cases hcc
          | some env3 =>
            simp only [hf] at hcc
            intro σ3 st3 ko kl
            refine ⟨?_, ?_⟩
            · have e1 : wipe σ3 vs = wipe (wipe σ vs) vs := wipe_ext kl ko
              have e2 : wipe (wipe σ vs) vs = wipe σ vs := wipe_ext (wipe_length _ _) fun j hj => wipe_at hj
              rw [e1, e2]
            refine ⟨w2.to V3 H', env3, rfl, st3, ?_⟩
            show PostT K XF _ σ3 env3 (w2.to V3 H') (mc env3 w2.bx)
            cases hmc : mc env3 w2.bx with
            | none => rw [hmc] at hcc; cases hcc
            | some z =>
              obtain ⟨rt, b4⟩ := z
              rw [hmc] at hcc
              cases rt with
              | exc c d => cases hcc
              | ok t =>
                dsimp only at hcc
                cases ht : truthD t with
                | none => rw [ht] at hcc; cases hcc
                | some k =>
                  rw [ht] at hcc
                  refine ⟨k, ht, fun w4 hb4 g4 s4 => ?_⟩
                  subst hb4
                  have g24 : Gr w2 w4 := gx.trans g4
                  cases k with
                  | false =>
                    rw [if_neg Bool.false_ne_true]
                    obtain ⟨k1, k2, k3, k4, k5⟩ := keep g24
                    exact ⟨by omega, w4, acc, rs, rfl, s2.carry s4 g24, g2.trans g24, k1, k2, k3, k4, k5, by omega, hcc⟩
                  | true =>
                    rw [if_pos rfl]
                    refine ⟨w4, env3, rfl, s4, ?_⟩
                    dsimp only at hcc
                    cases hmk : mk env3 w4.bx with
                    | none => rw [hmk] at hcc; cases hcc
                    | some z =>
                      obtain ⟨rk, b5⟩ := z
                      rw [hmk] at hcc
                      cases rk with
                      | exc c d => cases hcc
                      | ok kd =>
                        intro vk w5 hb5 g5 s5 r5
                        subst hb5
                        dsimp only at hcc
                        refine ⟨w5, env3, rfl, s5, ?_⟩
                        cases hme : me env3 w5.bx with
                        | none => rw [hme] at hcc; cases hcc
                        | some z =>
                          obtain ⟨ry, b6⟩ := z
                          rw [hme] at hcc
                          cases ry with
                          | exc c d => cases hcc
                          | ok y =>
                            intro v w6 hb6 g6 s6 r6
                            subst hb6
                            dsimp only at hcc
                            split at hcc
                            · rename_i kk hkk
                              have g26 : Gr w2 w6 := (g24.trans g5).trans g6
                              obtain ⟨k1, k2, k3, k4, k5⟩ := keep g26
                              have ek := keyG_inr hkk
                              subst ek
                              cases Rp.mono g6.v r5 with
                              | tup hb rb =>
                                have eb := rb.keysV
                                subst eb
                                have hD1 : w1.H D = none := hD
                                refine ⟨_, ⟨acc, kk, _, rfl, s6.vh _ _ hb, k1, Nat.lt_of_lt_of_le (Nat.lt_of_le_of_lt hal hlt) hz, rfl⟩, ?_⟩
                                refine ⟨by omega, { w6 with H := upd w6.H D (.dT (putK acc kk v)) }, putK acc kk v, putD rs (kT kk) y, rfl, (s2.carry s6 g26).hid k2 k4, (g2.trans g26).hid hD1, upd_same, k2, k3, k4, RpT.put r6 k5, ?_, hcc⟩
                                have := length_putK acc kk v
                                omega
                            · cases hcc
end
theorem x_dcT {X : Cx} {EX : EXP} {e : Expr} {mi : MA} {vs : List Nat} {f : Tg} {mc mk me : M} (h : PE X e (tDcG (.dT []) srT (tXI X.K EX mi) (tXG X.K f vs) (tXT X.K XF mc) (tX X.K XF mk) (tX X.K XF me) vs)) : PE X e (tX X.K EX (mCompT mi vs f mc mk me)) := x_ofO (h.imp fun _ _ _ q => dcT_of q)
theorem d_dcT {X : Cx} {EX : EXP} {e : Expr} {pi : PL} {vs : List Nat} {f : Tg} {pc pk pe : P} (h : PE X e (tDcG (.dT []) srT (tXI X.K EX (liftA pi)) (tXG X.K f vs) (tXT X.K XF (lift pc)) (tX X.K XF (lift pk)) (tX X.K XF (lift pe)) vs)) : PE X e (tX X.K EX (lift (pCompT pi vs f pc pk pe))) := by
  rw [← lift_compT]; exact x_dcT h
end DL
set_option Elab.async false
set_option linter.all false
set_option maxRecDepth 100000
set_option maxHeartbeats 1000000
namespace DL
open PySem PySem.Spec PyProof.Rows
open L2 hiding St V
def seeT (V H : Hp) (bs : List Addr) : Hp := fun a => match V a with
  | some o => some o
  | none => if a ∈ bs then H a else none
theorem seeT_ext {V H : Hp} {bs : List Addr} (sb : Sub V H) (h : ∀ b ∈ bs, ∃ xs, H b = some (.tup xs)) : Ext V H (seeT V H bs) H where
  v := fun a o e => by unfold seeT; rw [e]
  h := Sub.refl _
  vh := fun a o e => by
    unfold seeT at e
    cases q : V a with
    | some u => rw [q] at e; cases e; exact sb _ _ q
    | none =>
      rw [q] at e
      dsimp only at e
      split at e
      · exact e
      · cases e
  vn := fun a n => by
    unfold seeT
    cases q : V a with
    | some u => rfl
    | none =>
      dsimp only
      by_cases c : a ∈ bs
      · obtain ⟨xs, e⟩ := h a c
        exact absurd e (n.2 (.inl xs))
      · rw [if_neg c]
theorem seeT_at {V H : Hp} {bs : List Addr} (sb : Sub V H) {b : Addr} {o : HO} (hb : b ∈ bs) (e : H b = some o) : seeT V H bs b = some o := by
  unfold seeT
  cases q : V b with
  | some u => rw [sb _ _ q] at e; exact e
  | none => dsimp only; rw [if_pos hb]; exact e
theorem keys_rp {V : Hp} : ∀ ks : List Key, RpL V (ks.map kV) (ks.map kD)
  | [] => .nil
  | .inl i :: r => .cons (.int i) (keys_rp r)
  | .inr x :: r => .cons (.str x) (keys_rp r)
def cSortedT : List D → Option D
  | [.dict ((.none, _) :: r)] => (sortD (r.map (·.1))).map .list
  | ds => cSorted ds
theorem keysT_rp {V H W : Hp} (at' : ∀ b o, H b = some o → (∃ xs, o = .tup xs) → True) : ∀ {kvs : List (List Key × Vl)} {ks : List (List Key × Addr × Value)} {ds : List (D × D)}, KT H kvs ks → RpT V kvs ds →
    (∀ x ∈ ks, ∀ o, H x.2.1 = some o → W x.2.1 = some o) → RpL W ((ks.map fun x => x.2.1).map L2.V.ref) (ds.map (·.1))
  | [], _, _, r, t, _ => by cases r; cases t; exact .nil
  | p :: kvs, _, _, r, t, h => by
    cases r with
    | cons h1 r =>
      cases t with
      | cons t1 t =>
        exact .cons (.tup (h _ List.mem_cons_self _ h1.2.1) (keys_rp _)) (keysT_rp at' r t fun x hx => h x (List.mem_cons_of_mem _ hx))
theorem b_sortedT {X : Cx} (hu : X.A.units + 100 < cLine) (hh : X.A.handled = none) : CallR X (.builtin "sorted") (cD cSortedT) := by
  intro pins s σ H xs us Q I rs ⟨V, ds, d, sb, r, hf, k⟩
  unfold cSortedT at hf
  split at hf
  · rename_i x r'
    cases hso : sortD (r'.map (·.1)) with
    | none => rw [hso] at hf; cases hf
    | some zs =>
      rw [hso] at hf
      cases hf
      obtain ⟨v, rfl, rv⟩ := r.one
      obtain ⟨u, rfl, ru⟩ := vals1 rs
      refine sorted_via ?_
      cases rv with
      | dK ha ra => exact (ra.noT rfl).elim
      | dT ha ra =>
        cases ru
        obtain ⟨z, hs, ks, pr, o, es, ep, ho, hx, hdt, he, hn⟩ := (show ObjOk X.prog X.w H s.heap _ (.dT _) from I.hok _ _ (sb _ _ ha))
        have l1 : es.size = ks.length := size_of_entries he
        have l2 := Paired.length pr
        refine PySem.W.kdu_collect (kdl_raw hs hx hdt) (A := X.A.in1) hh ho (by omega) fun h' tk acc hk hacc => ?_
        have ea : acc.toList = (ks.map fun x => x.2.1).map Value.ref := by
          apply List.ext_getElem?
          intro j
          rw [List.getElem?_map, List.getElem?_map]
          have hl : acc.toList.length = ks.length := by rw [Array.length_toList, hacc.1]; exact l1
          cases hj : acc.toList[j]? with
          | none =>
            have h1 := List.getElem?_eq_none_iff.mp hj
            rw [List.getElem?_eq_none (by omega : ks.length ≤ j)]; rfl
          | some v =>
            obtain ⟨en, hen, hv⟩ := hacc.2 j v (by rw [← Array.getElem?_toList]; exact hj)
            have qe := entry_at he j
            rw [hen] at qe
            cases hb : ks[j]? with
            | none => rw [hb] at qe; cases qe
            | some b =>
              rw [hb] at qe
              have e2 := Option.some.inj qe
              rw [hv, e2]; rfl
        have rv : Vals ((ks.map fun x => x.2.1).map L2.V.ref) acc.toList := by rw [ea]; exact vals_refs _
        have tt : ∀ b ∈ ks.map (fun x => x.2.1), ∃ xs, H b = some (.tup xs) := by
          intro b hb
          obtain ⟨x, hx, rfl⟩ := List.mem_map.mp hb
          clear rv ea hacc
          have : ∀ {l : List (List Key × Vl)} {m : List (List Key × Addr × Value)}, KT H l m → ∀ x ∈ m, ∃ xs, H x.2.1 = some (.tup xs) := by
            intro l m q
            induction q with
            | nil => intro x hx; cases hx
            | cons h1 _ ih =>
              intro x hx
              rcases List.mem_cons.mp hx with rfl | hx
              · exact ⟨_, h1.2.1⟩
              · exact ih x hx
          exact this pr x hx
        have xt := seeT_ext sb tt
        have rd := keysT_rp (V := V) (H := H) (W := seeT V H (ks.map fun x => x.2.1)) (fun _ _ _ _ => trivial) pr ra fun x hx o e => seeT_at sb (List.mem_map_of_mem hx) e
        exact sort_end hu I xt.vh rfl hk rv rd hso fun v V' H' x r => k v V' H' (xt.trans x) r
  · exact b_sorted hu hh pins s σ H xs us Q I rs ⟨V, ds, d, sb, r, hf, k⟩
end DL
set_option Elab.async false
set_option linter.all false
set_option maxRecDepth 100000
set_option maxHeartbeats 1000000
namespace DL
open PySem PySem.Spec PyProof.Rows
open L2 hiding St V
def lookN (es : List (D × Nat)) (k : D) : Option Nat := (es.find? fun p => decide (keyG p.1 = keyG k)).map (·.2)
def putN (es : List (D × Nat)) (k : D) (n : Nat) : List (D × Nat) :=
  if (es.any fun p => decide (keyG p.1 = keyG k)) = true then es.map (fun p => if keyG p.1 = keyG k then (p.1, n) else p) else es ++ [(k, n)]
theorem RefL.length {as : List Addr} : ∀ {vs : List Vl} {ks : List (Nat ⊕ D)}, RefL as vs ks → vs.length = ks.length
  | [], [], _ => rfl
  | _ :: _, _ :: _, h => by rw [List.length_cons, List.length_cons, RefL.length h.2]
  | [], _ :: _, h => h.elim
  | _ :: _, [], h => h.elim
theorem RefL.get {as : List Addr} : ∀ {vs : List Vl} {ks : List (Nat ⊕ D)}, RefL as vs ks → ∀ (i : Nat) (n : Nat ⊕ D), ks[i]? = some n → ∃ v, vs[i]? = some v ∧ RefI as v n
  | [], [], _, i, n, e => by simp at e
  | v :: _, k :: _, h, 0, n, e => by
    simp at e
    subst e
    exact ⟨v, rfl, h.1⟩
  | v :: _, k :: _, h, i + 1, n, e => by
    obtain ⟨p, h1, h2⟩ := RefL.get h.2 i n (by simpa using e)
    exact ⟨p, by simpa using h1, h2⟩
  | [], _ :: _, h, _, _, _ => h.elim
  | _ :: _, [], h, _, _, _ => h.elim
theorem RefL.snoc {as : List Addr} {p : Addr} {n : Nat} (hp : as[n]? = some p) : ∀ {vs : List Vl} {ks : List (Nat ⊕ D)}, RefL as vs ks → RefL as (vs ++ [.ref p]) (ks ++ [.inl n])
  | [], [], _ => ⟨⟨p, hp, rfl⟩, trivial⟩
  | _ :: _, _ :: _, h => ⟨h.1, RefL.snoc hp h.2⟩
  | [], _ :: _, h => h.elim
  | _ :: _, [], h => h.elim
theorem RefL.at {as : List Addr} {vs : List Vl} {ks : List (Nat ⊕ D)} (r : RefL as vs ks) {i : Int} {n : Nat} (h : atI ks i = some (.inl n)) : ∃ p, atI vs i = some (.ref p) ∧ as[n]? = some p := by
  unfold atI at h ⊢
  rw [r.length]
  cases hx : ixN ks.length i with
  | none => rw [hx] at h; cases h
  | some j =>
    rw [hx] at h
    obtain ⟨v, h1, p, h2, rfl⟩ := r.get j _ h
    exact ⟨p, h1, h2⟩
theorem RefT.length {as : List Addr} : ∀ {vs : List (List Key × Vl)} {es : List (D × Nat)}, RefT as vs es → vs.length = es.length
  | [], [], _ => rfl
  | (_, _) :: _, (_, _) :: _, h => by rw [List.length_cons, List.length_cons, RefT.length h.2.2]
  | [], _ :: _, h => h.elim
  | _ :: _, [], h => h.elim
theorem RefT.val {as : List Addr} {k : List Key} : ∀ {vs : List (List Key × Vl)} {es : List (D × Nat)}, RefT as vs es → (valV vs k = none ∧ lookN es (kT k) = none) ∨ ∃ p n, valV vs k = some (.ref p) ∧ lookN es (kT k) = some n ∧ as[n]? = some p
  | [], [], _ => .inl ⟨rfl, rfl⟩
  | (j, v) :: vs, (d, n) :: es, h => by
    obtain ⟨rfl, ⟨p, hp, rfl⟩, r⟩ := h
    by_cases e : j = k
    · subst e
      refine .inr ⟨p, n, valV_pos rfl, ?_, hp⟩
      unfold lookN
      rw [List.find?_cons_of_pos (by simp)]; rfl
    · have hne : ¬ keyG (kT j) = keyG (kT k) := by rw [keyG_kT, keyG_kT]; intro z; exact e (Sum.inr.inj (Option.some.inj z))
      have h1 : lookN ((kT j, n) :: es) (kT k) = lookN es (kT k) := by
        unfold lookN
        rw [List.find?_cons_of_neg (by simpa using hne)]
      rw [valV_neg (p := (j, _)) e, h1]
      exact RefT.val r
  | [], _ :: _, h => h.elim
  | _ :: _, [], h => h.elim
theorem RefT.any_eq {as : List Addr} {k : List Key} : ∀ {vs : List (List Key × Vl)} {es : List (D × Nat)}, RefT as vs es → (vs.any fun kv => decide (kv.1 = k)) = es.any fun p => decide (keyG p.1 = keyG (kT k))
  | [], [], _ => rfl
  | (j, v) :: vs, (d, n) :: es, h => by
    rw [List.any_cons, List.any_cons, RefT.any_eq h.2.2]
    congr 1
    rw [h.1, keyG_kT, keyG_kT]
    simp
  | [], _ :: _, h => h.elim
  | _ :: _, [], h => h.elim
theorem RefT.map_eq {as : List Addr} {k : List Key} {p : Addr} {n : Nat} (hp : as[n]? = some p) : ∀ {vs : List (List Key × Vl)} {es : List (D × Nat)}, RefT as vs es →
    RefT as (vs.map fun kv => if kv.1 = k then (kv.1, L2.V.ref p) else kv) (es.map fun q => if keyG q.1 = keyG (kT k) then (q.1, n) else q)
  | [], [], _ => trivial
  | (j, v) :: vs, (d, m) :: es, h => by
    rw [List.map_cons, List.map_cons]
    obtain ⟨rfl, h2, h3⟩ := h
    by_cases e : j = k
    · subst e
      rw [if_pos rfl, if_pos rfl]
      exact ⟨rfl, ⟨p, hp, rfl⟩, RefT.map_eq hp h3⟩
    · have hne : ¬ keyG (kT j) = keyG (kT k) := by rw [keyG_kT, keyG_kT]; intro z; exact e (Sum.inr.inj (Option.some.inj z))
      rw [if_neg e, if_neg hne]
      exact ⟨rfl, h2, RefT.map_eq hp h3⟩
  | [], _ :: _, h => h.elim
  | _ :: _, [], h => h.elim
theorem RefT.snoc {as : List Addr} {k : List Key} {p : Addr} {n : Nat} (hp : as[n]? = some p) : ∀ {vs : List (List Key × Vl)} {es : List (D × Nat)}, RefT as vs es → RefT as (vs ++ [(k, .ref p)]) (es ++ [(kT k, n)])
  | [], [], _ => ⟨rfl, ⟨p, hp, rfl⟩, trivial⟩
  | (_, _) :: _, (_, _) :: _, h => ⟨h.1, h.2.1, RefT.snoc hp h.2.2⟩
  | [], _ :: _, h => h.elim
  | _ :: _, [], h => h.elim
theorem RefT.put {as : List Addr} {k : List Key} {p : Addr} {n : Nat} (hp : as[n]? = some p) {vs : List (List Key × Vl)} {es : List (D × Nat)} (r : RefT as vs es) : RefT as (putK vs k (.ref p)) (putN es (kT k) n) := by
  unfold putK putN
  rw [r.any_eq]
  split
  · exact r.map_eq hp
  · exact r.snoc hp
def boxD (b : Bx) (n : Nat) : Option D := match b[n]? with
  | some (.live d) => some d
  | some (.froz d) => some d
  | _ => none
def datL (b : Bx) : List (Nat ⊕ D) → Option (List D)
  | [] => some []
  | .inl n :: ns => (boxD b n).bind fun d => (datL b ns).map (d :: ·)
  | .inr d :: ns => (datL b ns).map (d :: ·)
def datT (b : Bx) : List (D × Nat) → Option (List (D × D))
  | [] => some []
  | (k, n) :: ns => (boxD b n).bind fun d => (datT b ns).map ((k, d) :: ·)
def frzR (b : Bx) : Box → Option Box
  | .live d => some (.froz d)
  | .froz d => some (.froz d)
  | .refs ks => (datL b ks).map fun ds => .froz (.list ds)
  | .refD es => (datT b es).map fun ds => .froz (.dict ((.none, .none) :: ds))
  | .lock => none
  | .lk _ => none
def frzG (b : Bx) : Bx → Option Bx
  | [] => some []
  | x :: xs => (frzR b x).bind fun y => (frzG b xs).map (y :: ·)
theorem frzG_get {b : Bx} : ∀ {xs ys : Bx}, frzG b xs = some ys → ys.length = xs.length ∧ ∀ (j : Nat) (y : Box), ys[j]? = some y → ∃ x, xs[j]? = some x ∧ frzR b x = some y
  | [], ys, h => by cases h; exact ⟨rfl, fun j y e => by simp at e⟩
  | x :: xs, ys, h => by
    unfold frzG at h
    cases h1 : frzR b x with
    | none => rw [h1] at h; cases h
    | some y0 =>
      cases h2 : frzG b xs with
      | none => rw [h1, h2] at h; cases h
      | some ys0 =>
        rw [h1, h2] at h
        cases h
        obtain ⟨l, g⟩ := frzG_get h2
        refine ⟨by simp [l], fun j y e => ?_⟩
        cases j with
        | zero => simp at e; subst e; exact ⟨x, rfl, h1⟩
        | succ j => exact g j y (by simpa using e)
theorem frzR_froz {b : Bx} {x y : Box} (h : frzR b x = some y) : ∃ d, y = .froz d := by
  cases x with
  | live d => cases h; exact ⟨_, rfl⟩
  | froz d => cases h; exact ⟨_, rfl⟩
  | refs ks => obtain ⟨ds, _, e⟩ := Option.map_eq_some_iff.mp h; exact ⟨_, e.symm⟩
  | refD ks => obtain ⟨ds, _, e⟩ := Option.map_eq_some_iff.mp h; exact ⟨_, e.symm⟩
  | lock => cases h
  | lk ks => cases h
theorem frozenG {K : KF} {σ : St} {env : Env} {w : Wd} {b2 : Bx} (s : StR K σ env w) (hb : frzG w.bx w.bx = some b2) :
    ∃ V', (∀ x, w.W x → V' x = w.H x) ∧ (∀ x, ¬ w.W x → V' x = w.V x) ∧ Sub w.V V' ∧ StR K σ env { w with V := V', bx := b2 } ∧ Gr w { w with V := V', bx := b2 } := by
  have hW : ∀ {x}, w.W x → w.V x = none := fun {x} h => s.wv h
  let V' : Hp := fun x => open Classical in if w.W x then w.H x else w.V x
  have h1 : ∀ x, w.W x → V' x = w.H x := fun x h => if_pos h
  have h2 : ∀ x, ¬ w.W x → V' x = w.V x := fun x h => if_neg h
  have sub : Sub w.V V' := fun x u e => by
    rw [h2 x (fun z => by rw [hW z] at e; cases e)]; exact e
  obtain ⟨hl, hg⟩ := frzG_get hb
  have item : ∀ {n : Nat} {p : Addr} {d : D}, w.as[n]? = some p → boxD w.bx n = some d → Rp V' (.ref p) d := fun {n p d} hp hd => by
    unfold boxD at hd
    cases e : w.bx[n]? with
    | none => rw [e] at hd; cases hd
    | some b0 =>
      rw [e] at hd
      have q := s.box n p b0 hp e
      cases b0 with
      | live d0 => cases hd; exact q.2.rp sub fun o z => (h1 p ⟨n, .live d, hp, e, trivial⟩).trans z
      | froz d0 => cases hd; exact Rp.mono sub q
      | refs ks => cases hd
      | refD ks => cases hd
      | lock => cases hd
      | lk ks => cases hd
  have itL : ∀ {vs : List Vl} {ks : List (Nat ⊕ D)} {ds : List D}, RefL w.as vs ks → datL w.bx ks = some ds → RpL V' vs ds := by
    intro vs ks
    induction ks generalizing vs with
    | nil => intro ds r h; cases vs with
      | nil => cases h; exact .nil
      | cons v vs => exact r.elim
    | cons k ks ih => intro ds r h; cases vs with
      | nil => exact r.elim
      | cons v vs =>
        cases k with
        | inl k =>
          obtain ⟨⟨p, hp, rfl⟩, r⟩ := r
          unfold datL at h
          cases e1 : boxD w.bx k with
          | none => rw [e1] at h; cases h
          | some d =>
            cases e2 : datL w.bx ks with
            | none => rw [e1, e2] at h; cases h
            | some ds0 =>
              rw [e1, e2] at h
              cases h
              exact .cons (item hp e1) (ih r e2)
        | inr d =>
          obtain ⟨hd, r⟩ := r
          unfold datL at h
          cases e2 : datL w.bx ks with
          | none => rw [e2] at h; cases h
          | some ds0 =>
            rw [e2] at h
            cases h
            exact .cons (hd _) (ih r e2)
  have itT : ∀ {vs : List (List Key × Vl)} {ks : List (D × Nat)} {ds : List (D × D)}, RefT w.as vs ks → datT w.bx ks = some ds → RpT V' vs ds := by
    intro vs ks
    induction ks generalizing vs with
    | nil => intro ds r h; cases vs with
      | nil => cases h; exact .nil
      | cons v vs => exact r.elim
    | cons k ks ih => intro ds r h; cases vs with
      | nil => exact r.elim
      | cons v vs =>
        obtain ⟨x, v⟩ := v
        obtain ⟨kd, k⟩ := k
        obtain ⟨rfl, ⟨p, hp, rfl⟩, r⟩ := r
        unfold datT at h
        cases e1 : boxD w.bx k with
        | none => rw [e1] at h; cases h
        | some d =>
          cases e2 : datT w.bx ks with
          | none => rw [e1, e2] at h; cases h
          | some ds0 =>
            rw [e1, e2] at h
            cases h
            exact .cons (item hp e1) (ih r e2)
  have gg : Gr w { w with V := V', bx := b2 } := ⟨fun _ _ h => h, fun _ _ h => .inl h, sub, fun x _ hx => h2 x hx, fun _ _ h _ => h, fun _ h => h, fun x ⟨j, b, e1, e2, e3⟩ => by
    obtain ⟨x0, q1, q2⟩ := hg j b e2
    obtain ⟨d, rfl⟩ := frzR_froz q2
    exact e3.elim⟩
  refine ⟨V', h1, h2, sub, ⟨fun x u e => ?_, s.len, fun i c h => ?_, ?_, s.nd, fun j x b z1 z2 => ?_⟩, gg⟩
  · have e : V' x = some u := e
    by_cases z : w.W x
    · rw [h1 x z] at e; exact e
    · rw [h2 x z] at e; exact s.vh x u e
  · obtain ⟨v, y1, y2⟩ := s.cel i c h
    exact ⟨v, y1, CelR.mono gg y2⟩
  · show w.as.length = b2.length
    rw [hl]; exact s.lenB
  · obtain ⟨b0, y1, y2⟩ := hg j b z2
    have q := s.box j x b0 z1 y1
    cases b0 with
    | live d => cases y2; exact q.2.rp sub fun o z => (h1 x ⟨j, .live d, z1, y1, trivial⟩).trans z
    | froz d => cases y2; exact Rp.mono sub q
    | refs ks =>
      obtain ⟨ds, e1, e2⟩ := Option.map_eq_some_iff.mp y2
      subst e2
      obtain ⟨xs, hx, r⟩ := q.2
      exact .lst ((h1 x ⟨j, .refs ks, z1, y1, trivial⟩).trans hx) (itL r e1)
    | refD ks =>
      obtain ⟨ds, e1, e2⟩ := Option.map_eq_some_iff.mp y2
      subst e2
      obtain ⟨xs, hx, r⟩ := q.2
      exact .dT ((h1 x ⟨j, .refD ks, z1, y1, trivial⟩).trans hx) (itT r e1)
    | lock => cases y2
    | lk ks => cases y2
def mFrzG (i : Nat) : M := fun env b => (frzG b b).bind fun b2 => match env[i]? with
  | some (some (.bx k)) => match b2[k]? with
    | some (.froz d) => some (.ok d, b2)
    | _ => none
  | _ => none
section
variable {X : Cx} {EX : EXP} {e o : Expr} {es : List Expr} {m : M} {ms : MA} {pos : Pos} {i : Nat}
theorem x_frzG (h : PE X e (tVar i)) : PE X e (tX X.K EX (mFrzG i)) := h.imp fun σ H Q ⟨w, env, hw, s, p⟩ => by
  subst hw
  unfold mFrzG at p
  cases hb : frzG w.bx w.bx with
  | none => rw [hb] at p; exact p.elim
  | some b2 =>
    rw [hb] at p
    dsimp only [Option.bind_some] at p
    split at p
    · rename_i k hi
      obtain ⟨v, h1, a, h2, rfl⟩ := s.cel i _ hi
      refine ⟨_, h1, ?_⟩
      obtain ⟨V', _, _, _, s', g'⟩ := frozenG s hb
      split at p
      · rename_i d hk
        exact p _ { w with V := V', bx := b2 } rfl g' s' (s'.box k a _ h2 hk)
      · exact p.elim
    · exact p.elim
end
end DL
set_option Elab.async false
set_option linter.all false
set_option maxRecDepth 100000
set_option maxHeartbeats 1000000
namespace DL
open PySem PySem.Spec PyProof.Rows
open L2 hiding St V
theorem written2 {K : KF} {σ : St} {env : Env} {w : Wd} {k : Nat} {a : Addr} {b0 nb : Box} {o : HO} (s : StR K σ env w) (ha : w.as[k]? = some a) (hb : w.bx[k]? = some b0) (m : b0.mu) (ho : BoxR w.as w.V (upd w.H a o) a nb) (hn : nb.mu) :
    Gr w { w with H := upd w.H a o, bx := w.bx.set k nb } ∧ StR K σ env { w with H := upd w.H a o, bx := w.bx.set k nb } := by
  have hv : w.V a = none := (s.box k a _ ha hb).vn m.nf
  have hWa : w.W a := ⟨k, b0, ha, hb, m⟩
  have hk : k < w.bx.length := (List.getElem?_eq_some_iff.mp hb).1
  have gg : Gr w { w with H := upd w.H a o, bx := w.bx.set k nb } := by
    refine ⟨fun _ _ h => h, fun _ _ h => .inl h, Sub.refl _, fun _ _ _ => rfl, fun x u h1 h2 => ?_, fun x h => ?_, fun x ⟨j, b, h1, h2, h3⟩ => .inl ?_⟩
    · show upd w.H a o x = some u
      rw [upd_ne (by intro z; subst z; exact h2 hWa)]
      exact h1
    · show upd w.H a o x ≠ none
      by_cases z : x = a
      · subst z; rw [upd_same]; simp
      · rw [upd_ne z]; exact h
    · have h2 : (w.bx.set k nb)[j]? = some b := h2
      by_cases z : k = j
      · subst z
        rw [ha] at h1
        cases h1
        exact hWa
      · rw [List.getElem?_set_ne z] at h2
        exact ⟨j, b, h1, h2, h3⟩
  refine ⟨gg, fun x u e => ?_, s.len, fun i c h => ?_, ?_, s.nd, fun j x b h1 h2 => ?_⟩
  · show upd w.H a o x = some u
    rw [upd_ne (by intro z; subst z; have e : w.V x = some u := e; rw [hv] at e; cases e)]
    exact s.vh x u e
  · obtain ⟨v, h1, h2⟩ := s.cel i c h
    exact ⟨v, h1, CelR.mono gg h2⟩
  · show w.as.length = (w.bx.set k nb).length
    rw [List.length_set]; exact s.lenB
  · have h2 : (w.bx.set k nb)[j]? = some b := h2
    have h1 : w.as[j]? = some x := h1
    by_cases z : k = j
    · subst z
      rw [ha] at h1
      cases h1
      rw [List.getElem?_set_self hk] at h2
      cases h2
      exact ho
    · rw [List.getElem?_set_ne z] at h2
      have q := s.box j x b h1 h2
      have hne : x ≠ a := by
        intro y
        subst y
        exact z ((List.getElem?_inj (i := k) (j := j) (by rw [s.lenB]; exact hk) s.nd).mp (ha.trans h1.symm))
      refine q.keep (fun _ _ z => z) (Sub.refl _) (fun m => q.vn m) fun _ u e => ?_
      show upd w.H a o x = some u
      rw [upd_ne hne]; exact e
theorem hold {K : KF} {σ : St} {env : Env} {w w1 : Wd} {i : Nat} {q : Addr} {o : HO} {nb : Box} (g1 : Gr w w1) (s : StR K σ env w1) (hq : w1.H q = none) (hb : ∀ as : List Addr, (∀ (k : Nat) (a : Addr), w1.as[k]? = some a → as[k]? = some a) → w1.V q = none → BoxR as w1.V (upd w1.H q o) q nb) :
    Gr w { w1 with H := upd w1.H q o, as := w1.as ++ [q], bx := w1.bx ++ [nb] } ∧ StR K (σ.set i (some (.ref q))) (env.set i (some (.bx w1.bx.length))) { w1 with H := upd w1.H q o, as := w1.as ++ [q], bx := w1.bx ++ [nb] } := by
  have hv : w1.V q = none := by
    cases e : w1.V q with
    | none => rfl
    | some u => rw [s.vh q u e] at hq; cases hq
  have h0 : w.H q = none := by
    cases e : w.H q with
    | none => rfl
    | some u => exact absurd hq (g1.hk q (by rw [e]; simp))
  have x := Ext.hid (o := o) s.vh hq
  have s1 := s.ext' x
  exact ⟨(g1.trans x.gr).newBoxG h0 s.lenB, s1.newBoxG (hb _ (fun _ _ z => z) hv) fun k hk => s.as_some hk hq⟩
def sNewH (i : Nat) (nb : Box) : S := fun env b => if i < env.length then some (.nx (env.set i (some (.bx b.length))), b ++ [nb]) else none
section
variable {X : Cx} {EX : EXP} {st : Stmt} {e o : Expr} {es : List Expr} {m : M} {ms : MA} {pos : Pos} {i : Nat} {g : P}
theorem s_newD (h : PS X st (tAsg tDNewT (gName i))) : PS X st (tS X.K EX (sNewH i (.refD []))) := h.imp fun D σ H ⟨w, env, hw, sr, p⟩ => by
  subst hw
  intro q hq
  unfold sNewH at p
  split at p
  · obtain ⟨gg, ss⟩ := hold (i := i) (o := .dT []) (nb := .refD []) (Gr.refl w) sr hq fun as _ hv => ⟨hv, [], upd_same, trivial⟩
    exact p _ { w with H := upd w.H q (.dT []), as := w.as ++ [q], bx := w.bx ++ [.refD []] } rfl gg ss
  · exact p.elim
abbrev PlM := Env → Bx → Option (Nat × Bx)
def PostB (K : KF) (Q : VK) (σ : St) (env : Env) (w : Wd) : Option (Nat × Bx) → Prop
  | none => False
  | some (j, bx) => ∀ p w', w'.bx = bx → Gr w w' → StR K σ env w' → w'.as[j]? = some p → Q (.ref p) w'.H
def tXB (K : KF) (m : PlM) : TE := fun σ H Q => ∃ w env, w.H = H ∧ StR K σ env w ∧ PostB K Q σ env w (m env w.bx)
def bDk (i : Nat) (g : P) : PlM := fun env b => match env[i]? with
  | some (some (.bx k)) => match b[k]? with
    | some (.refD es) => match g env b with
      | some kd => match keyG kd with
        | some (.inr _) => (lookN es kd).map fun n => (n, b)
        | _ => none
      | _ => none
    | _ => none
  | _ => none
theorem b_dk {b : Expr} (hu : X.A.units + 1 < cLine) (h0 : PE X e (tVar i)) (hb : PE X b (tX X.K XF (lift g))) (hs : NoSl b) : PE X (.Subscript e b pos) (tXB X.K (bDk i g)) := (pe_dget hu h0 hb hs).imp fun σ H Q ⟨w, env, hw, s, p⟩ => by
  subst hw
  unfold bDk at p
  split at p
  · rename_i k hi
    obtain ⟨v, h1, a, h2, rfl⟩ := s.cel i _ hi
    split at p
    · rename_i es hk
      split at p
      · rename_i kd hg
        split at p
        · rename_i kk hkk
          refine ⟨_, h1, w, env, rfl, s, ?_⟩
          unfold lift
          show Post X.K XF _ σ env w ((g env w.bx).map _)
          rw [hg]
          intro v w1 hb1 g1 s1 r1
          obtain ⟨hv, xs, hx, rx⟩ := s1.box k a _ (g1.as _ _ h2) (by rw [hb1]; exact hk)
          have ek := keyG_inr hkk
          subst ek
          cases r1 with
          | tup hb rb =>
            have eb := rb.keysV
            subst eb
            rcases rx.val (k := kk) with ⟨_, l2⟩ | ⟨z, n, l1, l2, l3⟩
            · rw [l2] at p; exact p.elim
            · rw [l2] at p
              refine ⟨a, _, rfl, ?_, p z w1 hb1 g1 s1 l3⟩
              rw [← l1]
              exact DGet.t hx (s1.vh _ _ hb)
        · exact p.elim
      · exact p.elim
    · exact p.elim
  · exact p.elim
def mBopH (f : BOp) (pl : PlM) (ms : MA) : M := fun env b => match pl env b with
  | none => none
  | some (j, b) => match b[j]? with
    | some (.live (.list _)) => match ms env b with
      | none => none
      | some (.exc c d, b) => some (.exc c d, b)
      | some (.ok ds, b) => match b[j]? with
        | some (.live d0) => (f d0 ds).map fun r => (.ok r.1, b.set j (.live r.2))
        | _ => none
    | _ => none
theorem x_bopH {r : Vl → List Vl → Hp → VK → Prop} {f : BOp} {pl : PlM} (op : BoxOp "list" r f) (h : PE X e (tBM X.K "list" r (tXB X.K pl) (tXA X.K EX ms))) : PE X e (tX X.K EX (mBopH f pl ms)) := h.imp fun σ H Q ⟨w, env, hw, s, p⟩ => by
  subst hw
  refine ⟨w, env, rfl, s, ?_⟩
  unfold mBopH at p
  cases hpl : pl env w.bx with
  | none => rw [hpl] at p; exact p.elim
  | some z =>
    obtain ⟨j, b⟩ := z
    rw [hpl] at p
    intro a w0 hb0 g0 s0 ha
    subst hb0
    dsimp only at p
    split at p
    · rename_i ds0 hk0
      obtain ⟨hv0, xs0, hx0, _⟩ := s0.box j a _ ha hk0
      refine ⟨.inl ⟨rfl, xs0, SqL.of hx0⟩, w0, env, rfl, s0, ?_⟩
      cases hm : ms env w0.bx with
      | none => rw [hm] at p; exact p.elim
      | some z =>
        obtain ⟨res, b1⟩ := z
        rw [hm] at p
        cases res with
        | exc c d => exact fun w' hb g e => p w' hb (g0.trans g) e
        | ok ds =>
          intro vs w1 hb1 g1 s1 r1
          subst hb1
          dsimp only at p
          split at p
          · rename_i d0 hk
            have ha1 := g1.as _ _ ha
            have hbx := s1.box j a _ ha1 hk
            cases hf : f d0 ds with
            | none => rw [hf] at p; exact p.elim
            | some q =>
              obtain ⟨d, d1⟩ := q
              rw [hf] at p
              refine op w1.V w1.H a d0 vs ds d d1 Q s1.vh hbx.1 hbx.2 r1 hf fun v o ho rv => ?_
              obtain ⟨gg, ss⟩ := written s1 ha1 hk ho
              exact p v { w1 with H := upd w1.H a o, bx := w1.bx.set j (.live d1) } rfl (g0.trans (g1.trans gg)) ss rv
          · exact p.elim
    · exact p.elim
def sSetH (i : Nat) (mv : M) (gk : P) : S := fun env b => match mv env b with
  | none => none
  | some (.exc c d, b) => some (.exc c d, b)
  | some (.ok d, b) => match env[i]? with
    | some (some (.bx k)) => match gk env (b ++ [.live d]) with
      | some kd => match keyG kd with
        | some (.inr _) => match (b ++ [Box.live d])[k]? with
          | some (.refD es) => if es.length < SZ then some (.nx env, (b ++ [Box.live d]).set k (.refD (putN es kd b.length))) else none
          | _ => none
        | _ => none
      | _ => none
    | _ => none
theorem s_setH {gk : P} (h : PS X st (sDPut (tVar i) (tX X.K EX (lift gk)) (tXO X.K EX m))) : PS X st (tS X.K EX (sSetH i m gk)) := h.imp fun De σ H ⟨w, env, hw, sr, p⟩ => by
  subst hw
  refine ⟨w, env, rfl, sr, ?_⟩
  unfold sSetH at p
  cases hm : m env w.bx with
  | none => rw [hm] at p; exact p.elim
  | some q =>
    obtain ⟨r, b⟩ := q
    rw [hm] at p
    cases r with
    | exc c d => exact fun w' hb g e => p σ env w' hb g e
    | ok d =>
      intro q w1 hb g1 s1 h0 hv ho ha
      subst hb
      dsimp only at p
      split at p
      · rename_i k hi
        obtain ⟨v0, h1, a, h2, rfl⟩ := s1.cel i _ hi
        refine ⟨_, h1, ?_⟩
        have gE : Gr w { w1 with as := w1.as ++ [q], bx := w1.bx ++ [.live d] } := g1.newBox h0 s1.lenB
        have sE : StR X.K σ env { w1 with as := w1.as ++ [q], bx := w1.bx ++ [.live d] } := s1.more hv ho ha
        refine ⟨{ w1 with as := w1.as ++ [q], bx := w1.bx ++ [.live d] }, env, rfl, sE, ?_⟩
        unfold lift
        show Post X.K EX _ σ env _ ((gk env (w1.bx ++ [.live d])).map _)
        split at p
        · rename_i kd hg
          rw [hg]
          split at p
          · rename_i kk hkk
            split at p
            · rename_i es hk
              split at p
              · rename_i hz
                intro v w2 hb2 g2 s2 r2
                have hb2 : w2.bx = w1.bx ++ [.live d] := hb2
                have ha1 : (w1.as ++ [q])[k]? = some a := by rw [List.getElem?_append_left (List.getElem?_eq_some_iff.mp h2).1]; exact h2
                have ha2 : w2.as[k]? = some a := g2.as _ _ ha1
                have hk2 : w2.bx[k]? = some (.refD es) := by rw [hb2]; exact hk
                obtain ⟨hv2, kvs, hx, rx⟩ := s2.box k a _ ha2 hk2
                have hqn : w2.as[w1.bx.length]? = some q := g2.as _ _ (by rw [← s1.lenB]; show (w1.as ++ [q])[w1.as.length]? = some q; simp)
                have ek := keyG_inr hkk
                subst ek
                cases r2 with
                | tup hb rb =>
                  have eb := rb.keysV
                  subst eb
                  obtain ⟨gg, ss⟩ := written2 (nb := .refD (putN es (kT kk) w1.bx.length)) (o := .dT (putK kvs kk (.ref q))) s2 ha2 hk2 trivial ⟨hv2, _, upd_same, rx.put hqn⟩ trivial
                  refine ⟨a, _, rfl, DPut.t hx (s2.vh _ _ hb) (by rw [rx.length]; exact ltLine hz), ?_⟩
                  refine p σ { w2 with H := upd w2.H a (.dT (putK kvs kk (.ref q))), bx := w2.bx.set k (.refD (putN es (kT kk) w1.bx.length)) } ?_ (gE.trans (g2.trans gg)) ss
                  show w2.bx.set k _ = _
                  rw [hb2]
              · exact p.elim
            · exact p.elim
          · exact p.elim
        · exact p.elim
      · exact p.elim
def pNotInH (i : Nat) (g : P) : P := fun env b => match env[i]? with
  | some (some (.bx k)) => match g env b with
    | some kd => match keyG kd with
      | some (.inr _) => match b[k]? with
        | some (.refD es) => some (.bool (!(lookN es kd).isSome))
        | _ => none
      | _ => none
    | _ => none
  | _ => none
theorem dt_notInH {a : Expr} (hu : X.A.units + 1 < cLine) (ha : PE X a (tX X.K EX (lift g))) (h0 : PE X o (tVar i)) (hm : behindInMarks .NotIn o = false) : PT X (.Compare a [.NotIn] [o] pos) (tXT X.K EX (lift (pNotInH i g))) := (pt_cmp (pc_dnotin hu ha h0) hm).imp fun σ H Q ⟨w, env, hw, s, p⟩ => by
  subst hw
  unfold lift pNotInH at p
  cases hi : env[i]? with
  | none => rw [hi] at p; exact p.elim
  | some c =>
    rw [hi] at p
    match c, p with
    | none, p => exact p.elim
    | some (.dat _), p => exact p.elim
    | some (.ext _), p => exact p.elim
    | some (.ex _ _), p => exact p.elim
    | some (.exs _), p => exact p.elim
    | some (.ob _ _ _), p => exact p.elim
    | some (.bx k), p =>
      dsimp only at p
      obtain ⟨v, h1, a0, h2, rfl⟩ := s.cel i _ hi
      cases hg : g env w.bx with
      | none => rw [hg] at p; exact p.elim
      | some kd =>
        rw [hg] at p
        dsimp only at p
        cases hkk : keyG kd with
        | none => rw [hkk] at p; exact p.elim
        | some kk =>
          rw [hkk] at p
          cases kk with
          | inl _ => exact p.elim
          | inr kk =>
            dsimp only at p
            cases hk : w.bx[k]? with
            | none => rw [hk] at p; exact p.elim
            | some b0 =>
              rw [hk] at p
              cases b0 with
              | refD es =>
                obtain ⟨c, hc, p⟩ := p
                cases hc
                refine ⟨w, env, rfl, s, ?_⟩
                unfold lift
                show Post X.K EX _ σ env w ((g env w.bx).map _)
                rw [hg]
                intro v w1 hb1 g1 s1 r1
                refine ⟨_, h1, ?_⟩
                obtain ⟨hv, xs, hx, rx⟩ := s1.box k a0 _ (g1.as _ _ h2) (by rw [hb1]; exact hk)
                have ek := keyG_inr hkk
                subst ek
                cases r1 with
                | tup hb rb =>
                  have eb := rb.keysV
                  subst eb
                  refine ⟨a0, _, rfl, DGet.t hx (s1.vh _ _ hb), ?_⟩
                  rcases rx.val (k := kk) with ⟨l1, l2⟩ | ⟨z, n, l1, l2, l3⟩
                  · rw [l1]; refine ⟨_, rfl, ?_⟩; rw [l2] at p; exact p w1 hb1 g1 s1
                  · rw [l1]; refine ⟨_, rfl, ?_⟩; rw [l2] at p; exact p w1 hb1 g1 s1
              | live d => exact p.elim
              | froz d => exact p.elim
              | refs d => exact p.elim
              | lock => exact p.elim
              | lk ks => exact p.elim
end
end DL
set_option Elab.async false
set_option linter.all false
set_option maxRecDepth 100000
set_option maxHeartbeats 1000000
namespace DL
open PySem PySem.Spec PyProof.Rows
open L2 hiding St V
section
variable {X : Cx} {EX : EXP} {o e f : Expr} {g h j : P} {pos : Pos}
end
end DL
set_option Elab.async false
set_option linter.all false
set_option maxRecDepth 100000
set_option maxHeartbeats 1000000
namespace DL
open PySem PySem.Spec PyProof.Rows
open L2 hiding St V
section
variable {X : Cx} {EX : EXP} {st : Stmt} {m m0 : M} {g : P}
end
end DL
set_option Elab.async false
set_option linter.all false
set_option maxRecDepth 100000
set_option maxHeartbeats 1000000
namespace DL
open PySem PySem.Spec PyProof.Rows
open L2 hiding St V
section
variable {prog : Program} {w : World} {A : Around} {E : Value → Shared → Prop} {s : Shared}
end
end DL
set_option Elab.async false
set_option linter.all false
set_option maxRecDepth 100000
set_option maxHeartbeats 4000000
namespace DL
open PySem PySem.Spec PyProof.Rows
open L2 hiding St V
section
variable {X : Cx}
end
end DL
set_option Elab.async false
set_option linter.all false
set_option maxRecDepth 100000
set_option maxHeartbeats 1000000
namespace DL
open PySem PySem.Spec PyProof.Rows
open L2 hiding St V
theorem RpT.keys {V : Hp} : ∀ {kvs : List (List Key × Vl)} {es : List (D × D)}, RpT V kvs es → es.map (·.1) = kvs.map fun kv => kT kv.1
  | _, _, .nil => rfl
  | _, _, .cons _ r => by rw [List.map_cons, List.map_cons, RpT.keys r]
end DL
set_option Elab.async false
set_option linter.all false
set_option maxRecDepth 100000
set_option maxHeartbeats 1000000
namespace DL
open PySem PySem.Spec PyProof.Rows
open L2 hiding St V
def kO (V H : Hp) (Q : VK) (d : D) : Prop := ∀ (p : Addr) (o : HO), H p = none → OwnAt V (upd H p o) p d → Q (.ref p) (upd H p o)
def rDO (f : D → D → Option D) : R2 := fun x y H Q => ∃ V dx dy d, Sub V H ∧ Rp V x dx ∧ Rp V y dy ∧ f dx dy = some d ∧ kO V H Q d
def dMulL : D → D → Option D
  | .list xs, .int k => if decide (-(2 ^ 63) ≤ k) && decide (k < 2 ^ 63) && decide (xs.length * k.toNat ≤ SZ) then some (.list (List.replicate k.toNat xs).flatten) else none
  | _, _ => none
section
variable {X : Cx} {EX : EXP} {a b : Expr} {ma mb : M} {pos : Pos}
theorem op_mulO : OpR X (binaryOp .Mult) (rDO dMulL) := by
  intro pins s σ H x y v u Q I rx ry ⟨V, dx, dy, d, sb, hx, hy, hf, k⟩
  unfold dMulL at hf
  split at hf
  · split at hf
    · rename_i hz
      cases hf
      rw [Bool.and_eq_true, Bool.and_eq_true, decide_eq_true_eq, decide_eq_true_eq, decide_eq_true_eq] at hz
      cases hy
      cases hx with
      | lst ha ra =>
        exact op_rep pins s σ H _ _ v u Q I rx ry ⟨_, _, _, rfl, rfl, sb _ _ ha, hz.1.1, hz.1.2, by rw [ra.length]; exact szLine hz.2, fun p hp => k _ _ hp ⟨_, upd_same, RpL.rep ra _⟩⟩
    · cases hf
  · cases hf
theorem tOpO_of {K : KF} {f : D → D → Option D} {σ : L2.St} {H : Hp} {Q : VK} (h : tXO K EX (mBin f ma mb) σ H Q) : tOp (rDO f) (tX K EX ma) (tX K EX mb) σ H Q := by
  obtain ⟨w, env, hw, s, p⟩ := h
  subst hw
  unfold mBin mBind at p
  refine ⟨w, env, rfl, s, ?_⟩
  cases h1 : ma env w.bx with
  | none => rw [h1] at p; exact p.elim
  | some z =>
    obtain ⟨r, bx⟩ := z
    rw [h1] at p
    cases r with
    | exc c d => exact fun w' hb g e => p w' hb g e
    | ok dx =>
      intro vx w1 hb g1 s1 r1
      subst hb
      refine ⟨w1, env, rfl, s1, ?_⟩
      dsimp only at p
      cases h2 : mb env w1.bx with
      | none => rw [h2] at p; exact p.elim
      | some z =>
        obtain ⟨r, bx⟩ := z
        rw [h2] at p
        cases r with
        | exc c d => exact fun w' hb g e => p w' hb (g1.trans g) e
        | ok dy =>
          intro vy w2 hb g2 s2 r2
          subst hb
          dsimp only at p
          unfold mRet at p
          cases h3 : f dx dy with
          | none => rw [h3] at p; exact p.elim
          | some d =>
            rw [h3] at p
            exact ⟨w2.V, dx, dy, d, s2.vh, r1.mono g2.v, r2, h3, fun q o hq ho => post_own (g1.trans g2) s2 p hq ho⟩
theorem x_opO {op : Operator} {f : D → D → Option D} (ho : OpR X (binaryOp op) (rDO f)) (ha : PE X a (tX X.K EX ma)) (hb : PE X b (tX X.K EX mb)) : PE X (.BinOp a op b pos) (tXO X.K EX (mBin f ma mb)) :=
  (pe_op ho ha hb).imp fun _ _ _ h => tOpO_of h
theorem d_opO {op : Operator} {f : D → D → Option D} {ga gb : P} (ho : OpR X (binaryOp op) (rDO f)) (ha : PE X a (tX X.K EX (lift ga))) (hb : PE X b (tX X.K EX (lift gb))) : PE X (.BinOp a op b pos) (tXO X.K EX (lift (pBin f ga gb))) := by
  rw [← lift_bin]; exact x_opO ho ha hb
end
section
variable {X : Cx} {EX : EXP} {e : Expr} {es : List Expr} {ms : MA} {gs : PL} {pos : Pos}
end
end DL
set_option Elab.async false
set_option linter.all false
set_option maxRecDepth 100000
set_option maxHeartbeats 1000000
namespace DL
open PySem PySem.Spec PyProof.Rows
open L2 hiding St V
section
variable {P : Program} {w : World} {K : KF} {mg : Str → Option Value} {base : Heap}
end
section
variable {X : Cx} {EX : EXP} {CX : CXT} {k : Nat} {f : Addr} {fd : FuncData} {ps : List Str} {E : XK} {x : Str} {p pos : Pos} {e : Expr} {es : List Expr} {ms : MA} {F : Fn}
end
end DL
set_option Elab.async false
set_option linter.all false
set_option maxRecDepth 100000
set_option maxHeartbeats 1000000
namespace DL
open PySem PySem.Spec PyProof.Rows
open L2 hiding St V
section
variable {X : Cx} {EX : EXP} {e : Expr} {m : M}
end
end DL
set_option Elab.async false
set_option linter.all false
set_option maxRecDepth 100000
set_option maxHeartbeats 4000000
namespace DL
open PySem PySem.Spec PyProof.Rows
open L2 hiding St V
section
open Sem (wp)
variable {P : Program} {w : World} {A : Around} {E : Value → Shared → Prop} {s : Shared}
end
section
variable {X : Cx}
variable {EX : EXP} {e : Expr} {m : M} {g : P} {p p2 q pos : Pos}
end
end DL
set_option Elab.async false
set_option linter.all false
set_option maxRecDepth 100000
set_option maxHeartbeats 4000000
namespace DL
open PySem PySem.Spec PyProof.Rows
open L2 hiding St V
section
variable {P : Program} {w : World} {A : Around} {E : Value → Shared → Prop} {s : Shared}
end
end DL
set_option Elab.async false
set_option linter.all false
set_option maxRecDepth 100000
set_option maxHeartbeats 4000000
namespace DL
open PySem PySem.Spec PyProof.Rows
open L2 hiding St V
end DL
set_option Elab.async false
set_option linter.all false
set_option maxRecDepth 100000
set_option maxHeartbeats 4000000
namespace DL
open PySem PySem.Spec PyProof.Rows
open L2 hiding St V
section
variable {X : Cx} {pins : List (Addr × Obj)} {s : Shared} {σ : St} {H V : Hp} {Q : VK}
end
end DL
set_option Elab.async false
set_option linter.all false
set_option maxRecDepth 100000
set_option maxHeartbeats 4000000
namespace DL
open PySem PySem.Spec PyProof.Rows
open L2 hiding St V
section
variable {X : Cx} {pins : List (Addr × Obj)} {s : Shared} {σ : St} {H V : Hp}
end
section
variable {X : Cx} {EX : EXP} {e : Expr} {m : M} {g : P} {p pos ap cp : Pos}
end
end DL
set_option Elab.async false
set_option linter.all false
set_option maxRecDepth 100000
set_option maxHeartbeats 4000000
namespace L2
open PySem PySem.Spec PyProof.Rows
end L2
namespace DL
open PySem PySem.Spec PyProof.Rows
open L2 hiding St V
section
variable {X : Cx} {EX : EXP} {st : Stmt} {m m' m0 : M}
end
end DL
set_option Elab.async false
set_option linter.all false
set_option maxRecDepth 100000
set_option maxHeartbeats 4000000
namespace DL
open PySem PySem.Spec PyProof.Rows
open L2 hiding St V
end DL
set_option Elab.async false
set_option linter.all false
set_option maxRecDepth 100000
set_option maxHeartbeats 4000000
namespace L2
open PySem PySem.Spec PyProof.Rows
end L2
namespace DL
open PySem PySem.Spec PyProof.Rows
open L2 hiding St V
section
variable {X : Cx} {EX : EXP} {st : Stmt} {m0 m4 : M} {g2 g3 : P}
end
end DL
set_option Elab.async false
set_option linter.all false
set_option maxRecDepth 100000
set_option maxHeartbeats 4000000
namespace DL
open PySem PySem.Spec PyProof.Rows
open L2 hiding St V
def HeldT (H0 V H : Hp) : List (List Key × Vl) → List (D × D) → Prop
  | [], [] => True
  | (x, v) :: vs, (k, d) :: ds => k = kT x ∧ (∃ p, v = .ref p ∧ H0 p = none ∧ V p = none ∧ OwnAt V H p d) ∧ HeldT H0 V H vs ds
  | _, _ => False
theorem HeldT.val {H0 V H : Hp} {k : List Key} : ∀ {vs : List (List Key × Vl)} {ds : List (D × D)}, HeldT H0 V H vs ds → (valV vs k = none ∧ lookD ds (kT k) = none) ∨ ∃ p d, valV vs k = some (.ref p) ∧ lookD ds (kT k) = some d ∧ H0 p = none ∧ V p = none ∧ OwnAt V H p d
  | [], [], _ => .inl ⟨rfl, rfl⟩
  | (j, v) :: vs, (d, n) :: es, h => by
    obtain ⟨rfl, ⟨p, rfl, h0, hv, ho⟩, r⟩ := h
    by_cases e : j = k
    · subst e
      refine .inr ⟨p, n, valV_pos rfl, ?_, h0, hv, ho⟩
      unfold lookD
      rw [List.find?_cons_of_pos (by simp)]; rfl
    · have hne : ¬ keyG (kT j) = keyG (kT k) := by rw [keyG_kT, keyG_kT]; intro z; exact e (Sum.inr.inj (Option.some.inj z))
      have h1 : lookD ((kT j, n) :: es) (kT k) = lookD es (kT k) := by
        unfold lookD
        rw [List.find?_cons_of_neg (by simpa using hne)]
      rw [valV_neg (p := (j, _)) e, h1]
      exact HeldT.val r
  | [], _ :: _, h => h.elim
  | _ :: _, [], h => h.elim
theorem HeldT.back {H0 H1 V H : Hp} (b : ∀ p, H1 p = none → H0 p = none) : ∀ {vs : List (List Key × Vl)} {ds : List (D × D)}, HeldT H1 V H vs ds → HeldT H0 V H vs ds
  | [], [], _ => trivial
  | (_, _) :: _, (_, _) :: _, ⟨e, ⟨p, e1, e2, e3⟩, r⟩ => ⟨e, ⟨p, e1, b p e2, e3⟩, HeldT.back b r⟩
  | [], _ :: _, h => h.elim
  | _ :: _, [], h => h.elim
section
variable {P : Program} {w : World} {K : KF} {mg : Str → Option Value} {base : Heap}
end
section
variable {X : Cx} {EX : EXP} {CX : CXT} {k : Nat} {f : Addr} {fd : FuncData} {ps : List Str} {E : XK} {x : Str} {p pos : Pos} {e e1 e2 : Expr} {es : List Expr} {gs : PL} {g h : P} {F : Fn}
end
end DL
set_option Elab.async false
set_option linter.all false
set_option maxRecDepth 100000
set_option maxHeartbeats 4000000
namespace DL
open PySem PySem.Spec PyProof.Rows
open L2 hiding St V
section
variable {X : Cx} {EX : EXP} {CX : CXT} {k : Nat} {f : Addr} {fd : FuncData} {ps : List Str} {E : XK} {x : Str} {p pos : Pos} {ms : MA} {gs : PL} {F : Fn}
end
end DL
set_option Elab.async false
set_option linter.all false
set_option maxRecDepth 100000
set_option maxHeartbeats 4000000
namespace DL
open PySem PySem.Spec PyProof.Rows
open L2 hiding St V
inductive NamesL (X : Cx) : List Expr → List Value → Prop
  | nil : NamesL X [] []
  | cons {x : Str} {c : Value} {np : Pos} {es : List Expr} {cs : List Value} (hc : Names X x c) (r : NamesL X es cs) (he : starEach (.Name x np :: es) X.env = (false, eval (.Name x np) X.env) :: starEach es X.env := by rfl) : NamesL X (.Name x np :: es) (c :: cs)
section
variable {X : Cx} {n m : Str} {i j : Nat} {body : List Stmt} {ns : List Expr} {cs : List Value} {k : Nat} {pos pos' p1 p2 p3 tp : Pos} {tb : WX → TS}
end
end DL
set_option Elab.async false
set_option linter.all false
set_option maxRecDepth 100000
set_option maxHeartbeats 4000000
namespace PySem
namespace EXB
open PySem.W PySem.Calls PyProof.Rows PySem.HandSPX
open Builtin Builtin.ObjectAttr
structure BaseX (B newId initId : String) (bm : List Value) : Prop where
  F : ExcBaseFacts B newId initId bm
  pass : ∀ self, refuseLoop self "__setattr__" bm = pure ()
  obj : bm.contains (.type "object") = true
  typ : typeOf (.type B) = pure (.type "type")
  stub : Manifest.isStub B = false
  hand : handedIn (.builtin initId) = true
section
variable {prog : Program} {w : World} {A : Around} {E : Value → Shared → Prop} {R : Result → Shared → Prop} {hp : Heap} {g : Array GenState} {d : Drawn} {t : Nat} {os : OsState}
end
end EXB
end PySem
namespace DL
open PySem PySem.Spec PyProof.Rows
open L2 hiding St V
open PySem.EXB
structure OexB (K : KF) (C : Addr) (newId : String) (bm : List Value) : Prop where
  cls : ∃ nm q N bs sn sub ab col dd k0 k1 k2 k3 k5, K.lookup C = some (excClassObj nm q C N bs bm true sn sub ab col dd k0 k1 k2 k3 k5 newId)
  sa : PySem.W.findIn K (.ref C) "__setattr__" = some (some (.builtin "object.__setattr__"))
  exC : PySem.W.subIn K (.ref C) (.type "BaseException") = some true
  tyC : PySem.W.typeIn K (.ref C) = some (.type "type")
  kC : PySem.W.keepIn K (.ref C) = true
section
variable {X : Cx} {pins : List (Addr × Obj)} {σ : L2.St} {H : Hp} {s : Shared} {a C dx : Addr} {f : Str} {y : Vl} {u : Value} {fs : List (Str × Vl)} {Q : Unit → Shared → Prop} {E : Value → Shared → Prop} {A : Around} {B newId initId : String} {bm : List Value}
end
section
variable {X : Cx} {o e : Expr} {es : List Expr} {to te : TE} {ta : TA} {f : Str} {p p' p1 p2 pos : Pos} {B newId initId : String} {bm : List Value} {nB : Str}
end
end DL
set_option Elab.async false
set_option linter.all false
set_option maxRecDepth 100000
set_option maxHeartbeats 4000000
namespace DL
open PySem PySem.Spec PyProof.Rows
open L2 hiding St V
open PySem.EXB
section
variable {P : Program} {w : World} {K : KF} {mg : Str → Option Value} {base : Heap}
end
section
variable {X : Cx} {EX : EXP} {CX : CXT} {k : Nat} {f : Addr} {fd : FuncData} {ps : List Str} {sp : Sp} {E : L2.St → XK} {x : Str} {p pos : Pos} {e : Expr} {es : List Expr} {gs : PL} {F : Fn}
end
end DL
set_option Elab.async false
set_option linter.all false
set_option maxRecDepth 100000
set_option maxHeartbeats 4000000
namespace DL
open PySem PySem.Spec PyProof.Rows
open L2 hiding St V
open PySem.EXB
section
variable {X : Cx} {EX : EXP} {st : Stmt} {i j l : Nat} {cs : List Str} {us : List Value} {m : M}
end
section
variable {X : Cx} {pins : List (Addr × Obj)} {σ : L2.St} {H : Hp} {s : Shared} {a C dd : Addr} {fs : List (Str × Vl)}
end
section
variable {X : Cx} {EX : EXP} {e eC : Expr} {j k : Nat} {p p2 pos tpos : Pos} {tab : List (Str × Bool)}
end
end DL
set_option Elab.async false
set_option linter.all false
set_option maxRecDepth 100000
set_option maxHeartbeats 4000000
namespace DL
open PySem PySem.Spec PyProof.Rows
open L2 hiding St V
open PySem.EXB
end DL
set_option Elab.async false
set_option linter.all false
set_option maxRecDepth 100000
set_option maxHeartbeats 4000000
namespace PySem.W
open PySem PySem.Spec PySem.Calls PyProof.Rows
section
variable {M : Model} {K : Frag}
end
end PySem.W
namespace DL
open PySem PySem.Spec PyProof.Rows
open L2 hiding St V
open PySem.EXB
section
variable {X : Cx} {EX : EXP} {CX : CXT} {k : Nat} {E : L2.St → XK} {p0 p1 p2 p3 pos : Pos} {eI e : Expr} {es : List Expr} {g : P} {gs : PL} {F F0 F1 : Fn}
end
section
variable {X : Cx} {EX : EXP} {st : Stmt} {i j l : Nat} {cs : List Str} {us : List Value} {m m1 m2 : M} {gc : P}
end
end DL
set_option Elab.async false
set_option linter.all false
set_option maxRecDepth 100000
set_option maxHeartbeats 4000000
namespace DL
open PySem PySem.Spec PyProof.Rows
open L2 hiding St V
def mergeT (kvs more : List (List Key × Vl)) : List (List Key × Vl) := more.foldl (fun acc kv => putK acc kv.1 kv.2) kvs
section
variable {X : Cx}
end
end DL
set_option Elab.async false
set_option linter.all false
set_option maxRecDepth 100000
set_option maxHeartbeats 4000000
namespace PySem.W
open Lean Elab Tactic Meta PySem PySem.Calls PyProof.Rows PyProof.V PySem.Spec
section
variable {prog : Program} {w : World} {A : Around} {E : Value → Shared → Prop} {s : Shared}
end
end PySem.W
namespace DL
open PySem PySem.Spec PyProof.Rows
open L2 hiding St V
end DL
set_option Elab.async false
set_option linter.all false
set_option maxRecDepth 100000
set_option maxHeartbeats 1000000
namespace DL
open PySem PySem.Spec PyProof.Rows
open L2 hiding St V
section
variable {X : Cx}
end
end DL
set_option Elab.async false
set_option linter.all false
set_option maxRecDepth 100000
set_option maxHeartbeats 4000000
namespace PySem
namespace EXK
open PySem.W PySem.Calls PyProof.Rows PySem.HandSPX
section
variable {M : Model} {A : Around} {E : Value → Shared → Prop} {h : Heap} {g : Array GenState} {d : Drawn} {t : Nat} {os : OsState}
variable {nm q : Str} {C N : Addr} {bs bm bmB : List Value} {hdct : Bool} {sn : List Str} {sub : List Value} {ab : Bool} {col : Option Bool} {dd : Option Addr} {k0 k1 k2 k3 k5 : Option Value} {B newId initId : String}
end
section
variable {prog : Program} {w : World} {A : Around} {E : Value → Shared → Prop} {R : Result → Shared → Prop} {h : Heap} {g : Array GenState} {d : Drawn} {t : Nat} {os : OsState}
variable {nm q : Str} {C N : Addr} {bs bm bmB : List Value} {hdct : Bool} {sn : List Str} {sub : List Value} {ab : Bool} {col : Option Bool} {dd : Option Addr} {k0 k1 k2 k3 k5 : Option Value} {B newId initId : String}
end
end EXK
end PySem
namespace DL
open PySem PySem.Spec PyProof.Rows
open L2 hiding St V
open PySem.EXB
section
variable {X : Cx} {o e : Expr} {es : List Expr} {to te : TE} {ta : TA} {f : Str} {p p' p1 p2 pos : Pos} {B newId initId : String} {bm : List Value} {nB : Str}
end
end DL
set_option Elab.async false
set_option linter.all false
set_option maxRecDepth 100000
set_option maxHeartbeats 4000000
namespace DL
open PySem PySem.Spec PyProof.Rows
open L2 hiding St V
open PySem.EXB
theorem ExL.len {K : KF} {V : Hp} : ∀ {vs : List Vl} {l : List (Str × D)}, ExL K V vs l → vs.length = l.length
  | [], [], _ => rfl
  | _ :: _, _ :: _, h => by rw [List.length_cons, List.length_cons, ExL.len h.2]
  | [], _ :: _, h => h.elim
  | _ :: _, [], h => h.elim
theorem ExL.get {K : KF} {V : Hp} : ∀ {vs : List Vl} {l : List (Str × D)}, ExL K V vs l → ∀ (i : Nat) (p : Str × D), l[i]? = some p → ∃ v, vs[i]? = some v ∧ ExcAt K V v p.1 p.2
  | [], [], _, i, p, e => by simp at e
  | v :: _, _ :: _, h, 0, p, e => by
    cases e
    exact ⟨v, rfl, h.1⟩
  | _ :: _, _ :: _, h, i + 1, p, e => ExL.get h.2 i p (by simpa using e)
  | [], _ :: _, h, _, _, _ => h.elim
  | _ :: _, [], h, _, _, _ => h.elim
theorem ExL.app {K : KF} {V : Hp} : ∀ {vs us : List Vl} {l m : List (Str × D)}, ExL K V vs l → ExL K V us m → ExL K V (vs ++ us) (l ++ m)
  | [], _, [], _, _, k => k
  | _ :: _, _, _ :: _, _, h, k => ⟨h.1, ExL.app h.2 k⟩
  | [], _, _ :: _, _, h, _ => h.elim
  | _ :: _, _, [], _, h, _ => h.elim
section
variable {X : Cx} {EX : EXP} {σ : L2.St} {w : Wd} {env : Env} {g : P} {d : D} {C : Addr} {f c newId : String} {bm : List Value} {Q : VK}
end
section
variable {X : Cx} {EX : EXP} {e : Expr} {es : List Expr} {g : P} {C : Addr} {newId : String} {c f : Str} {bm : List Value} {l : List (Str × P)} {st : Stmt} {i j s1 s2 : Nat}
end
def Cel.fr : Cel → Bool
  | .ex _ _ => true
  | .exs _ => true
  | _ => false
section
variable {X : Cx} {EX : EXP} {CX : CXT} {k : Nat} {f : Addr} {fd : FuncData} {ps : List Str} {E : XK} {x : Str} {p pos : Pos} {e : Expr} {F : Fn} {i : Nat} {EXf : XK → EXP}
end
end DL
set_option Elab.async false
set_option linter.all false
set_option maxRecDepth 100000
set_option maxHeartbeats 4000000
namespace DL
open PySem PySem.Spec PyProof.Rows
open L2 hiding St V
structure LobF (K : KF) (C : Addr) : Prop where
  cl : Cls K C
  ns : PySem.W.nsIn K mainGlobals "Lobby" = some (some (.ref C))
  nB : NoAttr K C "own_begin"
  nO : NoAttr K C "own_operations"
  nL : NoAttr K C "own_log"
theorem LobF.same {K : KF} {C C' : Addr} (T : LobF K C) (h : PySem.W.nsIn K mainGlobals "Lobby" = some (some (.ref C'))) : C' = C := by
  have := h.symm.trans T.ns
  injection this with this
  injection this with this
  injection this
section
variable {X : Cx} {EX : EXP} {e : Expr} {pos : Pos} {i : Nat} {C : Addr} {q : Bool} {st : Stmt}
end
section
variable {X : Cx} {EX : EXP} {CX : CXT} {k : Nat} {f C : Addr} {fd : FuncData} {ps : List Str} {E : XK} {x m : Str} {p pos apos : Pos} {o e : Expr} {es : List Expr} {ms : MA} {F : Fn} {i : Nat} {Q : VK} {σ : L2.St}
end
end DL
set_option Elab.async false
set_option linter.all false
set_option maxRecDepth 100000
set_option maxHeartbeats 4000000
namespace DL
open PySem PySem.Spec PyProof.Rows
open L2 hiding St V
structure NewL (K : KF) (H0 V H : Hp) (v : Vl) (b : D) (a1 a2 : Addr) : Prop where
  ob : ∃ (a C dx : Addr) (fs : List (Str × Vl)) (v0 : Vl), v = .ref a ∧ PySem.W.nsIn K mainGlobals "Lobby" = some (some (.ref C)) ∧ V a = some (.ins C dx fs) ∧
    fs.lookup ("own_begin" : Str) = some v0 ∧ fs.lookup ("own_operations" : Str) = some (.ref a1) ∧ fs.lookup ("own_log" : Str) = some (.ref a2) ∧ (∀ f, f ≠ ("own_begin" : Str) → f ≠ ("own_operations" : Str) → f ≠ ("own_log" : Str) → fs.lookup f = none) ∧ Rp V v0 b
  ne : a1 ≠ a2
  n1 : H0 a1 = none
  n2 : H0 a2 = none
  v1 : V a1 = none
  v2 : V a2 = none
  h1 : H a1 = some (.lst [])
  h2 : H a2 = some (.lst [])
theorem NewL.str {K : KF} {H0 : Hp} {σ : L2.St} {env : Env} {w : Wd} {v : Vl} {b : D} {a1 a2 : Addr} {i : Nat} (n : NewL K H0 w.V w.H v b a1 a2) (s : StR K σ env w) (m1 : ∀ k : Nat, w.as[k]? ≠ some a1) (m2 : ∀ k : Nat, w.as[k]? ≠ some a2) :
    StR K (σ.set i (some v)) (env.set i (some (.ob b w.bx.length (w.bx.length + 1)))) { w with as := w.as ++ [a1] ++ [a2], bx := w.bx ++ [.live (.list [])] ++ [.live (.list [])] } := by
  have s1 := s.more n.v1 (d := .list []) ⟨[], n.h1, .nil⟩ m1
  have s2 := s1.more (p := a2) n.v2 (d := .list []) ⟨[], n.h2, .nil⟩ fun k hk => by
    have hk : (w.as ++ [a1])[k]? = some a2 := hk
    rcases Nat.lt_or_ge k w.as.length with hl | hl
    · rw [List.getElem?_append_left hl] at hk; exact m2 k hk
    · rw [List.getElem?_append_right hl] at hk
      cases hz : k - w.as.length with
      | zero => rw [hz] at hk; cases hk; exact n.ne rfl
      | succ z => rw [hz] at hk; cases hk
  refine s2.set ?_
  obtain ⟨a, C, dx, fs, v0, e, nC, hV, l1, l2, l3, l4, r⟩ := n.ob
  refine ⟨a, C, dx, a1, a2, fs, v0, e, nC, hV, l1, l2, l3, l4, r, ?_, ?_⟩
  · show (w.as ++ [a1] ++ [a2])[w.bx.length]? = some a1
    rw [← s.lenB]; simp
  · show (w.as ++ [a1] ++ [a2])[w.bx.length + 1]? = some a2
    rw [← s.lenB]; simp
theorem NewL.gr {K : KF} {w w' : Wd} {v : Vl} {b : D} {a1 a2 : Addr} (n : NewL K w.H w'.V w'.H v b a1 a2) (g : Gr w w') (hl : w'.as.length = w'.bx.length) :
    Gr w { w' with as := w'.as ++ [a1] ++ [a2], bx := w'.bx ++ [.live (.list [])] ++ [.live (.list [])] } :=
  (g.newBox (d := .list []) n.n1 hl).newBox (d := .list []) n.n2 (by show (w'.as ++ [a1]).length = (w'.bx ++ [Box.live (.list [])]).length; rw [List.length_append, List.length_append, hl]; rfl)
theorem NewL.back {K : KF} {H0 H1 V H : Hp} {v : Vl} {b : D} {a1 a2 : Addr} (n : NewL K H1 V H v b a1 a2) (h : ∀ a, H1 a = none → H0 a = none) : NewL K H0 V H v b a1 a2 := ⟨n.ob, n.ne, h _ n.n1, h _ n.n2, n.v1, n.v2, n.h1, n.h2⟩
section
variable {X : Cx} {EX : EXP} {CX : CXT} {k : Nat} {f C : Addr} {fd : FuncData} {ps : List Str} {E : XK} {x : Str} {p pos : Pos} {e : Expr} {m : M}
end
end DL
set_option Elab.async false
set_option linter.all false
set_option maxRecDepth 100000
set_option maxHeartbeats 4000000
namespace PySem.W
open PySem PySem.Spec PySem.Calls PyProof.Rows
end PySem.W
namespace DL
open PySem PySem.Spec PyProof.Rows
open L2 hiding St V
section
variable {P : Program} {w : World} {K : KF} {mg : Str → Option Value} {base : Heap}
end
section
variable {X : Cx} {EX : EXP} {CX : CXT} {k : Nat} {f C : Addr} {fd : FuncData} {ps : List Str} {E : XK} {x : Str} {p pos : Pos} {e : Expr} {es : List Expr} {ms : MA} {F : Fn}
end
end DL
set_option Elab.async false
set_option linter.all false
set_option maxRecDepth 100000
set_option maxHeartbeats 4000000
namespace DL
open PySem PySem.Spec PyProof.Rows
open L2 hiding St V
structure TupS (K : KF) (a : Addr) (ss : List Str) : Prop where
  ex : ∃ (o : Obj) (its : Array Value) (n : Nat), K.lookup a = some o ∧ o.cls = .type "tuple" ∧ o.data = .seq its n ∧ its.size ≤ sizeLine ∧ Vals (ss.map L2.V.str) its.toList
theorem NewL.at {K : KF} {H0 : Hp} {σ : L2.St} {env : Env} {w : Wd} {v : Vl} {b : D} {a1 a2 : Addr} (n : NewL K H0 w.V w.H v b a1 a2) (s : StR K σ env w) : ObAt K (w.as ++ [a1] ++ [a2]) w.V v b w.bx.length (w.bx.length + 1) := by
  obtain ⟨a, C, dx, fs, v0, e, nC, hV, l1, l2, l3, l4, r⟩ := n.ob
  refine ⟨a, C, dx, a1, a2, fs, v0, e, nC, hV, l1, l2, l3, l4, r, ?_, ?_⟩
  · rw [← s.lenB]; simp
  · rw [← s.lenB]; simp
section
variable {X : Cx} {EX : EXP} {st : Stmt} {m m0 m1 : M} {i j l : Nat}
end
end DL
set_option Elab.async false
set_option linter.all false
set_option maxRecDepth 100000
set_option maxHeartbeats 4000000
namespace DL
open PySem PySem.Spec PyProof.Rows
open L2 hiding St V
section
variable {P : Program} {w : World} {K : KF} {mg : Str → Option Value} {base : Heap}
end
section
variable {X : Cx} {EX : EXP} {CX : CXT} {k : Nat} {f C : Addr} {fd : FuncData} {ps : List Str} {E : XK} {x : Str} {p pos : Pos} {e : Expr} {es : List Expr} {F : Fn} {st : Stmt} {i j : Nat}
end
end DL
set_option Elab.async false
set_option linter.all false
set_option maxRecDepth 100000
set_option maxHeartbeats 4000000
namespace DL
open PySem PySem.Spec PyProof.Rows
open L2 hiding St V
end DL
set_option Elab.async false
set_option linter.all false
set_option maxRecDepth 100000
set_option maxHeartbeats 4000000
namespace DL
open PySem PySem.Spec PyProof.Rows
open L2 hiding St V
end DL
set_option Elab.async false
set_option linter.all false
set_option maxRecDepth 100000
set_option maxHeartbeats 4000000
namespace DL
open PySem PySem.Spec PyProof.Rows
open L2 hiding St V
open PySem.EXB
section
variable {X : Cx} {CX : CXT} {B newId initId : String} {bm : List Value} {x : Str} {C fI : Addr} {k : Nat} {fd : FuncData} {ps : List Str} {sp : Sp} {ds : List Value} {dvs : List Vl} {e : Expr} {es : List Expr} {ta : TA} {p pos : Pos}
end
section
variable {X : Cx} {E : XK} {newId : String} {cS fS : Str} {bm : List Value} {C : Addr} {e : Expr} {g : P} {pos : Pos}
end
section
variable {P : Program} {w : World} {K : KF} {mg : Str → Option Value} {base : Heap}
end
section
variable {X : Cx} {CX : CXT} {k : Nat} {f C : Addr} {fd : FuncData} {ps : List Str} {E : XK} {x : Str} {p pos : Pos} {e : Expr} {es : List Expr} {gs : PL} {F : Fn}
end
end DL
set_option Elab.async false
set_option linter.all false
set_option maxRecDepth 100000
set_option maxHeartbeats 1000000
namespace DL
open PySem PySem.Spec PyProof.Rows
open L2 hiding St V
end DL
set_option Elab.async false
set_option linter.all false
set_option maxRecDepth 100000
set_option maxHeartbeats 4000000
namespace DL
open PySem PySem.Spec PyProof.Rows
open L2 hiding St V
def foldN : List D → Nat → List (D × Nat) → List (D × Nat)
  | [], _, acc => acc
  | d :: ds, n, acc => foldN ds (n + 1) (putN acc d n)
def Prs (w : Wd) : List D → List Addr → Nat → Prop
  | [], [], _ => True
  | d :: ds, t :: ts, n => (∃ (kk : List Key) (ka l : Addr), d = kT kk ∧ w.H t = some (.tup [.ref ka, .ref l]) ∧ (∀ k : Nat, w.as[k]? ≠ some t) ∧ w.V ka = some (.tup (kk.map kV)) ∧ w.as[n]? = some l) ∧ Prs w ds ts (n + 1)
  | _, _, _ => False
theorem Prs.mono {w w' : Wd} (hh : ∀ (t : Addr) (o : List Vl), w.H t = some (.tup o) → (∀ k : Nat, w.as[k]? ≠ some t) → w'.H t = some (.tup o)) (ha : ∀ (k : Nat) (a : Addr), w.as[k]? = some a → w'.as[k]? = some a) (hn : ∀ (k : Nat) (a : Addr), w'.as[k]? = some a → w.as[k]? = some a ∨ w.H a = none) (sv : Sub w.V w'.V) :
    ∀ {ds : List D} {ts : List Addr} {n : Nat}, Prs w ds ts n → Prs w' ds ts n
  | [], [], _, _ => trivial
  | _ :: _, _ :: _, _, ⟨⟨kk, ka, l, e, h1, h2, h3, h4⟩, r⟩ => ⟨⟨kk, ka, l, e, hh _ _ h1 h2, fun k z => (hn k _ z).elim (h2 k) (fun q => by rw [q] at h1; cases h1), sv _ _ h3, ha _ _ h4⟩, Prs.mono hh ha hn sv r⟩
  | [], _ :: _, _, h => h.elim
  | _ :: _, [], _, h => h.elim
theorem Prs.grow {w w' : Wd} (g : Gr w w') {ds : List D} {ts : List Addr} {n : Nat} (p : Prs w ds ts n) : Prs w' ds ts n :=
  p.mono (fun t o h k => g.hn t _ h fun ⟨j, _, h1, _, _⟩ => k j h1) g.as g.asn g.v
theorem Prs.snoc {w : Wd} {d : D} {t : Addr} {kk : List Key} {ka l : Addr} (e : d = kT kk) (h1 : w.H t = some (.tup [.ref ka, .ref l])) (h2 : ∀ k : Nat, w.as[k]? ≠ some t) (h3 : w.V ka = some (.tup (kk.map kV))) :
    ∀ {ds : List D} {ts : List Addr} {n : Nat}, Prs w ds ts n → w.as[n + ds.length]? = some l → Prs w (ds ++ [d]) (ts ++ [t]) n
  | [], [], n, _, h4 => ⟨⟨kk, ka, l, e, h1, h2, h3, h4⟩, trivial⟩
  | _ :: ds, _ :: _, n, ⟨h, r⟩, h4 => ⟨h, Prs.snoc e h1 h2 h3 r (by rw [show n + 1 + ds.length = n + (ds.length + 1) by omega]; exact h4)⟩
  | [], _ :: _, _, h, _ => h.elim
  | _ :: _, [], _, h, _ => h.elim
theorem Prs.pairs {K : KF} {w : Wd} (vh : Sub w.V w.H) : ∀ {ds : List D} {ts : List Addr} {n : Nat}, Prs w ds ts n → ∃ kvs : List (List Key × Vl), Paired (fun p (kv : List Key × Vl) => ∃ b, SqT K w.H p [.ref b, kv.2] ∧ w.H b = some (.tup (kv.1.map kV))) ts kvs ∧
    ∀ {acc : List (List Key × Vl)} {es : List (D × Nat)}, RefT w.as acc es → RefT w.as (mergeT acc kvs) (foldN ds n es)
  | [], [], _, _ => ⟨[], .nil, fun r => r⟩
  | _ :: _, _ :: _, n, ⟨⟨kk, ka, l, e, h1, h2, h3, h4⟩, r⟩ => by
    obtain ⟨kvs, hp, f⟩ := Prs.pairs (K := K) vh r
    subst e
    exact ⟨(kk, .ref l) :: kvs, .cons ⟨ka, SqT.of h1, vh _ _ h3⟩ hp, fun r => f (r.put h4)⟩
  | [], _ :: _, _, h => h.elim
  | _ :: _, [], _, h => h.elim
end DL
set_option Elab.async false
set_option linter.all false
set_option maxRecDepth 100000
set_option maxHeartbeats 1000000
namespace DL
open PySem PySem.Spec PyProof.Rows
open L2 hiding St V
section
variable {X : Cx} {EX : EXP} {CX : CXT} {k : Nat} {f : Addr} {fd : FuncData} {ps : List Str} {E : XK} {x : Str} {p pos : Pos} {F : Fn} {ms : MA} {gs : PL}
end
end DL
set_option Elab.async false
set_option linter.all false
set_option maxRecDepth 100000
set_option maxHeartbeats 1000000
namespace DL
open PySem PySem.Spec PyProof.Rows
open L2 hiding St V
def F__law_take : Fn := runF 2 4 (sSeq (sIf (lift (pBin dGt (pBIx 0 (pC (.int 0))) (pC (.int 0)))) (sSeq (sAsg (gN 2) (lift (pBin dMod (pBIx 0 (pC (.int 0))) (pVar 1)))) (sSeq (sSetL 0 (lift (pBin dFdiv (pBIx 0 (pC (.int 0))) (pVar 1))) (lift (pC (.int 0)))) (sRet (lift (pVar 2))))) sNil) (sSeq (sSetL 0 (lift (pBin dAdd (pBIx 0 (pC (.int 2))) (pC (.int 1)))) (lift (pC (.int 2)))) (sSeq (sAsg (gN 3) (lift (pBin dMod (pBin dAdd (pBIx 0 (pC (.int 1))) (pBin dMul (pC (.int 1442695040888963407)) (pBIx 0 (pC (.int 2))))) (pC (.int 2305843009213693951))))) (sSeq (sAsg (gN 3) (lift (pBin dMod (pBin dAdd (pBin dAdd (pBin dMul (pVar 3) (pVar 3)) (pBin dMul (pC (.int 39373)) (pBIx 0 (pC (.int 2))))) (pC (.int 7))) (pC (.int 2305843009213693921))))) (sSeq (sAsg (gN 3) (lift (pBin dMod (pBin dAdd (pBin dMul (pVar 3) (pBin dAdd (pBin dFdiv (pVar 3) (pC (.int 65536))) (pC (.int 3)))) (pBIx 0 (pC (.int 2)))) (pC (.int 2305843009213693907))))) (sRet (lift (pBin dMod (pBin dFdiv (pVar 3) (pC (.int 1048576))) (pVar 1)))))))))
def F__law_any_crowd : Fn := runF 2 3 (sRet (mApp cTuple (maCons (mComp (liftA (plOf range2 (plCons (pC (.int 1)) (plCons (pBin dAdd (pVar 1) (pC (.int 1))) plNil)))) [2] (gN 2) (mBin dEq (mCallB F__law_take 0 (liftA (plCons (pC (.int 2)) plNil))) (lift (pC (.int 0)))) (lift (pVar 2))) maNil)))
def F__law_box : Fn := runFO 2 3 (sAsg (gN 2) (lift (pBin dIx (pVar 0) (pVar 1)))) (lift (pApp gLstD (plCons (pBin dMul (pApp cAbs (plCons (pVar 2) plNil)) (pApp cInt (plCons (pBin dGe (pApp cAbs (plCons (pVar 2) plNil)) (pBin dPow (pC (.int 10)) (pC (.int 18)))) plNil))) (plCons (pBin dAdd (pBin dAdd (pBin dMod (pVar 2) (pC (.int 2305843009213693951))) (pBin dMul (pC (.int 15485863)) (pVar 1))) (pC (.int 13))) (plCons (pC (.int 0)) plNil)))))
def F__law_cells : Fn := runF 2 5 (sSeq (sNew 2 (lift (pOr (pApp cList (plCons (pXSl 0 ppNone (ppSome (pVar 1))) plNil)) (pApp gLstD (plCons (pC (.int 0)) plNil))))) (sSeq (sFor (gT 2 (gsCons (gN 3) (gsCons (gN 4) gsNil))) (liftA (plOf enumL (plCons (pXSl 0 (ppSome (pVar 1)) (ppSome (pC (.int 63)))) plNil))) (sSetL 2 (lift (pBin dAdd (pBIx 2 (pBin dMod (pVar 3) (pVar 1))) (pBin dMul (pVar 4) (pBin dAdd (pVar 3) (pC (.int 2)))))) (lift (pBin dMod (pVar 3) (pVar 1))))) (sRet (mFrz 2))))
def F__law_of : Fn := runF 2 2 (sRet (mBin dIx (lift (pVar 1)) (mCallB F__law_take 0 (liftA (plCons (pApp cLen (plCons (pVar 1) plNil)) plNil)))))
def F__law_tour : Fn := runF 3 7 (sSeq (sParL2 3 4 (mCallB F__law_take 0 (liftA (plCons (pC (.int 5)) plNil))) (lift (pApp gLstD plNil))) (sSeq (sAsg (gN 5) (mComp (liftA (plOf range1 (plCons (pC (.int 3)) plNil))) [6] (gN 6) (lift pTrue) (mBin dAdd (lift (pC (.int 1))) (mCallB F__law_take 0 (liftA (plCons (pVar 1) plNil)))))) (sSeq (sFor (gN 6) (maOf range1 (maCons (mCallB F__law_take 0 (liftA (plCons (pBin dAdd (pVar 2) (pC (.int 1))) plNil))) maNil)) (sDo (mBopL fAppend 4 (maCons (mIf (lift (pBin dEq (pVar 3) (pC (.int 0)))) (mCallB F__law_of 0 (liftA (plCons (pVar 5) plNil))) (mBin dAdd (lift (pC (.int 1))) (mCallB F__law_take 0 (liftA (plCons (pVar 1) plNil))))) maNil)))) (sRet (mBin dIx (mApp gLstD (maCons (mFrz 4) (maCons (mFrz 4) (maCons (mFrz 4) (maCons (mApp cSorted (maCons (mFrz 4) maNil)) (maCons (mUn dRev (mApp cSorted (maCons (mFrz 4) maNil))) maNil)))))) (lift (pVar 3)))))))
def F__law_rooms : Fn := runF 1 4 (sSeq (sAsg (gN 1) (lift (pApp gLstD (plCons (pApp gTupD plNil) plNil)))) (sSeq (sFor (gN 2) (liftA (plOf range2 (plCons (pC (.int 1)) (plCons (pBin dAdd (pVar 0) (pC (.int 1))) plNil)))) (sAsg (gN 1) (lift (pBin dAdd (pVar 1) (pComp (plSeq (pVar 1)) [3] (gN 3) pTrue (pBin dAdd (pVar 3) (pApp gTupD (plCons (pVar 2) plNil)))))))) (sRet (lift (pApp cSorted (plCons (pVar 1) plNil))))))
def F_all_rooms : Fn := runF 1 4 (sSeq (sAsg (gN 1) (lift (pApp gLstD (plCons (pApp gTupD plNil) plNil)))) (sSeq (sFor (gN 2) (liftA (plOf range3 (plCons (pVar 0) (plCons (pC (.int 0)) (plCons (pUn dNeg (pC (.int 1))) plNil))))) (sAsg (gN 1) (lift (pBin dAdd (pBin dAdd (pApp gLstD (plCons (pApp gTupD plNil) plNil)) (pComp (plSeq (pVar 1)) [3] (gN 3) pTrue (pApp gTupD (plCons (pVar 2) (plStar (pVar 3) plNil))))) (pSl (pVar 1) (ppSome (pC (.int 1))) ppNone))))) (sRet (lift (pVar 1)))))
def F_chains_from_links : Fn := runF 1 4 (sSeq (sNew 1 mEmK) (sSeq (sFor (gN 2) (liftA (plSeq (pApp cSorted (plCons (pVar 0) plNil)))) (sSeq (sAsg (gN 3) (lift (pBin dIxD (pVar 0) (pVar 2)))) (sSetD 1 (mBin dAdd (mIf (lift (pBin dGt (pVar 3) (pC (.int 0)))) (mBopD fPop 1 (liftA (plCons (pVar 3) plNil))) (lift (pApp gTupD plNil))) (lift (pApp gTupD (plCons (pVar 2) plNil)))) (lift (pVar 2))))) (sRet (mApp cTuple (maCons (mUn dSortV (mFrz 1)) maNil)))))
def F_linked_visit : Fn := runF 2 5 (sSeq (sParF2 2 3 (lift (pApp cDict (plCons (pVar 0) plNil))) (lift (pMeth fGetD (pVar 0) (plCons (pVar 1) (plCons (pVar 1) plNil))))) (sSeq (sSetD 2 (lift (pC (.int 0))) (lift (pVar 1))) (sSeq (sFor (gN 4) (liftA (plSeq (pApp cSorted (plCons (pVar 0) plNil)))) (sIf (lift (pAnd (pBin dGt (pVar 4) (pVar 1)) (pBin dLt (pBin dIxD (pVar 0) (pVar 4)) (pVar 3)))) (sPutN 2 3 (pVar 4) (plCons (pVar 3) (plCons (pBin dIxD (pVar 0) (pVar 4)) plNil))) sNil)) (sRet (mFrz 2)))))
def F_chains_of : Fn := runF 1 3 (sSeq (sAsg (gN 1) mEmK) (sSeq (sFor (gN 2) (liftA (plSeq (pVar 0))) (sAsg (gN 1) (lift (pApp (fP F_linked_visit) (plCons (pVar 1) (plCons (pVar 2) plNil)))))) (sRet (lift (pApp (fP F_chains_from_links) (plCons (pVar 1) plNil))))))
def F_people_up_to : Fn := runF 2 3 (sRet (lift (pApp cLen (plCons (pComp (plSeq (pVar 0)) [2] (gN 2) (pBin dLe (pVar 2) (pVar 1)) (pVar 2)) plNil))))
def F_leaver : Fn := runF 2 4 (sSeq (sAsg (gN 2) (lift (pComp (plSeq (pVar 0)) [3] (gN 3) (pBin dGt (pVar 3) (pVar 1)) (pVar 3)))) (sRet (lift (pIf (pOr (pBin dIn (pVar 1) (pVar 0)) (pBin dEq (pApp cLen (plCons (pVar 2) plNil)) (pC (.int 0)))) (pC .none) (pBin dIx (pVar 2) (pC (.int 0)))))))
def F_entered : Fn := runF 2 4 (sSeq (sAsg (gN 2) (lift (pApp (fP F_leaver) (plCons (pVar 0) (plCons (pVar 1) plNil))))) (sRet (lift (pApp cTuple (plCons (pApp cSorted (plCons (pCompD (plSeq (pBin dAdd (pApp cList (plCons (pVar 0) plNil)) (pApp gLstD (plCons (pVar 1) plNil)))) [3] (gN 3) (pBin dNe (pVar 3) (pVar 2)) (pVar 3) (pC (.bool true))) plNil)) plNil)))))
def F_rooms_along : Fn := runF 2 4 (sSeq (sNew 2 (lift (pApp gLstD (plCons (pApp cTuple (plCons (pVar 0) plNil)) plNil)))) (sSeq (sFor (gN 3) (liftA (plSeq (pVar 1))) (sDo (mBopL fAppend 2 (liftA (plCons (pApp (fP F_entered) (plCons (pBIx 2 (pUn dNeg (pC (.int 1)))) (plCons (pVar 3) plNil))) plNil))))) (sRet (mFrz 2))))
def F_departures : Fn := runF 2 6 (sSeq (sAsg (gN 2) (lift (pApp (fP F_rooms_along) (plCons (pVar 0) (plCons (pVar 1) plNil))))) (sSeq (sAsg (gN 3) (lift (pComp (plOf enumA (plCons (pVar 1) plNil)) [4, 5] (gT 2 (gsCons (gN 4) (gsCons (gN 5) gsNil))) pTrue (pApp (fP F_leaver) (plCons (pBin dIx (pVar 2) (pVar 4)) (plCons (pVar 5) plNil)))))) (sRet (lift (pComp (plOf enumA (plCons (pVar 3) plNil)) [4, 5] (gT 2 (gsCons (gN 4) (gsCons (gN 5) gsNil))) (pBin dIsNot (pVar 5) (pC .none)) (pApp gTupD (plCons (pVar 4) (plCons (pVar 5) plNil))))))))
def F_meeting : Fn := runF 3 5 (sRet (lift (pApp cLen (plCons (pComp (plSeq (pVar 0)) [3] (gN 3) (pApp cAny (plCons (pComp (plSeq (pVar 3)) [4] (gN 4) pTrue (pChain dLe dLe (pVar 1) (pVar 4) (pVar 2))) plNil)) (pVar 3)) plNil))))
def F_ranks_in : Fn := runF 1 3 (sRet (lift (pApp cSorted (plCons (pComp2 (plSeq (pVar 0)) [1, 2] (gN 1) pTrue (plSeq (pVar 1)) [2] (gN 2) pTrue (pVar 2)) plNil))))
def F_result : Fn := runF 2 6 (sSeq (sNew 2 (lift (pApp gLstD plNil))) (sSeq (sFor (gN 3) (liftA (plSeq (pApp cSorted (plCons (pCompD (plSeq (pBin dAdd (pApp (fP F_ranks_in) (plCons (pVar 0) plNil)) (pApp cList (plCons (pVar 1) plNil)))) [3] (gN 3) pTrue (pVar 3) (pC (.bool true))) plNil)))) (sSeq (sAsg (gN 4) (lift (pBin dAdd (pApp gLstD (plCons (pC (.int 0)) plNil)) (pComp (plSeq (pVar 1)) [5] (gN 5) (pBin dLe (pVar 5) (pVar 3)) (pVar 5))))) (sIf (lift (pBin dGt (pApp cMax (plCons (pComp (plSeq (pVar 4)) [5] (gN 5) pTrue (pBin dAdd (pApp (fP F_people_up_to) (plCons (pVar 1) (plCons (pVar 5) plNil))) (pApp (fP F_meeting) (plCons (pVar 0) (plCons (pBin dAdd (pVar 5) (pC (.int 1))) (plCons (pVar 3) plNil)))))) plNil)) (pPeek (pApp cLen (plCons (pVar 2) plNil))))) (sDo (mBopL fAppend 2 (liftA (plCons (pVar 3) plNil)))) sNil))) (sRet (mApp cTuple (maCons (mFrz 2) maNil)))))
def F_room_after : Fn := runF 2 2 (sRet (lift (pBin dIx (pApp (fP F_rooms_along) (plCons (pVar 0) (plCons (pVar 1) plNil))) (pUn dNeg (pC (.int 1))))))
end DL
set_option Elab.async false
set_option linter.all false
set_option maxRecDepth 100000
set_option maxHeartbeats 1000000
namespace DL
open PySem PySem.Spec PyProof.Rows
open L2 hiding St V
def F_is_integer : Fn := runF 1 1 (sRet (lift (pAnd (pUn (uIs .int) (pVar 0)) (pUn dNot (pUn (uIs .bool) (pVar 0))))))
def F_is_rank : Fn := runF 2 2 (sRet (lift (pAnd (pApp (fP F_is_integer) (plCons (pVar 1) plNil)) (pChain dLe dLe (pC (.int 1)) (pVar 1) (pVar 0)))))
def F_is_entry : Fn := runF 2 2 (sRet (lift (pOr (pBin dIs (pVar 1) (pC .none)) (pOr (pAnd (pUn (uIs .str) (pVar 1)) (pBin dEq (pVar 1) (pC (.str (PySem.Str.ofString "?"))))) (pApp (fP F_is_rank) (plCons (pVar 0) (plCons (pVar 1) plNil)))))))
def F_is_seen : Fn := runF 3 4 (sRet (lift (pAnd (pUn (uIs .list) (pVar 2)) (pAnd (pBin dEq (pApp cLen (plCons (pVar 2) plNil)) (pApp cLen (plCons (pVar 1) plNil))) (pApp cAll (plCons (pComp (plSeq (pVar 2)) [3] (gN 3) pTrue (pApp (fP F_is_entry) (plCons (pVar 0) (plCons (pVar 3) plNil)))) plNil))))))
end DL
set_option Elab.async false
set_option linter.all false
set_option maxRecDepth 100000
set_option maxHeartbeats 1000000
namespace DL
open PySem PySem.Spec PyProof.Rows
open L2 hiding St V
end DL
set_option Elab.async false
set_option linter.all false
set_option maxRecDepth 100000
set_option maxHeartbeats 1000000
namespace DL
open PySem PySem.Spec PyProof.Rows
open L2 hiding St V
def F_heaps : Fn := runF 2 5 (sSeq (sNewH 2 (.refD [])) (sSeq (sFor (gN 3) (liftA (plSeq (pApp (fP F_all_rooms) (plCons (pVar 0) plNil)))) (sSeq (sAsg (gN 4) (lift (pApp (fP F_result) (plCons (pVar 1) (plCons (pVar 3) plNil))))) (sSeq (sIf (lift (pNotInH 2 (pVar 4))) (sSetH 2 (lift (pApp gLstD plNil)) (pVar 4)) sNil) (sDo (mBopH fAppend (bDk 2 (pVar 4)) (liftA (plCons (pVar 3) plNil))))))) (sRet (mFrzG 2))))
def F_fits : Fn := runF 3 6 (sSeq (sAsg (gN 3) (lift (pApp cDictP (plCons (pApp (fP F_departures) (plCons (pVar 0) (plCons (pVar 1) plNil))) plNil)))) (sRet (lift (pApp cAll (plCons (pComp (plOf enumA (plCons (pVar 2) plNil)) [4, 5] (gT 2 (gsCons (gN 4) (gsCons (gN 5) gsNil))) pTrue (pOr (pBin dEq (pVar 5) (pC (.str (PySem.Str.ofString "?")))) (pBin dEq (pMeth fGet1 (pVar 3) (plCons (pVar 4) plNil)) (pVar 5)))) plNil)))))
def F_rooms_seen : Fn := runF 3 4 (sRet (lift (pComp (plSeq (pApp (fP F_all_rooms) (plCons (pVar 0) plNil))) [3] (gN 3) (pApp (fP F_fits) (plCons (pVar 3) (plCons (pVar 1) (plCons (pVar 2) plNil)))) (pVar 3))))
def F_ends_seen : Fn := runF 3 4 (sRet (lift (pApp cSortedT (plCons (pCompT (plSeq (pApp (fP F_rooms_seen) (plCons (pVar 0) (plCons (pVar 1) (plCons (pVar 2) plNil))))) [3] (gN 3) pTrue (pApp (fP F_room_after) (plCons (pVar 3) (plCons (pVar 1) plNil))) (pC (.bool true))) plNil))))
def F_first_wrong : Fn := runF 3 6 (sSeq (sAsg (gN 3) (lift (pApp (fP F_all_rooms) (plCons (pVar 0) plNil)))) (sSeq (sFor (gN 4) (liftA (plOf range1 (plCons (pApp cLen (plCons (pVar 2) plNil)) plNil))) (sSeq (sAsg (gN 3) (lift (pComp (plSeq (pVar 3)) [5] (gN 5) (pApp (fP F_fits) (plCons (pVar 5) (plCons (pSl (pVar 1) ppNone (ppSome (pBin dAdd (pVar 4) (pC (.int 1))))) (plCons (pSl (pVar 2) ppNone (ppSome (pBin dAdd (pVar 4) (pC (.int 1))))) plNil)))) (pVar 5)))) (sIf (lift (pBin dEq (pApp cLen (plCons (pVar 3) plNil)) (pC (.int 0)))) (sRet (lift (pVar 4))) sNil))) (sRet (lift (pC .none)))))
def F_results_of : Fn := runF 2 2 (sRet (lift (pApp cSortedT (plCons (pApp (fP F_heaps) (plCons (pVar 0) (plCons (pVar 1) plNil))) plNil))))
end DL
set_option Elab.async false
set_option linter.all false
set_option maxRecDepth 100000
set_option maxHeartbeats 1000000
namespace DL
open PySem PySem.Spec PyProof.Rows
open L2 hiding St V
@[simp] theorem takeB_one (b : Box) (r : Bx) : takeB (b :: r) 1 = [strip b] := rfl
@[simp] theorem takeB_zero (b : Bx) : takeB b 0 = [] := rfl
@[simp] theorem takeB_nil (n : Nat) : takeB [] n = [] := by cases n <;> rfl
@[simp] theorem strip_live (d : D) : strip (.live d) = .live d := rfl
@[simp] theorem strip_froz (d : D) : strip (.froz d) = .froz d := rfl
structure Good (j n : Nat) (d : D) : Prop where
  plain : plainD d = true
  lay : d.canLay0 = true
  dep : d.depth ≤ j
  sh : d.showable = true
  len : d.shown.length ≤ n
theorem Good.mono {j n j' n' : Nat} {d : D} (h : Good j n d) (hj : j ≤ j') (hn : n ≤ n') : Good j' n' d := ⟨h.plain, h.lay, Nat.le_trans h.dep hj, h.sh, Nat.le_trans h.len hn⟩
theorem Good.ok {j n : Nat} {d : D} (h : Good j n d) (hj : j ≤ 64) : okD d = true := by
  unfold okD SeqAt.shaped
  rw [h.plain, h.lay, decide_eq_true (Nat.le_trans h.dep hj)]
  rfl
theorem Good.rep {j n : Nat} {d : D} (h : Good j n d) (hj : j ≤ 64) (hn : n ≤ SZ) : cRepr [d] = some (.str d.shown) := by
  show (if okD d && d.showable && decide (d.shown.length ≤ SZ) then some (PyData.str d.shown) else none) = _
  rw [h.ok hj, h.sh, decide_eq_true (Nat.le_trans h.len hn)]
  rfl
theorem good_none : Good 0 4 .none := ⟨rfl, by simp [PyData.canLay0], by simp [PyData.depth], by simp [PyData.showable], by rw [PyData.shown]; decide⟩
theorem good_int {i : Int} {k : Nat} (h0 : 0 ≤ i) (hk : 0 < k) (hk2 : k ≤ 500) (h : i < 10 ^ k) : Good 0 k (.int i) := by
  refine ⟨rfl, by simp [PyData.canLay0], by simp [PyData.depth], ?_, ?_⟩
  · simp only [PyData.showable, decide_eq_true_eq]
    have h2 : i.natAbs < 2 ^ 1920 := by
      have h3 : i < (2 : Int) ^ 1920 := by
        refine Int.lt_of_lt_of_le h ?_
        have h4 : (10 : Nat) ^ k ≤ 2 ^ 1920 := by
          refine Nat.le_trans (Nat.pow_le_pow_right (by decide) hk2) ?_
          decide +kernel
        exact_mod_cast h4
      have h5 : (i.natAbs : Int) = i := Int.natAbs_of_nonneg h0
      have h6 : ((i.natAbs : Nat) : Int) < ((2 ^ 1920 : Nat) : Int) := by rw [h5]; exact_mod_cast h3
      exact_mod_cast h6
    by_cases hz : i.natAbs = 0
    · rw [hz]; decide
    · exact (Nat.log2_lt hz).mpr h2
  · rw [PyData.shown]
    exact toString_length_le h0 hk h
theorem textFrom_le : ∀ (ts : List Str) (k : Nat) (acc : Str), (textFrom k acc ts).length ≤ acc.length + piled ts
  | [], k, acc => by rw [piled_nil]; exact Nat.le_refl _
  | t :: r, k, acc => by
    rw [piled_cons]
    refine Nat.le_trans (textFrom_le r (k + 1) _) ?_
    rw [strLen_append, strLen_append]
    have : (((if k > 0 then ", " else "" : String) : Str)).length ≤ 2 := by split <;> decide
    omega
theorem tupleText_le (ts : List Str) : (tupleText ts).length ≤ piled ts + 3 := by
  unfold tupleText
  rw [strLen_append, strLen_append]
  have e1 : ((("(" : String) : Str)).length = 1 := rfl
  have e3 : (((if ts.length == 1 then ",)" else ")" : String) : Str)).length ≤ 2 := by split <;> decide
  have e4 : (Str.join ", " ts).length ≤ piled ts := by
    by_cases h : ts = []
    · subst h; decide
    · have := join_length_add ts h; omega
  omega
theorem all_good {j n : Nat} : ∀ {ds : List D}, (∀ d ∈ ds, Good j n d) → plainD.plainL ds = true ∧ PyData.canLayAll0 ds = true ∧ PyData.depthAll ds ≤ j ∧ PyData.showableAll ds = true ∧ piled (PyData.shownAll ds) ≤ ds.length * (n + 2)
  | [], _ => ⟨rfl, by simp [PyData.canLayAll0], by simp [PyData.depthAll], by simp [PyData.showableAll], by simp [PyData.shownAll, piled_nil]⟩
  | d :: ds, h => by
    obtain ⟨a, b, c, e, f⟩ := all_good (ds := ds) fun x hx => h x (List.mem_cons_of_mem _ hx)
    have g := h d List.mem_cons_self
    refine ⟨?_, ?_, ?_, ?_, ?_⟩
    · rw [plainD.plainL, g.plain, a]; rfl
    · rw [PyData.canLayAll0, g.lay, b]; rfl
    · rw [PyData.depthAll]; exact Nat.max_le.mpr ⟨g.dep, c⟩
    · rw [PyData.showableAll, g.sh, e]; rfl
    · rw [PyData.shownAll, piled_cons, List.length_cons, Nat.succ_mul]
      have := g.len
      omega
theorem good_list {j n : Nat} {ds : List D} (h : ∀ d ∈ ds, Good j n d) : Good (j + 1) (ds.length * (n + 2) + 3) (.list ds) := by
  obtain ⟨a, b, c, e, f⟩ := all_good h
  refine ⟨a, by rw [PyData.canLay0]; exact b, by rw [PyData.depth]; omega, by rw [PyData.showable]; exact e, ?_⟩
  rw [PyData.shown]
  unfold listText
  rw [strLen_append]
  have := textFrom_le (PyData.shownAll ds) 0 ("[" : String)
  have e1 : ((("[" : String) : Str)).length = 1 := rfl
  have e2 : ((("]" : String) : Str)).length = 1 := rfl
  omega
theorem good_tuple {j n : Nat} {ds : List D} (h : ∀ d ∈ ds, Good j n d) : Good (j + 1) (ds.length * (n + 2) + 3) (.tuple ds) := by
  obtain ⟨a, b, c, e, f⟩ := all_good h
  refine ⟨a, by rw [PyData.canLay0]; exact b, by rw [PyData.depth]; omega, by rw [PyData.showable]; exact e, ?_⟩
  rw [PyData.shown]
  have := tupleText_le (PyData.shownAll ds)
  omega
theorem compP_map {i : Nat} {pc pe : P} {env : Env} {b : Bx} {q : Int → Bool} {g : Int → D} (hi : i < env.length)
    (h : ∀ x, pc (env.set i (some (.dat (.int x)))) b = some (.bool (q x))) (h2 : ∀ x, pe (env.set i (some (.dat (.int x)))) b = some (g x)) : ∀ c : List Int, compP (gN i) pc pe env b (c.map .int) = some ((c.filter q).map g)
  | [] => rfl
  | x :: c => by
    have ih := compP_map hi h h2 c
    rw [List.map_cons, compP, ih]
    unfold gN
    rw [if_pos hi]
    show (pc _ b).bind _ = _
    rw [h x]
    cases hq : q x with
    | true =>
      rw [List.filter_cons_of_pos hq]
      simp [truthD, h2 x]
    | false =>
      rw [List.filter_cons_of_neg (by rw [hq]; exact Bool.false_ne_true)]
      simp [truthD]
theorem loop_keep {f : Tg} {body : S} (I : Env → Bx → Prop) : ∀ (ds : List D) (env : Env) (b : Bx), I env b → (∀ d ∈ ds, ∀ env b, I env b → ∃ env1, f d env = some env1 ∧ ∃ env2 b2, body env1 b = some (.nx env2, b2) ∧ I env2 b2) →
    ∃ env2 b2, loopS f body ds env b = some (.nx env2, b2) ∧ I env2 b2
  | [], env, b, h, _ => ⟨env, b, rfl, h⟩
  | d :: ds, env, b, h, k => by
    obtain ⟨env1, e1, env2, b2, e2, h2⟩ := k d List.mem_cons_self env b h
    obtain ⟨env3, b3, e3, h3⟩ := loop_keep I ds env2 b2 h2 fun d hd => k d (List.mem_cons_of_mem _ hd)
    refine ⟨env3, b3, ?_, h3⟩
    rw [loopS, e1]
    show (match body env1 b with
      | some (.nx e, b) => loopS f body ds e b
      | some (.ct e, b) => loopS f body ds e b
      | some (.bk e, b) => some (.nx e, b)
      | o => o) = _
    rw [e2]
    exact e3
inductive All2 (R : D → D → Prop) : List D → List D → Prop where
  | nil : All2 R [] []
  | cons {x y : D} {xs ys : List D} (h : R x y) (r : All2 R xs ys) : All2 R (x :: xs) (y :: ys)
theorem comp_keep {f : Tg} {mc me : M} {env : Env} (I : Bx → Prop) (R : D → D → Prop) : ∀ (ds : List D) (b : Bx), I b →
    (∀ d ∈ ds, ∀ b, I b → ∃ env1, f d env = some env1 ∧ ∃ t b1, mc env1 b = some (.ok t, b1) ∧ I b1 ∧ ∃ q, truthD t = some q ∧ (q = true → ∃ y b2, me env1 b1 = some (.ok y, b2) ∧ I b2 ∧ R d y)) →
    ∃ ys b2, compL f mc me env ds b = some (ys, b2) ∧ I b2 ∧ ∃ es : List D, es.Sublist ds ∧ All2 R es ys
  | [], b, h, _ => ⟨[], b, rfl, h, [], List.Sublist.refl _, .nil⟩
  | d :: ds, b, h, k => by
    obtain ⟨env1, e1, t, b1, e2, h1, q, e3, k1⟩ := k d List.mem_cons_self b h
    rw [compL, e1]
    dsimp only
    rw [e2]
    dsimp only
    rw [e3]
    cases q with
    | false =>
      obtain ⟨ys, b2, e4, h4, es, s, r⟩ := comp_keep I R ds b1 h1 fun d hd => k d (List.mem_cons_of_mem _ hd)
      exact ⟨ys, b2, e4, h4, es, s.cons _, r⟩
    | true =>
      obtain ⟨y, b2, e5, h5, r1⟩ := k1 rfl
      dsimp only
      rw [e5]
      dsimp only
      obtain ⟨ys, b3, e4, h4, es, s, r⟩ := comp_keep I R ds b2 h5 fun d hd => k d (List.mem_cons_of_mem _ hd)
      rw [e4]
      exact ⟨y :: ys, b3, rfl, h4, d :: es, s.cons₂ _, .cons r1 r⟩
end DL
set_option Elab.async false
set_option linter.all false
set_option maxRecDepth 100000
set_option maxHeartbeats 2000000
namespace DL
open PySem PySem.Spec PyProof.Rows
open L2 hiding St V
def Box3 (d : D) : Prop := ∃ a b c : Int, d = .list [.int a, .int b, .int c]
theorem at0 {α : Type} (x y z : α) : atI [x, y, z] 0 = some x := rfl
theorem at3_1 {α : Type} (x y z : α) : atI [x, y, z] 1 = some y := rfl
theorem at3_2 {α : Type} (x y z : α) : atI [x, y, z] 2 = some z := rfl
theorem mulOk_l {i j : Int} (h : i.natAbs < 2 ^ 64) : mulOk i j = true := by
  unfold mulOk
  rw [decide_eq_true h]
  rfl
theorem mod_small {x m : Int} (h0 : 0 < m) (h : m < 2 ^ 64) : (x % m).natAbs < 2 ^ 64 := by
  have h1 := Int.emod_nonneg x (by omega : m ≠ 0)
  have h2 := Int.emod_lt_of_pos x h0
  omega
theorem dAdd_i (i j : Int) : dAdd (.int i) (.int j) = some (.int (i + j)) := rfl
theorem dSub_i (i j : Int) : dSub (.int i) (.int j) = some (.int (i - j)) := rfl
theorem dMul_i {i j : Int} (h : mulOk i j = true) : dMul (.int i) (.int j) = some (.int (i * j)) := by simp [dMul, h]
theorem dMod_i {i j : Int} (h : 0 < j) : dMod (.int i) (.int j) = some (.int (i % j)) := by simp [dMod, h]
theorem dFdiv_i {i j : Int} (h : 0 < j) (hl : j.natAbs.log2 < 9000) : dFdiv (.int i) (.int j) = some (.int (i / j)) := by simp [dFdiv, h, hl]
theorem dGt_i (i j : Int) : dGt (.int i) (.int j) = some (.bool (decide (j < i))) := rfl
theorem dGe_i (i j : Int) : dGe (.int i) (.int j) = some (.bool (decide (j ≤ i))) := rfl
theorem dLt_i (i j : Int) : dLt (.int i) (.int j) = some (.bool (decide (i < j))) := rfl
theorem dLe_i (i j : Int) : dLe (.int i) (.int j) = some (.bool (decide (i ≤ j))) := rfl
theorem dEq_i (i j : Int) : dEq (.int i) (.int j) = some (.bool (i == j)) := by
  simp [dEq, bothStr, okD, plainD, SeqAt.shaped, PyData.canLay0, PyData.depth, eqS]
theorem dNe_i (i j : Int) : dNe (.int i) (.int j) = some (.bool (!(i == j))) := by
  simp [dNe, bothStr, okD, plainD, SeqAt.shaped, PyData.canLay0, PyData.depth, eqS]
theorem take_ok (a b c n : Int) (hn : 0 < n) (hl : n.natAbs.log2 < 9000) : ∃ r d, F__law_take [.bx 0, .dat (.int n)] [.live (.list [.int a, .int b, .int c])] = some (.ok (.int r), [.live d]) ∧ Box3 d ∧ 0 ≤ r ∧ r < n := by
  by_cases ha : 0 < a
  · refine ⟨a % n, .list [.int (a / n), .int b, .int c], ?_, ⟨_, _, _, rfl⟩, Int.emod_nonneg _ (by omega), Int.emod_lt_of_pos _ hn⟩
    simp [F__law_take, runF, sSeq, sIf, sAsg, sRet, sSetL, lift, pBin, pBIx, pC, pVar, at0, dGt, ha, truthD, dMod, hn, gN, dFdiv, hl, ixN]
  · obtain ⟨c1, e1⟩ : ∃ c1, c1 = c + 1 := ⟨_, rfl⟩
    obtain ⟨b1, e2⟩ : ∃ b1, b1 = (b + 1442695040888963407 * c1) % 2305843009213693951 := ⟨_, rfl⟩
    obtain ⟨b2, e3⟩ : ∃ b2, b2 = (b1 * b1 + 39373 * c1 + 7) % 2305843009213693921 := ⟨_, rfl⟩
    obtain ⟨b3, e4⟩ : ∃ b3, b3 = (b2 * (b2 / 65536 + 3) + c1) % 2305843009213693907 := ⟨_, rfl⟩
    have m1 : mulOk 1442695040888963407 c1 = true := mulOk_l (by decide)
    have m2 : mulOk b1 b1 = true := mulOk_l (by rw [e2]; exact mod_small (by decide) (by decide))
    have m3 : mulOk 39373 c1 = true := mulOk_l (by decide)
    have m4 : mulOk b2 (b2 / 65536 + 3) = true := mulOk_l (by rw [e3]; exact mod_small (by decide) (by decide))
    have n1 := dMul_i m1
    have n2 := dMul_i m2
    have n3 := dMul_i m3
    have n4 := dMul_i m4
    have f1 := fun i => dMod_i (i := i) (j := 2305843009213693951) (by decide)
    have f2 := fun i => dMod_i (i := i) (j := 2305843009213693921) (by decide)
    have f3 := fun i => dMod_i (i := i) (j := 2305843009213693907) (by decide)
    have f4 := fun i => dMod_i (i := i) hn
    have g1 := fun i => dFdiv_i (i := i) (j := 65536) (by decide) (by decide)
    have g2 := fun i => dFdiv_i (i := i) (j := 1048576) (by decide) (by decide)
    refine ⟨b3 / 1048576 % n, .list [.int a, .int b, .int c1], ?_, ⟨_, _, _, rfl⟩, Int.emod_nonneg _ (by omega), Int.emod_lt_of_pos _ hn⟩
    simp only [F__law_take]
    simp [runF, sSeq, sIf, sAsg, sRet, sSetL, lift, pBin, pBIx, pC, pVar, at0, at3_1, at3_2, dGt_i, ha, truthD, gN, ixN, sNil, dAdd_i, ← e1, ← e2, ← e3, ← e4, n1, n2, n3, n4, f1, f2, f3, f4, g1, g2]
theorem ixN_nat {n k : Nat} (h : k < n) : ixN n (k : Int) = some k := by
  unfold ixN
  simp
  omega
theorem atI_map {cs : List Int} {k : Nat} (h : k < cs.length) : atI (cs.map PyData.int) (k : Int) = some (.int cs[k]) := by
  refine atI_nat ?_
  rw [List.getElem?_map, List.getElem?_eq_getElem h]
  rfl
theorem box_ok {cs : List Int} {k : Nat} (h : k < cs.length) : ∃ d, fP F__law_box [.list (cs.map .int), .int k] = some d ∧ Box3 d := by
  have e1 := atI_map h
  generalize cs[k] = x at e1
  obtain ⟨ax, hx⟩ : ∃ ax, ax = if x < 0 then -x else x := ⟨_, rfl⟩
  obtain ⟨tb, ht⟩ : ∃ tb : Bool, tb = decide ((1000000000000000000 : Int) ≤ ax) := ⟨_, rfl⟩
  obtain ⟨ti, hi⟩ : ∃ ti : Int, ti = if tb = true then 1 else 0 := ⟨_, rfl⟩
  have h1 : ti.natAbs < 2 ^ 64 := by rw [hi]; cases tb <;> decide
  have m1 : mulOk ax ti = true := by
    unfold mulOk
    rw [decide_eq_true h1]
    simp
  have m2 : mulOk 15485863 (k : Int) = true := mulOk_l (by decide)
  have n1 := dMul_i m1
  have n2 := dMul_i m2
  have f1 := fun i => dMod_i (i := i) (j := 2305843009213693951) (by decide)
  have p1 : dPow (.int 10) (.int 18) = some (.int 1000000000000000000) := by rfl
  have p2 : dGe (.int ax) (.int 1000000000000000000) = some (.bool tb) := by rw [dGe_i, ← ht]
  have p3 : cInt [.bool tb] = some (.int ti) := by rw [hi]; rfl
  have p4 : cAbs [.int x] = some (.int ax) := by rw [hx]; rfl
  refine ⟨.list [.int (ax * ti), .int (x % 2305843009213693951 + 15485863 * k + 13), .int 0], ?_, _, _, _, rfl⟩
  simp only [F__law_box, fP]
  simp [runFO, sAsg, lift, pBin, pVar, dIx, e1, gN, pApp, plCons, plNil, p4, pC, p1, p2, p3, n1, f1, n2, dAdd_i, gLstD, (by decide : (3 : Nat) ≤ SZ)]
theorem cutL_map (ns : List Int) (lo hi : Option Int) : cutL (ns.map PyData.int) lo hi = (cutL ns lo hi).map .int := by
  unfold cutL
  rw [List.length_map, List.map_take, List.map_drop]
theorem cutL_to {α : Type} (xs : List α) (m : Nat) : cutL xs none (some (m : Int)) = xs.take m := by
  unfold cutL
  rw [HT.sIx_none, HT.sIx_nat, List.drop_zero, Nat.sub_zero]
  rcases Nat.le_total m xs.length with h | h
  · rw [Nat.min_eq_left h]
  · rw [Nat.min_eq_right h, List.take_length, List.take_of_length_le h]
theorem cutL_from {α : Type} (xs : List α) (m n : Nat) (h : xs.length ≤ m) : cutL xs (some (m : Int)) (some (n : Int)) = [] := by
  unfold cutL
  rw [HT.sIx_nat, HT.sIx_nat, Nat.min_eq_right h, List.drop_length, List.take_nil]
theorem cutL_len {α : Type} (xs : List α) (lo hi : Option Int) : (cutL xs lo hi).length ≤ xs.length := by
  unfold cutL
  rw [List.length_take, List.length_drop]
  omega
theorem enum_mem {xs : List Int} {d : D} (h : d ∈ enumD (xs.map PyData.int)) : ∃ (i : Nat) (x : Int), i < xs.length ∧ d = .tuple [.int i, .int x] := by
  obtain ⟨i, hi⟩ := List.mem_iff_getElem?.mp h
  obtain ⟨y, h1, h2⟩ := enumD_get hi
  rw [List.getElem?_map] at h1
  obtain ⟨x, h3, h4⟩ := Option.map_eq_some_iff.mp h1
  subst h4
  exact ⟨i, x, (List.getElem?_eq_some_iff.mp h3).1, h2⟩
theorem cells_ok {ns : List Int} {m : Nat} (h0 : 0 < m) (hm : m ≤ 63) (hl : ns.length ≤ 63) : ∃ cs : List Int, 0 < cs.length ∧ cs.length ≤ 63 ∧ F__law_cells [.ext (.list (ns.map .int)), .dat (.int m)] [] = some (.ok (.list (cs.map .int)), []) := by
  let d0 : List Int := if ns.take m = [] then [0] else ns.take m
  have e0 : pOr (pApp cList (plCons (pXSl 0 ppNone (ppSome (pVar 1))) plNil)) (pApp gLstD (plCons (pC (.int 0)) plNil)) [some (.ext (.list (ns.map .int))), some (.dat (.int m)), none, none, none] [] = some (.list (d0.map .int)) := by
    simp [pOr, pBind, pApp, plCons, plNil, pXSl, ppNone, ppSome, pVar, cutL_map, cutL_to, cList, truthD]
    by_cases h : ns.take m = []
    · rw [← List.map_take, h]
      simp [d0, h, pTru, pApp, plCons, plNil, pC, gLstD]
    · cases hh : ns.take m with
      | nil => exact absurd hh h
      | cons y r =>
        rw [← List.map_take, hh]
        simp [d0, hh, pTru]
  have hd0 : 0 < d0.length ∧ d0.length ≤ 63 ∧ (m < ns.length → d0.length = m) := by
    by_cases h : ns.take m = []
    · refine ⟨by simp [d0, h], by simp [d0, h], fun hq => ?_⟩
      have := congrArg List.length h
      rw [List.length_take, List.length_nil] at this
      omega
    · have e : d0 = ns.take m := by simp [d0, h]
      rw [e]
      have hp : 0 < (ns.take m).length := List.length_pos_iff.mpr h
      refine ⟨hp, ?_, fun hq => ?_⟩ <;> (rw [List.length_take] at *; omega)
  let it : List Int := cutL ns (some (m : Int)) (some 63)
  have ei : plOf enumL (plCons (pXSl 0 (ppSome (pVar 1)) (ppSome (pC (.int 63)))) plNil) [some (.ext (.list (ns.map .int))), some (.dat (.int m)), some (.bx 0), none, none] [.live (.list (d0.map .int))] = some (enumD (it.map .int)) := by
    simp [plOf, plCons, plNil, pXSl, ppSome, pVar, pC, cutL_map, enumL, it]
  obtain ⟨env2, b2, e2, cs, hcs, hb, y3, y4, he⟩ := loop_keep (f := gT 2 (gsCons (gN 3) (gsCons (gN 4) gsNil))) (body := sSetL 2 (lift (pBin dAdd (pBIx 2 (pBin dMod (pVar 3) (pVar 1))) (pBin dMul (pVar 4) (pBin dAdd (pVar 3) (pC (.int 2)))))) (lift (pBin dMod (pVar 3) (pVar 1))))
    (fun env b => ∃ cs : List Int, cs.length = d0.length ∧ b = [.live (.list (cs.map .int))] ∧ ∃ y3 y4, env = [some (.ext (.list (ns.map .int))), some (.dat (.int m)), some (.bx 0), y3, y4]) (enumD (it.map .int)) [some (.ext (.list (ns.map .int))), some (.dat (.int m)), some (.bx 0), none, none] [.live (.list (d0.map .int))] ⟨d0, rfl, rfl, none, none, rfl⟩ (by
      rintro d hd env b ⟨cs, hcs, rfl, y3, y4, rfl⟩
      obtain ⟨i, x, hi, rfl⟩ := enum_mem hd
      have hml : m < ns.length := by
        rcases Nat.lt_or_ge m ns.length with h | h
        · exact h
        · have : it = [] := cutL_from ns m 63 h
          rw [this] at hi
          cases hi
      have hil : i < 63 := Nat.lt_of_lt_of_le hi (Nat.le_trans (cutL_len _ _ _) hl)
      have hk : i % m < cs.length := by rw [hcs, hd0.2.2 hml]; exact Nat.mod_lt _ h0
      have f1 : dMod (.int i) (.int m) = some (.int ((i : Int) % (m : Int))) := dMod_i (by omega)
      have a1 : atI (cs.map PyData.int) ((i : Int) % (m : Int)) = _ := atI_map hk
      have m1 : dMul (.int x) (.int ((i : Int) + 2)) = some (.int (x * ((i : Int) + 2))) := dMul_i (by
        unfold mulOk
        have : ((i : Int) + 2).natAbs < 2 ^ 64 := by omega
        rw [decide_eq_true this]
        simp)
      refine ⟨_, rfl, [some (.ext (.list (ns.map .int))), some (.dat (.int m)), some (.bx 0), some (.dat (.int i)), some (.dat (.int x))], [.live (.list ((cs.set (i % m) (cs[i % m] + x * ((i : Int) + 2))).map .int))], ?_, _, ?_, rfl, _, _, rfl⟩
      · have z : ixN cs.length ((i : Int) % (m : Int)) = _ := ixN_nat hk
        simp [sSetL, lift, pBin, pBIx, pVar, pC, f1, a1, m1, dAdd_i, List.map_set, z]
      · rw [List.length_set]; exact hcs)
  refine ⟨cs, by rw [hcs]; exact hd0.1, by rw [hcs]; exact hd0.2.1, ?_⟩
  simp only [F__law_cells]
  simp [runF, sSeq, sNew, lift, e0, sFor, liftA, ei, e2, he, hb, sRet, mFrz]
theorem fP_runF (np nn : Nat) (s : S) (ds : List D) : fP (runF np nn s) ds = if ds.length = np then (match s ((ds.map Cel.dat).map some ++ List.replicate (nn - np) none) [] with
    | some (.rt d, _) => some d
    | some (.nx _, _) => some .none
    | _ => none) else none := by
  unfold fP runF
  rw [List.length_map]
  by_cases h : ds.length = np
  · rw [if_pos h, if_pos h]
    cases s ((ds.map Cel.dat).map some ++ List.replicate (nn - np) none) [] with
    | none => rfl
    | some q => obtain ⟨o, b⟩ := q; cases o <;> rfl
  · rw [if_neg h, if_neg h]
theorem asInts_map : ∀ l : List Int, asInts (l.map .int) = some l
  | [] => rfl
  | x :: l => by rw [List.map_cons, asInts, asInts_map l]; rfl
theorem pBin_a (f : D → D → Option D) (a b : P) (env : Env) (bx : Bx) : pBin f a b env bx = (a env bx).bind fun x => (b env bx).bind fun y => f x y := rfl
theorem pUn_a (f : D → Option D) (a : P) (env : Env) (bx : Bx) : pUn f a env bx = (a env bx).bind f := rfl
theorem pVar_a (i : Nat) (env : Env) (b : Bx) : pVar i env b = match env[i]? with
  | some (some (.dat d)) => some d
  | some (some (.bx k)) => (match b[k]? with | some (.froz d) => some d | _ => none)
  | _ => none := rfl
theorem pC_a (d : D) (env : Env) (b : Bx) : pC d env b = some d := rfl
theorem pApp_a (g : List D → Option D) (ms : PL) (env : Env) (b : Bx) : pApp g ms env b = (ms env b).bind g := rfl
theorem plNil_a (env : Env) (b : Bx) : plNil env b = some [] := rfl
theorem plCons_a (m : P) (r : PL) (env : Env) (b : Bx) : plCons m r env b = (m env b).bind fun x => (r env b).map fun xs => x :: xs := rfl
theorem plSeq_a (m : P) (env : Env) (b : Bx) : plSeq m env b = (m env b).bind seqOf := rfl
theorem pComp_a (pi : PL) (vs : List Nat) (f : Tg) (pc pe : P) (env : Env) (b : Bx) : pComp pi vs f pc pe env b = (pi env b).bind fun ds => (compP f pc pe (wipeE env vs) b ds).map fun r => .list r := rfl
theorem pCompD_a (pi : PL) (vs : List Nat) (f : Tg) (pc pk pe : P) (env : Env) (b : Bx) : pCompD pi vs f pc pk pe env b = (pi env b).bind fun ds => (compDP f pc pk pe (wipeE env vs) b ds []).map fun r => .dict r := rfl
theorem lift_a (g : P) (env : Env) (b : Bx) : lift g env b = (g env b).map fun d => (.ok d, b) := rfl
theorem sSeq_a (s t : S) (env : Env) (b : Bx) : sSeq s t env b = match s env b with
  | some (.nx e, b) => t e b
  | o => o := rfl
theorem sAsg_a (f : Tg) (m : M) (env : Env) (b : Bx) : sAsg f m env b = match m env b with
  | none => none
  | some (.exc c d, b) => some (.exc c d, b)
  | some (.ok d, b) => (f d env).map fun e => (.nx e, b) := rfl
theorem sRet_a (m : M) (env : Env) (b : Bx) : sRet m env b = match m env b with
  | none => none
  | some (.exc c d, b) => some (.exc c d, b)
  | some (.ok d, b) => some (.rt d, b) := rfl
theorem gN_a (i : Nat) (d : D) (env : Env) : gN i d env = if i < env.length then some (env.set i (some (.dat d))) else none := rfl
def Small (c : List Int) : Prop := c.length ≤ 13 ∧ ∀ x ∈ c, 0 ≤ x ∧ x < 10 ^ 3
theorem Small.good {c : List Int} (h : Small c) : Good 1 68 (.list (c.map .int)) ∧ Good 1 68 (.tuple (c.map .int)) := by
  have g : ∀ d ∈ c.map PyData.int, Good 0 3 d := fun d hd => by
    obtain ⟨x, hx, rfl⟩ := List.mem_map.mp hd
    exact good_int (h.2 x hx).1 (by decide) (by decide) (h.2 x hx).2
  have hl : (c.map PyData.int).length * (3 + 2) + 3 ≤ 68 := by rw [List.length_map]; have := h.1; omega
  exact ⟨(good_list g).mono (Nat.le_refl _) hl, (good_tuple g).mono (Nat.le_refl _) hl⟩
theorem Small.sub {c e : List Int} (h : Small c) (s : e.Sublist c) : Small e := ⟨Nat.le_trans s.length_le h.1, fun x hx => h.2 x (s.subset hx)⟩
theorem any_int (c : List Int) (n : Int) : ((c.map PyData.int).any fun z => PyData.eqv z (.int n)) = decide (n ∈ c) := by
  induction c with
  | nil => rfl
  | cons x c ih =>
    rw [List.map_cons, List.any_cons, ih, PyData.eqv]
    by_cases h : x = n
    · subst h; simp
    · have : ¬ n = x := fun e => h e.symm
      simp [h, this]
theorem flat_ints (c : List Int) : (c.map PyData.int).all flatD = true := by
  induction c with
  | nil => rfl
  | cons x c ih => rw [List.map_cons, List.all_cons, ih]; rfl
theorem okD_int (n : Int) : okD (.int n) = true := by simp [okD, plainD, SeqAt.shaped, PyData.canLay0, PyData.depth]
theorem dIn_tup (c : List Int) (n : Int) : dIn (.int n) (.tuple (c.map .int)) = some (.bool (decide (n ∈ c))) := by
  simp only [dIn, inD, flat_ints, any_int]
  rfl
theorem dIn_lst {c : List Int} (n : Int) (h : Small c) : dIn (.int n) (.list (c.map .int)) = some (.bool (decide (n ∈ c))) := by
  simp only [dIn, inD, okD_int, h.good.1.ok (by decide), any_int]
  rfl
theorem at_head {α : Type} (x : α) (xs : List α) : atI (x :: xs) 0 = some x := atI_nat (j := 0) rfl
def IsSeq (s : D) (c : List Int) : Prop := s = .tuple (c.map .int) ∨ s = .list (c.map .int)
theorem IsSeq.dIn {s : D} {c : List Int} (h : IsSeq s c) (n : Int) (hs : Small c) : dIn (.int n) s = some (.bool (decide (n ∈ c))) := by
  rcases h with rfl | rfl
  · exact dIn_tup c n
  · exact dIn_lst n hs
theorem IsSeq.seq {s : D} {c : List Int} (h : IsSeq s c) : seqOf s = some (c.map .int) := by
  rcases h with rfl | rfl <;> rfl
theorem IsSeq.lst {s : D} {c : List Int} (h : IsSeq s c) : cList [s] = some (.list (c.map .int)) := by
  rcases h with rfl | rfl <;> rfl
def optD : Option Int → D
  | none => .none
  | some i => .int i
def goneI (c : List Int) (n : Int) : Option Int := if n ∈ c then none else match c.filter (fun x => decide (n < x)) with
  | [] => none
  | y :: _ => some y
theorem leaver_ok {s : D} {c : List Int} (h : IsSeq s c) (n : Int) (hs : Small c) : fP F_leaver [s, .int n] = some (optD (goneI c n)) := by
  have e1 : compP (gN 3) (pBin dGt (pVar 3) (pVar 1)) (pVar 3) [some (.dat s), some (.dat (.int n)), none, none] [] (c.map .int) = some ((c.filter fun x => decide (n < x)).map .int) :=
    compP_map (by decide : 3 < 4) (fun x => rfl) (fun x => rfl) c
  have e2 : dIn (.int n) s = _ := h.dIn n hs
  simp only [F_leaver, fP]
  simp [runF, sSeq, sAsg, lift, pComp, plSeq, pVar, h.seq, wipeE, e1, gN, sRet, pIf, pOr, pBind, pBin, e2, goneI, truthD]
  by_cases hn : n ∈ c
  · simp [hn, pTru, pC, optD]
  · cases hf : c.filter fun x => decide (n < x) with
    | nil => simp [hn, pTru, pC, optD, pApp, plCons, plNil, cLen, dEq_i, truthD, pBin, pVar]
    | cons y r =>
      have : (((r.length : Int) + 1) == 0) = false := by rw [beq_eq_false_iff_ne]; omega
      simp [hn, pTru, pC, optD, pApp, plCons, plNil, cLen, dEq_i, truthD, this, dIx, pBin, pVar, at_head]
def Asc (c : List Int) : Prop := c.Pairwise (· < ·)
theorem leD_int (a b : Int) : leD (.int a) (.int b) = decide (a ≤ b) := by
  show PySem.W.dataLe false (fun b : Int => PyData.int b) a b = _
  rw [PySem.W.dataLe_int]
theorem ints_all (c : List Int) : (c.map PyData.int).all isIntD = true := by
  induction c with
  | nil => rfl
  | cons x c ih => rw [List.map_cons, List.all_cons, ih]; rfl
theorem sortD_ints {c : List Int} (h : c.length ≤ SZ) : sortD (c.map .int) = some ((c.mergeSort fun a b => decide (a ≤ b)).map .int) := by
  rw [sortD_def]
  rw [ints_all, List.length_map, decide_eq_true h]
  simp only [Bool.true_or, Bool.and_self, if_true]
  rw [← List.map_mergeSort (r := fun a b => decide (a ≤ b)) (s := leD) (f := PyData.int) (fun a _ b _ => (leD_int a b).symm)]
theorem sort_uniq {c l : List Int} (nd : c.Nodup) (h : ∀ k, k ∈ c ↔ k ∈ l) : c.mergeSort (fun a b => decide (a ≤ b)) = uniqI l := by
  have p := List.mergeSort_perm c fun a b => decide (a ≤ b)
  have s : (c.mergeSort fun a b => decide (a ≤ b)).Pairwise fun a b => decide (a ≤ b) = true := List.pairwise_mergeSort (fun a b c h1 h2 => by simp at *; omega) (fun a b => by simp; omega) c
  have nd2 := p.nodup_iff.mpr nd
  refine sorted_unique ?_ (uniq_spec l).1 fun k => by rw [p.mem_iff, h, (uniq_spec l).2]
  refine (s.and nd2).imp fun {a b} h => ?_
  have h1 : a ≤ b := by simpa using h.1
  have h2 := h.2
  omega
theorem Asc.nodup {c : List Int} (h : Asc c) : c.Nodup := h.imp fun {a b} h => by omega
theorem Asc.sorted {c : List Int} (h : Asc c) : c.mergeSort (fun a b => decide (a ≤ b)) = c :=
  (sort_uniq h.nodup fun _ => Iff.rfl).trans (sorted_unique (uniq_spec c).1 h fun k => (uniq_spec c).2 k)
def comeI (c : List Int) (n : Int) : List Int := uniqI ((c.filter fun x => decide (some x ≠ goneI c n)) ++ [n])
theorem dNe_opt (x : Int) (g : Option Int) : dNe (.int x) (optD g) = some (.bool (decide (some x ≠ g))) := by
  cases g with
  | none => simp [optD, dNe, bothStr, okD, plainD, SeqAt.shaped, PyData.canLay0, PyData.depth, eqS]
  | some y =>
    simp only [optD]
    rw [dNe_i]
    by_cases h : x = y
    · subst h; simp
    · simp [h]
theorem gone_gt {c : List Int} {n y : Int} (h : goneI c n = some y) : n < y ∧ y ∈ c ∧ n ∉ c := by
  unfold goneI at h
  split at h
  · cases h
  · rename_i hn
    cases hf : c.filter fun x => decide (n < x) with
    | nil => rw [hf] at h; cases h
    | cons z r =>
      rw [hf] at h
      cases h
      have : y ∈ c.filter fun x => decide (n < x) := by rw [hf]; exact List.mem_cons_self
      rw [List.mem_filter] at this
      exact ⟨by simpa using this.2, this.1, hn⟩
def dedupI : List Int → List Int → List Int
  | acc, [] => acc
  | acc, x :: l => dedupI (if x ∈ acc then acc else acc ++ [x]) l
theorem dedupI_spec : ∀ (l acc : List Int), acc.Nodup → (dedupI acc l).Nodup ∧ (∀ k, k ∈ dedupI acc l ↔ k ∈ acc ∨ k ∈ l) ∧ (dedupI acc l).length ≤ acc.length + l.length
  | [], acc, h => ⟨h, fun k => by simp [dedupI], by simp [dedupI]⟩
  | x :: l, acc, h => by
    unfold dedupI
    by_cases hx : x ∈ acc
    · rw [if_pos hx]
      obtain ⟨a, b, c⟩ := dedupI_spec l acc h
      refine ⟨a, fun k => ?_, by rw [List.length_cons]; omega⟩
      rw [b, List.mem_cons]
      constructor
      · rintro (q | q)
        · exact .inl q
        · exact .inr (.inr q)
      · rintro (q | rfl | q)
        · exact .inl q
        · exact .inl hx
        · exact .inr q
    · rw [if_neg hx]
      have nd : (acc ++ [x]).Nodup := by
        rw [List.nodup_append]
        refine ⟨h, by simp, fun a ha b hb => ?_⟩
        rw [List.mem_singleton] at hb
        subst hb
        exact fun e => hx (e ▸ ha)
      obtain ⟨a, b, c⟩ := dedupI_spec l (acc ++ [x]) nd
      refine ⟨a, fun k => ?_, by rw [List.length_append, List.length_singleton] at c; rw [List.length_cons]; omega⟩
      rw [b, List.mem_append, List.mem_singleton, List.mem_cons, or_assoc]
theorem put_ints (acc : List Int) (x : Int) (v : D) : putD (acc.map fun k => (PyData.int k, v)) (.int x) v = ((if x ∈ acc then acc else acc ++ [x]).map fun k => (PyData.int k, v)) := by
  unfold putD
  have ek : ∀ k : Int, (keyG (.int k) = keyG (.int x)) ↔ k = x := fun k => by
    show (some (Sum.inl (Sum.inl k)) : Option (Sum Key (List Key))) = some (Sum.inl (Sum.inl x)) ↔ k = x
    constructor
    · intro h; injection h with h; injection h with h; injection h
    · intro h; rw [h]
  have e1 : ((acc.map fun k => (PyData.int k, v)).any fun p => decide (keyG p.1 = keyG (.int x))) = decide (x ∈ acc) := by
    rw [List.any_map]
    induction acc with
    | nil => rfl
    | cons y acc ih =>
      rw [List.any_cons, ih]
      show (decide (keyG (.int y) = keyG (.int x)) || _) = _
      rw [Bool.eq_iff_iff]
      simp only [Bool.or_eq_true, decide_eq_true_eq, ek, List.mem_cons]
      constructor
      · rintro (h | h)
        · exact .inl h.symm
        · exact .inr h
      · rintro (h | h)
        · exact .inl h.symm
        · exact .inr h
  rw [e1]
  by_cases hx : x ∈ acc
  · rw [decide_eq_true hx, if_pos rfl, if_pos hx, List.map_map]
    apply List.map_congr_left
    intro k _
    show (if _ then _ else _) = _
    split <;> rfl
  · rw [decide_eq_false hx, if_neg Bool.false_ne_true, if_neg hx, List.map_append]
    rfl
theorem compDP_ints {i : Nat} {pc pk pe : P} {env : Env} {b : Bx} {q : Int → Bool} {v : D} (hi : i < env.length)
    (h : ∀ x, pc (env.set i (some (.dat (.int x)))) b = some (.bool (q x))) (h1 : ∀ x, pk (env.set i (some (.dat (.int x)))) b = some (.int x)) (h2 : ∀ x, pe (env.set i (some (.dat (.int x)))) b = some v) :
    ∀ (c acc : List Int), compDP (gN i) pc pk pe env b (c.map .int) (acc.map fun k => (PyData.int k, v)) = some ((dedupI acc (c.filter q)).map fun k => (PyData.int k, v))
  | [], acc => rfl
  | x :: c, acc => by
    rw [List.map_cons, compDP]
    unfold gN
    rw [if_pos hi]
    show (pc _ b).bind _ = _
    rw [h x]
    cases hq : q x with
    | true =>
      rw [List.filter_cons_of_pos hq]
      simp only [Option.bind_some, truthD, h1 x, h2 x, keyD]
      rw [put_ints]
      exact compDP_ints hi h h1 h2 c _
    | false =>
      rw [List.filter_cons_of_neg (by rw [hq]; exact Bool.false_ne_true)]
      simp only [Option.bind_some, truthD]
      exact compDP_ints hi h h1 h2 c acc
theorem entered_ok {s : D} {c : List Int} (h : IsSeq s c) (n : Int) (hs : Small c) (hl : c.length ≤ 12) : fP F_entered [s, .int n] = some (.tuple ((comeI c n).map .int)) := by
  have e0 := leaver_ok h n hs
  have e1 := compDP_ints (i := 3) (pc := pBin dNe (pVar 3) (pVar 2)) (pk := pVar 3) (pe := pC (.bool true)) (env := [some (.dat s), some (.dat (.int n)), some (.dat (optD (goneI c n))), none]) (b := []) (q := fun x => decide (some x ≠ goneI c n)) (v := .bool true) (by simp) (fun x => dNe_opt x _) (fun x => rfl) (fun x => rfl) (c ++ [n]) []
  have e3 : dAdd (.list (c.map .int)) (.list [.int n]) = some (.list ((c ++ [n]).map .int)) := by
    show (if _ then _ else _) = _
    rw [if_pos (by rw [List.length_map]; exact Nat.le_trans (Nat.add_le_add_right hl 1) (by decide)), List.map_append]
    rfl
  have e6 : gLstD [.int n] = some (.list [.int n]) := rfl
  obtain ⟨nd, mem, len⟩ := dedupI_spec ((c ++ [n]).filter fun x => decide (some x ≠ goneI c n)) [] List.nodup_nil
  obtain ⟨ks, hk⟩ : ∃ ks, ks = dedupI [] ((c ++ [n]).filter fun x => decide (some x ≠ goneI c n)) := ⟨_, rfl⟩
  rw [← hk] at nd mem len e1
  have lk : ks.length ≤ SZ := by
    refine Nat.le_trans len (Nat.le_trans ?_ (by decide : 13 ≤ SZ))
    rw [List.length_nil, Nat.zero_add]
    refine Nat.le_trans (List.length_filter_le _ _) ?_
    rw [List.length_append, List.length_singleton]
    omega
  have e4 : cSorted [.dict (ks.map fun k => (PyData.int k, PyData.bool true))] = some (.list ((comeI c n).map .int)) := by
    have ei : itemsOf (.dict (ks.map fun k => (PyData.int k, PyData.bool true))) = some (ks.map .int) := by
      cases hk2 : ks with
      | nil => rfl
      | cons k r => show some _ = _; simp [Function.comp_def]
    show (itemsOf _).bind _ = _
    rw [ei]
    show (sortD _).map PyData.list = _
    rw [sortD_ints lk, sort_uniq (l := (c.filter fun x => decide (some x ≠ goneI c n)) ++ [n]) nd fun k => ?_]
    · rfl
    · rw [mem, List.filter_append, List.mem_append, List.mem_append]
      have : some n ≠ goneI c n := by
        intro e
        have := gone_gt e.symm
        omega
      simp [this]
  have e5 : cTuple [.list ((comeI c n).map .int)] = some (.tuple ((comeI c n).map .int)) := rfl
  simp only [F_entered, fP_runF]
  simp only [sSeq_a, sAsg_a, lift_a, pApp_a, plCons_a, plNil_a, pVar_a, sRet_a, pUn_a, pBin_a, pCompD_a, plSeq_a, pC_a, gN_a, List.map_cons, List.map_nil, List.length_cons, List.length_nil]
  simp only [List.map_nil] at e1
  simp [e0, h.lst, e6, e3, wipeE]
  simp at e1
  simp [seqOf, e1, e4, e5]
theorem people_ok {s : D} {c : List Int} (h : IsSeq s c) (n : Int) : fP F_people_up_to [s, .int n] = some (.int (c.filter fun x => decide (x ≤ n)).length) := by
  have e1 : compP (gN 2) (pBin dLe (pVar 2) (pVar 1)) (pVar 2) [some (.dat s), some (.dat (.int n)), none] [] (c.map .int) = some ((c.filter fun x => decide (x ≤ n)).map .int) :=
    compP_map (by simp) (fun x => rfl) (fun x => rfl) c
  simp only [F_people_up_to, fP_runF]
  simp only [lift_a, pApp_a, plCons_a, plNil_a, pVar_a, sRet_a, pComp_a, plSeq_a]
  simp [h.seq, wipeE, e1, cLen]
theorem all2_eq : ∀ {xs ys : List D}, All2 Eq xs ys → xs = ys
  | _, _, .nil => rfl
  | _, _, .cons h r => by rw [h, all2_eq r]
theorem asc_sub {c e : List Int} (h : Asc c) (s : e.Sublist c) : Asc e := List.Pairwise.sublist s h
theorem sIf_a (c : M) (s t : S) (env : Env) (b : Bx) : sIf c s t env b = match c env b with
  | none => none
  | some (.exc c d, b) => some (.exc c d, b)
  | some (.ok d, b) => match truthD d with
    | some true => s env b
    | some false => t env b
    | none => none := rfl
theorem liftA_a (g : PL) (env : Env) (b : Bx) : liftA g env b = (g env b).map fun d => (.ok d, b) := rfl
theorem cL (xs : List D) : cList [.tuple xs] = some (.list xs) := rfl
theorem sSeq_nx {s t : S} {env e : Env} {b b' : Bx} (h : s env b = some (.nx e, b')) : sSeq s t env b = t e b' := by
  rw [sSeq_a, h]
theorem runF_rt {np nn : Nat} {s : S} {cs : List Cel} {bx b : Bx} {d : D} (E : Env) (hl : cs.length = np) (hE : cs.map some ++ List.replicate (nn - np) none = E) (h : s E bx = some (.rt d, b)) : runF np nn s cs bx = some (.ok d, takeB b bx.length) := by
  unfold runF
  rw [if_pos hl, hE, h]
theorem sFor_of {f : Tg} {mi : MA} {body : S} {env : Env} {b b' : Bx} {ds : List D} {o : Option (Out × Bx)} (h : mi env b = some (.ok ds, b')) (k : loopS f body ds env b' = o) : sFor f mi body env b = o := by
  unfold sFor
  rw [h]
  exact k
theorem all_true : ∀ {xs ys : List D}, All2 (fun _ y => y = .bool true) xs ys → ∃ bs, asBools ys = some bs ∧ bs.all id = true
  | _, _, .nil => ⟨[], rfl, rfl⟩
  | _, _, .cons h r => by
    obtain ⟨bs, e, q⟩ := all_true r
    subst h
    exact ⟨true :: bs, by rw [asBools, e]; rfl, by rw [List.all_cons, q]; rfl⟩
theorem range_mem {n : Int} {d : D} (h : d ∈ rangeD 0 n) : ∃ k : Nat, (k : Int) < n ∧ d = .int k := by
  unfold rangeD at h
  obtain ⟨k, hk, rfl⟩ := List.mem_map.mp h
  rw [List.mem_range] at hk
  exact ⟨k, by omega, by rw [Int.zero_add]⟩
theorem rg_ok {n : Nat} (h : n ≤ 63) : rgOk 0 (n : Int) = true := by
  have a1 : (-(2 ^ 62) : Int) ≤ 0 := by decide
  have a2 : (0 : Int) < 2 ^ 62 := by decide
  have a3 : ((n : Int) - 0).toNat ≤ SZ := Nat.le_trans (by omega : ((n : Int) - 0).toNat ≤ 63) (by decide)
  have a4 : (n : Int) < 2 ^ 62 := Int.lt_of_le_of_lt (by omega : (n : Int) ≤ 63) (by decide)
  have a5 : (-(2 ^ 62) : Int) ≤ n := Int.le_trans a1 (by omega)
  unfold rgOk
  simp only [Bool.and_eq_true, decide_eq_true_eq]
  exact ⟨⟨⟨⟨a1, a2⟩, a5⟩, a4⟩, a3⟩
theorem range_ok {n : Nat} (h : n ≤ 63) : range1 [.int n] = some (rangeD 0 n) := by
  unfold range1
  exact if_pos (rg_ok h)
end DL
set_option Elab.async false
set_option linter.all false
set_option maxRecDepth 100000
set_option maxHeartbeats 2000000
namespace DL
open PySem PySem.Spec PyProof.Rows
open L2 hiding St V
def LawOk (F : Fn) : Prop := ∀ ns : List Int, ns.length ≤ 63 → F [.ext (.list (ns.map .int))] [] = some (.ok (.bool true), [])
def RightOk (F : Fn) : Prop := ∀ d, Box3 d → ∃ d', F [.bx 0] [.live d] = some (.ok (.bool true), [.live d']) ∧ Box3 d'
theorem cells_n {ns : List Int} (hns : ns.length ≤ 63) {m : Nat} (h0 : 0 < m) (hm : m ≤ 63) {c : Int} (hc : c = (m : Int)) : ∃ cs : List Int, 0 < cs.length ∧ cs.length ≤ 63 ∧ F__law_cells [.ext (.list (ns.map .int)), .dat (.int c)] [] = some (.ok (.list (cs.map .int)), []) := by
  subst hc
  obtain ⟨cs, h0, h63, hc⟩ := cells_ok (ns := ns) (m := m) h0 hm hns
  exact ⟨cs, h0, h63, hc⟩
theorem ret_row {M0 : M} {env : Env} {b b2 : Bx} {ys : List D} {bs : List Bool} (m1 : M0 env b = some (.ok (.list ys), b2)) (hbs : asBools ys = some bs) (hall : bs.all id = true) : mApp cAll (maCons M0 maNil) env b = some (.ok (.bool true), b2) := by
  have ca : cAll [.list ys] = some (.bool true) := by
    show (asBools ys).map _ = _
    rw [hbs]
    show some (PyData.bool (bs.all id)) = _
    rw [hall]
  unfold mApp maCons
  rw [m1]
  simp [maNil, ca]
theorem comp_row {mi : MA} {mc me : M} {vs : List Nat} {f : Tg} {env : Env} {b b1 b2 : Bx} {items ys : List D} (h : mi env b = some (.ok items, b1)) (k : compL f mc me (wipeE env vs) items b1 = some (ys, b2)) : mComp mi vs f mc me env b = some (.ok (.list ys), b2) := by
  unfold mComp
  rw [h]
  simp only [k, Option.map_some]
theorem rangeD_nat (n : Nat) (x : D) (h : x ∈ rangeD 0 (n : Int)) : ∃ k : Nat, k < n ∧ x = .int k := by
  obtain ⟨k, hk, e⟩ := range_mem h
  exact ⟨k, by omega, e⟩
theorem plOf_a (g : List D → Option (List D)) (m : PL) (env : Env) (b : Bx) : plOf g m env b = (m env b).bind g := rfl
theorem rows_i (n : Nat) (h : n ≤ 63) (c : Int) (hc : c = n) (env : Env) (b : Bx) : (liftA (plOf range1 (plCons (pC (.int c)) plNil))) env b = some (.ok (rangeD 0 n), b) := by
  subst hc
  rw [liftA_a, plOf_a, plCons_a, pC_a, plNil_a, Option.bind_some, Option.map_some, Option.bind_some, range_ok h, Option.map_some]
theorem len_i {cs : List Int} {env : Env} {b : Bx} (he : env[1]? = some (some (.dat (.list (cs.map .int))))) (h : cs.length ≤ 63) : (liftA (plOf range1 (plCons (pApp cLen (plCons (pVar 1) plNil)) plNil))) env b = some (.ok (rangeD 0 cs.length), b) := by
  have el : cLen [.list (cs.map .int)] = some (.int cs.length) := by simp [cLen]
  have ev : pVar 1 env b = some (.list (cs.map .int)) := by rw [pVar_a, he]
  rw [liftA_a, plOf_a, plCons_a, pApp_a, plCons_a, ev, plNil_a, Option.bind_some, Option.map_some, Option.bind_some, el, Option.bind_some, Option.map_some, Option.bind_some, range_ok h, Option.map_some]
theorem cells_row {ns cs : List Int} {c : Int} {r : Env} (hc : F__law_cells [.ext (.list (ns.map .int)), .dat (.int c)] [] = some (.ok (.list (cs.map .int)), [])) : sAsg (gN 1) (lift (pCallX F__law_cells 0 (plCons (pC (.int c)) plNil))) (some (.ext (.list (ns.map .int))) :: none :: r) [] = some (.nx (some (.ext (.list (ns.map .int))) :: some (.dat (.list (cs.map .int))) :: r), []) := by
  have hp : pCallX F__law_cells 0 (plCons (pC (.int c)) plNil) (some (.ext (.list (ns.map .int))) :: none :: r) [] = some (.list (cs.map .int)) := by
    unfold pCallX
    simp only [plCons_a, plNil_a, pC_a, Option.bind_some, Option.map_some, List.map_cons, List.map_nil]
    simp [hc]
  rw [sAsg_a, lift_a, hp]
  simp [gN_a]
theorem new_row {m : M} {i : Nat} {env : Env} {b b2 : Bx} {d : D} (h : m env b = some (.ok d, b2)) (hi : i < env.length) : sNew i m env b = some (.nx (env.set i (some (.bx b2.length))), b2 ++ [.live d]) := by
  unfold sNew
  rw [h]
  simp [hi]
theorem itemB_ok {F : Fn} (hR : RightOk F) {env : Env} {b : Bx} {cs : List Int} {k : Nat} (h1 : env[1]? = some (some (.dat (.list (cs.map .int))))) (h2 : env[2]? = some (some (.dat (.int k)))) (hk : k < cs.length) : (mCallO F (lift (pApp (fP F__law_box) (plCons (pVar 1) (plCons (pVar 2) plNil))))) env b = some (.ok (.bool true), b) := by
  obtain ⟨d, hb, h3⟩ := box_ok hk
  obtain ⟨d', e, _⟩ := hR d h3
  have e0 : pApp (fP F__law_box) (plCons (pVar 1) (plCons (pVar 2) plNil)) env b = some d := by
    rw [pApp_a, plCons_a, plCons_a, pVar_a, pVar_a, h1, h2]
    exact hb
  unfold mCallO
  rw [lift_a, e0, Option.map_some]
  dsimp only
  rw [e]
def compB (F : Fn) : M := (mComp (liftA (plOf range1 (plCons (pApp cLen (plCons (pVar 1) plNil)) plNil))) [2] (gN 2) (lift pTrue) (mCallO F (lift (pApp (fP F__law_box) (plCons (pVar 1) (plCons (pVar 2) plNil))))))
theorem compB_ok {F : Fn} (hR : RightOk F) {x : Option Cel} {cs : List Int} (h63 : cs.length ≤ 63) : mApp cAll (maCons (compB F) maNil) [x, some (.dat (.list (cs.map .int))), none] [] = some (.ok (.bool true), []) := by
  obtain ⟨ys, b2, e2, rfl, es, _, r⟩ := comp_keep (f := gN 2) (mc := lift pTrue) (me := (mCallO F (lift (pApp (fP F__law_box) (plCons (pVar 1) (plCons (pVar 2) plNil)))))) (env := [x, some (.dat (.list (cs.map .int))), none]) (fun b => b = []) (fun _ y => y = .bool true) (rangeD 0 cs.length) [] rfl (by
    rintro q hq b rfl
    obtain ⟨k, hk, rfl⟩ := rangeD_nat _ _ hq
    exact ⟨_, rfl, .bool true, [], rfl, rfl, true, rfl, fun _ => ⟨_, _, itemB_ok hR rfl rfl hk, rfl, rfl⟩⟩)
  obtain ⟨bs, hbs, hall⟩ := all_true r
  exact ret_row (comp_row (len_i rfl h63) e2) hbs hall
theorem shapeB {F : Fn} (hR : RightOk F) (m : Nat) (h0 : 0 < m) (hm : m ≤ 63) : LawOk (runF 1 3 (sSeq (sAsg (gN 1) (lift (pCallX F__law_cells 0 (plCons (pC (.int m)) plNil)))) (sRet (mApp cAll (maCons (compB F) maNil))))) := fun ns hns => by
  obtain ⟨cs, _, h63, hc⟩ := cells_n hns h0 hm rfl
  have h2 : sRet (mApp cAll (maCons (compB F) maNil)) [some (.ext (.list (ns.map .int))), some (.dat (.list (cs.map .int))), none] [] = some (.rt (.bool true), []) := by rw [sRet_a, compB_ok hR h63]
  have h3 := Eq.trans (sSeq_nx (cells_row (r := [none]) hc)) h2
  have h4 := runF_rt (np := 1) (nn := 3) (cs := [.ext (.list (ns.map .int))]) [some (.ext (.list (ns.map .int))), none, none] rfl rfl h3
  rw [h4, List.length_nil, takeB_zero]
end DL
set_option Elab.async false
set_option linter.all false
set_option maxRecDepth 100000
set_option maxHeartbeats 2000000
namespace DL
open PySem PySem.Spec PyProof.Rows
open L2 hiding St V
section
variable {env e1 : Env} {b b1 b2 : Bx} {x y z d : D} {ds : List D} {a c m : M} {ms : MA} {p q : P} {ps : PL} {f g : D → D → Option D} {u : D → Option D} {G : List D → Option D} {s t : S} {o : Option (Out × Bx)}
theorem lift_ok {g : P} (h : g env b = some d) : lift g env b = some (.ok d, b) := by rw [lift_a, h]; rfl
theorem liftA_ok (h : ps env b = some ds) : liftA ps env b = some (.ok ds, b) := by rw [liftA_a, h]; rfl
theorem pVar_ok {i : Nat} (h : env[i]? = some (some (.dat d))) : pVar i env b = some d := by rw [pVar_a, h]
theorem pBin_ok (h1 : p env b = some x) (h2 : q env b = some y) (h : f x y = some z) : pBin f p q env b = some z := by rw [pBin_a, h1, h2]; exact h
theorem pUn_ok (h1 : p env b = some x) (h : u x = some z) : pUn u p env b = some z := by rw [pUn_a, h1]; exact h
theorem pApp_ok (h1 : ps env b = some ds) (h : G ds = some z) : pApp G ps env b = some z := by rw [pApp_a, h1]; exact h
theorem plCons_ok (h1 : p env b = some x) (h2 : ps env b = some ds) : plCons p ps env b = some (x :: ds) := by rw [plCons_a, h1, h2]; rfl
theorem plSeq_ok (h1 : p env b = some x) (h : seqOf x = some ds) : plSeq p env b = some ds := by rw [plSeq_a, h1]; exact h
theorem plOf_ok {H : List D → Option (List D)} {es : List D} (h1 : ps env b = some ds) (h : H ds = some es) : plOf H ps env b = some es := by rw [plOf_a, h1]; exact h
theorem mBin_ok (h1 : a env b = some (.ok x, b1)) (h2 : c env b1 = some (.ok y, b2)) (h : f x y = some z) : mBin f a c env b = some (.ok z, b2) := by
  unfold mBin mBind
  rw [h1]
  dsimp only
  rw [h2]
  dsimp only [mRet]
  rw [h]
  rfl
theorem mUn_ok (h1 : a env b = some (.ok x, b1)) (h : u x = some z) : mUn u a env b = some (.ok z, b1) := by
  unfold mUn mBind
  rw [h1]
  dsimp only [mRet]
  rw [h]
  rfl
theorem mApp_ok (h1 : ms env b = some (.ok ds, b1)) (h : G ds = some z) : mApp G ms env b = some (.ok z, b1) := by
  unfold mApp
  rw [h1]
  dsimp only
  rw [h]
  rfl
theorem maNil_ok : maNil env b = some (.ok [], b) := rfl
theorem maCons_ok (h1 : a env b = some (.ok x, b1)) (h2 : ms env b1 = some (.ok ds, b2)) : maCons a ms env b = some (.ok (x :: ds), b2) := by
  unfold maCons
  rw [h1]
  dsimp only
  rw [h2]
theorem maOf_ok {H : List D → Option (List D)} {es : List D} (h1 : ms env b = some (.ok ds, b1)) (h : H ds = some es) : maOf H ms env b = some (.ok es, b1) := by
  unfold maOf
  rw [h1]
  dsimp only
  rw [h]
  rfl
theorem mIf_t (h1 : m env b = some (.ok x, b1)) (h : truthD x = some true) : mIf m a c env b = a env b1 := by
  unfold mIf mBind
  rw [h1]
  dsimp only
  rw [h]
  rfl
theorem mIf_f (h1 : m env b = some (.ok x, b1)) (h : truthD x = some false) : mIf m a c env b = c env b1 := by
  unfold mIf mBind
  rw [h1]
  dsimp only
  rw [h]
  rfl
theorem sSeq_ok (h1 : s env b = some (.nx e1, b1)) (h2 : t e1 b1 = o) : sSeq s t env b = o := by rw [sSeq_nx h1]; exact h2
theorem sSeq_rt (h1 : s env b = some (.rt d, b1)) : sSeq s t env b = some (.rt d, b1) := by rw [sSeq_a, h1]
theorem sAsg_ok {f : Tg} (h1 : m env b = some (.ok d, b1)) (h2 : f d env = some e1) : sAsg f m env b = some (.nx e1, b1) := by
  rw [sAsg_a, h1]
  dsimp only
  rw [h2]
  rfl
theorem sRet_ok (h1 : m env b = some (.ok d, b1)) : sRet m env b = some (.rt d, b1) := by rw [sRet_a, h1]
theorem sIf_t (h1 : m env b = some (.ok x, b1)) (h : truthD x = some true) : sIf m s t env b = s env b1 := by
  rw [sIf_a, h1]
  dsimp only
  rw [h]
theorem sIf_f (h1 : m env b = some (.ok x, b1)) (h : truthD x = some false) : sIf m s t env b = t env b1 := by
  rw [sIf_a, h1]
  dsimp only
  rw [h]
theorem sFor_ok {f : Tg} {mi : MA} {body : S} (h : mi env b = some (.ok ds, b1)) (k : loopS f body ds env b1 = o) : sFor f mi body env b = o := sFor_of h k
theorem sNew_ok {i : Nat} (h : m env b = some (.ok d, b1)) (hi : i < env.length) : sNew i m env b = some (.nx (env.set i (some (.bx b1.length))), b1 ++ [.live d]) := new_row h hi
end
end DL
set_option Elab.async false
set_option linter.all false
set_option maxRecDepth 100000
set_option maxHeartbeats 2000000
namespace DL
def ent : List Int → Int → List Int
  | [], a => [a]
  | x :: r, a => if x < a then x :: ent r a else if x = a then x :: r else a :: r
def rm (R v : List Int) : List Int := v.foldl ent R
def cnt (R : List Int) (h : Int) : Nat := (R.filter fun x => decide (x ≤ h)).length
theorem cnt_nil (h : Int) : cnt [] h = 0 := rfl
theorem cnt_cons (x : Int) (r : List Int) (h : Int) : cnt (x :: r) h = (if x ≤ h then 1 else 0) + cnt r h := by
  unfold cnt
  rw [List.filter_cons]
  by_cases hx : x ≤ h
  · simp [hx]; omega
  · simp [hx]
theorem cnt_zero {R : List Int} {h : Int} : (∀ y ∈ R, h < y) → cnt R h = 0 := by
  induction R with
  | nil => intro _; rfl
  | cons x r ih =>
    intro k
    have hx := k x List.mem_cons_self
    rw [cnt_cons, ih fun y hy => k y (List.mem_cons_of_mem _ hy), if_neg (by omega)]
theorem asc_cons {x : Int} {r : List Int} : Asc (x :: r) ↔ (∀ y ∈ r, x < y) ∧ Asc r := List.pairwise_cons
theorem mem_ent {R : List Int} {a y : Int} : y ∈ ent R a → y = a ∨ y ∈ R := by
  induction R with
  | nil => intro h; simp [ent] at h; exact .inl h
  | cons x r ih =>
    intro h
    unfold ent at h
    split at h
    · rcases List.mem_cons.mp h with h | h
      · exact .inr (h ▸ List.mem_cons_self)
      · rcases ih h with h | h
        · exact .inl h
        · exact .inr (List.mem_cons_of_mem _ h)
    · split at h
      · exact .inr h
      · rcases List.mem_cons.mp h with h | h
        · exact .inl h
        · exact .inr (List.mem_cons_of_mem _ h)
theorem self_ent (R : List Int) (a : Int) : a ∈ ent R a := by
  induction R with
  | nil => simp [ent]
  | cons x r ih =>
    unfold ent
    split
    · exact List.mem_cons_of_mem _ ih
    · split
      · rename_i h; subst h; exact List.mem_cons_self
      · exact List.mem_cons_self
theorem asc_ent {R : List Int} {a : Int} (h : Asc R) : Asc (ent R a) := by
  induction R with
  | nil => simp [ent, Asc]
  | cons x r ih =>
    obtain ⟨h1, h2⟩ := asc_cons.mp h
    unfold ent
    split
    · rename_i hx
      refine asc_cons.mpr ⟨fun y hy => ?_, ih h2⟩
      rcases mem_ent hy with rfl | hy
      · exact hx
      · exact h1 y hy
    · split
      · exact h
      · refine asc_cons.mpr ⟨fun y hy => ?_, h2⟩
        have := h1 y hy
        omega
theorem asc_rm {R : List Int} (v : List Int) (h : Asc R) : Asc (rm R v) := by
  induction v generalizing R with
  | nil => exact h
  | cons a v ih => exact ih (asc_ent h)
theorem cnt_ent {R : List Int} {a : Int} (h : Asc R) (k : Int) : cnt (ent R a) k = if k < a then cnt R k else max (cnt R k) (cnt R (a - 1) + 1) := by
  induction R with
  | nil =>
    simp only [ent, cnt_cons, cnt_nil]
    (repeat' split) <;> omega
  | cons x r ih =>
    obtain ⟨h1, h2⟩ := asc_cons.mp h
    unfold ent
    split
    · rename_i hx
      rw [cnt_cons, ih h2, cnt_cons, cnt_cons]
      (repeat' split) <;> omega
    · split
      · rename_i h3 hx
        subst hx
        have z : cnt r (x - 1) = 0 := cnt_zero fun y hy => by have := h1 y hy; omega
        simp only [cnt_cons, z]
        (repeat' split) <;> omega
      · rename_i h3 hx
        have z : cnt r (a - 1) = 0 := cnt_zero fun y hy => by have := h1 y hy; omega
        have z2 : k < x → cnt r k = 0 := fun hk => cnt_zero fun y hy => by have := h1 y hy; omega
        simp only [cnt_cons, z]
        (repeat' split) <;> omega
theorem cnt_mono (R : List Int) {h k : Int} (hk : h ≤ k) : cnt R h ≤ cnt R k := by
  induction R with
  | nil => exact Nat.le_refl _
  | cons x r ih => rw [cnt_cons, cnt_cons]; (repeat' split) <;> omega
theorem cnt_all {R : List Int} {h : Int} (k : ∀ y ∈ R, y ≤ h) : cnt R h = R.length := by
  unfold cnt
  rw [List.filter_eq_self.mpr fun y hy => by simpa using k y hy]
theorem mem_cnt {R : List Int} (h : Asc R) (x : Int) : cnt R x = cnt R (x - 1) + (if x ∈ R then 1 else 0) := by
  induction R with
  | nil => simp [cnt_nil]
  | cons y r ih =>
    obtain ⟨h1, h2⟩ := asc_cons.mp h
    rw [cnt_cons, cnt_cons, ih h2]
    by_cases e : x = y
    · subst e
      have hn : x ∉ r := fun z => by have := h1 x z; omega
      simp only [List.mem_cons_self, hn, if_true, if_false]
      (repeat' split) <;> omega
    · have : (x ∈ y :: r) ↔ x ∈ r := by rw [List.mem_cons]; exact ⟨fun z => z.resolve_left e, .inr⟩
      simp only [this]
      (repeat' split) <;> omega
theorem cnt_ext {R T : List Int} (h : Asc R) (k : Asc T) (e : ∀ x, cnt R x = cnt T x) : R = T := by
  refine sorted_unique h k fun x => ?_
  have h1 := mem_cnt h x
  have h2 := mem_cnt k x
  rw [e x, e (x - 1)] at h1
  rw [h1] at h2
  by_cases a : x ∈ R <;> by_cases b : x ∈ T <;> simp [a, b] at h2 ⊢
theorem asc_filter {R : List Int} (p : Int → Bool) (h : Asc R) : Asc (R.filter p) := List.Pairwise.sublist List.filter_sublist h
theorem mem_rm {R v : List Int} {y : Int} : y ∈ rm R v → y ∈ R ∨ y ∈ v := by
  induction v generalizing R with
  | nil => exact .inl
  | cons a v ih =>
    intro h
    rcases ih (R := ent R a) h with h | h
    · rcases mem_ent h with rfl | h
      · exact .inr List.mem_cons_self
      · exact .inl h
    · exact .inr (List.mem_cons_of_mem _ h)
end DL
set_option Elab.async false
set_option linter.all false
set_option maxRecDepth 100000
set_option maxHeartbeats 2000000
namespace DL
abbrev LK := List (Int × Int)
def run (c : Int) : LK → LK
  | [] => []
  | (r, b) :: K => if b < c then (r, c) :: run b K else (r, b) :: run c K
def lvN : LK → Int → LK
  | [], a => [(a, 0)]
  | (r, b) :: K, a => if r < a then (r, b) :: lvN K a else if r = a then (a, 0) :: run b K else (a, 0) :: run a ((r, b) :: K)
def lnk (v : List Int) : LK := v.foldl lvN []
def pe (l : Int) (K : LK) : List Int := (K.filter fun p => decide (p.2 < l) && decide (l ≤ p.1)).map (·.1)
def ky (K : LK) : List Int := K.map (·.1)
theorem pe_cons (l r b : Int) (K : LK) : pe l ((r, b) :: K) = if b < l ∧ l ≤ r then r :: pe l K else pe l K := by
  unfold pe
  rw [List.filter_cons]
  by_cases h : b < l ∧ l ≤ r
  · rw [if_pos h]; simp [h.1, h.2]
  · rw [if_neg h, if_neg (by simpa [Bool.and_eq_true] using h)]
theorem run_ky (c : Int) (K : LK) : ky (run c K) = ky K := by
  induction K generalizing c with
  | nil => rfl
  | cons p K ih =>
    obtain ⟨r, b⟩ := p
    unfold run
    split
    · show r :: ky (run b K) = r :: ky K; rw [ih]
    · show r :: ky (run c K) = r :: ky K; rw [ih]
theorem run_pe (l : Int) (K : LK) (hl : ∀ p ∈ K, l ≤ p.1) : ∀ c : Int, (c < l → pe l (run c K) = pe l K) ∧ (l ≤ c → pe l (run c K) = (pe l K).tail) := by
  induction K with
  | nil => intro c; exact ⟨fun _ => rfl, fun _ => rfl⟩
  | cons p K ih =>
    obtain ⟨r, b⟩ := p
    intro c
    have hr : l ≤ r := hl _ List.mem_cons_self
    have ih := ih fun p hp => hl p (List.mem_cons_of_mem _ hp)
    unfold run
    constructor
    · intro hc
      split
      · rw [pe_cons, pe_cons, if_pos ⟨hc, hr⟩, if_pos ⟨by omega, hr⟩, (ih b).1 (by omega)]
      · rw [pe_cons, pe_cons, (ih c).1 hc]
    · intro hc
      split
      · rw [pe_cons, pe_cons, if_neg (by omega)]
        by_cases hb : b < l
        · rw [if_pos ⟨hb, hr⟩, (ih b).1 hb]; rfl
        · rw [if_neg (by omega), (ih b).2 (by omega)]
      · rw [pe_cons, pe_cons, if_neg (by omega), if_neg (by omega), (ih c).2 hc]
structure WK (K : LK) : Prop where
  asc : Asc (ky K)
  bel : ∀ p ∈ K, 0 ≤ p.2 ∧ p.2 < p.1
theorem WK.tl {p : Int × Int} {K : LK} (h : WK (p :: K)) : WK K := ⟨(asc_cons.mp h.asc).2, fun q hq => h.bel q (List.mem_cons_of_mem _ hq)⟩
theorem WK.hd {p : Int × Int} {K : LK} (h : WK (p :: K)) : ∀ q ∈ K, p.1 < q.1 := fun q hq => (asc_cons.mp h.asc).1 q.1 (List.mem_map_of_mem hq)
theorem ky_mem {K : LK} {x : Int} (h : x ∈ ky K) : ∃ b, (x, b) ∈ K := by
  obtain ⟨p, hp, rfl⟩ := List.mem_map.mp h
  exact ⟨p.2, hp⟩
theorem pe_sub (l : Int) (K : LK) : (pe l K).Sublist (ky K) := List.Sublist.map _ List.filter_sublist
theorem pe_asc {K : LK} (h : WK K) (l : Int) : Asc (pe l K) := List.Pairwise.sublist (pe_sub l K) h.asc
theorem run_wk {c : Int} {K : LK} (h : WK K) (hc : 0 ≤ c ∧ ∀ p ∈ K, c < p.1) : WK (run c K) := by
  refine ⟨by rw [run_ky]; exact h.asc, ?_⟩
  induction K generalizing c with
  | nil => intro p hp; cases hp
  | cons p K ih =>
    obtain ⟨r, b⟩ := p
    have hb := h.bel _ List.mem_cons_self
    unfold run
    split
    · intro q hq
      rcases List.mem_cons.mp hq with rfl | hq
      · exact ⟨hc.1, hc.2 (r, b) List.mem_cons_self⟩
      · exact ih h.tl ⟨hb.1, fun p hp => by have := h.hd p hp; have := hb.2; simp at *; omega⟩ q hq
    · intro q hq
      rcases List.mem_cons.mp hq with rfl | hq
      · exact hb
      · exact ih h.tl ⟨hc.1, fun p hp => hc.2 p (List.mem_cons_of_mem _ hp)⟩ q hq
theorem lvN_ky {K : LK} (a x : Int) : x ∈ ky (lvN K a) ↔ x = a ∨ x ∈ ky K := by
  induction K with
  | nil => simp [lvN, ky]
  | cons p K ih =>
    obtain ⟨r, b⟩ := p
    unfold lvN
    split
    · show x ∈ r :: ky (lvN K a) ↔ _ ∨ x ∈ r :: ky K
      rw [List.mem_cons, List.mem_cons, ih]
      constructor
      · rintro (h | h | h)
        · exact .inr (.inl h)
        · exact .inl h
        · exact .inr (.inr h)
      · rintro (h | h | h)
        · exact .inr (.inl h)
        · exact .inl h
        · exact .inr (.inr h)
    · split
      · rename_i h
        subst h
        show x ∈ r :: ky (run b K) ↔ _ ∨ x ∈ r :: ky K
        rw [run_ky, List.mem_cons]
        exact ⟨.inr, fun h => h.elim .inl id⟩
      · show x ∈ a :: ky (run a ((r, b) :: K)) ↔ _
        rw [run_ky, List.mem_cons]
theorem lvN_wk {K : LK} (h : WK K) {a : Int} (ha : 1 ≤ a) : WK (lvN K a) := by
  induction K with
  | nil => exact ⟨by simp [lvN, ky, Asc], fun p hp => by simp [lvN] at hp; subst hp; simp; omega⟩
  | cons p K ih =>
    obtain ⟨r, b⟩ := p
    have ih := ih h.tl
    have hb := h.bel (r, b) List.mem_cons_self
    have hd := h.hd
    unfold lvN
    split
    · rename_i hr
      refine ⟨asc_cons.mpr ⟨fun y hy => ?_, ih.asc⟩, fun q hq => ?_⟩
      · rcases (lvN_ky a y).mp hy with rfl | hy
        · exact hr
        · obtain ⟨c, hc⟩ := ky_mem hy
          exact hd _ hc
      · rcases List.mem_cons.mp hq with rfl | hq
        · exact hb
        · exact ih.bel q hq
    · split
      · rename_i h2
        subst h2
        have w := run_wk (c := b) h.tl ⟨hb.1, fun p hp => by have := hd p hp; have := hb.2; simp at *; omega⟩
        refine ⟨asc_cons.mpr ⟨fun y hy => ?_, w.asc⟩, fun q hq => ?_⟩
        · have hy : y ∈ ky (run b K) := hy
          rw [run_ky] at hy
          exact (asc_cons.mp h.asc).1 y hy
        · rcases List.mem_cons.mp hq with rfl | hq
          · simp; omega
          · exact w.bel q hq
      · rename_i h1 h2
        have w := run_wk (c := a) h ⟨by omega, fun p hp => by
          rcases List.mem_cons.mp hp with rfl | hp
          · simp; omega
          · have := hd p hp; simp at *; omega⟩
        refine ⟨asc_cons.mpr ⟨fun y hy => ?_, w.asc⟩, fun q hq => ?_⟩
        · have hy : y ∈ ky (run a ((r, b) :: K)) := hy
          rw [run_ky] at hy
          rcases List.mem_cons.mp hy with rfl | hy
          · simp; omega
          · have := (asc_cons.mp h.asc).1 y hy; simp at *; omega
        · rcases List.mem_cons.mp hq with rfl | hq
          · simp; omega
          · exact w.bel q hq
theorem run_pe2 {l : Int} {K : LK} (w : WK K) : ∀ c : Int, 0 ≤ c → c < l → pe l (run c K) = pe l K := by
  induction K with
  | nil => intro c _ _; rfl
  | cons p K ih2 =>
    obtain ⟨r2, b2⟩ := p
    intro c h0 hc
    have hb2 := w.bel (r2, b2) List.mem_cons_self
    simp only at hb2
    have ih3 := ih2 w.tl
    unfold run
    split
    · rw [pe_cons, pe_cons]
      by_cases h6 : l ≤ r2
      · rw [if_pos ⟨hc, h6⟩, if_pos ⟨by omega, h6⟩, ih3 b2 (by omega) (by omega)]
      · rw [if_neg (by omega), if_neg (by omega), ih3 b2 (by omega) (by omega)]
    · rw [pe_cons, pe_cons, ih3 c h0 hc]
theorem ent_big {a : Int} : ∀ {R : List Int}, (∀ y ∈ R, a < y) → ent R a = a :: R.tail
  | [], _ => rfl
  | x :: r, h => by
    have := h x List.mem_cons_self
    unfold ent
    rw [if_neg (by omega), if_neg (by omega)]; rfl
theorem pe_lvN {K : LK} (h : WK K) {a : Int} (ha : 1 ≤ a) {l : Int} (hl : 1 ≤ l) : pe l (lvN K a) = if l ≤ a then ent (pe l K) a else pe l K := by
  induction K with
  | nil =>
    show pe l [(a, 0)] = if l ≤ a then [a] else []
    rw [pe_cons]
    by_cases hla : l ≤ a
    · rw [if_pos ⟨by omega, hla⟩, if_pos hla]; rfl
    · rw [if_neg (by omega), if_neg hla]; rfl
  | cons p K ih =>
    obtain ⟨r, b⟩ := p
    have ih := ih h.tl
    have hb := h.bel (r, b) List.mem_cons_self
    have hd := h.hd
    simp only at hb
    unfold lvN
    split
    · rename_i hr
      rw [pe_cons, pe_cons, ih]
      by_cases c : b < l ∧ l ≤ r
      · rw [if_pos c, if_pos c, if_pos (by omega), if_pos (by omega)]
        conv => rhs; unfold ent
        rw [if_pos hr]
      · rw [if_neg c, if_neg c]
    · split
      · rename_i h2
        subst h2
        rw [pe_cons, pe_cons]
        by_cases hla : l ≤ r
        · have q := run_pe l K (fun p hp => by have := hd p hp; simp at this; omega) b
          rw [if_pos ⟨by omega, hla⟩, if_pos hla]
          by_cases hbl : b < l
          · rw [if_pos ⟨hbl, hla⟩, q.1 hbl]
            conv => rhs; unfold ent
            rw [if_neg (by omega), if_pos rfl]
          · rw [if_neg (by omega), q.2 (by omega), ent_big]
            intro y hy
            exact (asc_cons.mp h.asc).1 y ((pe_sub l K).subset hy)
        · rw [if_neg (by omega), if_neg (by omega), if_neg (by omega)]
          exact run_pe2 h.tl b hb.1 (by omega)
      · rename_i h1 h2
        rw [pe_cons]
        by_cases hla : l ≤ a
        · have q := run_pe l ((r, b) :: K) (fun p hp => by
            rcases List.mem_cons.mp hp with rfl | hp
            · simp; omega
            · have := hd p hp; simp at this; omega) a
          rw [if_pos ⟨by omega, hla⟩, if_pos hla, q.2 hla, ent_big]
          intro y hy
          have hy := (pe_sub l _).subset hy
          rcases List.mem_cons.mp hy with rfl | hy
          · simp; omega
          · have := (asc_cons.mp h.asc).1 y hy; simp at *; omega
        · rw [if_neg (by omega), if_neg hla]
          exact run_pe2 h a (by omega) (by omega)
end DL
set_option Elab.async false
set_option linter.all false
set_option maxRecDepth 100000
set_option maxHeartbeats 2000000
namespace DL
theorem lnk_snoc (v : List Int) (a : Int) : lnk (v ++ [a]) = lvN (lnk v) a := by simp [lnk, List.foldl_append]
theorem rm_snoc (R v : List Int) (a : Int) : rm R (v ++ [a]) = ent (rm R v) a := by simp [rm, List.foldl_append]
theorem rm_cat (R v w : List Int) : rm R (v ++ w) = rm (rm R v) w := by simp [rm, List.foldl_append]
def Pos (v : List Int) : Prop := ∀ x ∈ v, 1 ≤ x
theorem Pos.tl {x : Int} {v : List Int} (h : Pos (x :: v)) : Pos v := fun y hy => h y (List.mem_cons_of_mem _ hy)
theorem Pos.app {v w : List Int} (h : Pos v) (k : Pos w) : Pos (v ++ w) := fun y hy => (List.mem_append.mp hy).elim (h y) (k y)
theorem snoc_ind {P : List Int → Prop} (h0 : P []) (h1 : ∀ v a, P v → P (v ++ [a])) (v : List Int) : P v := by
  have : ∀ w : List Int, P w.reverse := fun w => by
    induction w with
    | nil => exact h0
    | cons a w ih => rw [List.reverse_cons]; exact h1 _ _ ih
  have := this v.reverse
  rwa [List.reverse_reverse] at this
theorem foldl_wk {K : LK} (h : WK K) {v : List Int} (hv : Pos v) : WK (v.foldl lvN K) := by
  induction v generalizing K with
  | nil => exact h
  | cons a v ih => exact ih (lvN_wk h (hv a List.mem_cons_self)) hv.tl
theorem wk_nil : WK [] := ⟨by simp [ky, Asc], fun p hp => by cases hp⟩
theorem lnk_wk {v : List Int} (hv : Pos v) : WK (lnk v) := foldl_wk wk_nil hv
theorem foldl_pe {K : LK} (h : WK K) {v : List Int} (hv : Pos v) {l : Int} (hl : 1 ≤ l) : pe l (v.foldl lvN K) = rm (pe l K) (v.filter fun x => decide (l ≤ x)) := by
  induction v generalizing K with
  | nil => rfl
  | cons a v ih =>
    have ha := hv a List.mem_cons_self
    show pe l (v.foldl lvN (lvN K a)) = _
    rw [ih (lvN_wk h ha) hv.tl, pe_lvN h ha hl, List.filter_cons]
    by_cases c : l ≤ a
    · rw [if_pos c, if_pos (by simpa using c)]; rfl
    · rw [if_neg c, if_neg (by simpa using c)]
theorem pe_lnk {v : List Int} (hv : Pos v) {l : Int} (hl : 1 ≤ l) : pe l (lnk v) = rm [] (v.filter fun x => decide (l ≤ x)) := foldl_pe wk_nil hv hl
theorem foldl_ky {K : LK} (v : List Int) (x : Int) : x ∈ ky (v.foldl lvN K) ↔ x ∈ ky K ∨ x ∈ v := by
  induction v generalizing K with
  | nil => simp
  | cons a v ih =>
    show x ∈ ky (v.foldl lvN (lvN K a)) ↔ _
    rw [ih, lvN_ky, List.mem_cons]
    constructor
    · rintro ((h | h) | h)
      · exact .inr (.inl h)
      · exact .inl h
      · exact .inr (.inr h)
    · rintro (h | h | h)
      · exact .inl (.inr h)
      · exact .inl (.inl h)
      · exact .inr h
theorem lnk_ky (v : List Int) (x : Int) : x ∈ ky (lnk v) ↔ x ∈ v := by
  unfold lnk
  rw [foldl_ky]; simp [ky]
theorem pe_mem {K : LK} {l x : Int} : x ∈ pe l K ↔ ∃ b, (x, b) ∈ K ∧ b < l ∧ l ≤ x := by
  unfold pe
  rw [List.mem_map]
  constructor
  · rintro ⟨⟨r, b⟩, hp, rfl⟩
    rw [List.mem_filter] at hp
    exact ⟨b, hp.1, by simpa using hp.2⟩
  · rintro ⟨b, h1, h2⟩
    exact ⟨(x, b), List.mem_filter.mpr ⟨h1, by simpa using h2⟩, rfl⟩
theorem wk_fun {K : LK} (h : WK K) {x b c : Int} (h1 : (x, b) ∈ K) (h2 : (x, c) ∈ K) : b = c := by
  induction K with
  | nil => cases h1
  | cons p K ih =>
    rcases List.mem_cons.mp h1 with e1 | h1
    · rcases List.mem_cons.mp h2 with e2 | h2
      · rw [← e1] at e2; injection e2 with _ e; exact e.symm
      · have := h.hd _ h2; rw [← e1] at this; simp at this
    · rcases List.mem_cons.mp h2 with e2 | h2
      · have := h.hd _ h1; rw [← e2] at this; simp at this
      · exact ih h.tl h1 h2
theorem wk_ext {K J : LK} (h : WK K) (k : WK J) (e : ∀ p, p ∈ K → p ∈ J) (e2 : ∀ p, p ∈ J → p ∈ K) : K = J := by
  have key : ∀ {K J : LK}, WK K → WK J → (∀ p, p ∈ K ↔ p ∈ J) → K = J := by
    intro K
    induction K with
    | nil =>
      intro J _ _ e
      cases J with
      | nil => rfl
      | cons q J => exact absurd ((e q).mpr List.mem_cons_self) (by simp)
    | cons p K ih =>
      intro J h k e
      cases J with
      | nil => exact absurd ((e p).mp List.mem_cons_self) (by simp)
      | cons q J =>
        have hpq : p = q := by
          rcases List.mem_cons.mp ((e p).mp List.mem_cons_self) with h1 | h1
          · exact h1
          · rcases List.mem_cons.mp ((e q).mpr List.mem_cons_self) with h2 | h2
            · exact h2.symm
            · have a1 := k.hd _ h1; have a2 := h.hd _ h2; omega
        subst hpq
        rw [ih h.tl k.tl fun r => ?_]
        constructor
        · intro hr
          rcases List.mem_cons.mp ((e r).mp (List.mem_cons_of_mem _ hr)) with h1 | h1
          · subst h1; have := h.hd _ hr; omega
          · exact h1
        · intro hr
          rcases List.mem_cons.mp ((e r).mpr (List.mem_cons_of_mem _ hr)) with h1 | h1
          · subst h1; have := k.hd _ hr; omega
          · exact h1
  exact key h k fun p => ⟨e p, e2 p⟩
theorem pe_ext {K J : LK} (h : WK K) (k : WK J) (e : ∀ l, 1 ≤ l → pe l K = pe l J) : K = J := by
  have key : ∀ {K J : LK}, WK K → WK J → (∀ l, 1 ≤ l → pe l K = pe l J) → ∀ p, p ∈ K → p ∈ J := by
    intro K J h k e p hp
    obtain ⟨x, b⟩ := p
    have hb := h.bel _ hp
    simp only at hb
    have h1 : x ∈ pe (b + 1) K := pe_mem.mpr ⟨b, hp, by omega, by omega⟩
    rw [e (b + 1) (by omega)] at h1
    obtain ⟨c, hc, hc1, hc2⟩ := pe_mem.mp h1
    have hcb := k.bel _ hc
    simp only at hcb
    by_cases hbc : c = b
    · subst hbc; exact hc
    · have h2 : x ∈ pe (c + 1) J := pe_mem.mpr ⟨c, hc, by omega, by omega⟩
      rw [← e (c + 1) (by omega)] at h2
      obtain ⟨d, hd, hd1, hd2⟩ := pe_mem.mp h2
      have := wk_fun h hp hd
      omega
  exact wk_ext h k (key h k e) (key k h fun l hl => (e l hl).symm)
theorem lnk_ext {v w : List Int} (hv : Pos v) (hw : Pos w) (e : ∀ l, 1 ≤ l → rm [] (v.filter fun x => decide (l ≤ x)) = rm [] (w.filter fun x => decide (l ≤ x))) : lnk v = lnk w :=
  pe_ext (lnk_wk hv) (lnk_wk hw) fun l hl => by rw [pe_lnk hv hl, pe_lnk hw hl, e l hl]
structure Top (R : List Int) (K : LK) (N : Int → Nat) : Prop where
  u : ∀ b r, 0 ≤ b → b ≤ r → cnt R b + cnt (pe (b + 1) K) r ≤ N r
  e : ∀ r, 0 ≤ r → ∃ b, (b = 0 ∨ b ∈ R) ∧ 0 ≤ b ∧ b ≤ r ∧ cnt R b + cnt (pe (b + 1) K) r = N r
theorem top_nil {R : List Int} (hR : Asc R) (hp : Pos R) : Top R [] (cnt R) := by
  refine ⟨fun b r h0 h => ?_, fun r h0 => ?_⟩
  · have := cnt_mono R h
    show cnt R b + cnt [] r ≤ _
    rw [cnt_nil]; omega
  · show ∃ b, (b = 0 ∨ b ∈ R) ∧ 0 ≤ b ∧ b ≤ r ∧ cnt R b + cnt [] r = cnt R r
    simp only [cnt_nil]
    have : ∃ b, (b = 0 ∨ b ∈ R) ∧ 0 ≤ b ∧ b ≤ r ∧ cnt R b = cnt R r := by
      induction R with
      | nil => exact ⟨0, .inl rfl, Int.le_refl 0, h0, rfl⟩
      | cons x t ih =>
        obtain ⟨h1, h2⟩ := asc_cons.mp hR
        have hx := hp x List.mem_cons_self
        by_cases c : x ≤ r
        · obtain ⟨b, hb, b0, br, e⟩ := ih h2 hp.tl
          rcases hb with rfl | hb
          · refine ⟨x, .inr List.mem_cons_self, by omega, c, ?_⟩
            have z1 : cnt t 0 = 0 := cnt_zero fun y hy => by have := h1 y hy; omega
            have z2 : cnt t x = 0 := cnt_zero fun y hy => h1 y hy
            rw [cnt_cons, cnt_cons, if_pos (Int.le_refl _), if_pos c, ← e, z1, z2]
          · refine ⟨b, .inr (List.mem_cons_of_mem _ hb), b0, br, ?_⟩
            have := h1 b hb
            rw [cnt_cons, cnt_cons, if_pos (by omega), if_pos c, e]
        · refine ⟨0, .inl rfl, Int.le_refl 0, h0, ?_⟩
          rw [cnt_zero fun y hy => ?_, cnt_zero fun y hy => ?_]
          · rcases List.mem_cons.mp hy with rfl | hy
            · omega
            · have := h1 y hy; omega
          · have := hp y hy; omega
    obtain ⟨b, h1, h2, h3, h4⟩ := this
    exact ⟨b, h1, h2, h3, by omega⟩
theorem top_step {R T : List Int} {K : LK} (hK : WK K) (hT : Asc T) (h : Top R K (cnt T)) {a : Int} (ha : 1 ≤ a) : Top R (lvN K a) (cnt (ent T a)) := by
  have key : ∀ b r, 0 ≤ b → cnt (pe (b + 1) (lvN K a)) r = if b + 1 ≤ a ∧ a ≤ r then max (cnt (pe (b + 1) K) r) (cnt (pe (b + 1) K) (a - 1) + 1) else cnt (pe (b + 1) K) r := by
    intro b r h0
    rw [pe_lvN hK ha (by omega)]
    by_cases c : b + 1 ≤ a
    · rw [if_pos c, cnt_ent (pe_asc hK _)]
      by_cases d : r < a
      · rw [if_pos d, if_neg (by omega)]
      · rw [if_neg d, if_pos (by omega)]
    · rw [if_neg c, if_neg (by omega)]
  refine ⟨fun b r h0 hb => ?_, fun r h0 => ?_⟩
  · rw [key b r h0, cnt_ent hT]
    have u1 := h.u b r h0 hb
    by_cases d : r < a
    · rw [if_pos d, if_neg (by omega)]; exact u1
    · rw [if_neg d]
      by_cases c : b + 1 ≤ a
      · rw [if_pos (by omega)]
        have u2 := h.u b (a - 1) h0 (by omega)
        omega
      · rw [if_neg (by omega)]; omega
  · rw [cnt_ent hT]
    by_cases d : r < a
    · rw [if_pos d]
      obtain ⟨b, h1, h2, h3, h4⟩ := h.e r h0
      exact ⟨b, h1, h2, h3, by rw [key b r h2, if_neg (by omega)]; exact h4⟩
    · rw [if_neg d]
      by_cases c : cnt T (a - 1) + 1 ≤ cnt T r
      · obtain ⟨b, h1, h2, h3, h4⟩ := h.e r h0
        refine ⟨b, h1, h2, h3, ?_⟩
        rw [key b r h2]
        split
        · have u2 := h.u b (a - 1) h2 (by omega)
          omega
        · omega
      · obtain ⟨b, h1, h2, h3, h4⟩ := h.e (a - 1) (by omega)
        refine ⟨b, h1, h2, by omega, ?_⟩
        have u1 := h.u b r h2 (by omega)
        rw [key b r h2, if_pos (by omega)]
        omega
theorem top_rm {R : List Int} (hR : Asc R) (hp : Pos R) {v : List Int} (hv : Pos v) : Top R (lnk v) (cnt (rm R v)) := by
  revert hv
  refine snoc_ind (P := fun v => Pos v → Top R (lnk v) (cnt (rm R v))) (fun _ => top_nil hR hp) (fun v a ih h => ?_) v
  have hv : Pos v := fun x hx => h x (List.mem_append_left _ hx)
  rw [lnk_snoc, rm_snoc]
  exact top_step (lnk_wk hv) (asc_rm v hR) (ih hv) (h a (by simp))
end DL
set_option Elab.async false
set_option linter.all false
set_option maxRecDepth 100000
set_option maxHeartbeats 2000000
namespace DL
open PySem PySem.Spec PyProof.Rows
open L2 hiding St V
section
variable (env : Env) (b : Bx)
@[simp] theorem s_pBin (f : D → D → Option D) (p q : P) : pBin f p q env b = (p env b).bind fun x => (q env b).bind fun y => f x y := rfl
@[simp] theorem s_pUn (f : D → Option D) (p : P) : pUn f p env b = (p env b).bind f := rfl
@[simp] theorem s_pVar (i : Nat) : pVar i env b = match env[i]? with
  | some (some (.dat d)) => some d
  | some (some (.bx k)) => (match b[k]? with | some (.froz d) => some d | _ => none)
  | _ => none := rfl
@[simp] theorem s_pC (d : D) : pC d env b = some d := rfl
@[simp] theorem s_pApp (g : List D → Option D) (ms : PL) : pApp g ms env b = (ms env b).bind g := rfl
@[simp] theorem s_plNil : plNil env b = some [] := rfl
@[simp] theorem s_plCons (m : P) (r : PL) : plCons m r env b = (m env b).bind fun x => (r env b).map fun xs => x :: xs := rfl
@[simp] theorem s_plStar (m : P) (r : PL) : plStar m r env b = (m env b).bind fun x => (seqOf x).bind fun ys => (r env b).map fun xs => ys ++ xs := rfl
@[simp] theorem s_plSeq (m : P) : plSeq m env b = (m env b).bind seqOf := rfl
@[simp] theorem s_plOf (g : List D → Option (List D)) (m : PL) : plOf g m env b = (m env b).bind g := rfl
@[simp] theorem s_pTrue : pTrue env b = some (.bool true) := rfl
@[simp] theorem s_lift (g : P) : lift g env b = (g env b).map fun d => (.ok d, b) := rfl
@[simp] theorem s_liftA (g : PL) : liftA g env b = (g env b).map fun d => (.ok d, b) := rfl
@[simp] theorem s_pAnd (p q : P) : pAnd p q env b = (p env b).bind fun x => pTru (truthD x) q (fun _ _ => some x) env b := rfl
@[simp] theorem s_pOr (p q : P) : pOr p q env b = (p env b).bind fun x => pTru (truthD x) (fun _ _ => some x) q env b := rfl
@[simp] theorem s_pIf (c p q : P) : pIf c p q env b = (c env b).bind fun x => pTru (truthD x) p q env b := rfl
@[simp] theorem s_pTruT (p q : P) : pTru (some true) p q = p := rfl
@[simp] theorem s_pTruF (p q : P) : pTru (some false) p q = q := rfl
@[simp] theorem s_mTruT (p q : M) : mTru (some true) p q = p := rfl
@[simp] theorem s_mTruF (p q : M) : mTru (some false) p q = q := rfl
theorem s_pChain0 (f g : D → D → Option D) (p q r : P) : pChain f g p q r env b = (p env b).bind fun x => (q env b).bind fun y => pTru (asB (f x y)) (pBind r fun z _ _ => g y z) (fun _ _ => some (.bool false)) env b := rfl
@[simp] theorem s_gN (i : Nat) (d : D) : gN i d env = if i < env.length then some (env.set i (some (.dat d))) else none := rfl
@[simp] theorem s_truthB (x : Bool) : truthD (.bool x) = some x := rfl
@[simp] theorem s_truthI (i : Int) : truthD (.int i) = some (i != 0) := rfl
@[simp] theorem s_truthL (l : List D) : truthD (.list l) = some (!l.isEmpty) := rfl
@[simp] theorem s_truthT (l : List D) : truthD (.tuple l) = some (!l.isEmpty) := rfl
@[simp] theorem s_truthN : truthD .none = some false := rfl
end
section
variable (i j k : Int)
@[simp] theorem s_addI : dAdd (.int i) (.int j) = some (.int (i + j)) := rfl
@[simp] theorem s_subI : dSub (.int i) (.int j) = some (.int (i - j)) := rfl
@[simp] theorem s_negI : dNeg (.int i) = some (.int (-i)) := rfl
@[simp] theorem s_gtI : dGt (.int i) (.int j) = some (.bool (decide (j < i))) := rfl
@[simp] theorem s_geI : dGe (.int i) (.int j) = some (.bool (decide (j ≤ i))) := rfl
@[simp] theorem s_ltI : dLt (.int i) (.int j) = some (.bool (decide (i < j))) := rfl
@[simp] theorem s_leI : dLe (.int i) (.int j) = some (.bool (decide (i ≤ j))) := rfl
@[simp] theorem s_eqI : dEq (.int i) (.int j) = some (.bool (i == j)) := dEq_i i j
@[simp] theorem s_neI : dNe (.int i) (.int j) = some (.bool (!(i == j))) := dNe_i i j
@[simp] theorem s_not (x : Bool) : dNot (.bool x) = some (.bool (!x)) := rfl
theorem chain_le {env : Env} {b : Bx} {p q r : P} (h1 : p env b = some (.int i)) (h2 : q env b = some (.int j)) (h3 : r env b = some (.int k)) : pChain dLe dLe p q r env b = some (.bool (decide (i ≤ j) && decide (j ≤ k))) := by
  rw [s_pChain0, h1, h2]
  simp only [Option.bind_some, s_leI, asB]
  by_cases h : i ≤ j
  · simp [h, pTru, pBind, h3]
  · simp [h, pTru]
theorem chain_lt {env : Env} {b : Bx} {p q r : P} (h1 : p env b = some (.int i)) (h2 : q env b = some (.int j)) (h3 : r env b = some (.int k)) : pChain dLe dLt p q r env b = some (.bool (decide (i ≤ j) && decide (j < k))) := by
  rw [s_pChain0, h1, h2]
  simp only [Option.bind_some, s_leI, asB]
  by_cases h : i ≤ j
  · simp [h, pTru, pBind, h3]
  · simp [h, pTru]
end
abbrev eL (l : List Int) : D := .list (l.map .int)
abbrev eT (l : List Int) : D := .tuple (l.map .int)
abbrev eC (l : List (List Int)) : D := .tuple (l.map eT)
theorem cList_t (l : List D) : cList [.tuple l] = some (.list l) := rfl
theorem cList_l (l : List D) : cList [.list l] = some (.list l) := rfl
theorem cTuple_l (l : List D) : cTuple [.list l] = some (.tuple l) := rfl
theorem cTuple_t (l : List D) : cTuple [.tuple l] = some (.tuple l) := rfl
theorem seqOf_l (l : List D) : seqOf (.list l) = some l := rfl
theorem seqOf_t (l : List D) : seqOf (.tuple l) = some l := rfl
theorem addL {x y : List D} (h : x.length + y.length ≤ SZ) : dAdd (.list x) (.list y) = some (.list (x ++ y)) := if_pos h
theorem addT {x y : List D} (h : x.length + y.length ≤ SZ) : dAdd (.tuple x) (.tuple y) = some (.tuple (x ++ y)) := if_pos h
theorem tupD {x : List D} (h : x.length ≤ SZ) : gTupD x = some (.tuple x) := if_pos h
theorem last_at {α : Type} (l : List α) (x : α) : atI (l ++ [x]) (-1) = some x := by
  unfold atI ixN
  simp
  have h : (1 : Int) ≤ (l.length : Int) + 1 := by omega
  have e : (-1 + ((l.length : Int) + 1)).toNat = l.length := by omega
  rw [if_pos h, Option.bind_some, e]
  simp
theorem fP_rt {np nn : Nat} {s : S} {ds : List D} {d : D} {b : Bx} (E : Env) (hl : ds.length = np) (hE : (ds.map Cel.dat).map some ++ List.replicate (nn - np) none = E) (h : s E [] = some (.rt d, b)) : fP (runF np nn s) ds = some d := by
  rw [fP_runF, if_pos hl, hE, h]
theorem loop_pre {α : Type} {f : Tg} {body : S} {enc : α → D} (I : List α → Env → Bx → Prop) : ∀ (xs done : List α) (env : Env) (b : Bx), I done env b →
    (∀ pre x post env b, done ++ xs = pre ++ x :: post → I pre env b → ∃ env1, f (enc x) env = some env1 ∧ ∃ env2 b2, body env1 b = some (.nx env2, b2) ∧ I (pre ++ [x]) env2 b2) → ∃ env2 b2, loopS f body (xs.map enc) env b = some (.nx env2, b2) ∧ I (done ++ xs) env2 b2
  | [], done, env, b, h, _ => ⟨env, b, rfl, by rw [List.append_nil]; exact h⟩
  | x :: xs, done, env, b, h, k => by
    obtain ⟨env1, e1, env2, b2, e2, h2⟩ := k done x xs env b rfl h
    obtain ⟨env3, b3, e3, h3⟩ := loop_pre I xs (done ++ [x]) env2 b2 h2 fun pre y post env b e => k pre y post env b (by rw [← e, List.append_assoc]; rfl)
    refine ⟨env3, b3, ?_, by rw [List.append_assoc] at h3; exact h3⟩
    rw [List.map_cons, loopS, e1]
    dsimp only
    rw [e2]
    exact e3
theorem append_ok {i k : Nat} {ms : MA} {env : Env} {b : Bx} {ds : List D} {x : D} (he : env[i]? = some (some (.bx k))) (hb : b[k]? = some (.live (.list ds))) (hm : ms env b = some (.ok [x], b)) (hz : ds.length < SZ) : sDo (mBopL fAppend i ms) env b = some (.nx env, b.set k (.live (.list (ds ++ [x])))) := by
  unfold sDo mBopL mBop
  simp [he, hb, hm, isList, fAppend, hz]
theorem bix_ok {i k : Nat} {g : P} {env : Env} {b : Bx} {ds : List D} {j : Int} {x : D} (he : env[i]? = some (some (.bx k))) (hb : b[k]? = some (.live (.list ds))) (hg : g env b = some (.int j)) (h : atI ds j = some x) : pBIx i g env b = some x := by
  unfold pBIx
  simp [he, hg, hb, h]
theorem frz_ok {i k : Nat} {env : Env} {b : Bx} {d : D} (he : env[i]? = some (some (.bx k))) (hb : b[k]? = some (.live d)) : mFrz i env b = some (.ok d, b.set k (.froz d)) := by
  unfold mFrz
  simp [he, hb]
theorem compP_enc {α β : Type} {i : Nat} {pc pe : P} {env : Env} {b : Bx} {enc : α → D} {dec : β → D} {q : α → Bool} {g : α → β} (hi : i < env.length) : ∀ (xs : List α),
    (∀ x ∈ xs, pc (env.set i (some (.dat (enc x)))) b = some (.bool (q x))) → (∀ x ∈ xs, q x = true → pe (env.set i (some (.dat (enc x)))) b = some (dec (g x))) → compP (gN i) pc pe env b (xs.map enc) = some (((xs.filter q).map g).map dec)
  | [], _, _ => rfl
  | x :: xs, h1, h2 => by
    have ih := compP_enc hi xs (fun y hy => h1 y (List.mem_cons_of_mem _ hy)) fun y hy => h2 y (List.mem_cons_of_mem _ hy)
    rw [List.map_cons, compP, ih, s_gN, if_pos hi, Option.bind_some, h1 x List.mem_cons_self, Option.bind_some, s_truthB, Option.bind_some]
    cases hq : q x with
    | true =>
      rw [List.filter_cons_of_pos hq]
      dsimp only
      rw [h2 x List.mem_cons_self hq]
      simp
    | false =>
      rw [List.filter_cons_of_neg (by rw [hq]; exact Bool.false_ne_true)]
end DL
set_option Elab.async false
set_option linter.all false
set_option maxRecDepth 100000
set_option maxHeartbeats 2000000
namespace DL
open PySem PySem.Spec PyProof.Rows
open L2 hiding St V
def Rk (v : List Int) : Prop := ∀ x ∈ v, 1 ≤ x ∧ x ≤ 12
theorem Rk.pos {v : List Int} (h : Rk v) : Pos v := fun x hx => (h x hx).1
theorem Rk.tl {x : Int} {v : List Int} (h : Rk (x :: v)) : Rk v := fun y hy => h y (List.mem_cons_of_mem _ hy)
theorem Rk.sub {v w : List Int} (h : Rk w) (s : ∀ x ∈ v, x ∈ w) : Rk v := fun x hx => h x (s x hx)
structure Room (c : List Int) : Prop where
  asc : Asc c
  rk : Rk c
theorem cnt_pos {R : List Int} (hR : Asc R) (hp : Pos R) (n : Nat) : cnt R n ≤ n := by
  induction n with
  | zero => rw [cnt_zero fun y hy => by have := hp y hy; show (0 : Int) < y; omega]; exact Nat.le_refl _
  | succ n ih =>
    have := mem_cnt hR ((n + 1 : Nat) : Int)
    rw [this]
    have e : (((n + 1 : Nat) : Int)) - 1 = n := by omega
    rw [e]
    split <;> omega
theorem Room.len {c : List Int} (h : Room c) : c.length ≤ 12 := by
  have := cnt_pos h.asc h.rk.pos 12
  have e : cnt c ((12 : Nat) : Int) = c.length := cnt_all fun y hy => (h.rk y hy).2
  rw [e] at this
  exact this
theorem Room.small {c : List Int} (h : Room c) : Small c := ⟨Nat.le_trans h.len (by decide), fun x hx => by have := h.rk x hx; omega⟩
theorem gone_cons {x a : Int} {r : List Int} : goneI (x :: r) a = if x = a then none else if a < x then (if a ∈ r then none else some x) else goneI r a := by
  unfold goneI
  by_cases h : x = a
  · subst h; simp
  · have h' : ¬ a = x := fun e => h e.symm
    by_cases h2 : a < x
    · simp [h, h', h2]
    · simp [h, h', h2]
theorem ent_mem {R : List Int} (hR : Asc R) (a x : Int) : x ∈ ent R a ↔ x = a ∨ (x ∈ R ∧ some x ≠ goneI R a) := by
  induction R with
  | nil => simp [ent]
  | cons y r ih =>
    obtain ⟨h1, h2⟩ := asc_cons.mp hR
    have ih := ih h2
    rw [gone_cons]
    unfold ent
    by_cases h3 : y < a
    · rw [if_pos h3, if_neg (by omega), if_neg (by omega), List.mem_cons, ih, List.mem_cons]
      constructor
      · rintro (h | h | ⟨h, k⟩)
        · refine .inr ⟨.inl h, fun e => ?_⟩
          have := gone_gt e.symm
          omega
        · exact .inl h
        · exact .inr ⟨.inr h, k⟩
      · rintro (h | ⟨h | h, k⟩)
        · exact .inr (.inl h)
        · exact .inl h
        · exact .inr (.inr ⟨h, k⟩)
    · rw [if_neg h3]
      by_cases h4 : y = a
      · rw [if_pos h4, if_pos h4, List.mem_cons]
        subst h4
        constructor
        · exact fun h => h.elim .inl fun h => .inr ⟨.inr h, by simp⟩
        · rintro (h | ⟨h, _⟩)
          · exact .inl h
          · exact h
      · have hn : a ∉ r := fun z => by have := h1 a z; omega
        rw [if_neg h4, if_neg h4, if_pos (by omega), if_neg hn, List.mem_cons, List.mem_cons]
        constructor
        · rintro (h | h)
          · exact .inl h
          · refine .inr ⟨.inr h, fun e => ?_⟩
            injection e with e
            have := h1 x h
            omega
        · rintro (h | ⟨h | h, k⟩)
          · exact .inl h
          · exact absurd (by rw [h]) k
          · exact .inr h
theorem come_ent {c : List Int} (h : Asc c) (n : Int) : comeI c n = ent c n := by
  refine sorted_unique (uniq_spec _).1 (asc_ent h) fun x => ?_
  rw [ent_mem h, comeI, (uniq_spec _).2, List.mem_append, List.mem_singleton, List.mem_filter]
  simp only [decide_eq_true_eq]
  constructor
  · rintro (h | h)
    · exact .inr h
    · exact .inl h
  · rintro (h | h)
    · exact .inr h
    · exact .inl h
theorem Room.ent {c : List Int} (h : Room c) {n : Int} (hn : 1 ≤ n ∧ n ≤ 12) : Room (ent c n) := ⟨asc_ent h.asc, fun x hx => by
  rcases mem_ent hx with rfl | hx
  · exact hn
  · exact h.rk x hx⟩
theorem Room.rm {c : List Int} (h : Room c) {v : List Int} (hv : Rk v) : Room (rm c v) := by
  induction v generalizing c with
  | nil => exact h
  | cons a v ih => exact ih (h.ent (hv a List.mem_cons_self)) hv.tl
theorem entered_r {s : D} {c : List Int} (h : IsSeq s c) (hc : Room c) (n : Int) : fP F_entered [s, .int n] = some (eT (ent c n)) := by
  rw [entered_ok h n hc.small hc.len, come_ent hc.asc]
def along : List Int → List Int → List (List Int)
  | R, [] => [R]
  | R, a :: v => R :: along (ent R a) v
theorem along_snoc (R v : List Int) (a : Int) : along R (v ++ [a]) = along R v ++ [rm R (v ++ [a])] := by
  induction v generalizing R with
  | nil => rfl
  | cons x v ih => show R :: along (ent R x) (v ++ [a]) = _; rw [ih]; rfl
theorem along_last (R v : List Int) : ∃ l, along R v = l ++ [rm R v] := by
  induction v generalizing R with
  | nil => exact ⟨[], rfl⟩
  | cons x v ih => obtain ⟨l, e⟩ := ih (ent R x); exact ⟨R :: l, by show R :: along (ent R x) v = _; rw [e]; rfl⟩
theorem along_len (R v : List Int) : (along R v).length = v.length + 1 := by
  induction v generalizing R with
  | nil => rfl
  | cons x v ih => show (R :: along (ent R x) v).length = _; rw [List.length_cons, ih]; rfl
theorem IsSeq.tup {s : D} {c : List Int} (h : IsSeq s c) : cTuple [s] = some (eT c) := by
  rcases h with rfl | rfl <;> rfl
theorem rooms_along_r {s t : D} {c v : List Int} (h : IsSeq s c) (hc : Room c) (ht : IsSeq t v) (hv : Rk v) (hl : v.length ≤ 10000) : fP F_rooms_along [s, t] = some (.list ((along c v).map eT)) := by
  unfold F_rooms_along
  obtain ⟨env2, b2, e2, x3, rfl, rfl⟩ := loop_pre (f := gN 3) (enc := PyData.int) (body := sDo (mBopL fAppend 2 (liftA (plCons (pApp (fP F_entered) (plCons (pBIx 2 (pUn dNeg (pC (.int 1)))) (plCons (pVar 3) plNil))) plNil))))
    (fun u env b => ∃ x3, env = [some (.dat s), some (.dat t), some (.bx 0), x3] ∧ b = [.live (.list ((along c u).map eT))]) v [] [some (.dat s), some (.dat t), some (.bx 0), none] [.live (.list [eT c])] ⟨none, rfl, rfl⟩ (by
      rintro u x post env b e ⟨x3, rfl, rfl⟩
      have hx : ∀ y ∈ u ++ [x], y ∈ v := fun y hy => by
        rw [← List.nil_append v, e]
        rcases List.mem_append.mp hy with hy | hy
        · exact List.mem_append_left _ hy
        · rw [List.mem_singleton] at hy; subst hy; exact List.mem_append_right _ List.mem_cons_self
      have hu : Rk u := hv.sub fun y hy => hx y (List.mem_append_left _ hy)
      have hul : u.length ≤ v.length := by
        have := congrArg List.length e
        simp at this; omega
      obtain ⟨l, el⟩ := along_last c u
      refine ⟨_, rfl, _, _, append_ok (k := 0) (ds := (along c u).map eT) (x := eT (ent (rm c u) x)) rfl rfl ?_ ?_, some (.dat (.int x)), rfl, ?_⟩
      · have q : pBIx 2 (pUn dNeg (pC (.int 1))) [some (.dat s), some (.dat t), some (.bx 0), some (.dat (.int x))] [.live (.list ((along c u).map eT))] = some (eT (rm c u)) :=
          bix_ok (k := 0) (j := -1) rfl rfl rfl (by rw [el, List.map_append]; exact last_at _ _)
        have q2 := entered_r (s := eT (rm c u)) (.inl rfl) (hc.rm hu) x
        refine liftA_ok (plCons_ok (pApp_ok (plCons_ok q (plCons_ok rfl rfl)) q2) rfl)
      · rw [List.length_map, along_len]
        exact Nat.lt_of_le_of_lt (Nat.succ_le_succ hul) (Nat.lt_of_le_of_lt (Nat.succ_le_succ hl) (by decide))
      · rw [along_snoc, rm_snoc, List.map_append]; rfl)
  refine fP_rt [some (.dat s), some (.dat t), none, none] rfl rfl (sSeq_ok (sNew_ok (d := .list [eT c]) (b1 := []) ?_ (by simp)) (sSeq_ok (sFor_ok (ds := v.map .int) (b1 := [.live (.list [eT c])]) ?_ e2) (sRet_ok (frz_ok (k := 0) rfl rfl))))
  · simp [h.tup, gLstD]
  · simp [ht.seq]
theorem room_after_r {s t : D} {c v : List Int} (h : IsSeq s c) (hc : Room c) (ht : IsSeq t v) (hv : Rk v) (hl : v.length ≤ 10000) : fP F_room_after [s, t] = some (eT (rm c v)) := by
  have e := rooms_along_r h hc ht hv hl
  obtain ⟨l, el⟩ := along_last c v
  have e2 : dIx (.list ((along c v).map eT)) (.int (-1)) = some (eT (rm c v)) := by
    rw [el, List.map_append]; exact last_at _ _
  unfold F_room_after
  refine fP_rt [some (.dat s), some (.dat t)] rfl rfl (sRet_ok (lift_ok (pBin_ok (pApp_ok (plCons_ok rfl (plCons_ok rfl rfl)) e) rfl e2)))
end DL
set_option Elab.async false
set_option linter.all false
set_option maxRecDepth 100000
set_option maxHeartbeats 2000000
namespace DL
open PySem PySem.Spec PyProof.Rows
open L2 hiding St V
section
variable {β : Type} (e : β → D)
def encV (L : List (Int × β)) : List (D × D) := L.map fun p => (.int p.1, e p.2)
def kys (L : List (Int × β)) : List Int := L.map (·.1)
def findL (L : List (Int × β)) (k : Int) : Option β := (L.find? fun p => decide (p.1 = k)).map (·.2)
def putL (L : List (Int × β)) (k : Int) (v : β) : List (Int × β) := if k ∈ kys L then L.map (fun p => if p.1 = k then (p.1, v) else p) else L ++ [(k, v)]
def dropL (L : List (Int × β)) (k : Int) : List (Int × β) := L.filter fun p => decide (p.1 ≠ k)
theorem keyG_int (a b : Int) : (keyG (.int a) = keyG (.int b)) ↔ a = b := by
  show (some (Sum.inl (Sum.inl a)) : Option (Sum Key (List Key))) = some (Sum.inl (Sum.inl b)) ↔ a = b
  constructor
  · intro h; injection h with h; injection h with h; injection h
  · intro h; rw [h]
theorem look_enc (L : List (Int × β)) (k : Int) : lookD (encV e L) (.int k) = (findL L k).map e := by
  unfold lookD findL encV
  induction L with
  | nil => rfl
  | cons p L ih =>
    rw [List.map_cons, List.find?_cons, List.find?_cons]
    by_cases h : p.1 = k
    · have h1 : decide (keyG (.int p.1) = keyG (.int k)) = true := decide_eq_true ((keyG_int _ _).mpr h)
      simp only [h1, decide_eq_true h, Option.map_some]
    · have h1 : decide (keyG (.int p.1) = keyG (.int k)) = false := decide_eq_false fun z => h ((keyG_int _ _).mp z)
      simp only [h1, decide_eq_false h]
      exact ih
theorem any_enc (L : List (Int × β)) (k : Int) : ((encV e L).any fun p => decide (keyG p.1 = keyG (.int k))) = decide (k ∈ kys L) := by
  unfold encV kys
  induction L with
  | nil => rfl
  | cons p L ih =>
    rw [List.map_cons, List.any_cons, ih, List.map_cons, Bool.eq_iff_iff]
    simp only [Bool.or_eq_true, decide_eq_true_eq, keyG_int, List.mem_cons]
    constructor
    · rintro (h | h)
      · exact .inl h.symm
      · exact .inr h
    · rintro (h | h)
      · exact .inl h.symm
      · exact .inr h
theorem put_enc (L : List (Int × β)) (k : Int) (v : β) : putD (encV e L) (.int k) (e v) = encV e (putL L k v) := by
  unfold putD putL
  rw [any_enc]
  by_cases h : k ∈ kys L
  · rw [if_pos (decide_eq_true h), if_pos h]
    unfold encV
    rw [List.map_map, List.map_map]
    apply List.map_congr_left
    intro p _
    simp only [Function.comp, keyG_int]
    by_cases hp : p.1 = k
    · rw [if_pos hp, if_pos hp]
    · rw [if_neg hp, if_neg hp]
  · rw [if_neg (by rw [decide_eq_false h]; exact Bool.false_ne_true), if_neg h]
    simp [encV]
theorem drop_enc (L : List (Int × β)) (k : Int) : dropD (encV e L) (.int k) = encV e (dropL L k) := by
  unfold dropD dropL encV
  induction L with
  | nil => rfl
  | cons p L ih =>
    rw [List.map_cons, List.filter_cons, List.filter_cons, ih]
    simp only [ne_eq, keyG_int]
    by_cases hp : p.1 = k
    · simp [hp]
    · simp [hp]
theorem noT_enc (L : List (Int × β)) : noT (encV e L) = true := by cases L <;> rfl
theorem dLook_enc (L : List (Int × β)) (k : Int) : dLook (encV e L) (.int k) = some ((findL L k).map e) := by
  rw [← look_enc]
  cases L <;> rfl
theorem dPut_e (L : List (Int × β)) (k : Int) (v : β) (h : L.length < SZ) : dPut (encV e L) (.int k) (e v) = some (encV e (putL L k v)) := by
  rw [← put_enc]
  cases L with
  | nil => rfl
  | cons p L =>
    show (if (encV e (p :: L)).length < SZ then some (putD (encV e (p :: L)) (.int k) (e v)) else none) = _
    rw [if_pos (by unfold encV; rw [List.length_map]; exact h)]
theorem dIxD_enc {L : List (Int × β)} {k : Int} {v : β} (h : findL L k = some v) : dIxD (.dict (encV e L)) (.int k) = some (e v) := by
  show (dLook (encV e L) (.int k)).bind id = _
  rw [dLook_enc, h]; rfl
theorem fGetD_enc (L : List (Int × β)) (k : Int) (d : D) : fGetD (.dict (encV e L)) [.int k, d] = some (((findL L k).map e).getD d) := by
  show (if noT (encV e L) = true then some ((lookD (encV e L) (.int k)).getD d) else none) = _
  rw [if_pos (noT_enc e L), look_enc]
theorem fPop_enc {L : List (Int × β)} {k : Int} {v : β} (h : findL L k = some v) : fPop (.dict (encV e L)) [.int k] = some (e v, .dict (encV e (dropL L k))) := by
  show (if noT (encV e L) = true then (lookD (encV e L) (.int k)).map (fun v => (v, PyData.dict (dropD (encV e L) (.int k)))) else none) = _
  rw [if_pos (noT_enc e L), look_enc, h, drop_enc]; rfl
theorem items_enc (L : List (Int × β)) : itemsOf (.dict (encV e L)) = some ((kys L).map .int) := by
  cases L with
  | nil => rfl
  | cons p L => show some ((encV e (p :: L)).map (·.1)) = _; simp [encV, kys, Function.comp_def]
end
section
variable {β : Type}
theorem find_mem {L : List (Int × β)} (nd : (kys L).Nodup) {k : Int} {v : β} (h : (k, v) ∈ L) : findL L k = some v := by
  unfold findL
  induction L with
  | nil => cases h
  | cons p L ih =>
    rw [List.find?_cons]
    unfold kys at nd
    rw [List.map_cons, List.nodup_cons] at nd
    rcases List.mem_cons.mp h with h | h
    · subst h; simp
    · have hp : ¬ p.1 = k := fun e => nd.1 (e ▸ List.mem_map_of_mem (f := fun q : Int × β => q.1) h)
      rw [decide_eq_false hp]
      exact ih nd.2 h
theorem find_none {L : List (Int × β)} {k : Int} (h : k ∉ kys L) : findL L k = none := by
  unfold findL
  rw [List.find?_eq_none.mpr]
  · rfl
  · intro p hp z
    exact h ((of_decide_eq_true z) ▸ List.mem_map_of_mem (f := fun q : Int × β => q.1) hp)
theorem kys_put (L : List (Int × β)) (k : Int) (v : β) : kys (putL L k v) = if k ∈ kys L then kys L else kys L ++ [k] := by
  unfold putL
  by_cases h : k ∈ kys L
  · rw [if_pos h, if_pos h]
    unfold kys
    rw [List.map_map]
    apply List.map_congr_left
    intro p _
    simp only [Function.comp]
    split <;> rfl
  · rw [if_neg h, if_neg h]; simp [kys]
theorem nodup_put {L : List (Int × β)} (nd : (kys L).Nodup) (k : Int) (v : β) : (kys (putL L k v)).Nodup := by
  rw [kys_put]
  split
  · exact nd
  · rename_i h
    rw [List.nodup_append]
    refine ⟨nd, by simp, fun a ha b hb => ?_⟩
    rw [List.mem_singleton] at hb
    subst hb
    exact fun e => h (e ▸ ha)
theorem mem_put {L : List (Int × β)} {k r : Int} {v b : β} : (r, b) ∈ putL L k v ↔ (r = k ∧ b = v) ∨ (r ≠ k ∧ (r, b) ∈ L) := by
  unfold putL
  split
  · rename_i h
    rw [List.mem_map]
    constructor
    · rintro ⟨⟨x, y⟩, hp, e⟩
      simp only at e
      split at e
      · rename_i hx; injection e with e1 e2; exact .inl ⟨by omega, e2.symm⟩
      · rename_i hx; injection e with e1 e2; subst e1; subst e2; exact .inr ⟨hx, hp⟩
    · rintro (⟨rfl, rfl⟩ | ⟨h1, h2⟩)
      · obtain ⟨p, hp, e⟩ := List.mem_map.mp h
        exact ⟨p, hp, by rw [if_pos e, e]⟩
      · exact ⟨(r, b), h2, if_neg h1⟩
  · rename_i h
    rw [List.mem_append, List.mem_singleton]
    constructor
    · rintro (h1 | h1)
      · refine .inr ⟨fun e => h (e ▸ List.mem_map_of_mem (f := fun q : Int × β => q.1) h1), h1⟩
      · injection h1 with e1 e2; exact .inl ⟨e1, e2⟩
    · rintro (⟨rfl, rfl⟩ | ⟨_, h2⟩)
      · exact .inr rfl
      · exact .inl h2
theorem len_put (L : List (Int × β)) (k : Int) (v : β) : (putL L k v).length ≤ L.length + 1 := by
  unfold putL
  split
  · simp
  · simp
end
theorem sort_perm {l k : List Int} (h : Asc k) (p : l.Perm k) : l.mergeSort (fun a b => decide (a ≤ b)) = k := by
  have q := (List.mergeSort_perm l fun a b => decide (a ≤ b)).trans p
  have s : (l.mergeSort fun a b => decide (a ≤ b)).Pairwise fun a b => decide (a ≤ b) = true := List.pairwise_mergeSort (fun a b c h1 h2 => by simp at *; omega) (fun a b => by simp; omega) l
  refine q.eq_of_pairwise (le := fun a b => a ≤ b) (fun a b _ _ h1 h2 => by omega) (s.imp fun h => by simpa using h) (h.imp fun h => by omega)
theorem sorted_dict {β : Type} (e : β → D) {L : List (Int × β)} {k : List Int} (h : Asc k) (p : (kys L).Perm k) (hz : L.length ≤ SZ) : cSorted [.dict (encV e L)] = some (eL k) := by
  show (itemsOf _).bind _ = _
  rw [items_enc, Option.bind_some, sortD_ints (by unfold kys; rw [List.length_map]; exact hz), sort_perm h p]
  rfl
end DL
set_option Elab.async false
set_option linter.all false
set_option maxRecDepth 100000
set_option maxHeartbeats 2000000
namespace DL
open PySem PySem.Spec PyProof.Rows
open L2 hiding St V
abbrev eK (L : LK) : D := .dict (encV PyData.int L)
structure Rep (d : D) (K : LK) : Prop where
  ex : ∃ L : LK, d = eK L ∧ (kys L).Nodup ∧ ∀ p, p ∈ L ↔ p ∈ K
theorem nodup_of_map {α β : Type} (f : α → β) {l : List α} (h : (l.map f).Nodup) : l.Nodup := (List.pairwise_map.mp h).imp fun h e => h (congrArg f e)
theorem rep_perm {L K : LK} (hK : WK K) (nd : (kys L).Nodup) (h : ∀ p, p ∈ L ↔ p ∈ K) : L.Perm K := by
  have n1 : L.Nodup := nodup_of_map (fun p : Int × Int => p.1) nd
  have n2 : K.Nodup := nodup_of_map (fun p : Int × Int => p.1) (hK.asc.imp fun {a b} h => by omega)
  exact (List.perm_ext_iff_of_nodup n1 n2).mpr h
theorem rep_kys {L K : LK} (hK : WK K) (nd : (kys L).Nodup) (h : ∀ p, p ∈ L ↔ p ∈ K) : (kys L).Perm (ky K) := (rep_perm hK nd h).map _
theorem lk_find {L K : LK} (hK : WK K) (nd : (kys L).Nodup) (h : ∀ p, p ∈ L ↔ p ∈ K) {r b : Int} (hp : (r, b) ∈ K) : findL L r = some b := find_mem nd ((h _).mpr hp)
def look (K : LK) (a : Int) : Int := (findL K a).getD a
theorem mem_lvN {K : LK} (hK : WK K) {a : Int} (p : Int × Int) : p ∈ lvN K a ↔ (p.1 < a ∧ p ∈ K) ∨ p = (a, 0) ∨ p ∈ run (look K a) (K.filter fun q => decide (a < q.1)) := by
  induction K with
  | nil =>
    unfold lvN
    rw [List.mem_singleton]
    simp [run]
  | cons q K ih =>
    obtain ⟨r, b⟩ := q
    have hd := hK.hd
    have ih := ih hK.tl
    have fl : ∀ x : Int, x ≤ r → (K.filter fun q => decide (x < q.1)) = K := fun x hx => List.filter_eq_self.mpr fun q hq => by have := hd q hq; simp at *; omega
    unfold lvN
    by_cases h1 : r < a
    · have e : look ((r, b) :: K) a = look K a := by
        unfold look findL
        rw [List.find?_cons, decide_eq_false (show ¬ (r, b).1 = a by simp; omega)]
      rw [if_pos h1, List.mem_cons, ih, e, List.filter_cons, if_neg (by simp; omega), List.mem_cons]
      constructor
      · rintro (h | ⟨h, k⟩ | h)
        · exact .inl ⟨by rw [h]; exact h1, .inl h⟩
        · exact .inl ⟨h, .inr k⟩
        · exact .inr h
      · rintro (⟨h, k | k⟩ | h)
        · exact .inl k
        · exact .inr (.inl ⟨h, k⟩)
        · exact .inr (.inr h)
    · rw [if_neg h1]
      by_cases h2 : r = a
      · have e : look ((r, b) :: K) a = b := by
          unfold look findL
          rw [List.find?_cons, decide_eq_true (show (r, b).1 = a from h2)]; rfl
        rw [if_pos h2, e, List.filter_cons, if_neg (by simp; omega), fl a (by omega), List.mem_cons]
        constructor
        · rintro (h | h)
          · exact .inr (.inl h)
          · exact .inr (.inr h)
        · rintro (⟨h, k⟩ | h | h)
          · rcases List.mem_cons.mp k with k | k
            · subst k; simp at h; omega
            · have := hd _ k; simp at this; omega
          · exact .inl h
          · exact .inr h
      · have e : look ((r, b) :: K) a = a := by
          have : findL ((r, b) :: K) a = none := find_none (by
            unfold kys
            rw [List.map_cons, List.mem_cons]
            rintro (h | h)
            · simp at h; omega
            · obtain ⟨p, hp, e⟩ := List.mem_map.mp h
              have := hd p hp; simp at this; omega)
          unfold look
          rw [this]; rfl
        rw [if_neg h2, e, List.filter_cons, if_pos (by simp; omega), fl a (by omega), List.mem_cons]
        constructor
        · rintro (h | h)
          · exact .inr (.inl h)
          · exact .inr (.inr h)
        · rintro (⟨h, k⟩ | h | h)
          · rcases List.mem_cons.mp k with k | k
            · subst k; simp at h; omega
            · have := hd _ k; simp at this; omega
          · exact .inl h
          · exact .inr h
def LVB : S := (sIf (lift (pAnd (pBin dGt (pVar 4) (pVar 1)) (pBin dLt (pBin dIxD (pVar 0) (pVar 4)) (pVar 3)))) (sPutN 2 3 (pVar 4) (plCons (pVar 3) (plCons (pBin dIxD (pVar 0) (pVar 4)) plNil))) sNil)
theorem lv_loop {L0 : LK} {a : Int} : ∀ (post L : LK) (c : Int) (x4 : Option Cel), (∀ p ∈ post, findL L0 p.1 = some p.2) → Asc (ky post) → (kys L).Nodup → (∀ p ∈ post, a < p.1 → p ∈ L) → L.length + post.length < SZ →
    ∃ L2 x3 x4', loopS (gN 4) LVB ((ky post).map .int) [some (.dat (eK L0)), some (.dat (.int a)), some (.bx 0), some (.dat (.int c)), x4] [.live (eK L)] = some (.nx [some (.dat (eK L0)), some (.dat (.int a)), some (.bx 0), some (.dat (.int x3)), x4'], [.live (eK L2)]) ∧ (kys L2).Nodup ∧
      ∀ p, p ∈ L2 ↔ (p ∈ L ∧ ¬ (a < p.1 ∧ p.1 ∈ ky post)) ∨ p ∈ run c (post.filter fun q => decide (a < q.1)) := by
  intro post
  induction post with
  | nil => exact fun L c x4 _ _ nd _ _ => ⟨L, c, x4, rfl, nd, fun p => by simp [ky, run]⟩
  | cons q post ih =>
    obtain ⟨r, b⟩ := q
    intro L c x4 hf ha nd hl hz
    have ha2 := asc_cons.mp ha
    have f0 : findL L0 r = some b := hf (r, b) List.mem_cons_self
    have hf' : ∀ p ∈ post, findL L0 p.1 = some p.2 := fun p hp => hf p (List.mem_cons_of_mem _ hp)
    have hl' : ∀ p ∈ post, a < p.1 → p ∈ L := fun p hp => hl p (List.mem_cons_of_mem _ hp)
    have dx : dIxD (eK L0) (.int r) = some (.int b) := dIxD_enc PyData.int f0
    have hz' : L.length + post.length + 1 < SZ := by rw [List.length_cons] at hz; omega
    have step : loopS (gN 4) LVB ((ky ((r, b) :: post)).map .int) [some (.dat (eK L0)), some (.dat (.int a)), some (.bx 0), some (.dat (.int c)), x4] [.live (eK L)] =
        if a < r ∧ b < c then loopS (gN 4) LVB ((ky post).map .int) [some (.dat (eK L0)), some (.dat (.int a)), some (.bx 0), some (.dat (.int b)), some (.dat (.int r))] [.live (eK (putL L r c))]
        else loopS (gN 4) LVB ((ky post).map .int) [some (.dat (eK L0)), some (.dat (.int a)), some (.bx 0), some (.dat (.int c)), some (.dat (.int r))] [.live (eK L)] := by
      have hp : dPut (encV PyData.int L) (.int r) (.int c) = some (encV PyData.int (putL L r c)) := dPut_e PyData.int L r c (by omega)
      show loopS (gN 4) LVB (.int r :: (ky post).map .int) _ _ = _
      rw [loopS]
      simp only [s_gN, List.length_cons, List.length_nil, List.set_cons_succ, List.set_cons_zero]
      rw [if_pos (by decide)]
      dsimp only
      by_cases h : a < r ∧ b < c
      · have e : LVB [some (.dat (eK L0)), some (.dat (.int a)), some (.bx 0), some (.dat (.int c)), some (.dat (.int r))] [.live (eK L)] = some (.nx [some (.dat (eK L0)), some (.dat (.int a)), some (.bx 0), some (.dat (.int b)), some (.dat (.int r))], [.live (eK (putL L r c))]) := by
          unfold LVB
          rw [sIf_t (x := .bool true) (b1 := [.live (eK L)]) (by simp [h.1, h.2, dx]) rfl]
          unfold sPutN
          simp [dx, hp]
        rw [e, if_pos h]
      · have e : LVB [some (.dat (eK L0)), some (.dat (.int a)), some (.bx 0), some (.dat (.int c)), some (.dat (.int r))] [.live (eK L)] = some (.nx [some (.dat (eK L0)), some (.dat (.int a)), some (.bx 0), some (.dat (.int c)), some (.dat (.int r))], [.live (eK L)]) := by
          unfold LVB
          rw [sIf_f (x := .bool false) (b1 := [.live (eK L)]) (by
            by_cases h1 : a < r
            · have : ¬ b < c := fun z => h ⟨h1, z⟩
              simp [h1, this, dx]
            · simp [h1]) rfl]
          rfl
        rw [e, if_neg h]
    rw [step]
    by_cases h : a < r ∧ b < c
    · rw [if_pos h]
      obtain ⟨L2, x3, x4', e, nd2, hm⟩ := ih (putL L r c) b (some (.dat (.int r))) hf' ha2.2 (nodup_put nd r c) (fun p hp hap => by
        obtain ⟨y, z⟩ := p
        exact mem_put.mpr (.inr ⟨by have := ha2.1 y (List.mem_map_of_mem (f := fun q : Int × Int => q.1) hp); simp at this; omega, hl' _ hp hap⟩)) (by have := len_put L r c; omega)
      refine ⟨L2, x3, x4', e, nd2, fun p => ?_⟩
      obtain ⟨y, z⟩ := p
      rw [hm, mem_put, List.filter_cons, if_pos (by simpa using h.1)]
      show _ ↔ _ ∨ (y, z) ∈ (if b < c then (r, c) :: run b _ else _)
      rw [if_pos h.2, List.mem_cons]
      have hk : y ∈ ky ((r, b) :: post) ↔ y = r ∨ y ∈ ky post := List.mem_cons
      have hr : r ∉ ky post := fun q => by have := ha2.1 r q; simp at this
      simp only [hk]
      constructor
      · rintro (⟨⟨rfl, rfl⟩ | ⟨h1, h2⟩, h3⟩ | h1)
        · exact .inr (.inl rfl)
        · exact .inl ⟨h2, fun q => h3 ⟨q.1, q.2.resolve_left h1⟩⟩
        · exact .inr (.inr h1)
      · rintro (⟨h1, h2⟩ | h1 | h1)
        · refine .inl ⟨.inr ⟨fun e => h2 ⟨by rw [e]; exact h.1, .inl e⟩, h1⟩, fun q => h2 ⟨q.1, .inr q.2⟩⟩
        · injection h1 with e1 e2
          subst e1; subst e2
          exact .inl ⟨.inl ⟨rfl, rfl⟩, fun q => hr q.2⟩
        · exact .inr h1
    · rw [if_neg h]
      obtain ⟨L2, x3, x4', e, nd2, hm⟩ := ih L c (some (.dat (.int r))) hf' ha2.2 nd hl' (by omega)
      refine ⟨L2, x3, x4', e, nd2, fun p => ?_⟩
      obtain ⟨y, z⟩ := p
      rw [hm, List.filter_cons]
      have hk : y ∈ ky ((r, b) :: post) ↔ y = r ∨ y ∈ ky post := List.mem_cons
      have hr : r ∉ ky post := fun q => by have := ha2.1 r q; simp at this
      simp only [hk]
      by_cases h1 : a < r
      · have hbc : ¬ b < c := fun z => h ⟨h1, z⟩
        rw [if_pos (by simpa using h1)]
        show _ ↔ _ ∨ (y, z) ∈ (if b < c then _ else (r, b) :: run c _)
        rw [if_neg hbc, List.mem_cons]
        have hL := hl (r, b) List.mem_cons_self h1
        constructor
        · rintro (⟨h2, h3⟩ | h2)
          · by_cases e : y = r
            · subst e
              have := find_mem nd h2
              rw [find_mem nd hL] at this
              injection this with e2
              exact .inr (.inl (by rw [e2]))
            · exact .inl ⟨h2, fun q => h3 ⟨q.1, q.2.resolve_left e⟩⟩
          · exact .inr (.inr h2)
        · rintro (⟨h2, h3⟩ | h2 | h2)
          · exact .inl ⟨h2, fun q => h3 ⟨q.1, .inr q.2⟩⟩
          · injection h2 with e1 e2
            subst e1; subst e2
            exact .inl ⟨hL, fun q => hr q.2⟩
          · exact .inr h2
      · rw [if_neg (by simpa using h1)]
        constructor
        · rintro (⟨h2, h3⟩ | h2)
          · exact .inl ⟨h2, fun q => h3 ⟨q.1, q.2.resolve_left fun e => h1 (e ▸ q.1)⟩⟩
          · exact .inr h2
        · rintro (⟨h2, h3⟩ | h2)
          · exact .inl ⟨h2, fun q => h3 ⟨q.1, .inr q.2⟩⟩
          · exact .inr h2
theorem linked_visit_r {d : D} {K : LK} (hK : WK K) (hd : Rep d K) (hz : K.length ≤ 1000) {a : Int} : ∃ d2, fP F_linked_visit [d, .int a] = some d2 ∧ Rep d2 (lvN K a) := by
  obtain ⟨L0, rfl, nd0, h0⟩ := hd.ex
  have pm := rep_perm hK nd0 h0
  have hl0 : L0.length = K.length := pm.length_eq
  have h1000 : (1000 : Nat) + 1000 + 10 < SZ := by decide
  obtain ⟨L2, x3, x4, e, nd2, hm⟩ := lv_loop (L0 := L0) (a := a) K (putL L0 a 0) (look K a) none (fun p hp => lk_find hK nd0 h0 hp) hK.asc (nodup_put nd0 a 0) (fun p hp hap => by
    obtain ⟨y, z⟩ := p
    exact mem_put.mpr (.inr ⟨by simp at hap; omega, (h0 _).mpr hp⟩)) (by have := len_put L0 a 0; omega)
  refine ⟨eK L2, ?_, ⟨L2, rfl, nd2, fun p => ?_⟩⟩
  · unfold F_linked_visit
    have hlook : fGetD (eK L0) [.int a, .int a] = some (.int (look K a)) := by
      rw [fGetD_enc]
      unfold look
      have : findL L0 a = findL K a := by
        by_cases h : a ∈ ky K
        · obtain ⟨b, hb⟩ := ky_mem h
          rw [lk_find hK nd0 h0 hb, find_mem (hK.asc.imp fun {a b} h => by omega) hb]
        · rw [find_none h, find_none fun z => h ((rep_kys hK nd0 h0).mem_iff.mp z)]
      rw [this]
      cases findL K a <;> rfl
    have hdict : cDict [eK L0] = some (eK L0) := by
      show (if noT (encV PyData.int L0) = true then _ else _) = _
      rw [if_pos (noT_enc _ _)]
    have hput : dPut (encV PyData.int L0) (.int a) (.int 0) = some (encV PyData.int (putL L0 a 0)) := dPut_e PyData.int L0 a 0 (by omega)
    have hs : cSorted [eK L0] = some (eL (ky K)) := sorted_dict PyData.int hK.asc (rep_kys hK nd0 h0) (by omega)
    unfold LVB at e
    refine fP_rt [some (.dat (eK L0)), some (.dat (.int a)), none, none, none] rfl rfl (sSeq_ok (e1 := [some (.dat (eK L0)), some (.dat (.int a)), some (.bx 0), some (.dat (.int (look K a))), none]) (b1 := [.live (eK L0)]) ?_ (sSeq_ok (e1 := [some (.dat (eK L0)), some (.dat (.int a)), some (.bx 0), some (.dat (.int (look K a))), none]) (b1 := [.live (eK (putL L0 a 0))]) ?_ (sSeq_ok (sFor_ok (ds := (ky K).map .int) (b1 := [.live (eK (putL L0 a 0))]) ?_ e) (sRet_ok (frz_ok (k := 0) rfl rfl)))))
    · unfold sParF2
      simp [hdict, pMeth, hlook]
    · unfold sSetD
      simp [hput]
    · simp [hs, seqOf_l]
  · rw [hm, mem_lvN hK]
    obtain ⟨y, z⟩ := p
    rw [mem_put, h0]
    simp only
    constructor
    · rintro (⟨⟨rfl, rfl⟩ | ⟨h1, h2⟩, h3⟩ | h1)
      · exact .inr (.inl rfl)
      · have hy : y ∈ ky K := List.mem_map_of_mem (f := fun q : Int × Int => q.1) h2
        have : ¬ a < y := fun q => h3 ⟨q, hy⟩
        exact .inl ⟨by omega, h2⟩
      · exact .inr (.inr h1)
    · rintro (⟨h1, h2⟩ | h1 | h1)
      · exact .inl ⟨.inr ⟨by omega, h2⟩, fun q => by omega⟩
      · injection h1 with e1 e2
        exact .inl ⟨.inl ⟨e1, e2⟩, fun q => by omega⟩
      · exact .inr h1
theorem rep_nil : Rep (.dict []) [] := ⟨[], rfl, by simp [kys], fun p => Iff.rfl⟩
theorem wk_len {K : LK} (h : WK K) (n : Nat) (hn : ∀ x ∈ ky K, x ≤ n) : K.length ≤ n := by
  have hp : Pos (ky K) := fun x hx => by
    obtain ⟨b, hb⟩ := ky_mem hx
    have := h.bel _ hb
    simp at this; omega
  have h1 := cnt_pos h.asc hp n
  rw [cnt_all hn] at h1
  simpa [ky] using h1
theorem visit_loop {env : Env} {b : Bx} {i j : Nat} {body : S} (hb : ∀ env b (d : D) (x : Int) d2, env[i]? = some (some (.dat d)) → env[j]? = some (some (.dat (.int x))) → fP F_linked_visit [d, .int x] = some d2 → body env b = some (.nx (env.set i (some (.dat d2))), b)) (hij : i ≠ j) (hjl : j < env.length)
    {K : LK} (hK : WK K) {v : List Int} (hv : Rk v) (hk : ∀ x ∈ ky K, x ≤ 12) {d : D} (hd : Rep d K) (he : env[i]? = some (some (.dat d))) :
    ∃ d2 xj, loopS (gN j) body (v.map .int) env b = some (.nx ((env.set i (some (.dat d2))).set j xj), b) ∧ Rep d2 (v.foldl lvN K) := by
  induction v generalizing env K d with
  | nil =>
    have hil := (List.getElem?_eq_some_iff.mp he)
    refine ⟨d, env[j], ?_, hd⟩
    obtain ⟨h1, h2⟩ := hil
    rw [← h2, List.set_getElem_self, List.set_getElem_self]
    rfl
  | cons a v ih =>
    have ha := hv a List.mem_cons_self
    have hl := wk_len hK 12 hk
    obtain ⟨d1, e1, r1⟩ := linked_visit_r hK hd (by omega) (a := a)
    have he1 : (env.set j (some (.dat (.int a))))[i]? = some (some (.dat d)) := by rw [List.getElem?_set_ne (Ne.symm hij)]; exact he
    have he2 : (env.set j (some (.dat (.int a))))[j]? = some (some (.dat (.int a))) := by rw [List.getElem?_set_self hjl]
    have hb1 := hb _ b d a d1 he1 he2 e1
    have hil : i < env.length := (List.getElem?_eq_some_iff.mp he).1
    obtain ⟨d2, xj, e2, r2⟩ := ih (env := (env.set j (some (.dat (.int a)))).set i (some (.dat d1))) (by simp; exact hjl) (lvN_wk hK ha.1) hv.tl (fun x hx => by
      rcases (lvN_ky a x).mp hx with rfl | hx
      · exact ha.2
      · exact hk x hx) r1 (by rw [List.getElem?_set_self (by simp; exact hil)])
    refine ⟨d2, xj, ?_, r2⟩
    rw [List.map_cons, loopS, s_gN, if_pos hjl]
    dsimp only
    rw [hb1]
    dsimp only
    rw [e2]
    congr 2
    rw [List.set_set, List.set_comm _ _ hij, List.set_comm _ _ hij, List.set_set, List.set_comm _ _ (Ne.symm hij)]
end DL
set_option Elab.async false
set_option linter.all false
set_option maxRecDepth 100000
set_option maxHeartbeats 2000000
namespace DL
open PySem PySem.Spec PyProof.Rows
open L2 hiding St V
theorem leD_tup (a b : List Int) : leD (eT a) (eT b) = decide (a ≤ b) := by
  show (!PySem.W.dataLt (.tuple (b.map .int)) (.tuple (a.map .int))) = _
  rw [PySem.W.dataLt_tuple]
  show (!PySem.W.rowLt (b.map .int) (a.map .int)) = _
  rw [PySem.W.dataLt_ints]
  by_cases h : b < a
  · have h' : ¬ a ≤ b := fun r => List.not_lt.mpr r h
    simp [h, h']
  · have h' : a ≤ b := List.not_lt.mp h
    simp [h, h']
def sortC (cs : List (List Int)) : List (List Int) := insSort (fun a b => decide (a ≤ b)) cs
theorem insL_map {α β : Type} (f : α → β) (le : α → α → Bool) (le' : β → β → Bool) (h : ∀ a b, le' (f a) (f b) = le a b) (a : α) : ∀ l : List α, insL le' (f a) (l.map f) = (insL le a l).map f
  | [] => rfl
  | b :: r => by
    show (if le' (f a) (f b) = true then _ else _) = List.map f (if le a b = true then _ else _)
    rw [h]
    split
    · rfl
    · rw [insL_map f le le' h a r]; rfl
theorem insSort_map {α β : Type} (f : α → β) (le : α → α → Bool) (le' : β → β → Bool) (h : ∀ a b, le' (f a) (f b) = le a b) : ∀ l : List α, insSort le' (l.map f) = (insSort le l).map f
  | [] => rfl
  | a :: r => by
    show insL le' (f a) (insSort le' (r.map f)) = _
    rw [insSort_map f le le' h r, insL_map f le le' h]; rfl
theorem insL_perm {α : Type} (le : α → α → Bool) (a : α) : ∀ l : List α, (insL le a l).Perm (a :: l)
  | [] => List.Perm.refl _
  | b :: r => by
    unfold insL
    split
    · exact List.Perm.refl _
    · exact ((insL_perm le a r).cons b).trans (List.Perm.swap a b r)
theorem insSort_perm {α : Type} (le : α → α → Bool) : ∀ l : List α, (insSort le l).Perm l
  | [] => List.Perm.refl _
  | a :: r => (insL_perm le a _).trans ((insSort_perm le r).cons a)
theorem sortC_perm (cs : List (List Int)) : (sortC cs).Perm cs := insSort_perm _ cs
theorem leC_trans (a b c : List Int) (h : decide (a ≤ b) = true) (k : decide (b ≤ c) = true) : decide (a ≤ c) = true := by
  simp only [decide_eq_true_eq] at *
  exact List.le_trans h k
theorem leC_total (a b : List Int) : (decide (a ≤ b) || decide (b ≤ a)) = true := by
  simp only [Bool.or_eq_true, decide_eq_true_eq]
  exact List.le_total a b
theorem sortC_merge (cs : List (List Int)) : sortC cs = cs.mergeSort fun a b => decide (a ≤ b) := insSort_eq leC_trans leC_total cs
theorem sortC_sorted (cs : List (List Int)) : (sortC cs).Pairwise (· ≤ ·) := by
  rw [sortC_merge]
  exact (List.pairwise_mergeSort leC_trans leC_total cs).imp fun h => by simpa using h
theorem sortC_eq {a b : List (List Int)} (h : a.Perm b) (s : b.Pairwise (· ≤ ·)) : sortC a = b :=
  ((sortC_perm a).trans h).eq_of_pairwise (le := fun a b => a ≤ b) (fun a b _ _ h1 h2 => List.le_antisymm h1 h2) (sortC_sorted a) s
theorem sortC_ext {a b : List (List Int)} (h : a.Perm b) : sortC a = sortC b := sortC_eq (h.trans (sortC_perm b).symm) (sortC_sorted b)
theorem isRow_t (c : List Int) : isRow (eT c) = true := ints_all c
theorem sortD_rows {cs : List (List Int)} (hz : cs.length ≤ SZ) : sortD (cs.map eT) = some ((sortC cs).map eT) := by
  unfold sortD
  have h1 : (cs.map eT).all isRow = true := by
    rw [List.all_eq_true]
    intro x hx
    obtain ⟨c, hc, rfl⟩ := List.mem_map.mp hx
    exact isRow_t c
  rw [h1, Bool.or_true, List.length_map, decide_eq_true hz, if_pos (by rfl)]
  rw [insSort_map eT (fun a b => decide (a ≤ b)) leD leD_tup]; rfl
theorem sortD_tups {cs : List (List Int)} (_ : ∀ c ∈ cs, c ≠ []) (hz : cs.length ≤ SZ) : sortD (cs.map eT) = some ((sortC cs).map eT) := sortD_rows hz
structure VK (K : LK) : Prop extends WK K where
  cl : ∀ p ∈ K, p.2 = 0 ∨ p.2 ∈ ky K
  inj : K.Pairwise fun p q => p.2 = q.2 → p.2 = 0
theorem run_vals {c : Int} {K : LK} {p : Int × Int} (h : p ∈ run c K) : p.2 = c ∨ ∃ q ∈ K, q.2 = p.2 := by
  induction K generalizing c with
  | nil => cases h
  | cons q K ih =>
    obtain ⟨r, b⟩ := q
    unfold run at h
    split at h
    · rcases List.mem_cons.mp h with h | h
      · exact .inl (by rw [h])
      · rcases ih h with h | ⟨q, hq, e⟩
        · exact .inr ⟨_, List.mem_cons_self, h.symm⟩
        · exact .inr ⟨q, List.mem_cons_of_mem _ hq, e⟩
    · rcases List.mem_cons.mp h with h | h
      · exact .inr ⟨_, List.mem_cons_self, by rw [h]⟩
      · rcases ih h with h | ⟨q, hq, e⟩
        · exact .inl h
        · exact .inr ⟨q, List.mem_cons_of_mem _ hq, e⟩
theorem run_inj {c : Int} {K : LK} (h : K.Pairwise fun p q => p.2 = q.2 → p.2 = 0) (hc : c = 0 ∨ ∀ p ∈ K, p.2 ≠ c) (h0 : ∀ p ∈ K, 0 ≤ p.2) : (run c K).Pairwise fun p q => p.2 = q.2 → p.2 = 0 := by
  induction K generalizing c with
  | nil => exact List.Pairwise.nil
  | cons q K ih =>
    obtain ⟨r, b⟩ := q
    obtain ⟨h1, h2⟩ := List.pairwise_cons.mp h
    have hb := h0 (r, b) List.mem_cons_self
    simp only at h1 hb
    have h0' : ∀ p ∈ K, 0 ≤ p.2 := fun p hp => h0 p (List.mem_cons_of_mem _ hp)
    unfold run
    split
    · rename_i hbc
      refine List.pairwise_cons.mpr ⟨fun q hq e => ?_, ih h2 (by
        by_cases z : b = 0
        · exact .inl z
        · exact .inr fun p hp e => z (h1 p hp e.symm)) h0'⟩
      simp only at e ⊢
      rcases hc with hc | hc
      · exact hc
      · rcases run_vals hq with k | ⟨q', hq', e'⟩
        · omega
        · exact absurd (e'.trans e.symm) (hc q' (List.mem_cons_of_mem _ hq'))
    · refine List.pairwise_cons.mpr ⟨fun q hq e => ?_, ih h2 (hc.imp id fun k p hp => k p (List.mem_cons_of_mem _ hp)) h0'⟩
      simp only at e ⊢
      rcases run_vals hq with k | ⟨q', hq', e'⟩
      · rcases hc with hc | hc
        · omega
        · exact absurd (e.trans k) (hc (r, b) List.mem_cons_self)
      · exact h1 q' hq' (e.trans e'.symm)
theorem lvN_vals {a : Int} {K : LK} {p : Int × Int} (h : p ∈ lvN K a) : p.2 = 0 ∨ p.2 = a ∨ ∃ q ∈ K, q.2 = p.2 := by
  induction K with
  | nil => simp [lvN] at h; exact .inl (by rw [h])
  | cons q K ih =>
    obtain ⟨r, b⟩ := q
    unfold lvN at h
    split at h
    · rcases List.mem_cons.mp h with h | h
      · exact .inr (.inr ⟨_, List.mem_cons_self, by rw [h]⟩)
      · rcases ih h with h | h | ⟨q, hq, e⟩
        · exact .inl h
        · exact .inr (.inl h)
        · exact .inr (.inr ⟨q, List.mem_cons_of_mem _ hq, e⟩)
    · split at h
      · rcases List.mem_cons.mp h with h | h
        · exact .inl (by rw [h])
        · rcases run_vals h with h | ⟨q, hq, e⟩
          · exact .inr (.inr ⟨_, List.mem_cons_self, h.symm⟩)
          · exact .inr (.inr ⟨q, List.mem_cons_of_mem _ hq, e⟩)
      · rcases List.mem_cons.mp h with h | h
        · exact .inl (by rw [h])
        · rcases run_vals h with h | ⟨q, hq, e⟩
          · exact .inr (.inl h)
          · exact .inr (.inr ⟨q, hq, e⟩)
theorem lvN_inj {a : Int} {K : LK} (w : WK K) (h : K.Pairwise fun p q => p.2 = q.2 → p.2 = 0) (ha : a ∉ ky K → ∀ p ∈ K, p.2 ≠ a) : (lvN K a).Pairwise fun p q => p.2 = q.2 → p.2 = 0 := by
  induction K with
  | nil => simp [lvN]
  | cons q K ih =>
    obtain ⟨r, b⟩ := q
    obtain ⟨h1, h2⟩ := List.pairwise_cons.mp h
    have hb := w.bel (r, b) List.mem_cons_self
    simp only at h1 hb
    unfold lvN
    split
    · rename_i hr
      refine List.pairwise_cons.mpr ⟨fun q hq e => ?_, ih w.tl h2 fun hn p hp => ha (fun z => (List.mem_cons.mp z).elim (fun e => by simp at e; omega) hn) p (List.mem_cons_of_mem _ hp)⟩
      simp only at e ⊢
      rcases lvN_vals hq with k | k | ⟨q', hq', e'⟩
      · omega
      · omega
      · exact h1 q' hq' (e.trans e'.symm)
    · split
      · rename_i hr
        refine List.pairwise_cons.mpr ⟨fun q hq e => rfl, run_inj h2 ?_ fun p hp => (w.tl.bel p hp).1⟩
        by_cases z : b = 0
        · exact .inl z
        · exact .inr fun p hp e => z (h1 p hp e.symm)
      · rename_i h3 h4
        refine List.pairwise_cons.mpr ⟨fun q hq e => rfl, run_inj h (.inr (ha fun z => ?_)) fun p hp => (w.bel p hp).1⟩
        rcases List.mem_cons.mp z with z | z
        · simp at z; omega
        · have := (asc_cons.mp w.asc).1 a z; simp at this; omega
theorem lvN_vk {K : LK} (h : VK K) {a : Int} (ha : 1 ≤ a) : VK (lvN K a) := by
  refine ⟨lvN_wk h.toWK ha, fun p hp => ?_, lvN_inj h.toWK h.inj fun hn p hp e => ?_⟩
  · rcases lvN_vals hp with k | k | ⟨q, hq, e⟩
    · exact .inl k
    · exact .inr ((lvN_ky a _).mpr (.inl k))
    · rcases h.cl q hq with k | k
      · exact .inl (by omega)
      · exact .inr ((lvN_ky a _).mpr (.inr (e ▸ k)))
  · rcases h.cl p hp with k | k
    · omega
    · exact hn (e ▸ k)
theorem vk_nil : VK [] := ⟨wk_nil, (fun p hp => by cases hp), List.Pairwise.nil⟩
theorem foldl_vk {K : LK} (h : VK K) {v : List Int} (hv : Pos v) : VK (v.foldl lvN K) := by
  induction v generalizing K with
  | nil => exact h
  | cons a v ih => exact ih (lvN_vk h (hv a List.mem_cons_self)) hv.tl
theorem lnk_vk {v : List Int} (hv : Pos v) : VK (lnk v) := foldl_vk vk_nil hv
def prs (c : List Int) : LK := c.zip (0 :: c)
def cstep (L : List (Int × List Int)) (p : Int × Int) : List (Int × List Int) := if 0 < p.2 then putL (dropL L p.2) p.1 (((findL L p.2).getD []) ++ [p.1]) else putL L p.1 [p.1]
def chs (K : LK) : List (List Int) := sortC ((K.foldl cstep []).map (·.2))
theorem prs_snoc (c : List Int) (r : Int) : prs (c ++ [r]) = prs c ++ [(r, (c.getLast?).getD 0)] := by
  have go : ∀ (c : List Int) (x : Int), (c ++ [r]).zip (x :: (c ++ [r])) = c.zip (x :: c) ++ [(r, (c.getLast?).getD x)] := by
    intro c
    induction c with
    | nil => intro x; rfl
    | cons y c ih =>
      intro x
      show (y, x) :: (c ++ [r]).zip (y :: (c ++ [r])) = (y, x) :: (c.zip (y :: c)) ++ [(r, _)]
      rw [ih y]
      cases c with
      | nil => rfl
      | cons z c =>
        rw [List.getLast?_cons_cons, List.getLast?_cons]
        rfl
  exact go c 0
structure CInv (pre : LK) (L : List (Int × List Int)) : Prop where
  nd : (kys L).Nodup
  mem : ∀ r, r ∈ kys L ↔ r ∈ ky pre ∧ ∀ p ∈ pre, p.2 ≠ r
  last : ∀ q ∈ L, q.2 ≠ [] ∧ q.2.getLast? = some q.1
  pr : (L.flatMap fun q => prs q.2).Perm pre
  le : L.length ≤ pre.length
theorem cinv_nil : CInv [] [] := ⟨by simp [kys], fun r => by simp [kys, ky], (fun q hq => by cases hq), List.Perm.refl _, Nat.le_refl _⟩
theorem drop_find {L : List (Int × List Int)} {k : Int} {c : List Int} (nd : (kys L).Nodup) (h : (k, c) ∈ L) : L.Perm ((k, c) :: dropL L k) := by
  induction L with
  | nil => cases h
  | cons p L ih =>
    unfold kys at nd
    rw [List.map_cons, List.nodup_cons] at nd
    unfold dropL
    rw [List.filter_cons]
    rcases List.mem_cons.mp h with h | h
    · subst h
      rw [if_neg (by simp), List.filter_eq_self.mpr]
      intro q hq
      simp only [ne_eq, decide_eq_true_eq]
      intro e
      have m : q.1 ∈ L.map (·.1) := List.mem_map_of_mem (f := fun q : Int × List Int => q.1) hq
      rw [e] at m
      exact nd.1 m
    · have hp : p.1 ≠ k := fun e => by
        have m : k ∈ L.map (·.1) := List.mem_map_of_mem (f := fun q : Int × List Int => q.1) h
        rw [← e] at m
        exact nd.1 m
      rw [if_pos (by simpa using hp)]
      exact ((ih nd.2 h).cons p).trans (List.Perm.swap _ _ _)
theorem kys_drop (L : List (Int × List Int)) (k r : Int) : r ∈ kys (dropL L k) ↔ r ∈ kys L ∧ r ≠ k := by
  unfold kys dropL
  rw [List.mem_map, List.mem_map]
  constructor
  · rintro ⟨p, hp, rfl⟩
    rw [List.mem_filter] at hp
    exact ⟨⟨p, hp.1, rfl⟩, by simpa using hp.2⟩
  · rintro ⟨⟨p, hp, rfl⟩, h⟩
    exact ⟨p, List.mem_filter.mpr ⟨hp, by simpa using h⟩, rfl⟩
theorem cstep_ok {pre : LK} {L : List (Int × List Int)} (I : CInv pre L) {r b : Int} (hr : ∀ p ∈ pre, p.1 < r) (hbel : ∀ p ∈ pre, p.2 < p.1 ∧ 0 < p.1) (hr0 : 0 < r) (hb : b = 0 ∨ b ∈ ky pre) (h0 : 0 ≤ b) (hu : ∀ p ∈ pre, p.2 = b → p.2 = 0) : CInv (pre ++ [(r, b)]) (cstep L (r, b)) ∧ (0 < b → ∃ c, (b, c) ∈ L ∧ findL L b = some c) := by
  have hrn : r ∉ ky pre := fun z => by
    obtain ⟨p, hp, e⟩ := List.mem_map.mp z
    have := hr p hp; omega
  have hrL : r ∉ kys L := fun z => hrn ((I.mem r).mp z).1
  have hv : ∀ p ∈ pre, p.2 ≠ r := fun p hp e => by have := hr p hp; have := (hbel p hp).1; omega
  unfold cstep
  simp only
  by_cases hp : 0 < b
  · rw [if_pos hp]
    have hbk : b ∈ kys L := (I.mem b).mpr ⟨hb.resolve_left (by omega), fun p hp' e => by have := hu p hp' e; omega⟩
    obtain ⟨q, hq, eq⟩ := List.mem_map.mp hbk
    obtain ⟨b', c⟩ := q
    simp only at eq
    subst eq
    have hf := find_mem I.nd hq
    have hd := drop_find I.nd hq
    have hrd : r ∉ kys (dropL L b') := fun z => hrL ((kys_drop L b' r).mp z).1
    have hput : putL (dropL L b') r (c ++ [r]) = dropL L b' ++ [(r, c ++ [r])] := by unfold putL; rw [if_neg hrd]
    refine ⟨?_, fun _ => ⟨c, hq, hf⟩⟩
    rw [hf]
    show CInv _ (putL (dropL L b') r (c ++ [r]))
    rw [hput]
    refine ⟨?_, fun x => ?_, fun q hq' => ?_, ?_, ?_⟩
    · have nd : (kys (dropL L b')).Nodup := List.Pairwise.sublist (List.Sublist.map _ List.filter_sublist) I.nd
      have := nodup_put (L := dropL L b') nd r (c ++ [r])
      rwa [hput] at this
    · have e1 : kys (dropL L b' ++ [(r, c ++ [r])]) = kys (dropL L b') ++ [r] := by simp [kys]
      have e2 : ky (pre ++ [(r, b')]) = ky pre ++ [r] := by simp [ky]
      rw [e1, e2, List.mem_append, List.mem_append, kys_drop, I.mem, List.mem_singleton]
      constructor
      · rintro (⟨⟨h1, h2⟩, h3⟩ | h1)
        · refine ⟨.inl h1, fun p hp => ?_⟩
          rcases List.mem_append.mp hp with hp | hp
          · exact h2 p hp
          · rw [List.mem_singleton] at hp; subst hp; exact fun e => h3 e.symm
        · refine ⟨.inr h1, fun p hp => ?_⟩
          rcases List.mem_append.mp hp with hp | hp
          · rw [h1]; exact hv p hp
          · rw [List.mem_singleton] at hp; subst hp; simp only; intro e
            obtain ⟨p, hp2, e2⟩ := List.mem_map.mp (hb.resolve_left (by omega))
            have := hr p hp2; omega
      · rintro ⟨h1 | h1, h2⟩
        · exact .inl ⟨⟨h1, fun p hp => h2 p (List.mem_append_left _ hp)⟩, fun e => h2 (r, b') (by simp) e.symm⟩
        · exact .inr h1
    · rcases List.mem_append.mp hq' with hq' | hq'
      · exact I.last q (List.mem_filter.mp hq').1
      · rw [List.mem_singleton] at hq'; subst hq'
        exact ⟨by simp, by simp⟩
    · rw [List.flatMap_append]
      have h1 := I.last (b', c) hq
      have h2 : prs (c ++ [r]) = prs c ++ [(r, b')] := by rw [prs_snoc, h1.2]; rfl
      have h3 : ([(r, c ++ [r])] : List (Int × List Int)).flatMap (fun q => prs q.2) = prs c ++ [(r, b')] := by simp [h2]
      rw [h3]
      have h4 : (prs c ++ (dropL L b').flatMap fun q => prs q.2).Perm pre := (List.Perm.flatMap_right (fun q : Int × List Int => prs q.2) hd).symm.trans I.pr
      rw [← List.append_assoc]
      exact (List.perm_append_comm.trans h4).append_right _
    · have := hd.length_eq
      have := I.le
      simp at *; omega
  · have hb0 : b = 0 := by omega
    rw [if_neg hp]
    have hput : putL L r [r] = L ++ [(r, [r])] := by unfold putL; rw [if_neg hrL]
    refine ⟨?_, fun h => absurd h hp⟩
    rw [hput]
    refine ⟨?_, fun x => ?_, fun q hq' => ?_, ?_, ?_⟩
    · have := nodup_put I.nd r [r]
      rwa [hput] at this
    · have e1 : kys (L ++ [(r, [r])]) = kys L ++ [r] := by simp [kys]
      have e2 : ky (pre ++ [(r, b)]) = ky pre ++ [r] := by simp [ky]
      rw [e1, e2, List.mem_append, List.mem_append, I.mem, List.mem_singleton]
      constructor
      · rintro (⟨h1, h2⟩ | h1)
        · refine ⟨.inl h1, fun p hp => ?_⟩
          rcases List.mem_append.mp hp with hp | hp
          · exact h2 p hp
          · rw [List.mem_singleton] at hp; subst hp; simp only; intro e
            obtain ⟨q, hq, e3⟩ := List.mem_map.mp h1
            have := (hbel q hq).2; omega
        · refine ⟨.inr h1, fun p hp => ?_⟩
          rcases List.mem_append.mp hp with hp | hp
          · rw [h1]; exact hv p hp
          · rw [List.mem_singleton] at hp; subst hp; simp only; intro e
            omega
      · rintro ⟨h1 | h1, h2⟩
        · exact .inl ⟨h1, fun p hp => h2 p (List.mem_append_left _ hp)⟩
        · exact .inr h1
    · rcases List.mem_append.mp hq' with hq' | hq'
      · exact I.last q hq'
      · rw [List.mem_singleton] at hq'; subst hq'
        exact ⟨by simp, by simp⟩
    · rw [List.flatMap_append]
      have h3 : ([(r, [r])] : List (Int × List Int)).flatMap (fun q => prs q.2) = [(r, b)] := by rw [hb0]; rfl
      rw [h3]
      exact I.pr.append_right _
    · have := I.le
      simp; omega
end DL
set_option Elab.async false
set_option linter.all false
set_option maxRecDepth 100000
set_option maxHeartbeats 2000000
namespace DL
open PySem PySem.Spec PyProof.Rows
open L2 hiding St V
theorem vk_split {K pre post : LK} {r b : Int} (h : VK K) (e : K = pre ++ (r, b) :: post) : (∀ p ∈ pre, p.1 < r) ∧ (∀ p ∈ pre, p.2 < p.1 ∧ 0 < p.1) ∧ 0 < r ∧ 0 ≤ b ∧ b < r ∧ (b = 0 ∨ b ∈ ky pre) ∧ ∀ p ∈ pre, p.2 = b → p.2 = 0 := by
  subst e
  have h1 : ∀ p ∈ pre, p.1 < r := fun p hp => by
    have := h.asc
    unfold ky at this
    rw [List.map_append, List.map_cons] at this
    exact (List.pairwise_append.mp this).2.2 p.1 (List.mem_map_of_mem hp) r List.mem_cons_self
  have hb := h.bel (r, b) (by simp)
  simp only at hb
  refine ⟨h1, fun p hp => ?_, by omega, hb.1, hb.2, ?_, fun p hp => ?_⟩
  · have := h.bel p (by simp [hp]); omega
  · rcases h.cl (r, b) (by simp) with k | k
    · exact .inl k
    · right
      simp only [ky, List.map_append, List.map_cons, List.mem_append, List.mem_cons] at k
      rcases k with k | k | k
      · exact k
      · omega
      · have := h.asc
        unfold ky at this
        rw [List.map_append, List.map_cons] at this
        have := (List.pairwise_cons.mp (List.pairwise_append.mp this).2.1).1 b k
        omega
  · exact (List.pairwise_append.mp h.inj).2.2 p hp (r, b) List.mem_cons_self
theorem cinv_pre {K : LK} (h : VK K) : ∀ post pre : LK, K = pre ++ post → CInv pre (pre.foldl cstep []) → CInv K (K.foldl cstep []) := by
  intro post
  induction post with
  | nil => intro pre e I; rw [List.append_nil] at e; subst e; exact I
  | cons p post ih =>
    obtain ⟨r, b⟩ := p
    intro pre e I
    obtain ⟨h1, h2, h3, h4, _, h5, h6⟩ := vk_split h e
    have I2 := (cstep_ok I h1 h2 h3 h5 h4 h6).1
    exact ih (pre ++ [(r, b)]) (by rw [e]; simp) (by rw [List.foldl_append]; exact I2)
theorem cinv_all {K : LK} (h : VK K) : CInv K (K.foldl cstep []) := cinv_pre h K [] rfl cinv_nil
theorem chs_prs {K : LK} (h : VK K) : ((chs K).flatMap prs).Perm K := by
  refine ((sortC_perm _).flatMap_right prs).trans ?_
  have := (cinv_all h).pr
  rwa [List.flatMap_map]
theorem foldl_len {K : LK} (h : VK K) (pre post : LK) (e : K = pre ++ post) : (pre.foldl cstep []).length ≤ pre.length := by
  have : VK pre → (pre.foldl cstep []).length ≤ pre.length := fun hp => (cinv_all hp).le
  refine this ⟨⟨?_, fun p hp => h.bel p (by rw [e]; exact List.mem_append_left _ hp)⟩, fun p hp => ?_, ?_⟩
  · have := h.asc
    rw [e] at this
    unfold ky at *
    rw [List.map_append] at this
    exact (List.pairwise_append.mp this).1
  · obtain ⟨r, b⟩ := p
    obtain ⟨p1, p2, e2⟩ := List.append_of_mem hp
    have := vk_split h (pre := p1) (post := p2 ++ post) (r := r) (b := b) (by rw [e, e2]; simp)
    rcases this.2.2.2.2.2.1 with k | k
    · exact .inl k
    · right
      rw [e2]
      unfold ky at *
      rw [List.map_append]
      exact List.mem_append_left _ k
  · have := h.inj
    rw [e] at this
    exact (List.pairwise_append.mp this).1
theorem keys_ints (K : LK) : (ky K).map PyData.int = K.map fun p => PyData.int p.1 := by unfold ky; rw [List.map_map]; rfl
theorem sSetD_ok {i k : Nat} {mv mk : M} {env : Env} {b b1 b2 : Bx} {ds ds' : List (D × D)} {v y : D} (he : env[i]? = some (some (.bx k))) (hv : mv env b = some (.ok v, b1)) (hk : mk env b1 = some (.ok y, b2)) (hb : b2[k]? = some (.live (.dict ds))) (hp : dPut ds y v = some ds') : sSetD i mv mk env b = some (.nx env, b2.set k (.live (.dict ds'))) := by
  unfold sSetD
  rw [hv]
  dsimp only
  rw [he]
  dsimp only
  rw [hk]
  dsimp only
  rw [hb]
  dsimp only
  rw [hp]
  rfl
def CFB : S := (sSeq (sAsg (gN 3) (lift (pBin dIxD (pVar 0) (pVar 2)))) (sSetD 1 (mBin dAdd (mIf (lift (pBin dGt (pVar 3) (pC (.int 0)))) (mBopD fPop 1 (liftA (plCons (pVar 3) plNil))) (lift (pApp gTupD plNil))) (lift (pApp gTupD (plCons (pVar 2) plNil)))) (lift (pVar 2))))
theorem len_drop (L : List (Int × List Int)) (k : Int) : (dropL L k).length ≤ L.length := List.length_filter_le _ _
theorem chains_from_links_r {d : D} {K : LK} (hK : VK K) (hd : Rep d K) (hz : K.length ≤ 1000) : fP F_chains_from_links [d] = some (eC (chs K)) := by
  obtain ⟨L0, rfl, nd0, h0⟩ := hd.ex
  have hw := hK.toWK
  have hl0 : L0.length = K.length := (rep_perm hw nd0 h0).length_eq
  have h1000 : (1000 : Nat) + 1000 + 10 < SZ := by decide
  obtain ⟨env2, b2, e, x2, x3, rfl, rfl⟩ := loop_pre (f := gN 2) (enc := fun p : Int × Int => PyData.int p.1) (body := CFB)
    (fun pre env b => ∃ x2 x3, env = [some (.dat (eK L0)), some (.bx 0), x2, x3] ∧ b = [.live (.dict (encV eT (pre.foldl cstep [])))]) K [] [some (.dat (eK L0)), some (.bx 0), none, none] [.live (.dict [])] ⟨none, none, rfl, rfl⟩ (by
      rintro pre ⟨r, c⟩ post env b e ⟨x2, x3, rfl, rfl⟩
      have e : K = pre ++ (r, c) :: post := by rw [← e]; rfl
      obtain ⟨h1, h2, h3, h4, h45, h5, h6⟩ := vk_split hK e
      have hpl : (pre.foldl cstep []).length ≤ pre.length := foldl_len hK pre _ e
      have hple : pre.length ≤ K.length := by rw [e]; simp
      have I : CInv pre (pre.foldl cstep []) := by
        have : ∀ post' pre', pre = pre' ++ post' → CInv pre' (pre'.foldl cstep []) → CInv pre (pre.foldl cstep []) := by
          intro post'
          induction post' with
          | nil => intro pre' e' I'; rw [List.append_nil] at e'; subst e'; exact I'
          | cons p post' ih =>
            obtain ⟨r', b'⟩ := p
            intro pre' e' I'
            obtain ⟨a1, a2, a3, a4, _, a5, a6⟩ := vk_split hK (pre := pre') (post := post' ++ (r, c) :: post) (r := r') (b := b') (by rw [e, e']; simp)
            exact ih (pre' ++ [(r', b')]) (by rw [e']; simp) (by rw [List.foldl_append]; exact (cstep_ok I' a1 a2 a3 a5 a4 a6).1)
        exact this pre [] rfl cinv_nil
      have hc := (cstep_ok I h1 h2 h3 h5 h4 h6).2
      have dx : dIxD (eK L0) (.int r) = some (.int c) := dIxD_enc PyData.int (lk_find hw nd0 h0 (by rw [e]; simp))
      refine ⟨_, rfl, [some (.dat (eK L0)), some (.bx 0), some (.dat (.int r)), some (.dat (.int c))], [.live (.dict (encV eT ((pre ++ [(r, c)]).foldl cstep [])))], ?_, _, _, rfl, rfl⟩
      unfold CFB
      refine sSeq_ok (sAsg_ok (lift_ok (pBin_ok rfl rfl dx)) rfl) ?_
      rw [List.foldl_append]
      generalize hL : pre.foldl cstep [] = L at *
      show sSetD 1 _ _ _ _ = some (.nx _, [.live (.dict (encV eT (cstep L (r, c))))])
      unfold cstep
      simp only
      by_cases hp : 0 < c
      · rw [if_pos hp]
        obtain ⟨ch, hch, hf⟩ := hc hp
        have hlast := (I.last _ hch)
        have hcl : ch.length ≤ 1000000 := by
          have q1 : (prs ch).length ≤ (L.flatMap fun q => prs q.2).length := by
            obtain ⟨l1, l2, e3⟩ := List.append_of_mem hch
            rw [e3]; simp; omega
          rw [I.pr.length_eq] at q1
          have : (prs ch).length = ch.length := by unfold prs; simp
          omega
        rw [hf]
        have hpop : fPop (.dict (encV eT L)) [.int c] = some (eT ch, .dict (encV eT (dropL L c))) := fPop_enc eT hf
        have hput : dPut (encV eT (dropL L c)) (.int r) (eT (ch ++ [r])) = some (encV eT (putL (dropL L c) r (ch ++ [r]))) := dPut_e eT _ _ _ (by have := len_drop L c; omega)
        have hadd : dAdd (eT ch) (.tuple [.int r]) = some (eT (ch ++ [r])) := by
          have := addT (x := ch.map PyData.int) (y := [.int r]) (by
            rw [List.length_map]
            exact Nat.le_trans (Nat.add_le_add_right hcl 1) (by decide))
          rw [this]; simp
        have hm : (mBin dAdd (mIf (lift (pBin dGt (pVar 3) (pC (.int 0)))) (mBopD fPop 1 (liftA (plCons (pVar 3) plNil))) (lift (pApp gTupD plNil))) (lift (pApp gTupD (plCons (pVar 2) plNil)))) [some (.dat (eK L0)), some (.bx 0), some (.dat (.int r)), some (.dat (.int c))] [.live (.dict (encV eT L))] = some (.ok (eT (ch ++ [r])), [.live (.dict (encV eT (dropL L c)))]) := by
          refine mBin_ok (x := eT ch) (b1 := [.live (.dict (encV eT (dropL L c)))]) ?_ (lift_ok (d := .tuple [.int r]) rfl) hadd
          rw [mIf_t (x := .bool true) (b1 := [.live (.dict (encV eT L))]) (by simp [hp]) rfl]
          unfold mBopD mBop
          simp [isList, hpop]
        exact sSetD_ok (k := 0) rfl hm (lift_ok rfl) rfl hput
      · rw [if_neg hp]
        have hput : dPut (encV eT L) (.int r) (eT [r]) = some (encV eT (putL L r [r])) := dPut_e eT _ _ _ (by omega)
        have hm : (mBin dAdd (mIf (lift (pBin dGt (pVar 3) (pC (.int 0)))) (mBopD fPop 1 (liftA (plCons (pVar 3) plNil))) (lift (pApp gTupD plNil))) (lift (pApp gTupD (plCons (pVar 2) plNil)))) [some (.dat (eK L0)), some (.bx 0), some (.dat (.int r)), some (.dat (.int c))] [.live (.dict (encV eT L))] = some (.ok (eT [r]), [.live (.dict (encV eT L))]) := by
          refine mBin_ok (x := .tuple []) (b1 := [.live (.dict (encV eT L))]) ?_ (lift_ok (d := .tuple [.int r]) rfl) rfl
          rw [mIf_f (x := .bool false) (b1 := [.live (.dict (encV eT L))]) (by simp [hp]) rfl]
          rfl
        exact sSetD_ok (k := 0) rfl hm (lift_ok rfl) rfl hput)
  have hs : cSorted [eK L0] = some (eL (ky K)) := sorted_dict PyData.int hK.asc (rep_kys hw nd0 h0) (by omega)
  unfold CFB at e
  unfold F_chains_from_links
  rw [List.nil_append] at e
  generalize hL : K.foldl cstep [] = L at e
  have I : CInv K L := by rw [← hL]; exact cinv_all hK
  have hv : (encV eT L).map (·.2) = (L.map (·.2)).map eT := by unfold encV; rw [List.map_map, List.map_map]; rfl
  have hsv : dSortV (.dict (encV eT L)) = some (.list ((sortC (L.map (·.2))).map eT)) := by
    show (if noT (encV eT L) = true then (sortD ((encV eT L).map (·.2))).map PyData.list else none) = _
    rw [if_pos (noT_enc _ _), hv, sortD_tups (fun c hc => ?_) (by rw [List.length_map]; have := I.le; omega)]
    · rfl
    · obtain ⟨q, hq, rfl⟩ := List.mem_map.mp hc
      exact (I.last q hq).1
  have hchs : chs K = sortC (L.map (·.2)) := by unfold chs; rw [hL]
  rw [hchs]
  refine fP_rt [some (.dat (eK L0)), none, none, none] rfl rfl (sSeq_ok (sNew_ok (d := .dict []) (b1 := []) rfl (by simp)) (sSeq_ok (sFor_ok (ds := K.map fun p => PyData.int p.1) (b1 := [.live (.dict [])]) ?_ e) (sRet_ok (mApp_ok (maCons_ok (mUn_ok (frz_ok (k := 0) rfl rfl) hsv) maNil_ok) rfl))))
  rw [← keys_ints]
  simp [hs, seqOf_l]
theorem chains_of_r {t : D} {v : List Int} (ht : IsSeq t v) (hv : Rk v) : fP F_chains_of [t] = some (eC (chs (lnk v))) := by
  unfold F_chains_of
  obtain ⟨d2, xj, e, r⟩ := visit_loop (env := [some (.dat t), some (.dat (.dict [])), none]) (b := []) (i := 1) (j := 2) (body := (sAsg (gN 1) (lift (pApp (fP F_linked_visit) (plCons (pVar 1) (plCons (pVar 2) plNil)))))) (fun env b d x d2 h1 h2 h3 => sAsg_ok (lift_ok (pApp_ok (plCons_ok (pVar_ok h1) (plCons_ok (pVar_ok h2) rfl)) h3)) (by
    rw [s_gN, if_pos (List.getElem?_eq_some_iff.mp h1).1])) (by decide) (by simp) wk_nil hv (fun x hx => by cases hx) rep_nil rfl
  have hl : (lnk v).length ≤ 1000 := Nat.le_trans (wk_len (lnk_wk hv.pos) 12 fun x hx => (hv x ((lnk_ky v x).mp hx)).2) (by decide)
  have q := chains_from_links_r (lnk_vk hv.pos) r hl
  refine fP_rt [some (.dat t), none, none] rfl rfl (sSeq_ok (sAsg_ok (d := .dict []) rfl rfl) (sSeq_ok (sFor_ok (ds := v.map .int) (b1 := []) ?_ e) (sRet_ok (lift_ok (pApp_ok (plCons_ok rfl rfl) q)))))
  simp [ht.seq]
end DL
set_option Elab.async false
set_option linter.all false
set_option maxRecDepth 100000
set_option maxHeartbeats 3200000
namespace DL
open PySem PySem.Spec PyProof.Rows
open L2 hiding St V
abbrev RowA := Addr × List Int
structure SetW (P : Program) (w : World) (h : Heap) (a : Addr) (L : List RowA) : Prop where
  ex : ∃ (es : Array (Int × Value)) (ep : Nat) (t : SetTable), (∃ o, h.get? a = some o ∧ o.ExactSet ∧ o.data = .set es ep t) ∧ es.toList = rowsOf P w L ∧ TabOk t (L.map fun r => thash P w r.2) ∧
    t.plain = true ∧ (w.params.followText "set-order" = true ∨ t.led = true) ∧ L.length * 5 < t.mask * 3
  nd : (L.map (·.2)).Nodup
  tup : ∀ r ∈ L, IsT P w h r.2 r.1
section
variable {P : Program} {w : World} {A : Around} {E : Value → Shared → Prop} {s : Shared} {a : Addr} {L : List RowA}
theorem SetW.tr {h : Heap} (R : SetW P w h a L) (few : L.length < 64) : ∃ es ep t, SetTR P w h a L es ep t := by
  obtain ⟨es, ep, t, r1, r2, r3, r4, r5, r6⟩ := R.ex
  exact ⟨es, ep, t, r1, r2, r3, R.nd, R.tup, r4, r5, r6, few⟩
theorem SetW.of {h : Heap} {es : Array (Int × Value)} {ep : Nat} {t : SetTable} (R : SetTR P w h a L es ep t) : SetW P w h a L :=
  ⟨⟨es, ep, t, R.ob, R.rows, R.tab, R.plain, R.led, R.room⟩, R.nd, R.tup⟩
theorem SetW.keepW {h h' : Heap} (R : SetW P w h a L) (ha : ∀ o, h.get? a = some o → h'.get? a = some o) (ht : ∀ r ∈ L, IsT P w h' r.2 r.1) : SetW P w h' a L := by
  obtain ⟨es, ep, t, ⟨o, ho, r⟩, rest⟩ := R.ex
  exact ⟨⟨es, ep, t, ⟨o, ha o ho, r⟩, rest⟩, R.nd, ht⟩
theorem addW (R : SetW P w s.heap a L) {x : Addr} {k : List Int} (isX : IsT P w s.heap k x) (deep : A.units < cLine) (few : L.length < 64) {Q : Bool → Shared → Prop}
    (then_ : ∀ b h' L', Heap.SameBut a s.heap h' → SetW P w h' a L' → (k ∈ L.map (·.2) → L' = L) → (k ∉ L.map (·.2) → L'.Perm ((x, k) :: L)) → Q b { s with heap := h' }) :
    wpAny (model P w) A (setAddHashed a (.ref x) (thash P w k)) Q E s := by
  obtain ⟨es, ep, t, T⟩ := R.tr few
  by_cases small : L.length + 1 < 64
  · exact add_at T isX deep small fun b h' L' es' ep' t' sb T' c1 c2 => then_ b h' L' sb (.of T') c1 c2
  have isLast : L.length = 63 := by omega
  obtain ⟨ob, atA, exA, datA⟩ := T.ob
  have sizeE := T.size
  have roomy := T.room
  have mask127 : t.mask = 127 := by
    rcases T.tab.mok with e | e | e
    · omega
    · omega
    · exact e
  unfold setAddHashed
  refine wpAny_holding ?_
  rw [show (100000 : Nat) = 99999 + 1 from rfl, setAddHashedIn_succ]
  refine wpAny_bind (wpAny_setState_of atA datA T.fits ?_)
  dsimp only
  refine wp_if_neg (by simp [byScan, Value.scannable]) ?_
  try refine wpAny_bind (wpAny_pure ?_)
  refine wpAny_bind (search_at T isX deep (fun inside => ?_) fun n outside freeN busy => ?_)
  · dsimp only
    exact wpAny_pure (then_ false s.heap L (Heap.SameBut.refl a s.heap) R (fun _ => rfl) fun z => absurd inside z)
  · dsimp only
    refine wpAny_bind (wpAny_setState_of atA datA T.fits ?_)
    dsimp only
    obtain ⟨p1, p2, p3, p4, p5, p6, p7, p8, p9⟩ := T.tab.put freeN busy
    have plain1 : (t.put (way t.mask (thash P w k) n)).1.plain = true := by rw [p6]; exact T.plain
    generalize putIs : t.put (way t.mask (thash P w k) n) = pt at p1 p3 p4 p5 p6 p7 p8 p9 plain1 ⊢
    obtain ⟨t1, at1⟩ := pt
    dsimp only at p1 p3 p4 p5 p6 p7 p8 p9 plain1 ⊢
    subst p1
    first
      | (refine wpAny_bind ?_; refine wp_if_pos plain1 ?_; refine hashBy_tup isX ?_)
      | refine wp_if_pos plain1 (wpAny_bind (hashBy_tup isX ?_))
    simp only [if_true]
    have rows1 : (SetTable.insertAt es (SetTable.below t.place (way t.mask (thash P w k) n)) (thash P w k, Value.ref x)).toList = rowsOf P w (L.take (SetTable.below t.place (way t.mask (thash P w k) n)) ++ (x, k) :: L.drop (SetTable.below t.place (way t.mask (thash P w k) n))) := by
      rw [SetTable.toList_insertAt, rows_put, T.rows]
    generalize belowIs : SetTable.below t.place (way t.mask (thash P w k) n) = at1 at p2 p3 rows1 ⊢
    have perm1 := put_perm L at1 (x, k)
    have len1 : (L.take at1 ++ (x, k) :: L.drop at1).length = L.length + 1 := perm1.length_eq
    have hashes : (L.take at1 ++ (x, k) :: L.drop at1).map (fun r => thash P w r.2) = (L.map fun r => thash P w r.2).take at1 ++ thash P w k :: (L.map fun r => thash P w r.2).drop at1 := by
      rw [List.map_append, List.map_cons, List.map_take, List.map_drop]
    rw [← hashes] at p3
    have nodup1 : ((L.take at1 ++ (x, k) :: L.drop at1).map (·.2)).Nodup := by
      refine (perm1.map (·.2)).nodup_iff.mpr ?_
      rw [List.map_cons]
      exact List.nodup_cons.mpr ⟨outside, T.nd⟩
    have sizeE1 : (SetTable.insertAt es at1 (thash P w k, Value.ref x)).size = L.length + 1 := by
      have q := congrArg List.length rows1
      unfold rowsOf at q
      rw [Array.length_toList, List.length_map, len1] at q
      exact q
    generalize SetTable.insertAt es at1 (thash P w k, Value.ref x) = es1 at rows1 sizeE1 ⊢
    generalize L.take at1 ++ (x, k) :: L.drop at1 = L1 at perm1 len1 p3 nodup1 rows1
    refine wpAny_bind (wpAny_storeSet_of atA datA ?_ (by rw [sizeE1, sizeLine_eq]; omega))
    have same1 : Heap.SameBut a s.heap (s.heap.update a (Obj.putSet es1 t1)) := Heap.SameBut.update ..
    have atA1 := store_at (es' := es1) (t' := t1) atA datA
    generalize s.heap.update a (Obj.putSet es1 t1) = h1 at same1 atA1 ⊢
    have tup1 : ∀ r ∈ L1, IsT P w h1 r.2 r.1 := fun r hr => by
      rcases List.mem_cons.mp (perm1.mem_iff.mp hr) with e | hr
      · rw [e]; exact isT_same isX atA datA same1
      · exact isT_same (T.tup r hr) atA datA same1
    have led1 : w.params.followText "set-order" = true ∨ t1.led = true := by rw [p5]; exact T.led
    have notFull : ¬ t1.tooFull = true := by
      unfold SetTable.tooFull
      rw [decide_eq_true_eq, p9, List.length_map, p4, mask127]
      omega
    first
      | refine wp_if_neg (by simp [notFull]) ?_
      | (refine wpAny_bind ?_; refine wp_if_neg (by simp [notFull]) ?_; refine wpAny_pure ?_)
    refine wpAny_pure (then_ true h1 L1 same1 ⟨⟨es1, ep + 1, t1, ⟨_, atA1, ⟨exA.1, exA.2.1, exA.2.2⟩, rfl⟩, rows1, p3, plain1, led1, ?_⟩, nodup1, tup1⟩ (fun z => absurd z outside) fun _ => perm1)
    rw [len1, p4, mask127]
    omega
theorem updateW {I : Addr} {fp wr : List Addr} {G : Array GenState → Array GenState → Prop} {n : Nat} {Pv : Nat → Value → Prop} {St : Nat → Shared → Prop} {R : Result → Shared → Prop}
    (W : WalksS P w A.in1 I fp wr G n Pv St) (S : Addr) (apartS : S ∉ fp) (ks : List RowA) (hn : n = ks.length) (few : ks.length ≤ 64) (itemAt : ∀ i v, Pv i v → ∃ r, ks[i]? = some r ∧ v = .ref r.1)
    (h0 : Heap) (tups : ∀ r ∈ ks, IsT P w h0 r.2 r.1) (freshS : h0.get? S = none) (freshW : ∀ b ∈ wr, h0.get? b = none) (deep : A.in1.units < cLine) :
    ∀ (k i : Nat) (s : Shared), n - i = k → i ≤ n → St i s → (∀ b o, h0.get? b = some o → s.heap.get? b = some o) → (∃ L, SetW P w s.heap S L ∧ Got ks i L) →
      (∀ s' L, Moved (S :: wr) G s s' → SetW P w s'.heap S L → Got ks n L → (∀ b o, h0.get? b = some o → s'.heap.get? b = some o) → R (.ok (.ret .none)) s') →
      codeAny (model P w) A (.builtin "set.update.loop" ⟨[.ref S, .ref I], []⟩) R s := by
  have apartW : S ∉ wr := fun z => apartS (W.sub _ z)
  have wide : ∀ b ∈ wr, b ∈ S :: wr := fun b hb => List.mem_cons_of_mem _ hb
  have still : ∀ {s s' : Shared}, Moved wr G s s' → (∀ b o, h0.get? b = some o → s.heap.get? b = some o) → ∀ b o, h0.get? b = some o → s'.heap.get? b = some o := fun mv kp b o e =>
    mv.heap b o (fun hb => by rw [freshW b hb] at e; cases e) (kp b o e)
  intro k
  induction k with
  | zero =>
    intro i s toGo hi here kp ⟨L, isS, g⟩ last
    have atEnd : i = n := by omega
    subst atEnd
    refine codeAny_builtin F.entry_set_update_loop ?_
    rw [Around.under_plainId F.plain_set_update_loop _]
    show wpAny _ A.in1 (pyNext (.ref I) >>= _) _ _ s
    refine wpAny_bind (W.done s _ _ here fun s' mv => ?_)
    show wpAny _ A.in1 (ret Value.none) _ _ s'
    have kp' := still mv kp
    have within : ∀ r ∈ L, r ∈ ks := fun r hr => List.mem_of_mem_take (g.sub r hr)
    exact wpAny_pure (last s' L (mv.mono wide) (isS.keepW (fun o e => mv.heap S o apartW e) fun r hr => isT_keep (tups r (within r hr)) kp') g kp')
  | succ k ih =>
    intro i s toGo hi here kp ⟨L, isS, g⟩ last
    have more : i < n := by omega
    refine codeAny_builtin F.entry_set_update_loop ?_
    rw [Around.under_plainId F.plain_set_update_loop _]
    show wpAny _ A.in1 (pyNext (.ref I) >>= _) _ _ s
    refine wpAny_bind (W.item i s _ _ more here fun v s' isV here' mv => ?_)
    obtain ⟨r, atI, rfl⟩ := itemAt i v isV
    have kp' := still mv kp
    have within : ∀ r ∈ L, r ∈ ks := fun r hr => List.mem_of_mem_take (g.sub r hr)
    have isS' : SetW P w s'.heap S L := isS.keepW (fun o e => mv.heap S o apartW e) fun q hq => isT_keep (tups q (within q hq)) kp'
    have isX : IsT P w s'.heap r.2 r.1 := isT_keep (tups r (List.mem_of_getElem? atI)) kp'
    show wpAny _ A.in1 (holding [Value.ref r.1] (setAdd S (.ref r.1)) >>= _) _ _ s'
    refine wpAny_bind (wpAny_holding ?_)
    unfold setAdd
    refine wpAny_holding ?_
    refine wpAny_bind (wpAny_pyHash_tuple deep isX ?_)
    refine addW (s := { s' with toks := s'.toks + (r.2.length + 1) }) isS' isX deep (by have := g.len; omega) fun b h' L' sameS isS2 c1 c2 => ?_
    have g' : Got ks (i + 1) L' := by
      by_cases c : r.2 ∈ L.map (·.2)
      · rw [c1 c]; exact g.same atI c
      · exact g.more atI (c2 c)
    have kp2 : ∀ b o, h0.get? b = some o → h'.get? b = some o := fun b o e => (sameS.2 b (fun z => by rw [z, freshS] at e; cases e)).trans (kp' b o e)
    refine wpAny_pure ⟨plainId_quiet F.plain_set_update_loop _, ih (i + 1) _ (by omega) more (W.frame _ s' _ _ here' (Nat.le_add_right _ _) fun b hb o e => ?_) kp2 ⟨L', isS2, g'⟩ fun s'' L2 mv2 isS3 g2 kp3 => ?_⟩
    · rw [sameS.2 b (fun z : b = S => apartS (by rw [← z]; exact hb))]; exact e
    · refine last s'' L2 (Moved.trans W.gtrans ((mv.mono wide).then_heap (Nat.le_add_right _ _) fun b o hb e => ?_) mv2) isS3 g2 kp3
      rw [sameS.2 b (fun z : b = S => hb (by rw [z]; exact List.mem_cons_self))]; exact e
theorem set_of_rows {l : Addr} {its : Array Value} (ks : List RowA) {Q : Value → Shared → Prop} (calm : A.handled = none) (isL : s.heap.IsList l its) (are : its.toList = ks.map fun r => Value.ref r.1)
    (tups : ∀ r ∈ ks, IsT P w s.heap r.2 r.1) (few : ks.length ≤ 64) (deep : A.units + 3 < cLine)
    (then_ : ∀ (h' : Heap) (tk : Nat) L, SetW P w h' s.heap.objs.size L → Got ks ks.length L → (∀ b o, s.heap.get? b = some o → h'.get? b = some o) → Q (.ref s.heap.objs.size) { s with heap := h', toks := tk }) :
    wpAny (model P w) A (call (.type "set") [.ref l]) Q E s := by
  have sizes : its.size = ks.length := by
    have q := congrArg List.length are
    rwa [Array.length_toList, List.length_map] at q
  have itemAt : ∀ (i : Nat) (v : Value), its[i]? = some v → ∃ r, ks[i]? = some r ∧ v = .ref r.1 := by
    intro i v hv
    have q : its.toList[i]? = some v := by rw [Array.getElem?_toList]; exact hv
    rw [are, List.getElem?_map] at q
    obtain ⟨r, e1, e2⟩ := Option.map_eq_some_iff.mp q
    exact ⟨r, e1, e2.symm⟩
  obtain ⟨mroC, mroT, mroE⟩ := F.called_set.mro
  have made := F.called_set.made
  have sub := F.called_set.sub
  have notType := F.called_set.notType
  have canMake := F.called_set.canCreate
  have typed := F.typeCall_set_1 (.ref l)
  refine wpAny_call (codeAny_of_tree ?_)
  show wpAny _ _ (callAny (.type "set") _) _ _ _
  refine wpAny_pure ⟨Code.quiet_builtin _ (by decide +kernel), codeAny_builtin F.entry_type_call ?_⟩
  rw [Around.under_plain (weight_type_call_type "set" [.ref l] []) rfl]
  repeat (any_goals (first | assumption | wp_step))
  refine codeAny_mono (code_set_led1 (.ref l) (E := E) (Q₁ := fun obj s₁ => obj = .ref s.heap.objs.size ∧ s₁ = { s with heap := s.heap.push (setO0 w) }) ⟨rfl, rfl⟩) fun r s₁ hr => ?_
  match r, hr with
  | .ok (.ret obj), hr =>
    obtain ⟨rfl, rfl⟩ := hr
    have atS : (s.heap.push (setO0 w)).get? s.heap.objs.size = some (setO0 w) := Heap.get?_push_size _ rfl
    have isSet : Shared.TypeIs { s with heap := s.heap.push (setO0 w) } (.ref s.heap.objs.size) "set" := ⟨_, atS, rfl⟩
    have look := F.called_set.init.lookup
    have bnd := F.called_set.init.bind (.ref s.heap.objs.size)
    repeat (any_goals (first | assumption | wp_step))
    refine codeAny_mono (codeAny_call_builtin (R := wants (fun r s₂ => r = .none ∧ ∃ h' tk L, s₂ = { s with heap := h', toks := tk } ∧ SetW P w h' s.heap.objs.size L ∧ Got ks ks.length L ∧
        (∀ b o, s.heap.get? b = some o → h'.get? b = some o)) E) F.called_set.init.plain F.entry_set_init (check_set_init_1 isSet ?_)) fun r₂ s₂ hr₂ => ?_
    · obtain ⟨⟨oc, od, odt, osl⟩, hol, hcl, nl, hdl⟩ := isL
      simp only at hcl hdl
      subst hcl; subst hdl
      have lAt : (s.heap.push (setO0 w)).get? l = some { cls := .type "list", dict := od, data := .seq its nl, slots := osl } := Heap.get?_push_of_some _ hol
      have notSub := F.sub_list_set
      have notFrozen := F.sub_list_frozenset
      have noDict : (Value.type "list" == Value.type "dict") = false := by decide
      have stillL : (s.heap.push (setO0 w)).IsList l its := ⟨_, lAt, rfl, nl, rfl⟩
      unfold Builtin.«set.__init__» noKeywords Builtin.Frozenset.updateFrom
      generalize iterIs : pyIter = anIter
      wp_walk
      subst iterIs
      refine wpAny_pyIter_list stillL ?_
      refine wpAny_bind (wpAny_runValue ?_)
      have lBelow : l < s.heap.objs.size := Heap.lt_size hol
      have grown : (s.heap.push (setO0 w)).objs.size = s.heap.objs.size + 1 := Heap.size_push ..
      have calm3 : A.in1.in1.in1.handled = none := by simp [calm]
      have apart : l ≠ (s.heap.push (setO0 w)).objs.size := by rw [grown]; exact Nat.ne_of_lt (Nat.lt_succ_of_lt lBelow)
      have outside : s.heap.objs.size ∉ [(s.heap.push (setO0 w)).objs.size, l] := by
        rw [grown]
        simp only [List.mem_cons, List.not_mem_nil, or_false, not_or]
        exact ⟨Nat.ne_of_lt (Nat.lt_succ_self _), Nat.ne_of_gt lBelow⟩
      have unused : ∀ b, s.heap.objs.size ≤ b → s.heap.get? b = none := fun b hb => by
        cases q : s.heap.get? b with
        | none => rfl
        | some o => exact absurd (Nat.lt_of_lt_of_le (Heap.lt_size q) hb) (Nat.lt_irrefl _)
      refine updateW ((Walks.list calm3 _ l apart its).toS) s.heap.objs.size outside ks sizes few itemAt s.heap tups (unused _ (Nat.le_refl _)) (fun b hb => unused b (by
          rw [List.mem_singleton.mp hb, grown]
          exact Nat.le_succ _)) deep (its.size - 0) 0 _ (by omega) (Nat.zero_le _) ⟨⟨_, Heap.get?_push_size _ rfl, rfl, rfl⟩, (stillL.push _)⟩ (fun b o e => Heap.get?_push_of_some _ (Heap.get?_push_of_some _ e)) ?first ?last
      case first =>
        exact ⟨[], .of (setTR_fresh (Heap.get?_push_of_some _ atS)), Got.zero ks⟩
      case last =>
        intro s' L moved isR g kept
        obtain ⟨h', g', d', tk', os'⟩ := s'
        have e1 : g' = s.gens := moved.gens
        have e2 : d' = s.drawn := moved.drawn
        have e3 : os' = s.os := moved.os
        subst e1; subst e2; subst e3
        show wpAny _ _ _ _ _ _
        refine wpAny_pure ?_
        show wpAny _ _ (ret Value.none) _ _ _
        rw [sizes] at g
        exact wpAny_pure ⟨rfl, h', tk', L, rfl, isR, g, kept⟩
    · match r₂, hr₂ with
      | .ok (.ret r), hr₂ =>
        obtain ⟨rfl, h', tk, L, rfl, isR, g, kept⟩ := hr₂
        repeat (any_goals (first | assumption | wp_step))
        exact then_ h' tk L isR g kept
      | .error e, hr₂ => exact hr₂
      | .ok .next, hr₂ => exact hr₂.elim
      | .ok .brk, hr₂ => exact hr₂.elim
      | .ok .cont, hr₂ => exact hr₂.elim
  | .error e, hr => exact hr
  | .ok .next, hr => exact hr.elim
  | .ok .brk, hr => exact hr.elim
  | .ok .cont, hr => exact hr.elim
end
end DL
namespace DL
open PySem PySem.Spec PyProof.Rows
open L2 hiding St V
def rowsI : List D → Option (List (List Int))
  | [] => some []
  | .tuple ys :: r => (asInts ys).bind fun ns => (rowsI r).map fun l => ns :: l
  | _ :: _ => none
def nubL (l : List (List Int)) : List (List Int) := l.foldl (fun K r => if r ∈ K then K else K ++ [r]) []
def dSortSetR : D → Option D
  | .list xs => (rowsI xs).bind fun rs => if rs.length ≤ 64 then some (.list ((sortC (nubL rs)).map eT)) else none
  | _ => none
theorem nub_go (l : List (List Int)) : ∀ K : List (List Int), K.Nodup → (l.foldl (fun K r => if r ∈ K then K else K ++ [r]) K).Nodup ∧ ∀ x, x ∈ l.foldl (fun K r => if r ∈ K then K else K ++ [r]) K ↔ x ∈ K ∨ x ∈ l := by
  induction l with
  | nil => exact fun K h => ⟨h, fun x => by simp⟩
  | cons r l ih =>
    intro K h
    rw [List.foldl_cons]
    by_cases c : r ∈ K
    · rw [if_pos c]
      obtain ⟨h1, h2⟩ := ih K h
      refine ⟨h1, fun x => ?_⟩
      rw [h2 x, List.mem_cons]
      constructor
      · exact fun z => z.elim .inl fun z => .inr (.inr z)
      · rintro (z | z | z)
        · exact .inl z
        · exact .inl (z ▸ c)
        · exact .inr z
    · rw [if_neg c]
      obtain ⟨h1, h2⟩ := ih (K ++ [r]) (List.nodup_append.mpr ⟨h, by simp, fun a ha b hb e => c (by rw [List.mem_singleton.mp hb] at e; rw [← e]; exact ha)⟩)
      refine ⟨h1, fun x => ?_⟩
      rw [h2 x, List.mem_append, List.mem_singleton, List.mem_cons, or_assoc]
theorem nub_nd (l : List (List Int)) : (nubL l).Nodup := (nub_go l [] .nil).1
theorem nub_mem (l : List (List Int)) (x : List Int) : x ∈ nubL l ↔ x ∈ l := by
  rw [show (x ∈ nubL l ↔ _) from (nub_go l [] .nil).2 x]
  simp
theorem perm_back {α β : Type} {f : α → β} {vs ys : List β} (p : vs.Perm ys) : ∀ L : List α, ys = L.map f → ∃ L1 : List α, L1.Perm L ∧ vs = L1.map f := by
  induction p with
  | nil => intro L e; cases L with
    | nil => exact ⟨[], .nil, rfl⟩
    | cons a l => cases e
  | cons x p ih => intro L e; cases L with
    | nil => cases e
    | cons a l =>
      rw [List.map_cons] at e
      injection e with e1 e2
      obtain ⟨L1, p1, e3⟩ := ih l e2
      exact ⟨a :: L1, p1.cons a, by rw [List.map_cons, e1, e3]⟩
  | swap x y l => intro L e; cases L with
    | nil => cases e
    | cons a L => cases L with
      | nil => cases e
      | cons b L =>
        rw [List.map_cons, List.map_cons] at e
        injection e with e1 e2
        injection e2 with e2 e3
        exact ⟨b :: a :: L, .swap a b L, by rw [List.map_cons, List.map_cons, e1, e2, e3]⟩
  | trans p1 p2 ih1 ih2 => intro L e; obtain ⟨L1, q1, e1⟩ := ih2 L e; obtain ⟨L2, q2, e2⟩ := ih1 L1 e1; exact ⟨L2, q2.trans q1, e2⟩
structure SetW0 (P : Program) (w : World) (h : Heap) (a : Addr) (L : List RowA) : Prop where
  ex : ∃ (es : Array (Int × Value)) (ep : Nat) (t : SetTable), (∃ o, h.get? a = some o ∧ o.ExactSet ∧ o.data = .set es ep t) ∧ es.toList = rowsOf P w L ∧ TabOk t (L.map fun r => thash P w r.2) ∧
    t.plain = true ∧ (w.params.followText "set-order" = true ∨ t.led = true) ∧ L.length * 5 < t.mask * 3
def SetWO (P : Program) (w : World) (a : Addr) (L : List RowA) : HO := .ext fun h => SetW0 P w h a L
theorem setWO_new {P : Program} {w : World} {H : Hp} {h : Heap} {a : Addr} {L : List RowA} (R : SetW0 P w h a L) : ObjOk P w H h a (SetWO P w a L) := by
  have ⟨es, ep, t, ⟨o, ho, r⟩, q⟩ := R.ex
  refine ⟨R, ⟨o, ho⟩, fun h1 h2 z k => ?_⟩
  have ⟨es', ep', t', ⟨o', ho', r'⟩, q'⟩ := SetW0.ex z
  exact ⟨es', ep', t', ⟨o', k o' ho', r'⟩, q'⟩
section
variable {X : Cx} {EX : EXP} {e : Expr} {m : M} {g : P} {p p2 q pos : PySem.Pos}
theorem c_setR (hc : X.calm = true) (hu : X.A.units + 64 < cLine) : CallR X (.type "set") (fun xs H Q => ∃ (l : Addr) (ks : List RowA), xs = [.ref l] ∧ H l = some (.lst (ks.map fun r => L2.V.ref r.1)) ∧ (∀ r ∈ ks, H r.1 = some (.tup (r.2.map L2.V.int))) ∧ ks.length ≤ 64 ∧
    ∀ (b : Addr) (L : List RowA), H b = none → (∀ r ∈ L, r ∈ ks) → (∀ r ∈ ks, r.2 ∈ L.map (·.2)) → (L.map (·.2)).Nodup → L.length ≤ 64 → Q (.ref b) (upd H b (SetWO X.prog X.w b L))) := by
  intro pins s σ H xs us Q I r ⟨l, ks, ex, hl, hk, few, k⟩
  subst ex
  obtain ⟨its, rv, pl, _⟩ := I.list (SqL.of hl)
  rw [Vals.ref1 r]
  refine set_of_rows (P := X.prog) (w := X.w) ks (I.ok.hd hc) pl.isList (by simpa using refs_of_vals rv) (fun r hr => I.isT (SqT.of (hk r hr))) few (by omega) fun h' tk L R g kept => ?_
  refine ⟨.ref _, _, I.laid (t' := tk) kept (Nat.le_refl _) (setWO_new ⟨R.ex⟩), rfl, k _ L I.fresh (fun r hr => List.mem_of_mem_take (g.sub r hr)) (fun r hr => g.all r (by rw [List.take_length]; exact hr)) R.nd ?_⟩
  exact Nat.le_trans g.len few
theorem rp_ints (V : Hp) : ∀ ns : List Int, RpL V (ns.map L2.V.int) (ns.map PyData.int)
  | [] => .nil
  | z :: r => .cons (.int z) (rp_ints V r)
theorem rp_rows {V : Hp} : ∀ {L : List RowA}, (∀ r ∈ L, V r.1 = some (.tup (r.2.map L2.V.int))) → RpL V (L.map fun r => L2.V.ref r.1) (L.map fun r => eT r.2)
  | [], _ => .nil
  | r :: L, h => .cons (.tup (h r List.mem_cons_self) (rp_ints V r.2)) (rp_rows fun x hx => h x (List.mem_cons_of_mem _ hx))
theorem rows_rp {V : Hp} : ∀ {vs : List Vl} {xs : List D} {rs : List (List Int)}, RpL V vs xs → rowsI xs = some rs → ∃ ks : List RowA, vs = ks.map (fun r => L2.V.ref r.1) ∧ ks.map (·.2) = rs ∧ ∀ r ∈ ks, V r.1 = some (.tup (r.2.map L2.V.int))
  | _, _, _, .nil, h => by cases h; exact ⟨[], rfl, rfl, fun _ z => by cases z⟩
  | _, _, _, .cons rv rest, h => by
    cases rv with
    | @tup a xs ys ha ra =>
      unfold rowsI at h
      cases hi : asInts ys with
      | none => rw [hi] at h; cases h
      | some ns =>
        rw [hi, Option.bind_some] at h
        obtain ⟨l, hr, rfl⟩ := Option.map_eq_some_iff.mp h
        obtain ⟨ks, e1, e2, e3⟩ := rows_rp rest hr
        have ez := ints_of ra hi
        subst ez
        refine ⟨(a, ns) :: ks, by rw [e1]; rfl, by rw [← e2]; rfl, fun r hr => ?_⟩
        rcases List.mem_cons.mp hr with rfl | hr
        · exact ha
        · exact e3 r hr
    | _ => cases h
theorem c_sortedR (hc : X.calm = true) (hu : X.A.units + 100 < cLine) : CallR X (.builtin "sorted") (fun xs H Q => ∃ (a : Addr) (L : List RowA) (V : Hp), xs = [.ref a] ∧ H a = some (SetWO X.prog X.w a L) ∧ L.length ≤ 64 ∧ Sub V H ∧ (∀ r ∈ L, V r.1 = some (.tup (r.2.map L2.V.int))) ∧
    kD1 V H Q (.list ((sortC (L.map (·.2))).map eT))) := by
  intro pins s σ H xs us Q I r ⟨a, L, V, ex, ha, few, sb, hv, k⟩
  subst ex
  rw [Vals.ref1 r]
  have R0 : SetW0 X.prog X.w s.heap a L := (I.hok a _ ha).1
  obtain ⟨es, ep, t, ⟨o, ho, hex, hd⟩, rows, tab, pl, ld, rm⟩ := R0.ex
  have hsz : es.size = L.length := by
    have q := congrArg List.length rows
    unfold rowsOf at q
    rwa [Array.length_toList, List.length_map] at q
  have fits : t.fits es.size = true := by
    have q := tab.sz
    rw [List.length_map] at q
    unfold SetTable.fits SetTable.fill
    rw [tab.dm, Bool.and_eq_true, beq_iff_eq, decide_eq_true_eq]
    show t.place.size = es.size ∧ t.place.size + 0 ≤ t.mask
    omega
  refine sorted_via ?_
  refine collect_set (A := X.A.in1) (I.ok.hd hc) ⟨o, ho, hex.1, hd⟩ fits (by unfold scanBound; omega) tab.ris ld fun s1 vs k1 hz g1 o1 pm => ?_
  have hes : es.toList.map (·.2) = L.map fun r => Value.ref r.1 := by
    rw [rows]
    unfold rowsOf
    rw [List.map_map]
    rfl
  rw [hes] at pm
  obtain ⟨L1, p1, e1⟩ := perm_back pm L rfl
  subst e1
  have I1 : Inv X pins σ H s1 := I.call' (ch := []) o1 (Un.kept k1) (I.hok.kept k1) (by rw [g1]; exact I.bare) (fun _ z => nomatch z)
  have so : sortD (L1.map fun r => eT r.2) = some ((sortC (L.map (·.2))).map eT) := by
    have e : (L1.map fun r => eT r.2) = (L1.map (·.2)).map eT := by rw [List.map_map]; rfl
    rw [e, sortD_rows (by rw [List.length_map, p1.length_eq]; exact Nat.le_trans few (by decide)), sortC_ext (p1.map (·.2))]
  exact sort_end hu I1 sb (h' := s1.heap) (tk := s1.toks) rfl (fun _ _ e => e) (vals_of_refs L1) (rp_rows fun r hr => hv r (p1.mem_iff.mp hr)) so k
theorem x_sortSetR (hc : X.calm = true) (hu : X.A.units + 100 < cLine) (hg : Gl X "sorted") (hm : X.mg "sorted" = none) (hg2 : Gl X "set") (hm2 : X.mg "set" = none) (ha : PE X e (tX X.K EX m)) (na : starEach [e] X.env = (false, eval e X.env) :: starEach [] X.env := by rfl)
    (nb : starEach [.Call (.Name "set" p2) [e] [] q] X.env = (false, eval (.Call (.Name "set" p2) [e] [] q) X.env) :: starEach [] X.env := by rfl) :
    PE X (.Call (.Name "sorted" p) [.Call (.Name "set" p2) [e] [] q] [] pos) (tX X.K EX (mUn dSortSetR m)) := by
  have inner : PE X (.Call (.Name "set" p2) [e] [] q) (tCB _ (tCons (tX X.K EX m) tNil)) := pe_callTy (c_setR hc (by omega)) hg2 hm2 (by decide +kernel) (pa_cons ha pa_nil na) (he := na) (hpl := by rfl)
  refine (pe_callB (c_sortedR hc hu) hg hm (by decide +kernel) (pa_cons inner pa_nil nb) (he := nb) (hpl := by rfl)).imp fun σ H Q ⟨w, env, hw, st, pp⟩ => ?_
  subst hw
  refine tX_bind st pp fun dx vx w1 g1 s1 r1 pp1 => ?_
  obtain ⟨d, hd, k⟩ := post_ret s1 pp1
  unfold dSortSetR at hd
  split at hd
  · rename_i xs
    cases hi : rowsI xs with
    | none => rw [hi] at hd; cases hd
    | some rs =>
      rw [hi] at hd
      simp only [Option.bind_some] at hd
      split at hd
      · rename_i hz
        cases hd
        cases r1 with
        | lst hA rA =>
          obtain ⟨ks, ez, e2, e3⟩ := rows_rp rA hi
          subst ez
          subst e2
          rw [List.length_map] at hz
          refine ⟨_, ks, rfl, s1.vh _ _ hA, fun r hr => s1.vh _ _ (e3 r hr), hz, fun b L hb sub all nd few => ?_⟩
          have x1 : Ext w1.V w1.H w1.V (upd w1.H b (SetWO X.prog X.w b L)) := Ext.hid s1.vh hb
          refine ⟨b, L, w1.V, rfl, upd_same, few, x1.vh, fun r hr => e3 r (sub r hr), fun v V' H' x2 rv => ?_⟩
          have pm : (L.map (·.2)).Perm (nubL (ks.map (·.2))) := (List.perm_ext_iff_of_nodup nd (nub_nd _)).mpr fun x => by
            rw [nub_mem]
            constructor
            · intro hx
              obtain ⟨r, hr, rfl⟩ := List.mem_map.mp hx
              exact List.mem_map.mpr ⟨r, sub r hr, rfl⟩
            · intro hx
              obtain ⟨r, hr, rfl⟩ := List.mem_map.mp hx
              exact all r hr
          rw [sortC_ext pm] at rv
          exact k _ _ _ (x1.trans x2) rv
      · cases hd
  · cases hd
theorem d_sortSetR (hc : X.calm = true) (hu : X.A.units + 100 < cLine) (hg : Gl X "sorted") (hm : X.mg "sorted" = none) (hg2 : Gl X "set") (hm2 : X.mg "set" = none) (ha : PE X e (tX X.K EX (lift g))) (na : starEach [e] X.env = (false, eval e X.env) :: starEach [] X.env := by rfl)
    (nb : starEach [.Call (.Name "set" p2) [e] [] q] X.env = (false, eval (.Call (.Name "set" p2) [e] [] q) X.env) :: starEach [] X.env := by rfl) :
    PE X (.Call (.Name "sorted" p) [.Call (.Name "set" p2) [e] [] q] [] pos) (tX X.K EX (lift (pUn dSortSetR g))) := by
  rw [← lift_un]; exact x_sortSetR hc hu hg hm hg2 hm2 ha na nb
end
end DL
set_option Elab.async false
set_option linter.all false
set_option maxRecDepth 100000
set_option maxHeartbeats 4000000
namespace DL
open PySem PySem.Spec PyProof.Rows
open L2 hiding St V
def topS (i : Nat) : Stmt := PySem.Challenge.pw_driveout_k79_whole_more_is_seen.main.body.getD i (.Pass ⟨0, 0, 0, 0⟩)
abbrev st_chains_from_links : Stmt := topS 1
theorem sc_chains_from_links : FnScope ["links", "found", "rank", "before"] ["links"] (defScope st_chains_from_links) := ⟨rfl, rfl, rfl, by decide +kernel, rfl, by decide +kernel, by decide +kernel⟩
abbrev st_linked_visit : Stmt := topS 2
theorem sc_linked_visit : FnScope ["links", "rank", "later", "current", "other"] ["links", "rank"] (defScope st_linked_visit) := ⟨rfl, rfl, rfl, by decide +kernel, rfl, by decide +kernel, by decide +kernel⟩
abbrev st_is_integer : Stmt := topS 4
theorem sc_is_integer : FnScope ["thing"] ["thing"] (defScope st_is_integer) := ⟨rfl, rfl, rfl, by decide +kernel, rfl, by decide +kernel, by decide +kernel⟩
abbrev st_is_rank : Stmt := topS 5
theorem sc_is_rank : FnScope ["size", "thing"] ["size", "thing"] (defScope st_is_rank) := ⟨rfl, rfl, rfl, by decide +kernel, rfl, by decide +kernel, by decide +kernel⟩
abbrev st_leaver : Stmt := topS 6
abbrev N_leaver : List Str := ["room", "rank", "higher", "other"]
theorem sc_leaver : FnScope ["room", "rank", "higher", "other"] ["room", "rank"] (defScope st_leaver) := ⟨rfl, rfl, rfl, by decide +kernel, rfl, by decide +kernel, by decide +kernel⟩
abbrev st_entered : Stmt := topS 7
abbrev N_entered : List Str := ["room", "rank", "gone", "other"]
theorem sc_entered : FnScope ["room", "rank", "gone", "other"] ["room", "rank"] (defScope st_entered) := ⟨rfl, rfl, rfl, by decide +kernel, rfl, by decide +kernel, by decide +kernel⟩
abbrev st_rooms_along : Stmt := topS 8
theorem sc_rooms_along : FnScope ["room", "visits", "found", "rank"] ["room", "visits"] (defScope st_rooms_along) := ⟨rfl, rfl, rfl, by decide +kernel, rfl, by decide +kernel, by decide +kernel⟩
abbrev st_room_after : Stmt := topS 9
theorem sc_room_after : FnScope ["room", "visits"] ["room", "visits"] (defScope st_room_after) := ⟨rfl, rfl, rfl, by decide +kernel, rfl, by decide +kernel, by decide +kernel⟩
abbrev st_people_up_to : Stmt := topS 10
abbrev N_people_up_to : List Str := ["room", "rank", "other"]
theorem sc_people_up_to : FnScope ["room", "rank", "other"] ["room", "rank"] (defScope st_people_up_to) := ⟨rfl, rfl, rfl, by decide +kernel, rfl, by decide +kernel, by decide +kernel⟩
abbrev st_departures : Stmt := topS 11
abbrev N_departures : List Str := ["room", "visits", "along", "gone", "index", "rank"]
theorem sc_departures : FnScope ["room", "visits", "along", "gone", "index", "rank"] ["room", "visits"] (defScope st_departures) := ⟨rfl, rfl, rfl, by decide +kernel, rfl, by decide +kernel, by decide +kernel⟩
abbrev st_chains_of : Stmt := topS 13
theorem sc_chains_of : FnScope ["visits", "links", "rank"] ["visits"] (defScope st_chains_of) := ⟨rfl, rfl, rfl, by decide +kernel, rfl, by decide +kernel, by decide +kernel⟩
abbrev st_meeting : Stmt := topS 14
abbrev N_meeting : List Str := ["chains", "low", "high", "chain", "rank"]
theorem sc_meeting : FnScope ["chains", "low", "high", "chain", "rank"] ["chains", "low", "high"] (defScope st_meeting) := ⟨rfl, rfl, rfl, by decide +kernel, rfl, by decide +kernel, by decide +kernel⟩
abbrev st_ranks_in : Stmt := topS 15
abbrev N_ranks_in : List Str := ["chains", "chain", "rank"]
theorem sc_ranks_in : FnScope ["chains", "chain", "rank"] ["chains"] (defScope st_ranks_in) := ⟨rfl, rfl, rfl, by decide +kernel, rfl, by decide +kernel, by decide +kernel⟩
abbrev st_result : Stmt := topS 16
abbrev N_result : List Str := ["chains", "room", "found", "rank", "begins", "below"]
theorem sc_result : FnScope ["chains", "room", "found", "rank", "begins", "below"] ["chains", "room"] (defScope st_result) := ⟨rfl, rfl, rfl, by decide +kernel, rfl, by decide +kernel, by decide +kernel⟩
abbrev st_all_rooms : Stmt := topS 18
abbrev N_all_rooms : List Str := ["size", "found", "rank", "room"]
theorem sc_all_rooms : FnScope ["size", "found", "rank", "room"] ["size"] (defScope st_all_rooms) := ⟨rfl, rfl, rfl, by decide +kernel, rfl, by decide +kernel, by decide +kernel⟩
abbrev st_heaps : Stmt := topS 19
theorem sc_heaps : FnScope ["size", "chains", "found", "room", "end"] ["size", "chains"] (defScope st_heaps) := ⟨rfl, rfl, rfl, by decide +kernel, rfl, by decide +kernel, by decide +kernel⟩
abbrev st_results_of : Stmt := topS 20
theorem sc_results_of : FnScope ["size", "chains"] ["size", "chains"] (defScope st_results_of) := ⟨rfl, rfl, rfl, by decide +kernel, rfl, by decide +kernel, by decide +kernel⟩
abbrev st_is_entry : Stmt := topS 23
theorem sc_is_entry : FnScope ["size", "thing"] ["size", "thing"] (defScope st_is_entry) := ⟨rfl, rfl, rfl, by decide +kernel, rfl, by decide +kernel, by decide +kernel⟩
abbrev st_is_seen : Stmt := topS 24
abbrev N_is_seen : List Str := ["size", "visits", "thing", "entry"]
theorem sc_is_seen : FnScope ["size", "visits", "thing", "entry"] ["size", "visits", "thing"] (defScope st_is_seen) := ⟨rfl, rfl, rfl, by decide +kernel, rfl, by decide +kernel, by decide +kernel⟩
abbrev st_fits : Stmt := topS 25
abbrev N_fits : List Str := ["room", "visits", "seen", "gone", "index", "entry"]
theorem sc_fits : FnScope ["room", "visits", "seen", "gone", "index", "entry"] ["room", "visits", "seen"] (defScope st_fits) := ⟨rfl, rfl, rfl, by decide +kernel, rfl, by decide +kernel, by decide +kernel⟩
abbrev st_rooms_seen : Stmt := topS 26
abbrev N_rooms_seen : List Str := ["size", "visits", "seen", "room"]
theorem sc_rooms_seen : FnScope ["size", "visits", "seen", "room"] ["size", "visits", "seen"] (defScope st_rooms_seen) := ⟨rfl, rfl, rfl, by decide +kernel, rfl, by decide +kernel, by decide +kernel⟩
abbrev st_ends_seen : Stmt := topS 27
abbrev N_ends_seen : List Str := ["size", "visits", "seen", "room"]
theorem sc_ends_seen : FnScope ["size", "visits", "seen", "room"] ["size", "visits", "seen"] (defScope st_ends_seen) := ⟨rfl, rfl, rfl, by decide +kernel, rfl, by decide +kernel, by decide +kernel⟩
abbrev st_first_wrong : Stmt := topS 28
abbrev N_first_wrong : List Str := ["size", "visits", "seen", "left", "index", "room"]
theorem sc_first_wrong : FnScope ["size", "visits", "seen", "left", "index", "room"] ["size", "visits", "seen"] (defScope st_first_wrong) := ⟨rfl, rfl, rfl, by decide +kernel, rfl, by decide +kernel, by decide +kernel⟩
abbrev st__law_box : Stmt := topS 30
theorem sc__law_box : FnScope ["_law_cells_here", "_law_k", "_law_cell"] ["_law_cells_here", "_law_k"] (defScope st__law_box) := ⟨rfl, rfl, rfl, by decide +kernel, rfl, by decide +kernel, by decide +kernel⟩
abbrev st__law_take : Stmt := topS 31
theorem sc__law_take : FnScope ["_law_box_here", "_law_below", "_law_found", "_law_blend"] ["_law_box_here", "_law_below"] (defScope st__law_take) := ⟨rfl, rfl, rfl, by decide +kernel, rfl, by decide +kernel, by decide +kernel⟩
abbrev st__law_cells : Stmt := topS 32
theorem sc__law_cells : FnScope ["_law_script", "_law_utmost", "_law_cells_here", "_law_k", "_law_cell"] ["_law_script", "_law_utmost"] (defScope st__law_cells) := ⟨rfl, rfl, rfl, by decide +kernel, rfl, by decide +kernel, by decide +kernel⟩
abbrev st__law_of : Stmt := topS 33
theorem sc__law_of : FnScope ["_law_box_here", "_law_some"] ["_law_box_here", "_law_some"] (defScope st__law_of) := ⟨rfl, rfl, rfl, by decide +kernel, rfl, by decide +kernel, by decide +kernel⟩
abbrev st__law_tour : Stmt := topS 34
abbrev N__law_tour : List Str := ["_law_box_here", "_law_span", "_law_most", "_law_way", "_law_found", "_law_few", "_law_turn"]
theorem sc__law_tour : FnScope ["_law_box_here", "_law_span", "_law_most", "_law_way", "_law_found", "_law_few", "_law_turn"] ["_law_box_here", "_law_span", "_law_most"] (defScope st__law_tour) := ⟨rfl, rfl, rfl, by decide +kernel, rfl, by decide +kernel, by decide +kernel⟩
abbrev st__law_rooms : Stmt := topS 35
abbrev N__law_rooms : List Str := ["_law_span", "_law_found", "_law_mark", "_law_crowd"]
theorem sc__law_rooms : FnScope ["_law_span", "_law_found", "_law_mark", "_law_crowd"] ["_law_span"] (defScope st__law_rooms) := ⟨rfl, rfl, rfl, by decide +kernel, rfl, by decide +kernel, by decide +kernel⟩
abbrev st__law_any_crowd : Stmt := topS 36
abbrev N__law_any_crowd : List Str := ["_law_box_here", "_law_span", "_law_mark"]
theorem sc__law_any_crowd : FnScope ["_law_box_here", "_law_span", "_law_mark"] ["_law_box_here", "_law_span"] (defScope st__law_any_crowd) := ⟨rfl, rfl, rfl, by decide +kernel, rfl, by decide +kernel, by decide +kernel⟩
abbrev st__law_veiled : Stmt := topS 37
abbrev N__law_veiled : List Str := ["_law_box_here", "_law_entries", "_law_odds", "_law_entry"]
theorem sc__law_veiled : FnScope ["_law_box_here", "_law_entries", "_law_odds", "_law_entry"] ["_law_box_here", "_law_entries"] (defScope st__law_veiled) := ⟨rfl, rfl, rfl, by decide +kernel, rfl, by decide +kernel, by decide +kernel⟩
abbrev st__law_told : Stmt := topS 38
theorem sc__law_told : FnScope ["_law_span", "_law_crowd", "_law_tour_here", "_law_found", "_law_at", "_law_mark"] ["_law_span", "_law_crowd", "_law_tour_here"] (defScope st__law_told) := ⟨rfl, rfl, rfl, by decide +kernel, rfl, by decide +kernel, by decide +kernel⟩
abbrev st__law_parts_right : Stmt := topS 39
theorem sc__law_parts_right : FnScope ["_law_span", "_law_tour_here", "_law_entries", "_law_at", "_law_whole", "_law_parts", "_law_entry", "_law_some", "_law_left", "_law_wrong"] ["_law_span", "_law_tour_here", "_law_entries", "_law_at", "_law_whole"] (defScope st__law_parts_right) := ⟨rfl, rfl, rfl, by decide +kernel, rfl, by decide +kernel, by decide +kernel⟩
abbrev st__law_right : Stmt := topS 40
abbrev N__law_right : List Str := ["_law_box_here", "_law_span", "_law_tour_here", "_law_crowd", "_law_knots", "_law_every", "_law_full", "_law_entries", "_law_whole", "_law_ends", "_law_blank", "_law_same_so", "_law_spots", "_law_some", "_law_at", "_law_entry"]
theorem sc__law_right : FnScope ["_law_box_here", "_law_span", "_law_tour_here", "_law_crowd", "_law_knots", "_law_every", "_law_full", "_law_entries", "_law_whole", "_law_ends", "_law_blank", "_law_same_so", "_law_spots", "_law_some", "_law_at", "_law_entry"] ["_law_box_here"] (defScope st__law_right) := ⟨rfl, rfl, rfl, by decide +kernel, rfl, by decide +kernel, by decide +kernel⟩
abbrev st_law : Stmt := topS 41
abbrev N_law : List Str := ["_law_script", "_law_cells_here", "_law_k"]
theorem sc_law : FnScope ["_law_script", "_law_cells_here", "_law_k"] ["_law_script"] (defScope st_law) := ⟨rfl, rfl, rfl, by decide +kernel, rfl, by decide +kernel, by decide +kernel⟩
def F__law_veiled : Fn := runF 2 4 (sSeq (sAsg (gN 2) (mCallB F__law_of 0 (liftA (plCons (pApp gLstD (plCons (pC (.int 0)) (plCons (pC (.int 3)) (plCons (pC (.int 6)) plNil)))) plNil)))) (sRet (mComp (liftA (plSeq (pVar 1))) [3] (gN 3) (lift pTrue) (mIf (mBin dLt (mCallB F__law_take 0 (liftA (plCons (pC (.int 8)) plNil))) (lift (pVar 2))) (lift (pC (.str (PySem.Str.ofString "?")))) (lift (pVar 3))))))
def F__law_told : Fn := runF 3 6 (sSeq (sNew 3 (lift (pBin dMulL (pApp gLstD (plCons (pC .none) plNil)) (pApp cLen (plCons (pVar 2) plNil))))) (sSeq (sFor (gT 2 (gsCons (gN 4) (gsCons (gN 5) gsNil))) (liftA (plSeq (pApp (fP F_departures) (plCons (pVar 1) (plCons (pVar 2) plNil))))) (sSetL 3 (lift (pVar 5)) (lift (pVar 4)))) (sRet (mFrz 3))))
def F__law_parts_right : Fn := runF 5 10 (sSeq (sAsg (gN 5) (lift (pApp gLstD plNil))) (sSeq (sFor (gN 6) (liftA (plSeq (pBin dAdd (pApp gLstD (plCons (pC .none) plNil)) (pBin rgL (pC (.int 1)) (pBin dAdd (pVar 0) (pC (.int 1))))))) (sSeq (sAsg (gN 7) (lift (pBin dAdd (pBin dAdd (pSl (pVar 2) ppNone (ppSome (pVar 3))) (pApp gLstD (plCons (pVar 6) plNil))) (pSl (pVar 2) (ppSome (pBin dAdd (pVar 3) (pC (.int 1)))) ppNone)))) (sSeq (sAsg (gN 8) (lift (pApp (fP F_rooms_seen) (plCons (pVar 0) (plCons (pVar 1) (plCons (pVar 7) plNil)))))) (sSeq (sAsg (gN 9) (lift (pApp (fP F_first_wrong) (plCons (pVar 0) (plCons (pVar 1) (plCons (pVar 7) plNil)))))) (sSeq (sIf (lift (pOr (pBin dNe (pBin dEq (pVar 8) (pApp gLstD plNil)) (pBin dIsNot (pVar 9) (pC .none))) (pAnd (pBin dEq (pVar 8) (pApp gLstD plNil)) (pBin dNe (pApp (fP F_ends_seen) (plCons (pVar 0) (plCons (pVar 1) (plCons (pVar 7) plNil)))) (pApp gLstD plNil))))) (sRet (lift (pC (.bool false)))) sNil) (sSeq (sIf (lift (pAnd (pBin dIsNot (pVar 9) (pC .none)) (pUn dNot (pChain dLe dLt (pVar 3) (pVar 9) (pApp cLen (plCons (pVar 1) plNil)))))) (sRet (lift (pC (.bool false)))) sNil) (sAsg (gN 5) (lift (pBin dAdd (pVar 5) (pVar 8)))))))))) (sRet (lift (pBin dEq (pApp cSorted (plCons (pVar 5) plNil)) (pVar 4))))))
def F__law_right : Fn := runF 1 16 (sSeq (sAsg (gN 1) (mBin dAdd (lift (pC (.int 1))) (mCallB F__law_take 0 (liftA (plCons (pC (.int 6)) plNil))))) (sSeq (sAsg (gT 2 (gsCons (gN 2) (gsCons (gN 3) gsNil))) (mApp gTupD (maCons (mCallB F__law_tour 0 (liftA (plCons (pVar 1) (plCons (pC (.int 10)) plNil)))) (maCons (mCallB F__law_any_crowd 0 (liftA (plCons (pVar 1) plNil))) maNil)))) (sSeq (sAsg (gT 3 (gsCons (gN 4) (gsCons (gN 5) (gsCons (gN 6) gsNil)))) (lift (pApp gTupD (plCons (pApp (fP F_chains_of) (plCons (pVar 2) plNil)) (plCons (pApp (fP F__law_rooms) (plCons (pVar 1) plNil)) (plCons (pApp (fP F__law_told) (plCons (pVar 1) (plCons (pVar 3) (plCons (pVar 2) plNil)))) plNil)))))) (sSeq (sAsg (gN 7) (mCallB F__law_veiled 0 (liftA (plCons (pVar 6) plNil)))) (sSeq (sAsg (gN 8) (lift (pApp (fP F_rooms_seen) (plCons (pVar 1) (plCons (pVar 2) (plCons (pVar 7) plNil)))))) (sSeq (sIf (lift (pOr (pBin dNotIn (pVar 3) (pVar 8)) (pOr (pBin dIsNotB (pApp (fP F_is_seen) (plCons (pVar 1) (plCons (pVar 2) (plCons (pVar 7) plNil)))) (pC (.bool true))) (pBin dIsNot (pApp (fP F_first_wrong) (plCons (pVar 1) (plCons (pVar 2) (plCons (pVar 7) plNil)))) (pC .none))))) (sRet (lift (pC (.bool false)))) sNil) (sSeq (sAsg (gN 9) (lift (pUn dSortSetR (pComp (plSeq (pVar 8)) [13] (gN 13) pTrue (pApp (fP F_result) (plCons (pVar 4) (plCons (pVar 13) plNil))))))) (sSeq (sIf (lift (pOr (pBin dNe (pApp (fP F_ends_seen) (plCons (pVar 1) (plCons (pVar 2) (plCons (pVar 7) plNil)))) (pVar 9)) (pBin dNotIn (pApp (fP F_room_after) (plCons (pVar 3) (plCons (pVar 2) plNil))) (pVar 9)))) (sRet (lift (pC (.bool false)))) sNil) (sSeq (sAsg (gN 10) (lift (pBin dMul (pApp gLstD (plCons (pC (.str (PySem.Str.ofString "?"))) plNil)) (pApp cLen (plCons (pVar 2) plNil))))) (sSeq (sIf (lift (pOr (pBin dNe (pApp (fP F_rooms_seen) (plCons (pVar 1) (plCons (pVar 2) (plCons (pVar 10) plNil)))) (pVar 5)) (pBin dNe (pApp (fP F_ends_seen) (plCons (pVar 1) (plCons (pVar 2) (plCons (pVar 10) plNil)))) (pApp (fP F_results_of) (plCons (pVar 1) (plCons (pVar 4) plNil)))))) (sRet (lift (pC (.bool false)))) sNil) (sSeq (sAsg (gN 11) (lift (pApp (fP F_rooms_seen) (plCons (pVar 1) (plCons (pVar 2) (plCons (pVar 6) plNil)))))) (sSeq (sIf (lift (pBin dNe (pVar 11) (pComp (plSeq (pVar 5)) [13] (gN 13) (pBin dEq (pApp (fP F__law_told) (plCons (pVar 1) (plCons (pVar 13) (plCons (pVar 2) plNil)))) (pVar 6)) (pVar 13)))) (sRet (lift (pC (.bool false)))) sNil) (sSeq (sIf (lift (pUn dNot (pApp cAll (plCons (pComp (plSeq (pVar 11)) [13] (gN 13) pTrue (pBin dIn (pVar 13) (pVar 8))) plNil)))) (sRet (lift (pC (.bool false)))) sNil) (sSeq (sAsg (gN 12) (lift (pComp (plOf enumA (plCons (pVar 7) plNil)) [14, 15] (gT 2 (gsCons (gN 14) (gsCons (gN 15) gsNil))) (pBin dEq (pVar 15) (pC (.str (PySem.Str.ofString "?")))) (pVar 14)))) (sSeq (sIf (lift (pBin dEq (pVar 12) (pApp gLstD plNil))) (sRet (lift (pC (.bool true)))) sNil) (sRet (mApp (fP F__law_parts_right) (maCons (lift (pVar 1)) (maCons (lift (pVar 2)) (maCons (lift (pVar 7)) (maCons (mCallB F__law_of 0 (liftA (plCons (pVar 12) plNil))) (maCons (lift (pVar 8)) maNil))))))))))))))))))))))
def F_law : Fn := runF 1 3 (sSeq (sAsg (gN 1) (lift (pCallX F__law_cells 0 (plCons (pC (.int 2)) plNil)))) (sRet (mApp cAll (maCons (mComp (liftA (plOf range1 (plCons (pApp cLen (plCons (pVar 1) plNil)) plNil))) [2] (gN 2) (lift pTrue) (mCallO F__law_right (lift (pApp (fP F__law_box) (plCons (pVar 1) (plCons (pVar 2) plNil)))))) maNil))))
structure Txt (K : KF) (mg : Str → Option Value) (A : Nat → Addr) (FD : Nat → FuncData) : Prop where
  F_chains_from_links : Fun K "chains_from_links" "chains_from_links" st_chains_from_links (A 0) (FD 0)
  g_chains_from_links : mg "chains_from_links" = some (.ref (A 0))
  b_chains_from_links : Binds K (FD 0) ["links"] []
  F_linked_visit : Fun K "linked_visit" "linked_visit" st_linked_visit (A 1) (FD 1)
  g_linked_visit : mg "linked_visit" = some (.ref (A 1))
  b_linked_visit : Binds K (FD 1) ["links", "rank"] []
  F_is_integer : Fun K "is_integer" "is_integer" st_is_integer (A 2) (FD 2)
  g_is_integer : mg "is_integer" = some (.ref (A 2))
  b_is_integer : Binds K (FD 2) ["thing"] []
  F_is_rank : Fun K "is_rank" "is_rank" st_is_rank (A 3) (FD 3)
  g_is_rank : mg "is_rank" = some (.ref (A 3))
  b_is_rank : Binds K (FD 3) ["size", "thing"] []
  F_leaver : Fun K "leaver" "leaver" st_leaver (A 4) (FD 4)
  g_leaver : mg "leaver" = some (.ref (A 4))
  b_leaver : Binds K (FD 4) ["room", "rank"] []
  F_entered : Fun K "entered" "entered" st_entered (A 5) (FD 5)
  g_entered : mg "entered" = some (.ref (A 5))
  b_entered : Binds K (FD 5) ["room", "rank"] []
  F_rooms_along : Fun K "rooms_along" "rooms_along" st_rooms_along (A 6) (FD 6)
  g_rooms_along : mg "rooms_along" = some (.ref (A 6))
  b_rooms_along : Binds K (FD 6) ["room", "visits"] []
  F_room_after : Fun K "room_after" "room_after" st_room_after (A 7) (FD 7)
  g_room_after : mg "room_after" = some (.ref (A 7))
  b_room_after : Binds K (FD 7) ["room", "visits"] []
  F_people_up_to : Fun K "people_up_to" "people_up_to" st_people_up_to (A 8) (FD 8)
  g_people_up_to : mg "people_up_to" = some (.ref (A 8))
  b_people_up_to : Binds K (FD 8) ["room", "rank"] []
  F_departures : Fun K "departures" "departures" st_departures (A 9) (FD 9)
  g_departures : mg "departures" = some (.ref (A 9))
  b_departures : Binds K (FD 9) ["room", "visits"] []
  F_chains_of : Fun K "chains_of" "chains_of" st_chains_of (A 10) (FD 10)
  g_chains_of : mg "chains_of" = some (.ref (A 10))
  b_chains_of : Binds K (FD 10) ["visits"] []
  F_meeting : Fun K "meeting" "meeting" st_meeting (A 11) (FD 11)
  g_meeting : mg "meeting" = some (.ref (A 11))
  b_meeting : Binds K (FD 11) ["chains", "low", "high"] []
  F_ranks_in : Fun K "ranks_in" "ranks_in" st_ranks_in (A 12) (FD 12)
  g_ranks_in : mg "ranks_in" = some (.ref (A 12))
  b_ranks_in : Binds K (FD 12) ["chains"] []
  F_result : Fun K "result" "result" st_result (A 13) (FD 13)
  g_result : mg "result" = some (.ref (A 13))
  b_result : Binds K (FD 13) ["chains", "room"] []
  F_all_rooms : Fun K "all_rooms" "all_rooms" st_all_rooms (A 14) (FD 14)
  g_all_rooms : mg "all_rooms" = some (.ref (A 14))
  b_all_rooms : Binds K (FD 14) ["size"] []
  F_heaps : Fun K "heaps" "heaps" st_heaps (A 15) (FD 15)
  g_heaps : mg "heaps" = some (.ref (A 15))
  b_heaps : Binds K (FD 15) ["size", "chains"] []
  F_results_of : Fun K "results_of" "results_of" st_results_of (A 16) (FD 16)
  g_results_of : mg "results_of" = some (.ref (A 16))
  b_results_of : Binds K (FD 16) ["size", "chains"] []
  F_is_entry : Fun K "is_entry" "is_entry" st_is_entry (A 17) (FD 17)
  g_is_entry : mg "is_entry" = some (.ref (A 17))
  b_is_entry : Binds K (FD 17) ["size", "thing"] []
  F_is_seen : Fun K "is_seen" "is_seen" st_is_seen (A 18) (FD 18)
  g_is_seen : mg "is_seen" = some (.ref (A 18))
  b_is_seen : Binds K (FD 18) ["size", "visits", "thing"] []
  F_fits : Fun K "fits" "fits" st_fits (A 19) (FD 19)
  g_fits : mg "fits" = some (.ref (A 19))
  b_fits : Binds K (FD 19) ["room", "visits", "seen"] []
  F_rooms_seen : Fun K "rooms_seen" "rooms_seen" st_rooms_seen (A 20) (FD 20)
  g_rooms_seen : mg "rooms_seen" = some (.ref (A 20))
  b_rooms_seen : Binds K (FD 20) ["size", "visits", "seen"] []
  F_ends_seen : Fun K "ends_seen" "ends_seen" st_ends_seen (A 21) (FD 21)
  g_ends_seen : mg "ends_seen" = some (.ref (A 21))
  b_ends_seen : Binds K (FD 21) ["size", "visits", "seen"] []
  F_first_wrong : Fun K "first_wrong" "first_wrong" st_first_wrong (A 22) (FD 22)
  g_first_wrong : mg "first_wrong" = some (.ref (A 22))
  b_first_wrong : Binds K (FD 22) ["size", "visits", "seen"] []
  F__law_box : Fun K "_law_box" "_law_box" st__law_box (A 23) (FD 23)
  g__law_box : mg "_law_box" = some (.ref (A 23))
  b__law_box : Binds K (FD 23) ["_law_cells_here", "_law_k"] []
  F__law_take : Fun K "_law_take" "_law_take" st__law_take (A 24) (FD 24)
  g__law_take : mg "_law_take" = some (.ref (A 24))
  b__law_take : Binds K (FD 24) ["_law_box_here", "_law_below"] []
  F__law_cells : Fun K "_law_cells" "_law_cells" st__law_cells (A 25) (FD 25)
  g__law_cells : mg "_law_cells" = some (.ref (A 25))
  b__law_cells : Binds K (FD 25) ["_law_script", "_law_utmost"] []
  F__law_of : Fun K "_law_of" "_law_of" st__law_of (A 26) (FD 26)
  g__law_of : mg "_law_of" = some (.ref (A 26))
  b__law_of : Binds K (FD 26) ["_law_box_here", "_law_some"] []
  F__law_tour : Fun K "_law_tour" "_law_tour" st__law_tour (A 27) (FD 27)
  g__law_tour : mg "_law_tour" = some (.ref (A 27))
  b__law_tour : Binds K (FD 27) ["_law_box_here", "_law_span", "_law_most"] []
  F__law_rooms : Fun K "_law_rooms" "_law_rooms" st__law_rooms (A 28) (FD 28)
  g__law_rooms : mg "_law_rooms" = some (.ref (A 28))
  b__law_rooms : Binds K (FD 28) ["_law_span"] []
  F__law_any_crowd : Fun K "_law_any_crowd" "_law_any_crowd" st__law_any_crowd (A 29) (FD 29)
  g__law_any_crowd : mg "_law_any_crowd" = some (.ref (A 29))
  b__law_any_crowd : Binds K (FD 29) ["_law_box_here", "_law_span"] []
  F__law_veiled : Fun K "_law_veiled" "_law_veiled" st__law_veiled (A 30) (FD 30)
  g__law_veiled : mg "_law_veiled" = some (.ref (A 30))
  b__law_veiled : Binds K (FD 30) ["_law_box_here", "_law_entries"] []
  F__law_told : Fun K "_law_told" "_law_told" st__law_told (A 31) (FD 31)
  g__law_told : mg "_law_told" = some (.ref (A 31))
  b__law_told : Binds K (FD 31) ["_law_span", "_law_crowd", "_law_tour_here"] []
  F__law_parts_right : Fun K "_law_parts_right" "_law_parts_right" st__law_parts_right (A 32) (FD 32)
  g__law_parts_right : mg "_law_parts_right" = some (.ref (A 32))
  b__law_parts_right : Binds K (FD 32) ["_law_span", "_law_tour_here", "_law_entries", "_law_at", "_law_whole"] []
  F__law_right : Fun K "_law_right" "_law_right" st__law_right (A 33) (FD 33)
  g__law_right : mg "_law_right" = some (.ref (A 33))
  b__law_right : Binds K (FD 33) ["_law_box_here"] []
  F_law : Fun K "law" "law" st_law (A 34) (FD 34)
  g_law : mg "law" = some (.ref (A 34))
  b_law : Binds K (FD 34) ["_law_script"] []
  z_abs : mg "abs" = none
  z_all : mg "all" = none
  z_any : mg "any" = none
  z_bool : mg "bool" = none
  z_dict : mg "dict" = none
  z_enumerate : mg "enumerate" = none
  z_int : mg "int" = none
  z_isinstance : mg "isinstance" = none
  z_len : mg "len" = none
  z_list : mg "list" = none
  z_max : mg "max" = none
  z_range : mg "range" = none
  z_set : mg "set" = none
  z_sorted : mg "sorted" = none
  z_str : mg "str" = none
  z_tuple : mg "tuple" = none
  g_UNSEEN : ∃ t, mg "UNSEEN" = some (.str (PySem.Str.ofString "?") t)
section
variable {P : Program} {w : World} {K : KF} {mg : Str → Option Value} {base : Heap} {A : Nat → Addr} {FD : Nat → FuncData}
theorem ok_chains_from_links (T : Txt K mg A FD) : FnG P w K mg base CX0 1 (A 0) (FD 0) ["links"] (spF K ex0 F_chains_from_links) :=
  FnG.mk0 T.F_chains_from_links sc_chains_from_links rfl rfl fun _ _ _ _ _ _ hr hgd => (ss_cons (s_new (ps_set (i := 1) sc_chains_from_links.nd rfl (by first | exact .inl rfl | exact .inr rfl) x_dictO)) (ss_cons (s_for (ps_for PassesOwn.never rfl (di_seq (d_callB (b_sorted (hu100 hr) hr.hd) (by rfl) T.z_sorted (by decide +kernel) (d_acons (x_var (pv 0)) d_anil))) (g_name (pg_name (i := 2) sc_chains_from_links.nd rfl (by first | exact .inl rfl | exact .inr rfl))) (ss_cons (s_set (ps_set (i := 3) sc_chains_from_links.nd rfl (by first | exact .inl rfl | exact .inr rfl) (d_dget (hu1 hr) (x_var (pv 0)) (x_var (pv 2)) (fun _ _ => rfl)))) (ss_one (s_setD (ps_dput (hu1 hr) (pv 1) (x_var (pv 2)) (x_op op_addD (x_if (dt_cmp bo_dGt op_gtD (x_var (pv 3)) x_int (nomark _)) (x_bopD bx_pop (pe_bm PySem.F.plainAttrs_dict PySem.F.slot_dict_pop PySem.F.type_dict_pop mt_popK (pv 1) (d_acons (x_var (pv 3)) d_anil))) (d_tup d_anil)) (d_tup (d_acons (x_var (pv 2)) d_anil)) ) rfl)))))) (ss_one (s_ret (x_callTy b_tuple (by rfl) T.z_tuple (by decide +kernel) (x_acons (x_sortV (hu100 hr) hr.hd (by rfl) T.z_sorted (x_frz (pv 1))) x_anil))))))
theorem ok_linked_visit (T : Txt K mg A FD) : FnG P w K mg base CX0 1 (A 1) (FD 1) ["links", "rank"] (spF K ex0 F_linked_visit) :=
  FnG.mk0 T.F_linked_visit sc_linked_visit rfl rfl fun _ _ _ _ _ _ hr hgd => (ss_cons (s_parF2 (ps_par (i := 2) (j := 3) rfl sc_linked_visit.nd rfl rfl (by decide) rfl rfl (pa_cons (d_callTyO b_dictO (by rfl) T.z_dict (by decide +kernel) (d_acons (x_var (pv 0)) d_anil)) (pa_cons (d_dgetm (pe_bm PySem.F.plainAttrs_dict PySem.F.slot_dict_get PySem.F.type_dict_get mt_getK (x_var (pv 0)) (d_acons (x_var (pv 1)) (d_acons (x_var (pv 1)) d_anil)))) pa_nil)) rfl)) (ss_cons (s_setD (ps_dput (hu1 hr) (pv 2) (x_var (pv 1)) x_int rfl)) (ss_cons (s_for (ps_for PassesOwn.never rfl (di_seq (d_callB (b_sorted (hu100 hr) hr.hd) (by rfl) T.z_sorted (by decide +kernel) (d_acons (x_var (pv 0)) d_anil))) (g_name (pg_name (i := 4) sc_linked_visit.nd rfl (by first | exact .inl rfl | exact .inr rfl))) (ss_one (s_if (PW.pt (dw_and (dt_cmp bo_dGt op_gtD (x_var (pv 4)) (x_var (pv 1)) (nomark _)) (tw_and1 (dt_cmp bo_dLt (op_ltD (hu0 hr)) (d_dget (hu1 hr) (x_var (pv 0)) (x_var (pv 4)) (fun _ _ => rfl)) (x_var (pv 3)) (nomark _))))) (ss_one (s_putN (ps_asg (d_tup (d_acons (x_var (pv 3)) (d_acons (d_dget (hu1 hr) (x_var (pv 0)) (x_var (pv 4)) (fun _ _ => rfl)) d_anil))) (pg_tup rfl (pgs_cons (pg_sub (pv 2) (x_var (pv 4)) (set_dict (hu1 hr))) (pgs_cons (pg_name (i := 3) sc_linked_visit.nd rfl (by first | exact .inl rfl | exact .inr rfl)) pgs_nil)))))) ss_nil)))) (ss_one (s_ret (x_frz (pv 2)))))))
theorem ok_is_integer (T : Txt K mg A FD) : FnG P w K mg base CX0 1 (A 2) (FD 2) ["thing"] (spF K ex0 F_is_integer) :=
  FnG.mk0 T.F_is_integer sc_is_integer rfl rfl fun _ _ _ _ _ _ hr hgd => (ss_one (s_ret (d_and (d_isi .int (by rfl) T.z_isinstance (by rfl) T.z_int (by decide +kernel) (x_var (pv 0))) (x_one (d_not (d_isi .bool (by rfl) T.z_isinstance (by rfl) T.z_bool (by decide +kernel) (x_var (pv 0))))))))
theorem ok_is_rank (T : Txt K mg A FD) : FnG P w K mg base CX0 2 (A 3) (FD 3) ["size", "thing"] (spF K ex0 F_is_rank) :=
  FnG.mk0 T.F_is_rank sc_is_rank rfl rfl fun _ _ _ _ _ _ hr hgd => (ss_one (s_ret (d_and (d_call (ok_is_integer T) (hr.mono (by decide)) hgd (by rfl) T.g_is_integer T.F_is_integer.kp T.b_is_integer pass0 (d_acons (x_var (pv 1)) d_anil)) (x_one (d_chain op_leD op_leD x_int (x_var (pv 1)) (x_var (pv 0)))))))
theorem ok_leaver (T : Txt K mg A FD) : FnG P w K mg base CX0 1 (A 4) (FD 4) ["room", "rank"] (spF K ex0 F_leaver) :=
  FnG.mk0 T.F_leaver sc_leaver rfl rfl fun _ _ _ _ _ _ hr hgd => (ss_cons (ds_setLc (ps_setLc (i := 2) (own := [("other", 3)]) rfl sc_leaver.nd rfl rfl (sw_true rfl rfl rfl (by decide +kernel)) (di_seq (x_var (pv 0))) (blkOk_by (show blkC N_leaver (defScope st_leaver) _ [("other", 3)] = true by decide +kernel)) (fun _ _ _ _ _ => (g_name (pg_name (i := 3) sc_leaver.nd rfl (by first | exact .inl rfl | exact .inr rfl)))) (fun _ _ _ _ _ => (ts_one (dt_cmp bo_dGt op_gtD (x_var (pv 3)) (x_var (pv 1)) (nomark _)))) (fun _ _ _ _ _ => (x_var (pv 3))))) (ss_one (s_ret (d_if (PW.pt (dw_or (dt_cmp bo_dIn (op_inDD (hu65 hr)) (x_var (pv 1)) (x_var (pv 0)) (by rfl)) (tw_or1 (dt_cmp bo_dEq (op_eqDD (hu64 hr)) (d_callB b_len (by rfl) T.z_len (by decide +kernel) (d_acons (x_var (pv 2)) d_anil)) x_int (nomark _))))) x_non (d_ix  (x_var (pv 2)) x_int (fun _ _ => rfl))))))
theorem ok_entered (T : Txt K mg A FD) : FnG P w K mg base CX0 2 (A 5) (FD 5) ["room", "rank"] (spF K ex0 F_entered) :=
  FnG.mk0 T.F_entered sc_entered rfl rfl fun _ _ _ _ _ _ hr hgd => (ss_cons (s_set (ps_set (i := 2) sc_entered.nd rfl (by first | exact .inl rfl | exact .inr rfl) (d_call (ok_leaver T) (hr.mono (by decide)) hgd (by rfl) T.g_leaver T.F_leaver.kp T.b_leaver pass0 (d_acons (x_var (pv 0)) (d_acons (x_var (pv 1)) d_anil))))) (ss_one (s_ret (d_callTy b_tuple (by rfl) T.z_tuple (by decide +kernel) (d_acons (d_callB (b_sorted (hu100 hr) hr.hd) (by rfl) T.z_sorted (by decide +kernel) (d_acons (d_dc (pe_dc (own := [("other", 3)]) rfl sc_entered.nd (di_seq (d_op op_addD (d_callTy b_list (by rfl) T.z_list (by decide +kernel) (d_acons (x_var (pv 0)) d_anil)) (d_lst (d_acons (x_var (pv 1)) d_anil)) )) (blkOk_by (show blkC N_entered (defScope st_entered) _ [("other", 3)] = true by decide +kernel)) (fun _ _ _ _ _ => (g_name (pg_name (i := 3) sc_entered.nd rfl (by first | exact .inl rfl | exact .inr rfl)))) (fun _ _ _ _ _ => (ts_one (dt_cmp bo_dNe (op_neDD (hu64 hr)) (x_var (pv 3)) (x_var (pv 2)) (nomark _)))) (fun _ _ _ _ _ => (x_var (pv 3))) (fun _ _ _ _ _ => x_bl))) d_anil)) d_anil)))))
theorem ok_rooms_along (T : Txt K mg A FD) : FnG P w K mg base CX0 3 (A 6) (FD 6) ["room", "visits"] (spF K ex0 F_rooms_along) :=
  FnG.mk0 T.F_rooms_along sc_rooms_along rfl rfl fun _ _ _ _ _ _ hr hgd => (ss_cons (s_new (ps_set (i := 2) sc_rooms_along.nd rfl (by first | exact .inl rfl | exact .inr rfl) (d_lstO (d_acons (d_callTy b_tuple (by rfl) T.z_tuple (by decide +kernel) (d_acons (x_var (pv 0)) d_anil)) d_anil)))) (ss_cons (s_for (ps_for PassesOwn.never rfl (di_seq (x_var (pv 1))) (g_name (pg_name (i := 3) sc_rooms_along.nd rfl (by first | exact .inl rfl | exact .inr rfl))) (ss_one (s_do (ps_expr (x_bopL bx_append (pe_bm PySem.F.plainAttrs_list PySem.F.slot_list_append PySem.F.type_list_append mt_append (pv 2) (d_acons (d_call (ok_entered T) (hr.mono (by decide)) hgd (by rfl) T.g_entered T.F_entered.kp T.b_entered pass0 (d_acons (d_bix (pv 2) (d_un un_negD x_int) (fun _ _ => rfl)) (d_acons (x_var (pv 3)) d_anil))) d_anil)))))))) (ss_one (s_ret (x_frz (pv 2))))))
theorem ok_room_after (T : Txt K mg A FD) : FnG P w K mg base CX0 4 (A 7) (FD 7) ["room", "visits"] (spF K ex0 F_room_after) :=
  FnG.mk0 T.F_room_after sc_room_after rfl rfl fun _ _ _ _ _ _ hr hgd => (ss_one (s_ret (d_ix  (d_call (ok_rooms_along T) (hr.mono (by decide)) hgd (by rfl) T.g_rooms_along T.F_rooms_along.kp T.b_rooms_along pass0 (d_acons (x_var (pv 0)) (d_acons (x_var (pv 1)) d_anil))) (d_un un_negD x_int) (fun _ _ => rfl))))
theorem ok_people_up_to (T : Txt K mg A FD) : FnG P w K mg base CX0 1 (A 8) (FD 8) ["room", "rank"] (spF K ex0 F_people_up_to) :=
  FnG.mk0 T.F_people_up_to sc_people_up_to rfl rfl fun _ _ _ _ _ _ hr hgd => (ss_one (s_ret (d_callB b_len (by rfl) T.z_len (by decide +kernel) (d_acons (d_lc (pe_lc (own := [("other", 2)]) rfl sc_people_up_to.nd (di_seq (x_var (pv 0))) (blkOk_by (show blkC N_people_up_to (defScope st_people_up_to) _ [("other", 2)] = true by decide +kernel)) (fun _ _ _ _ _ => (g_name (pg_name (i := 2) sc_people_up_to.nd rfl (by first | exact .inl rfl | exact .inr rfl)))) (fun _ _ _ _ _ => (ts_one (dt_cmp bo_dLe op_leD (x_var (pv 2)) (x_var (pv 1)) (nomark _)))) (fun _ _ _ _ _ => (x_var (pv 2))))) d_anil))))
theorem ok_departures (T : Txt K mg A FD) : FnG P w K mg base CX0 4 (A 9) (FD 9) ["room", "visits"] (spF K ex0 F_departures) :=
  FnG.mk0 T.F_departures sc_departures rfl rfl fun _ _ _ _ _ _ hr hgd => (ss_cons (s_set (ps_set (i := 2) sc_departures.nd rfl (by first | exact .inl rfl | exact .inr rfl) (d_call (ok_rooms_along T) (hr.mono (by decide)) hgd (by rfl) T.g_rooms_along T.F_rooms_along.kp T.b_rooms_along pass0 (d_acons (x_var (pv 0)) (d_acons (x_var (pv 1)) d_anil))))) (ss_cons (ds_setLc (ps_setLc (i := 3) (own := [("index", 4), ("rank", 5)]) rfl sc_departures.nd rfl rfl (sw_true rfl rfl rfl (by decide +kernel)) (di_enumA (pi_enumA (by rfl) T.z_enumerate (d_acons (x_var (pv 1)) d_anil))) (blkOk_by (show blkC N_departures (defScope st_departures) _ [("index", 4), ("rank", 5)] = true by decide +kernel)) (fun _ _ _ _ _ => (g_tup rfl (gs_cons (g_name (pg_name (i := 4) sc_departures.nd rfl (by first | exact .inl rfl | exact .inr rfl))) (gs_cons (g_name (pg_name (i := 5) sc_departures.nd rfl (by first | exact .inl rfl | exact .inr rfl))) gs_nil)) rfl (pg_tup rfl (gs_cons (g_name (pg_name (i := 4) sc_departures.nd rfl (by first | exact .inl rfl | exact .inr rfl))) (gs_cons (g_name (pg_name (i := 5) sc_departures.nd rfl (by first | exact .inl rfl | exact .inr rfl))) gs_nil))))) (fun _ _ _ _ _ => dts_nil) (fun _ _ _ _ _ => (d_call (ok_leaver T) (hr.mono (by decide)) hgd (by rfl) T.g_leaver T.F_leaver.kp T.b_leaver pass0 (d_acons (d_ix  (x_var (pv 2)) (x_var (pv 4)) (fun _ _ => rfl)) (d_acons (x_var (pv 5)) d_anil)))))) (ss_one (s_ret (d_lc (pe_lc (own := [("index", 4), ("rank", 5)]) rfl sc_departures.nd (di_enumA (pi_enumA (by rfl) T.z_enumerate (d_acons (x_var (pv 3)) d_anil))) (blkOk_by (show blkC N_departures (defScope st_departures) _ [("index", 4), ("rank", 5)] = true by decide +kernel)) (fun _ _ _ _ _ => (g_tup rfl (gs_cons (g_name (pg_name (i := 4) sc_departures.nd rfl (by first | exact .inl rfl | exact .inr rfl))) (gs_cons (g_name (pg_name (i := 5) sc_departures.nd rfl (by first | exact .inl rfl | exact .inr rfl))) gs_nil)) rfl (pg_tup rfl (gs_cons (g_name (pg_name (i := 4) sc_departures.nd rfl (by first | exact .inl rfl | exact .inr rfl))) (gs_cons (g_name (pg_name (i := 5) sc_departures.nd rfl (by first | exact .inl rfl | exact .inr rfl))) gs_nil))))) (fun _ _ _ _ _ => (ts_one (dt_cmp bo_dIsNot op_isNotD (x_var (pv 5)) x_non (nomark _)))) (fun _ _ _ _ _ => (d_tup (d_acons (x_var (pv 4)) (d_acons (x_var (pv 5)) d_anil))))))))))
theorem ok_chains_of (T : Txt K mg A FD) : FnG P w K mg base CX0 2 (A 10) (FD 10) ["visits"] (spF K ex0 F_chains_of) :=
  FnG.mk0 T.F_chains_of sc_chains_of rfl rfl fun _ _ _ _ _ _ hr hgd => (ss_cons (s_set (ps_set (i := 1) sc_chains_of.nd rfl (by first | exact .inl rfl | exact .inr rfl) (x_ofO x_dictO))) (ss_cons (s_for (ps_for PassesOwn.never rfl (di_seq (x_var (pv 0))) (g_name (pg_name (i := 2) sc_chains_of.nd rfl (by first | exact .inl rfl | exact .inr rfl))) (ss_one (s_set (ps_set (i := 1) sc_chains_of.nd rfl (by first | exact .inl rfl | exact .inr rfl) (d_call (ok_linked_visit T) (hr.mono (by decide)) hgd (by rfl) T.g_linked_visit T.F_linked_visit.kp T.b_linked_visit pass0 (d_acons (x_var (pv 1)) (d_acons (x_var (pv 2)) d_anil)))))))) (ss_one (s_ret (d_call (ok_chains_from_links T) (hr.mono (by decide)) hgd (by rfl) T.g_chains_from_links T.F_chains_from_links.kp T.b_chains_from_links pass0 (d_acons (x_var (pv 1)) d_anil))))))
theorem ok_meeting (T : Txt K mg A FD) : FnG P w K mg base CX0 1 (A 11) (FD 11) ["chains", "low", "high"] (spF K ex0 F_meeting) :=
  FnG.mk0 T.F_meeting sc_meeting rfl rfl fun _ _ _ _ _ _ hr hgd => (ss_one (s_ret (d_callB b_len (by rfl) T.z_len (by decide +kernel) (d_acons (d_lc (pe_lc (own := [("chain", 3)]) rfl sc_meeting.nd (di_seq (x_var (pv 0))) (blkOk_by (show blkC N_meeting (defScope st_meeting) _ [("chain", 3)] = true by decide +kernel)) (fun _ _ _ _ _ => (g_name (pg_name (i := 3) sc_meeting.nd rfl (by first | exact .inl rfl | exact .inr rfl)))) (fun _ _ _ _ _ => (ts_one (t_val (d_callB (b_any rfl) (by rfl) T.z_any (by decide +kernel) (d_acons (d_lc (pe_lc (own := [("rank", 4)]) rfl sc_meeting.nd (di_seq (x_var (pv 3))) (blkOk_by (show blkC N_meeting (relab ⟨_, _, _, _, _⟩ (defScope st_meeting)) _ [("rank", 4)] = true by decide +kernel)) (fun _ _ _ _ _ => (g_name (pg_name (i := 4) sc_meeting.nd rfl (by first | exact .inl rfl | exact .inr rfl)))) (fun _ _ _ _ _ => dts_nil) (fun _ _ _ _ _ => (d_chain op_leD op_leD (x_var (pv 1)) (x_var (pv 4)) (x_var (pv 2)))))) d_anil))))) (fun _ _ _ _ _ => (x_var (pv 3))))) d_anil))))
theorem ok_ranks_in (T : Txt K mg A FD) : FnG P w K mg base CX0 1 (A 12) (FD 12) ["chains"] (spF K ex0 F_ranks_in) :=
  FnG.mk0 T.F_ranks_in sc_ranks_in rfl rfl fun _ _ _ _ _ _ hr hgd => (ss_one (s_ret (d_callB (b_sorted (hu100 hr) hr.hd) (by rfl) T.z_sorted (by decide +kernel) (d_acons (d_lc2 (pe_lc2 (own := [("chain", 1), ("rank", 2)]) (vs1 := [2]) rfl sc_ranks_in.nd (di_seq (x_var (pv 0))) (blkOk_by (show blkC N_ranks_in (defScope st_ranks_in) _ [("chain", 1), ("rank", 2)] = true by decide +kernel)) (by decide) (fun _ _ _ _ _ => (g_wk (g_name (pg_name (i := 1) sc_ranks_in.nd rfl (by first | exact .inl rfl | exact .inr rfl))) (by decide))) (fun _ _ _ _ _ => dts_nil) (fun _ _ _ _ _ => (di_seq (x_var (pv 1)))) (fun _ _ _ _ _ => (g_name (pg_name (i := 2) sc_ranks_in.nd rfl (by first | exact .inl rfl | exact .inr rfl)))) (fun _ _ _ _ _ => dts_nil) (fun _ _ _ _ _ => (x_var (pv 2))))) d_anil))))
theorem ok_result (T : Txt K mg A FD) : FnG P w K mg base CX0 2 (A 13) (FD 13) ["chains", "room"] (spF K ex0 F_result) :=
  FnG.mk0 T.F_result sc_result rfl rfl fun _ _ _ _ _ _ hr hgd => (ss_cons (s_new (ps_set (i := 2) sc_result.nd rfl (by first | exact .inl rfl | exact .inr rfl) (d_lstO d_anil))) (ss_cons (s_for (ps_for PassesOwn.never rfl (di_seq (d_callB (b_sorted (hu100 hr) hr.hd) (by rfl) T.z_sorted (by decide +kernel) (d_acons (d_dc (pe_dc (own := [("rank", 3)]) rfl sc_result.nd (di_seq (d_op op_addD (d_call (ok_ranks_in T) (hr.mono (by decide)) hgd (by rfl) T.g_ranks_in T.F_ranks_in.kp T.b_ranks_in pass0 (d_acons (x_var (pv 0)) d_anil)) (d_callTy b_list (by rfl) T.z_list (by decide +kernel) (d_acons (x_var (pv 1)) d_anil)) )) (blkOk_by (show blkC N_result (defScope st_result) _ [("rank", 3)] = true by decide +kernel)) (fun _ _ _ _ _ => (g_name (pg_name (i := 3) sc_result.nd rfl (by first | exact .inl rfl | exact .inr rfl)))) (fun _ _ _ _ _ => dts_nil) (fun _ _ _ _ _ => (x_var (pv 3))) (fun _ _ _ _ _ => x_bl))) d_anil))) (g_name (pg_name (i := 3) sc_result.nd rfl (by first | exact .inl rfl | exact .inr rfl))) (ss_cons (s_set (ps_set (i := 4) sc_result.nd rfl (by first | exact .inl rfl | exact .inr rfl) (d_op op_addD (d_lst (d_acons x_int d_anil)) (d_lc (pe_lc (own := [("below", 5)]) rfl sc_result.nd (di_seq (x_var (pv 1))) (blkOk_by (show blkC N_result (defScope st_result) _ [("below", 5)] = true by decide +kernel)) (fun _ _ _ _ _ => (g_name (pg_name (i := 5) sc_result.nd rfl (by first | exact .inl rfl | exact .inr rfl)))) (fun _ _ _ _ _ => (ts_one (dt_cmp bo_dLe op_leD (x_var (pv 5)) (x_var (pv 3)) (nomark _)))) (fun _ _ _ _ _ => (x_var (pv 5))))) ))) (ss_one (s_if (dt_cmp bo_dGt op_gtD (d_callB (b_max rfl) (by rfl) T.z_max (by decide +kernel) (d_acons (d_lc (pe_lc (own := [("below", 5)]) rfl sc_result.nd (di_seq (x_var (pv 4))) (blkOk_by (show blkC N_result (defScope st_result) _ [("below", 5)] = true by decide +kernel)) (fun _ _ _ _ _ => (g_name (pg_name (i := 5) sc_result.nd rfl (by first | exact .inl rfl | exact .inr rfl)))) (fun _ _ _ _ _ => dts_nil) (fun _ _ _ _ _ => (d_op op_addD (d_call (ok_people_up_to T) (hr.mono (by decide)) hgd (by rfl) T.g_people_up_to T.F_people_up_to.kp T.b_people_up_to pass0 (d_acons (x_var (pv 1)) (d_acons (x_var (pv 5)) d_anil))) (d_call (ok_meeting T) (hr.mono (by decide)) hgd (by rfl) T.g_meeting T.F_meeting.kp T.b_meeting pass0 (d_acons (x_var (pv 0)) (d_acons (d_op op_addD (x_var (pv 5)) x_int ) (d_acons (x_var (pv 3)) d_anil)))) )))) d_anil)) (x_peek (d_callB b_len (by rfl) T.z_len (by decide +kernel) (d_acons (x_var (pv 2)) d_anil))) (nomark _)) (ss_one (s_do (ps_expr (x_bopL bx_append (pe_bm PySem.F.plainAttrs_list PySem.F.slot_list_append PySem.F.type_list_append mt_append (pv 2) (d_acons (x_var (pv 3)) d_anil)))))) ss_nil))))) (ss_one (s_ret (x_callTy b_tuple (by rfl) T.z_tuple (by decide +kernel) (x_acons (x_frz (pv 2)) x_anil))))))
theorem ok_all_rooms (T : Txt K mg A FD) : FnG P w K mg base CX0 1 (A 14) (FD 14) ["size"] (spF K ex0 F_all_rooms) :=
  FnG.mk0 T.F_all_rooms sc_all_rooms rfl rfl fun _ _ _ _ _ _ hr hgd => (ss_cons (s_set (ps_set (i := 1) sc_all_rooms.nd rfl (by first | exact .inl rfl | exact .inr rfl) (d_lst (d_acons (d_tup d_anil) d_anil)))) (ss_cons (s_for (ps_for PassesOwn.never rfl (di_range3 (pi_range3 (by rfl) T.z_range (d_acons (x_var (pv 0)) (d_acons x_int (d_acons (d_un un_negD x_int) d_anil))))) (g_name (pg_name (i := 2) sc_all_rooms.nd rfl (by first | exact .inl rfl | exact .inr rfl))) (ss_one (s_set (ps_set (i := 1) sc_all_rooms.nd rfl (by first | exact .inl rfl | exact .inr rfl) (d_op op_addD (d_op op_addD (d_lst (d_acons (d_tup d_anil) d_anil)) (d_lc (pe_lc (own := [("room", 3)]) rfl sc_all_rooms.nd (di_seq (x_var (pv 1))) (blkOk_by (show blkC N_all_rooms (defScope st_all_rooms) _ [("room", 3)] = true by decide +kernel)) (fun _ _ _ _ _ => (g_name (pg_name (i := 3) sc_all_rooms.nd rfl (by first | exact .inl rfl | exact .inr rfl)))) (fun _ _ _ _ _ => dts_nil) (fun _ _ _ _ _ => (d_tup (d_acons (x_var (pv 2)) (d_astar (x_var (pv 3)) d_anil)))))) ) (d_slice (x_var (pv 1)) (d_psome x_int) d_pnone) )))))) (ss_one (s_ret (x_var (pv 1))))))
theorem ok_heaps (T : Txt K mg A FD) : FnG P w K mg base CX0 3 (A 15) (FD 15) ["size", "chains"] (spF K ex0 F_heaps) :=
  FnG.mk0 T.F_heaps sc_heaps rfl rfl fun _ _ _ _ _ _ hr hgd => (ss_cons (s_newD (ps_set (i := 2) sc_heaps.nd rfl (by first | exact .inl rfl | exact .inr rfl) pe_dnewT)) (ss_cons (s_for (ps_for PassesOwn.never rfl (di_seq (d_call (ok_all_rooms T) (hr.mono (by decide)) hgd (by rfl) T.g_all_rooms T.F_all_rooms.kp T.b_all_rooms pass0 (d_acons (x_var (pv 0)) d_anil))) (g_name (pg_name (i := 3) sc_heaps.nd rfl (by first | exact .inl rfl | exact .inr rfl))) (ss_cons (s_set (ps_set (i := 4) sc_heaps.nd rfl (by first | exact .inl rfl | exact .inr rfl) (d_call (ok_result T) (hr.mono (by decide)) hgd (by rfl) T.g_result T.F_result.kp T.b_result pass0 (d_acons (x_var (pv 1)) (d_acons (x_var (pv 3)) d_anil))))) (ss_cons (s_if (dt_notInH (hu1 hr) (x_var (pv 4)) (pv 2) (by rfl)) (ss_one (s_setH (ps_dput (hu1 hr) (pv 2) (x_var (pv 4)) (d_lstO d_anil) rfl))) ss_nil) (ss_one (s_do (ps_expr (x_bopH bx_append (pe_bm PySem.F.plainAttrs_list PySem.F.slot_list_append PySem.F.type_list_append mt_append (b_dk (hu1 hr) (pv 2) (x_var (pv 4)) (fun _ _ => rfl)) (d_acons (x_var (pv 3)) d_anil)))))))))) (ss_one (s_ret (x_frzG (pv 2))))))
theorem ok_results_of (T : Txt K mg A FD) : FnG P w K mg base CX0 4 (A 16) (FD 16) ["size", "chains"] (spF K ex0 F_results_of) :=
  FnG.mk0 T.F_results_of sc_results_of rfl rfl fun _ _ _ _ _ _ hr hgd => (ss_one (s_ret (d_callB (b_sortedT (hu100 hr) hr.hd) (by rfl) T.z_sorted (by decide +kernel) (d_acons (d_call (ok_heaps T) (hr.mono (by decide)) hgd (by rfl) T.g_heaps T.F_heaps.kp T.b_heaps pass0 (d_acons (x_var (pv 0)) (d_acons (x_var (pv 1)) d_anil))) d_anil))))
theorem ok_is_entry (T : Txt K mg A FD) : FnG P w K mg base CX0 3 (A 17) (FD 17) ["size", "thing"] (spF K ex0 F_is_entry) :=
  FnG.mk0 T.F_is_entry sc_is_entry rfl rfl fun _ _ _ _ _ _ hr hgd => (ss_one (s_ret (d_or (d_cmp op_isD (x_var (pv 1)) x_non (nomark _)) (d_or (d_and (d_isi .str (by rfl) T.z_isinstance (by rfl) T.z_str (by decide +kernel) (x_var (pv 1))) (x_one (d_cmp (op_eqDD (hu64 hr)) (x_var (pv 1)) (x_globS (by rfl) T.g_UNSEEN) (nomark _)))) (x_one (d_call (ok_is_rank T) (hr.mono (by decide)) hgd (by rfl) T.g_is_rank T.F_is_rank.kp T.b_is_rank pass0 (d_acons (x_var (pv 0)) (d_acons (x_var (pv 1)) d_anil))))))))
theorem ok_is_seen (T : Txt K mg A FD) : FnG P w K mg base CX0 4 (A 18) (FD 18) ["size", "visits", "thing"] (spF K ex0 F_is_seen) :=
  FnG.mk0 T.F_is_seen sc_is_seen rfl rfl fun _ _ _ _ _ _ hr hgd => (ss_one (s_ret (d_and (d_isi .list (by rfl) T.z_isinstance (by rfl) T.z_list (by decide +kernel) (x_var (pv 2))) (d_and (d_cmp (op_eqDD (hu64 hr)) (d_callB b_len (by rfl) T.z_len (by decide +kernel) (d_acons (x_var (pv 2)) d_anil)) (d_callB b_len (by rfl) T.z_len (by decide +kernel) (d_acons (x_var (pv 1)) d_anil)) (nomark _)) (x_one (d_callB (b_all rfl) (by rfl) T.z_all (by decide +kernel) (d_acons (d_lc (pe_lc (own := [("entry", 3)]) rfl sc_is_seen.nd (di_seq (x_var (pv 2))) (blkOk_by (show blkC N_is_seen (defScope st_is_seen) _ [("entry", 3)] = true by decide +kernel)) (fun _ _ _ _ _ => (g_name (pg_name (i := 3) sc_is_seen.nd rfl (by first | exact .inl rfl | exact .inr rfl)))) (fun _ _ _ _ _ => dts_nil) (fun _ _ _ _ _ => (d_call (ok_is_entry T) (hr.mono (by decide)) hgd (by rfl) T.g_is_entry T.F_is_entry.kp T.b_is_entry pass0 (d_acons (x_var (pv 0)) (d_acons (x_var (pv 3)) d_anil)))))) d_anil)))))))
theorem ok_fits (T : Txt K mg A FD) : FnG P w K mg base CX0 5 (A 19) (FD 19) ["room", "visits", "seen"] (spF K ex0 F_fits) :=
  FnG.mk0 T.F_fits sc_fits rfl rfl fun _ _ _ _ _ _ hr hgd => (ss_cons (s_set (ps_set (i := 3) sc_fits.nd rfl (by first | exact .inl rfl | exact .inr rfl) (d_callTy (b_dictP rfl) (by rfl) T.z_dict (by decide +kernel) (d_acons (d_call (ok_departures T) (hr.mono (by decide)) hgd (by rfl) T.g_departures T.F_departures.kp T.b_departures pass0 (d_acons (x_var (pv 0)) (d_acons (x_var (pv 1)) d_anil))) d_anil)))) (ss_one (s_ret (d_callB (b_all rfl) (by rfl) T.z_all (by decide +kernel) (d_acons (d_lc (pe_lc (own := [("index", 4), ("entry", 5)]) rfl sc_fits.nd (di_enumA (pi_enumA (by rfl) T.z_enumerate (d_acons (x_var (pv 2)) d_anil))) (blkOk_by (show blkC N_fits (defScope st_fits) _ [("index", 4), ("entry", 5)] = true by decide +kernel)) (fun _ _ _ _ _ => (g_tup rfl (gs_cons (g_name (pg_name (i := 4) sc_fits.nd rfl (by first | exact .inl rfl | exact .inr rfl))) (gs_cons (g_name (pg_name (i := 5) sc_fits.nd rfl (by first | exact .inl rfl | exact .inr rfl))) gs_nil)) rfl (pg_tup rfl (gs_cons (g_name (pg_name (i := 4) sc_fits.nd rfl (by first | exact .inl rfl | exact .inr rfl))) (gs_cons (g_name (pg_name (i := 5) sc_fits.nd rfl (by first | exact .inl rfl | exact .inr rfl))) gs_nil))))) (fun _ _ _ _ _ => dts_nil) (fun _ _ _ _ _ => (d_or (d_cmp (op_eqDD (hu64 hr)) (x_var (pv 5)) (x_globS (by rfl) T.g_UNSEEN) (nomark _)) (x_one (d_cmp (op_eqDD (hu64 hr)) (d_dget1 (pe_bm PySem.F.plainAttrs_dict PySem.F.slot_dict_get PySem.F.type_dict_get mt_get1 (x_var (pv 3)) (d_acons (x_var (pv 4)) d_anil))) (x_var (pv 5)) (nomark _))))))) d_anil)))))
theorem ok_rooms_seen (T : Txt K mg A FD) : FnG P w K mg base CX0 6 (A 20) (FD 20) ["size", "visits", "seen"] (spF K ex0 F_rooms_seen) :=
  FnG.mk0 T.F_rooms_seen sc_rooms_seen rfl rfl fun _ _ _ _ _ _ hr hgd => (ss_one (s_ret (d_lc (pe_lc (own := [("room", 3)]) rfl sc_rooms_seen.nd (di_seq (d_call (ok_all_rooms T) (hr.mono (by decide)) hgd (by rfl) T.g_all_rooms T.F_all_rooms.kp T.b_all_rooms pass0 (d_acons (x_var (pv 0)) d_anil))) (blkOk_by (show blkC N_rooms_seen (defScope st_rooms_seen) _ [("room", 3)] = true by decide +kernel)) (fun _ _ _ _ _ => (g_name (pg_name (i := 3) sc_rooms_seen.nd rfl (by first | exact .inl rfl | exact .inr rfl)))) (fun _ _ _ _ _ => (ts_one (t_val (d_call (ok_fits T) (hr.mono (by decide)) hgd (by rfl) T.g_fits T.F_fits.kp T.b_fits pass0 (d_acons (x_var (pv 3)) (d_acons (x_var (pv 1)) (d_acons (x_var (pv 2)) d_anil))))))) (fun _ _ _ _ _ => (x_var (pv 3)))))))
theorem ok_ends_seen (T : Txt K mg A FD) : FnG P w K mg base CX0 7 (A 21) (FD 21) ["size", "visits", "seen"] (spF K ex0 F_ends_seen) :=
  FnG.mk0 T.F_ends_seen sc_ends_seen rfl rfl fun _ _ _ _ _ _ hr hgd => (ss_one (s_ret (d_callB (b_sortedT (hu100 hr) hr.hd) (by rfl) T.z_sorted (by decide +kernel) (d_acons (d_dcT (pe_dcT (own := [("room", 3)]) rfl (hu1 hr) sc_ends_seen.nd (di_seq (d_call (ok_rooms_seen T) (hr.mono (by decide)) hgd (by rfl) T.g_rooms_seen T.F_rooms_seen.kp T.b_rooms_seen pass0 (d_acons (x_var (pv 0)) (d_acons (x_var (pv 1)) (d_acons (x_var (pv 2)) d_anil))))) (blkOk_by (show blkC N_ends_seen (defScope st_ends_seen) _ [("room", 3)] = true by decide +kernel)) (fun _ _ _ _ _ => (g_name (pg_name (i := 3) sc_ends_seen.nd rfl (by first | exact .inl rfl | exact .inr rfl)))) (fun _ _ _ _ _ => dts_nil) (fun _ _ _ _ _ => (d_call (ok_room_after T) (hr.mono (by decide)) hgd (by rfl) T.g_room_after T.F_room_after.kp T.b_room_after pass0 (d_acons (x_var (pv 3)) (d_acons (x_var (pv 1)) d_anil)))) (fun _ _ _ _ _ => x_bl))) d_anil))))
theorem ok_first_wrong (T : Txt K mg A FD) : FnG P w K mg base CX0 6 (A 22) (FD 22) ["size", "visits", "seen"] (spF K ex0 F_first_wrong) :=
  FnG.mk0 T.F_first_wrong sc_first_wrong rfl rfl fun _ _ _ _ _ _ hr hgd => (ss_cons (s_set (ps_set (i := 3) sc_first_wrong.nd rfl (by first | exact .inl rfl | exact .inr rfl) (d_call (ok_all_rooms T) (hr.mono (by decide)) hgd (by rfl) T.g_all_rooms T.F_all_rooms.kp T.b_all_rooms pass0 (d_acons (x_var (pv 0)) d_anil)))) (ss_cons (s_for (ps_for PassesOwn.never rfl (di_range1 (pi_range1 (by rfl) T.z_range (d_acons (d_callB b_len (by rfl) T.z_len (by decide +kernel) (d_acons (x_var (pv 2)) d_anil)) d_anil))) (g_name (pg_name (i := 4) sc_first_wrong.nd rfl (by first | exact .inl rfl | exact .inr rfl))) (ss_cons (ds_setLc (ps_setLc (i := 3) (own := [("room", 5)]) rfl sc_first_wrong.nd rfl rfl (sw_true rfl rfl rfl (by decide +kernel)) (di_seq (x_var (pv 3))) (blkOk_by (show blkC N_first_wrong (defScope st_first_wrong) _ [("room", 5)] = true by decide +kernel)) (fun _ _ _ _ _ => (g_name (pg_name (i := 5) sc_first_wrong.nd rfl (by first | exact .inl rfl | exact .inr rfl)))) (fun _ _ _ _ _ => (ts_one (t_val (d_call (ok_fits T) (hr.mono (by decide)) hgd (by rfl) T.g_fits T.F_fits.kp T.b_fits pass0 (d_acons (x_var (pv 5)) (d_acons (d_slice (x_var (pv 1)) d_pnone (d_psome (d_op op_addD (x_var (pv 4)) x_int ))) (d_acons (d_slice (x_var (pv 2)) d_pnone (d_psome (d_op op_addD (x_var (pv 4)) x_int ))) d_anil))))))) (fun _ _ _ _ _ => (x_var (pv 5))))) (ss_one (s_if (dt_cmp bo_dEq (op_eqDD (hu64 hr)) (d_callB b_len (by rfl) T.z_len (by decide +kernel) (d_acons (x_var (pv 3)) d_anil)) x_int (nomark _)) (ss_one (s_ret (x_var (pv 4)))) ss_nil))))) (ss_one (s_ret x_non))))
theorem ok__law_box (T : Txt K mg A FD) : FnG P w K mg base CX0 1 (A 23) (FD 23) ["_law_cells_here", "_law_k"] (spO K F__law_box) :=
  FnG.mkO T.F__law_box sc__law_box rfl rfl fun _ _ _ _ _ _ hr hgd => (pss_cons (s_set (ps_set (i := 2) sc__law_box.nd rfl (by first | exact .inl rfl | exact .inr rfl) (d_ix  (x_var (pv 0)) (x_var (pv 1)) (fun _ _ => rfl)))) (pss_one (ps_ret (d_lstO (d_acons (d_op op_mulD (d_callB b_abs (by rfl) T.z_abs (by decide +kernel) (d_acons (x_var (pv 2)) d_anil)) (d_callTy b_int (by rfl) T.z_int (by decide +kernel) (d_acons (d_cmp op_geD (d_callB b_abs (by rfl) T.z_abs (by decide +kernel) (d_acons (x_var (pv 2)) d_anil)) (d_op op_powD x_int x_int ) (nomark _)) d_anil)) ) (d_acons (d_op op_addD (d_op op_addD (d_op op_modD (x_var (pv 2)) x_int ) (d_op op_mulD x_int (x_var (pv 1)) ) ) x_int ) (d_acons x_int d_anil)))))))
theorem ok__law_take (T : Txt K mg A FD) : FnG P w K mg base CX0 1 (A 24) (FD 24) ["_law_box_here", "_law_below"] (spF K ex0 F__law_take) :=
  FnG.mk0 T.F__law_take sc__law_take rfl rfl fun _ _ _ _ _ _ hr hgd => (ss_cons (s_if (dt_cmp bo_dGt op_gtD (d_bix (pv 0) x_int (fun _ _ => rfl)) x_int (nomark _)) (ss_cons (s_set (ps_set (i := 2) sc__law_take.nd rfl (by first | exact .inl rfl | exact .inr rfl) (d_op op_modD (d_bix (pv 0) x_int (fun _ _ => rfl)) (x_var (pv 1)) ))) (ss_cons (s_setL (ps_asg (d_op op_fdivD (d_bix (pv 0) x_int (fun _ _ => rfl)) (x_var (pv 1)) ) (pg_sub (pv 0) x_int set_list))) (ss_one (s_ret (x_var (pv 2)))))) ss_nil) (ss_cons (s_setL (ps_asg (d_op op_addD (d_bix (pv 0) x_int (fun _ _ => rfl)) x_int ) (pg_sub (pv 0) x_int set_list))) (ss_cons (s_set (ps_set (i := 3) sc__law_take.nd rfl (by first | exact .inl rfl | exact .inr rfl) (d_op op_modD (d_op op_addD (d_bix (pv 0) x_int (fun _ _ => rfl)) (d_op op_mulD x_int (d_bix (pv 0) x_int (fun _ _ => rfl)) ) ) x_int ))) (ss_cons (s_set (ps_set (i := 3) sc__law_take.nd rfl (by first | exact .inl rfl | exact .inr rfl) (d_op op_modD (d_op op_addD (d_op op_addD (d_op op_mulD (x_var (pv 3)) (x_var (pv 3)) ) (d_op op_mulD x_int (d_bix (pv 0) x_int (fun _ _ => rfl)) ) ) x_int ) x_int ))) (ss_cons (s_set (ps_set (i := 3) sc__law_take.nd rfl (by first | exact .inl rfl | exact .inr rfl) (d_op op_modD (d_op op_addD (d_op op_mulD (x_var (pv 3)) (d_op op_addD (d_op op_fdivD (x_var (pv 3)) x_int ) x_int ) ) (d_bix (pv 0) x_int (fun _ _ => rfl)) ) x_int ))) (ss_one (s_ret (d_op op_modD (d_op op_fdivD (x_var (pv 3)) x_int ) (x_var (pv 1)) ))))))))
theorem ok__law_cells (T : Txt K mg A FD) : FnG P w K mg base CX0 1 (A 25) (FD 25) ["_law_script", "_law_utmost"] (spF K ex0 F__law_cells) :=
  FnG.mk0 T.F__law_cells sc__law_cells rfl rfl fun _ _ _ _ _ _ hr hgd => (ss_cons (s_new (ps_set (i := 2) sc__law_cells.nd rfl (by first | exact .inl rfl | exact .inr rfl) (d_orO (d_callTyO b_listO (by rfl) T.z_list (by decide +kernel) (d_acons (d_xsl (pv 0) d_pnone (d_psome (x_var (pv 1)))) d_anil)) (d_lstO (d_acons x_int d_anil))))) (ss_cons (s_for (ps_for PassesOwn.never rfl (di_enum (pi_enum (by rfl) T.z_enumerate (d_acons (d_xsl (pv 0) (d_psome (x_var (pv 1))) (d_psome x_int)) d_anil))) (g_tup rfl (gs_cons (g_name (pg_name (i := 3) sc__law_cells.nd rfl (by first | exact .inl rfl | exact .inr rfl))) (gs_cons (g_name (pg_name (i := 4) sc__law_cells.nd rfl (by first | exact .inl rfl | exact .inr rfl))) gs_nil)) rfl (pg_tup rfl (gs_cons (g_name (pg_name (i := 3) sc__law_cells.nd rfl (by first | exact .inl rfl | exact .inr rfl))) (gs_cons (g_name (pg_name (i := 4) sc__law_cells.nd rfl (by first | exact .inl rfl | exact .inr rfl))) gs_nil)))) (ss_one (s_setL (ps_asg (d_op op_addD (d_bix (pv 2) (d_op op_modD (x_var (pv 3)) (x_var (pv 1)) ) (fun _ _ => rfl)) (d_op op_mulD (x_var (pv 4)) (d_op op_addD (x_var (pv 3)) x_int ) ) ) (pg_sub (pv 2) (d_op op_modD (x_var (pv 3)) (x_var (pv 1)) ) set_list)))))) (ss_one (s_ret (x_frz (pv 2))))))
theorem ok__law_of (T : Txt K mg A FD) : FnG P w K mg base CX0 2 (A 26) (FD 26) ["_law_box_here", "_law_some"] (spF K ex0 F__law_of) :=
  FnG.mk0 T.F__law_of sc__law_of rfl rfl fun _ _ _ _ _ _ hr hgd => (ss_one (s_ret (x_ix  (x_var (pv 1)) (d_cbox (ok__law_take T) (hr.mono (by decide)) hgd (by rfl) T.g__law_take T.F__law_take.kp T.b__law_take pass0 (pv 0) (d_acons (d_callB b_len (by rfl) T.z_len (by decide +kernel) (d_acons (x_var (pv 1)) d_anil)) d_anil)) (fun _ _ => rfl))))
theorem ok__law_tour (T : Txt K mg A FD) : FnG P w K mg base CX0 3 (A 27) (FD 27) ["_law_box_here", "_law_span", "_law_most"] (spF K ex0 F__law_tour) :=
  FnG.mk0 T.F__law_tour sc__law_tour rfl rfl fun _ _ _ _ _ _ hr hgd => (ss_cons (s_parL2 (ps_par (i := 3) (j := 4) rfl sc__law_tour.nd rfl rfl (by decide) rfl rfl (pa_cons (d_cbox (ok__law_take T) (hr.mono (by decide)) hgd (by rfl) T.g__law_take T.F__law_take.kp T.b__law_take pass0 (pv 0) (d_acons x_int d_anil)) (pa_cons (d_lstO d_anil) pa_nil)) rfl)) (ss_cons (s_setLc (ps_setLc (i := 5) (own := [("_law_turn", 6)]) rfl sc__law_tour.nd rfl rfl (sw_true rfl rfl rfl (by decide +kernel)) (di_range1 (pi_range1 (by rfl) T.z_range (d_acons x_int d_anil))) (blkOk_by (show blkC N__law_tour (defScope st__law_tour) _ [("_law_turn", 6)] = true by decide +kernel)) (fun _ _ _ _ _ => (g_name (pg_name (i := 6) sc__law_tour.nd rfl (by first | exact .inl rfl | exact .inr rfl)))) (fun _ _ _ _ _ => dts_nil) (fun _ _ _ _ _ => (x_op op_addD x_int (d_cbox (ok__law_take T) (hr.mono (by decide)) hgd (by rfl) T.g__law_take T.F__law_take.kp T.b__law_take pass0 (pv 0) (d_acons (x_var (pv 1)) d_anil)) )))) (ss_cons (s_for (ps_for PassesOwn.never rfl (i_range1 (pi_range1 (by rfl) T.z_range (x_acons (d_cbox (ok__law_take T) (hr.mono (by decide)) hgd (by rfl) T.g__law_take T.F__law_take.kp T.b__law_take pass0 (pv 0) (d_acons (d_op op_addD (x_var (pv 2)) x_int ) d_anil)) x_anil))) (g_name (pg_name (i := 6) sc__law_tour.nd rfl (by first | exact .inl rfl | exact .inr rfl))) (ss_one (s_do (ps_expr (x_bopL bx_append (pe_bm PySem.F.plainAttrs_list PySem.F.slot_list_append PySem.F.type_list_append mt_append (pv 4) (x_acons (x_if (dt_cmp bo_dEq (op_eqDD (hu64 hr)) (x_var (pv 3)) x_int (nomark _)) (d_cbox (ok__law_of T) (hr.mono (by decide)) hgd (by rfl) T.g__law_of T.F__law_of.kp T.b__law_of pass0 (pv 0) (d_acons (x_var (pv 5)) d_anil)) (x_op op_addD x_int (d_cbox (ok__law_take T) (hr.mono (by decide)) hgd (by rfl) T.g__law_take T.F__law_take.kp T.b__law_take pass0 (pv 0) (d_acons (x_var (pv 1)) d_anil)) )) x_anil)))))))) (ss_one (s_ret (x_ix  (x_lst (x_acons (x_frz (pv 4)) (x_acons (x_frz (pv 4)) (x_acons (x_frz (pv 4)) (x_acons (x_callB (b_sorted (hu100 hr) hr.hd) (by rfl) T.z_sorted (by decide +kernel) (x_acons (x_frz (pv 4)) x_anil)) (x_acons (x_rev (x_callB (b_sorted (hu100 hr) hr.hd) (by rfl) T.z_sorted (by decide +kernel) (x_acons (x_frz (pv 4)) x_anil))) x_anil)))))) (x_var (pv 3)) (fun _ _ => rfl)))))))
theorem ok__law_rooms (T : Txt K mg A FD) : FnG P w K mg base CX0 1 (A 28) (FD 28) ["_law_span"] (spF K ex0 F__law_rooms) :=
  FnG.mk0 T.F__law_rooms sc__law_rooms rfl rfl fun _ _ _ _ _ _ hr hgd => (ss_cons (s_set (ps_set (i := 1) sc__law_rooms.nd rfl (by first | exact .inl rfl | exact .inr rfl) (d_lst (d_acons (d_tup d_anil) d_anil)))) (ss_cons (s_for (ps_for PassesOwn.never rfl (di_range2 (pi_range2 (by rfl) T.z_range (d_acons x_int (d_acons (d_op op_addD (x_var (pv 0)) x_int ) d_anil)))) (g_name (pg_name (i := 2) sc__law_rooms.nd rfl (by first | exact .inl rfl | exact .inr rfl))) (ss_one (s_set (ps_set (i := 1) sc__law_rooms.nd rfl (by first | exact .inl rfl | exact .inr rfl) (d_op op_addD (x_var (pv 1)) (d_lc (pe_lc (own := [("_law_crowd", 3)]) rfl sc__law_rooms.nd (di_seq (x_var (pv 1))) (blkOk_by (show blkC N__law_rooms (defScope st__law_rooms) _ [("_law_crowd", 3)] = true by decide +kernel)) (fun _ _ _ _ _ => (g_name (pg_name (i := 3) sc__law_rooms.nd rfl (by first | exact .inl rfl | exact .inr rfl)))) (fun _ _ _ _ _ => dts_nil) (fun _ _ _ _ _ => (d_op op_addD (x_var (pv 3)) (d_tup (d_acons (x_var (pv 2)) d_anil)) )))) )))))) (ss_one (s_ret (d_callB (b_sorted (hu100 hr) hr.hd) (by rfl) T.z_sorted (by decide +kernel) (d_acons (x_var (pv 1)) d_anil))))))
theorem ok__law_any_crowd (T : Txt K mg A FD) : FnG P w K mg base CX0 2 (A 29) (FD 29) ["_law_box_here", "_law_span"] (spF K ex0 F__law_any_crowd) :=
  FnG.mk0 T.F__law_any_crowd sc__law_any_crowd rfl rfl fun _ _ _ _ _ _ hr hgd => (ss_one (s_ret (x_callTy b_tuple (by rfl) T.z_tuple (by decide +kernel) (x_acons (x_lc (pe_lc (own := [("_law_mark", 2)]) rfl sc__law_any_crowd.nd (di_range2 (pi_range2 (by rfl) T.z_range (d_acons x_int (d_acons (d_op op_addD (x_var (pv 1)) x_int ) d_anil)))) (blkOk_by (show blkC N__law_any_crowd (defScope st__law_any_crowd) _ [("_law_mark", 2)] = true by decide +kernel)) (fun _ _ _ _ _ => (g_name (pg_name (i := 2) sc__law_any_crowd.nd rfl (by first | exact .inl rfl | exact .inr rfl)))) (fun _ _ _ _ _ => (ts_one (t_cmp bo_dEq (op_eqDD (hu64 hr)) (d_cbox (ok__law_take T) (hr.mono (by decide)) hgd (by rfl) T.g__law_take T.F__law_take.kp T.b__law_take pass0 (pv 0) (d_acons x_int d_anil)) x_int (nomark _)))) (fun _ _ _ _ _ => (x_var (pv 2))))) x_anil))))
theorem ok__law_veiled (T : Txt K mg A FD) : FnG P w K mg base CX0 3 (A 30) (FD 30) ["_law_box_here", "_law_entries"] (spF K ex0 F__law_veiled) :=
  FnG.mk0 T.F__law_veiled sc__law_veiled rfl rfl fun _ _ _ _ _ _ hr hgd => (ss_cons (s_set (ps_set (i := 2) sc__law_veiled.nd rfl (by first | exact .inl rfl | exact .inr rfl) (d_cbox (ok__law_of T) (hr.mono (by decide)) hgd (by rfl) T.g__law_of T.F__law_of.kp T.b__law_of pass0 (pv 0) (d_acons (d_lst (d_acons x_int (d_acons x_int (d_acons x_int d_anil)))) d_anil)))) (ss_one (s_ret (x_lc (pe_lc (own := [("_law_entry", 3)]) rfl sc__law_veiled.nd (di_seq (x_var (pv 1))) (blkOk_by (show blkC N__law_veiled (defScope st__law_veiled) _ [("_law_entry", 3)] = true by decide +kernel)) (fun _ _ _ _ _ => (g_name (pg_name (i := 3) sc__law_veiled.nd rfl (by first | exact .inl rfl | exact .inr rfl)))) (fun _ _ _ _ _ => dts_nil) (fun _ _ _ _ _ => (x_if (t_cmp bo_dLt (op_ltD (hu0 hr)) (d_cbox (ok__law_take T) (hr.mono (by decide)) hgd (by rfl) T.g__law_take T.F__law_take.kp T.b__law_take pass0 (pv 0) (d_acons x_int d_anil)) (x_var (pv 2)) (nomark _)) x_str (x_var (pv 3)))))))))
theorem ok__law_told (T : Txt K mg A FD) : FnG P w K mg base CX0 5 (A 31) (FD 31) ["_law_span", "_law_crowd", "_law_tour_here"] (spF K ex0 F__law_told) :=
  FnG.mk0 T.F__law_told sc__law_told rfl rfl fun _ _ _ _ _ _ hr hgd => (ss_cons (s_new (ps_set (i := 3) sc__law_told.nd rfl (by first | exact .inl rfl | exact .inr rfl) (d_opO op_mulO (d_lst (d_acons x_non d_anil)) (d_callB b_len (by rfl) T.z_len (by decide +kernel) (d_acons (x_var (pv 2)) d_anil))))) (ss_cons (s_for (ps_for PassesOwn.never rfl (di_seq (d_call (ok_departures T) (hr.mono (by decide)) hgd (by rfl) T.g_departures T.F_departures.kp T.b_departures pass0 (d_acons (x_var (pv 1)) (d_acons (x_var (pv 2)) d_anil)))) (g_tup rfl (gs_cons (g_name (pg_name (i := 4) sc__law_told.nd rfl (by first | exact .inl rfl | exact .inr rfl))) (gs_cons (g_name (pg_name (i := 5) sc__law_told.nd rfl (by first | exact .inl rfl | exact .inr rfl))) gs_nil)) rfl (pg_tup rfl (gs_cons (g_name (pg_name (i := 4) sc__law_told.nd rfl (by first | exact .inl rfl | exact .inr rfl))) (gs_cons (g_name (pg_name (i := 5) sc__law_told.nd rfl (by first | exact .inl rfl | exact .inr rfl))) gs_nil)))) (ss_one (s_setL (ps_asg (x_var (pv 5)) (pg_sub (pv 3) (x_var (pv 4)) set_list)))))) (ss_one (s_ret (x_frz (pv 3))))))
theorem ok__law_parts_right (T : Txt K mg A FD) : FnG P w K mg base CX0 8 (A 32) (FD 32) ["_law_span", "_law_tour_here", "_law_entries", "_law_at", "_law_whole"] (spF K ex0 F__law_parts_right) :=
  FnG.mk0 T.F__law_parts_right sc__law_parts_right rfl rfl fun _ _ _ _ _ _ hr hgd => (ss_cons (s_set (ps_set (i := 5) sc__law_parts_right.nd rfl (by first | exact .inl rfl | exact .inr rfl) (d_lst d_anil))) (ss_cons (s_for (ps_for PassesOwn.never rfl (di_seq (d_op op_addD (d_lst (d_acons x_non d_anil)) (d_lrange2 rfl (by rfl) T.z_list (by rfl) T.z_range x_int (d_op op_addD (x_var (pv 0)) x_int )) )) (g_name (pg_name (i := 6) sc__law_parts_right.nd rfl (by first | exact .inl rfl | exact .inr rfl))) (ss_cons (s_set (ps_set (i := 7) sc__law_parts_right.nd rfl (by first | exact .inl rfl | exact .inr rfl) (d_op op_addD (d_op op_addD (d_slice (x_var (pv 2)) d_pnone (d_psome (x_var (pv 3)))) (d_lst (d_acons (x_var (pv 6)) d_anil)) ) (d_slice (x_var (pv 2)) (d_psome (d_op op_addD (x_var (pv 3)) x_int )) d_pnone) ))) (ss_cons (s_set (ps_set (i := 8) sc__law_parts_right.nd rfl (by first | exact .inl rfl | exact .inr rfl) (d_call (ok_rooms_seen T) (hr.mono (by decide)) hgd (by rfl) T.g_rooms_seen T.F_rooms_seen.kp T.b_rooms_seen pass0 (d_acons (x_var (pv 0)) (d_acons (x_var (pv 1)) (d_acons (x_var (pv 7)) d_anil)))))) (ss_cons (s_set (ps_set (i := 9) sc__law_parts_right.nd rfl (by first | exact .inl rfl | exact .inr rfl) (d_call (ok_first_wrong T) (hr.mono (by decide)) hgd (by rfl) T.g_first_wrong T.F_first_wrong.kp T.b_first_wrong pass0 (d_acons (x_var (pv 0)) (d_acons (x_var (pv 1)) (d_acons (x_var (pv 7)) d_anil)))))) (ss_cons (s_if (PW.pt (dw_or (dt_cmp bo_dNe (op_neDD (hu64 hr)) (d_cmp (op_eqDD (hu64 hr)) (x_var (pv 8)) (d_lst d_anil) (nomark _)) (d_cmp op_isNotD (x_var (pv 9)) x_non (nomark _)) (nomark _)) (tw_or1 (PW.pt (dw_and (dt_cmp bo_dEq (op_eqDD (hu64 hr)) (x_var (pv 8)) (d_lst d_anil) (nomark _)) (tw_and1 (dt_cmp bo_dNe (op_neDD (hu64 hr)) (d_call (ok_ends_seen T) (hr.mono (by decide)) hgd (by rfl) T.g_ends_seen T.F_ends_seen.kp T.b_ends_seen pass0 (d_acons (x_var (pv 0)) (d_acons (x_var (pv 1)) (d_acons (x_var (pv 7)) d_anil)))) (d_lst d_anil) (nomark _)))))))) (ss_one (s_ret x_bl)) ss_nil) (ss_cons (s_if (PW.pt (dw_and (dt_cmp bo_dIsNot op_isNotD (x_var (pv 9)) x_non (nomark _)) (tw_and1 (dt_not (dt_chain bo_dLt op_leD (op_ltD (hu0 hr)) (x_var (pv 3)) (x_var (pv 9)) (d_callB b_len (by rfl) T.z_len (by decide +kernel) (d_acons (x_var (pv 1)) d_anil))))))) (ss_one (s_ret x_bl)) ss_nil) (ss_one (s_set (ps_set (i := 5) sc__law_parts_right.nd rfl (by first | exact .inl rfl | exact .inr rfl) (d_op op_addD (x_var (pv 5)) (x_var (pv 8)) ))))))))))) (ss_one (s_ret (d_cmp (op_eqDD (hu64 hr)) (d_callB (b_sorted (hu100 hr) hr.hd) (by rfl) T.z_sorted (by decide +kernel) (d_acons (x_var (pv 5)) d_anil)) (x_var (pv 4)) (nomark _))))))
theorem ok__law_right (T : Txt K mg A FD) : FnG P w K mg base CX0 9 (A 33) (FD 33) ["_law_box_here"] (spF K ex0 F__law_right) :=
  FnG.mk0 T.F__law_right sc__law_right rfl rfl fun _ _ _ _ _ _ hr hgd => (ss_cons (s_set (ps_set (i := 1) sc__law_right.nd rfl (by first | exact .inl rfl | exact .inr rfl) (x_op op_addD x_int (d_cbox (ok__law_take T) (hr.mono (by decide)) hgd (by rfl) T.g__law_take T.F__law_take.kp T.b__law_take pass0 (pv 0) (d_acons x_int d_anil)) ))) (ss_cons (s_asg (ps_asg (x_tup (x_acons (d_cbox (ok__law_tour T) (hr.mono (by decide)) hgd (by rfl) T.g__law_tour T.F__law_tour.kp T.b__law_tour pass0 (pv 0) (d_acons (x_var (pv 1)) (d_acons x_int d_anil))) (x_acons (d_cbox (ok__law_any_crowd T) (hr.mono (by decide)) hgd (by rfl) T.g__law_any_crowd T.F__law_any_crowd.kp T.b__law_any_crowd pass0 (pv 0) (d_acons (x_var (pv 1)) d_anil)) x_anil))) (g_tup rfl (gs_cons (g_name (pg_name (i := 2) sc__law_right.nd rfl (by first | exact .inl rfl | exact .inr rfl))) (gs_cons (g_name (pg_name (i := 3) sc__law_right.nd rfl (by first | exact .inl rfl | exact .inr rfl))) gs_nil)) rfl (pg_tup rfl (gs_cons (g_name (pg_name (i := 2) sc__law_right.nd rfl (by first | exact .inl rfl | exact .inr rfl))) (gs_cons (g_name (pg_name (i := 3) sc__law_right.nd rfl (by first | exact .inl rfl | exact .inr rfl))) gs_nil)))))) (ss_cons (s_asg (ps_asg (d_tup (d_acons (d_call (ok_chains_of T) (hr.mono (by decide)) hgd (by rfl) T.g_chains_of T.F_chains_of.kp T.b_chains_of pass0 (d_acons (x_var (pv 2)) d_anil)) (d_acons (d_call (ok__law_rooms T) (hr.mono (by decide)) hgd (by rfl) T.g__law_rooms T.F__law_rooms.kp T.b__law_rooms pass0 (d_acons (x_var (pv 1)) d_anil)) (d_acons (d_call (ok__law_told T) (hr.mono (by decide)) hgd (by rfl) T.g__law_told T.F__law_told.kp T.b__law_told pass0 (d_acons (x_var (pv 1)) (d_acons (x_var (pv 3)) (d_acons (x_var (pv 2)) d_anil)))) d_anil)))) (g_tup rfl (gs_cons (g_name (pg_name (i := 4) sc__law_right.nd rfl (by first | exact .inl rfl | exact .inr rfl))) (gs_cons (g_name (pg_name (i := 5) sc__law_right.nd rfl (by first | exact .inl rfl | exact .inr rfl))) (gs_cons (g_name (pg_name (i := 6) sc__law_right.nd rfl (by first | exact .inl rfl | exact .inr rfl))) gs_nil))) rfl (pg_tup rfl (gs_cons (g_name (pg_name (i := 4) sc__law_right.nd rfl (by first | exact .inl rfl | exact .inr rfl))) (gs_cons (g_name (pg_name (i := 5) sc__law_right.nd rfl (by first | exact .inl rfl | exact .inr rfl))) (gs_cons (g_name (pg_name (i := 6) sc__law_right.nd rfl (by first | exact .inl rfl | exact .inr rfl))) gs_nil))))))) (ss_cons (s_set (ps_set (i := 7) sc__law_right.nd rfl (by first | exact .inl rfl | exact .inr rfl) (d_cbox (ok__law_veiled T) (hr.mono (by decide)) hgd (by rfl) T.g__law_veiled T.F__law_veiled.kp T.b__law_veiled pass0 (pv 0) (d_acons (x_var (pv 6)) d_anil)))) (ss_cons (s_set (ps_set (i := 8) sc__law_right.nd rfl (by first | exact .inl rfl | exact .inr rfl) (d_call (ok_rooms_seen T) (hr.mono (by decide)) hgd (by rfl) T.g_rooms_seen T.F_rooms_seen.kp T.b_rooms_seen pass0 (d_acons (x_var (pv 1)) (d_acons (x_var (pv 2)) (d_acons (x_var (pv 7)) d_anil)))))) (ss_cons (s_if (PW.pt (dw_or (dt_cmp bo_dNotIn (op_notInDD (hu65 hr)) (x_var (pv 3)) (x_var (pv 8)) (by rfl)) (dw_or (dt_cmp bo_dIsNotB op_isNotB (d_call (ok_is_seen T) (hr.mono (by decide)) hgd (by rfl) T.g_is_seen T.F_is_seen.kp T.b_is_seen pass0 (d_acons (x_var (pv 1)) (d_acons (x_var (pv 2)) (d_acons (x_var (pv 7)) d_anil)))) x_bl (nomark _)) (tw_or1 (dt_cmp bo_dIsNot op_isNotD (d_call (ok_first_wrong T) (hr.mono (by decide)) hgd (by rfl) T.g_first_wrong T.F_first_wrong.kp T.b_first_wrong pass0 (d_acons (x_var (pv 1)) (d_acons (x_var (pv 2)) (d_acons (x_var (pv 7)) d_anil)))) x_non (nomark _)))))) (ss_one (s_ret x_bl)) ss_nil) (ss_cons (s_set (ps_set (i := 9) sc__law_right.nd rfl (by first | exact .inl rfl | exact .inr rfl) (d_sortSetR rfl (hu100 hr) (by rfl) T.z_sorted (by rfl) T.z_set (d_lc (pe_lc (own := [("_law_some", 13)]) rfl sc__law_right.nd (di_seq (x_var (pv 8))) (blkOk_by (show blkC N__law_right (defScope st__law_right) _ [("_law_some", 13)] = true by decide +kernel)) (fun _ _ _ _ _ => (g_name (pg_name (i := 13) sc__law_right.nd rfl (by first | exact .inl rfl | exact .inr rfl)))) (fun _ _ _ _ _ => dts_nil) (fun _ _ _ _ _ => (d_call (ok_result T) (hr.mono (by decide)) hgd (by rfl) T.g_result T.F_result.kp T.b_result pass0 (d_acons (x_var (pv 4)) (d_acons (x_var (pv 13)) d_anil))))))))) (ss_cons (s_if (PW.pt (dw_or (dt_cmp bo_dNe (op_neDD (hu64 hr)) (d_call (ok_ends_seen T) (hr.mono (by decide)) hgd (by rfl) T.g_ends_seen T.F_ends_seen.kp T.b_ends_seen pass0 (d_acons (x_var (pv 1)) (d_acons (x_var (pv 2)) (d_acons (x_var (pv 7)) d_anil)))) (x_var (pv 9)) (nomark _)) (tw_or1 (dt_cmp bo_dNotIn (op_notInDD (hu65 hr)) (d_call (ok_room_after T) (hr.mono (by decide)) hgd (by rfl) T.g_room_after T.F_room_after.kp T.b_room_after pass0 (d_acons (x_var (pv 3)) (d_acons (x_var (pv 2)) d_anil))) (x_var (pv 9)) (by rfl))))) (ss_one (s_ret x_bl)) ss_nil) (ss_cons (s_set (ps_set (i := 10) sc__law_right.nd rfl (by first | exact .inl rfl | exact .inr rfl) (d_op op_mulD (d_lst (d_acons x_str d_anil)) (d_callB b_len (by rfl) T.z_len (by decide +kernel) (d_acons (x_var (pv 2)) d_anil)) ))) (ss_cons (s_if (PW.pt (dw_or (dt_cmp bo_dNe (op_neDD (hu64 hr)) (d_call (ok_rooms_seen T) (hr.mono (by decide)) hgd (by rfl) T.g_rooms_seen T.F_rooms_seen.kp T.b_rooms_seen pass0 (d_acons (x_var (pv 1)) (d_acons (x_var (pv 2)) (d_acons (x_var (pv 10)) d_anil)))) (x_var (pv 5)) (nomark _)) (tw_or1 (dt_cmp bo_dNe (op_neDD (hu64 hr)) (d_call (ok_ends_seen T) (hr.mono (by decide)) hgd (by rfl) T.g_ends_seen T.F_ends_seen.kp T.b_ends_seen pass0 (d_acons (x_var (pv 1)) (d_acons (x_var (pv 2)) (d_acons (x_var (pv 10)) d_anil)))) (d_call (ok_results_of T) (hr.mono (by decide)) hgd (by rfl) T.g_results_of T.F_results_of.kp T.b_results_of pass0 (d_acons (x_var (pv 1)) (d_acons (x_var (pv 4)) d_anil))) (nomark _))))) (ss_one (s_ret x_bl)) ss_nil) (ss_cons (s_set (ps_set (i := 11) sc__law_right.nd rfl (by first | exact .inl rfl | exact .inr rfl) (d_call (ok_rooms_seen T) (hr.mono (by decide)) hgd (by rfl) T.g_rooms_seen T.F_rooms_seen.kp T.b_rooms_seen pass0 (d_acons (x_var (pv 1)) (d_acons (x_var (pv 2)) (d_acons (x_var (pv 6)) d_anil)))))) (ss_cons (s_if (dt_cmp bo_dNe (op_neDD (hu64 hr)) (x_var (pv 11)) (d_lc (pe_lc (own := [("_law_some", 13)]) rfl sc__law_right.nd (di_seq (x_var (pv 5))) (blkOk_by (show blkC N__law_right (defScope st__law_right) _ [("_law_some", 13)] = true by decide +kernel)) (fun _ _ _ _ _ => (g_name (pg_name (i := 13) sc__law_right.nd rfl (by first | exact .inl rfl | exact .inr rfl)))) (fun _ _ _ _ _ => (ts_one (dt_cmp bo_dEq (op_eqDD (hu64 hr)) (d_call (ok__law_told T) (hr.mono (by decide)) hgd (by rfl) T.g__law_told T.F__law_told.kp T.b__law_told pass0 (d_acons (x_var (pv 1)) (d_acons (x_var (pv 13)) (d_acons (x_var (pv 2)) d_anil)))) (x_var (pv 6)) (nomark _)))) (fun _ _ _ _ _ => (x_var (pv 13))))) (nomark _)) (ss_one (s_ret x_bl)) ss_nil) (ss_cons (s_if (dt_not (t_val (d_callB (b_all rfl) (by rfl) T.z_all (by decide +kernel) (d_acons (d_lc (pe_lc (own := [("_law_some", 13)]) rfl sc__law_right.nd (di_seq (x_var (pv 11))) (blkOk_by (show blkC N__law_right (defScope st__law_right) _ [("_law_some", 13)] = true by decide +kernel)) (fun _ _ _ _ _ => (g_name (pg_name (i := 13) sc__law_right.nd rfl (by first | exact .inl rfl | exact .inr rfl)))) (fun _ _ _ _ _ => dts_nil) (fun _ _ _ _ _ => (d_cmp (op_inDD (hu65 hr)) (x_var (pv 13)) (x_var (pv 8)) (by rfl))))) d_anil)))) (ss_one (s_ret x_bl)) ss_nil) (ss_cons (ds_setLc (ps_setLc (i := 12) (own := [("_law_at", 14), ("_law_entry", 15)]) rfl sc__law_right.nd rfl rfl (sw_true rfl rfl rfl (by decide +kernel)) (di_enumA (pi_enumA (by rfl) T.z_enumerate (d_acons (x_var (pv 7)) d_anil))) (blkOk_by (show blkC N__law_right (defScope st__law_right) _ [("_law_at", 14), ("_law_entry", 15)] = true by decide +kernel)) (fun _ _ _ _ _ => (g_tup rfl (gs_cons (g_name (pg_name (i := 14) sc__law_right.nd rfl (by first | exact .inl rfl | exact .inr rfl))) (gs_cons (g_name (pg_name (i := 15) sc__law_right.nd rfl (by first | exact .inl rfl | exact .inr rfl))) gs_nil)) rfl (pg_tup rfl (gs_cons (g_name (pg_name (i := 14) sc__law_right.nd rfl (by first | exact .inl rfl | exact .inr rfl))) (gs_cons (g_name (pg_name (i := 15) sc__law_right.nd rfl (by first | exact .inl rfl | exact .inr rfl))) gs_nil))))) (fun _ _ _ _ _ => (ts_one (dt_cmp bo_dEq (op_eqDD (hu64 hr)) (x_var (pv 15)) x_str (nomark _)))) (fun _ _ _ _ _ => (x_var (pv 14))))) (ss_cons (s_if (dt_cmp bo_dEq (op_eqDD (hu64 hr)) (x_var (pv 12)) (d_lst d_anil) (nomark _)) (ss_one (s_ret x_bl)) ss_nil) (ss_one (s_ret (x_call (ok__law_parts_right T) (hr.mono (by decide)) hgd (by rfl) T.g__law_parts_right T.F__law_parts_right.kp T.b__law_parts_right pass0 (x_acons (x_var (pv 1)) (x_acons (x_var (pv 2)) (x_acons (x_var (pv 7)) (x_acons (d_cbox (ok__law_of T) (hr.mono (by decide)) hgd (by rfl) T.g__law_of T.F__law_of.kp T.b__law_of pass0 (pv 0) (d_acons (x_var (pv 12)) d_anil)) (x_acons (x_var (pv 8)) x_anil)))))))))))))))))))))))
theorem ok_law (T : Txt K mg A FD) : FnG P w K mg base CX0 10 (A 34) (FD 34) ["_law_script"] (spF K ex0 F_law) :=
  FnG.mk0 T.F_law sc_law rfl rfl fun _ _ _ _ _ _ hr hgd => (ss_cons (s_set (ps_set (i := 1) sc_law.nd rfl (by first | exact .inl rfl | exact .inr rfl) (d_cext (ok__law_cells T) (hr.mono (by decide)) hgd (by rfl) T.g__law_cells T.F__law_cells.kp T.b__law_cells pass0 (pv 0) (d_acons x_int d_anil)))) (ss_one (s_ret (x_callB (b_all rfl) (by rfl) T.z_all (by decide +kernel) (x_acons (x_lc (pe_lc (own := [("_law_k", 2)]) rfl sc_law.nd (di_range1 (pi_range1 (by rfl) T.z_range (d_acons (d_callB b_len (by rfl) T.z_len (by decide +kernel) (d_acons (x_var (pv 1)) d_anil)) d_anil))) (blkOk_by (show blkC N_law (defScope st_law) _ [("_law_k", 2)] = true by decide +kernel)) (fun _ _ _ _ _ => (g_name (pg_name (i := 2) sc_law.nd rfl (by first | exact .inl rfl | exact .inr rfl)))) (fun _ _ _ _ _ => dts_nil) (fun _ _ _ _ _ => (x_cboxO (ok__law_right T) (hr.mono (by decide)) hgd (by rfl) T.g__law_right T.F__law_right.kp T.b__law_right pass0 (d_callO (ok__law_box T) (hr.mono (by decide)) hgd (by rfl) T.g__law_box T.F__law_box.kp T.b__law_box pass0 (d_acons (x_var (pv 1)) (d_acons (x_var (pv 2)) d_anil))))))) x_anil)))))
end
theorem all_mk {l : PySem.W.OpenLaw} {w : World} {K : KF} {h : Heap} {mg : Str → Option Value} {fa : Addr} (X : K.In h) (G : h.Ns mainGlobals mg) (hfa : mg "law" = some (.ref fa))
    {f0 f1 f2 f3 f4 f5 f6 f7 f8 f9 f10 f11 f12 f13 f14 f15 f16 f17 f18 f19 f20 f21 f22 f23 f24 f25 f26 f27 f28 f29 f30 f31 f32 f33 f34 : Addr} {od0 an0 od1 an1 od2 an2 od3 an3 od4 an4 od5 an5 od6 an6 od7 an7 od8 an8 od9 an9 od10 an10 od11 an11 od12 an12 od13 an13 od14 an14 od15 an15 od16 an16 od17 an17 od18 an18 od19 an19 od20 an20 od21 an21 od22 an22 od23 an23 od24 an24 od25 an25 od26 an26 od27 an27 od28 an28 od29 an29 od30 an30 od31 an31 od32 an32 od33 an33 od34 an34 : Option Addr} {sl0 sl1 sl2 sl3 sl4 sl5 sl6 sl7 sl8 sl9 sl10 sl11 sl12 sl13 sl14 sl15 sl16 sl17 sl18 sl19 sl20 sl21 sl22 sl23 sl24 sl25 sl26 sl27 sl28 sl29 sl30 sl31 sl32 sl33 sl34 : Array (Option Value)}
    {oc0 kV0 dc0 pm0 cd0 ct0 oc1 kV1 dc1 pm1 cd1 ct1 oc2 kV2 dc2 pm2 cd2 ct2 oc3 kV3 dc3 pm3 cd3 ct3 oc4 kV4 dc4 pm4 cd4 ct4 oc5 kV5 dc5 pm5 cd5 ct5 oc6 kV6 dc6 pm6 cd6 ct6 oc7 kV7 dc7 pm7 cd7 ct7 oc8 kV8 dc8 pm8 cd8 ct8 oc9 kV9 dc9 pm9 cd9 ct9 oc10 kV10 dc10 pm10 cd10 ct10 oc11 kV11 dc11 pm11 cd11 ct11 oc12 kV12 dc12 pm12 cd12 ct12 oc13 kV13 dc13 pm13 cd13 ct13 oc14 kV14 dc14 pm14 cd14 ct14 oc15 kV15 dc15 pm15 cd15 ct15 oc16 kV16 dc16 pm16 cd16 ct16 oc17 kV17 dc17 pm17 cd17 ct17 oc18 kV18 dc18 pm18 cd18 ct18 oc19 kV19 dc19 pm19 cd19 ct19 oc20 kV20 dc20 pm20 cd20 ct20 oc21 kV21 dc21 pm21 cd21 ct21 oc22 kV22 dc22 pm22 cd22 ct22 oc23 kV23 dc23 pm23 cd23 ct23 oc24 kV24 dc24 pm24 cd24 ct24 oc25 kV25 dc25 pm25 cd25 ct25 oc26 kV26 dc26 pm26 cd26 ct26 oc27 kV27 dc27 pm27 cd27 ct27 oc28 kV28 dc28 pm28 cd28 ct28 oc29 kV29 dc29 pm29 cd29 ct29 oc30 kV30 dc30 pm30 cd30 ct30 oc31 kV31 dc31 pm31 cd31 ct31 oc32 kV32 dc32 pm32 cd32 ct32 oc33 kV33 dc33 pm33 cd33 ct33 oc34 kV34 dc34 pm34 cd34 ct34 : Value}
    (a0 : PySem.W.nsIn K mainGlobals "chains_from_links" = some (some (.ref f0))) (l0 : K.lookup f0 = some ⟨oc0, od0, .func (PySem.W.fnOf "chains_from_links" "chains_from_links" (defArgs st_chains_from_links) (defBody st_chains_from_links) (defScope st_chains_from_links) .none kV0 dc0 pm0 an0 cd0 ct0), sl0⟩) (c0 : PySem.W.codeIn K cd0 "chains_from_links" = true) (k0 : PySem.W.keepIn K (.ref f0) = true)
    (a1 : PySem.W.nsIn K mainGlobals "linked_visit" = some (some (.ref f1))) (l1 : K.lookup f1 = some ⟨oc1, od1, .func (PySem.W.fnOf "linked_visit" "linked_visit" (defArgs st_linked_visit) (defBody st_linked_visit) (defScope st_linked_visit) .none kV1 dc1 pm1 an1 cd1 ct1), sl1⟩) (c1 : PySem.W.codeIn K cd1 "linked_visit" = true) (k1 : PySem.W.keepIn K (.ref f1) = true)
    (a2 : PySem.W.nsIn K mainGlobals "is_integer" = some (some (.ref f2))) (l2 : K.lookup f2 = some ⟨oc2, od2, .func (PySem.W.fnOf "is_integer" "is_integer" (defArgs st_is_integer) (defBody st_is_integer) (defScope st_is_integer) .none kV2 dc2 pm2 an2 cd2 ct2), sl2⟩) (c2 : PySem.W.codeIn K cd2 "is_integer" = true) (k2 : PySem.W.keepIn K (.ref f2) = true)
    (a3 : PySem.W.nsIn K mainGlobals "is_rank" = some (some (.ref f3))) (l3 : K.lookup f3 = some ⟨oc3, od3, .func (PySem.W.fnOf "is_rank" "is_rank" (defArgs st_is_rank) (defBody st_is_rank) (defScope st_is_rank) .none kV3 dc3 pm3 an3 cd3 ct3), sl3⟩) (c3 : PySem.W.codeIn K cd3 "is_rank" = true) (k3 : PySem.W.keepIn K (.ref f3) = true)
    (a4 : PySem.W.nsIn K mainGlobals "leaver" = some (some (.ref f4))) (l4 : K.lookup f4 = some ⟨oc4, od4, .func (PySem.W.fnOf "leaver" "leaver" (defArgs st_leaver) (defBody st_leaver) (defScope st_leaver) .none kV4 dc4 pm4 an4 cd4 ct4), sl4⟩) (c4 : PySem.W.codeIn K cd4 "leaver" = true) (k4 : PySem.W.keepIn K (.ref f4) = true)
    (a5 : PySem.W.nsIn K mainGlobals "entered" = some (some (.ref f5))) (l5 : K.lookup f5 = some ⟨oc5, od5, .func (PySem.W.fnOf "entered" "entered" (defArgs st_entered) (defBody st_entered) (defScope st_entered) .none kV5 dc5 pm5 an5 cd5 ct5), sl5⟩) (c5 : PySem.W.codeIn K cd5 "entered" = true) (k5 : PySem.W.keepIn K (.ref f5) = true)
    (a6 : PySem.W.nsIn K mainGlobals "rooms_along" = some (some (.ref f6))) (l6 : K.lookup f6 = some ⟨oc6, od6, .func (PySem.W.fnOf "rooms_along" "rooms_along" (defArgs st_rooms_along) (defBody st_rooms_along) (defScope st_rooms_along) .none kV6 dc6 pm6 an6 cd6 ct6), sl6⟩) (c6 : PySem.W.codeIn K cd6 "rooms_along" = true) (k6 : PySem.W.keepIn K (.ref f6) = true)
    (a7 : PySem.W.nsIn K mainGlobals "room_after" = some (some (.ref f7))) (l7 : K.lookup f7 = some ⟨oc7, od7, .func (PySem.W.fnOf "room_after" "room_after" (defArgs st_room_after) (defBody st_room_after) (defScope st_room_after) .none kV7 dc7 pm7 an7 cd7 ct7), sl7⟩) (c7 : PySem.W.codeIn K cd7 "room_after" = true) (k7 : PySem.W.keepIn K (.ref f7) = true)
    (a8 : PySem.W.nsIn K mainGlobals "people_up_to" = some (some (.ref f8))) (l8 : K.lookup f8 = some ⟨oc8, od8, .func (PySem.W.fnOf "people_up_to" "people_up_to" (defArgs st_people_up_to) (defBody st_people_up_to) (defScope st_people_up_to) .none kV8 dc8 pm8 an8 cd8 ct8), sl8⟩) (c8 : PySem.W.codeIn K cd8 "people_up_to" = true) (k8 : PySem.W.keepIn K (.ref f8) = true)
    (a9 : PySem.W.nsIn K mainGlobals "departures" = some (some (.ref f9))) (l9 : K.lookup f9 = some ⟨oc9, od9, .func (PySem.W.fnOf "departures" "departures" (defArgs st_departures) (defBody st_departures) (defScope st_departures) .none kV9 dc9 pm9 an9 cd9 ct9), sl9⟩) (c9 : PySem.W.codeIn K cd9 "departures" = true) (k9 : PySem.W.keepIn K (.ref f9) = true)
    (a10 : PySem.W.nsIn K mainGlobals "chains_of" = some (some (.ref f10))) (l10 : K.lookup f10 = some ⟨oc10, od10, .func (PySem.W.fnOf "chains_of" "chains_of" (defArgs st_chains_of) (defBody st_chains_of) (defScope st_chains_of) .none kV10 dc10 pm10 an10 cd10 ct10), sl10⟩) (c10 : PySem.W.codeIn K cd10 "chains_of" = true) (k10 : PySem.W.keepIn K (.ref f10) = true)
    (a11 : PySem.W.nsIn K mainGlobals "meeting" = some (some (.ref f11))) (l11 : K.lookup f11 = some ⟨oc11, od11, .func (PySem.W.fnOf "meeting" "meeting" (defArgs st_meeting) (defBody st_meeting) (defScope st_meeting) .none kV11 dc11 pm11 an11 cd11 ct11), sl11⟩) (c11 : PySem.W.codeIn K cd11 "meeting" = true) (k11 : PySem.W.keepIn K (.ref f11) = true)
    (a12 : PySem.W.nsIn K mainGlobals "ranks_in" = some (some (.ref f12))) (l12 : K.lookup f12 = some ⟨oc12, od12, .func (PySem.W.fnOf "ranks_in" "ranks_in" (defArgs st_ranks_in) (defBody st_ranks_in) (defScope st_ranks_in) .none kV12 dc12 pm12 an12 cd12 ct12), sl12⟩) (c12 : PySem.W.codeIn K cd12 "ranks_in" = true) (k12 : PySem.W.keepIn K (.ref f12) = true)
    (a13 : PySem.W.nsIn K mainGlobals "result" = some (some (.ref f13))) (l13 : K.lookup f13 = some ⟨oc13, od13, .func (PySem.W.fnOf "result" "result" (defArgs st_result) (defBody st_result) (defScope st_result) .none kV13 dc13 pm13 an13 cd13 ct13), sl13⟩) (c13 : PySem.W.codeIn K cd13 "result" = true) (k13 : PySem.W.keepIn K (.ref f13) = true)
    (a14 : PySem.W.nsIn K mainGlobals "all_rooms" = some (some (.ref f14))) (l14 : K.lookup f14 = some ⟨oc14, od14, .func (PySem.W.fnOf "all_rooms" "all_rooms" (defArgs st_all_rooms) (defBody st_all_rooms) (defScope st_all_rooms) .none kV14 dc14 pm14 an14 cd14 ct14), sl14⟩) (c14 : PySem.W.codeIn K cd14 "all_rooms" = true) (k14 : PySem.W.keepIn K (.ref f14) = true)
    (a15 : PySem.W.nsIn K mainGlobals "heaps" = some (some (.ref f15))) (l15 : K.lookup f15 = some ⟨oc15, od15, .func (PySem.W.fnOf "heaps" "heaps" (defArgs st_heaps) (defBody st_heaps) (defScope st_heaps) .none kV15 dc15 pm15 an15 cd15 ct15), sl15⟩) (c15 : PySem.W.codeIn K cd15 "heaps" = true) (k15 : PySem.W.keepIn K (.ref f15) = true)
    (a16 : PySem.W.nsIn K mainGlobals "results_of" = some (some (.ref f16))) (l16 : K.lookup f16 = some ⟨oc16, od16, .func (PySem.W.fnOf "results_of" "results_of" (defArgs st_results_of) (defBody st_results_of) (defScope st_results_of) .none kV16 dc16 pm16 an16 cd16 ct16), sl16⟩) (c16 : PySem.W.codeIn K cd16 "results_of" = true) (k16 : PySem.W.keepIn K (.ref f16) = true)
    (a17 : PySem.W.nsIn K mainGlobals "is_entry" = some (some (.ref f17))) (l17 : K.lookup f17 = some ⟨oc17, od17, .func (PySem.W.fnOf "is_entry" "is_entry" (defArgs st_is_entry) (defBody st_is_entry) (defScope st_is_entry) .none kV17 dc17 pm17 an17 cd17 ct17), sl17⟩) (c17 : PySem.W.codeIn K cd17 "is_entry" = true) (k17 : PySem.W.keepIn K (.ref f17) = true)
    (a18 : PySem.W.nsIn K mainGlobals "is_seen" = some (some (.ref f18))) (l18 : K.lookup f18 = some ⟨oc18, od18, .func (PySem.W.fnOf "is_seen" "is_seen" (defArgs st_is_seen) (defBody st_is_seen) (defScope st_is_seen) .none kV18 dc18 pm18 an18 cd18 ct18), sl18⟩) (c18 : PySem.W.codeIn K cd18 "is_seen" = true) (k18 : PySem.W.keepIn K (.ref f18) = true)
    (a19 : PySem.W.nsIn K mainGlobals "fits" = some (some (.ref f19))) (l19 : K.lookup f19 = some ⟨oc19, od19, .func (PySem.W.fnOf "fits" "fits" (defArgs st_fits) (defBody st_fits) (defScope st_fits) .none kV19 dc19 pm19 an19 cd19 ct19), sl19⟩) (c19 : PySem.W.codeIn K cd19 "fits" = true) (k19 : PySem.W.keepIn K (.ref f19) = true)
    (a20 : PySem.W.nsIn K mainGlobals "rooms_seen" = some (some (.ref f20))) (l20 : K.lookup f20 = some ⟨oc20, od20, .func (PySem.W.fnOf "rooms_seen" "rooms_seen" (defArgs st_rooms_seen) (defBody st_rooms_seen) (defScope st_rooms_seen) .none kV20 dc20 pm20 an20 cd20 ct20), sl20⟩) (c20 : PySem.W.codeIn K cd20 "rooms_seen" = true) (k20 : PySem.W.keepIn K (.ref f20) = true)
    (a21 : PySem.W.nsIn K mainGlobals "ends_seen" = some (some (.ref f21))) (l21 : K.lookup f21 = some ⟨oc21, od21, .func (PySem.W.fnOf "ends_seen" "ends_seen" (defArgs st_ends_seen) (defBody st_ends_seen) (defScope st_ends_seen) .none kV21 dc21 pm21 an21 cd21 ct21), sl21⟩) (c21 : PySem.W.codeIn K cd21 "ends_seen" = true) (k21 : PySem.W.keepIn K (.ref f21) = true)
    (a22 : PySem.W.nsIn K mainGlobals "first_wrong" = some (some (.ref f22))) (l22 : K.lookup f22 = some ⟨oc22, od22, .func (PySem.W.fnOf "first_wrong" "first_wrong" (defArgs st_first_wrong) (defBody st_first_wrong) (defScope st_first_wrong) .none kV22 dc22 pm22 an22 cd22 ct22), sl22⟩) (c22 : PySem.W.codeIn K cd22 "first_wrong" = true) (k22 : PySem.W.keepIn K (.ref f22) = true)
    (a23 : PySem.W.nsIn K mainGlobals "_law_box" = some (some (.ref f23))) (l23 : K.lookup f23 = some ⟨oc23, od23, .func (PySem.W.fnOf "_law_box" "_law_box" (defArgs st__law_box) (defBody st__law_box) (defScope st__law_box) .none kV23 dc23 pm23 an23 cd23 ct23), sl23⟩) (c23 : PySem.W.codeIn K cd23 "_law_box" = true) (k23 : PySem.W.keepIn K (.ref f23) = true)
    (a24 : PySem.W.nsIn K mainGlobals "_law_take" = some (some (.ref f24))) (l24 : K.lookup f24 = some ⟨oc24, od24, .func (PySem.W.fnOf "_law_take" "_law_take" (defArgs st__law_take) (defBody st__law_take) (defScope st__law_take) .none kV24 dc24 pm24 an24 cd24 ct24), sl24⟩) (c24 : PySem.W.codeIn K cd24 "_law_take" = true) (k24 : PySem.W.keepIn K (.ref f24) = true)
    (a25 : PySem.W.nsIn K mainGlobals "_law_cells" = some (some (.ref f25))) (l25 : K.lookup f25 = some ⟨oc25, od25, .func (PySem.W.fnOf "_law_cells" "_law_cells" (defArgs st__law_cells) (defBody st__law_cells) (defScope st__law_cells) .none kV25 dc25 pm25 an25 cd25 ct25), sl25⟩) (c25 : PySem.W.codeIn K cd25 "_law_cells" = true) (k25 : PySem.W.keepIn K (.ref f25) = true)
    (a26 : PySem.W.nsIn K mainGlobals "_law_of" = some (some (.ref f26))) (l26 : K.lookup f26 = some ⟨oc26, od26, .func (PySem.W.fnOf "_law_of" "_law_of" (defArgs st__law_of) (defBody st__law_of) (defScope st__law_of) .none kV26 dc26 pm26 an26 cd26 ct26), sl26⟩) (c26 : PySem.W.codeIn K cd26 "_law_of" = true) (k26 : PySem.W.keepIn K (.ref f26) = true)
    (a27 : PySem.W.nsIn K mainGlobals "_law_tour" = some (some (.ref f27))) (l27 : K.lookup f27 = some ⟨oc27, od27, .func (PySem.W.fnOf "_law_tour" "_law_tour" (defArgs st__law_tour) (defBody st__law_tour) (defScope st__law_tour) .none kV27 dc27 pm27 an27 cd27 ct27), sl27⟩) (c27 : PySem.W.codeIn K cd27 "_law_tour" = true) (k27 : PySem.W.keepIn K (.ref f27) = true)
    (a28 : PySem.W.nsIn K mainGlobals "_law_rooms" = some (some (.ref f28))) (l28 : K.lookup f28 = some ⟨oc28, od28, .func (PySem.W.fnOf "_law_rooms" "_law_rooms" (defArgs st__law_rooms) (defBody st__law_rooms) (defScope st__law_rooms) .none kV28 dc28 pm28 an28 cd28 ct28), sl28⟩) (c28 : PySem.W.codeIn K cd28 "_law_rooms" = true) (k28 : PySem.W.keepIn K (.ref f28) = true)
    (a29 : PySem.W.nsIn K mainGlobals "_law_any_crowd" = some (some (.ref f29))) (l29 : K.lookup f29 = some ⟨oc29, od29, .func (PySem.W.fnOf "_law_any_crowd" "_law_any_crowd" (defArgs st__law_any_crowd) (defBody st__law_any_crowd) (defScope st__law_any_crowd) .none kV29 dc29 pm29 an29 cd29 ct29), sl29⟩) (c29 : PySem.W.codeIn K cd29 "_law_any_crowd" = true) (k29 : PySem.W.keepIn K (.ref f29) = true)
    (a30 : PySem.W.nsIn K mainGlobals "_law_veiled" = some (some (.ref f30))) (l30 : K.lookup f30 = some ⟨oc30, od30, .func (PySem.W.fnOf "_law_veiled" "_law_veiled" (defArgs st__law_veiled) (defBody st__law_veiled) (defScope st__law_veiled) .none kV30 dc30 pm30 an30 cd30 ct30), sl30⟩) (c30 : PySem.W.codeIn K cd30 "_law_veiled" = true) (k30 : PySem.W.keepIn K (.ref f30) = true)
    (a31 : PySem.W.nsIn K mainGlobals "_law_told" = some (some (.ref f31))) (l31 : K.lookup f31 = some ⟨oc31, od31, .func (PySem.W.fnOf "_law_told" "_law_told" (defArgs st__law_told) (defBody st__law_told) (defScope st__law_told) .none kV31 dc31 pm31 an31 cd31 ct31), sl31⟩) (c31 : PySem.W.codeIn K cd31 "_law_told" = true) (k31 : PySem.W.keepIn K (.ref f31) = true)
    (a32 : PySem.W.nsIn K mainGlobals "_law_parts_right" = some (some (.ref f32))) (l32 : K.lookup f32 = some ⟨oc32, od32, .func (PySem.W.fnOf "_law_parts_right" "_law_parts_right" (defArgs st__law_parts_right) (defBody st__law_parts_right) (defScope st__law_parts_right) .none kV32 dc32 pm32 an32 cd32 ct32), sl32⟩) (c32 : PySem.W.codeIn K cd32 "_law_parts_right" = true) (k32 : PySem.W.keepIn K (.ref f32) = true)
    (a33 : PySem.W.nsIn K mainGlobals "_law_right" = some (some (.ref f33))) (l33 : K.lookup f33 = some ⟨oc33, od33, .func (PySem.W.fnOf "_law_right" "_law_right" (defArgs st__law_right) (defBody st__law_right) (defScope st__law_right) .none kV33 dc33 pm33 an33 cd33 ct33), sl33⟩) (c33 : PySem.W.codeIn K cd33 "_law_right" = true) (k33 : PySem.W.keepIn K (.ref f33) = true)
    (a34 : PySem.W.nsIn K mainGlobals "law" = some (some (.ref f34))) (l34 : K.lookup f34 = some ⟨oc34, od34, .func (PySem.W.fnOf "law" "law" (defArgs st_law) (defBody st_law) (defScope st_law) .none kV34 dc34 pm34 an34 cd34 ct34), sl34⟩) (c34 : PySem.W.codeIn K cd34 "law" = true) (k34 : PySem.W.keepIn K (.ref f34) = true)
    (z_abs : PySem.W.nsIn K mainGlobals "abs" = some none)
    (z_all : PySem.W.nsIn K mainGlobals "all" = some none)
    (z_any : PySem.W.nsIn K mainGlobals "any" = some none)
    (z_bool : PySem.W.nsIn K mainGlobals "bool" = some none)
    (z_dict : PySem.W.nsIn K mainGlobals "dict" = some none)
    (z_enumerate : PySem.W.nsIn K mainGlobals "enumerate" = some none)
    (z_int : PySem.W.nsIn K mainGlobals "int" = some none)
    (z_isinstance : PySem.W.nsIn K mainGlobals "isinstance" = some none)
    (z_len : PySem.W.nsIn K mainGlobals "len" = some none)
    (z_list : PySem.W.nsIn K mainGlobals "list" = some none)
    (z_max : PySem.W.nsIn K mainGlobals "max" = some none)
    (z_range : PySem.W.nsIn K mainGlobals "range" = some none)
    (z_set : PySem.W.nsIn K mainGlobals "set" = some none)
    (z_sorted : PySem.W.nsIn K mainGlobals "sorted" = some none)
    (z_str : PySem.W.nsIn K mainGlobals "str" = some none)
    (z_tuple : PySem.W.nsIn K mainGlobals "tuple" = some none)
    {tk_UNSEEN : Tok} (y_UNSEEN : PySem.W.nsIn K mainGlobals "UNSEEN" = some (some (.str (PySem.Str.ofString "?") tk_UNSEEN)))
    : ∃ fd : FuncData, (∀ (s : Shared) (v : Value), BindsTo s fd ⟨[v], []⟩ [("_law_script", v)]) ∧ ∀ base : Heap, K.In base → base.Ns mainGlobals mg → FnG l.prog w K mg base CX0 10 fa fd ["_law_script"] (spF K ex0 F_law) := by
  have e := hfa.symm.trans (PySem.W.mg_of X G a34)
  have ef : f34 = fa := by cases e; rfl
  subst ef
  let FD : Nat → FuncData := fun i => match i with
    | 0 => PySem.W.fnOf "chains_from_links" "chains_from_links" (defArgs st_chains_from_links) (defBody st_chains_from_links) (defScope st_chains_from_links) .none kV0 dc0 pm0 an0 cd0 ct0
    | 1 => PySem.W.fnOf "linked_visit" "linked_visit" (defArgs st_linked_visit) (defBody st_linked_visit) (defScope st_linked_visit) .none kV1 dc1 pm1 an1 cd1 ct1
    | 2 => PySem.W.fnOf "is_integer" "is_integer" (defArgs st_is_integer) (defBody st_is_integer) (defScope st_is_integer) .none kV2 dc2 pm2 an2 cd2 ct2
    | 3 => PySem.W.fnOf "is_rank" "is_rank" (defArgs st_is_rank) (defBody st_is_rank) (defScope st_is_rank) .none kV3 dc3 pm3 an3 cd3 ct3
    | 4 => PySem.W.fnOf "leaver" "leaver" (defArgs st_leaver) (defBody st_leaver) (defScope st_leaver) .none kV4 dc4 pm4 an4 cd4 ct4
    | 5 => PySem.W.fnOf "entered" "entered" (defArgs st_entered) (defBody st_entered) (defScope st_entered) .none kV5 dc5 pm5 an5 cd5 ct5
    | 6 => PySem.W.fnOf "rooms_along" "rooms_along" (defArgs st_rooms_along) (defBody st_rooms_along) (defScope st_rooms_along) .none kV6 dc6 pm6 an6 cd6 ct6
    | 7 => PySem.W.fnOf "room_after" "room_after" (defArgs st_room_after) (defBody st_room_after) (defScope st_room_after) .none kV7 dc7 pm7 an7 cd7 ct7
    | 8 => PySem.W.fnOf "people_up_to" "people_up_to" (defArgs st_people_up_to) (defBody st_people_up_to) (defScope st_people_up_to) .none kV8 dc8 pm8 an8 cd8 ct8
    | 9 => PySem.W.fnOf "departures" "departures" (defArgs st_departures) (defBody st_departures) (defScope st_departures) .none kV9 dc9 pm9 an9 cd9 ct9
    | 10 => PySem.W.fnOf "chains_of" "chains_of" (defArgs st_chains_of) (defBody st_chains_of) (defScope st_chains_of) .none kV10 dc10 pm10 an10 cd10 ct10
    | 11 => PySem.W.fnOf "meeting" "meeting" (defArgs st_meeting) (defBody st_meeting) (defScope st_meeting) .none kV11 dc11 pm11 an11 cd11 ct11
    | 12 => PySem.W.fnOf "ranks_in" "ranks_in" (defArgs st_ranks_in) (defBody st_ranks_in) (defScope st_ranks_in) .none kV12 dc12 pm12 an12 cd12 ct12
    | 13 => PySem.W.fnOf "result" "result" (defArgs st_result) (defBody st_result) (defScope st_result) .none kV13 dc13 pm13 an13 cd13 ct13
    | 14 => PySem.W.fnOf "all_rooms" "all_rooms" (defArgs st_all_rooms) (defBody st_all_rooms) (defScope st_all_rooms) .none kV14 dc14 pm14 an14 cd14 ct14
    | 15 => PySem.W.fnOf "heaps" "heaps" (defArgs st_heaps) (defBody st_heaps) (defScope st_heaps) .none kV15 dc15 pm15 an15 cd15 ct15
    | 16 => PySem.W.fnOf "results_of" "results_of" (defArgs st_results_of) (defBody st_results_of) (defScope st_results_of) .none kV16 dc16 pm16 an16 cd16 ct16
    | 17 => PySem.W.fnOf "is_entry" "is_entry" (defArgs st_is_entry) (defBody st_is_entry) (defScope st_is_entry) .none kV17 dc17 pm17 an17 cd17 ct17
    | 18 => PySem.W.fnOf "is_seen" "is_seen" (defArgs st_is_seen) (defBody st_is_seen) (defScope st_is_seen) .none kV18 dc18 pm18 an18 cd18 ct18
    | 19 => PySem.W.fnOf "fits" "fits" (defArgs st_fits) (defBody st_fits) (defScope st_fits) .none kV19 dc19 pm19 an19 cd19 ct19
    | 20 => PySem.W.fnOf "rooms_seen" "rooms_seen" (defArgs st_rooms_seen) (defBody st_rooms_seen) (defScope st_rooms_seen) .none kV20 dc20 pm20 an20 cd20 ct20
    | 21 => PySem.W.fnOf "ends_seen" "ends_seen" (defArgs st_ends_seen) (defBody st_ends_seen) (defScope st_ends_seen) .none kV21 dc21 pm21 an21 cd21 ct21
    | 22 => PySem.W.fnOf "first_wrong" "first_wrong" (defArgs st_first_wrong) (defBody st_first_wrong) (defScope st_first_wrong) .none kV22 dc22 pm22 an22 cd22 ct22
    | 23 => PySem.W.fnOf "_law_box" "_law_box" (defArgs st__law_box) (defBody st__law_box) (defScope st__law_box) .none kV23 dc23 pm23 an23 cd23 ct23
    | 24 => PySem.W.fnOf "_law_take" "_law_take" (defArgs st__law_take) (defBody st__law_take) (defScope st__law_take) .none kV24 dc24 pm24 an24 cd24 ct24
    | 25 => PySem.W.fnOf "_law_cells" "_law_cells" (defArgs st__law_cells) (defBody st__law_cells) (defScope st__law_cells) .none kV25 dc25 pm25 an25 cd25 ct25
    | 26 => PySem.W.fnOf "_law_of" "_law_of" (defArgs st__law_of) (defBody st__law_of) (defScope st__law_of) .none kV26 dc26 pm26 an26 cd26 ct26
    | 27 => PySem.W.fnOf "_law_tour" "_law_tour" (defArgs st__law_tour) (defBody st__law_tour) (defScope st__law_tour) .none kV27 dc27 pm27 an27 cd27 ct27
    | 28 => PySem.W.fnOf "_law_rooms" "_law_rooms" (defArgs st__law_rooms) (defBody st__law_rooms) (defScope st__law_rooms) .none kV28 dc28 pm28 an28 cd28 ct28
    | 29 => PySem.W.fnOf "_law_any_crowd" "_law_any_crowd" (defArgs st__law_any_crowd) (defBody st__law_any_crowd) (defScope st__law_any_crowd) .none kV29 dc29 pm29 an29 cd29 ct29
    | 30 => PySem.W.fnOf "_law_veiled" "_law_veiled" (defArgs st__law_veiled) (defBody st__law_veiled) (defScope st__law_veiled) .none kV30 dc30 pm30 an30 cd30 ct30
    | 31 => PySem.W.fnOf "_law_told" "_law_told" (defArgs st__law_told) (defBody st__law_told) (defScope st__law_told) .none kV31 dc31 pm31 an31 cd31 ct31
    | 32 => PySem.W.fnOf "_law_parts_right" "_law_parts_right" (defArgs st__law_parts_right) (defBody st__law_parts_right) (defScope st__law_parts_right) .none kV32 dc32 pm32 an32 cd32 ct32
    | 33 => PySem.W.fnOf "_law_right" "_law_right" (defArgs st__law_right) (defBody st__law_right) (defScope st__law_right) .none kV33 dc33 pm33 an33 cd33 ct33
    | 34 => PySem.W.fnOf "law" "law" (defArgs st_law) (defBody st_law) (defScope st_law) .none kV34 dc34 pm34 an34 cd34 ct34
    | _ => PySem.W.fnOf "" "" (defArgs st_law) (defBody st_law) (defScope st_law) .none kV0 dc0 pm0 an0 cd0 ct0
  let f : Nat → Addr := fun i => match i with
    | 0 => f0
    | 1 => f1
    | 2 => f2
    | 3 => f3
    | 4 => f4
    | 5 => f5
    | 6 => f6
    | 7 => f7
    | 8 => f8
    | 9 => f9
    | 10 => f10
    | 11 => f11
    | 12 => f12
    | 13 => f13
    | 14 => f14
    | 15 => f15
    | 16 => f16
    | 17 => f17
    | 18 => f18
    | 19 => f19
    | 20 => f20
    | 21 => f21
    | 22 => f22
    | 23 => f23
    | 24 => f24
    | 25 => f25
    | 26 => f26
    | 27 => f27
    | 28 => f28
    | 29 => f29
    | 30 => f30
    | 31 => f31
    | 32 => f32
    | 33 => f33
    | 34 => f34
    | _ => f0
  have F0 : Fun K "chains_from_links" "chains_from_links" st_chains_from_links (f 0) (FD 0) := fun_mk (st := st_chains_from_links) l0 c0 k0
  have F1 : Fun K "linked_visit" "linked_visit" st_linked_visit (f 1) (FD 1) := fun_mk (st := st_linked_visit) l1 c1 k1
  have F2 : Fun K "is_integer" "is_integer" st_is_integer (f 2) (FD 2) := fun_mk (st := st_is_integer) l2 c2 k2
  have F3 : Fun K "is_rank" "is_rank" st_is_rank (f 3) (FD 3) := fun_mk (st := st_is_rank) l3 c3 k3
  have F4 : Fun K "leaver" "leaver" st_leaver (f 4) (FD 4) := fun_mk (st := st_leaver) l4 c4 k4
  have F5 : Fun K "entered" "entered" st_entered (f 5) (FD 5) := fun_mk (st := st_entered) l5 c5 k5
  have F6 : Fun K "rooms_along" "rooms_along" st_rooms_along (f 6) (FD 6) := fun_mk (st := st_rooms_along) l6 c6 k6
  have F7 : Fun K "room_after" "room_after" st_room_after (f 7) (FD 7) := fun_mk (st := st_room_after) l7 c7 k7
  have F8 : Fun K "people_up_to" "people_up_to" st_people_up_to (f 8) (FD 8) := fun_mk (st := st_people_up_to) l8 c8 k8
  have F9 : Fun K "departures" "departures" st_departures (f 9) (FD 9) := fun_mk (st := st_departures) l9 c9 k9
  have F10 : Fun K "chains_of" "chains_of" st_chains_of (f 10) (FD 10) := fun_mk (st := st_chains_of) l10 c10 k10
  have F11 : Fun K "meeting" "meeting" st_meeting (f 11) (FD 11) := fun_mk (st := st_meeting) l11 c11 k11
  have F12 : Fun K "ranks_in" "ranks_in" st_ranks_in (f 12) (FD 12) := fun_mk (st := st_ranks_in) l12 c12 k12
  have F13 : Fun K "result" "result" st_result (f 13) (FD 13) := fun_mk (st := st_result) l13 c13 k13
  have F14 : Fun K "all_rooms" "all_rooms" st_all_rooms (f 14) (FD 14) := fun_mk (st := st_all_rooms) l14 c14 k14
  have F15 : Fun K "heaps" "heaps" st_heaps (f 15) (FD 15) := fun_mk (st := st_heaps) l15 c15 k15
  have F16 : Fun K "results_of" "results_of" st_results_of (f 16) (FD 16) := fun_mk (st := st_results_of) l16 c16 k16
  have F17 : Fun K "is_entry" "is_entry" st_is_entry (f 17) (FD 17) := fun_mk (st := st_is_entry) l17 c17 k17
  have F18 : Fun K "is_seen" "is_seen" st_is_seen (f 18) (FD 18) := fun_mk (st := st_is_seen) l18 c18 k18
  have F19 : Fun K "fits" "fits" st_fits (f 19) (FD 19) := fun_mk (st := st_fits) l19 c19 k19
  have F20 : Fun K "rooms_seen" "rooms_seen" st_rooms_seen (f 20) (FD 20) := fun_mk (st := st_rooms_seen) l20 c20 k20
  have F21 : Fun K "ends_seen" "ends_seen" st_ends_seen (f 21) (FD 21) := fun_mk (st := st_ends_seen) l21 c21 k21
  have F22 : Fun K "first_wrong" "first_wrong" st_first_wrong (f 22) (FD 22) := fun_mk (st := st_first_wrong) l22 c22 k22
  have F23 : Fun K "_law_box" "_law_box" st__law_box (f 23) (FD 23) := fun_mk (st := st__law_box) l23 c23 k23
  have F24 : Fun K "_law_take" "_law_take" st__law_take (f 24) (FD 24) := fun_mk (st := st__law_take) l24 c24 k24
  have F25 : Fun K "_law_cells" "_law_cells" st__law_cells (f 25) (FD 25) := fun_mk (st := st__law_cells) l25 c25 k25
  have F26 : Fun K "_law_of" "_law_of" st__law_of (f 26) (FD 26) := fun_mk (st := st__law_of) l26 c26 k26
  have F27 : Fun K "_law_tour" "_law_tour" st__law_tour (f 27) (FD 27) := fun_mk (st := st__law_tour) l27 c27 k27
  have F28 : Fun K "_law_rooms" "_law_rooms" st__law_rooms (f 28) (FD 28) := fun_mk (st := st__law_rooms) l28 c28 k28
  have F29 : Fun K "_law_any_crowd" "_law_any_crowd" st__law_any_crowd (f 29) (FD 29) := fun_mk (st := st__law_any_crowd) l29 c29 k29
  have F30 : Fun K "_law_veiled" "_law_veiled" st__law_veiled (f 30) (FD 30) := fun_mk (st := st__law_veiled) l30 c30 k30
  have F31 : Fun K "_law_told" "_law_told" st__law_told (f 31) (FD 31) := fun_mk (st := st__law_told) l31 c31 k31
  have F32 : Fun K "_law_parts_right" "_law_parts_right" st__law_parts_right (f 32) (FD 32) := fun_mk (st := st__law_parts_right) l32 c32 k32
  have F33 : Fun K "_law_right" "_law_right" st__law_right (f 33) (FD 33) := fun_mk (st := st__law_right) l33 c33 k33
  have F34 : Fun K "law" "law" st_law (f 34) (FD 34) := fun_mk (st := st_law) l34 c34 k34
  have T : Txt K mg f FD := {
    F_chains_from_links := F0, g_chains_from_links := PySem.W.mg_of X G a0, b_chains_from_links := F0.binds (ps := ["links"]) fun _ _ _ _ _ _ us hl => match us, hl with | [_], _ => rfl,
    F_linked_visit := F1, g_linked_visit := PySem.W.mg_of X G a1, b_linked_visit := F1.binds (ps := ["links", "rank"]) fun _ _ _ _ _ _ us hl => match us, hl with | [_, _], _ => rfl,
    F_is_integer := F2, g_is_integer := PySem.W.mg_of X G a2, b_is_integer := F2.binds (ps := ["thing"]) fun _ _ _ _ _ _ us hl => match us, hl with | [_], _ => rfl,
    F_is_rank := F3, g_is_rank := PySem.W.mg_of X G a3, b_is_rank := F3.binds (ps := ["size", "thing"]) fun _ _ _ _ _ _ us hl => match us, hl with | [_, _], _ => rfl,
    F_leaver := F4, g_leaver := PySem.W.mg_of X G a4, b_leaver := F4.binds (ps := ["room", "rank"]) fun _ _ _ _ _ _ us hl => match us, hl with | [_, _], _ => rfl,
    F_entered := F5, g_entered := PySem.W.mg_of X G a5, b_entered := F5.binds (ps := ["room", "rank"]) fun _ _ _ _ _ _ us hl => match us, hl with | [_, _], _ => rfl,
    F_rooms_along := F6, g_rooms_along := PySem.W.mg_of X G a6, b_rooms_along := F6.binds (ps := ["room", "visits"]) fun _ _ _ _ _ _ us hl => match us, hl with | [_, _], _ => rfl,
    F_room_after := F7, g_room_after := PySem.W.mg_of X G a7, b_room_after := F7.binds (ps := ["room", "visits"]) fun _ _ _ _ _ _ us hl => match us, hl with | [_, _], _ => rfl,
    F_people_up_to := F8, g_people_up_to := PySem.W.mg_of X G a8, b_people_up_to := F8.binds (ps := ["room", "rank"]) fun _ _ _ _ _ _ us hl => match us, hl with | [_, _], _ => rfl,
    F_departures := F9, g_departures := PySem.W.mg_of X G a9, b_departures := F9.binds (ps := ["room", "visits"]) fun _ _ _ _ _ _ us hl => match us, hl with | [_, _], _ => rfl,
    F_chains_of := F10, g_chains_of := PySem.W.mg_of X G a10, b_chains_of := F10.binds (ps := ["visits"]) fun _ _ _ _ _ _ us hl => match us, hl with | [_], _ => rfl,
    F_meeting := F11, g_meeting := PySem.W.mg_of X G a11, b_meeting := F11.binds (ps := ["chains", "low", "high"]) fun _ _ _ _ _ _ us hl => match us, hl with | [_, _, _], _ => rfl,
    F_ranks_in := F12, g_ranks_in := PySem.W.mg_of X G a12, b_ranks_in := F12.binds (ps := ["chains"]) fun _ _ _ _ _ _ us hl => match us, hl with | [_], _ => rfl,
    F_result := F13, g_result := PySem.W.mg_of X G a13, b_result := F13.binds (ps := ["chains", "room"]) fun _ _ _ _ _ _ us hl => match us, hl with | [_, _], _ => rfl,
    F_all_rooms := F14, g_all_rooms := PySem.W.mg_of X G a14, b_all_rooms := F14.binds (ps := ["size"]) fun _ _ _ _ _ _ us hl => match us, hl with | [_], _ => rfl,
    F_heaps := F15, g_heaps := PySem.W.mg_of X G a15, b_heaps := F15.binds (ps := ["size", "chains"]) fun _ _ _ _ _ _ us hl => match us, hl with | [_, _], _ => rfl,
    F_results_of := F16, g_results_of := PySem.W.mg_of X G a16, b_results_of := F16.binds (ps := ["size", "chains"]) fun _ _ _ _ _ _ us hl => match us, hl with | [_, _], _ => rfl,
    F_is_entry := F17, g_is_entry := PySem.W.mg_of X G a17, b_is_entry := F17.binds (ps := ["size", "thing"]) fun _ _ _ _ _ _ us hl => match us, hl with | [_, _], _ => rfl,
    F_is_seen := F18, g_is_seen := PySem.W.mg_of X G a18, b_is_seen := F18.binds (ps := ["size", "visits", "thing"]) fun _ _ _ _ _ _ us hl => match us, hl with | [_, _, _], _ => rfl,
    F_fits := F19, g_fits := PySem.W.mg_of X G a19, b_fits := F19.binds (ps := ["room", "visits", "seen"]) fun _ _ _ _ _ _ us hl => match us, hl with | [_, _, _], _ => rfl,
    F_rooms_seen := F20, g_rooms_seen := PySem.W.mg_of X G a20, b_rooms_seen := F20.binds (ps := ["size", "visits", "seen"]) fun _ _ _ _ _ _ us hl => match us, hl with | [_, _, _], _ => rfl,
    F_ends_seen := F21, g_ends_seen := PySem.W.mg_of X G a21, b_ends_seen := F21.binds (ps := ["size", "visits", "seen"]) fun _ _ _ _ _ _ us hl => match us, hl with | [_, _, _], _ => rfl,
    F_first_wrong := F22, g_first_wrong := PySem.W.mg_of X G a22, b_first_wrong := F22.binds (ps := ["size", "visits", "seen"]) fun _ _ _ _ _ _ us hl => match us, hl with | [_, _, _], _ => rfl,
    F__law_box := F23, g__law_box := PySem.W.mg_of X G a23, b__law_box := F23.binds (ps := ["_law_cells_here", "_law_k"]) fun _ _ _ _ _ _ us hl => match us, hl with | [_, _], _ => rfl,
    F__law_take := F24, g__law_take := PySem.W.mg_of X G a24, b__law_take := F24.binds (ps := ["_law_box_here", "_law_below"]) fun _ _ _ _ _ _ us hl => match us, hl with | [_, _], _ => rfl,
    F__law_cells := F25, g__law_cells := PySem.W.mg_of X G a25, b__law_cells := F25.binds (ps := ["_law_script", "_law_utmost"]) fun _ _ _ _ _ _ us hl => match us, hl with | [_, _], _ => rfl,
    F__law_of := F26, g__law_of := PySem.W.mg_of X G a26, b__law_of := F26.binds (ps := ["_law_box_here", "_law_some"]) fun _ _ _ _ _ _ us hl => match us, hl with | [_, _], _ => rfl,
    F__law_tour := F27, g__law_tour := PySem.W.mg_of X G a27, b__law_tour := F27.binds (ps := ["_law_box_here", "_law_span", "_law_most"]) fun _ _ _ _ _ _ us hl => match us, hl with | [_, _, _], _ => rfl,
    F__law_rooms := F28, g__law_rooms := PySem.W.mg_of X G a28, b__law_rooms := F28.binds (ps := ["_law_span"]) fun _ _ _ _ _ _ us hl => match us, hl with | [_], _ => rfl,
    F__law_any_crowd := F29, g__law_any_crowd := PySem.W.mg_of X G a29, b__law_any_crowd := F29.binds (ps := ["_law_box_here", "_law_span"]) fun _ _ _ _ _ _ us hl => match us, hl with | [_, _], _ => rfl,
    F__law_veiled := F30, g__law_veiled := PySem.W.mg_of X G a30, b__law_veiled := F30.binds (ps := ["_law_box_here", "_law_entries"]) fun _ _ _ _ _ _ us hl => match us, hl with | [_, _], _ => rfl,
    F__law_told := F31, g__law_told := PySem.W.mg_of X G a31, b__law_told := F31.binds (ps := ["_law_span", "_law_crowd", "_law_tour_here"]) fun _ _ _ _ _ _ us hl => match us, hl with | [_, _, _], _ => rfl,
    F__law_parts_right := F32, g__law_parts_right := PySem.W.mg_of X G a32, b__law_parts_right := F32.binds (ps := ["_law_span", "_law_tour_here", "_law_entries", "_law_at", "_law_whole"]) fun _ _ _ _ _ _ us hl => match us, hl with | [_, _, _, _, _], _ => rfl,
    F__law_right := F33, g__law_right := PySem.W.mg_of X G a33, b__law_right := F33.binds (ps := ["_law_box_here"]) fun _ _ _ _ _ _ us hl => match us, hl with | [_], _ => rfl,
    F_law := F34, g_law := PySem.W.mg_of X G a34, b_law := F34.binds (ps := ["_law_script"]) fun _ _ _ _ _ _ us hl => match us, hl with | [_], _ => rfl,
    z_abs := PySem.W.mg_none_of X G z_abs,
    z_all := PySem.W.mg_none_of X G z_all,
    z_any := PySem.W.mg_none_of X G z_any,
    z_bool := PySem.W.mg_none_of X G z_bool,
    z_dict := PySem.W.mg_none_of X G z_dict,
    z_enumerate := PySem.W.mg_none_of X G z_enumerate,
    z_int := PySem.W.mg_none_of X G z_int,
    z_isinstance := PySem.W.mg_none_of X G z_isinstance,
    z_len := PySem.W.mg_none_of X G z_len,
    z_list := PySem.W.mg_none_of X G z_list,
    z_max := PySem.W.mg_none_of X G z_max,
    z_range := PySem.W.mg_none_of X G z_range,
    z_set := PySem.W.mg_none_of X G z_set,
    z_sorted := PySem.W.mg_none_of X G z_sorted,
    z_str := PySem.W.mg_none_of X G z_str,
    z_tuple := PySem.W.mg_none_of X G z_tuple,
    g_UNSEEN := ⟨_, PySem.W.mg_of X G y_UNSEEN⟩
  }
  exact ⟨FD 34, fun s v => .of_eq rfl, fun base _ _ => ok_law T⟩
end DL
set_option Elab.async false
set_option linter.all false
set_option maxRecDepth 100000
set_option maxHeartbeats 2000000
namespace DL
open PySem PySem.Spec PyProof.Rows
open L2 hiding St V
def hit (l h : Int) (c : List Int) : Bool := c.any fun x => decide (l ≤ x) && decide (x ≤ h)
def meetI (C : List (List Int)) (l h : Int) : Nat := (C.filter (hit l h)).length
theorem hit_count {l h : Int} : ∀ (c : List Int) (x : Int), (∀ p ∈ c.zip (x :: c), p.2 < p.1) → ((c.zip (x :: c)).filter fun p => decide (p.2 < l) && decide (l ≤ p.1) && decide (p.1 ≤ h)).length = if x < l ∧ hit l h c = true then 1 else 0 := by
  intro c
  induction c with
  | nil => intro x _; simp [hit]
  | cons y c ih =>
    intro x k
    have hxy : x < y := k (y, x) List.mem_cons_self
    have k' : ∀ p ∈ c.zip (y :: c), p.2 < p.1 := fun p hp => k p (List.mem_cons_of_mem _ hp)
    have asc : ∀ (c : List Int) (y : Int), (∀ p ∈ c.zip (y :: c), p.2 < p.1) → ∀ z ∈ c, y < z := by
      intro c
      induction c with
      | nil => intro y _ z hz; cases hz
      | cons w c ih2 =>
        intro y k z hz
        have h1 : y < w := k (w, y) List.mem_cons_self
        rcases List.mem_cons.mp hz with rfl | hz
        · exact h1
        · have := ih2 w (fun p hp => k p (List.mem_cons_of_mem _ hp)) z hz; omega
    have ac := asc c y k'
    show (((y, x) :: c.zip (y :: c)).filter _).length = _
    have hh : hit l h (y :: c) = ((decide (l ≤ y) && decide (y ≤ h)) || hit l h c) := rfl
    have hno : y > h → hit l h c = false := fun hy => by
      unfold hit
      rw [List.any_eq_false]
      intro z hz
      have := ac z hz
      simp; omega
    rw [List.filter_cons, hh]
    by_cases hl : x < l ∧ l ≤ y
    · by_cases hy : y ≤ h
      · rw [if_pos (by simp [hl.1, hl.2, hy]), List.length_cons, ih y k', if_neg (by omega), if_pos ⟨hl.1, by simp [hl.2, hy]⟩]
      · rw [if_neg (by simp [hl.1, hl.2, hy]), ih y k', if_neg (by omega), if_neg]
        rintro ⟨_, z⟩
        rw [hno (by omega)] at z
        simp [hy] at z
    · rw [if_neg (by
        simp only [Bool.and_eq_true, decide_eq_true_eq]
        omega), ih y k']
      by_cases hx : x < l
      · have hyl : ¬ l ≤ y := fun z => hl ⟨hx, z⟩
        have e : (decide (l ≤ y) && decide (y ≤ h) || hit l h c) = hit l h c := by simp [hyl]
        rw [e]
        by_cases hc : hit l h c = true
        · rw [if_pos ⟨by omega, hc⟩, if_pos ⟨hx, hc⟩]
        · rw [if_neg (fun z => hc z.2), if_neg (fun z => hc z.2)]
      · rw [if_neg (by omega), if_neg (fun z => hx z.1)]
theorem meet_pairs {C : List (List Int)} {l h : Int} (hl : 1 ≤ l) (k : ∀ c ∈ C, ∀ p ∈ prs c, p.2 < p.1) : meetI C l h = ((C.flatMap prs).filter fun p => decide (p.2 < l) && decide (l ≤ p.1) && decide (p.1 ≤ h)).length := by
  induction C with
  | nil => rfl
  | cons c C ih =>
    have ih := ih fun d hd => k d (List.mem_cons_of_mem _ hd)
    rw [List.flatMap_cons, List.filter_append, List.length_append, ← ih]
    have e : ((prs c).filter fun p => decide (p.2 < l) && decide (l ≤ p.1) && decide (p.1 ≤ h)).length = if (0 : Int) < l ∧ hit l h c = true then 1 else 0 := hit_count c 0 (k c List.mem_cons_self)
    rw [e]
    unfold meetI
    rw [List.filter_cons]
    by_cases hc : hit l h c = true
    · rw [if_pos hc, if_pos ⟨by omega, hc⟩, List.length_cons]; omega
    · rw [if_neg hc, if_neg (fun z => hc z.2)]; omega
theorem meet_perm {C : List (List Int)} {K : LK} (hp : (C.flatMap prs).Perm K) (hw : WK K) {l h : Int} (hl : 1 ≤ l) : meetI C l h = cnt (pe l K) h := by
  rw [meet_pairs hl fun c hc p hpc => (hw.bel p (hp.mem_iff.mp (List.mem_flatMap.mpr ⟨c, hc, hpc⟩))).2]
  rw [(hp.filter _).length_eq]
  unfold cnt pe
  rw [List.filter_map, List.length_map, List.filter_filter]
  congr 2
  funext p
  simp only [Function.comp]
  cases decide (p.2 < l) <;> cases decide (l ≤ p.1) <;> cases decide (p.1 ≤ h) <;> rfl
def IsC (d : D) (C : List (List Int)) : Prop := d = eC C ∨ d = .list (C.map eL)
theorem IsC.seq {d : D} {C : List (List Int)} (h : IsC d C) : ∃ e : List Int → D, seqOf d = some (C.map e) ∧ ∀ c, IsSeq (e c) c := by
  rcases h with rfl | rfl
  · exact ⟨eT, rfl, fun c => .inl rfl⟩
  · exact ⟨eL, rfl, fun c => .inr rfl⟩
theorem bools_map {α : Type} (q : α → Bool) : ∀ l : List α, asBools (l.map fun x => PyData.bool (q x)) = some (l.map q)
  | [] => rfl
  | x :: l => by rw [List.map_cons, asBools, bools_map q l]; rfl
theorem cAny_map {α : Type} (q : α → Bool) (l : List α) : cAny [.list (l.map fun x => PyData.bool (q x))] = some (.bool (l.any q)) := by
  show (asBools _).map _ = _
  rw [bools_map, Option.map_some, List.any_map]
  simp
theorem cAll_map {α : Type} (q : α → Bool) (l : List α) : cAll [.list (l.map fun x => PyData.bool (q x))] = some (.bool (l.all q)) := by
  show (asBools _).map _ = _
  rw [bools_map, Option.map_some, List.all_map]
  simp
theorem pComp_enc {α β : Type} {pi : PL} {i : Nat} {vs : List Nat} {pc pe : P} {env : Env} {b : Bx} {enc : α → D} {dec : β → D} {xs : List α} (q : α → Bool) (g : α → β) (hi : i < env.length) (h : pi env b = some (xs.map enc)) (h1 : ∀ x ∈ xs, pc ((wipeE env vs).set i (some (.dat (enc x)))) b = some (.bool (q x))) (h2 : ∀ x ∈ xs, q x = true → pe ((wipeE env vs).set i (some (.dat (enc x)))) b = some (dec (g x))) : pComp pi vs (gN i) pc pe env b = some (.list (((xs.filter q).map g).map dec)) := by
  rw [pComp_a, h, Option.bind_some, compP_enc (by rw [wipeE_length]; exact hi) xs h1 h2]
  rfl
theorem filter_tt {α : Type} (l : List α) : l.filter (fun _ => true) = l := List.filter_eq_self.mpr fun _ _ => rfl
theorem meeting_r {d : D} {C : List (List Int)} (h : IsC d C) (l k : Int) : fP F_meeting [d, .int l, .int k] = some (.int (meetI C l k)) := by
  obtain ⟨e, hs, he⟩ := h.seq
  unfold F_meeting
  have q1 : ∀ c, pComp (plSeq (pVar 3)) [4] (gN 4) pTrue (pChain dLe dLe (pVar 1) (pVar 4) (pVar 2)) [some (.dat d), some (.dat (.int l)), some (.dat (.int k)), some (.dat (e c)), none] [] = some (.list (c.map fun x => .bool (decide (l ≤ x) && decide (x ≤ k)))) := fun c => by
    rw [pComp_enc (enc := PyData.int) (dec := fun x : Int => PyData.bool (decide (l ≤ x) && decide (x ≤ k))) (xs := c) (fun _ => true) id (by simp) (by simp [(he c).seq]) (fun x hx => rfl) (fun x hx _ => chain_le l x k rfl rfl rfl), filter_tt, List.map_id]
  have q2 : ∀ c, pApp cAny (plCons (pComp (plSeq (pVar 3)) [4] (gN 4) pTrue (pChain dLe dLe (pVar 1) (pVar 4) (pVar 2))) plNil) [some (.dat d), some (.dat (.int l)), some (.dat (.int k)), some (.dat (e c)), none] [] = some (.bool (hit l k c)) := fun c => by
    refine pApp_ok (plCons_ok (q1 c) rfl) (cAny_map _ c)
  have q3 := pComp_enc (pi := plSeq (pVar 0)) (vs := [3]) (pc := (pApp cAny (plCons (pComp (plSeq (pVar 3)) [4] (gN 4) pTrue (pChain dLe dLe (pVar 1) (pVar 4) (pVar 2))) plNil))) (pe := pVar 3) (env := [some (.dat d), some (.dat (.int l)), some (.dat (.int k)), none, none]) (b := []) (enc := e) (dec := e) (i := 3) (xs := C) (hit l k) id (by simp) (by simp [hs]) (fun c _ => q2 c) (fun c _ _ => rfl)
  refine fP_rt [some (.dat d), some (.dat (.int l)), some (.dat (.int k)), none, none] rfl rfl (sRet_ok (lift_ok (pApp_ok (plCons_ok q3 rfl) ?_)))
  simp [cLen, meetI]
end DL
set_option Elab.async false
set_option linter.all false
set_option maxRecDepth 100000
set_option maxHeartbeats 2000000
namespace DL
open PySem PySem.Spec PyProof.Rows
open L2 hiding St V
theorem rm_idle {R v : List Int} (hR : Asc R) (h : ∀ x ∈ v, x ∈ R) : rm R v = R := by
  induction v with
  | nil => rfl
  | cons a v ih =>
    show rm (ent R a) v = R
    have : ent R a = R := by
      refine sorted_unique (asc_ent hR) hR fun x => ?_
      rw [ent_mem hR]
      have ha := h a List.mem_cons_self
      have hg : goneI R a = none := by unfold goneI; rw [if_pos ha]
      rw [hg]
      constructor
      · rintro (rfl | h)
        · exact ha
        · exact h.1
      · exact fun h => .inr ⟨h, by simp⟩
    rw [this]
    exact ih fun x hx => h x (List.mem_cons_of_mem _ hx)
theorem pe_rk {K : LK} {l x : Int} (h : x ∈ pe l K) : x ∈ ky K ∧ l ≤ x := by
  obtain ⟨b, h1, _, h2⟩ := pe_mem.mp h
  exact ⟨List.mem_map_of_mem (f := fun q : Int × Int => q.1) h1, h2⟩
end DL
set_option Elab.async false
set_option linter.all false
set_option maxRecDepth 100000
set_option maxHeartbeats 2000000
namespace DL
open PySem PySem.Spec PyProof.Rows
open L2 hiding St V
theorem prs_ky (c : List Int) : (prs c).map (·.1) = c := by
  unfold prs
  have go : ∀ (c : List Int) (x : Int), (c.zip (x :: c)).map (·.1) = c := by
    intro c
    induction c with
    | nil => intro x; rfl
    | cons y c ih => intro x; show y :: ((c.zip (y :: c)).map (·.1)) = _; rw [ih y]
  exact go c 0
theorem flat_ky (C : List (List Int)) : ky (C.flatMap prs) = C.flatten := by
  induction C with
  | nil => rfl
  | cons c C ih =>
    unfold ky at *
    rw [List.flatMap_cons, List.map_append, ih, prs_ky, List.flatten_cons]
theorem comp2_flat {i j : Nat} {env : Env} {b : Bx} {e : List Int → D} (hij : i ≠ j) (hi : i < env.length) (hj : j < env.length) (he : ∀ c, seqOf (e c) = some (c.map .int)) : ∀ C : List (List Int), compP2 (gN i) pTrue (plSeq (pVar i)) [j] (gN j) pTrue (pVar j) env b (C.map e) = some (C.flatten.map .int)
  | [] => rfl
  | c :: C => by
    have ih := comp2_flat (env := env) (b := b) hij hi hj he C
    rw [List.map_cons, compP2, s_gN, if_pos hi, Option.bind_some, s_pTrue, Option.bind_some, s_truthB, Option.bind_some]
    dsimp only
    have g1 : (env.set i (some (.dat (e c))))[i]? = some (some (.dat (e c))) := List.getElem?_set_self hi
    have g2 : plSeq (pVar i) (env.set i (some (.dat (e c)))) b = some (c.map .int) := plSeq_ok (pVar_ok g1) (he c)
    rw [g2, Option.bind_some]
    have g3 := compP_enc (i := j) (pc := pTrue) (pe := pVar j) (env := wipeE (env.set i (some (.dat (e c)))) [j]) (b := b) (enc := PyData.int) (dec := PyData.int) (q := fun _ => true) (g := id) (by rw [wipeE_length]; simp; exact hj) c (fun x _ => rfl) (fun x _ _ => pVar_ok (List.getElem?_set_self (by rw [wipeE_length]; simp; exact hj)))
    rw [g3, Option.bind_some, ih, Option.map_some, filter_tt, List.map_id, List.flatten_cons, List.map_append]
theorem ranks_in_r {d : D} {C : List (List Int)} {k : List Int} (h : IsC d C) (hk : Asc k) (hp : C.flatten.Perm k) (hz : k.length ≤ 1000) : fP F_ranks_in [d] = some (eL k) := by
  obtain ⟨e, hs, he⟩ := h.seq
  have hl : C.flatten.length ≤ SZ := by rw [hp.length_eq]; exact Nat.le_trans hz (by decide)
  have q := comp2_flat (i := 1) (j := 2) (env := wipeE [some (.dat d), none, none] [1, 2]) (b := []) (e := e) (by decide) (by rw [wipeE_length]; simp) (by rw [wipeE_length]; simp) (fun c => (he c).seq) C
  have q2 : pComp2 (plSeq (pVar 0)) [1, 2] (gN 1) pTrue (plSeq (pVar 1)) [2] (gN 2) pTrue (pVar 2) [some (.dat d), none, none] [] = some (eL C.flatten) := by
    unfold pComp2
    rw [plSeq_ok (ds := C.map e) rfl hs, Option.bind_some, q, Option.bind_some]
    unfold lenOk
    rw [List.length_map, if_pos hl]
  have q3 : cSorted [eL C.flatten] = some (eL k) := by
    show (sortD _).map PyData.list = _
    rw [sortD_ints hl, sort_perm hk hp]; rfl
  unfold F_ranks_in
  exact fP_rt [some (.dat d), none, none] rfl rfl (sRet_ok (lift_ok (pApp_ok (plCons_ok q2 rfl) q3)))
end DL
set_option Elab.async false
set_option linter.all false
set_option maxRecDepth 100000
set_option maxHeartbeats 2000000
namespace DL
open PySem PySem.Spec PyProof.Rows
open L2 hiding St V
end DL
set_option Elab.async false
set_option linter.all false
set_option maxRecDepth 100000
set_option maxHeartbeats 2000000
namespace DL
open PySem PySem.Spec PyProof.Rows
open L2 hiding St V
theorem people_r {s : D} {c : List Int} (h : IsSeq s c) (n : Int) : fP F_people_up_to [s, .int n] = some (.int (cnt c n)) := people_ok h n
theorem maxI_some : ∀ {l : List Int}, l ≠ [] → ∃ m, maxI l = some m
  | [], h => absurd rfl h
  | x :: l, _ => ⟨_, rfl⟩
theorem cMax_ints {l : List Int} {m : Int} (h : m ∈ l) (k : ∀ y ∈ l, y ≤ m) : cMax [eL l] = some (.int m) := by
  have hne : l ≠ [] := fun e => by rw [e] at h; cases h
  obtain ⟨z, hz⟩ := maxI_some hne
  obtain ⟨z1, z2⟩ := maxI_spec hz
  have : z = m := by have := z2 m h; have := k z z1; omega
  subst this
  show (asInts (l.map .int)).bind _ = _
  rw [asInts_map, Option.bind_some, hz]; rfl
theorem cnt_filter_mem {T pre post : List Int} {x : Int} (hT : Asc T) (hW : Asc (pre ++ x :: post)) (hs : ∀ y ∈ T, y ∈ pre ++ x :: post) : (T.filter fun y => decide (y ∈ pre)).length = cnt T (x - 1) := by
  unfold cnt
  congr 1
  apply List.filter_congr
  intro y hy
  have h1 := List.pairwise_append.mp hW
  rw [decide_eq_decide]
  constructor
  · intro h
    have := h1.2.2 y h x List.mem_cons_self
    omega
  · intro h
    rcases List.mem_append.mp (hs y hy) with h2 | h2
    · exact h2
    · rcases List.mem_cons.mp h2 with h2 | h2
      · omega
      · have := (List.pairwise_cons.mp h1.2.1).1 y h2; omega
theorem peek_ok {g : P} {env : Env} {b : Bx} {r : D} (h : g env (b.map frzB) = some r) (hf : flatD r = true) : pPeek g env b = some r := by
  unfold pPeek
  rw [h, Option.bind_some, if_pos hf]
theorem result_r {d s : D} {C : List (List Int)} {K : LK} {R T : List Int} (h : IsC d C) (hp : (C.flatMap prs).Perm K) (v : VK K) (hz : K.length ≤ 100) (hs : IsSeq s R) (hR : Asc R) (hRp : Pos R) (hRl : R.length ≤ 100) (hT : Asc T) (top : Top R K (cnt T)) (hTs : ∀ x ∈ T, x ∈ ky K ∨ x ∈ R) : fP F_result [d, s] = some (eT T) := by
  have hfk : C.flatten.Perm (ky K) := by rw [← flat_ky]; exact hp.map (fun p : Int × Int => p.1)
  have hkl : (ky K).length = K.length := by simp [ky]
  have hr := ranks_in_r h v.asc hfk (by omega)
  have hpk : ∀ x ∈ ky K, 1 ≤ x := fun x hx => by
    obtain ⟨b, hb⟩ := ky_mem hx
    have := v.bel _ hb
    simp at this; omega
  -- the ranks that are asked
  obtain ⟨nd, mem, len⟩ := dedupI_spec ((ky K ++ R).filter fun _ => true) [] List.nodup_nil
  obtain ⟨ks, hks⟩ : ∃ ks, ks = dedupI [] ((ky K ++ R).filter fun _ => true) := ⟨_, rfl⟩
  obtain ⟨W, hW⟩ : ∃ W, W = uniqI ks := ⟨_, rfl⟩
  rw [← hks] at nd mem len
  have hWa : Asc W := by rw [hW]; exact (uniq_spec ks).1
  have hWm : ∀ x, x ∈ W ↔ x ∈ ky K ∨ x ∈ R := fun x => by
    rw [hW, (uniq_spec ks).2, mem, List.mem_filter, List.mem_append]; simp
  have hksl : ks.length ≤ 200 := by
    have : ((ky K ++ R).filter fun _ => true).length ≤ (ky K ++ R).length := List.length_filter_le _ _
    rw [List.length_append] at this
    rw [List.length_nil, Nat.zero_add] at len
    omega
  have e1 : ∀ (x3 x4 x5 : Option Cel) (b : Bx), pCompD (plSeq (pBin dAdd (pApp (fP F_ranks_in) (plCons (pVar 0) plNil)) (pApp cList (plCons (pVar 1) plNil)))) [3] (gN 3) pTrue (pVar 3) (pC (.bool true)) [some (.dat d), some (.dat s), some (.bx 0), x3, x4, x5] b = some (.dict (ks.map fun k => (PyData.int k, PyData.bool true))) := fun x3 x4 x5 b => by
    have a1 : dAdd (eL (ky K)) (eL R) = some (eL (ky K ++ R)) := by
      have := addL (x := (ky K).map PyData.int) (y := R.map PyData.int) (by
        rw [List.length_map, List.length_map]
        exact Nat.le_trans (by omega : (ky K).length + R.length ≤ 200) (by decide))
      rw [this]
      show _ = some (PyData.list ((ky K ++ R).map PyData.int))
      rw [List.map_append]
    have a2 : plSeq (pBin dAdd (pApp (fP F_ranks_in) (plCons (pVar 0) plNil)) (pApp cList (plCons (pVar 1) plNil))) [some (.dat d), some (.dat s), some (.bx 0), x3, x4, x5] b = some ((ky K ++ R).map .int) :=
      plSeq_ok (pBin_ok (pApp_ok (plCons_ok rfl rfl) hr) (pApp_ok (plCons_ok rfl rfl) hs.lst) a1) rfl
    have a3 := compDP_ints (i := 3) (pc := pTrue) (pk := pVar 3) (pe := pC (.bool true)) (env := wipeE [some (.dat d), some (.dat s), some (.bx 0), x3, x4, x5] [3]) (b := b) (q := fun _ => true) (v := .bool true) (by rw [wipeE_length]; simp) (fun x => rfl) (fun x => rfl) (fun x => rfl) (ky K ++ R) []
    rw [pCompD_a, a2, Option.bind_some]
    rw [List.map_nil] at a3
    rw [a3, ← hks]; rfl
  have e2 : cSorted [.dict (ks.map fun k => (PyData.int k, PyData.bool true))] = some (eL W) := by
    have ei : itemsOf (.dict (ks.map fun k => (PyData.int k, PyData.bool true))) = some (ks.map .int) := by
      cases hk2 : ks with
      | nil => rfl
      | cons k r => show some _ = _; simp [Function.comp_def]
    show (itemsOf _).bind _ = _
    rw [ei, Option.bind_some, sortD_ints (Nat.le_trans hksl (by decide)), sort_uniq nd fun k => Iff.rfl, ← hW]; rfl
  obtain ⟨env2, b2, e3, x3, x4, x5, rfl, rfl⟩ := loop_pre (f := gN 3) (enc := PyData.int) (body := (sSeq (sAsg (gN 4) (lift (pBin dAdd (pApp gLstD (plCons (pC (.int 0)) plNil)) (pComp (plSeq (pVar 1)) [5] (gN 5) (pBin dLe (pVar 5) (pVar 3)) (pVar 5))))) (sIf (lift (pBin dGt (pApp cMax (plCons (pComp (plSeq (pVar 4)) [5] (gN 5) pTrue (pBin dAdd (pApp (fP F_people_up_to) (plCons (pVar 1) (plCons (pVar 5) plNil))) (pApp (fP F_meeting) (plCons (pVar 0) (plCons (pBin dAdd (pVar 5) (pC (.int 1))) (plCons (pVar 3) plNil)))))) plNil)) (pPeek (pApp cLen (plCons (pVar 2) plNil))))) (sDo (mBopL fAppend 2 (liftA (plCons (pVar 3) plNil)))) sNil)))
    (fun pre env b => ∃ x3 x4 x5, env = [some (.dat d), some (.dat s), some (.bx 0), x3, x4, x5] ∧ b = [.live (eL (T.filter fun y => decide (y ∈ pre)))]) W [] [some (.dat d), some (.dat s), some (.bx 0), none, none, none] [.live (eL [])] ⟨_, _, _, rfl, by simp⟩ (by
      rintro pre r post env b eb ⟨x3, x4, x5, rfl, rfl⟩
      have eb : W = pre ++ r :: post := by rw [← eb]; rfl
      have hrW : r ∈ W := by rw [eb]; simp
      have hr1 : 1 ≤ r := by
        rcases (hWm r).mp hrW with h1 | h1
        · exact hpk r h1
        · exact hRp r h1
      obtain ⟨F, hF⟩ : ∃ F, F = T.filter fun y => decide (y ∈ pre) := ⟨_, rfl⟩
      have hFl : F.length = cnt T (r - 1) := by
        rw [hF]
        exact cnt_filter_mem hT (by rw [← eb]; exact hWa) fun y hy => by rw [← eb]; exact (hWm y).mpr (hTs y hy)
      rw [← hF]
      let bg := 0 :: R.filter fun y => decide (y ≤ r)
      have a1 : pBin dAdd (pApp gLstD (plCons (pC (.int 0)) plNil)) (pComp (plSeq (pVar 1)) [5] (gN 5) (pBin dLe (pVar 5) (pVar 3)) (pVar 5)) [some (.dat d), some (.dat s), some (.bx 0), some (.dat (.int r)), x4, x5] [.live (eL F)] = some (eL bg) := by
        have q := pComp_enc (pi := plSeq (pVar 1)) (i := 5) (vs := [5]) (pc := (pBin dLe (pVar 5) (pVar 3))) (pe := pVar 5) (env := [some (.dat d), some (.dat s), some (.bx 0), some (.dat (.int r)), x4, x5]) (b := [.live (eL F)]) (enc := PyData.int) (dec := PyData.int) (xs := R) (fun y => decide (y ≤ r)) id (by simp) (by simp [hs.seq]) (fun x _ => rfl) (fun x _ _ => rfl)
        rw [List.map_id] at q
        refine pBin_ok (x := .list [.int 0]) (pApp_ok (plCons_ok rfl rfl) rfl) q ?_
        rw [addL]
        · rfl
        · rw [List.length_map]
          have := List.length_filter_le (fun y => decide (y ≤ r)) R
          show 1 + _ ≤ SZ
          exact Nat.le_trans (by omega : 1 + (R.filter fun y => decide (y ≤ r)).length ≤ 101) (by decide)
      let val : Int → Int := fun x => (cnt R x : Int) + (meetI C (x + 1) r : Int)
      have a2 : pComp (plSeq (pVar 4)) [5] (gN 5) pTrue (pBin dAdd (pApp (fP F_people_up_to) (plCons (pVar 1) (plCons (pVar 5) plNil))) (pApp (fP F_meeting) (plCons (pVar 0) (plCons (pBin dAdd (pVar 5) (pC (.int 1))) (plCons (pVar 3) plNil))))) [some (.dat d), some (.dat s), some (.bx 0), some (.dat (.int r)), some (.dat (eL bg)), x5] [.live (eL F)] = some (eL (bg.map val)) := by
        have q := pComp_enc (pi := plSeq (pVar 4)) (i := 5) (vs := [5]) (pc := pTrue) (pe := (pBin dAdd (pApp (fP F_people_up_to) (plCons (pVar 1) (plCons (pVar 5) plNil))) (pApp (fP F_meeting) (plCons (pVar 0) (plCons (pBin dAdd (pVar 5) (pC (.int 1))) (plCons (pVar 3) plNil)))))) (env := [some (.dat d), some (.dat s), some (.bx 0), some (.dat (.int r)), some (.dat (eL bg)), x5]) (b := [.live (eL F)]) (enc := PyData.int) (dec := PyData.int) (xs := bg) (fun y => true) val (by simp) rfl (fun x _ => rfl) (fun x _ _ => pBin_ok (pApp_ok (plCons_ok rfl (plCons_ok rfl rfl)) (people_r hs x)) (pApp_ok (plCons_ok rfl (plCons_ok (pBin_ok rfl rfl rfl) (plCons_ok rfl rfl))) (meeting_r h (x + 1) r)) rfl)
        rw [filter_tt] at q
        exact q
      have hbg : ∀ x ∈ bg, 0 ≤ x ∧ x ≤ r ∧ (x = 0 ∨ x ∈ R) := fun x hx => by
        rcases List.mem_cons.mp hx with rfl | hx
        · exact ⟨by omega, by omega, .inl rfl⟩
        · rw [List.mem_filter, decide_eq_true_eq] at hx
          have := hRp x hx.1
          exact ⟨by omega, hx.2, .inr hx.1⟩
      have hval : ∀ x, 0 ≤ x → val x = ((cnt R x + cnt (pe (x + 1) K) r : Nat) : Int) := fun x hx => by
        show (cnt R x : Int) + (meetI C (x + 1) r : Int) = _
        rw [meet_perm hp v.toWK (by omega)]; omega
      have a3 : cMax [eL (bg.map val)] = some (.int (cnt T r)) := by
        refine cMax_ints ?_ fun y hy => ?_
        · obtain ⟨x, h1, h2, h3, h4⟩ := top.e r (by omega)
          rw [List.mem_map]
          refine ⟨x, ?_, by rw [hval x h2, h4]⟩
          rcases h1 with rfl | h1
          · exact List.mem_cons_self
          · exact List.mem_cons_of_mem _ (List.mem_filter.mpr ⟨h1, by simpa using h3⟩)
        · obtain ⟨x, hx, rfl⟩ := List.mem_map.mp hy
          obtain ⟨h1, h2, _⟩ := hbg x hx
          rw [hval x h1]
          have := top.u x r h1 h2
          omega
      have a4 : pPeek (pApp cLen (plCons (pVar 2) plNil)) [some (.dat d), some (.dat s), some (.bx 0), some (.dat (.int r)), some (.dat (eL bg)), x5] [.live (eL F)] = some (.int F.length) := peek_ok (by simp [frzB, cLen]) rfl
      have a5 : (lift (pBin dGt (pApp cMax (plCons (pComp (plSeq (pVar 4)) [5] (gN 5) pTrue (pBin dAdd (pApp (fP F_people_up_to) (plCons (pVar 1) (plCons (pVar 5) plNil))) (pApp (fP F_meeting) (plCons (pVar 0) (plCons (pBin dAdd (pVar 5) (pC (.int 1))) (plCons (pVar 3) plNil)))))) plNil)) (pPeek (pApp cLen (plCons (pVar 2) plNil))))) [some (.dat d), some (.dat s), some (.bx 0), some (.dat (.int r)), some (.dat (eL bg)), x5] [.live (eL F)] = some (.ok (.bool (decide ((F.length : Int) < (cnt T r : Int)))), [.live (eL F)]) :=
        lift_ok (pBin_ok (pApp_ok (plCons_ok a2 rfl) a3) a4 rfl)
      have hmem := mem_cnt hT r
      rw [hFl] at a5
      have hFx : T.filter (fun y => decide (y ∈ pre ++ [r])) = if r ∈ T then F ++ [r] else F := by
        have hTW : ∀ y ∈ T, y ∈ W := fun y hy => (hWm y).mpr (hTs y hy)
        have aF : Asc F := by rw [hF]; exact asc_filter _ hT
        have hpr : ∀ y ∈ pre, y < r := fun y hy => by
          rw [eb] at hWa
          exact (List.pairwise_append.mp hWa).2.2 y hy r List.mem_cons_self
        refine sorted_unique (asc_filter _ hT) ?_ fun y => ?_
        · split
          · unfold Asc at *
            rw [List.pairwise_append]
            refine ⟨aF, by simp, fun y hy z hz => ?_⟩
            rw [List.mem_singleton] at hz
            subst hz
            rw [hF, List.mem_filter, decide_eq_true_eq] at hy
            exact hpr y hy.2
          · exact aF
        · rw [List.mem_filter, decide_eq_true_eq, List.mem_append, List.mem_singleton]
          split
          · rename_i hrT
            rw [List.mem_append, List.mem_singleton, hF, List.mem_filter, decide_eq_true_eq]
            constructor
            · rintro ⟨h1, h2 | h2⟩
              · exact .inl ⟨h1, h2⟩
              · exact .inr h2
            · rintro (⟨h1, h2⟩ | h2)
              · exact ⟨h1, .inl h2⟩
              · exact ⟨h2 ▸ hrT, .inr h2⟩
          · rename_i hrT
            rw [hF, List.mem_filter, decide_eq_true_eq]
            constructor
            · rintro ⟨h1, h2 | h2⟩
              · exact ⟨h1, h2⟩
              · exact absurd (h2 ▸ h1) hrT
            · rintro ⟨h1, h2⟩
              exact ⟨h1, .inl h2⟩
      rw [hFx]
      by_cases hrT : r ∈ T
      · rw [if_pos hrT] at hmem ⊢
        have ht : decide (((cnt T (r - 1) : Nat) : Int) < (cnt T r : Int)) = true := by simp; omega
        rw [ht] at a5
        have hFsz : F.length < SZ := by
          have h1 : T.length ≤ 200 := by
            have h2 : ∀ (A B : List Int), A.Nodup → (∀ y ∈ A, y ∈ B) → A.length ≤ B.length := fun A => by
              induction A with
              | nil => intro B _ _; exact Nat.zero_le _
              | cons y A ih =>
                intro B nd s
                obtain ⟨n1, n2⟩ := List.nodup_cons.mp nd
                have hy := s y List.mem_cons_self
                have := ih (B.erase y) n2 fun z hz => by
                  have : z ≠ y := fun e => n1 (e ▸ hz)
                  exact (List.mem_erase_of_ne this).mpr (s z (List.mem_cons_of_mem _ hz))
                rw [List.length_erase_of_mem hy] at this
                have : 0 < B.length := List.length_pos_of_mem hy
                simp; omega
            have := h2 T (ky K ++ R) hT.nodup fun y hy => List.mem_append.mpr (hTs y hy)
            rw [List.length_append] at this
            omega
          have h3 : F.length ≤ T.length := by rw [hF]; exact List.length_filter_le _ _
          exact Nat.lt_of_le_of_lt (Nat.le_trans h3 h1) (by decide)
        refine ⟨_, rfl, _, _, sSeq_ok (sAsg_ok (lift_ok a1) rfl) ((sIf_t a5 rfl).trans (append_ok (k := 0) (ds := F.map .int) (x := .int r) rfl rfl rfl (by rw [List.length_map]; exact hFsz))), some (.dat (.int r)), some (.dat (eL bg)), x5, rfl, ?_⟩
        simp
      · rw [if_neg hrT] at hmem ⊢
        have ht : decide (((cnt T (r - 1) : Nat) : Int) < (cnt T r : Int)) = false := by simp; omega
        rw [ht] at a5
        exact ⟨_, rfl, _, _, sSeq_ok (sAsg_ok (lift_ok a1) rfl) ((sIf_f a5 rfl).trans rfl), some (.dat (.int r)), some (.dat (eL bg)), x5, rfl, rfl⟩)
  have hall : T.filter (fun y => decide (y ∈ ([] : List Int) ++ W)) = T := List.filter_eq_self.mpr fun y hy => by
    rw [List.nil_append, decide_eq_true_eq]
    exact (hWm y).mpr (hTs y hy)
  rw [hall] at e3
  unfold F_result
  exact fP_rt [some (.dat d), some (.dat s), none, none, none, none] rfl rfl (sSeq_ok (sNew_ok (d := eL []) (b1 := []) rfl (by simp)) (sSeq_ok (sFor_ok (ds := W.map .int) (b1 := [.live (eL [])]) (liftA_ok (plSeq_ok (pApp_ok (plCons_ok (e1 _ _ _ _) rfl) e2) rfl)) e3) (sRet_ok (mApp_ok (maCons_ok (frz_ok (k := 0) rfl rfl) maNil_ok) rfl))))
theorem result_visits {d s : D} {C : List (List Int)} {R v : List Int} (h : IsC d C) (hp : (C.flatMap prs).Perm (lnk v)) (hs : IsSeq s R) (hR : Room R) (hv : Rk v) : fP F_result [d, s] = some (eT (rm R v)) := by
  have hl : (lnk v).length ≤ 12 := wk_len (lnk_wk hv.pos) 12 fun x hx => (hv x ((lnk_ky v x).mp hx)).2
  refine result_r h hp (lnk_vk hv.pos) (by omega) hs hR.asc hR.rk.pos (Nat.le_trans hR.len (by decide)) (asc_rm v hR.asc) (top_rm hR.asc hR.rk.pos hv.pos) fun x hx => ?_
  rcases mem_rm hx with h1 | h1
  · exact .inr h1
  · exact .inl ((lnk_ky v x).mpr h1)
end DL
set_option Elab.async false
set_option linter.all false
set_option maxRecDepth 100000
set_option maxHeartbeats 2000000
namespace DL
open PySem PySem.Spec PyProof.Rows
open L2 hiding St V
theorem rg_ok2 {n : Nat} (h : n ≤ 10000) : rgOk 0 (n : Int) = true := by
  have a1 : (-(2 ^ 62) : Int) ≤ 0 := by decide
  have a2 : (0 : Int) < 2 ^ 62 := by decide
  have a3 : ((n : Int) - 0).toNat ≤ SZ := Nat.le_trans (by omega : ((n : Int) - 0).toNat ≤ 10000) (by decide)
  have a4 : (n : Int) < 2 ^ 62 := Int.lt_of_le_of_lt (by omega : (n : Int) ≤ 10000) (by decide)
  have a5 : (-(2 ^ 62) : Int) ≤ n := Int.le_trans a1 (by omega)
  unfold rgOk
  simp only [Bool.and_eq_true, decide_eq_true_eq]
  exact ⟨⟨⟨⟨a1, a2⟩, a5⟩, a4⟩, a3⟩
theorem rangeD_0 (n : Nat) : rangeD 0 (n : Int) = (List.range n).map fun (i : Nat) => PyData.int i := by
  unfold rangeD
  have e : ((n : Int) - 0).toNat = n := by omega
  rw [e]
  exact List.map_congr_left fun i _ => by rw [Int.zero_add]
theorem range_ok1 {n : Nat} (h : n ≤ 10000) : range1 [.int n] = some (rangeD 0 n) := by
  unfold range1
  exact if_pos (rg_ok2 h)
theorem range_ok2 {n : Nat} (h : n ≤ 10000) : range1 [.int n] = some ((List.range n).map fun (i : Nat) => PyData.int i) := by
  rw [range_ok1 h, rangeD_0]
def inr (l h : Int) (v : List Int) : List Int := v.filter fun x => decide (l ≤ x) && decide (x ≤ h)
structure Ends (l h : Int) (u E : List Int) : Prop where
  len : E.length = u.length
  up : ∀ i : Nat, i < u.length → ∀ k, u.getD i 0 ≤ k → 0 ≤ E.getD i 0 ∧ E.getD i 0 ≤ cnt (rm [] (inr l h u)) k
  ex : ∀ k, cnt (rm [] (inr l h u)) k = 0 ∨ ∃ i : Nat, i < u.length ∧ u.getD i 0 ≤ k ∧ E.getD i 0 = cnt (rm [] (inr l h u)) k
theorem at_getD {u : List Int} {i : Nat} (h : i < u.length) : atI (u.map PyData.int) (i : Int) = some (.int (u.getD i 0)) := by
  rw [atI_map h]; simp [h]
theorem IsSeq.ix {s : D} {c : List Int} (h : IsSeq s c) {i : Nat} (hi : i < c.length) : dIx s (.int i) = some (.int (c.getD i 0)) := by
  rcases h with rfl | rfl <;> exact at_getD hi
end DL
set_option Elab.async false
set_option linter.all false
set_option maxRecDepth 100000
set_option maxHeartbeats 2000000
namespace DL
open PySem PySem.Spec PyProof.Rows
open L2 hiding St V
theorem callB_gen {F : Fn} {i k : Nat} {ms : MA} {env : Env} {b : Bx} {ds : List D} {d d' r : D} (he : env[i]? = some (some (.bx k))) (ha : ms env b = some (.ok ds, b)) (hb : b[k]? = some (.live d)) (h : F (.bx 0 :: ds.map .dat) [.live d] = some (.ok r, [.live d'])) : mCallB F i ms env b = some (.ok r, b.set k (.live d')) := by
  unfold mCallB
  rw [he]
  dsimp only
  rw [ha]
  simp [hb, h]
theorem take_g {env : Env} {b : Bx} {i k : Nat} {d : D} {n : Int} {ms : MA} (he : env[i]? = some (some (.bx k))) (ha : ms env b = some (.ok [.int n], b)) (hb : b[k]? = some (.live d)) (hd : Box3 d) (hn : 0 < n) (hl : n ≤ 2000000000000) : ∃ r d', mCallB F__law_take i ms env b = some (.ok (.int r), b.set k (.live d')) ∧ Box3 d' ∧ 0 ≤ r ∧ r < n := by
  obtain ⟨x, y, z, rfl⟩ := hd
  have hlog : n.natAbs.log2 < 9000 := by
    by_cases h0 : n.natAbs = 0
    · rw [h0]; decide
    · refine (Nat.log2_lt h0).mpr ?_
      have h1 : n.natAbs ≤ 2000000000000 := by omega
      have h2 : (2000000000000 : Nat) < 2 ^ 64 := by decide
      exact Nat.lt_of_le_of_lt h1 (Nat.lt_of_lt_of_le h2 (Nat.pow_le_pow_right (by decide : 0 < 2) (by omega : 64 ≤ 9000)))
  obtain ⟨r, d', e, h⟩ := take_ok x y z n hn hlog
  exact ⟨r, d', callB_gen he ha hb e, h⟩
theorem of_ok {d : D} (hd : Box3 d) {ds : List D} (h0 : ds ≠ []) (hl : ds.length ≤ 100000) : ∃ x d', x ∈ ds ∧ F__law_of [.bx 0, .dat (.list ds)] [.live d] = some (.ok x, [.live d']) ∧ Box3 d' := by
  have hp : 0 < ds.length := List.length_pos_iff.mpr h0
  obtain ⟨r, d', e, hb, r0, r1⟩ := take_g (env := [some (.bx 0), some (.dat (.list ds))]) (b := [.live d]) (i := 0) (k := 0) (n := ds.length) (ms := (liftA (plCons (pApp cLen (plCons (pVar 1) plNil)) plNil))) rfl (by simp [cLen]) rfl hd (by omega) (by omega)
  have hr : r.toNat < ds.length := by omega
  refine ⟨ds[r.toNat], d', List.getElem_mem hr, ?_, hb⟩
  have hix : dIx (.list ds) (.int r) = some ds[r.toNat] := by
    have e0 : dIx (.list ds) (.int (r.toNat : Int)) = some ds[r.toNat] := atI_nat (List.getElem?_eq_getElem hr)
    rw [show ((r.toNat : Nat) : Int) = r by omega] at e0
    exact e0
  unfold F__law_of
  exact Eq.trans (runF_rt (b := [.live d']) (d := ds[r.toNat]) [some (.bx 0), some (.dat (.list ds))] rfl rfl (sRet_ok (mBin_ok (lift_ok rfl) e hix))) rfl
theorem of_g {env : Env} {b : Bx} {i k : Nat} {d : D} {ds : List D} {ms : MA} (he : env[i]? = some (some (.bx k))) (ha : ms env b = some (.ok [.list ds], b)) (hb : b[k]? = some (.live d)) (hd : Box3 d) (h0 : ds ≠ []) (hl : ds.length ≤ 100000) : ∃ x d', x ∈ ds ∧ mCallB F__law_of i ms env b = some (.ok x, b.set k (.live d')) ∧ Box3 d' := by
  obtain ⟨x, d', hx, e, h⟩ := of_ok hd h0 hl
  exact ⟨x, d', hx, callB_gen he ha hb e, h⟩
theorem draws_ok {me : M} {env : Env} {i : Nat} (lo hi : Int) (bx : D → Bx) (hi' : i < env.length) (h : ∀ (x : D) d, Box3 d → ∃ (r : Int) (d' : D), me (env.set i (some (.dat x))) (bx d) = some (.ok (.int r), bx d') ∧ Box3 d' ∧ lo ≤ r ∧ r ≤ hi) : ∀ (ds : List D) d, Box3 d → ∃ (v : List Int) (d' : D), compL (gN i) (lift pTrue) me env ds (bx d) = some (v.map PyData.int, bx d') ∧ Box3 d' ∧ v.length = ds.length ∧ ∀ x ∈ v, lo ≤ x ∧ x ≤ hi
  | [], d, hd => ⟨[], d, rfl, hd, rfl, fun x hx => by cases hx⟩
  | x :: ds, d, hd => by
    obtain ⟨r, d1, e, h1, r0, r1⟩ := h x d hd
    obtain ⟨v, d2, e2, h2, hl, hv⟩ := draws_ok lo hi bx hi' h ds d1 h1
    refine ⟨r :: v, d2, ?_, h2, by simp [hl], fun y hy => ?_⟩
    · rw [compL, s_gN, if_pos hi']
      dsimp only
      rw [s_lift, s_pTrue]
      simp only [Option.map_some, s_truthB]
      rw [e]
      dsimp only
      rw [e2]; rfl
    · rcases List.mem_cons.mp hy with rfl | hy
      · exact ⟨r0, r1⟩
      · exact hv y hy
theorem range2_ok {i j : Int} (h0 : -1000 ≤ i) (h1 : i ≤ 10000) (h2 : -1000 ≤ j) (h3 : j ≤ 10000) : range2 [.int i, .int j] = some (rangeD i j) := by
  unfold range2
  have a1 : (-(2 ^ 62) : Int) ≤ i := Int.le_trans (by decide : (-(2 ^ 62) : Int) ≤ -1000) h0
  have a2 : i < (2 ^ 62 : Int) := Int.lt_of_le_of_lt h1 (by decide)
  have a3 : (-(2 ^ 62) : Int) ≤ j := Int.le_trans (by decide : (-(2 ^ 62) : Int) ≤ -1000) h2
  have a4 : j < (2 ^ 62 : Int) := Int.lt_of_le_of_lt h3 (by decide)
  have a5 : (j - i).toNat ≤ SZ := Nat.le_trans (by omega : (j - i).toNat ≤ 11000) (by decide)
  have : rgOk i j = true := by
    unfold rgOk
    simp only [Bool.and_eq_true, decide_eq_true_eq]
    exact ⟨⟨⟨⟨a1, a2⟩, a3⟩, a4⟩, a5⟩
  exact if_pos this
def seqI (lo : Int) (n : Nat) : List Int := (List.range n).map fun i => lo + (i : Nat)
theorem rangeD_seq (i j : Int) : rangeD i j = (seqI i (j - i).toNat).map .int := by
  unfold rangeD seqI
  rw [List.map_map]; rfl
theorem seqI_mem {lo x : Int} {n : Nat} : x ∈ seqI lo n ↔ lo ≤ x ∧ x < lo + n := by
  unfold seqI
  rw [List.mem_map]
  constructor
  · rintro ⟨i, hi, rfl⟩
    rw [List.mem_range] at hi
    omega
  · rintro ⟨h1, h2⟩
    exact ⟨(x - lo).toNat, List.mem_range.mpr (by omega), by omega⟩
theorem seqI_asc (lo : Int) (n : Nat) : Asc (seqI lo n) := by
  unfold seqI Asc
  rw [List.pairwise_map]
  exact List.pairwise_lt_range.imp fun h => by omega
end DL
set_option Elab.async false
set_option linter.all false
set_option maxRecDepth 100000
set_option maxHeartbeats 2000000
namespace DL
open PySem PySem.Spec PyProof.Rows
open L2 hiding St V
theorem top_uniq {R : List Int} {K : LK} {N M : Int → Nat} (h : Top R K N) (k : Top R K M) (r : Int) (hr : 0 ≤ r) : N r = M r := by
  obtain ⟨b, h1, h2, h3, h4⟩ := h.e r hr
  obtain ⟨c, k1, k2, k3, k4⟩ := k.e r hr
  have := h.u c r k2 k3
  have := k.u b r h2 h3
  omega
theorem pos_rm {R v : List Int} (hR : Pos R) (hv : Pos v) : Pos (rm R v) := fun x hx => (mem_rm hx).elim (hR x) (hv x)
theorem cnt_neg {R : List Int} (hp : Pos R) {x : Int} (hx : x ≤ 0) : cnt R x = 0 := cnt_zero fun y hy => by have := hp y hy; omega
theorem rm_lnk {R v w : List Int} (hR : Asc R) (hp : Pos R) (hv : Pos v) (hw : Pos w) (e : lnk v = lnk w) : rm R v = rm R w := by
  have t1 := top_rm hR hp hv
  have t2 := top_rm hR hp hw
  rw [e] at t1
  refine cnt_ext (asc_rm v hR) (asc_rm w hR) fun x => ?_
  by_cases hx : 0 ≤ x
  · exact top_uniq t1 t2 x hx
  · rw [cnt_neg (pos_rm hp hv) (by omega), cnt_neg (pos_rm hp hw) (by omega)]
theorem pos_filter {v : List Int} (p : Int → Bool) (h : Pos v) : Pos (v.filter p) := fun x hx => h x (List.mem_filter.mp hx).1
theorem filter_ge (v : List Int) (l k : Int) : (v.filter fun x => decide (l ≤ x)).filter (fun x => decide (k ≤ x)) = v.filter fun x => decide (max l k ≤ x) := by
  rw [List.filter_filter]
  congr 1
  funext x
  rw [Bool.eq_iff_iff]
  simp only [Bool.and_eq_true, decide_eq_true_eq]
  omega
theorem lnk_filter {v w : List Int} (hv : Pos v) (hw : Pos w) (e : lnk v = lnk w) (l : Int) : lnk (v.filter fun x => decide (l ≤ x)) = lnk (w.filter fun x => decide (l ≤ x)) := by
  refine lnk_ext (pos_filter _ hv) (pos_filter _ hw) fun k hk => ?_
  rw [filter_ge, filter_ge, ← pe_lnk hv (by omega), ← pe_lnk hw (by omega), e]
theorem lnk_app {v v' w w' : List Int} (hv : Pos v) (hv' : Pos v') (hw : Pos w) (hw' : Pos w') (e : lnk v = lnk v') (f : lnk w = lnk w') : lnk (v ++ w) = lnk (v' ++ w') := by
  refine lnk_ext (hv.app hw) (hv'.app hw') fun l hl => ?_
  rw [List.filter_append, List.filter_append, rm_cat, rm_cat, ← pe_lnk hv hl, ← pe_lnk hv' hl, e]
  have a := pe_asc (lnk_wk hv') l
  have p : Pos (pe l (lnk v')) := fun x hx => by have := (pe_rk hx).2; omega
  exact rm_lnk a p (pos_filter _ hw) (pos_filter _ hw') (lnk_filter hw hw' f l)
theorem eqL_ints : ∀ a b : List Int, eqS.eqL (a.map PyData.int) (b.map PyData.int) = decide (a = b)
  | [], [] => rfl
  | [], y :: b => rfl
  | x :: a, [] => rfl
  | x :: a, y :: b => by
    show (eqS (.int x) (.int y) && eqS.eqL (a.map PyData.int) (b.map PyData.int)) = _
    rw [eqL_ints a b]
    show ((x == y) && decide (a = b)) = _
    by_cases h : x = y <;> by_cases k : a = b <;> simp [h, k]
theorem eqS_T (a b : List Int) : eqS (eT a) (eT b) = decide (a = b) := eqL_ints a b
theorem eqL_tups : ∀ a b : List (List Int), eqS.eqL (a.map eT) (b.map eT) = decide (a = b)
  | [], [] => rfl
  | [], y :: b => rfl
  | x :: a, [] => rfl
  | x :: a, y :: b => by
    show (eqS (eT x) (eT y) && eqS.eqL (a.map eT) (b.map eT)) = _
    rw [eqL_tups a b, eqS_T]
    by_cases h : x = y <;> by_cases k : a = b <;> simp [h, k]
theorem rk_good {c : List Int} (h : Rk c) : ∀ d ∈ c.map PyData.int, Good 0 3 d := fun d hd => by
  obtain ⟨x, hx, rfl⟩ := List.mem_map.mp hd
  have := h x hx
  exact good_int (by omega) (by decide) (by decide) (by omega)
theorem good_T {c : List Int} (h : Rk c) : Good 1 (c.length * 5 + 3) (eT c) := by
  have := good_tuple (rk_good h)
  rwa [List.length_map] at this
structure GC (C : List (List Int)) : Prop where
  rk : ∀ c ∈ C, Rk c ∧ c.length ≤ 12
  len : C.length ≤ 12
theorem GC.good {C : List (List Int)} (h : GC C) : Good 2 1000 (eC C) := by
  have g : ∀ d ∈ C.map eT, Good 1 63 d := fun d hd => by
    obtain ⟨c, hc, rfl⟩ := List.mem_map.mp hd
    have := h.rk c hc
    exact (good_T this.1).mono (Nat.le_refl _) (by omega)
  have := good_tuple g
  rw [List.length_map] at this
  have := h.len
  exact (good_tuple g).mono (Nat.le_refl _) (by rw [List.length_map]; omega)
end DL
set_option Elab.async false
set_option linter.all false
set_option maxRecDepth 100000
set_option maxHeartbeats 2000000
namespace DL
open PySem PySem.Spec PyProof.Rows
open L2 hiding St V
theorem if_no {p : P} {s t : S} {env : Env} {b : Bx} (h : p env b = some (.bool false)) : sIf (lift p) s t env b = t env b := sIf_f (lift_ok h) rfl
end DL
set_option Elab.async false
set_option linter.all false
set_option maxRecDepth 100000
set_option maxHeartbeats 2000000
namespace DL
open PySem PySem.Spec PyProof.Rows
open L2 hiding St V
theorem append_gen {i k : Nat} {ms : MA} {env : Env} {b b1 : Bx} {ds : List D} {x : D} (he : env[i]? = some (some (.bx k))) (hb : b[k]? = some (.live (.list ds))) (hm : ms env b = some (.ok [x], b1)) (hb1 : b1[k]? = some (.live (.list ds))) (hz : ds.length < SZ) : sDo (mBopL fAppend i ms) env b = some (.nx env, b1.set k (.live (.list (ds ++ [x])))) := by
  unfold sDo mBopL mBop
  simp [he, hb, hm, hb1, isList, fAppend, hz]
theorem sParL2_ok {i j : Nat} {m m0 : M} {env : Env} {b b1 b2 : Bx} {x d0 : D} (h1 : m env b = some (.ok x, b1)) (h2 : m0 env b1 = some (.ok d0, b2)) (hi : i < env.length) (hj : j < env.length) : sParL2 i j m m0 env b = some (.nx ((env.set i (some (.dat x))).set j (some (.bx b2.length))), b2 ++ [.live d0]) := by
  unfold sParL2
  rw [h1]
  dsimp only
  rw [h2]
  dsimp only
  rw [if_pos ⟨hi, hj⟩]
theorem sorted_any {v : List Int} (h : v.length ≤ 100000) : ∃ w : List Int, cSorted [eL v] = some (eL w) ∧ w.Perm v := by
  refine ⟨v.mergeSort fun a b => decide (a ≤ b), ?_, List.mergeSort_perm _ _⟩
  show (sortD _).map PyData.list = _
  rw [sortD_ints (Nat.le_trans h (by decide))]; rfl
theorem tour_ok {d : D} (hd : Box3 d) {span most : Int} (hs : 1 ≤ span) (hs2 : span ≤ 12) (hm : 0 ≤ most) (hm2 : most ≤ 1000) : ∃ (v : List Int) (d' : D), F__law_tour [.bx 0, .dat (.int span), .dat (.int most)] [.live d] = some (.ok (eL v), [.live d']) ∧ Box3 d' ∧ v.length ≤ most ∧ ∀ x ∈ v, 1 ≤ x ∧ x ≤ span := by
  let E0 : Env := [some (.bx 0), some (.dat (.int span)), some (.dat (.int most)), none, none, none, none]
  obtain ⟨w, d1, e1, h1, w0, w1⟩ := take_g (env := E0) (b := [.live d]) (i := 0) (k := 0) (n := 5) (ms := (liftA (plCons (pC (.int 5)) plNil))) rfl rfl rfl hd (by decide) (by decide)
  let E1 : Env := [some (.bx 0), some (.dat (.int span)), some (.dat (.int most)), some (.dat (.int w)), some (.bx 1), none, none]
  have one : ∀ (env : Env) (x1 : Box) (d : D), env[0]? = some (some (.bx 0)) → env[1]? = some (some (.dat (.int span))) → Box3 d → ∃ r d', mBin dAdd (lift (pC (.int 1))) (mCallB F__law_take 0 (liftA (plCons (pVar 1) plNil))) env [.live d, x1] = some (.ok (.int r), [.live d', x1]) ∧ Box3 d' ∧ 1 ≤ r ∧ r ≤ span := fun env x1 d q1 q2 hd => by
    obtain ⟨r, d', e, h, r0, r1⟩ := take_g (env := env) (b := [.live d, x1]) (i := 0) (k := 0) (n := span) (ms := (liftA (plCons (pVar 1) plNil))) q1 (liftA_ok (plCons_ok (pVar_ok q2) rfl)) rfl hd (by omega) (by omega)
    exact ⟨1 + r, d', mBin_ok (lift_ok rfl) e rfl, h, by omega, by omega⟩
  obtain ⟨few, d2, e2, h2, hfl, hf⟩ := draws_ok (me := mBin dAdd (lift (pC (.int 1))) (mCallB F__law_take 0 (liftA (plCons (pVar 1) plNil)))) (env := E1) (i := 6) 1 span (fun d => [.live d, .live (eL [])]) (by simp [E1]) (fun x d hd => one _ _ d rfl rfl hd) (rangeD 0 3) d1 h1
  have hfl : few.length = 3 := by rw [hfl, rangeD_len]; rfl
  let E2 : Env := [some (.bx 0), some (.dat (.int span)), some (.dat (.int most)), some (.dat (.int w)), some (.bx 1), some (.dat (eL few)), none]
  obtain ⟨n, d3, e3, h3, n0, n1⟩ := take_g (env := E2) (b := [.live d2, .live (eL [])]) (i := 0) (k := 0) (n := most + 1) (ms := (liftA (plCons (pBin dAdd (pVar 2) (pC (.int 1))) plNil))) rfl rfl rfl h2 (by omega) (by omega)
  have hn : n = ((n.toNat : Nat) : Int) := by omega
  obtain ⟨env4, b4, e4, x6, rfl, v, d4, rfl, h4, hvl, hv⟩ := loop_pre (f := gN 6) (enc := fun i : Nat => PyData.int i) (body := (sDo (mBopL fAppend 4 (maCons (mIf (lift (pBin dEq (pVar 3) (pC (.int 0)))) (mCallB F__law_of 0 (liftA (plCons (pVar 5) plNil))) (mBin dAdd (lift (pC (.int 1))) (mCallB F__law_take 0 (liftA (plCons (pVar 1) plNil))))) maNil))))
    (fun pre env b => ∃ x6, env = [some (.bx 0), some (.dat (.int span)), some (.dat (.int most)), some (.dat (.int w)), some (.bx 1), some (.dat (eL few)), x6] ∧ ∃ (v : List Int) (d : D), b = [.live d, .live (eL v)] ∧ Box3 d ∧ v.length = pre.length ∧ ∀ x ∈ v, 1 ≤ x ∧ x ≤ span) (List.range n.toNat) [] E2 [.live d3, .live (eL [])] ⟨none, rfl, [], d3, rfl, h3, rfl, fun x hx => by cases hx⟩ (by
      rintro pre i post env b eb ⟨x6, rfl, v, d, rfl, hd, hvl, hv⟩
      have hpl : pre.length ≤ 1000 := by
        have := congrArg List.length eb
        simp at this
        omega
      have item : ∃ x d', (mIf (lift (pBin dEq (pVar 3) (pC (.int 0)))) (mCallB F__law_of 0 (liftA (plCons (pVar 5) plNil))) (mBin dAdd (lift (pC (.int 1))) (mCallB F__law_take 0 (liftA (plCons (pVar 1) plNil))))) [some (.bx 0), some (.dat (.int span)), some (.dat (.int most)), some (.dat (.int w)), some (.bx 1), some (.dat (eL few)), some (.dat (.int i))] [.live d, .live (eL v)] = some (.ok (.int x), [.live d', .live (eL v)]) ∧ Box3 d' ∧ 1 ≤ x ∧ x ≤ span := by
        by_cases hw : w = 0
        · obtain ⟨x, d', hx, e, h⟩ := of_g (env := [some (.bx 0), some (.dat (.int span)), some (.dat (.int most)), some (.dat (.int w)), some (.bx 1), some (.dat (eL few)), some (.dat (.int i))]) (b := [.live d, .live (eL v)]) (i := 0) (k := 0) (ds := few.map .int) (ms := (liftA (plCons (pVar 5) plNil))) rfl rfl rfl hd (by intro z; have := congrArg List.length z; rw [List.length_map, hfl] at this; cases this) (by rw [List.length_map, hfl]; decide)
          obtain ⟨y, hy, rfl⟩ := List.mem_map.mp hx
          refine ⟨y, d', ?_, h, hf y hy⟩
          rw [mIf_t (x := .bool true) (lift_ok (pBin_ok rfl rfl (by rw [s_eqI]; simp [hw]))) rfl]
          exact e
        · obtain ⟨r, d', e, h, hr⟩ := one [some (.bx 0), some (.dat (.int span)), some (.dat (.int most)), some (.dat (.int w)), some (.bx 1), some (.dat (eL few)), some (.dat (.int i))] (.live (eL v)) d rfl rfl hd
          refine ⟨r, d', ?_, h, hr⟩
          rw [mIf_f (x := .bool false) (lift_ok (pBin_ok rfl rfl (by rw [s_eqI]; simp [hw]))) rfl]
          exact e
      obtain ⟨x, d', e, h, hx⟩ := item
      refine ⟨_, rfl, _, _, append_gen (k := 1) (ds := v.map .int) (b1 := [.live d', .live (eL v)]) rfl rfl (maCons_ok e maNil_ok) rfl (by rw [List.length_map, hvl]; exact Nat.lt_of_le_of_lt hpl (by decide)), some (.dat (.int i)), rfl, v ++ [x], d', by simp, h, by simp [hvl], fun y hy => ?_⟩
      rcases List.mem_append.mp hy with hy | hy
      · exact hv y hy
      · rw [List.mem_singleton] at hy; subst hy; exact hx)
  have hvl : v.length = n.toNat := by rw [hvl]; simp
  obtain ⟨u, eu, pu⟩ := sorted_any (v := v) (by omega)
  -- what is handed back
  have res : ∃ (z : List Int), z.length = v.length ∧ (∀ x ∈ z, x ∈ v) ∧ (mBin dIx (mApp gLstD (maCons (mFrz 4) (maCons (mFrz 4) (maCons (mFrz 4) (maCons (mApp cSorted (maCons (mFrz 4) maNil)) (maCons (mUn dRev (mApp cSorted (maCons (mFrz 4) maNil))) maNil)))))) (lift (pVar 3))) [some (.bx 0), some (.dat (.int span)), some (.dat (.int most)), some (.dat (.int w)), some (.bx 1), some (.dat (eL few)), x6] [.live d4, .live (eL v)] = some (.ok (eL z), [.live d4, .froz (eL v)]) := by
    have f1 : mFrz 4 [some (.bx 0), some (.dat (.int span)), some (.dat (.int most)), some (.dat (.int w)), some (.bx 1), some (.dat (eL few)), x6] [.live d4, .live (eL v)] = some (.ok (eL v), [.live d4, .froz (eL v)]) := frz_ok (k := 1) rfl rfl
    have f2 : mFrz 4 [some (.bx 0), some (.dat (.int span)), some (.dat (.int most)), some (.dat (.int w)), some (.bx 1), some (.dat (eL few)), x6] [.live d4, .froz (eL v)] = some (.ok (eL v), [.live d4, .froz (eL v)]) := rfl
    have f3 : dRev (eL u) = some (eL u.reverse) := by show some (PyData.list (u.map PyData.int).reverse) = _; rw [← List.map_reverse]
    have all : mApp gLstD (maCons (mFrz 4) (maCons (mFrz 4) (maCons (mFrz 4) (maCons (mApp cSorted (maCons (mFrz 4) maNil)) (maCons (mUn dRev (mApp cSorted (maCons (mFrz 4) maNil))) maNil))))) [some (.bx 0), some (.dat (.int span)), some (.dat (.int most)), some (.dat (.int w)), some (.bx 1), some (.dat (eL few)), x6] [.live d4, .live (eL v)] = some (.ok (.list [eL v, eL v, eL v, eL u, eL u.reverse]), [.live d4, .froz (eL v)]) :=
      mApp_ok (maCons_ok f1 (maCons_ok f2 (maCons_ok f2 (maCons_ok (mApp_ok (maCons_ok f2 maNil_ok) eu) (maCons_ok (mUn_ok (mApp_ok (maCons_ok f2 maNil_ok) eu) f3) maNil_ok))))) rfl
    have hw5 : w = 0 ∨ w = 1 ∨ w = 2 ∨ w = 3 ∨ w = 4 := by omega
    rcases hw5 with rfl | rfl | rfl | rfl | rfl
    · exact ⟨v, rfl, fun x h => h, mBin_ok all (lift_ok rfl) rfl⟩
    · exact ⟨v, rfl, fun x h => h, mBin_ok all (lift_ok rfl) rfl⟩
    · exact ⟨v, rfl, fun x h => h, mBin_ok all (lift_ok rfl) rfl⟩
    · exact ⟨u, pu.length_eq, fun x h => pu.mem_iff.mp h, mBin_ok all (lift_ok rfl) rfl⟩
    · exact ⟨u.reverse, by rw [List.length_reverse]; exact pu.length_eq, fun x h => pu.mem_iff.mp (List.mem_reverse.mp h), mBin_ok all (lift_ok rfl) rfl⟩
  obtain ⟨z, hz1, hz2, ez⟩ := res
  refine ⟨z, d4, ?_, h4, by omega, fun x hx => hv x (hz2 x hx)⟩
  have r1 : maOf range1 (maCons (mCallB F__law_take 0 (liftA (plCons (pBin dAdd (pVar 2) (pC (.int 1))) plNil))) maNil) E2 [.live d2, .live (eL [])] = some (.ok ((List.range n.toNat).map fun i : Nat => PyData.int i), [.live d3, .live (eL [])]) := by
    refine maOf_ok (ds := [.int n]) (maCons_ok e3 maNil_ok) ?_
    rw [hn]
    exact range_ok2 (by omega)
  unfold F__law_tour
  refine Eq.trans (runF_rt (b := [.live d4, .froz (eL v)]) (d := eL z) E0 rfl rfl ?_) rfl
  exact sSeq_ok (sParL2_ok e1 (lift_ok rfl) (by simp [E0]) (by simp [E0])) (sSeq_ok (sAsg_ok (comp_row (rows_i 3 (by decide) 3 rfl _ _) e2) rfl) (sSeq_ok (sFor_ok r1 e4) (sRet_ok ez)))
theorem tour_g {env : Env} {b : Bx} {i k : Nat} {d : D} {span most : Int} {ms : MA} (he : env[i]? = some (some (.bx k))) (ha : ms env b = some (.ok [.int span, .int most], b)) (hb : b[k]? = some (.live d)) (hd : Box3 d) (hs : 1 ≤ span) (hs2 : span ≤ 12) (hm : 0 ≤ most) (hm2 : most ≤ 1000) : ∃ (v : List Int) (d' : D), mCallB F__law_tour i ms env b = some (.ok (eL v), b.set k (.live d')) ∧ Box3 d' ∧ v.length ≤ most ∧ ∀ x ∈ v, 1 ≤ x ∧ x ≤ span := by
  obtain ⟨v, d', e, h⟩ := tour_ok hd hs hs2 hm hm2
  exact ⟨v, d', callB_gen he ha hb e, h⟩
end DL
set_option Elab.async false
set_option linter.all false
set_option maxRecDepth 100000
set_option maxHeartbeats 2000000
namespace DL
open PySem PySem.Spec PyProof.Rows
open L2 hiding St V
def eP : Option (Int × Int) → D
  | none => .none
  | some (l, h) => .tuple [.int l, .int h]
end DL
set_option Elab.async false
set_option linter.all false
set_option maxRecDepth 100000
set_option maxHeartbeats 2000000
namespace DL
open PySem PySem.Spec PyProof.Rows
open L2 hiding St V
end DL
set_option Elab.async false
set_option linter.all false
set_option maxRecDepth 100000
set_option maxHeartbeats 2000000
namespace DL
open PySem PySem.Spec PyProof.Rows
open L2 hiding St V
def pairs (f g : Int → Int) (n : Nat) : List D := (seqI 0 n).map fun x => .tuple [.int (f x), .int (g x)]
def cs (R : List Int) (x : Int) : Int := cnt R x
end DL
set_option Elab.async false
set_option linter.all false
set_option maxRecDepth 100000
set_option maxHeartbeats 2000000
namespace DL
open PySem PySem.Spec PyProof.Rows
open L2 hiding St V
end DL
set_option Elab.async false
set_option linter.all false
set_option maxRecDepth 100000
set_option maxHeartbeats 2000000
namespace DL
open PySem PySem.Spec PyProof.Rows
open L2 hiding St V
structure SInv (K : LK) (L : List (Int × List Int)) (m : Int) : Prop where
  vk : VK K
  inv : CInv K L
  lt : ∀ x ∈ ky K, 1 ≤ x ∧ x < m
theorem ky_app (K J : LK) : ky (K ++ J) = ky K ++ ky J := List.map_append
theorem asc_snoc {l : List Int} {m : Int} (h : Asc l) (k : ∀ x ∈ l, x < m) : Asc (l ++ [m]) :=
  List.pairwise_append.mpr ⟨h, by simp, fun x hx y hy => by rw [List.mem_singleton.mp hy]; exact k x hx⟩
theorem vk_snoc {K : LK} (v : VK K) {m e : Int} (lt : ∀ x ∈ ky K, x < m) (h0 : 0 ≤ e) (h1 : e < m) (hc : e = 0 ∨ e ∈ ky K) (hi : ∀ p ∈ K, p.2 = e → p.2 = 0) : VK (K ++ [(m, e)]) where
  asc := by rw [ky_app]; exact asc_snoc v.asc lt
  bel := fun p hp => by
    rcases List.mem_append.mp hp with hp | hp
    · exact v.bel p hp
    · rw [List.mem_singleton.mp hp]; exact ⟨h0, h1⟩
  cl := fun p hp => by
    rw [ky_app]
    rcases List.mem_append.mp hp with hp | hp
    · rcases v.cl p hp with q | q
      · exact .inl q
      · exact .inr (List.mem_append_left _ q)
    · rw [List.mem_singleton.mp hp]
      rcases hc with q | q
      · exact .inl q
      · exact .inr (List.mem_append_left _ q)
  inj := List.pairwise_append.mpr ⟨v.inj, by simp, fun p hp q hq e => by
    rw [List.mem_singleton.mp hq] at e
    exact hi p hp e⟩
theorem SInv.next {K : LK} {L : List (Int × List Int)} {m : Int} (s : SInv K L m) : SInv K L (m + 1) := ⟨s.vk, s.inv, fun x hx => by have := s.lt x hx; omega⟩
theorem SInv.new {K : LK} {L : List (Int × List Int)} {m : Int} (s : SInv K L m) (hm : 1 ≤ m) : SInv (K ++ [(m, 0)]) (L ++ [(m, [m])]) (m + 1) := by
  have hk : ∀ x ∈ kys L, x < m := fun x hx => (s.lt x ((s.inv.mem x).mp hx).1).2
  refine ⟨vk_snoc s.vk (fun x hx => (s.lt x hx).2) (Int.le_refl _) (by omega) (.inl rfl) fun p _ e => e, ⟨?_, fun r => ?_, fun q hq => ?_, ?_, ?_⟩, fun x hx => ?_⟩
  · show ((L ++ [(m, [m])]).map (·.1)).Nodup
    rw [List.map_append]
    refine List.nodup_append.mpr ⟨s.inv.nd, by simp, fun a ha b hb => ?_⟩
    simp at hb
    have := hk a ha
    omega
  · show r ∈ (L ++ [(m, [m])]).map (·.1) ↔ _
    rw [List.map_append, List.mem_append, ky_app, List.mem_append]
    have e1 : r ∈ L.map (·.1) ↔ r ∈ ky K ∧ ∀ p ∈ K, p.2 ≠ r := s.inv.mem r
    rw [e1]
    constructor
    · rintro (⟨a, b⟩ | a)
      · refine ⟨.inl a, fun p hp => ?_⟩
        rcases List.mem_append.mp hp with hp | hp
        · exact b p hp
        · rw [List.mem_singleton.mp hp]
          have := (s.lt r a).1
          show (0 : Int) ≠ r
          omega
      · simp at a
        subst a
        refine ⟨.inr (by simp [ky]), fun p hp => ?_⟩
        rcases List.mem_append.mp hp with hp | hp
        · have h1 := s.vk.bel p hp
          have h2 := s.lt p.1 (List.mem_map_of_mem hp)
          omega
        · rw [List.mem_singleton.mp hp]
          show (0 : Int) ≠ r
          omega
    · rintro ⟨a | a, b⟩
      · exact .inl ⟨a, fun p hp => b p (List.mem_append_left _ hp)⟩
      · exact .inr (by simpa [ky] using a)
  · rcases List.mem_append.mp hq with hq | hq
    · exact s.inv.last q hq
    · rw [List.mem_singleton.mp hq]; exact ⟨by simp, rfl⟩
  · rw [List.flatMap_append]
    exact s.inv.pr.append (by simp [prs])
  · rw [List.length_append, List.length_append]
    have := s.inv.le
    simp; omega
  · rw [ky_app] at hx
    rcases List.mem_append.mp hx with hx | hx
    · have := s.lt x hx; omega
    · simp [ky] at hx; omega
theorem SInv.ext {K : LK} {pre post : List (Int × List Int)} {m e : Int} {c : List Int} (s : SInv K (pre ++ (e, c) :: post) m) (hm : 1 ≤ m) : SInv (K ++ [(m, e)]) (pre ++ (m, c ++ [m]) :: post) (m + 1) := by
  have he : e ∈ kys (pre ++ (e, c) :: post) := by simp [kys]
  have hek := (s.inv.mem e).mp he
  have he1 := s.lt e hek.1
  have hk : ∀ x ∈ kys (pre ++ (e, c) :: post), x < m := fun x hx => (s.lt x ((s.inv.mem x).mp hx).1).2
  have kE : kys (pre ++ (e, c) :: post) = kys pre ++ e :: kys post := by simp [kys]
  have kM : kys (pre ++ (m, c ++ [m]) :: post) = kys pre ++ m :: kys post := by simp [kys]
  have hla := s.inv.last (e, c) (by simp)
  have nd := s.inv.nd
  rw [kE] at nd
  have nd1 := List.nodup_append.mp nd
  have nd2 := List.nodup_cons.mp nd1.2.1
  refine ⟨vk_snoc s.vk (fun x hx => (s.lt x hx).2) (by omega) (by omega) (.inr hek.1) fun p hp q => absurd q (hek.2 p hp), ⟨?_, fun r => ?_, fun q hq => ?_, ?_, ?_⟩, fun x hx => ?_⟩
  · rw [kM]
    have hnm : m ∉ kys pre ∧ m ∉ kys post := by
      constructor <;> intro q <;> exact absurd (hk m (by rw [kE]; simp [q])) (by omega)
    refine List.nodup_append.mpr ⟨nd1.1, List.nodup_cons.mpr ⟨hnm.2, nd2.2⟩, fun a ha b hb => ?_⟩
    rcases List.mem_cons.mp hb with rfl | hb
    · exact fun q => hnm.1 (q ▸ ha)
    · exact nd1.2.2 a ha b (List.mem_cons_of_mem _ hb)
  · have old := s.inv.mem r
    rw [kE] at old
    have eP : r ∉ kys pre ∨ r ≠ e := by
      by_cases q : r = e
      · refine .inl fun h => nd1.2.2 r h e (by simp) q
      · exact .inr q
    rw [kM, ky_app, List.mem_append, List.mem_append]
    constructor
    · intro h
      by_cases rm : r = m
      · subst rm
        refine ⟨.inr (by simp [ky]), fun p hp => ?_⟩
        rcases List.mem_append.mp hp with hp | hp
        · have h1 := s.vk.bel p hp
          have h2 := s.lt p.1 (List.mem_map_of_mem hp)
          omega
        · rw [List.mem_singleton.mp hp]; show e ≠ r; omega
      · have h2 : r ∈ kys pre ++ e :: kys post := by
          rcases h with h | h
          · simp [h]
          · rcases List.mem_cons.mp h with h | h
            · exact absurd h rm
            · simp [h]
        have hre : r ≠ e := by
          rintro rfl
          rcases h with h | h
          · exact nd1.2.2 r h r (by simp) rfl
          · rcases List.mem_cons.mp h with h | h
            · exact rm h
            · exact nd2.1 h
        have q := old.mp h2
        refine ⟨.inl q.1, fun p hp => ?_⟩
        rcases List.mem_append.mp hp with hp | hp
        · exact q.2 p hp
        · rw [List.mem_singleton.mp hp]; exact fun z => hre z.symm
    · rintro ⟨a, b⟩
      rcases a with a | a
      · have q := old.mpr ⟨a, fun p hp => b p (List.mem_append_left _ hp)⟩
        have hre : e ≠ r := b (m, e) (by simp)
        rcases List.mem_append.mp q with q | q
        · exact .inl q
        · rcases List.mem_cons.mp q with q | q
          · exact absurd q.symm hre
          · exact .inr (List.mem_cons_of_mem _ q)
      · have : r = m := by simpa [ky] using a
        exact .inr (by rw [this]; exact List.mem_cons_self)
  · rcases List.mem_append.mp hq with hq | hq
    · exact s.inv.last q (by simp [hq])
    · rcases List.mem_cons.mp hq with rfl | hq
      · exact ⟨by simp, by simp⟩
      · exact s.inv.last q (by simp [hq])
  · have p0 := s.inv.pr
    rw [List.flatMap_append, List.flatMap_cons] at p0 ⊢
    have e0 : prs (c ++ [m]) = prs c ++ [(m, e)] := by rw [prs_snoc, hla.2]; rfl
    show (_ ++ (prs (c ++ [m]) ++ _)).Perm _
    rw [e0]
    refine List.Perm.trans ?_ (p0.append (List.Perm.refl [(m, e)]))
    rw [List.append_assoc, List.append_assoc, List.append_assoc]
    exact List.Perm.append_left _ (List.Perm.append_left _ List.perm_append_comm)
  · have := s.inv.le
    simp at this ⊢
    omega
  · rw [ky_app] at hx
    rcases List.mem_append.mp hx with hx | hx
    · have := s.lt x hx; omega
    · simp [ky] at hx; omega
theorem SInv.nil {m : Int} : SInv [] [] m := ⟨vk_nil, cinv_nil, fun x hx => by cases hx⟩
theorem SInv.done {K : LK} {L : List (Int × List Int)} {m : Int} (s : SInv K L m) : ((sortC (L.map (·.2))).flatMap prs).Perm K ∧ ∀ c ∈ L.map (·.2), c ≠ [] := by
  constructor
  · refine List.Perm.trans (List.Perm.flatMap_right _ (sortC_perm _)) ?_
    have := s.inv.pr
    rwa [← List.flatMap_map] at this
  · intro c hc
    obtain ⟨q, hq, rfl⟩ := List.mem_map.mp hc
    exact (s.inv.last q hq).1
end DL
set_option Elab.async false
set_option linter.all false
set_option maxRecDepth 100000
set_option maxHeartbeats 2000000
namespace DL
open PySem PySem.Spec PyProof.Rows
open L2 hiding St V
theorem setL_ok {i kk : Nat} {mv mi : M} {env : Env} {b : Bx} {ds : List D} {v : D} {j : Int} {n : Nat} (he : env[i]? = some (some (.bx kk))) (hb : b[kk]? = some (.live (.list ds))) (hv : mv env b = some (.ok v, b)) (hj : mi env b = some (.ok (.int j), b)) (hn : ixN ds.length j = some n) :
    sSetL i mv mi env b = some (.nx env, b.set kk (.live (.list (ds.set n v)))) := by
  unfold sSetL
  rw [hv]
  dsimp only
  rw [he]
  dsimp only
  rw [hj]
  dsimp only
  rw [hb]
  dsimp only
  rw [hn]
  rfl
end DL
set_option Elab.async false
set_option linter.all false
set_option maxRecDepth 100000
set_option maxHeartbeats 2000000
namespace DL
open PySem PySem.Spec PyProof.Rows
open L2 hiding St V
theorem ent_ge {A : List Int} (hA : Asc A) (a k : Int) : cnt A k ≤ cnt (ent A a) k := by
  rw [cnt_ent hA]
  split <;> omega
theorem rm_ge : ∀ (v A : List Int), Asc A → ∀ k, cnt A k ≤ cnt (rm A v) k
  | [], _, _, _ => Nat.le_refl _
  | a :: v, A, hA, k => Nat.le_trans (ent_ge hA a k) (rm_ge v (ent A a) (asc_ent hA) k)
theorem not_t {p : P} {env : Env} {b : Bx} (h : p env b = some (.bool true)) : pUn dNot p env b = some (.bool false) := pUn_ok h rfl
end DL
set_option Elab.async false
set_option linter.all false
set_option maxRecDepth 100000
set_option maxHeartbeats 2000000
namespace DL
open PySem PySem.Spec PyProof.Rows
open L2 hiding St V
theorem rk_nil : Rk [] := fun x hx => by cases hx
end DL
set_option Elab.async false
set_option linter.all false
set_option maxRecDepth 100000
set_option maxHeartbeats 2000000
namespace DL
open PySem PySem.Spec PyProof.Rows
open L2 hiding St V
end DL
set_option Elab.async false
set_option linter.all false
set_option maxRecDepth 100000
set_option maxHeartbeats 2000000
namespace DL
open PySem PySem.Spec PyProof.Rows
open L2 hiding St V
end DL
set_option Elab.async false
set_option linter.all false
set_option maxRecDepth 100000
set_option maxHeartbeats 2000000
namespace DL
open PySem PySem.Spec PyProof.Rows
open L2 hiding St V
end DL
set_option Elab.async false
set_option linter.all false
set_option maxRecDepth 100000
set_option maxHeartbeats 4000000
namespace DL
open PySem PySem.Spec PyProof.Rows
open L2 hiding St V
theorem seqI_length (lo : Int) (n : Nat) : (seqI lo n).length = n := by simp [seqI]
end DL
set_option Elab.async false
set_option linter.all false
set_option maxRecDepth 100000
set_option maxHeartbeats 4000000
namespace DL
open PySem PySem.Spec PyProof.Rows
open L2 hiding St V
theorem good_nat {i : Int} (h0 : 0 ≤ i) (h : i < 1000) : Good 0 3 (.int i) := good_int h0 (by decide) (by decide) (by omega)
theorem good_nats {l : List Int} (h : ∀ x ∈ l, 0 ≤ x ∧ x < 1000) : Good 1 (l.length * 5 + 3) (eL l) := by
  have := good_list (j := 0) (n := 3) (ds := l.map PyData.int) fun d hd => by
    obtain ⟨x, hx, rfl⟩ := List.mem_map.mp hd
    exact good_nat (h x hx).1 (h x hx).2
  rwa [List.length_map] at this
theorem eqLN {a b : List Int} (h : ∀ x ∈ a, 0 ≤ x ∧ x < 1000) (k : ∀ x ∈ b, 0 ≤ x ∧ x < 1000) : dEq (eL a) (eL b) = some (.bool (decide (a = b))) := by
  have e : eqS (eL a) (eL b) = decide (a = b) := eqL_ints a b
  unfold dEq bothStr
  simp only [(good_nats h).ok (by decide), (good_nats k).ok (by decide), e]
  rfl
def tL (L : List (Int × List Int)) : List D := (L.map (·.2)).map eT
abbrev KX (v : List Int) (L : List (Int × List Int)) : Bx := [.live (eK (lnk v)), .live (.list (tL L))]
end DL
set_option Elab.async false
set_option linter.all false
set_option maxRecDepth 100000
set_option maxHeartbeats 4000000
namespace DL
open PySem PySem.Spec PyProof.Rows
open L2 hiding St V
mutual
theorem eqS_refl : ∀ d : D, plainD d = true → eqS d d = true
  | .none, _ => rfl
  | .bool a, _ => by simp [eqS]
  | .int a, _ => by simp [eqS]
  | .str a, _ => by simp [eqS]
  | .list xs, h => by rw [eqS]; exact eqL_refl xs h
  | .tuple xs, h => by rw [eqS]; exact eqL_refl xs h
  | .dict _, h => by cases h
theorem eqL_refl : ∀ ds : List D, plainD.plainL ds = true → eqS.eqL ds ds = true
  | [], _ => rfl
  | x :: xs, h => by
    have p := Bool.and_eq_true_iff.mp h
    rw [eqS.eqL, eqS_refl x p.1, eqL_refl xs p.2]; rfl
end
theorem ne_self {j n : Nat} {d : D} (h : Good j n d) (hj : j ≤ 64) : dNe d d = some (.bool false) := by
  unfold dNe
  split
  · rename_i p e
    have := (bothStr_some e)
    have e2 : p.1 = p.2 := by
      have := this.1.symm.trans this.2
      injection this
    simp [e2]
  · rw [h.ok hj]
    show some (PyData.bool (!eqS d d)) = _
    rw [eqS_refl d h.plain]; rfl
end DL
set_option Elab.async false
set_option linter.all false
set_option maxRecDepth 100000
set_option maxHeartbeats 4000000
namespace DL
open PySem PySem.Spec PyProof.Rows
open L2 hiding St V
theorem Rk.app {v w : List Int} (h : Rk v) (k : Rk w) : Rk (v ++ w) := fun x hx => (List.mem_append.mp hx).elim (h x) (k x)
theorem Rk.one {a : Int} (h : 1 ≤ a ∧ a ≤ 12) : Rk [a] := fun x hx => by rw [List.mem_singleton.mp hx]; exact h
theorem Rk.inr {v : List Int} (h : Rk v) (lo hi : Int) : Rk (inr lo hi v) := fun x hx => h x (List.mem_filter.mp hx).1
theorem lenL (v : List Int) : cLen [eL v] = some (.int v.length) := by simp [cLen]
theorem lenC (C : List (List Int)) : cLen [eC C] = some (.int C.length) := by simp [cLen]
end DL
set_option Elab.async false
set_option linter.all false
set_option maxRecDepth 100000
set_option maxHeartbeats 4000000
namespace DL
open PySem PySem.Spec PyProof.Rows
open L2 hiding St V
theorem pC_ok (d : D) (env : Env) (b : Bx) : pC d env b = some d := rfl
theorem plNil_ok (env : Env) (b : Bx) : plNil env b = some [] := rfl
theorem pTrue_ok (env : Env) (b : Bx) : pTrue env b = some (.bool true) := rfl
theorem g_l0 : gLstD [] = some (.list []) := rfl
theorem g_l1 (a : D) : gLstD [a] = some (.list [a]) := rfl
theorem g_l2 (a b : D) : gLstD [a, b] = some (.list [a, b]) := rfl
theorem g_l3 (a b c : D) : gLstD [a, b, c] = some (.list [a, b, c]) := rfl
theorem g_l4 (a b c d : D) : gLstD [a, b, c, d] = some (.list [a, b, c, d]) := rfl
theorem g_l5 (a b c d e : D) : gLstD [a, b, c, d, e] = some (.list [a, b, c, d, e]) := rfl
theorem g_l6 (a b c d e f : D) : gLstD [a, b, c, d, e, f] = some (.list [a, b, c, d, e, f]) := rfl
theorem g_t0 : gTupD [] = some (.tuple []) := rfl
theorem g_t1 (a : D) : gTupD [a] = some (.tuple [a]) := rfl
theorem g_t2 (a b : D) : gTupD [a, b] = some (.tuple [a, b]) := rfl
theorem g_t3 (a b c : D) : gTupD [a, b, c] = some (.tuple [a, b, c]) := rfl
theorem g_t4 (a b c d : D) : gTupD [a, b, c, d] = some (.tuple [a, b, c, d]) := rfl
theorem ix_l10 (a : D) : dIx (.list [a]) (.int 0) = some a := rfl
theorem ix_l20 (a b : D) : dIx (.list [a, b]) (.int 0) = some a := rfl
theorem ix_l21 (a b : D) : dIx (.list [a, b]) (.int 1) = some b := rfl
theorem ix_l30 (a b c : D) : dIx (.list [a, b, c]) (.int 0) = some a := rfl
theorem ix_l31 (a b c : D) : dIx (.list [a, b, c]) (.int 1) = some b := rfl
theorem ix_l32 (a b c : D) : dIx (.list [a, b, c]) (.int 2) = some c := rfl
theorem ix_t20 (a b : D) : dIx (.tuple [a, b]) (.int 0) = some a := rfl
theorem ix_t21 (a b : D) : dIx (.tuple [a, b]) (.int 1) = some b := rfl
theorem not_bt : dNot (.bool true) = some (.bool false) := rfl
theorem not_bf : dNot (.bool false) = some (.bool true) := rfl
theorem fK_10 {F : Fn} {x y z : D} (h : fP F [y, x] = some z) : fK [1, 0] F [x, y] = some z := h
theorem fK_01 {F : Fn} {x y z : D} (h : fP F [x, y] = some z) : fK [0, 1] F [x, y] = some z := h
theorem fK_0 {F : Fn} {x z : D} (h : fP F [x] = some z) : fK [0] F [x] = some z := h
theorem fK_210 {F : Fn} {x y u z : D} (h : fP F [u, y, x] = some z) : fK [2, 1, 0] F [x, y, u] = some z := h
theorem fK_120 {F : Fn} {x y u z : D} (h : fP F [y, u, x] = some z) : fK [1, 2, 0] F [x, y, u] = some z := h
theorem fK_201 {F : Fn} {x y u z : D} (h : fP F [u, x, y] = some z) : fK [2, 0, 1] F [x, y, u] = some z := h
theorem fK_021 {F : Fn} {x y u z : D} (h : fP F [x, u, y] = some z) : fK [0, 2, 1] F [x, y, u] = some z := h
theorem fK_102 {F : Fn} {x y u z : D} (h : fP F [y, x, u] = some z) : fK [1, 0, 2] F [x, y, u] = some z := h
theorem fK_012 {F : Fn} {x y u z : D} (h : fP F [x, y, u] = some z) : fK [0, 1, 2] F [x, y, u] = some z := h
theorem pOr_f {p q : P} {env : Env} {b : Bx} {z : D} (h1 : p env b = some (.bool false)) (h2 : q env b = some z) : pOr p q env b = some z := by rw [s_pOr, h1, Option.bind_some, s_truthB, s_pTruF]; exact h2
theorem pAnd_t {p q : P} {env : Env} {b : Bx} {z : D} (h1 : p env b = some (.bool true)) (h2 : q env b = some z) : pAnd p q env b = some z := by rw [s_pAnd, h1, Option.bind_some, s_truthB, s_pTruT]; exact h2
theorem seq_no {p : P} {s t : S} {env : Env} {b : Bx} {o : Option (Out × Bx)} (h : p env b = some (.bool false)) (k : t env b = o) : sSeq (sIf (lift p) s sNil) t env b = o := Eq.trans (sSeq_nx (Eq.trans (if_no h) rfl)) k
theorem seq_asg {f : Tg} {p : P} {t : S} {env e1 : Env} {b : Bx} {d : D} {o : Option (Out × Bx)} (h : p env b = some d) (g : f d env = some e1) (k : t e1 b = o) : sSeq (sAsg f (lift p)) t env b = o := sSeq_ok (sAsg_ok (lift_ok h) g) k
end DL
set_option Elab.async false
set_option linter.all false
set_option maxRecDepth 100000
set_option maxHeartbeats 4000000
namespace DL
open PySem PySem.Spec PyProof.Rows
open L2 hiding St V
local macro_rules | `(tactic| trivial) => `(tactic| first
  | (with_reducible apply lift_ok) <;> trivial
  | (with_reducible apply liftA_ok) <;> trivial
  | (with_reducible apply plCons_ok) <;> trivial
  | (with_reducible apply pVar_ok) <;> rfl
  | with_reducible exact pC_ok _ _ _
  | with_reducible exact plNil_ok _ _
  | with_reducible exact pTrue_ok _ _
  | (with_reducible apply pApp_ok) <;> trivial
  | (with_reducible apply pBin_ok) <;> trivial
  | (with_reducible apply pUn_ok) <;> trivial
  | (with_reducible apply plSeq_ok) <;> trivial
  | (with_reducible apply plOf_ok) <;> trivial
  | (with_reducible apply pOr_f) <;> trivial
  | (with_reducible first | apply fK_10 | apply fK_01 | apply fK_0 | apply fK_210 | apply fK_120 | apply fK_201 | apply fK_021 | apply fK_102 | apply fK_012) <;> trivial
  | with_reducible (refine Eq.symm (Eq.symm ?_); assumption)
  | with_reducible first
    | exact dAdd_i _ _ | exact dSub_i _ _ | exact dLt_i _ _ | exact dGt_i _ _ | exact dEq_i _ _ | exact dNe_i _ _ | exact dLe_i _ _ | exact dGe_i _ _
    | exact g_l0 | exact g_l1 _ | exact g_l2 _ _ | exact g_l3 _ _ _ | exact g_l4 _ _ _ _ | exact g_l5 _ _ _ _ _ | exact g_l6 _ _ _ _ _ _
    | exact g_t0 | exact g_t1 _ | exact g_t2 _ _ | exact g_t3 _ _ _ | exact g_t4 _ _ _ _
    | exact ix_l10 _ | exact ix_l20 _ _ | exact ix_l21 _ _ | exact ix_l30 _ _ _ | exact ix_l31 _ _ _ | exact ix_l32 _ _ _ | exact ix_t20 _ _ | exact ix_t21 _ _
    | exact not_bt | exact not_bf | exact cList_l _ | exact cList_t _ | exact cTuple_l _ | exact cTuple_t _ | exact seqOf_l _ | exact seqOf_t _ | exact lenL _ | exact lenC _
  | skip)
end DL
set_option Elab.async false
set_option linter.all false
set_option maxRecDepth 100000
set_option maxHeartbeats 4000000
namespace DL
open PySem PySem.Spec PyProof.Rows
open L2 hiding St V
local macro_rules | `(tactic| trivial) => `(tactic| first
  | (with_reducible apply lift_ok) <;> trivial
  | (with_reducible apply liftA_ok) <;> trivial
  | (with_reducible apply plCons_ok) <;> trivial
  | (with_reducible apply pVar_ok) <;> rfl
  | with_reducible exact pC_ok _ _ _
  | with_reducible exact plNil_ok _ _
  | with_reducible exact pTrue_ok _ _
  | (with_reducible apply pApp_ok) <;> trivial
  | (with_reducible apply pBin_ok) <;> trivial
  | (with_reducible apply pUn_ok) <;> trivial
  | (with_reducible apply plSeq_ok) <;> trivial
  | (with_reducible apply plOf_ok) <;> trivial
  | (with_reducible apply pOr_f) <;> trivial
  | (with_reducible first | apply fK_10 | apply fK_01 | apply fK_0 | apply fK_210 | apply fK_120 | apply fK_201 | apply fK_021 | apply fK_102 | apply fK_012) <;> trivial
  | with_reducible (refine Eq.symm (Eq.symm ?_); assumption)
  | with_reducible first
    | exact dAdd_i _ _ | exact dSub_i _ _ | exact dLt_i _ _ | exact dGt_i _ _ | exact dEq_i _ _ | exact dNe_i _ _ | exact dLe_i _ _ | exact dGe_i _ _
    | exact g_l0 | exact g_l1 _ | exact g_l2 _ _ | exact g_l3 _ _ _ | exact g_l4 _ _ _ _ | exact g_l5 _ _ _ _ _ | exact g_l6 _ _ _ _ _ _
    | exact g_t0 | exact g_t1 _ | exact g_t2 _ _ | exact g_t3 _ _ _ | exact g_t4 _ _ _ _
    | exact ix_l10 _ | exact ix_l20 _ _ | exact ix_l21 _ _ | exact ix_l30 _ _ _ | exact ix_l31 _ _ _ | exact ix_l32 _ _ _ | exact ix_t20 _ _ | exact ix_t21 _ _
    | exact not_bt | exact not_bf | exact cList_l _ | exact cList_t _ | exact cTuple_l _ | exact cTuple_t _ | exact seqOf_l _ | exact seqOf_t _ | exact lenL _ | exact lenC _
  | skip)
theorem any_crowd_g {env : Env} {b : Bx} {i k : Nat} {d : D} {n : Int} {ms : MA} (he : env[i]? = some (some (.bx k))) (ha : ms env b = some (.ok [.int n], b)) (hb : b[k]? = some (.live d)) (hd : Box3 d) (hn : 0 ≤ n) (hn2 : n ≤ 12) : ∃ c d', mCallB F__law_any_crowd i ms env b = some (.ok (eT c), b.set k (.live d')) ∧ Box3 d' ∧ Room c ∧ ∀ x ∈ c, x ≤ n := by
  suffices h : ∃ (c : List Int) (d' : D), F__law_any_crowd [.bx 0, .dat (.int n)] [.live d] = some (.ok (eT c), [.live d']) ∧ Box3 d' ∧ Room c ∧ ∀ x ∈ c, x ≤ n by
    obtain ⟨c, d', e, h⟩ := h
    exact ⟨c, d', callB_gen he ha hb e, h⟩
  obtain ⟨ys, b2, e2, ⟨d2, rfl, h2⟩, es, s, r⟩ := comp_keep (f := gN 2) (mc := (mBin dEq (mCallB F__law_take 0 (liftA (plCons (pC (.int 2)) plNil))) (lift (pC (.int 0))))) (me := lift (pVar 2))
    (env := [some (.bx 0), some (.dat (.int n)), none]) (fun b => ∃ d, b = [.live d] ∧ Box3 d) Eq ((seqI 1 n.toNat).map .int) [.live d] ⟨d, rfl, hd⟩ (by
      rintro x hx b ⟨d, rfl, h⟩
      obtain ⟨q, d', e, h', q0, q1⟩ := take_g (env := [some (.bx 0), some (.dat (.int n)), some (.dat x)]) (b := [.live d]) (i := 0) (k := 0) (n := 2) (ms := (liftA (plCons (pC (.int 2)) plNil))) rfl rfl rfl h (by decide) (by decide)
      exact ⟨_, rfl, .bool (q == 0), _, mBin_ok e rfl (dEq_i _ _), ⟨d', rfl, h'⟩, q == 0, rfl, fun _ => ⟨x, _, rfl, ⟨d', rfl, h'⟩, rfl⟩⟩)
  have := all2_eq r
  subst this
  obtain ⟨c, hc, rfl⟩ := List.sublist_map_iff.mp s
  have hm : ∀ x ∈ c, 1 ≤ x ∧ x ≤ n := fun x hx => by
    have := seqI_mem.mp (hc.subset hx)
    omega
  refine ⟨c, d2, ?_, h2, ⟨asc_sub (seqI_asc _ _) hc, fun x hx => by have := hm x hx; omega⟩, fun x hx => (hm x hx).2⟩
  have er : ∀ (x2 : Option Cel) (b : Bx), liftA (plOf range2 (plCons (pC (.int 1)) (plCons (pBin dAdd (pVar 1) (pC (.int 1))) plNil))) [some (.bx 0), some (.dat (.int n)), x2] b = some (.ok ((seqI 1 n.toNat).map .int), b) := fun x2 b => by
    refine liftA_ok (plOf_ok (plCons_ok rfl (plCons_ok (pBin_ok rfl rfl rfl) rfl)) ?_)
    rw [range2_ok (by omega) (by omega) (by omega) (by omega), rangeD_seq]
    have : (n + 1 - 1).toNat = n.toNat := by omega
    rw [this]
  unfold F__law_any_crowd
  exact Eq.trans (runF_rt (b := [.live d2]) (d := eT c) [some (.bx 0), some (.dat (.int n)), none] rfl rfl (sRet_ok (mApp_ok (maCons_ok (comp_row (er _ _) e2) maNil_ok) rfl))) rfl
end DL
set_option Elab.async false
set_option linter.all false
set_option maxRecDepth 100000
set_option maxHeartbeats 4000000
namespace DL
open PySem PySem.Spec PyProof.Rows
open L2 hiding St V
local macro_rules | `(tactic| trivial) => `(tactic| first
  | (with_reducible apply lift_ok) <;> trivial
  | (with_reducible apply liftA_ok) <;> trivial
  | (with_reducible apply plCons_ok) <;> trivial
  | (with_reducible apply pVar_ok) <;> rfl
  | with_reducible exact pC_ok _ _ _
  | with_reducible exact plNil_ok _ _
  | with_reducible exact pTrue_ok _ _
  | (with_reducible apply pApp_ok) <;> trivial
  | (with_reducible apply pBin_ok) <;> trivial
  | (with_reducible apply pUn_ok) <;> trivial
  | (with_reducible apply plSeq_ok) <;> trivial
  | (with_reducible apply plOf_ok) <;> trivial
  | (with_reducible apply pOr_f) <;> trivial
  | (with_reducible first | apply fK_10 | apply fK_01 | apply fK_0 | apply fK_210 | apply fK_120 | apply fK_201 | apply fK_021 | apply fK_102 | apply fK_012) <;> trivial
  | with_reducible (refine Eq.symm (Eq.symm ?_); assumption)
  | with_reducible first
    | exact dAdd_i _ _ | exact dSub_i _ _ | exact dLt_i _ _ | exact dGt_i _ _ | exact dEq_i _ _ | exact dNe_i _ _ | exact dLe_i _ _ | exact dGe_i _ _
    | exact g_l0 | exact g_l1 _ | exact g_l2 _ _ | exact g_l3 _ _ _ | exact g_l4 _ _ _ _ | exact g_l5 _ _ _ _ _ | exact g_l6 _ _ _ _ _ _
    | exact g_t0 | exact g_t1 _ | exact g_t2 _ _ | exact g_t3 _ _ _ | exact g_t4 _ _ _ _
    | exact ix_l10 _ | exact ix_l20 _ _ | exact ix_l21 _ _ | exact ix_l30 _ _ _ | exact ix_l31 _ _ _ | exact ix_l32 _ _ _ | exact ix_t20 _ _ | exact ix_t21 _ _
    | exact not_bt | exact not_bf | exact cList_l _ | exact cList_t _ | exact cTuple_l _ | exact cTuple_t _ | exact seqOf_l _ | exact seqOf_t _ | exact lenL _ | exact lenC _
  | skip)
def pow (v : List Int) : Nat → List Int
  | 0 => []
  | n + 1 => pow v n ++ v
theorem pow_rk {v : List Int} (hv : Rk v) : ∀ n, Rk (pow v n)
  | 0 => rk_nil
  | n + 1 => (pow_rk hv n).app hv
theorem pow_still {v : List Int} (hv : Rk v) {n : Nat} (h : lnk (pow v (n + 1)) = lnk (pow v n)) : ∀ k, lnk (pow v (n + k)) = lnk (pow v n)
  | 0 => rfl
  | k + 1 => by
    rw [← Nat.add_assoc, pow, lnk_app (pow_rk hv _).pos (pow_rk hv n).pos hv.pos hv.pos (pow_still hv h k) rfl]
    exact h
structure Calm (v : List Int) (s : Nat) : Prop where
  le : s ≤ (lnk v).length
  fix : lnk (pow v (s + 1)) = lnk (pow v s)
  lst : ∀ j, j < s → lnk (pow v (j + 1)) ≠ lnk (pow v j)
theorem Calm.min {v : List Int} (hv : Rk v) {s : Nat} (c : Calm v s) (n : Nat) : lnk (pow v (min n s)) = lnk (pow v n) := by
  by_cases h : n ≤ s
  · rw [Nat.min_eq_left h]
  · rw [Nat.min_eq_right (by omega)]
    have := pow_still hv c.fix (n - s)
    rw [show s + (n - s) = n by omega] at this
    exact this.symm
end DL
set_option Elab.async false
set_option linter.all false
set_option maxRecDepth 100000
set_option maxHeartbeats 4000000
namespace DL
open PySem PySem.Spec PyProof.Rows
open L2 hiding St V
local macro_rules | `(tactic| trivial) => `(tactic| first
  | (with_reducible apply lift_ok) <;> trivial
  | (with_reducible apply liftA_ok) <;> trivial
  | (with_reducible apply plCons_ok) <;> trivial
  | (with_reducible apply pVar_ok) <;> rfl
  | with_reducible exact pC_ok _ _ _
  | with_reducible exact plNil_ok _ _
  | with_reducible exact pTrue_ok _ _
  | (with_reducible apply pApp_ok) <;> trivial
  | (with_reducible apply pBin_ok) <;> trivial
  | (with_reducible apply pUn_ok) <;> trivial
  | (with_reducible apply plSeq_ok) <;> trivial
  | (with_reducible apply plOf_ok) <;> trivial
  | (with_reducible apply pOr_f) <;> trivial
  | (with_reducible first | apply fK_10 | apply fK_01 | apply fK_0 | apply fK_210 | apply fK_120 | apply fK_201 | apply fK_021 | apply fK_102 | apply fK_012) <;> trivial
  | with_reducible (refine Eq.symm (Eq.symm ?_); assumption)
  | with_reducible first
    | exact dAdd_i _ _ | exact dSub_i _ _ | exact dLt_i _ _ | exact dGt_i _ _ | exact dEq_i _ _ | exact dNe_i _ _ | exact dLe_i _ _ | exact dGe_i _ _
    | exact g_l0 | exact g_l1 _ | exact g_l2 _ _ | exact g_l3 _ _ _ | exact g_l4 _ _ _ _ | exact g_l5 _ _ _ _ _ | exact g_l6 _ _ _ _ _ _
    | exact g_t0 | exact g_t1 _ | exact g_t2 _ _ | exact g_t3 _ _ _ | exact g_t4 _ _ _ _
    | exact ix_l10 _ | exact ix_l20 _ _ | exact ix_l21 _ _ | exact ix_l30 _ _ _ | exact ix_l31 _ _ _ | exact ix_l32 _ _ _ | exact ix_t20 _ _ | exact ix_t21 _ _
    | exact not_bt | exact not_bf | exact cList_l _ | exact cList_t _ | exact cTuple_l _ | exact cTuple_t _ | exact seqOf_l _ | exact seqOf_t _ | exact lenL _ | exact lenC _
  | skip)
theorem good_rm {R : List Int} (h : Room R) : Good 1 63 (eT R) := (good_T h.rk).mono (Nat.le_refl _) (by have := h.len; omega)
end DL
set_option Elab.async false
set_option linter.all false
set_option maxRecDepth 100000
set_option maxHeartbeats 4000000
namespace DL
open PySem PySem.Spec PyProof.Rows
open L2 hiding St V
local macro_rules | `(tactic| trivial) => `(tactic| first
  | (with_reducible apply lift_ok) <;> trivial
  | (with_reducible apply liftA_ok) <;> trivial
  | (with_reducible apply plCons_ok) <;> trivial
  | (with_reducible apply pVar_ok) <;> rfl
  | with_reducible exact pC_ok _ _ _
  | with_reducible exact plNil_ok _ _
  | with_reducible exact pTrue_ok _ _
  | (with_reducible apply pApp_ok) <;> trivial
  | (with_reducible apply pBin_ok) <;> trivial
  | (with_reducible apply pUn_ok) <;> trivial
  | (with_reducible apply plSeq_ok) <;> trivial
  | (with_reducible apply plOf_ok) <;> trivial
  | (with_reducible apply pOr_f) <;> trivial
  | (with_reducible first | apply fK_10 | apply fK_01 | apply fK_0 | apply fK_210 | apply fK_120 | apply fK_201 | apply fK_021 | apply fK_102 | apply fK_012) <;> trivial
  | with_reducible (refine Eq.symm (Eq.symm ?_); assumption)
  | with_reducible first
    | exact dAdd_i _ _ | exact dSub_i _ _ | exact dLt_i _ _ | exact dGt_i _ _ | exact dEq_i _ _ | exact dNe_i _ _ | exact dLe_i _ _ | exact dGe_i _ _
    | exact g_l0 | exact g_l1 _ | exact g_l2 _ _ | exact g_l3 _ _ _ | exact g_l4 _ _ _ _ | exact g_l5 _ _ _ _ _ | exact g_l6 _ _ _ _ _ _
    | exact g_t0 | exact g_t1 _ | exact g_t2 _ _ | exact g_t3 _ _ _ | exact g_t4 _ _ _ _
    | exact ix_l10 _ | exact ix_l20 _ _ | exact ix_l21 _ _ | exact ix_l30 _ _ _ | exact ix_l31 _ _ _ | exact ix_l32 _ _ _ | exact ix_t20 _ _ | exact ix_t21 _ _
    | exact not_bt | exact not_bf | exact cList_l _ | exact cList_t _ | exact cTuple_l _ | exact cTuple_t _ | exact seqOf_l _ | exact seqOf_t _ | exact lenL _ | exact lenC _
  | skip)
def addH (r : Int) (A : List (List Int)) : List (List Int) := [] :: (A.map (r :: ·) ++ A.drop 1)
structure AllR (lo hi : Int) (A : List (List Int)) : Prop where
  srt : A.Pairwise (· < ·)
  mem : ∀ c, c ∈ A ↔ Asc c ∧ ∀ x ∈ c, lo ≤ x ∧ x ≤ hi
  hd : ∃ B, A = [] :: B
theorem asc_cons' {x : Int} {c : List Int} : Asc (x :: c) ↔ (∀ y ∈ c, x < y) ∧ Asc c := List.pairwise_cons
theorem addH_all {r hi : Int} {A : List (List Int)} (h : AllR (r + 1) hi A) (hr : r ≤ hi) : AllR r hi (addH r A) := by
  obtain ⟨B, rfl⟩ := h.hd
  have hs := List.pairwise_cons.mp h.srt
  have hB : ∀ b ∈ B, ∃ y b', b = y :: b' ∧ r + 1 ≤ y := fun b hb => by
    cases hq : b with
    | nil => exact absurd (hq ▸ hs.1 b hb) (List.lt_irrefl _)
    | cons y b' =>
      have := ((h.mem b).mp (List.mem_cons_of_mem _ hb)).2 y (by rw [hq]; exact List.mem_cons_self)
      exact ⟨y, b', rfl, this.1⟩
  refine ⟨?_, fun c => ?_, ⟨_, rfl⟩⟩
  · show (_ :: _).Pairwise _
    refine List.pairwise_cons.mpr ⟨fun c hc => ?_, List.pairwise_append.mpr ⟨?_, hs.2, fun a ha b hb => ?_⟩⟩
    · rcases List.mem_append.mp hc with hc | hc
      · obtain ⟨a, _, rfl⟩ := List.mem_map.mp hc
        exact List.nil_lt_cons _ _
      · exact hs.1 c hc
    · exact List.pairwise_map.mpr (h.srt.imp fun {a b} k => List.cons_lt_cons_iff.mpr (.inr ⟨rfl, k⟩))
    · obtain ⟨a, _, rfl⟩ := List.mem_map.mp ha
      obtain ⟨y, b', rfl, hy⟩ := hB b hb
      exact List.cons_lt_cons_iff.mpr (.inl (by omega))
  · show c ∈ [] :: (([] :: B).map (r :: ·) ++ B) ↔ _
    cases c with
    | nil => simp [Asc]
    | cons x c =>
      constructor
      · intro hc
        rcases List.mem_cons.mp hc with hc | hc
        · cases hc
        · rcases List.mem_append.mp hc with hc | hc
          · obtain ⟨a, ha, e⟩ := List.mem_map.mp hc
            cases e
            have k := (h.mem c).mp ha
            refine ⟨asc_cons'.mpr ⟨fun y hy => by have := k.2 y hy; omega, k.1⟩, fun y hy => ?_⟩
            rcases List.mem_cons.mp hy with rfl | hy
            · omega
            · have := k.2 y hy; omega
          · have k := (h.mem _).mp (List.mem_cons_of_mem _ hc)
            exact ⟨k.1, fun y hy => by have := k.2 y hy; omega⟩
      · rintro ⟨h1, h2⟩
        have hx := h2 x List.mem_cons_self
        have h1' := asc_cons'.mp h1
        refine List.mem_cons_of_mem _ (List.mem_append.mpr ?_)
        by_cases e : x = r
        · subst e
          refine .inl (List.mem_map.mpr ⟨c, (h.mem c).mpr ⟨h1'.2, fun y hy => ?_⟩, rfl⟩)
          have := h1'.1 y hy
          have := h2 y (List.mem_cons_of_mem _ hy)
          omega
        · refine .inr ?_
          have : x :: c ∈ [] :: B := (h.mem _).mpr ⟨h1, fun y hy => by
            have a := h2 y hy
            rcases List.mem_cons.mp hy with rfl | hy
            · omega
            · have := h1'.1 y hy
              omega⟩
          rcases List.mem_cons.mp this with k | k
          · cases k
          · exact k
def AF (s : Int) (l : List Nat) : List (List Int) := l.foldl (fun A (t : Nat) => addH (s - (t : Int)) A) [[]]
def AR (s : Nat) : List (List Int) := AF s (List.range s)
theorem AF_snoc (s : Int) (l : List Nat) (t : Nat) : AF s (l ++ [t]) = addH (s - (t : Int)) (AF s l) := by
  unfold AF
  rw [List.foldl_append]; rfl
theorem AF_all (s : Nat) : ∀ n, n ≤ s → AllR ((s : Int) - n + 1) s (AF s (List.range n))
  | 0, _ => ⟨List.pairwise_singleton _ _, fun c => by
      show c ∈ [[]] ↔ _
      constructor
      · intro h
        rw [List.mem_singleton.mp h]
        exact ⟨List.Pairwise.nil, fun x hx => by cases hx⟩
      · rintro ⟨_, h⟩
        cases c with
        | nil => exact List.mem_cons_self
        | cons x c => have := h x List.mem_cons_self; omega, ⟨[], rfl⟩⟩
  | n + 1, h => by
    have ih := AF_all s n (by omega)
    rw [List.range_succ, AF_snoc]
    have e : (s : Int) - ((n + 1 : Nat) : Int) + 1 = (s : Int) - n := by omega
    rw [e]
    exact addH_all ih (by omega)
theorem AR_all (s : Nat) : AllR 1 s (AR s) := by
  have := AF_all s s (Nat.le_refl _)
  rwa [show (s : Int) - s + 1 = 1 by omega] at this
theorem addH_len {r : Int} {A : List (List Int)} (h : 1 ≤ A.length) : (addH r A).length = 2 * A.length := by
  unfold addH
  simp only [List.length_cons, List.length_append, List.length_map, List.length_drop]
  omega
theorem AF_len (s : Int) (l : List Nat) : 1 ≤ (AF s l).length ∧ (AF s l).length = 2 ^ l.length := by
  suffices h : ∀ (l : List Nat) (A : List (List Int)), 1 ≤ A.length → (l.foldl (fun A (t : Nat) => addH (s - (t : Int)) A) A).length = A.length * 2 ^ l.length by
    have e := h l [[]] (by simp)
    have e : (AF s l).length = 2 ^ l.length := by rw [List.length_singleton, Nat.one_mul] at e; exact e
    exact ⟨by rw [e]; exact Nat.one_le_two_pow, e⟩
  intro l
  induction l with
  | nil => intro A _; simp
  | cons t l ih =>
    intro A hA
    rw [List.foldl_cons, ih _ (by rw [addH_len hA]; omega), addH_len hA, List.length_cons, Nat.pow_succ, Nat.mul_comm 2, Nat.mul_assoc, Nat.mul_comm 2]
theorem desc_r {s : Nat} (h : s ≤ 12) : range3 [.int s, .int 0, .int (-1)] = some ((List.range s).map fun t : Nat => PyData.int ((s : Int) - (t : Int))) := by
  have : s = 0 ∨ s = 1 ∨ s = 2 ∨ s = 3 ∨ s = 4 ∨ s = 5 ∨ s = 6 ∨ s = 7 ∨ s = 8 ∨ s = 9 ∨ s = 10 ∨ s = 11 ∨ s = 12 := by omega
  rcases this with rfl | rfl | rfl | rfl | rfl | rfl | rfl | rfl | rfl | rfl | rfl | rfl | rfl <;> kernel_rfl
theorem drop_1L (A : List (List Int)) {g : P} {env : Env} {b : Bx} (h : g env b = some (.list (A.map eT))) : pSl g (ppSome (pC (.int 1))) ppNone env b = some (.list ((A.drop 1).map eT)) := by
  unfold pSl
  rw [h, Option.bind_some]
  show some (PyData.list (cutL (A.map eT) (some 1) none)) = _
  cases A with
  | nil => rfl
  | cons x r =>
    have e : cutL ((x :: r).map eT) (some 1) none = r.map eT := by
      unfold cutL
      have e : HT.sIx ((x :: r).map eT).length 0 (some 1) = 1 := by
        have := HT.sIx_nat ((x :: r).map eT).length 0 1
        rw [List.length_map, List.length_cons] at this ⊢
        exact this.trans (by omega)
      rw [e]
      show (r.map eT).take (HT.sIx _ ((x :: r).map eT).length none - 1) = _
      rw [HT.sIx_none, List.length_map, List.length_cons, Nat.add_sub_cancel]
      exact List.take_of_length_le (by rw [List.length_map]; exact Nat.le_refl _)
    rw [e]; rfl
theorem all_rooms_r {s : Nat} (hs : s ≤ 12) : fP F_all_rooms [.int s] = some (.list ((AR s).map eT)) := by
  have hrg := desc_r hs
  obtain ⟨env2, b2, e2, x2, x3, rfl, rfl⟩ := loop_pre (f := gN 2) (enc := fun t : Nat => PyData.int ((s : Int) - (t : Int))) (body := (sAsg (gN 1) (lift (pBin dAdd (pBin dAdd (pApp gLstD (plCons (pApp gTupD plNil) plNil)) (pComp (plSeq (pVar 1)) [3] (gN 3) pTrue (pApp gTupD (plCons (pVar 2) (plStar (pVar 3) plNil))))) (pSl (pVar 1) (ppSome (pC (.int 1))) ppNone)))))
    (fun pre env b => ∃ x2 x3, env = [some (.dat (.int s)), some (.dat (.list ((AF s pre).map eT))), x2, x3] ∧ b = []) (List.range s) [] [some (.dat (.int s)), some (.dat (.list ((AF s []).map eT))), none, none] [] ⟨_, _, rfl, rfl⟩ (by
      rintro pre t post env b eb ⟨x2, x3, rfl, rfl⟩
      rw [List.nil_append] at eb
      have hpl : pre.length ≤ 11 := by
        have := congrArg List.length eb
        simp at this; omega
      obtain ⟨l1, l2⟩ := AF_len s pre
      have l3 : (AF s pre).length ≤ 2048 := by rw [l2]; exact Nat.pow_le_pow_right (by decide) hpl
      have mem : ∀ c ∈ AF s pre, c.length ≤ 12 := fun c hc => by
        have ep : pre = List.range pre.length := by
          have h1 : pre = (List.range s).take pre.length := by rw [eb]; simp
          have h2 : pre.length ≤ s := by have := congrArg List.length eb; simp at this; omega
          rw [List.take_range, Nat.min_eq_left h2] at h1
          exact h1
        have h2 : pre.length ≤ s := by have := congrArg List.length eb; simp at this; omega
        rw [ep] at hc
        have k := ((AF_all s pre.length h2).mem c).mp hc
        have rk : Room c := ⟨k.1, fun x hx => by have := k.2 x hx; omega⟩
        exact rk.len
      let E : Option Cel → Option Cel → Env := fun x2 x3 => [some (.dat (.int s)), some (.dat (.list ((AF s pre).map eT))), x2, x3]
      have q := pComp_enc (pi := plSeq (pVar 1)) (i := 3) (vs := [3]) (env := E (some (.dat (.int ((s : Int) - t)))) x3) (b := []) (pc := pTrue) (pe := (pApp gTupD (plCons (pVar 2) (plStar (pVar 3) plNil)))) (enc := eT) (dec := eT) (xs := AF s pre) (fun _ => true) (fun c => ((s : Int) - t) :: c) (by simp [E]) (plSeq_ok rfl rfl) (fun x _ => rfl) (fun c hc _ => by
        refine pApp_ok (ds := .int ((s : Int) - t) :: (c.map PyData.int ++ [])) rfl ?_
        rw [List.append_nil]
        exact tupD (by have := mem c hc; rw [List.length_cons, List.length_map]; exact Nat.le_trans (by omega : c.length + 1 ≤ 13) (by decide)))
      rw [filter_tt] at q
      have a1 : dAdd (.list [.tuple []]) (.list (((AF s pre).map fun c => ((s : Int) - t) :: c).map eT)) = some (.list ([.tuple []] ++ ((AF s pre).map fun c => ((s : Int) - t) :: c).map eT)) := addL (by rw [List.length_map, List.length_map]; exact Nat.le_trans (by show 1 + (AF s pre).length ≤ 2049; omega) (by decide))
      have a2 : dAdd (.list ([.tuple []] ++ ((AF s pre).map fun c => ((s : Int) - t) :: c).map eT)) (.list (((AF s pre).drop 1).map eT)) = some (.list ([.tuple []] ++ ((AF s pre).map fun c => ((s : Int) - t) :: c).map eT ++ ((AF s pre).drop 1).map eT)) := addL (by
        rw [List.length_append, List.length_map, List.length_map, List.length_map, List.length_drop]
        exact Nat.le_trans (by show 1 + (AF s pre).length + ((AF s pre).length - 1) ≤ 4096; omega) (by decide))
      have e3 : [PyData.tuple []] ++ ((AF s pre).map fun c => ((s : Int) - t) :: c).map eT ++ ((AF s pre).drop 1).map eT = (AF s (pre ++ [t])).map eT := by
        rw [AF_snoc]
        show _ = ([] :: _).map eT
        rw [List.map_cons, List.map_append]; rfl
      rw [e3] at a2
      refine ⟨_, rfl, E (some (.dat (.int ((s : Int) - t)))) x3 |>.set 1 (some (.dat (.list ((AF s (pre ++ [t])).map eT)))), _, sAsg_ok (lift_ok (pBin_ok (pBin_ok (pApp_ok (plCons_ok (pApp_ok rfl g_t0) rfl) (g_l1 _)) q a1) (drop_1L (AF s pre) rfl) a2)) rfl, _, _, rfl, rfl⟩)
  unfold F_all_rooms
  refine fP_rt (b := []) [some (.dat (.int s)), none, none, none] rfl rfl ?_
  refine seq_asg (d := .list [.tuple []]) (pApp_ok (plCons_ok (pApp_ok rfl g_t0) rfl) (g_l1 _)) rfl ?_
  refine sSeq_ok (sFor_ok (ds := (List.range s).map fun t : Nat => PyData.int ((s : Int) - (t : Int))) (b1 := []) (liftA_ok (plOf_ok (plCons_ok rfl (plCons_ok rfl (plCons_ok (pUn_ok rfl rfl) rfl))) hrg)) e2) ?_
  exact sRet_ok (lift_ok rfl)
def LF (l : List Int) : List (List Int) := l.foldl (fun L k => L ++ L.map (· ++ [k])) [[]]
theorem LF_snoc (l : List Int) (k : Int) : LF (l ++ [k]) = LF l ++ (LF l).map (· ++ [k]) := by
  unfold LF
  rw [List.foldl_append]; rfl
theorem LF_len : ∀ (l : List Int) (L : List (List Int)), (l.foldl (fun L k => L ++ L.map (· ++ [k])) L).length = L.length * 2 ^ l.length
  | [], L => by simp
  | k :: l, L => by
    rw [List.foldl_cons, LF_len l, List.length_append, List.length_map, List.length_cons, Nat.pow_succ, ← Nat.two_mul, Nat.mul_comm 2, Nat.mul_assoc, Nat.mul_comm 2]
theorem seqI_snoc (lo : Int) (n : Nat) : seqI lo (n + 1) = seqI lo n ++ [lo + n] := by
  unfold seqI
  rw [List.range_succ, List.map_append]; rfl
theorem asc_end {c : List Int} {k : Int} : Asc (c ++ [k]) ↔ Asc c ∧ ∀ x ∈ c, x < k := by
  unfold Asc
  rw [List.pairwise_append]
  constructor
  · rintro ⟨h1, _, h3⟩
    exact ⟨h1, fun x hx => h3 x hx k List.mem_cons_self⟩
  · rintro ⟨h1, h2⟩
    exact ⟨h1, List.pairwise_singleton _ _, fun a ha b hb => by rw [List.mem_singleton.mp hb]; exact h2 a ha⟩
theorem LF_all : ∀ n : Nat, (LF (seqI 1 n)).Nodup ∧ ∀ c, c ∈ LF (seqI 1 n) ↔ Asc c ∧ ∀ x ∈ c, 1 ≤ x ∧ x ≤ n
  | 0 => ⟨by show ([[]] : List (List Int)).Nodup; simp, fun c => by
      show c ∈ [[]] ↔ _
      constructor
      · intro h
        rw [List.mem_singleton.mp h]
        exact ⟨List.Pairwise.nil, fun x hx => by cases hx⟩
      · rintro ⟨_, h⟩
        cases c with
        | nil => exact List.mem_cons_self
        | cons x c => have := h x List.mem_cons_self; omega⟩
  | n + 1 => by
    obtain ⟨nd, mem⟩ := LF_all n
    rw [seqI_snoc, LF_snoc]
    refine ⟨List.nodup_append.mpr ⟨nd, ?_, fun a ha b hb e => ?_⟩, fun c => ?_⟩
    · exact List.Pairwise.map _ (fun a b h e => h (List.append_cancel_right e)) nd
    · subst e
      obtain ⟨b, _, rfl⟩ := List.mem_map.mp hb
      have := ((mem _).mp ha).2 (1 + (n : Int)) (by simp)
      omega
    · constructor
      · intro h
        rcases List.mem_append.mp h with h | h
        · have k := (mem c).mp h
          exact ⟨k.1, fun x hx => by have := k.2 x hx; omega⟩
        · obtain ⟨b, hb, rfl⟩ := List.mem_map.mp h
          have k := (mem b).mp hb
          refine ⟨asc_end.mpr ⟨k.1, fun x hx => by have := k.2 x hx; omega⟩, fun x hx => ?_⟩
          rcases List.mem_append.mp hx with hx | hx
          · have := k.2 x hx; omega
          · have := List.mem_singleton.mp hx; omega
      · rintro ⟨h1, h2⟩
        by_cases hm : 1 + (n : Int) ∈ c
        · obtain ⟨pre, post, rfl⟩ := List.append_of_mem hm
          have ep : post = [] := by
            cases post with
            | nil => rfl
            | cons y q =>
              have a := (List.pairwise_append.mp h1).2.1
              have := (List.pairwise_cons.mp a).1 y List.mem_cons_self
              have := h2 y (by simp)
              omega
          subst ep
          have k := asc_end.mp h1
          refine List.mem_append.mpr (.inr (List.mem_map.mpr ⟨pre, (mem pre).mpr ⟨k.1, fun x hx => ?_⟩, rfl⟩))
          have := k.2 x hx
          have := h2 x (by simp [hx])
          omega
        · refine List.mem_append.mpr (.inl ((mem c).mpr ⟨h1, fun x hx => ?_⟩))
          have := h2 x hx
          have : x ≠ 1 + (n : Int) := fun e => hm (e ▸ hx)
          omega
theorem LF_sort (n : Nat) : sortC (LF (seqI 1 n)) = AR n := by
  have a := AR_all n
  obtain ⟨nd, mem⟩ := LF_all n
  have nd2 : (AR n).Nodup := a.srt.imp fun {x y} h e => by subst e; exact List.lt_irrefl _ h
  exact sortC_eq ((List.perm_ext_iff_of_nodup nd nd2).mpr fun c => by rw [mem, a.mem]) (a.srt.imp fun h => List.le_of_lt h)
theorem law_rooms_r {s : Nat} (hs : s ≤ 12) : fP F__law_rooms [.int s] = some (.list ((AR s).map eT)) := by
  obtain ⟨env2, b2, e2, x2, x3, rfl, rfl⟩ := loop_pre (f := gN 2) (enc := PyData.int) (body := (sAsg (gN 1) (lift (pBin dAdd (pVar 1) (pComp (plSeq (pVar 1)) [3] (gN 3) pTrue (pBin dAdd (pVar 3) (pApp gTupD (plCons (pVar 2) plNil))))))))
    (fun pre env b => ∃ x2 x3, env = [some (.dat (.int s)), some (.dat (.list ((LF pre).map eT))), x2, x3] ∧ b = []) (seqI 1 s) [] [some (.dat (.int s)), some (.dat (.list ((LF []).map eT))), none, none] [] ⟨_, _, rfl, rfl⟩ (by
      rintro pre k post env b eb ⟨x2, x3, rfl, rfl⟩
      rw [List.nil_append] at eb
      have hpl : pre.length ≤ 11 := by
        have := congrArg List.length eb
        rw [seqI_length] at this
        simp at this; omega
      have l3 : (LF pre).length ≤ 2048 := by
        have := LF_len pre [[]]
        have : (LF pre).length = 2 ^ pre.length := by rw [List.length_singleton, Nat.one_mul] at this; exact this
        rw [this]; exact Nat.pow_le_pow_right (by decide) hpl
      have cl : ∀ (l : List Int) (L : List (List Int)) (m : Nat), (∀ c ∈ L, c.length ≤ m) → ∀ c ∈ l.foldl (fun L k => L ++ L.map (· ++ [k])) L, c.length ≤ m + l.length := by
        intro l
        induction l with
        | nil => intro L m h c hc; exact h c hc
        | cons k l ih =>
          intro L m h c hc
          have := ih _ (m + 1) (fun d hd => by
            rcases List.mem_append.mp hd with hd | hd
            · have := h d hd; omega
            · obtain ⟨e, he, rfl⟩ := List.mem_map.mp hd
              have := h e he
              simp; omega) c hc
          rw [List.length_cons]; omega
      have mem : ∀ c ∈ LF pre, c.length ≤ 11 := fun c hc => by
        have := cl pre [[]] 0 (fun d hd => by rw [List.mem_singleton.mp hd]; simp) c hc
        omega
      let E : Option Cel → Option Cel → Env := fun x2 x3 => [some (.dat (.int s)), some (.dat (.list ((LF pre).map eT))), x2, x3]
      have q := pComp_enc (pi := plSeq (pVar 1)) (i := 3) (vs := [3]) (env := E (some (.dat (.int k))) x3) (b := []) (pc := pTrue) (pe := (pBin dAdd (pVar 3) (pApp gTupD (plCons (pVar 2) plNil)))) (enc := eT) (dec := eT) (xs := LF pre) (fun _ => true) (fun c => c ++ [k]) (by simp [E]) (plSeq_ok rfl rfl) (fun x _ => rfl) (fun c hc _ => by
        refine pBin_ok rfl (pApp_ok (plCons_ok rfl rfl) (g_t1 _)) ?_
        have := addT (x := c.map PyData.int) (y := [PyData.int k]) (by have := mem c hc; rw [List.length_map]; exact Nat.le_trans (by show c.length + 1 ≤ 13; omega) (by decide))
        refine this.trans ?_
        show _ = some (PyData.tuple ((c ++ [k]).map PyData.int))
        rw [List.map_append]; rfl)
      rw [filter_tt] at q
      have a1 : dAdd (.list ((LF pre).map eT)) (.list (((LF pre).map fun c => c ++ [k]).map eT)) = some (.list ((LF pre).map eT ++ ((LF pre).map fun c => c ++ [k]).map eT)) := addL (by rw [List.length_map, List.length_map, List.length_map]; exact Nat.le_trans (by omega : _ ≤ 4096) (by decide))
      have e3 : (LF pre).map eT ++ ((LF pre).map fun c => c ++ [k]).map eT = (LF (pre ++ [k])).map eT := by
        rw [LF_snoc, List.map_append]
      rw [e3] at a1
      exact ⟨_, rfl, _, _, sAsg_ok (lift_ok (pBin_ok (x := .list ((LF pre).map eT)) rfl q a1)) rfl, some (.dat (.int k)), x3, rfl, rfl⟩)
  rw [List.nil_append] at e2
  have rg : range2 [.int 1, .int ((s : Int) + 1)] = some ((seqI 1 s).map PyData.int) := by
    rw [range2_ok (by omega) (by omega) (by omega) (by omega), rangeD_seq, show ((s : Int) + 1 - 1).toNat = s by omega]
  have so : cSorted [.list ((LF (seqI 1 s)).map eT)] = some (.list ((AR s).map eT)) := by
    show (sortD ((LF (seqI 1 s)).map eT)).map PyData.list = _
    rw [sortD_rows, LF_sort]; rfl
    have := LF_len (seqI 1 s) [[]]
    have : (LF (seqI 1 s)).length = 2 ^ s := by rw [List.length_singleton, Nat.one_mul, seqI_length] at this; exact this
    rw [this]
    exact Nat.le_trans (Nat.pow_le_pow_right (by decide) hs) (by decide)
  unfold F__law_rooms
  refine fP_rt (b := []) [some (.dat (.int s)), none, none, none] rfl rfl ?_
  refine seq_asg (d := .list [.tuple []]) (pApp_ok (plCons_ok (pApp_ok rfl g_t0) rfl) (g_l1 _)) rfl ?_
  refine sSeq_ok (sFor_ok (ds := (seqI 1 s).map PyData.int) (b1 := []) (liftA_ok (plOf_ok (plCons_ok rfl (plCons_ok (pBin_ok rfl rfl (dAdd_i _ _)) rfl)) rg)) e2) ?_
  exact sRet_ok (lift_ok (pApp_ok (plCons_ok rfl rfl) so))
end DL
set_option Elab.async false
set_option linter.all false
set_option maxRecDepth 100000
set_option maxHeartbeats 4000000
namespace DL
open PySem PySem.Spec PyProof.Rows
open L2 hiding St V
local macro_rules | `(tactic| trivial) => `(tactic| first
  | (with_reducible apply lift_ok) <;> trivial
  | (with_reducible apply liftA_ok) <;> trivial
  | (with_reducible apply plCons_ok) <;> trivial
  | (with_reducible apply pVar_ok) <;> rfl
  | with_reducible exact pC_ok _ _ _
  | with_reducible exact plNil_ok _ _
  | with_reducible exact pTrue_ok _ _
  | (with_reducible apply pApp_ok) <;> trivial
  | (with_reducible apply pBin_ok) <;> trivial
  | (with_reducible apply pUn_ok) <;> trivial
  | (with_reducible apply plSeq_ok) <;> trivial
  | (with_reducible apply plOf_ok) <;> trivial
  | (with_reducible apply pOr_f) <;> trivial
  | (with_reducible first | apply fK_10 | apply fK_01 | apply fK_0 | apply fK_210 | apply fK_120 | apply fK_201 | apply fK_021 | apply fK_102 | apply fK_012) <;> trivial
  | with_reducible (refine Eq.symm (Eq.symm ?_); assumption)
  | with_reducible first
    | exact dAdd_i _ _ | exact dSub_i _ _ | exact dLt_i _ _ | exact dGt_i _ _ | exact dEq_i _ _ | exact dNe_i _ _ | exact dLe_i _ _ | exact dGe_i _ _
    | exact g_l0 | exact g_l1 _ | exact g_l2 _ _ | exact g_l3 _ _ _ | exact g_l4 _ _ _ _ | exact g_l5 _ _ _ _ _ | exact g_l6 _ _ _ _ _ _
    | exact g_t0 | exact g_t1 _ | exact g_t2 _ _ | exact g_t3 _ _ _ | exact g_t4 _ _ _ _
    | exact ix_l10 _ | exact ix_l20 _ _ | exact ix_l21 _ _ | exact ix_l30 _ _ _ | exact ix_l31 _ _ _ | exact ix_l32 _ _ _ | exact ix_t20 _ _ | exact ix_t21 _ _
    | exact not_bt | exact not_bf | exact cList_l _ | exact cList_t _ | exact cTuple_l _ | exact cTuple_t _ | exact seqOf_l _ | exact seqOf_t _ | exact lenL _ | exact lenC _
  | skip)
theorem AR_mem {s : Nat} {c : List Int} : c ∈ AR s ↔ Asc c ∧ ∀ x ∈ c, 1 ≤ x ∧ x ≤ s := (AR_all s).mem c
theorem AR_room {s : Nat} (hs : s ≤ 12) {c : List Int} (h : c ∈ AR s) : Room c := ⟨(AR_mem.mp h).1, fun x hx => by have := (AR_mem.mp h).2 x hx; omega⟩
theorem AR_srt (s : Nat) : (AR s).Pairwise (· < ·) := (AR_all s).srt
theorem AR_le (s : Nat) : (AR s).Pairwise (· ≤ ·) := (AR_srt s).imp fun h => List.le_of_lt h
theorem AR_len (s : Nat) : (AR s).length = 2 ^ s := by
  have := (AF_len s (List.range s)).2
  rwa [List.length_range] at this
theorem AR_small {s : Nat} (hs : s ≤ 12) : (AR s).length ≤ 4096 := by
  rw [AR_len]
  exact Nat.le_trans (Nat.pow_le_pow_right (by decide) hs) (by decide)
theorem keyG_eT (c : List Int) : keyG (eT c) = some (.inr (c.map Sum.inl)) := by
  have e : eT c = kT (c.map Sum.inl) := by unfold kT; rw [List.map_map]; rfl
  rw [e, keyG_kT]
theorem keyG_inj {a b : List Int} : keyG (eT a) = keyG (eT b) ↔ a = b := by
  rw [keyG_eT, keyG_eT]
  constructor
  · intro h
    have h1 : a.map (Sum.inl : Int → Key) = b.map Sum.inl := Sum.inr.inj (Option.some.inj h)
    have inj : ∀ (a b : List Int), a.map (Sum.inl : Int → Key) = b.map Sum.inl → a = b := by
      intro a
      induction a with
      | nil => intro b h; cases b with
        | nil => rfl
        | cons y b => cases h
      | cons x a ih => intro b h; cases b with
        | nil => cases h
        | cons y b =>
          rw [List.map_cons, List.map_cons] at h
          injection h with h1 h2
          rw [Sum.inl.inj h1, ih b h2]
    exact inj a b h1
  · intro h; rw [h]
def ends (v : List Int) (l : List (List Int)) : List (List Int) := l.foldl (fun K r => if rm r v ∈ K then K else K ++ [rm r v]) []
theorem ends_snoc (v : List Int) (l : List (List Int)) (r : List Int) : ends v (l ++ [r]) = if rm r v ∈ ends v l then ends v l else ends v l ++ [rm r v] := by
  unfold ends; rw [List.foldl_append]; rfl
theorem ends_ind {P : List (List Int) → Prop} (h0 : P []) (h1 : ∀ l r, P l → P (l ++ [r])) (l : List (List Int)) : P l := by
  have : ∀ n, ∀ l : List (List Int), l.length = n → P l := fun n => by
    induction n with
    | zero => intro l hl; rw [List.length_eq_zero_iff.mp hl]; exact h0
    | succ n ih =>
      intro l hl
      have hne : l ≠ [] := fun e => by rw [e] at hl; cases hl
      have e := List.dropLast_concat_getLast hne
      rw [← e]
      exact h1 _ _ (ih _ (by rw [List.length_dropLast, hl]; rfl))
  exact this _ l rfl
theorem ends_mem (v : List Int) (l : List (List Int)) (e : List Int) : e ∈ ends v l ↔ ∃ r ∈ l, rm r v = e := by
  refine ends_ind (P := fun l => e ∈ ends v l ↔ ∃ r ∈ l, rm r v = e) (by simp [ends]) (fun l r ih => ?_) l
  rw [ends_snoc]
  by_cases h : rm r v ∈ ends v l
  · rw [if_pos h, ih]
    constructor
    · rintro ⟨q, hq, e⟩; exact ⟨q, List.mem_append_left _ hq, e⟩
    · rintro ⟨q, hq, eq⟩
      rcases List.mem_append.mp hq with hq | hq
      · exact ⟨q, hq, eq⟩
      · rw [List.mem_singleton.mp hq] at eq
        rw [eq] at h
        exact ih.mp h
  · rw [if_neg h]
    constructor
    · intro hm
      rcases List.mem_append.mp hm with hm | hm
      · obtain ⟨q, hq, eq⟩ := ih.mp hm; exact ⟨q, List.mem_append_left _ hq, eq⟩
      · exact ⟨r, List.mem_append_right _ (List.mem_singleton.mpr rfl), (List.mem_singleton.mp hm).symm⟩
    · rintro ⟨q, hq, eq⟩
      rcases List.mem_append.mp hq with hq | hq
      · exact List.mem_append_left _ (ih.mpr ⟨q, hq, eq⟩)
      · rw [List.mem_singleton.mp hq] at eq
        rw [← eq]
        exact List.mem_append_right _ (List.mem_singleton.mpr rfl)
theorem ends_nd (v : List Int) (l : List (List Int)) : (ends v l).Nodup := by
  refine ends_ind (P := fun l => (ends v l).Nodup) (by simp [ends]) (fun l r ih => ?_) l
  rw [ends_snoc]
  by_cases h : rm r v ∈ ends v l
  · rw [if_pos h]; exact ih
  · rw [if_neg h, List.nodup_append]
    exact ⟨ih, by simp, fun a ha b hb e => h (by rw [List.mem_singleton.mp hb] at e; rw [← e]; exact ha)⟩
theorem ends_len (v : List Int) (l : List (List Int)) : (ends v l).length ≤ l.length := by
  refine ends_ind (P := fun l => (ends v l).length ≤ l.length) (by simp [ends]) (fun l r ih => ?_) l
  rw [ends_snoc]
  split
  · rw [List.length_append]; omega
  · rw [List.length_append, List.length_append]; simp; omega
def esOf : List (List Int) → Nat → List (D × Nat)
  | [], _ => []
  | e :: r, n => (eT e, n) :: esOf r (n + 1)
theorem esOf_len : ∀ (K : List (List Int)) (n : Nat), (esOf K n).length = K.length
  | [], _ => rfl
  | e :: r, n => by show (esOf r (n + 1)).length + 1 = _; rw [esOf_len r]; rfl
theorem esOf_snoc : ∀ (K : List (List Int)) (n : Nat) (e : List Int), esOf (K ++ [e]) n = esOf K n ++ [(eT e, n + K.length)]
  | [], n, e => rfl
  | x :: r, n, e => by
    show (eT x, n) :: esOf (r ++ [e]) (n + 1) = (eT x, n) :: (esOf r (n + 1) ++ [(eT e, n + (r.length + 1))])
    rw [esOf_snoc r]
    congr 4
    omega
theorem lookN_esOf : ∀ (K : List (List Int)) (n : Nat) (e : List Int), (e ∉ K ∧ lookN (esOf K n) (eT e) = none) ∨ ∃ i, K[i]? = some e ∧ lookN (esOf K n) (eT e) = some (n + i)
  | [], n, e => .inl ⟨by simp, rfl⟩
  | x :: r, n, e => by
    by_cases h : x = e
    · subst h
      refine .inr ⟨0, rfl, ?_⟩
      unfold lookN
      show ((((eT x, n) :: esOf r (n + 1)).find? _).map _) = _
      rw [List.find?_cons_of_pos (by simp)]; rfl
    · have h1 : lookN (esOf (x :: r) n) (eT e) = lookN (esOf r (n + 1)) (eT e) := by
        unfold lookN
        show ((((eT x, n) :: esOf r (n + 1)).find? _).map _) = _
        rw [List.find?_cons_of_neg (by
          show ¬ decide (keyG (eT x) = keyG (eT e)) = true
          rw [decide_eq_true_eq, keyG_inj]; exact h)]
      rw [h1]
      rcases lookN_esOf r (n + 1) e with ⟨h2, h3⟩ | ⟨i, h2, h3⟩
      · exact .inl ⟨fun m => (List.mem_cons.mp m).elim (fun e => h e.symm) h2, h3⟩
      · exact .inr ⟨i + 1, by simpa using h2, by rw [h3]; congr 1; omega⟩
theorem putN_new {K : List (List Int)} {n m : Nat} {e : List Int} (h : e ∉ K) : putN (esOf K n) (eT e) m = esOf K n ++ [(eT e, m)] := by
  unfold putN
  rw [if_neg]
  have : ∀ (K : List (List Int)) (n : Nat), e ∉ K → ¬ ((esOf K n).any fun p => decide (keyG p.1 = keyG (eT e))) = true := by
    intro K
    induction K with
    | nil => intro n _; simp [esOf]
    | cons x r ih =>
      intro n h
      show ¬ ((((eT x, n) :: esOf r (n + 1)).any _) = true)
      rw [List.any_cons, Bool.or_eq_true, not_or]
      refine ⟨?_, ih (n + 1) fun m => h (List.mem_cons_of_mem _ m)⟩
      show ¬ decide (keyG (eT x) = keyG (eT e)) = true
      rw [decide_eq_true_eq, keyG_inj]
      intro z; exact h (z ▸ List.mem_cons_self)
  exact this K n h
def led (v : List Int) (e : List Int) (l : List (List Int)) : List (List Int) := l.filter fun r => decide (rm r v = e)
theorem led_snoc (v e : List Int) (l : List (List Int)) (r : List Int) : led v e (l ++ [r]) = led v e l ++ if rm r v = e then [r] else [] := by
  unfold led
  rw [List.filter_append]
  by_cases h : rm r v = e
  · rw [if_pos h, List.filter_cons_of_pos (by simpa using h)]; rfl
  · rw [if_neg h, List.filter_cons_of_neg (by simpa using h)]; rfl
theorem led_len (v e : List Int) (l : List (List Int)) : (led v e l).length ≤ l.length := List.length_filter_le _ _
def lL (l : List (List Int)) : D := .list (l.map eT)
structure HInv (v : List Int) (l : List (List Int)) (b : Bx) : Prop where
  len : b.length = (ends v l).length + 1
  zero : b[0]? = some (.refD (esOf (ends v l) 1))
  box : ∀ i e, (ends v l)[i]? = some e → b[i + 1]? = some (.live (lL (led v e l)))
theorem sSetH_ok {i k : Nat} {m : M} {gk : P} {env : Env} {b b1 : Bx} {d kd : D} {kk : List Key} {es : List (D × Nat)} (hm : m env b = some (.ok d, b1)) (he : env[i]? = some (some (.bx k))) (hk : gk env (b1 ++ [.live d]) = some kd) (hg : keyG kd = some (.inr kk)) (hb : (b1 ++ [Box.live d])[k]? = some (.refD es)) (hz : es.length < SZ) :
    sSetH i m gk env b = some (.nx env, (b1 ++ [Box.live d]).set k (.refD (putN es kd b1.length))) := by
  unfold sSetH
  rw [hm]
  dsimp only
  rw [he]
  dsimp only
  rw [hk]
  dsimp only
  rw [hg]
  dsimp only
  rw [hb]
  dsimp only
  rw [if_pos hz]
theorem pNotInH_ok {i k : Nat} {g : P} {env : Env} {b : Bx} {kd : D} {kk : List Key} {es : List (D × Nat)} (he : env[i]? = some (some (.bx k))) (hk : g env b = some kd) (hg : keyG kd = some (.inr kk)) (hb : b[k]? = some (.refD es)) :
    pNotInH i g env b = some (.bool (!(lookN es kd).isSome)) := by
  unfold pNotInH
  rw [he]
  dsimp only
  rw [hk]
  dsimp only
  rw [hg]
  dsimp only
  rw [hb]
theorem appH_ok {i k j : Nat} {g p : P} {env : Env} {b : Bx} {kd x : D} {kk : List Key} {es : List (D × Nat)} {ds : List D} (he : env[i]? = some (some (.bx k))) (hk : g env b = some kd) (hg : keyG kd = some (.inr kk)) (hb : b[k]? = some (.refD es)) (hl : lookN es kd = some j) (hj : b[j]? = some (.live (.list ds))) (hp : p env b = some x) (hz : ds.length < SZ) :
    sDo (mBopH fAppend (bDk i g) (liftA (plCons p plNil))) env b = some (.nx env, b.set j (.live (.list (ds ++ [x])))) := by
  have e1 : bDk i g env b = some (j, b) := by
    unfold bDk
    rw [he]
    dsimp only
    rw [hb]
    dsimp only
    rw [hk]
    dsimp only
    rw [hg]
    dsimp only
    rw [hl]
    rfl
  have e2 : mBopH fAppend (bDk i g) (liftA (plCons p plNil)) env b = some (.ok .none, b.set j (.live (.list (ds ++ [x])))) := by
    unfold mBopH
    rw [e1]
    dsimp only
    rw [hj]
    dsimp only
    rw [liftA_ok (plCons_ok hp rfl)]
    dsimp only
    rw [hj]
    dsimp only
    unfold fAppend
    dsimp only
    rw [if_pos hz]
    rfl
  unfold sDo
  rw [e2]
theorem heaps_step {v r : List Int} {l : List (List Int)} {b : Bx} {a0 a1 a3 : Option Cel} (I : HInv v l b) (hl : l.length < 100000) :
    ∃ b2, sSeq (sIf (lift (pNotInH 2 (pVar 4))) (sSetH 2 (lift (pApp gLstD plNil)) (pVar 4)) sNil) (sDo (mBopH fAppend (bDk 2 (pVar 4)) (liftA (plCons (pVar 3) plNil)))) [a0, a1, some (.bx 0), some (.dat (eT r)), some (.dat (eT (rm r v)))] b = some (.nx [a0, a1, some (.bx 0), some (.dat (eT r)), some (.dat (eT (rm r v)))], b2) ∧ HInv v (l ++ [r]) b2 := by
  have zl : (ends v l).length < SZ := Nat.lt_of_le_of_lt (ends_len v l) (Nat.lt_trans hl (by decide))
  have t := pNotInH_ok (i := 2) (k := 0) (g := pVar 4) (env := [a0, a1, some (.bx 0), some (.dat (eT r)), some (.dat (eT (rm r v)))]) (b := b) rfl rfl (keyG_eT _) I.zero
  have zz : ∀ e, (led v e l).length < SZ := fun e => Nat.lt_of_le_of_lt (led_len v e l) (Nat.lt_trans hl (by decide))
  rcases lookN_esOf (ends v l) 1 (rm r v) with ⟨hn, h1⟩ | ⟨i, hi, h1⟩
  · rw [h1] at t
    have b0 : (b ++ [Box.live (.list [])])[0]? = some (.refD (esOf (ends v l) 1)) := by
      rw [List.getElem?_append_left (by rw [I.len]; omega)]; exact I.zero
    have s1 := sSetH_ok (i := 2) (k := 0) (m := lift (pApp gLstD plNil)) (gk := pVar 4) (env := [a0, a1, some (.bx 0), some (.dat (eT r)), some (.dat (eT (rm r v)))]) (b := b) (d := .list []) (kd := eT (rm r v)) rfl rfl rfl (keyG_eT _) b0 (by rw [esOf_len]; exact zl)
    rw [putN_new hn] at s1
    have en : ends v (l ++ [r]) = ends v l ++ [rm r v] := by rw [ends_snoc, if_neg hn]
    have e0 : esOf (ends v l) 1 ++ [(eT (rm r v), b.length)] = esOf (ends v (l ++ [r])) 1 := by rw [en, esOf_snoc, I.len, Nat.add_comm 1]
    rw [e0] at s1
    generalize hb1 : (b ++ [Box.live (.list [])]).set 0 (.refD (esOf (ends v (l ++ [r])) 1)) = b1 at s1
    have l1 : b1.length = b.length + 1 := by rw [← hb1, List.length_set, List.length_append]; rfl
    have z1 : b1[0]? = some (.refD (esOf (ends v (l ++ [r])) 1)) := by rw [← hb1, List.getElem?_set_self (by rw [List.length_append, I.len]; omega)]
    have n1 : b1[b.length]? = some (.live (.list [])) := by
      rw [← hb1, List.getElem?_set_ne (by rw [I.len]; omega), List.getElem?_append_right (Nat.le_refl _), Nat.sub_self]; rfl
    have o1 : ∀ i, i + 1 < b.length → b1[i + 1]? = b[i + 1]? := fun i hi => by
      rw [← hb1, List.getElem?_set_ne (by omega), List.getElem?_append_left hi]
    have lk : lookN (esOf (ends v (l ++ [r])) 1) (eT (rm r v)) = some b.length := by
      rcases lookN_esOf (ends v (l ++ [r])) 1 (rm r v) with ⟨h2, _⟩ | ⟨i, h2, h3⟩
      · exact absurd (by rw [en]; exact List.mem_append_right _ (List.mem_singleton.mpr rfl)) h2
      · rw [h3, I.len]
        congr 1
        have hlt : i < (ends v l ++ [rm r v]).length := by rw [← en]; exact (List.getElem?_eq_some_iff.mp h2).1
        rcases Nat.lt_or_ge i (ends v l).length with q | q
        · rw [en, List.getElem?_append_left q] at h2
          exact absurd (List.mem_of_getElem? h2) hn
        · rw [List.length_append, List.length_singleton] at hlt
          omega
    have s2 := appH_ok (i := 2) (k := 0) (j := b.length) (g := pVar 4) (p := pVar 3) (env := [a0, a1, some (.bx 0), some (.dat (eT r)), some (.dat (eT (rm r v)))]) (b := b1) (x := eT r) rfl rfl (keyG_eT _) z1 lk n1 rfl (by show 0 < SZ; decide)
    refine ⟨_, sSeq_ok (Eq.trans (sIf_t (lift_ok t) rfl) s1) s2, ?_, ?_, fun i e hi => ?_⟩
    · rw [List.length_set, l1, I.len, en, List.length_append]; rfl
    · rw [List.getElem?_set_ne (by rw [I.len]; omega)]; exact z1
    · rw [led_snoc]
      rcases Nat.lt_or_ge i (ends v l).length with q | q
      · have hi' := hi
        rw [en, List.getElem?_append_left q] at hi'
        have hne : ¬ rm r v = e := fun z => hn (z ▸ List.mem_of_getElem? hi')
        rw [if_neg hne, List.append_nil, List.getElem?_set_ne (by rw [I.len]; omega), o1 i (by rw [I.len]; omega)]
        exact I.box i e hi'
      · rw [en, List.getElem?_append_right q] at hi
        have hi0 : i - (ends v l).length = 0 := by
          have := (List.getElem?_eq_some_iff.mp hi).1
          simp at this
          omega
        rw [hi0] at hi
        cases hi
        rw [if_pos rfl]
        have : i + 1 = b.length := by rw [I.len]; omega
        rw [this, List.getElem?_set_self (by rw [l1]; omega)]
        have nl : led v (rm r v) l = [] := List.filter_eq_nil_iff.mpr fun q hq => by
          rw [decide_eq_true_eq]
          intro z
          exact hn ((ends_mem v l _).mpr ⟨q, hq, z⟩)
        rw [nl]; rfl
  · rw [h1] at t
    have en : ends v (l ++ [r]) = ends v l := by rw [ends_snoc, if_pos (List.mem_of_getElem? hi)]
    have s2 := appH_ok (i := 2) (k := 0) (j := 1 + i) (g := pVar 4) (p := pVar 3) (env := [a0, a1, some (.bx 0), some (.dat (eT r)), some (.dat (eT (rm r v)))]) (b := b) (x := eT r) rfl rfl (keyG_eT _) I.zero h1 (by rw [Nat.add_comm]; exact I.box i _ hi) rfl (by rw [List.length_map]; exact zz _)
    refine ⟨_, sSeq_ok (Eq.trans (sIf_f (lift_ok t) rfl) rfl) s2, ?_, ?_, fun j e hj => ?_⟩
    · rw [List.length_set, I.len, en]
    · rw [List.getElem?_set_ne (by omega), en]; exact I.zero
    · rw [en] at hj
      rw [led_snoc]
      by_cases z : i = j
      · subst z
        rw [hi] at hj
        cases hj
        rw [if_pos rfl, Nat.add_comm i 1, List.getElem?_set_self (by rw [I.len]; have := (List.getElem?_eq_some_iff.mp hi).1; omega)]
        unfold lL
        rw [List.map_append]; rfl
      · have hne : ¬ rm r v = e := fun q => by
          subst q
          exact z ((List.getElem?_inj (List.getElem?_eq_some_iff.mp hi).1 (ends_nd v l)).mp (hi.trans hj.symm))
        rw [if_neg hne, List.append_nil, List.getElem?_set_ne (by omega)]
        exact I.box j e hj
theorem frzG_of {b : Bx} : ∀ xs : Bx, (∀ x ∈ xs, ∃ y, frzR b x = some y) → ∃ ys, frzG b xs = some ys ∧ ∀ (i : Nat) (x : Box), xs[i]? = some x → ∃ y, frzR b x = some y ∧ ys[i]? = some y
  | [], _ => ⟨[], rfl, fun i x h => by simp at h⟩
  | x :: xs, h => by
    obtain ⟨y, hy⟩ := h x List.mem_cons_self
    obtain ⟨ys, h1, h2⟩ := frzG_of xs fun z hz => h z (List.mem_cons_of_mem _ hz)
    refine ⟨y :: ys, by unfold frzG; rw [hy, h1]; rfl, fun i z hz => ?_⟩
    cases i with
    | zero => simp at hz; subst hz; exact ⟨y, hy, rfl⟩
    | succ i => exact h2 i z (by simpa using hz)
theorem datT_of {b : Bx} {f : List Int → D} : ∀ (K : List (List Int)) (n : Nat), (∀ i e, K[i]? = some e → boxD b (n + i) = some (f e)) → datT b (esOf K n) = some (K.map fun e => (eT e, f e))
  | [], n, _ => rfl
  | e :: r, n, h => by
    show ((boxD b n).bind fun d => (datT b (esOf r (n + 1))).map ((eT e, d) :: ·)) = _
    rw [show boxD b n = some (f e) from h 0 e rfl, Option.bind_some, datT_of r (n + 1) fun i e hi => by
      have := h (i + 1) e (by simpa using hi)
      rwa [show n + (i + 1) = n + 1 + i by omega] at this]
    rfl
def HT (v : List Int) (l : List (List Int)) : List (D × D) := (ends v l).map fun e => (eT e, lL (led v e l))
theorem heaps_end {v : List Int} {l : List (List Int)} {b : Bx} (I : HInv v l b) {i : Nat} {env : Env} (he : env[i]? = some (some (.bx 0))) : ∃ b2, mFrzG i env b = some (.ok (.dict ((.none, .none) :: HT v l)), b2) := by
  have bd : ∀ j e, (ends v l)[j]? = some e → boxD b (1 + j) = some (lL (led v e l)) := fun j e hj => by
    unfold boxD
    rw [Nat.add_comm, I.box j e hj]
  have d0 := datT_of (b := b) (f := fun e => lL (led v e l)) (ends v l) 1 bd
  have all : ∀ x ∈ b, ∃ y, frzR b x = some y := fun x hx => by
    obtain ⟨j, hj⟩ := List.getElem?_of_mem hx
    cases j with
    | zero =>
      rw [I.zero] at hj
      cases hj
      exact ⟨_, by show (datT b (esOf (ends v l) 1)).map _ = _; rw [d0]; rfl⟩
    | succ j =>
      have hlt : j < (ends v l).length := by
        have := (List.getElem?_eq_some_iff.mp hj).1
        rw [I.len] at this; omega
      rw [I.box j _ (List.getElem?_eq_getElem hlt)] at hj
      cases hj
      exact ⟨_, rfl⟩
  obtain ⟨b2, h1, h2⟩ := frzG_of b all
  obtain ⟨y, h3, h4⟩ := h2 0 _ I.zero
  have h5 : frzR b (.refD (esOf (ends v l) 1)) = some (.froz (.dict ((.none, .none) :: HT v l))) := by show (datT b (esOf (ends v l) 1)).map _ = _; rw [d0]; rfl
  rw [h5] at h3
  cases h3
  refine ⟨b2, ?_⟩
  unfold mFrzG
  rw [h1, Option.bind_some, he]
  dsimp only
  rw [h4]
theorem heaps_r {d : D} {v : List Int} (h : IsC d (chs (lnk v))) (hv : Rk v) {s : Nat} (hs : s ≤ 12) : fP F_heaps [.int s, d] = some (.dict ((.none, .none) :: HT v (AR s))) := by
  have a : fP F_all_rooms [.int s] = some (.list ((AR s).map eT)) := all_rooms_r hs
  let E : Option Cel → Option Cel → Env := fun x3 x4 => [some (.dat (.int s)), some (.dat d), some (.bx 0), x3, x4]
  obtain ⟨env5, b5, e5, x3, x4, rfl, I5⟩ := loop_pre (f := gN 3) (enc := eT) (body := (sSeq (sAsg (gN 4) (lift (pApp (fP F_result) (plCons (pVar 1) (plCons (pVar 3) plNil))))) (sSeq (sIf (lift (pNotInH 2 (pVar 4))) (sSetH 2 (lift (pApp gLstD plNil)) (pVar 4)) sNil) (sDo (mBopH fAppend (bDk 2 (pVar 4)) (liftA (plCons (pVar 3) plNil)))))))
    (fun pre env b => ∃ x3 x4, env = E x3 x4 ∧ HInv v pre b) (AR s) [] (E none none) [.refD []] ⟨_, _, rfl, rfl, rfl, fun i e hi => by simp [ends] at hi⟩ (by
      rintro pre r post env b e ⟨x3, x4, rfl, I⟩
      rw [List.nil_append] at e
      have hr : r ∈ AR s := by rw [e]; simp
      have hpl : pre.length < 100000 := by
        have h1 := AR_small hs
        rw [e, List.length_append] at h1
        omega
      have q := result_visits h (chs_prs (lnk_vk hv.pos)) (.inl rfl : IsSeq (eT r) r) (AR_room hs hr) hv
      obtain ⟨b2, h2, I2⟩ := heaps_step (r := r) (a0 := some (.dat (.int s))) (a1 := some (.dat d)) (a3 := none) I hpl
      exact ⟨_, rfl, _, _, sSeq_ok (sAsg_ok (lift_ok (pApp_ok (plCons_ok rfl (plCons_ok rfl rfl)) q)) rfl) h2, _, _, rfl, I2⟩)
  rw [List.nil_append] at I5
  obtain ⟨b6, e6⟩ := heaps_end I5 (i := 2) (env := E x3 x4) rfl
  unfold F_heaps
  refine fP_rt (b := b6) (E none none |>.set 2 none) rfl rfl ?_
  refine sSeq_ok (e1 := E none none) (b1 := [.refD []]) rfl ?_
  refine sSeq_ok (sFor_ok (ds := (AR s).map eT) (b1 := [.refD []]) (liftA_ok (plSeq_ok (pApp_ok (plCons_ok rfl rfl) a) rfl)) e5) ?_
  exact sRet_ok e6
def RS (v : List Int) (s : Nat) : List (List Int) := sortC (ends v (AR s))
theorem RS_mem {v : List Int} {s : Nat} {e : List Int} : e ∈ RS v s ↔ ∃ r ∈ AR s, rm r v = e := by
  unfold RS
  rw [(sortC_perm _).mem_iff, ends_mem]
theorem RS_len (v : List Int) (s : Nat) : (RS v s).length = (ends v (AR s)).length := (sortC_perm _).length_eq
theorem results_of_r {d : D} {v : List Int} (h : IsC d (chs (lnk v))) (hv : Rk v) {s : Nat} (hs : s ≤ 12) : fP F_results_of [.int s, d] = some (lL (RS v s)) := by
  have a := heaps_r h hv hs
  have e : cSortedT [.dict ((.none, .none) :: HT v (AR s))] = some (lL (RS v s)) := by
    show (sortD ((HT v (AR s)).map (·.1))).map PyData.list = _
    have : (HT v (AR s)).map (·.1) = (ends v (AR s)).map eT := by unfold HT; rw [List.map_map]; rfl
    rw [this, sortD_rows (Nat.le_trans (ends_len v _) (Nat.le_trans (AR_small hs) (by decide)))]
    rfl
  unfold F_results_of
  exact fP_rt (b := []) [some (.dat (.int s)), some (.dat d)] rfl rfl (sRet_ok (lift_ok (pApp_ok (plCons_ok (pApp_ok (plCons_ok rfl (plCons_ok rfl rfl)) a) rfl) e)))
theorem len_lL (l : List (List Int)) : cLen [lL l] = some (.int l.length) := by simp [cLen, lL]
theorem keep_rooms {pi : PL} {i : Nat} {pc : P} {env : Env} {b : Bx} {l : List (List Int)} (q : List Int → Bool) (hi : i < env.length) (h : pi env b = some (l.map eT)) (h1 : ∀ x ∈ l, pc ((wipeE env [i]).set i (some (.dat (eT x)))) b = some (.bool (q x))) :
    pComp pi [i] (gN i) pc (pVar i) env b = some (lL (l.filter q)) := by
  have := pComp_enc (pi := pi) (i := i) (vs := [i]) (pc := pc) (pe := pVar i) (env := env) (b := b) (enc := eT) (dec := eT) (xs := l) q id hi h h1 fun x _ _ => pVar_ok (by rw [List.getElem?_set_self (by rw [wipeE_length]; exact hi)]; rfl)
  rw [List.map_id] at this
  exact this
theorem range2_s {s : Nat} (hs : s ≤ 12) : range2 [.int 1, .int ((s : Int) + 1)] = some ((seqI 1 s).map PyData.int) := by
  rw [range2_ok (by omega) (by omega) (by omega) (by omega), rangeD_seq]
  congr 2
  congr 1
  omega
end DL
set_option Elab.async false
set_option linter.all false
set_option maxRecDepth 100000
set_option maxHeartbeats 4000000
namespace DL
open PySem PySem.Spec PyProof.Rows
open L2 hiding St V
local macro_rules | `(tactic| trivial) => `(tactic| first
  | (with_reducible apply lift_ok) <;> trivial
  | (with_reducible apply liftA_ok) <;> trivial
  | (with_reducible apply plCons_ok) <;> trivial
  | (with_reducible apply pVar_ok) <;> rfl
  | with_reducible exact pC_ok _ _ _
  | with_reducible exact plNil_ok _ _
  | with_reducible exact pTrue_ok _ _
  | (with_reducible apply pApp_ok) <;> trivial
  | (with_reducible apply pBin_ok) <;> trivial
  | (with_reducible apply pUn_ok) <;> trivial
  | (with_reducible apply plSeq_ok) <;> trivial
  | (with_reducible apply plOf_ok) <;> trivial
  | (with_reducible apply pOr_f) <;> trivial
  | (with_reducible first | apply fK_10 | apply fK_01 | apply fK_0 | apply fK_210 | apply fK_120 | apply fK_201 | apply fK_021 | apply fK_102 | apply fK_012) <;> trivial
  | with_reducible (refine Eq.symm (Eq.symm ?_); assumption)
  | with_reducible first
    | exact dAdd_i _ _ | exact dSub_i _ _ | exact dLt_i _ _ | exact dGt_i _ _ | exact dEq_i _ _ | exact dNe_i _ _ | exact dLe_i _ _ | exact dGe_i _ _
    | exact g_l0 | exact g_l1 _ | exact g_l2 _ _ | exact g_l3 _ _ _ | exact g_l4 _ _ _ _ | exact g_l5 _ _ _ _ _ | exact g_l6 _ _ _ _ _ _
    | exact g_t0 | exact g_t1 _ | exact g_t2 _ _ | exact g_t3 _ _ _ | exact g_t4 _ _ _ _
    | exact ix_l10 _ | exact ix_l20 _ _ | exact ix_l21 _ _ | exact ix_l30 _ _ _ | exact ix_l31 _ _ _ | exact ix_l32 _ _ _ | exact ix_t20 _ _ | exact ix_t21 _ _
    | exact not_bt | exact not_bf | exact cList_l _ | exact cList_t _ | exact cTuple_l _ | exact cTuple_t _ | exact seqOf_l _ | exact seqOf_t _ | exact lenL _ | exact lenC _
  | skip)
structure Rms (l : List (List Int)) : Prop where
  room : ∀ c ∈ l, Room c
  len : l.length ≤ 8192
theorem AR_rms {s : Nat} (hs : s ≤ 12) : Rms (AR s) := ⟨fun c hc => AR_room hs hc, Nat.le_trans (AR_small hs) (by decide)⟩
theorem Rms.filter {l : List (List Int)} (h : Rms l) (q : List Int → Bool) : Rms (l.filter q) := ⟨fun c hc => h.room c (List.mem_filter.mp hc).1, Nat.le_trans (List.length_filter_le _ _) h.len⟩
theorem RS_rms {s : Nat} (hs : s ≤ 12) {v : List Int} (hv : Rk v) : Rms (RS v s) := ⟨fun c hc => by
  obtain ⟨r, hr, rfl⟩ := RS_mem.mp hc
  exact (AR_room hs hr).rm hv, by rw [RS_len]; exact Nat.le_trans (ends_len _ _) (Nat.le_trans (AR_small hs) (by decide))⟩
theorem good_lL {l : List (List Int)} (h : Rms l) : Good 2 600000 (lL l) := by
  have g : ∀ d ∈ l.map eT, Good 1 63 d := fun d hd => by
    obtain ⟨c, hc, rfl⟩ := List.mem_map.mp hd
    exact good_rm (h.room c hc)
  refine (good_list g).mono (Nat.le_refl _) ?_
  rw [List.length_map]
  have := h.len
  omega
theorem eq_lL {a b : List (List Int)} (h : Rms a) (k : Rms b) : dEq (lL a) (lL b) = some (.bool (decide (a = b))) := by
  have e : eqS (lL a) (lL b) = decide (a = b) := eqL_tups a b
  have g1 := (good_lL h).ok (by decide)
  have g2 := (good_lL k).ok (by decide)
  unfold lL at g1 g2 e ⊢
  unfold dEq bothStr
  simp only [g1, g2, e]
  rfl
theorem ne_lL {a b : List (List Int)} (h : Rms a) (k : Rms b) : dNe (lL a) (lL b) = some (.bool (!decide (a = b))) := by
  have e : eqS (lL a) (lL b) = decide (a = b) := eqL_tups a b
  have g1 := (good_lL h).ok (by decide)
  have g2 := (good_lL k).ok (by decide)
  unfold lL at g1 g2 e ⊢
  unfold dNe bothStr
  simp only [g1, g2, e]
  rfl
theorem in_lL {l : List (List Int)} {c : List Int} (h : Rms l) (hc : Room c) : dIn (eT c) (lL l) = some (.bool (decide (c ∈ l))) := by
  have g1 := (good_lL h).ok (by decide)
  have g2 := (good_rm hc).ok (by decide)
  unfold lL at g1 ⊢
  show (if okD (eT c) && okD (.list (l.map eT)) then some ((l.map eT).any fun z => PyData.eqv z (eT c)) else none).map PyData.bool = _
  rw [g1, g2]
  show some (PyData.bool ((l.map eT).any fun z => PyData.eqv z (eT c))) = _
  congr 2
  rw [List.any_map]
  have : ∀ y : List Int, ((fun z => PyData.eqv z (eT c)) ∘ eT) y = decide (y = c) := fun y => by
    show PyData.eqv (eT y) (eT c) = _
    rw [← eqS_eq, eqS_T]
  rw [show ((fun z => PyData.eqv z (eT c)) ∘ eT) = fun y => decide (y = c) from funext this]
  rw [Bool.eq_iff_iff, List.any_eq_true, decide_eq_true_eq]
  constructor
  · rintro ⟨x, hx, e⟩
    rw [decide_eq_true_eq] at e
    exact e ▸ hx
  · intro hx; exact ⟨c, hx, by simp⟩
theorem notIn_lL {l : List (List Int)} {c : List Int} (h : Rms l) (hc : Room c) : dNotIn (eT c) (lL l) = some (.bool (!decide (c ∈ l))) := by
  have := in_lL h hc
  unfold dIn at this
  unfold dNotIn
  cases hq : inD (eT c) (lL l) with
  | none => rw [hq] at this; cases this
  | some q => rw [hq] at this; cases this; rfl
theorem sorted_lL {l : List (List Int)} (h : l.length ≤ 100000) : cSorted [lL l] = some (lL (sortC l)) := by
  show (sortD (l.map eT)).map PyData.list = _
  rw [sortD_rows (Nat.le_trans h (by decide))]
  rfl
theorem add_lL {a b : List (List Int)} (h : a.length + b.length ≤ 100000) : dAdd (lL a) (lL b) = some (lL (a ++ b)) := by
  unfold lL
  rw [addL (by rw [List.length_map, List.length_map]; exact Nat.le_trans h (by decide)), List.map_append]
end DL
set_option Elab.async false
set_option linter.all false
set_option maxRecDepth 100000
set_option maxHeartbeats 4000000
namespace DL
open PySem PySem.Spec PyProof.Rows
open L2 hiding St V
local macro_rules | `(tactic| trivial) => `(tactic| first
  | (with_reducible apply lift_ok) <;> trivial
  | (with_reducible apply liftA_ok) <;> trivial
  | (with_reducible apply plCons_ok) <;> trivial
  | (with_reducible apply pVar_ok) <;> rfl
  | with_reducible exact pC_ok _ _ _
  | with_reducible exact plNil_ok _ _
  | with_reducible exact pTrue_ok _ _
  | (with_reducible apply pApp_ok) <;> trivial
  | (with_reducible apply pBin_ok) <;> trivial
  | (with_reducible apply pUn_ok) <;> trivial
  | (with_reducible apply plSeq_ok) <;> trivial
  | (with_reducible apply plOf_ok) <;> trivial
  | (with_reducible apply pOr_f) <;> trivial
  | (with_reducible first | apply fK_10 | apply fK_01 | apply fK_0 | apply fK_210 | apply fK_120 | apply fK_201 | apply fK_021 | apply fK_102 | apply fK_012) <;> trivial
  | with_reducible (refine Eq.symm (Eq.symm ?_); assumption)
  | with_reducible first
    | exact dAdd_i _ _ | exact dSub_i _ _ | exact dLt_i _ _ | exact dGt_i _ _ | exact dEq_i _ _ | exact dNe_i _ _ | exact dLe_i _ _ | exact dGe_i _ _
    | exact g_l0 | exact g_l1 _ | exact g_l2 _ _ | exact g_l3 _ _ _ | exact g_l4 _ _ _ _ | exact g_l5 _ _ _ _ _ | exact g_l6 _ _ _ _ _ _
    | exact g_t0 | exact g_t1 _ | exact g_t2 _ _ | exact g_t3 _ _ _ | exact g_t4 _ _ _ _
    | exact ix_l10 _ | exact ix_l20 _ _ | exact ix_l21 _ _ | exact ix_l30 _ _ _ | exact ix_l31 _ _ _ | exact ix_l32 _ _ _ | exact ix_t20 _ _ | exact ix_t21 _ _
    | exact not_bt | exact not_bf | exact cList_l _ | exact cList_t _ | exact cTuple_l _ | exact cTuple_t _ | exact seqOf_l _ | exact seqOf_t _ | exact lenL _ | exact lenC _
  | skip)
theorem still {x : List Int} (hx : Asc x) : ∀ v : List Int, rm x v = x ↔ ∀ a ∈ v, a ∈ x := fun v => by
  constructor
  · induction v with
    | nil => intro _ a ha; cases ha
    | cons a v ih =>
      intro h
      have h' : rm (ent x a) v = x := h
      have e : ent x a = x := cnt_ext (asc_ent hx) hx fun k => Nat.le_antisymm (by
        have := rm_ge v (ent x a) (asc_ent hx) k
        rwa [h'] at this) (ent_ge hx a k)
      rw [e] at h'
      intro b hb
      rcases List.mem_cons.mp hb with rfl | hb
      · rw [← e]; exact self_ent _ _
      · exact ih h' b hb
  · exact fun h => rm_idle hx h
theorem filter_or {α : Type} (p q : α → Bool) (h : ∀ x, p x = true → q x = false) : ∀ l : List α, (l.filter p ++ l.filter q).Perm (l.filter fun x => p x || q x)
  | [] => .nil
  | x :: l => by
    have ih := filter_or p q h l
    cases hp : p x with
    | true =>
      have hq := h x hp
      rw [List.filter_cons_of_pos hp, List.filter_cons_of_neg (by simp [hq]), List.filter_cons_of_pos (by simp [hp])]
      exact ih.cons x
    | false =>
      rw [List.filter_cons_of_neg (by simp [hp])]
      cases hq : q x with
      | true =>
        rw [List.filter_cons_of_pos hq, List.filter_cons_of_pos (by simp [hq])]
        exact List.perm_middle.trans (ih.cons x)
      | false =>
        rw [List.filter_cons_of_neg (by simp [hq]), List.filter_cons_of_neg (by simp [hp, hq])]
        exact ih
def up (s : Nat) : List Int := seqI 1 s
end DL
set_option Elab.async false
set_option linter.all false
set_option maxRecDepth 100000
set_option maxHeartbeats 4000000
namespace DL
open PySem PySem.Spec PyProof.Rows
open L2 hiding St V
local macro_rules | `(tactic| trivial) => `(tactic| first
  | (with_reducible apply lift_ok) <;> trivial
  | (with_reducible apply liftA_ok) <;> trivial
  | (with_reducible apply plCons_ok) <;> trivial
  | (with_reducible apply pVar_ok) <;> rfl
  | with_reducible exact pC_ok _ _ _
  | with_reducible exact plNil_ok _ _
  | with_reducible exact pTrue_ok _ _
  | (with_reducible apply pApp_ok) <;> trivial
  | (with_reducible apply pBin_ok) <;> trivial
  | (with_reducible apply pUn_ok) <;> trivial
  | (with_reducible apply plSeq_ok) <;> trivial
  | (with_reducible apply plOf_ok) <;> trivial
  | (with_reducible apply pOr_f) <;> trivial
  | (with_reducible first | apply fK_10 | apply fK_01 | apply fK_0 | apply fK_210 | apply fK_120 | apply fK_201 | apply fK_021 | apply fK_102 | apply fK_012) <;> trivial
  | with_reducible (refine Eq.symm (Eq.symm ?_); assumption)
  | with_reducible first
    | exact dAdd_i _ _ | exact dSub_i _ _ | exact dLt_i _ _ | exact dGt_i _ _ | exact dEq_i _ _ | exact dNe_i _ _ | exact dLe_i _ _ | exact dGe_i _ _
    | exact g_l0 | exact g_l1 _ | exact g_l2 _ _ | exact g_l3 _ _ _ | exact g_l4 _ _ _ _ | exact g_l5 _ _ _ _ _ | exact g_l6 _ _ _ _ _ _
    | exact g_t0 | exact g_t1 _ | exact g_t2 _ _ | exact g_t3 _ _ _ | exact g_t4 _ _ _ _
    | exact ix_l10 _ | exact ix_l20 _ _ | exact ix_l21 _ _ | exact ix_l30 _ _ _ | exact ix_l31 _ _ _ | exact ix_l32 _ _ _ | exact ix_t20 _ _ | exact ix_t21 _ _
    | exact not_bt | exact not_bf | exact cList_l _ | exact cList_t _ | exact cTuple_l _ | exact cTuple_t _ | exact seqOf_l _ | exact seqOf_t _ | exact lenL _ | exact lenC _
  | skip)
theorem compP_any {α β : Type} {f : Tg} {pc pe : P} {env : Env} {b : Bx} {enc : α → D} {dec : β → D} {E : α → Env} {q : α → Bool} {g : α → β} : ∀ (xs : List α), (∀ x ∈ xs, f (enc x) env = some (E x)) →
    (∀ x ∈ xs, pc (E x) b = some (.bool (q x))) → (∀ x ∈ xs, q x = true → pe (E x) b = some (dec (g x))) → compP f pc pe env b (xs.map enc) = some (((xs.filter q).map g).map dec)
  | [], _, _, _ => rfl
  | x :: xs, h0, h1, h2 => by
    have ih := compP_any xs (fun y hy => h0 y (List.mem_cons_of_mem _ hy)) (fun y hy => h1 y (List.mem_cons_of_mem _ hy)) fun y hy => h2 y (List.mem_cons_of_mem _ hy)
    rw [List.map_cons, compP, ih, h0 x List.mem_cons_self, Option.bind_some, h1 x List.mem_cons_self, Option.bind_some, s_truthB, Option.bind_some]
    cases hq : q x with
    | true =>
      rw [List.filter_cons_of_pos hq]
      dsimp only
      rw [h2 x List.mem_cons_self hq]
      simp
    | false =>
      rw [List.filter_cons_of_neg (by rw [hq]; exact Bool.false_ne_true)]
def encZ {α : Type} (enc : α → D) (p : α × Nat) : D := .tuple [.int (p.2 : Nat), enc p.1]
theorem enumD_enc {α : Type} (enc : α → D) (xs : List α) : enumD (xs.map enc) = xs.zipIdx.map (encZ enc) := by
  unfold enumD
  rw [List.zipIdx_map, List.map_map]
  rfl
theorem pComp_en {α β : Type} {p : P} {i j : Nat} {pc pe : P} {env : Env} {b : Bx} {enc : α → D} {dec : β → D} {xs : List α} {d : D} (q : α × Nat → Bool) (g : α × Nat → β) (hi : i < env.length) (hj : j < env.length) (h : p env b = some d) (hd : d = .list (xs.map enc) ∨ d = .tuple (xs.map enc))
    (h1 : ∀ x ∈ xs.zipIdx, pc (((wipeE env [i, j]).set i (some (.dat (.int (x.2 : Nat))))).set j (some (.dat (enc x.1)))) b = some (.bool (q x))) (h2 : ∀ x ∈ xs.zipIdx, q x = true → pe (((wipeE env [i, j]).set i (some (.dat (.int (x.2 : Nat))))).set j (some (.dat (enc x.1)))) b = some (dec (g x))) :
    pComp (plOf enumA (plCons p plNil)) [i, j] (gT 2 (gsCons (gN i) (gsCons (gN j) gsNil))) pc pe env b = some (.list (((xs.zipIdx.filter q).map g).map dec)) := by
  have e : plOf enumA (plCons p plNil) env b = some (xs.zipIdx.map (encZ enc)) := by
    refine plOf_ok (plCons_ok h rfl) ?_
    rcases hd with rfl | rfl
    · show some (enumD _) = _; rw [enumD_enc]
    · show some (enumD _) = _; rw [enumD_enc]
  have q := compP_any (f := gT 2 (gsCons (gN i) (gsCons (gN j) gsNil))) (env := wipeE env [i, j]) (b := b) (enc := encZ enc) (dec := dec) (E := fun x => ((wipeE env [i, j]).set i (some (.dat (.int (x.2 : Nat))))).set j (some (.dat (enc x.1)))) (pc := pc) (pe := pe) (q := q) (g := g) xs.zipIdx (fun x _ => by
    show ((gN i (.int (x.2 : Nat)) (wipeE env [i, j])).bind fun env => (gN j (enc x.1) env).bind fun env => some env) = _
    unfold gN
    rw [if_pos (by rw [wipeE_length]; exact hi), Option.bind_some]
    rw [if_pos (by rw [List.length_set, wipeE_length]; exact hj)]
    rfl) h1 h2
  rw [pComp_a, e, Option.bind_some, q]
  rfl
def gn : List Int → List Int → List (Option Int)
  | _, [] => []
  | R, a :: v => goneI R a :: gn (ent R a) v
theorem gn_len (R v : List Int) : (gn R v).length = v.length := by
  induction v generalizing R with
  | nil => rfl
  | cons a v ih => show (_ :: _).length = _; rw [List.length_cons, ih]; rfl
theorem along_at (R v : List Int) (i : Nat) (h : i ≤ v.length) : (along R v)[i]? = some (rm R (v.take i)) := by
  induction v generalizing R i with
  | nil => have : i = 0 := by simpa using h
           subst this; rfl
  | cons a v ih => cases i with
    | zero => rfl
    | succ i => exact ih (ent R a) i (by simpa using h)
theorem gn_at (R v : List Int) (i : Nat) : (gn R v)[i]? = v[i]?.map fun a => goneI (rm R (v.take i)) a := by
  induction v generalizing R i with
  | nil => rfl
  | cons a v ih => cases i with
    | zero => rfl
    | succ i => exact ih (ent R a) i
theorem gn_take (R v : List Int) (n : Nat) : gn R (v.take n) = (gn R v).take n := by
  induction v generalizing R n with
  | nil => simp [gn]
  | cons a v ih => cases n with
    | zero => rfl
    | succ n => show _ :: gn (ent R a) (v.take n) = _ :: (gn (ent R a) v).take n; rw [ih]
theorem zipIdx_at {α : Type} {l : List α} {x : α × Nat} (h : x ∈ l.zipIdx) : l[x.2]? = some x.1 := by
  obtain ⟨a, i⟩ := x
  simpa [List.mk_mem_zipIdx_iff_getElem?] using h
theorem gn_zip (R v : List Int) : (v.zipIdx.map fun p => goneI (rm R (v.take p.2)) p.1) = gn R v := by
  refine List.ext_getElem? fun i => ?_
  rw [gn_at, List.getElem?_map, List.getElem?_zipIdx]
  cases v[i]? with
  | none => rfl
  | some a => simp
def dep (R v : List Int) : List (Int × Int) := ((gn R v).zipIdx.filter fun p => p.1.isSome).map fun p => ((p.2 : Int), p.1.getD 0)
def eP2 (p : Int × Int) : D := .tuple [.int p.1, .int p.2]
theorem dIsNot_opt (o : Option Int) : dIsNot (optD o) .none = some (.bool o.isSome) := by cases o <;> rfl
theorem departures_r {s t : D} {R v : List Int} (h : IsSeq s R) (hR : Room R) (ht : IsSeq t v) (hv : Rk v) (hl : v.length ≤ 10000) : fP F_departures [s, t] = some (.list ((dep R v).map eP2)) := by
  have al := rooms_along_r h hR ht hv hl
  let E : Option Cel → Option Cel → Env := fun x2 x3 => [some (.dat s), some (.dat t), x2, x3, none, none]
  let C2 : Option Cel := some (.dat (.list ((along R v).map eT)))
  have htd : t = .list (v.map PyData.int) ∨ t = .tuple (v.map PyData.int) := by
    rcases ht with rfl | rfl
    · exact .inr rfl
    · exact .inl rfl
  have e3 := pComp_en (p := pVar 1) (i := 4) (j := 5) (pc := pTrue) (pe := (pApp (fP F_leaver) (plCons (pBin dIx (pVar 2) (pVar 4)) (plCons (pVar 5) plNil)))) (env := E C2 none) (b := []) (enc := PyData.int) (dec := optD) (xs := v) (d := t) (fun _ => true) (fun p => goneI (rm R (v.take p.2)) p.1) (by simp [E]) (by simp [E]) rfl htd (fun _ _ => rfl) (fun x hx _ => by
    have hx := zipIdx_at hx
    have hlt : x.2 < v.length := (List.getElem?_eq_some_iff.mp hx).1
    have ix : dIx (.list ((along R v).map eT)) (.int (x.2 : Nat)) = some (eT (rm R (v.take x.2))) := atI_nat (by rw [List.getElem?_map, along_at R v x.2 (by omega)]; rfl)
    have rr : Room (rm R (v.take x.2)) := hR.rm fun y hy => hv y (List.mem_of_mem_take hy)
    exact pApp_ok (plCons_ok (pBin_ok rfl rfl ix) (plCons_ok rfl rfl)) (leaver_ok (.inl rfl) x.1 rr.small))
  rw [filter_tt, gn_zip] at e3
  have e4 := pComp_en (p := pVar 3) (i := 4) (j := 5) (pc := (pBin dIsNot (pVar 5) (pC .none))) (pe := (pApp gTupD (plCons (pVar 4) (plCons (pVar 5) plNil)))) (env := E C2 (some (.dat (.list ((gn R v).map optD))))) (b := []) (enc := optD) (dec := eP2) (xs := gn R v) (d := .list ((gn R v).map optD)) (fun p => p.1.isSome) (fun p => ((p.2 : Int), p.1.getD 0)) (by simp [E]) (by simp [E]) rfl (.inl rfl) (fun x _ => pBin_ok rfl rfl (dIsNot_opt x.1)) (fun x _ hq => by
    obtain ⟨o, i⟩ := x
    cases o with
    | none => cases hq
    | some h => rfl)
  unfold F_departures
  refine fP_rt (b := []) [some (.dat s), some (.dat t), none, none, none, none] rfl rfl ?_
  refine seq_asg (pApp_ok (plCons_ok rfl (plCons_ok rfl rfl)) al) rfl ?_
  refine seq_asg e3 rfl ?_
  exact sRet_ok (lift_ok e4)
theorem pairsD_eP2 : ∀ L : List (Int × Int), pairsD (L.map eP2) = some (L.map fun p => (p.1, PyData.int p.2))
  | [] => rfl
  | p :: L => by
    show (pairD (eP2 p)).bind _ = _
    rw [show pairD (eP2 p) = some (p.1, .int p.2) from rfl, Option.bind_some, pairsD_eP2 L]; rfl
theorem foldP_enc : ∀ (L A : List (Int × Int)), (kys (A ++ L)).Nodup → foldP (encV PyData.int A) (L.map fun p => (p.1, PyData.int p.2)) = encV PyData.int (A ++ L)
  | [], A, _ => by rw [List.append_nil]; rfl
  | p :: L, A, h => by
    have hp : p.1 ∉ kys A := fun z => by
      unfold kys at h z
      rw [List.map_append, List.nodup_append] at h
      exact h.2.2 _ z _ (by simp) rfl
    have e : putD (encV PyData.int A) (.int p.1) (.int p.2) = encV PyData.int (A ++ [p]) := by
      rw [put_enc]
      unfold putL
      rw [if_neg hp]
    show foldP (putD (encV PyData.int A) (.int p.1) (.int p.2)) (L.map fun p => (p.1, PyData.int p.2)) = _
    rw [e, foldP_enc L (A ++ [p]) (by rw [List.append_assoc]; exact h), List.append_assoc]
    rfl
theorem dep_kys (R v : List Int) : (kys (dep R v)).Nodup := by
  unfold kys dep
  rw [List.map_map]
  refine List.Pairwise.map (R := fun (p q : Option Int × Nat) => p.2 < q.2) _ (fun a b h => by show (a.2 : Int) ≠ b.2; omega) ?_
  refine List.Pairwise.filter _ ?_
  have : ((gn R v).zipIdx.map (·.2)).Pairwise (· < ·) := by
    rw [List.zipIdx_map_snd]
    exact List.pairwise_lt_range'
  exact List.pairwise_map.mp this
theorem dict_dep (R v : List Int) : cDictP [.list ((dep R v).map eP2)] = some (.dict (encV PyData.int (dep R v))) := by
  show (pairsD _).map _ = _
  rw [pairsD_eP2, Option.map_some]
  have := foldP_enc (dep R v) [] (by simpa using dep_kys R v)
  rw [List.nil_append] at this
  rw [← this]; rfl
theorem dep_find (R v : List Int) (i : Nat) : findL (dep R v) (i : Int) = ((gn R v)[i]?).join := by
  cases hg : (gn R v)[i]? with
  | none =>
    refine find_none fun z => ?_
    obtain ⟨p, hp, e⟩ := List.mem_map.mp z
    obtain ⟨q, hq, rfl⟩ := List.mem_map.mp hp
    have := zipIdx_at (List.mem_filter.mp hq).1
    have e : (q.2 : Int) = i := e
    have e : q.2 = i := by omega
    rw [e, hg] at this
    cases this
  | some o => cases o with
    | none =>
      refine find_none fun z => ?_
      obtain ⟨p, hp, e⟩ := List.mem_map.mp z
      obtain ⟨q, hq, rfl⟩ := List.mem_map.mp hp
      have h1 := List.mem_filter.mp hq
      have := zipIdx_at h1.1
      have e : (q.2 : Int) = i := e
      have e : q.2 = i := by omega
      rw [e, hg] at this
      have h2 := h1.2
      rw [← Option.some.inj this] at h2
      cases h2
    | some h =>
      refine find_mem (dep_kys R v) ?_
      refine List.mem_map.mpr ⟨(some h, i), List.mem_filter.mpr ⟨?_, rfl⟩, rfl⟩
      rw [List.mk_mem_zipIdx_iff_getElem?]
      exact hg
inductive En where
  | un
  | no
  | rk (i : Int)
deriving DecidableEq
def eN : En → D
  | .un => .str (PySem.Str.ofString "?")
  | .no => .none
  | .rk i => .int i
def opE : Option Int → En
  | none => .no
  | some i => .rk i
theorem eN_op (o : Option Int) : eN (opE o) = optD o := by cases o <;> rfl
theorem dEq_eN (a c : En) : dEq (eN a) (eN c) = some (.bool (decide (a = c))) := by
  cases a <;> cases c
  case rk.rk i j =>
    have e : dEq (eN (.rk i)) (eN (.rk j)) = some (.bool (i == j)) := dEq_i i j
    rw [e]
    congr 2
    rw [Bool.eq_iff_iff]
    simp
  all_goals first | rfl | (simp [eN, dEq, bothStr, okD, plainD, SeqAt.shaped, PyData.canLay0, PyData.depth, eqS] <;> decide +kernel)
def fitL (S : List En) (g : List (Option Int)) : Bool := (S.zip g).all fun p => decide (p.1 = .un) || decide (opE p.2 = p.1)
theorem all_zip {α β : Type} (P : α → β → Bool) (d : β) : ∀ (S : List α) (g : List β) (k : Nat), S.length = g.length → ((S.zipIdx k).all fun p => P p.1 ((g[p.2 - k]?).getD d)) = (S.zip g).all fun p => P p.1 p.2
  | [], [], _, _ => rfl
  | a :: S, c :: g, k, h => by
    rw [List.zipIdx_cons, List.all_cons, List.zip_cons_cons, List.all_cons]
    have ih := all_zip P d S g (k + 1) (by simpa using h)
    rw [← ih]
    congr 1
    · simp
    · rw [Bool.eq_iff_iff, List.all_eq_true, List.all_eq_true]
      have hk : ∀ p : α × Nat, p ∈ S.zipIdx (k + 1) → (c :: g)[p.2 - k]? = g[p.2 - (k + 1)]? := fun p hp => by
        have h1 := List.le_snd_of_mem_zipIdx hp
        rw [show p.2 - k = (p.2 - (k + 1)) + 1 by omega, List.getElem?_cons_succ]
      exact ⟨fun q p hp => by rw [← hk p hp]; exact q p hp, fun q p hp => by rw [hk p hp]; exact q p hp⟩
  | [], _ :: _, _, h => by cases h
  | _ :: _, [], _, h => by cases h
def IsEn (d : D) (S : List En) : Prop := d = .list (S.map eN) ∨ d = .tuple (S.map eN)
theorem fits_r {s t u : D} {R v : List Int} {S : List En} (h : IsSeq s R) (hR : Room R) (ht : IsSeq t v) (hv : Rk v) (hl : v.length ≤ 10000) (hu : IsEn u S) (hS : S.length = v.length) : fP F_fits [s, t, u] = some (.bool (fitL S (gn R v))) := by
  have dp := departures_r h hR ht hv hl
  have dd := dict_dep R v
  have q := pComp_en (p := pVar 2) (i := 4) (j := 5) (pc := pTrue) (pe := (pOr (pBin dEq (pVar 5) (pC (.str (PySem.Str.ofString "?")))) (pBin dEq (pMeth fGet1 (pVar 3) (plCons (pVar 4) plNil)) (pVar 5)))) (env := [some (.dat s), some (.dat t), some (.dat u), some (.dat (.dict (encV PyData.int (dep R v)))), none, none]) (b := []) (enc := eN) (dec := PyData.bool) (xs := S) (d := u) (fun _ => true) (fun p => decide (p.1 = .un) || decide (opE (((gn R v)[p.2 - 0]?).getD none) = p.1)) (by simp) (by simp) rfl hu (fun _ _ => rfl) (fun x _ _ => by
    have a1 : dEq (eN x.1) (.str (PySem.Str.ofString "?")) = some (.bool (decide (x.1 = .un))) := dEq_eN x.1 .un
    have g1 : fGet1 (.dict (encV PyData.int (dep R v))) [.int (x.2 : Nat)] = some (eN (opE (((gn R v)[x.2 - 0]?).getD none))) := by
      show fGetD (.dict (encV PyData.int (dep R v))) [.int (x.2 : Nat), .none] = _
      rw [fGetD_enc, dep_find, Nat.sub_zero, eN_op]
      cases (gn R v)[x.2]? with
      | none => rfl
      | some o => cases o <;> rfl
    have a2 := dEq_eN (opE (((gn R v)[x.2 - 0]?).getD none)) x.1
    have p1 : (pBin dEq (pVar 5) (pC (.str (PySem.Str.ofString "?")))) [some (.dat s), some (.dat t), some (.dat u), some (.dat (.dict (encV PyData.int (dep R v)))), some (.dat (.int (x.2 : Nat))), some (.dat (eN x.1))] [] = some (.bool (decide (x.1 = .un))) := pBin_ok rfl rfl a1
    have p2 : (pBin dEq (pMeth fGet1 (pVar 3) (plCons (pVar 4) plNil)) (pVar 5)) [some (.dat s), some (.dat t), some (.dat u), some (.dat (.dict (encV PyData.int (dep R v)))), some (.dat (.int (x.2 : Nat))), some (.dat (eN x.1))] [] = some (.bool (decide (opE (((gn R v)[x.2 - 0]?).getD none) = x.1))) := pBin_ok (by
      unfold pMeth
      exact g1) rfl a2
    show pOr _ _ _ _ = _
    rw [s_pOr]
    refine Eq.trans (congrArg (fun z => Option.bind z _) p1) ?_
    rw [Option.bind_some, s_truthB]
    by_cases c : x.1 = .un
    · rw [decide_eq_true c]; rfl
    · rw [decide_eq_false c, s_pTruF, Bool.false_or]; exact p2)
  rw [filter_tt] at q
  have ca := cAll_map (fun p : En × Nat => decide (p.1 = .un) || decide (opE (((gn R v)[p.2 - 0]?).getD none) = p.1)) S.zipIdx
  have az := all_zip (fun (a : En) (o : Option Int) => decide (a = .un) || decide (opE o = a)) none S (gn R v) 0 (by rw [gn_len]; exact hS)
  unfold F_fits
  refine fP_rt (b := []) [some (.dat s), some (.dat t), some (.dat u), none, none, none] rfl rfl ?_
  refine seq_asg (d := .dict (encV PyData.int (dep R v))) (pApp_ok (plCons_ok (pApp_ok (plCons_ok rfl (plCons_ok rfl rfl)) dp) rfl) dd) rfl ?_
  refine sRet_ok (lift_ok (pApp_ok (plCons_ok q rfl) ?_))
  rw [List.map_map]
  exact Eq.trans ca (congrArg (fun z => some (PyData.bool z)) az)
def fitR (v : List Int) (S : List En) (s : Nat) : List (List Int) := (AR s).filter fun r => fitL S (gn r v)
theorem fitR_rms {s : Nat} (hs : s ≤ 12) (v : List Int) (S : List En) : Rms (fitR v S s) := (AR_rms hs).filter _
theorem rooms_seen_r {t u : D} {v : List Int} {S : List En} {s : Nat} (hs : s ≤ 12) (ht : IsSeq t v) (hv : Rk v) (hl : v.length ≤ 10000) (hu : IsEn u S) (hS : S.length = v.length) : fP F_rooms_seen [.int s, t, u] = some (lL (fitR v S s)) := by
  have a : fP F_all_rooms [.int s] = some (.list ((AR s).map eT)) := all_rooms_r hs
  unfold F_rooms_seen
  refine fP_rt (b := []) [some (.dat (.int s)), some (.dat t), some (.dat u), none] rfl rfl (sRet_ok (lift_ok ?_))
  exact keep_rooms _ (by simp) (plSeq_ok (pApp_ok (plCons_ok rfl rfl) a) rfl) fun r hr => pApp_ok (plCons_ok rfl (plCons_ok rfl (plCons_ok rfl rfl))) (fits_r (.inl rfl) (AR_room hs hr) ht hv hl hu hS)
def tE (K : List (List Int)) : List (D × D) := K.map fun e => (eT e, .bool true)
theorem putD_tE (K : List (List Int)) (e : List Int) : putD (tE K) (eT e) (.bool true) = tE (if e ∈ K then K else K ++ [e]) := by
  have an : ((tE K).any fun p => decide (keyG p.1 = keyG (eT e))) = decide (e ∈ K) := by
    unfold tE
    rw [List.any_map, Bool.eq_iff_iff, List.any_eq_true, decide_eq_true_eq]
    constructor
    · rintro ⟨x, hx, h⟩
      have h : keyG (eT x) = keyG (eT e) := of_decide_eq_true h
      rw [keyG_inj] at h
      exact h ▸ hx
    · exact fun h => ⟨e, h, decide_eq_true rfl⟩
  unfold putD
  rw [an]
  by_cases h : e ∈ K
  · rw [if_pos (decide_eq_true h), if_pos h]
    unfold tE
    rw [List.map_map]
    refine List.map_congr_left fun x _ => ?_
    show (if keyG (eT x) = keyG (eT e) then (eT x, PyData.bool true) else (eT x, .bool true)) = _
    split <;> rfl
  · rw [if_neg (by rw [decide_eq_false h]; exact Bool.false_ne_true), if_neg h]
    unfold tE
    rw [List.map_append]; rfl
theorem compTP_rooms {i : Nat} {pk : P} {env : Env} {b : Bx} {v : List Int} (hi : i < env.length) : ∀ (l K : List (List Int)), (∀ r ∈ l, pk (env.set i (some (.dat (eT r)))) b = some (eT (rm r v))) →
    compTP (gN i) pTrue pk (pC (.bool true)) env b (l.map eT) (tE K) = some (tE (l.foldl (fun K r => if rm r v ∈ K then K else K ++ [rm r v]) K))
  | [], _, _ => rfl
  | r :: l, K, h => by
    rw [List.map_cons, compTP, s_gN, if_pos hi, Option.bind_some]
    show (pk (env.set i (some (.dat (eT r)))) b).bind _ = _
    rw [h r List.mem_cons_self, Option.bind_some]
    show (match keyG (eT (rm r v)) with | some (.inr _) => some () | _ => none).bind _ = _
    rw [keyG_eT]
    show compTP _ _ _ _ env b (l.map eT) (putD (tE K) (eT (rm r v)) (.bool true)) = _
    rw [putD_tE, compTP_rooms hi l _ fun x hx => h x (List.mem_cons_of_mem _ hx)]
    rfl
theorem ends_seen_r {t u : D} {v : List Int} {S : List En} {s : Nat} (hs : s ≤ 12) (ht : IsSeq t v) (hv : Rk v) (hl : v.length ≤ 10000) (hu : IsEn u S) (hS : S.length = v.length) : fP F_ends_seen [.int s, t, u] = some (lL (sortC (ends v (fitR v S s)))) := by
  have a := rooms_seen_r hs ht hv hl hu hS
  have ll : (ends v (fitR v S s)).length ≤ 100000 := Nat.le_trans (ends_len v _) (Nat.le_trans (List.length_filter_le _ _) (Nat.le_trans (AR_small hs) (by decide)))
  have c := compTP_rooms (i := 3) (pk := (pApp (fP F_room_after) (plCons (pVar 3) (plCons (pVar 1) plNil)))) (env := wipeE [some (.dat (.int s)), some (.dat t), some (.dat u), none] [3]) (b := []) (v := v) (by simp [wipeE]) (fitR v S s) [] fun r hr => by
    have q := room_after_r (.inl rfl : IsSeq (eT r) r) (AR_room hs (List.mem_filter.mp hr).1) ht hv hl
    exact pApp_ok (plCons_ok rfl (plCons_ok rfl rfl)) q
  have d : (pCompT (plSeq (pApp (fP F_rooms_seen) (plCons (pVar 0) (plCons (pVar 1) (plCons (pVar 2) plNil))))) [3] (gN 3) pTrue (pApp (fP F_room_after) (plCons (pVar 3) (plCons (pVar 1) plNil))) (pC (.bool true))) [some (.dat (.int s)), some (.dat t), some (.dat u), none] [] = some (.dict ((.none, .none) :: tE (ends v (fitR v S s)))) := by
    unfold pCompT
    have z : (plSeq (pApp (fP F_rooms_seen) (plCons (pVar 0) (plCons (pVar 1) (plCons (pVar 2) plNil))))) [some (.dat (.int s)), some (.dat t), some (.dat u), none] [] = some ((fitR v S s).map eT) := plSeq_ok (pApp_ok (plCons_ok rfl (plCons_ok rfl (plCons_ok rfl rfl))) a) rfl
    rw [z, Option.bind_some]
    rw [show ([] : List (D × D)) = tE [] from rfl, c]
    rfl
  have e : cSortedT [.dict ((.none, .none) :: tE (ends v (fitR v S s)))] = some (lL (sortC (ends v (fitR v S s)))) := by
    show (sortD ((tE (ends v (fitR v S s))).map (·.1))).map PyData.list = _
    have : (tE (ends v (fitR v S s))).map (·.1) = (ends v (fitR v S s)).map eT := by unfold tE; rw [List.map_map]; rfl
    rw [this, sortD_rows (Nat.le_trans ll (by decide))]
    rfl
  unfold F_ends_seen
  exact fP_rt (b := []) [some (.dat (.int s)), some (.dat t), some (.dat u), none] rfl rfl (sRet_ok (lift_ok (pApp_ok (plCons_ok d rfl) e)))
theorem zip_take {α β : Type} {p : α × β} : ∀ (S : List α) (g : List β) (n : Nat), p ∈ (S.take n).zip (g.take n) → p ∈ S.zip g
  | [], _, _, h => by simp at h
  | _ :: _, [], _, h => by simp at h
  | _ :: _, _ :: _, 0, h => by simp at h
  | a :: S, c :: g, n + 1, h => by
    rw [List.take_succ_cons, List.take_succ_cons, List.zip_cons_cons] at h
    rw [List.zip_cons_cons]
    rcases List.mem_cons.mp h with rfl | h
    · exact List.mem_cons_self
    · exact List.mem_cons_of_mem _ (zip_take S g n h)
theorem fitL_take {S : List En} {g : List (Option Int)} (n : Nat) : fitL S g = true → fitL (S.take n) (g.take n) = true := fun h => by
  unfold fitL at *
  rw [List.all_eq_true] at *
  intro p hp
  exact h p (zip_take _ _ n hp)
def fw (v : List Int) (S : List En) (s : Nat) : Option Nat := (List.range S.length).find? fun i => decide (fitR (v.take (i + 1)) (S.take (i + 1)) s = [])
def natD : Option Nat → D
  | none => .none
  | some n => .int (n : Nat)
theorem psl_take {α : Type} {enc : α → D} {p : P} {env : Env} {b : Bx} {xs : List α} {d : D} {n : Nat} {g : P} (h : p env b = some d) (hd : d = .list (xs.map enc) ∨ d = .tuple (xs.map enc)) (hg : g env b = some (.int (n : Nat))) :
    ∃ d', pSl p ppNone (ppSome g) env b = some d' ∧ ((d = .list (xs.map enc) ∧ d' = .list ((xs.take n).map enc)) ∨ (d = .tuple (xs.map enc) ∧ d' = .tuple ((xs.take n).map enc))) := by
  have c : ∀ l : List α, cutL (l.map enc) none (some (n : Int)) = (l.take n).map enc := fun l => by
    unfold cutL
    rw [HT.sIx_nat, HT.sIx_none, List.drop_zero, Nat.sub_zero, List.length_map, ← List.map_take]
    congr 1
    rcases Nat.le_total n l.length with h | h
    · rw [Nat.min_eq_left h]
    · rw [Nat.min_eq_right h, List.take_of_length_le (Nat.le_refl _), List.take_of_length_le h]
  have e : ppSome g env b = some (some (n : Int)) := by unfold ppSome; rw [hg]; rfl
  unfold pSl
  rw [h, Option.bind_some]
  show ∃ d', ((some none : Option (Option Int)).bind fun lo => (ppSome g env b).bind fun hi => dSl lo hi d) = some d' ∧ _
  rw [Option.bind_some, e, Option.bind_some]
  rcases hd with rfl | rfl
  · exact ⟨_, rfl, .inl ⟨rfl, by rw [c]⟩⟩
  · exact ⟨_, rfl, .inr ⟨rfl, by rw [c]⟩⟩
theorem fitR_step {v : List Int} {S : List En} {s n : Nat} : ((fitR (v.take n) (S.take n) s).filter fun r => fitL (S.take (n + 1)) (gn r (v.take (n + 1)))) = fitR (v.take (n + 1)) (S.take (n + 1)) s := by
  unfold fitR
  rw [List.filter_filter]
  refine List.filter_congr fun r _ => ?_
  rw [Bool.eq_iff_iff, Bool.and_eq_true]
  constructor
  · exact fun h => h.1
  · intro h
    refine ⟨h, ?_⟩
    have := fitL_take n h
    rwa [List.take_take, ← gn_take, List.take_take, Nat.min_eq_left (Nat.le_succ n)] at this
theorem first_wrong_r {t u : D} {v : List Int} {S : List En} {s : Nat} (hs : s ≤ 12) (ht : IsSeq t v) (hv : Rk v) (hl : v.length ≤ 10000) (hu : IsEn u S) (hS : S.length = v.length) : fP F_first_wrong [.int s, t, u] = some (natD (fw v S s)) := by
  have a : fP F_all_rooms [.int s] = some (.list ((AR s).map eT)) := all_rooms_r hs
  have htd : t = .list (v.map PyData.int) ∨ t = .tuple (v.map PyData.int) := by
    rcases ht with rfl | rfl
    · exact .inr rfl
    · exact .inl rfl
  let E : Option Cel → Option Cel → Env := fun x3 x4 => [some (.dat (.int s)), some (.dat t), some (.dat u), x3, x4, none]
  let body : DL.S := (sSeq (sAsg (gN 3) (lift (pComp (plSeq (pVar 3)) [5] (gN 5) (pApp (fP F_fits) (plCons (pVar 5) (plCons (pSl (pVar 1) ppNone (ppSome (pBin dAdd (pVar 4) (pC (.int 1))))) (plCons (pSl (pVar 2) ppNone (ppSome (pBin dAdd (pVar 4) (pC (.int 1))))) plNil)))) (pVar 5)))) (sIf (lift (pBin dEq (pApp cLen (plCons (pVar 3) plNil)) (pC (.int 0)))) (sRet (lift (pVar 4))) sNil))
  have len : cLen [u] = some (.int (S.length : Nat)) := by
    rcases hu with rfl | rfl
    · show some (PyData.int ((S.map eN).length : Nat)) = _; rw [List.length_map]
    · show some (PyData.int ((S.map eN).length : Nat)) = _; rw [List.length_map]
  have body_r : ∀ (i : Nat) (x4 : Option Cel), ∃ d, pBin dEq (pApp cLen (plCons (pVar 3) plNil)) (pC (.int 0)) (E (some (.dat (lL (fitR (v.take (i + 1)) (S.take (i + 1)) s)))) x4) [] = some (.bool d) ∧ d = decide (fitR (v.take (i + 1)) (S.take (i + 1)) s = []) := fun i x4 => by
    refine ⟨_, pBin_ok (pApp_ok (plCons_ok rfl rfl) (len_lL _)) rfl (dEq_i _ _), ?_⟩
    cases fitR (v.take (i + 1)) (S.take (i + 1)) s with
    | nil => rfl
    | cons a l =>
      rw [Bool.eq_iff_iff]
      simp
      omega
  have step : ∀ (i : Nat) (x3 : List (List Int)), x3 = fitR (v.take i) (S.take i) s → pComp (plSeq (pVar 3)) [5] (gN 5) (pApp (fP F_fits) (plCons (pVar 5) (plCons (pSl (pVar 1) ppNone (ppSome (pBin dAdd (pVar 4) (pC (.int 1))))) (plCons (pSl (pVar 2) ppNone (ppSome (pBin dAdd (pVar 4) (pC (.int 1))))) plNil)))) (pVar 5) (E (some (.dat (lL x3))) (some (.dat (.int (i : Nat))))) [] = some (lL (fitR (v.take (i + 1)) (S.take (i + 1)) s)) := fun i x3 e => by
    subst e
    rw [← fitR_step]
    refine keep_rooms _ (by simp [E]) (plSeq_ok rfl rfl) fun r hr => ?_
    have rr := (fitR_rms hs _ _).room r hr
    let G : Env := (wipeE (E (some (.dat (lL (fitR (v.take i) (S.take i) s)))) (some (.dat (.int (i : Nat))))) [5]).set 5 (some (.dat (eT r)))
    have hg : (pBin dAdd (pVar 4) (pC (.int 1))) G [] = some (.int ((i + 1 : Nat) : Int)) := pBin_ok rfl rfl (dAdd_i _ _)
    obtain ⟨t', e1, k1⟩ := psl_take (p := pVar 1) (env := G) (b := []) (enc := PyData.int) (xs := v) (d := t) (n := i + 1) rfl htd hg
    obtain ⟨u', e2, k2⟩ := psl_take (p := pVar 2) (env := G) (b := []) (enc := eN) (xs := S) (d := u) (n := i + 1) rfl hu hg
    have it : IsSeq t' (v.take (i + 1)) := by
      rcases k1 with k1 | k1
      · exact .inr k1.2
      · exact .inl k1.2
    have iu : IsEn u' (S.take (i + 1)) := by
      rcases k2 with k2 | k2
      · exact .inl k2.2
      · exact .inr k2.2
    exact pApp_ok (plCons_ok rfl (plCons_ok e1 (plCons_ok e2 rfl))) (fits_r (.inl rfl) rr it (fun x hx => hv x (List.mem_of_mem_take hx)) (by rw [List.length_take]; omega) iu (by rw [List.length_take, List.length_take, hS]))
  have go : ∀ (l : List Nat) (i : Nat) (x4 : Option Cel), l = (List.range (S.length - i)).map (· + i) → i ≤ S.length →
      (l.find? (fun i => decide (fitR (v.take (i + 1)) (S.take (i + 1)) s = [])) = none ∧ ∃ x3 x4', loopS (gN 4) body (l.map fun i => PyData.int (i : Nat)) (E (some (.dat (lL (fitR (v.take i) (S.take i) s)))) x4) [] = some (.nx (E x3 x4'), [])) ∨
      ∃ j, l.find? (fun i => decide (fitR (v.take (i + 1)) (S.take (i + 1)) s = [])) = some j ∧ loopS (gN 4) body (l.map fun i => PyData.int (i : Nat)) (E (some (.dat (lL (fitR (v.take i) (S.take i) s)))) x4) [] = some (.rt (.int (j : Nat)), []) := by
    intro l
    induction l with
    | nil => exact fun i x4 _ _ => .inl ⟨rfl, _, _, rfl⟩
    | cons j l ih =>
      intro i x4 hl hi
      have h0 : i < S.length := by
        apply Classical.byContradiction
        intro z
        rw [show S.length - i = 0 by omega] at hl
        cases hl
      obtain ⟨m, hm⟩ : ∃ m, S.length - i = m + 1 := ⟨S.length - i - 1, by omega⟩
      rw [hm, List.range_succ_eq_map, List.map_cons, List.map_map] at hl
      injection hl with e1 e2
      have e1 : j = i := by omega
      subst e1
      have e2 : l = (List.range (S.length - (j + 1))).map (· + (j + 1)) := by
        rw [e2, show S.length - (j + 1) = m by omega]
        refine List.map_congr_left fun x _ => ?_
        show x + 1 + j = _
        omega
      have st := step j _ rfl
      obtain ⟨d, hd, ed⟩ := body_r j (some (.dat (.int (j : Nat))))
      rw [List.map_cons, loopS, List.find?_cons]
      have g4 : gN 4 (.int (j : Nat)) (E (some (.dat (lL (fitR (v.take j) (S.take j) s)))) x4) = some (E (some (.dat (lL (fitR (v.take j) (S.take j) s)))) (some (.dat (.int (j : Nat))))) := rfl
      rw [g4]
      dsimp only
      by_cases c : fitR (v.take (j + 1)) (S.take (j + 1)) s = []
      · rw [decide_eq_true c] at ed ⊢
        subst ed
        right
        refine ⟨j, rfl, ?_⟩
        have : body (E (some (.dat (lL (fitR (v.take j) (S.take j) s)))) (some (.dat (.int (j : Nat))))) [] = some (.rt (.int (j : Nat)), []) := seq_asg st rfl (Eq.trans (sIf_t (lift_ok hd) rfl) (sRet_ok (lift_ok rfl)))
        rw [this]
      · rw [decide_eq_false c] at ed ⊢
        subst ed
        have : body (E (some (.dat (lL (fitR (v.take j) (S.take j) s)))) (some (.dat (.int (j : Nat))))) [] = some (.nx (E (some (.dat (lL (fitR (v.take (j + 1)) (S.take (j + 1)) s)))) (some (.dat (.int (j : Nat))))), []) := seq_asg st rfl (Eq.trans (sIf_f (lift_ok hd) rfl) rfl)
        rw [this]
        exact ih (j + 1) _ e2 (by omega)
  have z := go (List.range S.length) 0 none (by simp) (Nat.zero_le _)
  have rg : plOf range1 (plCons (pApp cLen (plCons (pVar 2) plNil)) plNil) (E (some (.dat (lL (AR s)))) none) [] = some ((List.range S.length).map fun i => PyData.int (i : Nat)) := by
    refine plOf_ok (plCons_ok (pApp_ok (plCons_ok rfl rfl) len) rfl) ?_
    rw [range_ok1 (by omega)]
    unfold rangeD
    rw [show ((S.length : Int) - 0).toNat = S.length by omega]
    refine congrArg some (List.map_congr_left fun i _ => ?_)
    rw [Int.zero_add]
  have e0 : fitR (v.take 0) (S.take 0) s = AR s := filter_tt _
  rw [e0] at z
  unfold F_first_wrong fw
  rcases z with ⟨z1, x3, x4, z2⟩ | ⟨j, z1, z2⟩
  · rw [z1]
    refine fP_rt (b := []) [some (.dat (.int s)), some (.dat t), some (.dat u), none, none, none] rfl rfl ?_
    refine seq_asg (d := lL (AR s)) (pApp_ok (plCons_ok rfl rfl) a) rfl ?_
    refine sSeq_ok (sFor_ok (liftA_ok rg) z2) ?_
    exact sRet_ok (lift_ok rfl)
  · rw [z1]
    refine fP_rt (b := []) [some (.dat (.int s)), some (.dat t), some (.dat u), none, none, none] rfl rfl ?_
    refine seq_asg (d := lL (AR s)) (pApp_ok (plCons_ok rfl rfl) a) rfl ?_
    exact sSeq_rt (Eq.trans (sFor_ok (liftA_ok rg) z2) rfl)
end DL
set_option Elab.async false
set_option linter.all false
set_option maxRecDepth 100000
set_option maxHeartbeats 4000000
namespace DL
open PySem PySem.Spec PyProof.Rows
open L2 hiding St V
def SM (F : Int → Int) : Prop := ∀ x y, x < y → F x < F y
theorem SM.lt {F : Int → Int} (h : SM F) {x y : Int} : F x < F y ↔ x < y := by
  constructor
  · intro k
    by_cases c : x < y
    · exact c
    · by_cases e : x = y
      · rw [e] at k; omega
      · have := h y x (by omega); omega
  · exact h x y
theorem SM.eq {F : Int → Int} (h : SM F) {x y : Int} : F x = F y ↔ x = y := by
  constructor
  · intro k
    by_cases c : x < y
    · have := h x y c; omega
    · by_cases c2 : y < x
      · have := h y x c2; omega
      · omega
  · intro e; rw [e]
theorem SM.le {F : Int → Int} (h : SM F) {x y : Int} : F x ≤ F y ↔ x ≤ y := by
  have := h.lt (x := y) (y := x)
  omega
def F2 (F : Int → Int) (p : Int × Int) : Int × Int := (F p.1, F p.2)
def turn (v : List Int) : List Int := (v.map fun x => 9 - x).reverse
end DL
set_option Elab.async false
set_option linter.all false
set_option maxRecDepth 100000
set_option maxHeartbeats 4000000
namespace DL
open PySem PySem.Spec PyProof.Rows
open L2 hiding St V
end DL
set_option Elab.async false
set_option linter.all false
set_option maxRecDepth 100000
set_option maxHeartbeats 4000000
namespace DL
open PySem PySem.Spec PyProof.Rows
open L2 hiding St V
local macro_rules | `(tactic| trivial) => `(tactic| first
  | (with_reducible apply lift_ok) <;> trivial
  | (with_reducible apply liftA_ok) <;> trivial
  | (with_reducible apply plCons_ok) <;> trivial
  | (with_reducible apply pVar_ok) <;> rfl
  | with_reducible exact pC_ok _ _ _
  | with_reducible exact plNil_ok _ _
  | with_reducible exact pTrue_ok _ _
  | (with_reducible apply pApp_ok) <;> trivial
  | (with_reducible apply pBin_ok) <;> trivial
  | (with_reducible apply pUn_ok) <;> trivial
  | (with_reducible apply plSeq_ok) <;> trivial
  | (with_reducible apply plOf_ok) <;> trivial
  | (with_reducible apply pOr_f) <;> trivial
  | (with_reducible first | apply fK_10 | apply fK_01 | apply fK_0 | apply fK_210 | apply fK_120 | apply fK_201 | apply fK_021 | apply fK_102 | apply fK_012) <;> trivial
  | with_reducible (refine Eq.symm (Eq.symm ?_); assumption)
  | with_reducible first
    | exact dAdd_i _ _ | exact dSub_i _ _ | exact dLt_i _ _ | exact dGt_i _ _ | exact dEq_i _ _ | exact dNe_i _ _ | exact dLe_i _ _ | exact dGe_i _ _
    | exact g_l0 | exact g_l1 _ | exact g_l2 _ _ | exact g_l3 _ _ _ | exact g_l4 _ _ _ _ | exact g_l5 _ _ _ _ _ | exact g_l6 _ _ _ _ _ _
    | exact g_t0 | exact g_t1 _ | exact g_t2 _ _ | exact g_t3 _ _ _ | exact g_t4 _ _ _ _
    | exact ix_l10 _ | exact ix_l20 _ _ | exact ix_l21 _ _ | exact ix_l30 _ _ _ | exact ix_l31 _ _ _ | exact ix_l32 _ _ _ | exact ix_t20 _ _ | exact ix_t21 _ _
    | exact not_bt | exact not_bf | exact cList_l _ | exact cList_t _ | exact cTuple_l _ | exact cTuple_t _ | exact seqOf_l _ | exact seqOf_t _ | exact lenL _ | exact lenC _
  | skip)
def Atom (b : Nat) : D → Prop
  | .none => True
  | .bool _ => True
  | .int i => i.natAbs ≤ b
  | .str x => PyData.strOk x = true ∧ x.length ≤ 60
  | _ => False
def Fine (b : Nat) : Nat → D → Prop
  | 0, d => Atom b d
  | k + 1, d => Atom b d ∨ ∃ ds, (d = .list ds ∨ d = .tuple ds) ∧ ∀ e ∈ ds, Fine b k e
def sz : D → Nat
  | .list xs => szL xs + 3
  | .tuple xs => szL xs + 3
  | _ => 700
where szL : List D → Nat
  | [] => 0
  | x :: xs => sz x + 2 + szL xs
theorem Fine.mono {b b' : Nat} (hb : b ≤ b') : ∀ {k k' : Nat} {d : D}, k ≤ k' → Fine b k d → Fine b' k' d
  | 0, 0, d, _, h => by
    have h : Atom b d := h
    show Atom b' d
    cases d <;> first | exact h | exact Nat.le_trans h hb
  | 0, k' + 1, d, _, h => .inl (by
    have h : Atom b d := h
    cases d <;> first | exact h | exact Nat.le_trans h hb)
  | k + 1, 0, d, hk, h => by omega
  | k + 1, k' + 1, d, hk, h => by
    rcases h with h | ⟨ds, e, h⟩
    · exact .inl (by cases d <;> first | exact h | exact Nat.le_trans h hb)
    · exact .inr ⟨ds, e, fun x hx => Fine.mono hb (by omega) (h x hx)⟩
theorem pAnd_f {p q : P} {env : Env} {b : Bx} (h1 : p env b = some (.bool false)) : pAnd p q env b = some (.bool false) := by rw [s_pAnd, h1, Option.bind_some, s_truthB, s_pTruF]
end DL
set_option Elab.async false
set_option linter.all false
set_option maxRecDepth 100000
set_option maxHeartbeats 4000000
namespace DL
open PySem PySem.Spec PyProof.Rows
open L2 hiding St V
local macro_rules | `(tactic| trivial) => `(tactic| first
  | (with_reducible apply lift_ok) <;> trivial
  | (with_reducible apply liftA_ok) <;> trivial
  | (with_reducible apply plCons_ok) <;> trivial
  | (with_reducible apply pVar_ok) <;> rfl
  | with_reducible exact pC_ok _ _ _
  | with_reducible exact plNil_ok _ _
  | with_reducible exact pTrue_ok _ _
  | (with_reducible apply pApp_ok) <;> trivial
  | (with_reducible apply pBin_ok) <;> trivial
  | (with_reducible apply pUn_ok) <;> trivial
  | (with_reducible apply plSeq_ok) <;> trivial
  | (with_reducible apply plOf_ok) <;> trivial
  | (with_reducible apply pOr_f) <;> trivial
  | (with_reducible first | apply fK_10 | apply fK_01 | apply fK_0 | apply fK_210 | apply fK_120 | apply fK_201 | apply fK_021 | apply fK_102 | apply fK_012) <;> trivial
  | with_reducible (refine Eq.symm (Eq.symm ?_); assumption)
  | with_reducible first
    | exact dAdd_i _ _ | exact dSub_i _ _ | exact dLt_i _ _ | exact dGt_i _ _ | exact dEq_i _ _ | exact dNe_i _ _ | exact dLe_i _ _ | exact dGe_i _ _
    | exact g_l0 | exact g_l1 _ | exact g_l2 _ _ | exact g_l3 _ _ _ | exact g_l4 _ _ _ _ | exact g_l5 _ _ _ _ _ | exact g_l6 _ _ _ _ _ _
    | exact g_t0 | exact g_t1 _ | exact g_t2 _ _ | exact g_t3 _ _ _ | exact g_t4 _ _ _ _
    | exact ix_l10 _ | exact ix_l20 _ _ | exact ix_l21 _ _ | exact ix_l30 _ _ _ | exact ix_l31 _ _ _ | exact ix_l32 _ _ _ | exact ix_t20 _ _ | exact ix_t21 _ _
    | exact not_bt | exact not_bf | exact cList_l _ | exact cList_t _ | exact cTuple_l _ | exact cTuple_t _ | exact seqOf_l _ | exact seqOf_t _ | exact lenL _ | exact lenC _
  | skip)
theorem told_fold : ∀ (g : List (Option Int)) (k : Nat) (A : List D), A.length = k →
    (((g.zipIdx k).filter fun p => p.1.isSome).map fun p => ((p.2 : Int), p.1.getD 0)).foldl (fun L p => L.set p.1.toNat (PyData.int p.2)) (A ++ List.replicate g.length PyData.none) = A ++ g.map optD
  | [], k, A, _ => rfl
  | o :: g, k, A, h => by
    have ih := fun (x : D) => told_fold g (k + 1) (A ++ [x]) (by rw [List.length_append, h]; rfl)
    rw [List.zipIdx_cons, List.length_cons, List.replicate_succ]
    cases o with
    | none =>
      have := ih .none
      rw [List.append_assoc, List.append_assoc] at this
      rw [List.filter_cons_of_neg (by simp)]
      exact this
    | some x =>
      have := ih (.int x)
      rw [List.append_assoc, List.append_assoc] at this
      rw [List.filter_cons_of_pos (by simp), List.map_cons, List.foldl_cons]
      have e : (A ++ PyData.none :: List.replicate g.length PyData.none).set ((k : Int).toNat) (PyData.int x) = A ++ ([.int x] ++ List.replicate g.length PyData.none) := by
        rw [Int.toNat_natCast, ← h, List.set_append_right _ _ (Nat.le_refl _), Nat.sub_self]; rfl
      show (List.map _ _).foldl _ ((A ++ PyData.none :: List.replicate g.length PyData.none).set ((k : Int).toNat) (PyData.int x)) = _
      rw [e]
      exact this
theorem fold_len : ∀ (l : List (Int × Int)) (L : List D), (l.foldl (fun L p => L.set p.1.toNat (PyData.int p.2)) L).length = L.length
  | [], _ => rfl
  | p :: l, L => by rw [List.foldl_cons, fold_len l, List.length_set]
theorem replicate_one (n : Nat) (x : D) : (List.replicate n [x]).flatten = List.replicate n x := by
  induction n with
  | zero => rfl
  | succ n ih => rw [List.replicate_succ, List.flatten_cons, ih]; rfl
theorem lmulL {x : D} {n : Nat} (h : n ≤ 100000) : dMulL (.list [x]) (.int n) = some (.list (List.replicate n x)) := by
  have c : (decide (-(2 ^ 63) ≤ (n : Int)) && decide ((n : Int) < 2 ^ 63) && decide ([x].length * (n : Int).toNat ≤ SZ)) = true := by
    rw [Bool.and_eq_true, Bool.and_eq_true, decide_eq_true_eq, decide_eq_true_eq, decide_eq_true_eq]
    refine ⟨⟨by omega, by omega⟩, ?_⟩
    rw [List.length_singleton, Nat.one_mul, Int.toNat_natCast]
    exact Nat.le_trans h (by decide)
  unfold dMulL
  dsimp only
  rw [if_pos c, Int.toNat_natCast, replicate_one]
theorem lmul {x : D} {n : Nat} (h : n ≤ 100000) : dMul (.list [x]) (.int n) = some (.list (List.replicate n x)) := by
  have c : (decide (-(2 ^ 63) ≤ (n : Int)) && decide ((n : Int) < 2 ^ 63) && decide ([x].length * (n : Int).toNat ≤ SZ)) = true := by
    rw [Bool.and_eq_true, Bool.and_eq_true, decide_eq_true_eq, decide_eq_true_eq, decide_eq_true_eq]
    refine ⟨⟨by omega, by omega⟩, ?_⟩
    rw [List.length_singleton, Nat.one_mul, Int.toNat_natCast]
    exact Nat.le_trans h (by decide)
  unfold dMul
  dsimp only
  rw [if_pos c, Int.toNat_natCast, replicate_one]
theorem dep_at {R v : List Int} {p : Int × Int} (h : p ∈ dep R v) : 0 ≤ p.1 ∧ p.1 < v.length := by
  obtain ⟨q, hq, rfl⟩ := List.mem_map.mp h
  have := zipIdx_at (List.mem_filter.mp hq).1
  have h2 := (List.getElem?_eq_some_iff.mp this).1
  rw [gn_len] at h2
  show 0 ≤ (q.2 : Int) ∧ (q.2 : Int) < v.length
  omega
theorem told_r {R v : List Int} {s : D} (hR : Room R) (hv : Rk v) (hl : v.length ≤ 1000) : fP F__law_told [s, eT R, eL v] = some (.list ((gn R v).map optD)) := by
  have dp := departures_r (.inl rfl : IsSeq (eT R) R) hR (.inr rfl : IsSeq (eL v) v) hv (by omega)
  let E : Option Cel → Option Cel → Env := fun x4 x5 => [some (.dat s), some (.dat (eT R)), some (.dat (eL v)), some (.bx 0), x4, x5]
  let L0 : List D := List.replicate v.length .none
  let W : List (Int × Int) → List D := fun pre => pre.foldl (fun L p => L.set p.1.toNat (PyData.int p.2)) L0
  obtain ⟨env5, b5, e5, x4, x5, rfl, rfl⟩ := loop_pre (f := gT 2 (gsCons (gN 4) (gsCons (gN 5) gsNil))) (enc := eP2) (body := sSetL 3 (lift (pVar 5)) (lift (pVar 4))) (fun pre env b => ∃ x4 x5, env = E x4 x5 ∧ b = [.live (.list (W pre))]) (dep R v) [] (E none none) [.live (.list L0)] ⟨_, _, rfl, rfl⟩ (by
    rintro pre p post env b e ⟨x4, x5, rfl, rfl⟩
    rw [List.nil_append] at e
    have hp := dep_at (show p ∈ dep R v by rw [e]; simp)
    have wl : (W pre).length = v.length := by rw [fold_len, List.length_replicate]
    refine ⟨E (some (.dat (.int p.1))) (some (.dat (.int p.2))), rfl, E (some (.dat (.int p.1))) (some (.dat (.int p.2))), _, setL_ok (kk := 0) (ds := W pre) (v := .int p.2) (j := p.1) (n := p.1.toNat) rfl rfl (lift_ok rfl) (lift_ok rfl) ?_, _, _, rfl, ?_⟩
    · rw [wl]
      unfold L2.ixN
      rw [if_pos hp.1, if_pos hp.2]
    · show _ = [Box.live (.list ((pre ++ [p]).foldl (fun L p => L.set p.1.toNat (PyData.int p.2)) L0))]
      rw [List.foldl_append]; rfl)
  rw [List.nil_append] at e5
  have ew : W (dep R v) = (gn R v).map optD := by
    have q := told_fold (gn R v) 0 [] rfl
    rw [List.nil_append, List.nil_append, gn_len] at q
    exact q
  rw [ew] at e5
  unfold F__law_told
  refine fP_rt (b := [.froz (.list ((gn R v).map optD))]) [some (.dat s), some (.dat (eT R)), some (.dat (eL v)), none, none, none] rfl rfl ?_
  refine sSeq_ok (e1 := E none none) (b1 := [.live (.list L0)]) (Eq.trans (sNew_ok (b1 := []) (d := .list L0) (lift_ok (pBin_ok rfl (pApp_ok (plCons_ok rfl rfl) (lenL v)) (lmulL (by omega)))) (by show 3 < 6; decide)) rfl) ?_
  refine sSeq_ok (sFor_ok (ds := (dep R v).map eP2) (b1 := [.live (.list L0)]) (liftA_ok (plSeq_ok (pApp_ok (plCons_ok rfl (plCons_ok rfl rfl)) dp) rfl)) e5) ?_
  exact sRet_ok (frz_ok (k := 0) rfl rfl)
theorem veil_ok {odds : Int} {x1 : Option Cel} : ∀ (g : List (Option Int)) (d : D), Box3 d → ∃ (S : List En) (d' : D), compL (gN 3) (lift pTrue) (mIf (mBin dLt (mCallB F__law_take 0 (liftA (plCons (pC (.int 8)) plNil))) (lift (pVar 2))) (lift (pC (.str (PySem.Str.ofString "?")))) (lift (pVar 3))) [some (.bx 0), x1, some (.dat (.int odds)), none] (g.map optD) [.live d] = some (S.map eN, [.live d']) ∧ Box3 d' ∧ S.length = g.length ∧ fitL S g = true ∧ ∀ e ∈ S, e = .un ∨ ∃ o ∈ g, e = opE o
  | [], d, hd => ⟨[], d, rfl, hd, rfl, rfl, fun e he => by cases he⟩
  | o :: g, d, hd => by
    obtain ⟨r, d1, e, h1, _, _⟩ := take_g (env := [some (.bx 0), x1, some (.dat (.int odds)), some (.dat (optD o))]) (b := [.live d]) (i := 0) (k := 0) (n := 8) (ms := (liftA (plCons (pC (.int 8)) plNil))) rfl rfl rfl hd (by decide) (by decide)
    obtain ⟨S, d2, e2, h2, hl, hf, hS⟩ := veil_ok (odds := odds) (x1 := x1) g d1 h1
    have t : mBin dLt (mCallB F__law_take 0 (liftA (plCons (pC (.int 8)) plNil))) (lift (pVar 2)) [some (.bx 0), x1, some (.dat (.int odds)), some (.dat (optD o))] [.live d] = some (.ok (.bool (decide (r < odds))), [.live d1]) := mBin_ok e rfl (dLt_i _ _)
    have k : ∃ e0 : En, (e0 = .un ∨ e0 = opE o) ∧ mIf (mBin dLt (mCallB F__law_take 0 (liftA (plCons (pC (.int 8)) plNil))) (lift (pVar 2))) (lift (pC (.str (PySem.Str.ofString "?")))) (lift (pVar 3)) [some (.bx 0), x1, some (.dat (.int odds)), some (.dat (optD o))] [.live d] = some (.ok (eN e0), [.live d1]) := by
      by_cases c : r < odds
      · rw [decide_eq_true c] at t
        exact ⟨.un, .inl rfl, Eq.trans (mIf_t t rfl) rfl⟩
      · rw [decide_eq_false c] at t
        exact ⟨opE o, .inr rfl, Eq.trans (mIf_f t rfl) (by rw [eN_op]; rfl)⟩
    obtain ⟨e0, he0, k⟩ := k
    refine ⟨e0 :: S, d2, ?_, h2, by simp [hl], ?_, fun y hy => ?_⟩
    · rw [List.map_cons, compL, s_gN, if_pos (by show 3 < 4; decide)]
      dsimp only
      rw [s_lift, s_pTrue]
      simp only [Option.map_some, s_truthB]
      rw [show ([some (Cel.bx 0), x1, some (Cel.dat (.int odds)), none] : Env).set 3 (some (.dat (optD o))) = [some (.bx 0), x1, some (.dat (.int odds)), some (.dat (optD o))] from rfl, k]
      dsimp only
      rw [e2]; rfl
    · unfold fitL at hf ⊢
      rw [List.zip_cons_cons, List.all_cons, hf, Bool.and_true, Bool.or_eq_true, decide_eq_true_eq, decide_eq_true_eq]
      exact he0.imp id fun h => h.symm
    · rcases List.mem_cons.mp hy with rfl | hy
      · rcases he0 with h | h
        · exact .inl h
        · exact .inr ⟨o, List.mem_cons_self, h⟩
      · rcases hS y hy with h | ⟨o', h, h'⟩
        · exact .inl h
        · exact .inr ⟨o', List.mem_cons_of_mem _ h, h'⟩
theorem veiled_ok {d : D} (hd : Box3 d) (g : List (Option Int)) : ∃ (S : List En) (d' : D), F__law_veiled [.bx 0, .dat (.list (g.map optD))] [.live d] = some (.ok (.list (S.map eN)), [.live d']) ∧ Box3 d' ∧ S.length = g.length ∧ fitL S g = true ∧ ∀ e ∈ S, e = .un ∨ ∃ o ∈ g, e = opE o := by
  obtain ⟨x, d1, hx, e, h1⟩ := of_g (env := [some (.bx 0), some (.dat (.list (g.map optD))), none, none]) (b := [.live d]) (i := 0) (k := 0) (ds := [.int 0, .int 3, .int 6]) (ms := (liftA (plCons (pApp gLstD (plCons (pC (.int 0)) (plCons (pC (.int 3)) (plCons (pC (.int 6)) plNil)))) plNil))) rfl rfl rfl hd (by simp) (by show 3 ≤ 100000; decide)
  obtain ⟨odds, rfl⟩ : ∃ i : Int, x = .int i := by
    rcases List.mem_cons.mp hx with rfl | hx
    · exact ⟨_, rfl⟩
    · rcases List.mem_cons.mp hx with rfl | hx
      · exact ⟨_, rfl⟩
      · exact ⟨_, List.mem_singleton.mp hx⟩
  obtain ⟨S, d2, e2, h2, hl, hf, hS⟩ := veil_ok (odds := odds) (x1 := some (.dat (.list (g.map optD)))) g d1 h1
  refine ⟨S, d2, ?_, h2, hl, hf, hS⟩
  unfold F__law_veiled
  refine Eq.trans (runF_rt (b := [.live d2]) (d := .list (S.map eN)) [some (.bx 0), some (.dat (.list (g.map optD))), none, none] rfl rfl ?_) rfl
  exact sSeq_ok (sAsg_ok e rfl) (sRet_ok (comp_row (items := g.map optD) (b1 := [.live d1]) (liftA_ok (plSeq_ok rfl rfl)) e2))
def OkS (s : Nat) (S : List En) : Prop := ∀ i, En.rk i ∈ S → 1 ≤ i ∧ i ≤ s
theorem rank_yes {s : Nat} {i : Int} (h : 1 ≤ i ∧ i ≤ s) : fP F_is_rank [.int s, .int i] = some (.bool true) := by
  have e : fP F_is_integer [.int i] = some (.bool true) := by
    unfold F_is_integer
    exact fP_rt (b := []) [some (.dat _)] rfl rfl (sRet_ok (lift_ok rfl))
  unfold F_is_rank
  refine fP_rt (b := []) [some (.dat (.int s)), some (.dat (.int i))] rfl rfl (sRet_ok (lift_ok ?_))
  refine pAnd_t (pApp_ok (plCons_ok rfl rfl) e) ?_
  have c : pChain dLe dLe (pC (.int 1)) (pVar 1) (pVar 0) [some (.dat (.int s)), some (.dat (.int i))] [] = some (.bool (decide (1 ≤ i) && decide (i ≤ (s : Int)))) := chain_le 1 i s rfl rfl rfl
  rw [decide_eq_true h.1, decide_eq_true h.2] at c
  exact c
theorem entry_yes {s : Nat} {e : En} (h : ∀ i, e = .rk i → 1 ≤ i ∧ i ≤ s) : fP F_is_entry [.int s, eN e] = some (.bool true) := by
  unfold F_is_entry
  refine fP_rt (b := []) [some (.dat (.int s)), some (.dat (eN e))] rfl rfl (sRet_ok (lift_ok ?_))
  cases e with
  | no => rfl
  | un =>
    have e1 : (pAnd (pUn (uIs .str) (pVar 1)) (pBin dEq (pVar 1) (pC (.str (PySem.Str.ofString "?"))))) [some (.dat (.int s)), some (.dat (eN .un))] [] = some (.bool true) := pAnd_t (pUn_ok rfl rfl) (pBin_ok rfl rfl (dEq_eN .un .un))
    refine pOr_f (pBin_ok rfl rfl rfl) ?_
    rw [s_pOr, e1]; rfl
  | rk i => exact pOr_f (pBin_ok rfl rfl rfl) (pOr_f (pAnd_f (pUn_ok rfl rfl)) (pApp_ok (plCons_ok rfl (plCons_ok rfl rfl)) (rank_yes (h i rfl))))
theorem seen_yes {s : Nat} {v : List Int} {S : List En} (h : OkS s S) (hl : S.length = v.length) : fP F_is_seen [.int s, eL v, .list (S.map eN)] = some (.bool true) := by
  have ld : cLen [.list (S.map eN)] = some (.int (v.length : Nat)) := by
    show some (PyData.int ((S.map eN).length : Nat)) = _
    rw [List.length_map, hl]
  unfold F_is_seen
  refine fP_rt (b := []) [some (.dat (.int s)), some (.dat (eL v)), some (.dat (.list (S.map eN))), none] rfl rfl (sRet_ok (lift_ok ?_))
  have q := pComp_enc (pi := plSeq (pVar 2)) (i := 3) (vs := [3]) (pc := pTrue) (pe := pApp (fP F_is_entry) (plCons (pVar 0) (plCons (pVar 3) plNil))) (env := [some (.dat (.int s)), some (.dat (eL v)), some (.dat (.list (S.map eN))), none]) (b := []) (enc := eN) (dec := PyData.bool) (xs := S) (fun _ => true) (fun _ => true) (by simp) (plSeq_ok rfl rfl) (fun _ _ => rfl) fun x hx _ => pApp_ok (plCons_ok rfl (plCons_ok rfl rfl)) (entry_yes fun i hi => h i (hi ▸ hx))
  rw [filter_tt] at q
  have ca := cAll_map (fun _ : En => true) S
  have al : (S.all fun _ => true) = true := by rw [List.all_eq_true]; exact fun _ _ => rfl
  rw [al] at ca
  refine pAnd_t (pUn_ok rfl rfl) (pAnd_t (pBin_ok (pApp_ok (plCons_ok rfl rfl) ld) (pApp_ok (plCons_ok rfl rfl) (lenL v)) ?_) (pApp_ok (plCons_ok q rfl) ?_))
  · rw [dEq_i, beq_self_eq_true]
  · rw [List.map_map]; exact ca
theorem good_q : Good 0 20 (.str (PySem.Str.ofString "?")) := ⟨by decide +kernel, by decide +kernel, by decide +kernel, by decide +kernel, by decide +kernel⟩
theorem good_S {s : Nat} {S : List En} (h : OkS s S) (hs : s ≤ 12) (hl : S.length ≤ 100) : Good 1 5000 (.list (S.map eN)) := by
  refine (good_list (j := 0) (n := 20) fun d hd => ?_).mono (Nat.le_refl _) (by rw [List.length_map]; omega)
  obtain ⟨e, he, rfl⟩ := List.mem_map.mp hd
  cases e with
  | un => exact good_q
  | no => exact good_none.mono (Nat.le_refl _) (by decide)
  | rk i => exact (good_int (k := 3) (by have := h i he; omega) (by decide) (by decide) (by have := h i he; omega)).mono (Nat.le_refl _) (by decide)
theorem map_opE (g : List (Option Int)) : (g.map opE).map eN = g.map optD := by
  rw [List.map_map]
  exact List.map_congr_left fun o _ => eN_op o
theorem opE_inj {a b : Option Int} : opE a = opE b ↔ a = b := by
  constructor
  · intro h; cases a <;> cases b <;> first | rfl | (cases h; rfl) | cases h
  · intro h; rw [h]
theorem opE_un (o : Option Int) : opE o ≠ .un := by cases o <;> simp [opE]
theorem eqS_eN (a c : En) : eqS (eN a) (eN c) = decide (a = c) := by
  cases a <;> cases c
  case rk.rk i j =>
    show (i == j) = _
    rw [Bool.eq_iff_iff]
    simp
  all_goals (simp [eN, eqS] <;> decide +kernel)
theorem eqL_S : ∀ S T : List En, eqS.eqL (S.map eN) (T.map eN) = decide (S = T)
  | [], [] => rfl
  | [], _ :: _ => rfl
  | _ :: _, [] => rfl
  | a :: S, c :: T => by
    show (eqS (eN a) (eN c) && eqS.eqL (S.map eN) (T.map eN)) = _
    rw [eqS_eN, eqL_S S T, Bool.eq_iff_iff, Bool.and_eq_true, decide_eq_true_eq, decide_eq_true_eq, decide_eq_true_eq, List.cons.injEq]
theorem eq_S {s : Nat} {S T : List En} (hS : OkS s S) (hT : OkS s T) (hs : s ≤ 12) (lS : S.length ≤ 100) (lT : T.length ≤ 100) : dEq (.list (S.map eN)) (.list (T.map eN)) = some (.bool (decide (S = T))) := by
  have g1 := (good_S hS hs lS).ok (by decide)
  have g2 := (good_S hT hs lT).ok (by decide)
  have e : eqS (.list (S.map eN)) (.list (T.map eN)) = decide (S = T) := eqL_S S T
  unfold dEq bothStr
  simp only [g1, g2, e]
  rfl
theorem fit_full : ∀ (g h : List (Option Int)), g.length = h.length → (fitL (g.map opE) h = true ↔ h = g)
  | [], [], _ => by simp [fitL]
  | o :: g, p :: h, hl => by
    have ih := fit_full g h (by simpa using hl)
    unfold fitL at ih ⊢
    rw [List.map_cons, List.zip_cons_cons, List.all_cons, Bool.and_eq_true, ih, Bool.or_eq_true, decide_eq_true_eq, decide_eq_true_eq, List.cons.injEq]
    constructor
    · rintro ⟨h1 | h1, h2⟩
      · exact absurd h1 (opE_un o)
      · exact ⟨opE_inj.mp h1, h2⟩
    · rintro ⟨h1, h2⟩
      exact ⟨.inr (opE_inj.mpr h1), h2⟩
  | [], _ :: _, h => by cases h
  | _ :: _, [], h => by cases h
theorem fit_un (n : Nat) (h : List (Option Int)) : fitL (List.replicate n .un) h = true := by
  unfold fitL
  rw [List.all_eq_true]
  intro p hp
  have := (List.of_mem_zip hp).1
  rw [(List.mem_replicate.mp this).2]
  rfl
theorem fit_set : ∀ (S : List En) (h : List (Option Int)) (n : Nat) (e : En) (o : Option Int), S.length = h.length → S[n]? = some .un → e ≠ .un → h[n]? = some o → (fitL (S.set n e) h = true ↔ fitL S h = true ∧ opE o = e)
  | [], _, _, _, _, _, h2, _, _ => by simp at h2
  | a :: S, [], _, _, _, hl, _, _, _ => by cases hl
  | a :: S, p :: h, 0, e, o, hl, h2, h3, h4 => by
    have h2 : a = .un := by simpa using h2
    have h4 : p = o := by simpa using h4
    subst h2
    subst h4
    unfold fitL
    rw [List.set_cons_zero, List.zip_cons_cons, List.zip_cons_cons, List.all_cons, List.all_cons, Bool.and_eq_true, Bool.and_eq_true, Bool.or_eq_true, Bool.or_eq_true, decide_eq_true_eq, decide_eq_true_eq, decide_eq_true_eq, decide_eq_true_eq]
    constructor
    · rintro ⟨h1 | h1, h5⟩
      · exact absurd h1 h3
      · exact ⟨⟨.inl rfl, h5⟩, h1⟩
    · rintro ⟨⟨_, h5⟩, h1⟩
      exact ⟨.inr h1, h5⟩
  | a :: S, p :: h, n + 1, e, o, hl, h2, h3, h4 => by
    have ih := fit_set S h n e o (by simpa using hl) (by simpa using h2) h3 (by simpa using h4)
    unfold fitL at ih ⊢
    rw [List.set_cons_succ, List.zip_cons_cons, List.zip_cons_cons, List.all_cons, List.all_cons, Bool.and_eq_true, Bool.and_eq_true, ih, and_assoc]
theorem nub_map (v : List Int) (l : List (List Int)) : nubL (l.map fun r => rm r v) = ends v l := by
  unfold nubL ends
  rw [List.foldl_map]
theorem rowsI_map : ∀ l : List (List Int), rowsI (l.map eT) = some l
  | [] => rfl
  | c :: l => by
    show (asInts (c.map PyData.int)).bind _ = _
    rw [asInts_map, Option.bind_some, rowsI_map l]; rfl
theorem sortSetR (v : List Int) (l : List (List Int)) (h : l.length ≤ 64) : dSortSetR (.list (l.map fun r => eT (rm r v))) = some (lL (sortC (ends v l))) := by
  have e : (l.map fun r => eT (rm r v)) = (l.map fun r => rm r v).map eT := by rw [List.map_map]; rfl
  rw [e]
  show (rowsI _).bind _ = _
  rw [rowsI_map, Option.bind_some, if_pos (by rw [List.length_map]; exact h), nub_map]
  rfl
end DL
set_option Elab.async false
set_option linter.all false
set_option maxRecDepth 100000
set_option maxHeartbeats 4000000
namespace DL
open PySem PySem.Spec PyProof.Rows
open L2 hiding St V
local macro_rules | `(tactic| trivial) => `(tactic| first
  | (with_reducible apply lift_ok) <;> trivial
  | (with_reducible apply liftA_ok) <;> trivial
  | (with_reducible apply plCons_ok) <;> trivial
  | (with_reducible apply pVar_ok) <;> rfl
  | with_reducible exact pC_ok _ _ _
  | with_reducible exact plNil_ok _ _
  | with_reducible exact pTrue_ok _ _
  | (with_reducible apply pApp_ok) <;> trivial
  | (with_reducible apply pBin_ok) <;> trivial
  | (with_reducible apply pUn_ok) <;> trivial
  | (with_reducible apply plSeq_ok) <;> trivial
  | (with_reducible apply plOf_ok) <;> trivial
  | (with_reducible apply pOr_f) <;> trivial
  | (with_reducible first | apply fK_10 | apply fK_01 | apply fK_0 | apply fK_210 | apply fK_120 | apply fK_201 | apply fK_021 | apply fK_102 | apply fK_012) <;> trivial
  | with_reducible (refine Eq.symm (Eq.symm ?_); assumption)
  | with_reducible first
    | exact dAdd_i _ _ | exact dSub_i _ _ | exact dLt_i _ _ | exact dGt_i _ _ | exact dEq_i _ _ | exact dNe_i _ _ | exact dLe_i _ _ | exact dGe_i _ _
    | exact g_l0 | exact g_l1 _ | exact g_l2 _ _ | exact g_l3 _ _ _ | exact g_l4 _ _ _ _ | exact g_l5 _ _ _ _ _ | exact g_l6 _ _ _ _ _ _
    | exact g_t0 | exact g_t1 _ | exact g_t2 _ _ | exact g_t3 _ _ _ | exact g_t4 _ _ _ _
    | exact ix_l10 _ | exact ix_l20 _ _ | exact ix_l21 _ _ | exact ix_l30 _ _ _ | exact ix_l31 _ _ _ | exact ix_l32 _ _ _ | exact ix_t20 _ _ | exact ix_t21 _ _
    | exact not_bt | exact not_bf | exact cList_l _ | exact cList_t _ | exact cTuple_l _ | exact cTuple_t _ | exact seqOf_l _ | exact seqOf_t _ | exact lenL _ | exact lenC _
  | skip)
def LB79_1 : S := (sSeq (sAsg (gN 7) (lift (pBin dAdd (pBin dAdd (pSl (pVar 2) ppNone (ppSome (pVar 3))) (pApp gLstD (plCons (pVar 6) plNil))) (pSl (pVar 2) (ppSome (pBin dAdd (pVar 3) (pC (.int 1)))) ppNone)))) (sSeq (sAsg (gN 8) (lift (pApp (fP F_rooms_seen) (plCons (pVar 0) (plCons (pVar 1) (plCons (pVar 7) plNil)))))) (sSeq (sAsg (gN 9) (lift (pApp (fP F_first_wrong) (plCons (pVar 0) (plCons (pVar 1) (plCons (pVar 7) plNil)))))) (sSeq (sIf (lift (pOr (pBin dNe (pBin dEq (pVar 8) (pApp gLstD plNil)) (pBin dIsNot (pVar 9) (pC .none))) (pAnd (pBin dEq (pVar 8) (pApp gLstD plNil)) (pBin dNe (pApp (fP F_ends_seen) (plCons (pVar 0) (plCons (pVar 1) (plCons (pVar 7) plNil)))) (pApp gLstD plNil))))) (sRet (lift (pC (.bool false)))) sNil) (sSeq (sIf (lift (pAnd (pBin dIsNot (pVar 9) (pC .none)) (pUn dNot (pChain dLe dLt (pVar 3) (pVar 9) (pApp cLen (plCons (pVar 1) plNil)))))) (sRet (lift (pC (.bool false)))) sNil) (sAsg (gN 5) (lift (pBin dAdd (pVar 5) (pVar 8)))))))))
theorem psl_drop {α : Type} {enc : α → D} {p : P} {env : Env} {b : Bx} {xs : List α} {n : Nat} {g : P} (h : p env b = some (.list (xs.map enc))) (hg : g env b = some (.int (n : Nat))) : pSl p (ppSome g) ppNone env b = some (.list ((xs.drop n).map enc)) := by
  have c : cutL (xs.map enc) (some (n : Int)) none = (xs.drop n).map enc := by
    unfold cutL
    rw [HT.sIx_nat, HT.sIx_none, List.length_map, ← List.map_drop, List.take_of_length_le (by rw [List.length_map, List.length_drop]; omega)]
    congr 1
    rcases Nat.le_total n xs.length with h | h
    · rw [Nat.min_eq_left h]
    · rw [Nat.min_eq_right h, List.drop_eq_nil_of_le (Nat.le_refl _), List.drop_eq_nil_of_le h]
  have e : ppSome g env b = some (some (n : Int)) := by unfold ppSome; rw [hg]; rfl
  unfold pSl
  rw [h, Option.bind_some, e, Option.bind_some]
  show (some none : Option (Option Int)).bind _ = _
  rw [Option.bind_some]
  show some (PyData.list _) = _
  rw [c]
theorem psl_take' {α : Type} {enc : α → D} {p : P} {env : Env} {b : Bx} {xs : List α} {n : Nat} {g : P} (h : p env b = some (.list (xs.map enc))) (hg : g env b = some (.int (n : Nat))) : pSl p ppNone (ppSome g) env b = some (.list ((xs.take n).map enc)) := by
  obtain ⟨d', h1, h2⟩ := psl_take h (.inl rfl) hg
  rcases h2 with ⟨_, h2⟩ | ⟨h2, _⟩
  · rw [h1, h2]
  · cases h2
theorem gn_rks {s : Nat} {R v : List Int} (hR : ∀ x ∈ R, 1 ≤ x ∧ x ≤ s) (hv : ∀ x ∈ v, 1 ≤ x ∧ x ≤ s) {i : Int} (h : some i ∈ gn R v) : 1 ≤ i ∧ i ≤ s := by
  induction v generalizing R with
  | nil => cases h
  | cons a v ih =>
    rcases List.mem_cons.mp (h : some i ∈ goneI R a :: gn (ent R a) v) with h | h
    · have h : goneI R a = some i := h.symm
      unfold goneI at h
      split at h
      · cases h
      · split at h
        · cases h
        · rename_i y r hf
          cases h
          have : i ∈ R.filter fun x => decide (a < x) := by rw [hf]; exact List.mem_cons_self
          exact hR i (List.mem_filter.mp this).1
    · exact ih (fun x hx => (mem_ent hx).elim (fun e => e ▸ hv a List.mem_cons_self) (hR x)) (fun x hx => hv x (List.mem_cons_of_mem _ hx)) h
theorem fitR_set {s n : Nat} {v : List Int} {S : List En} {e : En} (hS : S.length = v.length) (hn : S[n]? = some .un) (he : e ≠ .un) : fitR v (S.set n e) s = (fitR v S s).filter fun r => decide (opE ((gn r v)[n]?.getD none) = e) := by
  unfold fitR
  rw [List.filter_filter]
  refine List.filter_congr fun r _ => ?_
  have hlt : n < (gn r v).length := by rw [gn_len, ← hS]; exact (List.getElem?_eq_some_iff.mp hn).1
  have q := fit_set S (gn r v) n e ((gn r v)[n]) (by rw [gn_len, hS]) hn he (List.getElem?_eq_getElem hlt)
  rw [Bool.eq_iff_iff, q, Bool.and_eq_true, decide_eq_true_eq, List.getElem?_eq_getElem hlt]
  exact and_comm
theorem parts_perm {α : Type} (f : α → En) (l : List α) : ∀ EL : List En, EL.Nodup → (EL.flatMap fun e => l.filter fun r => decide (f r = e)).Perm (l.filter fun r => decide (f r ∈ EL))
  | [], _ => by
    rw [List.flatMap_nil, List.filter_eq_nil_iff.mpr]
    intro a _
    simp
  | e :: EL, h => by
    obtain ⟨h1, h2⟩ := List.nodup_cons.mp h
    rw [List.flatMap_cons]
    refine ((parts_perm f l EL h2).append_left _).trans ((filter_or _ _ (fun x hx => ?_) l).trans (List.Perm.of_eq (List.filter_congr fun x _ => ?_)))
    · rw [decide_eq_true_eq] at hx
      rw [decide_eq_false_iff_not, hx]
      exact h1
    · rw [Bool.eq_iff_iff, Bool.or_eq_true, decide_eq_true_eq, decide_eq_true_eq, decide_eq_true_eq, List.mem_cons]
def EL (s : Nat) : List En := .no :: (seqI 1 s).map .rk
theorem EL_nd {s : Nat} (hs : s ≤ 6) : (EL s).Nodup := by
  have : ∀ s : Fin 7, (EL s.val).Nodup := by decide +kernel
  exact this ⟨s, by omega⟩
theorem EL_len (s : Nat) : (EL s).length = s + 1 := by
  show ((seqI 1 s).map En.rk).length + 1 = _
  rw [List.length_map, seqI_length]
theorem all_in_EL {s n : Nat} {v r : List Int} (hr : ∀ x ∈ r, 1 ≤ x ∧ x ≤ s) (hv : ∀ x ∈ v, 1 ≤ x ∧ x ≤ s) : opE ((gn r v)[n]?.getD none) ∈ EL s := by
  cases hg : (gn r v)[n]? with
  | none => exact List.mem_cons_self
  | some o => cases o with
    | none => exact List.mem_cons_self
    | some i =>
      have := gn_rks hr hv (List.mem_of_getElem? hg)
      refine List.mem_cons_of_mem _ (List.mem_map.mpr ⟨i, seqI_mem.mpr (by omega), rfl⟩)
theorem parts_whole {s n : Nat} (hs : s ≤ 6) {v : List Int} {S : List En} (hv : ∀ x ∈ v, 1 ≤ x ∧ x ≤ s) (hS : S.length = v.length) (hn : S[n]? = some .un) : sortC ((EL s).flatMap fun e => fitR v (S.set n e) s) = fitR v S s := by
  have e : ((EL s).flatMap fun e => fitR v (S.set n e) s) = (EL s).flatMap fun e => (fitR v S s).filter fun r => decide (opE ((gn r v)[n]?.getD none) = e) := by
    have : ∀ L : List En, (∀ e ∈ L, e ≠ .un) → (L.flatMap fun e => fitR v (S.set n e) s) = L.flatMap fun e => (fitR v S s).filter fun r => decide (opE ((gn r v)[n]?.getD none) = e) := by
      intro L
      induction L with
      | nil => intro _; rfl
      | cons e L ih =>
        intro h
        rw [List.flatMap_cons, List.flatMap_cons, ih fun x hx => h x (List.mem_cons_of_mem _ hx), fitR_set hS hn (h e List.mem_cons_self)]
    refine this _ fun e he => ?_
    rcases List.mem_cons.mp he with rfl | he
    · simp
    · obtain ⟨i, _, rfl⟩ := List.mem_map.mp he
      simp
  rw [e]
  refine sortC_eq ((parts_perm _ _ _ (EL_nd hs)).trans (List.Perm.of_eq ?_)) (List.Pairwise.filter _ (AR_le s))
  rw [List.filter_eq_self]
  intro r hr
  rw [decide_eq_true_eq]
  exact all_in_EL (fun x hx => ((AR_mem.mp (List.mem_filter.mp hr).1).2 x hx)) hv
theorem fw_some {s n : Nat} {v : List Int} {S : List En} {R : List Int} (hR : R ∈ AR s) (hf : fitL S (gn R v) = true) (hS : S.length = v.length) (hn : n < S.length) (e : En) (h : fitR v (S.set n e) s = []) : ∃ j, fw v (S.set n e) s = some j ∧ n ≤ j ∧ j < v.length := by
  cases hw : fw v (S.set n e) s with
  | none =>
    unfold fw at hw
    rw [List.find?_eq_none] at hw
    have := hw (S.length - 1) (by rw [List.mem_range, List.length_set]; omega)
    rw [decide_eq_true_eq] at this
    refine absurd ?_ this
    have e1 : S.length - 1 + 1 = S.length := by omega
    rw [e1, List.take_of_length_le (by rw [hS]; exact Nat.le_refl _), List.take_of_length_le (by rw [List.length_set]; exact Nat.le_refl _)]
    exact h
  | some j =>
    refine ⟨j, rfl, ?_, ?_⟩
    · apply Classical.byContradiction
      intro z
      unfold fw at hw
      have hp := List.find?_some hw
      rw [decide_eq_true_eq] at hp
      have et : (S.set n e).take (j + 1) = S.take (j + 1) := by rw [List.take_set_of_le (by omega)]
      rw [et] at hp
      have : R ∈ fitR (v.take (j + 1)) (S.take (j + 1)) s := List.mem_filter.mpr ⟨hR, by rw [gn_take]; exact fitL_take (j + 1) hf⟩
      rw [hp] at this
      cases this
    · unfold fw at hw
      have := List.mem_range.mp (List.mem_of_find?_eq_some hw)
      rw [List.length_set] at this
      omega
theorem fw_none {v : List Int} {S : List En} {s : Nat} (h : fitR v S s ≠ []) : fw v S s = none := by
  obtain ⟨r, hr⟩ := List.exists_mem_of_ne_nil _ h
  obtain ⟨h1, h2⟩ := List.mem_filter.mp hr
  unfold fw
  rw [List.find?_eq_none]
  intro i _
  rw [decide_eq_true_eq]
  intro z
  have : r ∈ fitR (v.take (i + 1)) (S.take (i + 1)) s := List.mem_filter.mpr ⟨h1, by rw [gn_take]; exact fitL_take (i + 1) h2⟩
  rw [z] at this
  cases this
def E79 (s : Nat) (v : List Int) (S : List En) (n : Nat) (W : List (List Int)) (x5 x6 x7 x8 x9 : Option Cel) : Env := [some (.dat (.int s)), some (.dat (eL v)), some (.dat (.list (S.map eN))), some (.dat (.int n)), some (.dat (lL W)), x5, x6, x7, x8, x9]
theorem neB (a c : Bool) : dNe (.bool a) (.bool c) = some (.bool (!(a == c))) := by cases a <;> cases c <;> rfl
theorem isNot_nat (o : Option Nat) : dIsNot (natD o) .none = some (.bool o.isSome) := by cases o <;> rfl
theorem rms_nil : Rms [] := ⟨fun c hc => (by cases hc), Nat.zero_le _⟩
theorem ends_nil79 (v : List Int) : sortC (ends v []) = [] := rfl
theorem body79 {s n : Nat} {v : List Int} {S : List En} {W P : List (List Int)} {e : En} {R : List Int} (hs : s ≤ 6) (hv : ∀ x ∈ v, 1 ≤ x ∧ x ≤ s) (lv : v.length ≤ 10) (hS : S.length = v.length) (hn : n < S.length) (hR : R ∈ AR s) (hf : fitL S (gn R v) = true) (hP : P.length ≤ 1000) {x7 x8 x9 : Option Cel} :
    ∃ y7 y8 y9, LB79_1 (E79 s v S n W (some (.dat (lL P))) (some (.dat (eN e))) x7 x8 x9) [] = some (.nx (E79 s v S n W (some (.dat (lL (P ++ fitR v (S.set n e) s)))) (some (.dat (eN e))) y7 y8 y9), []) := by
  have hv12 : Rk v := fun x hx => by have := hv x hx; omega
  have s12 : s ≤ 12 := by omega
  have lS : (S.set n e).length = v.length := by rw [List.length_set, hS]
  have r1 := rooms_seen_r (t := eL v) (u := .list ((S.set n e).map eN)) s12 (.inr rfl) hv12 (by omega) (.inl rfl) lS
  have r2 := ends_seen_r (t := eL v) (u := .list ((S.set n e).map eN)) s12 (.inr rfl) hv12 (by omega) (.inl rfl) lS
  have r3 := first_wrong_r (t := eL v) (u := .list ((S.set n e).map eN)) s12 (.inr rfl) hv12 (by omega) (.inl rfl) lS
  have rF : Rms (fitR v (S.set n e) s) := fitR_rms s12 v _
  have eq0 := eq_lL rF rms_nil
  have lF : (fitR v (S.set n e) s).length ≤ 4096 := Nat.le_trans (List.length_filter_le _ _) (AR_small s12)
  have ad := add_lL (a := P) (b := fitR v (S.set n e) s) (by omega)
  have key : (decide (fitR v (S.set n e) s = []) = (fw v (S.set n e) s).isSome) ∧ ∀ j, fw v (S.set n e) s = some j → n ≤ j ∧ j < v.length := by
    by_cases c : fitR v (S.set n e) s = []
    · obtain ⟨j, h1, h2, h3⟩ := fw_some hR hf hS hn e c
      rw [decide_eq_true c, h1]
      exact ⟨rfl, fun j' h => by cases h; exact ⟨h2, h3⟩⟩
    · rw [decide_eq_false c, fw_none c]
      exact ⟨rfl, fun j' h => by cases h⟩
  have ne2 : fitR v (S.set n e) s = [] → dNe (lL (sortC (ends v (fitR v (S.set n e) s)))) (.list []) = some (.bool false) := fun c => by
    rw [c, ends_nil79]; exact ne_self (good_lL rms_nil) (by decide)
  have cut : ∀ x7 x8 x9, (pBin dAdd (pBin dAdd (pSl (pVar 2) ppNone (ppSome (pVar 3))) (pApp gLstD (plCons (pVar 6) plNil))) (pSl (pVar 2) (ppSome (pBin dAdd (pVar 3) (pC (.int 1)))) ppNone)) (E79 s v S n W (some (.dat (lL P))) (some (.dat (eN e))) x7 x8 x9) [] = some (.list ((S.set n e).map eN)) := fun x7 x8 x9 => by
    have t1 := psl_take' (p := pVar 2) (g := pVar 3) (n := n) (enc := eN) (xs := S) (env := E79 s v S n W (some (.dat (lL P))) (some (.dat (eN e))) x7 x8 x9) (b := []) rfl rfl
    have t2 := psl_drop (p := pVar 2) (g := pBin dAdd (pVar 3) (pC (.int 1))) (n := n + 1) (enc := eN) (xs := S) (env := E79 s v S n W (some (.dat (lL P))) (some (.dat (eN e))) x7 x8 x9) (b := []) rfl (pBin_ok rfl rfl (dAdd_i _ _))
    have e1 : (S.take n).map eN ++ [eN e] ++ (S.drop (n + 1)).map eN = (S.set n e).map eN := by
      rw [List.set_eq_take_append_cons_drop, if_pos hn, List.map_append, List.map_cons, List.append_assoc]; rfl
    rw [← e1]
    have l1 : (S.take n).length ≤ 10 := by rw [List.length_take]; omega
    have l2 : (S.drop (n + 1)).length ≤ 10 := by rw [List.length_drop]; omega
    refine pBin_ok (pBin_ok t1 (pApp_ok (plCons_ok rfl rfl) rfl) (addL ?_)) t2 (addL ?_)
    · rw [List.length_map, List.length_singleton]; exact Nat.le_trans (by omega : _ ≤ 11) (by decide)
    · rw [List.length_append, List.length_map, List.length_singleton, List.length_map]; exact Nat.le_trans (by omega : _ ≤ 21) (by decide)
  generalize hL : fitR v (S.set n e) s = L at *
  generalize ho : fw v (S.set n e) s = o at *
  obtain ⟨k1, k2⟩ := key
  refine ⟨some (.dat (.list ((S.set n e).map eN))), some (.dat (lL L)), some (.dat (natD o)), ?_⟩
  unfold LB79_1
  refine seq_asg (cut _ _ _) rfl ?_
  refine seq_asg (d := lL L) (pApp_ok (plCons_ok rfl (plCons_ok rfl (plCons_ok rfl rfl))) r1) rfl ?_
  refine seq_asg (d := natD o) (pApp_ok (plCons_ok rfl (plCons_ok rfl (plCons_ok rfl rfl))) r3) rfl ?_
  refine seq_no (pOr_f (pBin_ok (pBin_ok rfl (pApp_ok rfl rfl) eq0) (pBin_ok rfl rfl (isNot_nat o)) (by rw [neB, k1]; simp)) ?_) ?_
  · by_cases c : L = []
    · rw [decide_eq_true c] at eq0
      exact pAnd_t (pBin_ok rfl (pApp_ok rfl rfl) eq0) (pBin_ok (pApp_ok (plCons_ok rfl (plCons_ok rfl (plCons_ok rfl rfl))) r2) (pApp_ok rfl rfl) (ne2 c))
    · rw [decide_eq_false c] at eq0
      exact pAnd_f (pBin_ok rfl (pApp_ok rfl rfl) eq0)
  refine seq_no ?_ ?_
  · cases o with
    | none => exact pAnd_f (pBin_ok rfl rfl rfl)
    | some j =>
      obtain ⟨q1, q2⟩ := k2 j rfl
      have c := chain_lt n j v.length (p := pVar 3) (q := pVar 9) (r := pApp cLen (plCons (pVar 1) plNil)) (env := E79 s v S n W (some (.dat (lL P))) (some (.dat (eN e))) (some (.dat (.list ((S.set n e).map eN)))) (some (.dat (lL L))) (some (.dat (natD (some j))))) (b := []) rfl rfl (pApp_ok (plCons_ok rfl rfl) (lenL v))
      rw [decide_eq_true (by omega : (n : Int) ≤ j), decide_eq_true (by omega : (j : Int) < v.length)] at c
      exact pAnd_t (pBin_ok rfl rfl rfl) (not_t c)
  · exact Eq.trans (sAsg_ok (lift_ok (pBin_ok rfl rfl ad)) rfl) rfl
theorem flat_len79 {s : Nat} (hs : s ≤ 6) (v : List Int) (S : List En) (n : Nat) : ∀ L : List En, (L.flatMap fun e => fitR v (S.set n e) s).length ≤ L.length * 64
  | [] => Nat.zero_le _
  | e :: L => by
    have ih := flat_len79 hs v S n L
    have h : (fitR v (S.set n e) s).length ≤ 64 := Nat.le_trans (List.length_filter_le _ _) (by rw [AR_len]; exact Nat.le_trans (Nat.pow_le_pow_right (by decide : 2 > 0) hs) (by decide))
    rw [List.flatMap_cons, List.length_append, List.length_cons]
    omega
theorem parts_r {s n : Nat} {v : List Int} {S : List En} {R : List Int} (s1 : 1 ≤ s) (hs : s ≤ 6) (hv : ∀ x ∈ v, 1 ≤ x ∧ x ≤ s) (lv : v.length ≤ 10) (hS : S.length = v.length) (hn : S[n]? = some .un) (hR : R ∈ AR s) (hf : fitL S (gn R v) = true) :
    fP F__law_parts_right [.int s, eL v, .list (S.map eN), .int n, lL (fitR v S s)] = some (.bool true) := by
  have hlt : n < S.length := (List.getElem?_eq_some_iff.mp hn).1
  have s12 : s ≤ 12 := by omega
  obtain ⟨env5, b5, e5, x6, x7, x8, x9, rfl, rfl⟩ := loop_pre (f := gN 6) (enc := eN) (body := LB79_1) (fun pre env b => ∃ x6 x7 x8 x9, env = E79 s v S n (fitR v S s) (some (.dat (lL (pre.flatMap fun e => fitR v (S.set n e) s)))) x6 x7 x8 x9 ∧ b = []) (EL s) [] (E79 s v S n (fitR v S s) (some (.dat (lL []))) none none none none) [] ⟨_, _, _, _, rfl, rfl⟩ (by
    rintro pre e post env b eq ⟨x6, x7, x8, x9, rfl, rfl⟩
    rw [List.nil_append] at eq
    have lp : pre.length ≤ 7 := by
      have := EL_len s
      rw [eq, List.length_append] at this
      omega
    have fl := flat_len79 hs v S n pre
    obtain ⟨y7, y8, y9, q⟩ := body79 (W := fitR v S s) (P := pre.flatMap fun e => fitR v (S.set n e) s) (e := e) hs hv lv hS hlt hR hf (by omega) (x7 := x7) (x8 := x8) (x9 := x9)
    refine ⟨_, rfl, _, _, q, some (.dat (eN e)), y7, y8, y9, ?_, rfl⟩
    rw [List.flatMap_append, List.flatMap_cons, List.flatMap_nil, List.append_nil])
  rw [List.nil_append] at e5
  have fl := flat_len79 hs v S n (EL s)
  rw [EL_len] at fl
  have so := sorted_lL (l := (EL s).flatMap fun e => fitR v (S.set n e) s) (by omega)
  rw [parts_whole hs hv hS hn] at so
  have rW : Rms (fitR v S s) := fitR_rms s12 v _
  have eq := eq_lL rW rW
  rw [decide_eq_true rfl] at eq
  have rg : rgL (.int 1) (.int ((s : Int) + 1)) = some (.list ((seqI 1 s).map PyData.int)) := by
    have := range2_s s12
    have e : rgL (.int 1) (.int ((s : Int) + 1)) = (range2 [.int 1, .int ((s : Int) + 1)]).map .list := by
      unfold rgL range2
      dsimp only
      by_cases h : rgOk 1 ((s : Int) + 1) = true
      · rw [if_pos h, if_pos h]; rfl
      · rw [if_neg h, if_neg h]; rfl
    rw [e, this]; rfl
  have els : ([PyData.none] ++ (seqI 1 s).map PyData.int) = (EL s).map eN := by
    unfold EL
    rw [List.map_cons, List.map_map]; rfl
  have ad : dAdd (.list [.none]) (.list ((seqI 1 s).map PyData.int)) = some (.list ((EL s).map eN)) := by
    rw [← els]
    refine addL ?_
    rw [List.length_map, seqI_length, List.length_singleton]
    exact Nat.le_trans (by omega : _ ≤ 7) (by decide)
  generalize fitR v S s = W at *
  unfold F__law_parts_right
  refine fP_rt (b := []) [some (.dat (.int s)), some (.dat (eL v)), some (.dat (.list (S.map eN))), some (.dat (.int n)), some (.dat (lL W)), none, none, none, none, none] rfl rfl ?_
  refine seq_asg (d := lL []) (pApp_ok rfl rfl) rfl ?_
  refine sSeq_ok (sFor_ok (ds := (EL s).map eN) (b1 := []) (liftA_ok (plSeq_ok (pBin_ok (pApp_ok rfl rfl) (pBin_ok rfl (pBin_ok rfl rfl (dAdd_i _ _)) rg) ad) rfl)) e5) ?_
  exact sRet_ok (lift_ok (pBin_ok (pApp_ok (plCons_ok rfl rfl) so) rfl eq))
end DL
set_option Elab.async false
set_option linter.all false
set_option maxRecDepth 100000
set_option maxHeartbeats 4000000
namespace DL
open PySem PySem.Spec PyProof.Rows
open L2 hiding St V
local macro_rules | `(tactic| trivial) => `(tactic| first
  | (with_reducible apply lift_ok) <;> trivial
  | (with_reducible apply liftA_ok) <;> trivial
  | (with_reducible apply plCons_ok) <;> trivial
  | (with_reducible apply pVar_ok) <;> rfl
  | with_reducible exact pC_ok _ _ _
  | with_reducible exact plNil_ok _ _
  | with_reducible exact pTrue_ok _ _
  | (with_reducible apply pApp_ok) <;> trivial
  | (with_reducible apply pBin_ok) <;> trivial
  | (with_reducible apply pUn_ok) <;> trivial
  | (with_reducible apply plSeq_ok) <;> trivial
  | (with_reducible apply plOf_ok) <;> trivial
  | (with_reducible apply pOr_f) <;> trivial
  | (with_reducible first | apply fK_10 | apply fK_01 | apply fK_0 | apply fK_210 | apply fK_120 | apply fK_201 | apply fK_021 | apply fK_102 | apply fK_012) <;> trivial
  | with_reducible (refine Eq.symm (Eq.symm ?_); assumption)
  | with_reducible first
    | exact dAdd_i _ _ | exact dSub_i _ _ | exact dLt_i _ _ | exact dGt_i _ _ | exact dEq_i _ _ | exact dNe_i _ _ | exact dLe_i _ _ | exact dGe_i _ _
    | exact g_l0 | exact g_l1 _ | exact g_l2 _ _ | exact g_l3 _ _ _ | exact g_l4 _ _ _ _ | exact g_l5 _ _ _ _ _ | exact g_l6 _ _ _ _ _ _
    | exact g_t0 | exact g_t1 _ | exact g_t2 _ _ | exact g_t3 _ _ _ | exact g_t4 _ _ _ _
    | exact ix_l10 _ | exact ix_l20 _ _ | exact ix_l21 _ _ | exact ix_l30 _ _ _ | exact ix_l31 _ _ _ | exact ix_l32 _ _ _ | exact ix_t20 _ _ | exact ix_t21 _ _
    | exact not_bt | exact not_bf | exact cList_l _ | exact cList_t _ | exact cTuple_l _ | exact cTuple_t _ | exact seqOf_l _ | exact seqOf_t _ | exact lenL _ | exact lenC _
  | skip)
theorem enD_un (e : En) : dEq (eN e) (.str (PySem.Str.ofString "?")) = some (.bool (decide (e = .un))) := dEq_eN e .un
def spots (S : List En) : List Nat := ((S.zipIdx.filter fun p => decide (p.1 = .un)).map (·.2))
theorem spots_at {S : List En} {n : Nat} (h : n ∈ spots S) : S[n]? = some .un := by
  obtain ⟨p, hp, rfl⟩ := List.mem_map.mp h
  obtain ⟨h1, h2⟩ := List.mem_filter.mp hp
  rw [decide_eq_true_eq] at h2
  rw [zipIdx_at h1, h2]
theorem spots_len (S : List En) : (spots S).length ≤ S.length := by
  unfold spots
  rw [List.length_map]
  refine Nat.le_trans (List.length_filter_le _ _) ?_
  rw [List.length_zipIdx]; exact Nat.le_refl _
theorem ends_rms {s : Nat} (hs : s ≤ 12) {v : List Int} (hv : Rk v) {l : List (List Int)} (h : ∀ r ∈ l, Room r) (hl : l.length ≤ 4096) : Rms (sortC (ends v l)) := by
  refine ⟨fun c hc => ?_, by rw [(sortC_perm _).length_eq]; exact Nat.le_trans (ends_len v l) (Nat.le_trans hl (by decide))⟩
  have := (sortC_perm _).mem_iff.mp hc
  obtain ⟨r, hr, rfl⟩ := (ends_mem v l c).mp this
  exact (h r hr).rm hv
theorem opE_maps : ∀ {a c : List (Option Int)}, a.map opE = c.map opE → a = c
  | [], [], _ => rfl
  | [], _ :: _, h => by cases h
  | _ :: _, [], h => by cases h
  | x :: a, y :: c, h => by
    rw [List.map_cons, List.map_cons] at h
    injection h with h1 h2
    rw [opE_inj.mp h1, opE_maps h2]
def F79 (s : Nat) (v R : List Int) (g : List (Option Int)) (x7 x8 x9 x10 x11 x12 : Option Cel) : Env := [some (.bx 0), some (.dat (.int s)), some (.dat (eL v)), some (.dat (eT R)), some (.dat (eC (chs (lnk v)))), some (.dat (lL (AR s))), some (.dat (.list (g.map optD))), x7, x8, x9, x10, x11, x12, none, none, none]
theorem right_ok : RightOk F__law_right := fun d hd => by
  let E0 : Env := some (.bx 0) :: List.replicate 15 none
  obtain ⟨r, d1, e1, h1, r0, r1⟩ := take_g (env := E0) (b := [.live d]) (i := 0) (k := 0) (n := 6) (ms := (liftA (plCons (pC (.int 6)) plNil))) rfl rfl rfl hd (by decide) (by decide)
  obtain ⟨s, hsr⟩ : ∃ s : Nat, (s : Int) = 1 + r := ⟨(1 + r).toNat, by omega⟩
  have s1 : 1 ≤ s := by omega
  have s6 : s ≤ 6 := by omega
  have s12 : s ≤ 12 := by omega
  let E1 : Env := some (.bx 0) :: some (.dat (.int s)) :: List.replicate 14 none
  obtain ⟨v, d2, e2, h2, lv, vs⟩ := tour_g (env := E1) (b := [.live d1]) (i := 0) (k := 0) (span := s) (most := 10) (ms := (liftA (plCons (pVar 1) (plCons (pC (.int 10)) plNil)))) rfl rfl rfl h1 (by omega) (by omega) (by decide) (by decide)
  obtain ⟨R, d3, e3, h3, hRoom, hRs⟩ := any_crowd_g (env := E1) (b := [.live d2]) (i := 0) (k := 0) (n := s) (ms := (liftA (plCons (pVar 1) plNil))) rfl rfl rfl h2 (by omega) (by omega)
  have hv : Rk v := fun x hx => by have := vs x hx; omega
  have lv : v.length ≤ 10 := by omega
  have hR : R ∈ AR s := AR_mem.mpr ⟨hRoom.asc, fun x hx => ⟨(hRoom.rk x hx).1, hRs x hx⟩⟩
  have isC : IsC (eC (chs (lnk v))) (chs (lnk v)) := .inl rfl
  have kc := chains_of_r (.inr rfl : IsSeq (eL v) v) hv
  have rooms : fP F__law_rooms [.int s] = some (lL (AR s)) := law_rooms_r s12
  have told := told_r (s := .int s) hRoom hv (by omega)
  generalize hg : gn R v = g at *
  have lg : g.length = v.length := by rw [← hg, gn_len]
  obtain ⟨S, d4, e4, h4, lS, fS, mS⟩ := veiled_ok h3 g
  have e4 := callB_gen (env := F79 s v R g none none none none none none) (b := [.live d3]) (i := 0) (k := 0) (ms := liftA (plCons (pVar 6) plNil)) (ds := [.list (g.map optD)]) rfl rfl rfl e4
  have lSv : S.length = v.length := by rw [lS, lg]
  have okG : OkS s (g.map opE) := fun i hi => by
    obtain ⟨o, ho, e⟩ := List.mem_map.mp hi
    cases o with
    | none => cases e
    | some j =>
      cases e
      rw [← hg] at ho
      exact gn_rks (fun x hx => ((AR_mem.mp hR).2 x hx)) vs ho
  have okS : OkS s S := fun i hi => by
    rcases mS _ hi with h | ⟨o, ho, h⟩
    · cases h
    · exact okG i (List.mem_map.mpr ⟨o, ho, h.symm⟩)
  have rF := fun T => fitR_rms s12 v T (s := s)
  have hW : R ∈ fitR v S s := List.mem_filter.mpr ⟨hR, by rw [hg]; exact fS⟩
  have lW : (fitR v S s).length ≤ 64 := Nat.le_trans (List.length_filter_le _ _) (by rw [AR_len]; exact Nat.le_trans (Nat.pow_le_pow_right (by decide : 2 > 0) s6) (by decide))
  have roomW : ∀ T, ∀ r ∈ fitR v T s, Room r := fun T => (rF T).room
  have seen := fun (T : List En) (hT : T.length = v.length) => rooms_seen_r (t := eL v) (u := .list (T.map eN)) s12 (.inr rfl) hv (by omega) (.inl rfl) hT
  have endsT := fun (T : List En) (hT : T.length = v.length) => ends_seen_r (t := eL v) (u := .list (T.map eN)) s12 (.inr rfl) hv (by omega) (.inl rfl) hT
  have fwS := first_wrong_r (t := eL v) (u := .list (S.map eN)) s12 (.inr rfl) hv (by omega) (.inl rfl) lSv
  rw [fw_none (fun z => by rw [z] at hW; cases hW)] at fwS
  have seenY := seen_yes okS lSv
  have nin := notIn_lL (rF S) hRoom
  rw [decide_eq_true hW] at nin
  have rE : Rms (sortC (ends v (fitR v S s))) := ends_rms s12 hv (roomW S) (by omega)
  have nE := ne_lL rE rE
  rw [decide_eq_true rfl] at nE
  have after := room_after_r (.inl rfl : IsSeq (eT R) R) hRoom (.inr rfl : IsSeq (eL v) v) hv (by omega)
  have nin2 := notIn_lL rE (hRoom.rm hv)
  rw [decide_eq_true ((sortC_perm _).mem_iff.mpr ((ends_mem v _ _).mpr ⟨R, hW, rfl⟩))] at nin2
  -- nothing seen
  let B : List En := List.replicate v.length .un
  have lB : B.length = v.length := List.length_replicate
  have bl : dMul (.list [.str (PySem.Str.ofString "?")]) (.int v.length) = some (.list (B.map eN)) := by
    rw [lmul (by omega)]
    show _ = some (PyData.list ((List.replicate v.length En.un).map eN))
    rw [List.map_replicate]; rfl
  have fB : fitR v B s = AR s := by
    unfold fitR
    rw [List.filter_eq_self]
    intro c _
    exact fit_un _ _
  have seenB := seen B lB
  have endsB := endsT B lB
  rw [fB] at seenB endsB
  have rA : Rms (AR s) := AR_rms s12
  have nA := ne_lL rA rA
  rw [decide_eq_true rfl] at nA
  have res := results_of_r isC hv s12
  have rR : Rms (RS v s) := RS_rms s12 hv
  have nR := ne_lL rR rR
  rw [decide_eq_true rfl] at nR
  have endsB : fP F_ends_seen [.int s, eL v, .list (B.map eN)] = some (lL (RS v s)) := endsB
  -- all seen
  have lG : (g.map opE).length = v.length := by rw [List.length_map, lg]
  have seenG := seen (g.map opE) lG
  rw [map_opE] at seenG
  have nG := ne_lL (rF (g.map opE)) (rF (g.map opE))
  rw [decide_eq_true rfl] at nG
  have gsub : ∀ c ∈ fitR v (g.map opE) s, c ∈ fitR v S s := fun c hc => by
    obtain ⟨c1, c2⟩ := List.mem_filter.mp hc
    have := (fit_full g (gn c v) (by rw [gn_len, lg])).mp c2
    exact List.mem_filter.mpr ⟨c1, by rw [this]; exact fS⟩
  -- what is unseen
  have spl := spots_len S
  refine ?_
  generalize hWW : fitR v S s = W at *
  generalize hGG : fitR v (g.map opE) s = G at *
  let E : Option Cel → Option Cel → Option Cel → Option Cel → Option Cel → Option Cel → Env := F79 s v R g
  let X7 : Option Cel := some (.dat (.list (S.map eN)))
  let X8 : Option Cel := some (.dat (lL W))
  let X9 : Option Cel := some (.dat (lL (sortC (ends v W))))
  let X10 : Option Cel := some (.dat (.list (B.map eN)))
  let X11 : Option Cel := some (.dat (lL G))
  let b4 : Bx := [.live d4]
  have c9 : pUn dSortSetR (pComp (plSeq (pVar 8)) [13] (gN 13) pTrue (pApp (fP F_result) (plCons (pVar 4) (plCons (pVar 13) plNil)))) (E X7 X8 none none none none) b4 = some (lL (sortC (ends v W))) := by
    have q := pComp_enc (pi := plSeq (pVar 8)) (i := 13) (vs := [13]) (pc := pTrue) (pe := pApp (fP F_result) (plCons (pVar 4) (plCons (pVar 13) plNil))) (env := E X7 X8 none none none none) (b := b4) (enc := eT) (dec := eT) (xs := W) (fun _ => true) (fun c => rm c v) (by simp [E, F79]) (plSeq_ok rfl rfl) (fun _ _ => rfl) fun c hc _ => pApp_ok (plCons_ok rfl (plCons_ok rfl rfl)) (result_visits isC (chs_prs (lnk_vk hv.pos)) (.inl rfl : IsSeq (eT c) c) (by rw [← hWW] at hc; exact roomW S c hc) hv)
    rw [filter_tt] at q
    exact pUn_ok q (by rw [List.map_map]; exact sortSetR v W lW)
  have c11 : pComp (plSeq (pVar 5)) [13] (gN 13) (pBin dEq (pApp (fP F__law_told) (plCons (pVar 1) (plCons (pVar 13) (plCons (pVar 2) plNil)))) (pVar 6)) (pVar 13) (E X7 X8 X9 X10 X11 none) b4 = some (lL G) := by
    rw [← hGG]
    unfold fitR
    refine keep_rooms (l := AR s) (fun c => fitL (g.map opE) (gn c v)) (by simp [E, F79]) (plSeq_ok rfl rfl) fun c hc => ?_
    have t := told_r (s := .int s) (AR_room s12 hc) hv (by omega)
    have okC : OkS s ((gn c v).map opE) := fun i hi => by
      obtain ⟨o, ho, e⟩ := List.mem_map.mp hi
      cases o with
      | none => cases e
      | some j => cases e; exact gn_rks (fun x hx => ((AR_mem.mp hc).2 x hx)) vs ho
    have q := eq_S okC okG s12 (by rw [List.length_map, gn_len]; omega) (by rw [List.length_map]; omega)
    rw [map_opE, map_opE] at q
    refine pBin_ok (pApp_ok (plCons_ok rfl (plCons_ok rfl (plCons_ok rfl rfl))) t) rfl (q.trans ?_)
    refine congrArg (fun z => some (PyData.bool z)) ?_
    rw [Bool.eq_iff_iff, decide_eq_true_eq, fit_full g (gn c v) (by rw [gn_len, lg])]
    constructor
    · intro h
      exact opE_maps h
    · intro h; rw [h]
  have c12 : pApp cAll (plCons (pComp (plSeq (pVar 11)) [13] (gN 13) pTrue (pBin dIn (pVar 13) (pVar 8))) plNil) (E X7 X8 X9 X10 X11 none) b4 = some (.bool true) := by
    have q := pComp_enc (pi := plSeq (pVar 11)) (i := 13) (vs := [13]) (pc := pTrue) (pe := pBin dIn (pVar 13) (pVar 8)) (env := E X7 X8 X9 X10 X11 none) (b := b4) (enc := eT) (dec := PyData.bool) (xs := G) (fun _ => true) (fun c => true) (by simp [E, F79]) (plSeq_ok rfl rfl) (fun _ _ => rfl) fun c hc _ => by
      have q := in_lL (l := W) (c := c) (by rw [← hWW]; exact rF S) (by rw [← hGG] at hc; exact roomW _ c hc)
      rw [decide_eq_true (gsub c hc)] at q
      exact pBin_ok rfl rfl q
    rw [filter_tt] at q
    have ca := cAll_map (fun _ : List Int => true) G
    have al : (G.all fun _ => true) = true := by rw [List.all_eq_true]; exact fun _ _ => rfl
    rw [al] at ca
    exact pApp_ok (plCons_ok q rfl) (by rw [List.map_map]; exact ca)
  have c13 : pComp (plOf enumA (plCons (pVar 7) plNil)) [14, 15] (gT 2 (gsCons (gN 14) (gsCons (gN 15) gsNil))) (pBin dEq (pVar 15) (pC (.str (PySem.Str.ofString "?")))) (pVar 14) (E X7 X8 X9 X10 X11 none) b4 = some (eL ((spots S).map fun n : Nat => (n : Int))) := by
    have q := pComp_en (p := pVar 7) (i := 14) (j := 15) (pc := pBin dEq (pVar 15) (pC (.str (PySem.Str.ofString "?")))) (pe := pVar 14) (env := E X7 X8 X9 X10 X11 none) (b := b4) (enc := eN) (dec := PyData.int) (xs := S) (d := .list (S.map eN)) (fun p => decide (p.1 = .un)) (fun p => (p.2 : Int)) (by simp [E, F79]) (by simp [E, F79]) rfl (.inl rfl) (fun x _ => pBin_ok rfl rfl (enD_un x.1)) (fun x _ _ => rfl)
    have z : (spots S).map (fun n : Nat => (n : Int)) = (S.zipIdx.filter fun p => decide (p.1 = .un)).map fun p => (p.2 : Int) := by
      unfold spots
      rw [List.map_map]
      rfl
    rw [z]
    exact q
  have spN : ∀ x ∈ (spots S).map (fun n : Nat => (n : Int)), 0 ≤ x ∧ x < 1000 := fun x hx => by
    obtain ⟨n, hn, rfl⟩ := List.mem_map.mp hx
    have := (List.getElem?_eq_some_iff.mp (spots_at hn)).1
    omega
  have eq12 := eqLN (b := []) spN (fun x hx => by cases hx)
  let X12 : Option Cel := some (.dat (eL ((spots S).map fun n : Nat => (n : Int))))
  suffices H : ∃ d5, (sSeq (sIf (lift (pBin dEq (pVar 12) (pApp gLstD plNil))) (sRet (lift (pC (.bool true)))) sNil) (sRet (mApp (fP F__law_parts_right) (maCons (lift (pVar 1)) (maCons (lift (pVar 2)) (maCons (lift (pVar 7)) (maCons (mCallB F__law_of 0 (liftA (plCons (pVar 12) plNil))) (maCons (lift (pVar 8)) maNil)))))))) (E X7 X8 X9 X10 X11 X12) b4 = some (.rt (.bool true), [.live d5]) ∧ Box3 d5 by
    obtain ⟨d5, H, h5⟩ := H
    refine ⟨d5, ?_, h5⟩
    unfold F__law_right
    refine Eq.trans (runF_rt (np := 1) (nn := 16) (cs := [.bx 0]) (b := [.live d5]) E0 rfl rfl ?_) rfl
    refine sSeq_ok (e1 := E1) (b1 := [.live d1]) (sAsg_ok (mBin_ok (lift_ok rfl) e1 (dAdd_i _ _)) (by rw [← hsr]; rfl)) ?_
    refine sSeq_ok (sAsg_ok (d := .tuple [eL v, eT R]) (b1 := [.live d3]) (mApp_ok (maCons_ok e2 (maCons_ok e3 maNil_ok)) rfl) rfl) ?_
    refine seq_asg (d := .tuple [eC (chs (lnk v)), lL (AR s), .list (g.map optD)]) (pApp_ok (plCons_ok (pApp_ok (plCons_ok rfl rfl) kc) (plCons_ok (pApp_ok (plCons_ok rfl rfl) rooms) (plCons_ok (pApp_ok (plCons_ok rfl (plCons_ok rfl (plCons_ok rfl rfl))) told) rfl))) rfl) rfl ?_
    refine sSeq_ok (sAsg_ok e4 rfl) ?_
    refine seq_asg (d := lL W) (pApp_ok (plCons_ok rfl (plCons_ok rfl (plCons_ok rfl rfl))) (by rw [← hWW]; exact seen S lSv)) rfl ?_
    refine seq_no (pOr_f (pBin_ok rfl rfl nin) (pOr_f (pBin_ok (pApp_ok (plCons_ok rfl (plCons_ok rfl (plCons_ok rfl rfl))) seenY) rfl rfl) (pBin_ok (pApp_ok (plCons_ok rfl (plCons_ok rfl (plCons_ok rfl rfl))) fwS) rfl rfl))) ?_
    refine seq_asg c9 rfl ?_
    refine seq_no (pOr_f (pBin_ok (pApp_ok (plCons_ok rfl (plCons_ok rfl (plCons_ok rfl rfl))) (by have := endsT S lSv; rw [hWW] at this; exact this)) rfl nE) (pBin_ok (pApp_ok (plCons_ok rfl (plCons_ok rfl rfl)) after) rfl nin2)) ?_
    refine seq_asg (d := .list (B.map eN)) (pBin_ok (pApp_ok (plCons_ok rfl rfl) rfl) (pApp_ok (plCons_ok rfl rfl) (lenL v)) bl) rfl ?_
    refine seq_no (pOr_f (pBin_ok (pApp_ok (plCons_ok rfl (plCons_ok rfl (plCons_ok rfl rfl))) seenB) rfl nA) (pBin_ok (pApp_ok (plCons_ok rfl (plCons_ok rfl (plCons_ok rfl rfl))) endsB) (pApp_ok (plCons_ok rfl (plCons_ok rfl rfl)) res) nR)) ?_
    refine seq_asg (d := lL G) (pApp_ok (plCons_ok rfl (plCons_ok rfl (plCons_ok rfl rfl))) seenG) rfl ?_
    refine seq_no (pBin_ok rfl c11 nG) ?_
    refine seq_no (not_t c12) ?_
    exact seq_asg c13 rfl H
  by_cases c : spots S = []
  · have z : (spots S).map (fun n : Nat => (n : Int)) = [] := by rw [c]; rfl
    rw [decide_eq_true z] at eq12
    exact ⟨d4, sSeq_rt (Eq.trans (sIf_t (lift_ok (pBin_ok rfl (pApp_ok rfl rfl) eq12)) rfl) (sRet_ok (lift_ok rfl))), h4⟩
  · have z : (spots S).map (fun n : Nat => (n : Int)) ≠ [] := fun q => c (List.map_eq_nil_iff.mp q)
    rw [decide_eq_false z] at eq12
    obtain ⟨x, d5, hx, e5, h5⟩ := of_g (env := E X7 X8 X9 X10 X11 X12) (b := b4) (i := 0) (k := 0) (ds := ((spots S).map fun n : Nat => (n : Int)).map PyData.int) (ms := (liftA (plCons (pVar 12) plNil))) rfl rfl rfl h4 (fun q => z (List.map_eq_nil_iff.mp q)) (by rw [List.length_map, List.length_map]; omega)
    obtain ⟨y, hy, rfl⟩ := List.mem_map.mp hx
    obtain ⟨n, hn, rfl⟩ := List.mem_map.mp hy
    have pr := parts_r (R := R) s1 s6 vs lv lSv (spots_at hn) hR (by rw [hg]; exact fS)
    rw [hWW] at pr
    exact ⟨d5, seq_no (pBin_ok rfl (pApp_ok rfl rfl) eq12) (sRet_ok (mApp_ok (maCons_ok (lift_ok rfl) (maCons_ok (lift_ok rfl) (maCons_ok (lift_ok rfl) (maCons_ok e5 (maCons_ok (lift_ok rfl) maNil_ok))))) pr)), h5⟩
theorem law_true : LawOk F_law := shapeB right_ok 2 (by decide) (by decide)
end DL
set_option Elab.async false
set_option linter.all false
set_option maxRecDepth 100000
open PySem PySem.W PyProof.Rows
set_option maxHeartbeats 0 in
theorem PySem.Challenge.cw_driveout_k79_whole_more_is_seen_holds : PySem.Challenge.rw_driveout_k79_whole_more_is_seen.Holds := by
  w_on; o_law; k_head; (case hw => w_witness2)
  k_fill
  refine DL.end_of (l := PySem.Challenge.rw_driveout_k79_whole_more_is_seen) (n := 63) (k := 10) (x := "_law_script") (sp := fun w => DL.spF _ DL.ex0 DL.F_law) rfl (by decide) rfl ⟨rfl, by decide, by decide⟩ (fun w h Y => PySem.W.kIn_of Y) ?F (fun _ _ a ns hl hS => DL.law_sp hS (DL.law_true ns hl))
  case F =>
    intro w mg fa h KX G hmg
    refine' DL.all_mk KX G hmg ?a0 ?l0 ?c0 ?k0 ?a1 ?l1 ?c1 ?k1 ?a2 ?l2 ?c2 ?k2 ?a3 ?l3 ?c3 ?k3 ?a4 ?l4 ?c4 ?k4 ?a5 ?l5 ?c5 ?k5 ?a6 ?l6 ?c6 ?k6 ?a7 ?l7 ?c7 ?k7 ?a8 ?l8 ?c8 ?k8 ?a9 ?l9 ?c9 ?k9 ?a10 ?l10 ?c10 ?k10 ?a11 ?l11 ?c11 ?k11 ?a12 ?l12 ?c12 ?k12 ?a13 ?l13 ?c13 ?k13 ?a14 ?l14 ?c14 ?k14 ?a15 ?l15 ?c15 ?k15 ?a16 ?l16 ?c16 ?k16 ?a17 ?l17 ?c17 ?k17 ?a18 ?l18 ?c18 ?k18 ?a19 ?l19 ?c19 ?k19 ?a20 ?l20 ?c20 ?k20 ?a21 ?l21 ?c21 ?k21 ?a22 ?l22 ?c22 ?k22 ?a23 ?l23 ?c23 ?k23 ?a24 ?l24 ?c24 ?k24 ?a25 ?l25 ?c25 ?k25 ?a26 ?l26 ?c26 ?k26 ?a27 ?l27 ?c27 ?k27 ?a28 ?l28 ?c28 ?k28 ?a29 ?l29 ?c29 ?k29 ?a30 ?l30 ?c30 ?k30 ?a31 ?l31 ?c31 ?k31 ?a32 ?l32 ?c32 ?k32 ?a33 ?l33 ?c33 ?k33 ?a34 ?l34 ?c34 ?k34 ?z_abs ?z_all ?z_any ?z_bool ?z_dict ?z_enumerate ?z_int ?z_isinstance ?z_len ?z_list ?z_max ?z_range ?z_set ?z_sorted ?z_str ?z_tuple ?y_UNSEEN
    (case a0 => k_is); (case l0 => k_is); (case c0 => k_is); (case k0 => k_is); (case a1 => k_is); (case l1 => k_is); (case c1 => k_is); (case k1 => k_is); (case a2 => k_is); (case l2 => k_is); (case c2 => k_is); (case k2 => k_is); (case a3 => k_is); (case l3 => k_is); (case c3 => k_is); (case k3 => k_is); (case a4 => k_is); (case l4 => k_is); (case c4 => k_is); (case k4 => k_is); (case a5 => k_is); (case l5 => k_is); (case c5 => k_is); (case k5 => k_is); (case a6 => k_is); (case l6 => k_is); (case c6 => k_is); (case k6 => k_is); (case a7 => k_is); (case l7 => k_is); (case c7 => k_is); (case k7 => k_is); (case a8 => k_is); (case l8 => k_is); (case c8 => k_is); (case k8 => k_is); (case a9 => k_is); (case l9 => k_is); (case c9 => k_is); (case k9 => k_is); (case a10 => k_is); (case l10 => k_is); (case c10 => k_is); (case k10 => k_is); (case a11 => k_is); (case l11 => k_is); (case c11 => k_is); (case k11 => k_is); (case a12 => k_is); (case l12 => k_is); (case c12 => k_is); (case k12 => k_is); (case a13 => k_is); (case l13 => k_is); (case c13 => k_is); (case k13 => k_is); (case a14 => k_is); (case l14 => k_is); (case c14 => k_is); (case k14 => k_is); (case a15 => k_is); (case l15 => k_is); (case c15 => k_is); (case k15 => k_is); (case a16 => k_is); (case l16 => k_is); (case c16 => k_is); (case k16 => k_is); (case a17 => k_is); (case l17 => k_is); (case c17 => k_is); (case k17 => k_is); (case a18 => k_is); (case l18 => k_is); (case c18 => k_is); (case k18 => k_is); (case a19 => k_is); (case l19 => k_is); (case c19 => k_is); (case k19 => k_is); (case a20 => k_is); (case l20 => k_is); (case c20 => k_is); (case k20 => k_is); (case a21 => k_is); (case l21 => k_is); (case c21 => k_is); (case k21 => k_is); (case a22 => k_is); (case l22 => k_is); (case c22 => k_is); (case k22 => k_is); (case a23 => k_is); (case l23 => k_is); (case c23 => k_is); (case k23 => k_is); (case a24 => k_is); (case l24 => k_is); (case c24 => k_is); (case k24 => k_is); (case a25 => k_is); (case l25 => k_is); (case c25 => k_is); (case k25 => k_is); (case a26 => k_is); (case l26 => k_is); (case c26 => k_is); (case k26 => k_is); (case a27 => k_is); (case l27 => k_is); (case c27 => k_is); (case k27 => k_is); (case a28 => k_is); (case l28 => k_is); (case c28 => k_is); (case k28 => k_is); (case a29 => k_is); (case l29 => k_is); (case c29 => k_is); (case k29 => k_is); (case a30 => k_is); (case l30 => k_is); (case c30 => k_is); (case k30 => k_is); (case a31 => k_is); (case l31 => k_is); (case c31 => k_is); (case k31 => k_is); (case a32 => k_is); (case l32 => k_is); (case c32 => k_is); (case k32 => k_is); (case a33 => k_is); (case l33 => k_is); (case c33 => k_is); (case k33 => k_is); (case a34 => k_is); (case l34 => k_is); (case c34 => k_is); (case k34 => k_is); (case z_abs => k_is); (case z_all => k_is); (case z_any => k_is); (case z_bool => k_is); (case z_dict => k_is); (case z_enumerate => k_is); (case z_int => k_is); (case z_isinstance => k_is); (case z_len => k_is); (case z_list => k_is); (case z_max => k_is); (case z_range => k_is); (case z_set => k_is); (case z_sorted => k_is); (case z_str => k_is); (case z_tuple => k_is); (case y_UNSEEN => k_is)
