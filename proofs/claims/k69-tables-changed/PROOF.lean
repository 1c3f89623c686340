import PyProof.Rows.All
import Wide.All
import OpenK.AllK
import Wide.FinOn
import KE.KStateDown
import HandS.ForMost
import HandS.Exc
import HandS.ExcOwn
import HandS.TryOnly
import HandS.Defaults
import HandS.More
import HandS.Words
import HandS.WordsExc
import HandS.HeadHook1
import HandS.WideBits
import HandS.Flow
import HandS.IsInst
import HandS.Zip
import HandS.SortInts
import HandS.SortRule
import HandS.Conv
import KE.KTupSum
import HandS.WordsDict
import HandS.TupLen
import HandS.TupAny
import HandS.DictComp
import HandS.Small
import HandS.ExcIs
import HandS.SetFor
import HandS.Zip0
import HandS.WideMore
import HandS.HeadHook2
import HandS.ExcBuiltin
import Lean
import HandS.Head0
import HandS.Head1
import HandS.Head2
import HandS.HeadEnd
import PySem.Challenge.RW_twoshown_k69_across_tables_changed_place
set_option Elab.async false
set_option linter.all false
set_option maxRecDepth 100000
set_option maxHeartbeats 4000000
/-! Sh: plain data, a plain memory, and how both stand for the hand layer's values and heap. -/
namespace Sh
open PySem PySem.Spec PyProof.Rows L2
/-- plain data: tuples, lists that stay as they are, the module's own tuples (cst), a locked list (scr) are trees, ref n is the n-th thing of the memory -/
inductive D where
  | non | bl (b : Bool) | int (i : Int) | str (x : Str)
  | tup (ds : List D) | lst (ds : List D) | cst (ds : List D) | scr (ds : List D) | ref (n : Nat)
/-- a thing of the memory: a list, a dict (keys ints and texts; tuples of these), an instance of the class of that number, by its fields' places -/
inductive MO where
  | lst (ds : List D) | dK (kvs : List (Key × D)) | dT (kvs : List (List Key × D)) | ins (c : Nat) (fs : List (Option D))
abbrev Mem := List MO
inductive R (α : Type) where
  | ok (a : α) (M : Mem) | exc (c : Str) (M : Mem) | stuck
def R.bind {α β : Type} (r : R α) (k : α → Mem → R β) : R β := match r with
  | .ok a M => k a M
  | .exc c M => .exc c M
  | .stuck => .stuck
@[simp] theorem R.bind_ok {α β : Type} (a : α) (M : Mem) (k : α → Mem → R β) : (R.ok a M).bind k = k a M := id rfl
@[simp] theorem R.bind_stuck {α β : Type} (k : α → Mem → R β) : (R.stuck).bind k = .stuck := id rfl
@[simp] theorem R.bind_exc {α β : Type} (c : Str) (M : Mem) (k : α → Mem → R β) : (R.exc c M).bind k = .exc c M := id rfl
mutual
/-- no thing of the memory is named in it -/
def D.flat : D → Bool
  | .ref _ => false
  | .tup ds => flatL ds
  | .lst ds => flatL ds
  | .cst ds => flatL ds
  | .scr ds => flatL ds
  | .non => true
  | .bl _ => true
  | .int _ => true
  | .str _ => true
def flatL : List D → Bool
  | [] => true
  | d :: r => d.flat && flatL r
end
mutual
def D.ub (n : Nat) : D → Bool
  | .ref k => decide (k < n)
  | .tup ds => ubL n ds
  | .lst ds => ubL n ds
  | .cst ds => ubL n ds
  | .scr ds => ubL n ds
  | .non => true
  | .bl _ => true
  | .int _ => true
  | .str _ => true
def ubL (n : Nat) : List D → Bool
  | [] => true
  | d :: r => d.ub n && ubL n r
end
/-- things in the making; the bounds of the scopes -/
structure Prt where
  as : List Addr
  C : List Nat
def Prt.add (P : Prt) (D : Addr) : Prt := ⟨D :: P.as, P.C⟩
/-- the written part, the classes' names and fields by their numbers -/
structure Gam where
  K : PySem.W.Frag
  lay : Nat → Str × List Str
  /-- addresses of things in the making -/
  P : Prt
def Gam.on (G : Gam) (P : Prt) : Gam := { G with P := P }
/-- a locked list, or a written one -/
def ScrOk (K : PySem.W.Frag) (H : Hp) (a : Addr) (us : List V) : Prop := (∃ o, H a = some (.frz o (.lst us))) ∨ ∀ H', SqL K H' a us
mutual
inductive RV (G : Gam) (m : List Addr) (H : Hp) : D → V → Prop
  | non : RV G m H .non .non
  | bl (b : Bool) : RV G m H (.bl b) (.bl b)
  | int (i : Int) : RV G m H (.int i) (.int i)
  | str (x : Str) : RV G m H (.str x) (.str x)
  | tup {ds : List D} {us : List V} {a : Addr} : H a = some (.tup us) → RVs G m H ds us → RV G m H (.tup ds) (.ref a)
  | cst {ds : List D} {us : List V} {a : Addr} : (∀ H', SqT G.K H' a us) → RVs G m H ds us → RV G m H (.cst ds) (.ref a)
  | lst {ds : List D} {us : List V} {a : Addr} : H a = some (.lst us) → a ∉ m → a ∉ G.P.as → RVs G m H ds us → RV G m H (.lst ds) (.ref a)
  | scr {ds : List D} {us : List V} {a : Addr} : ScrOk G.K H a us → RVs G m H ds us → RV G m H (.scr ds) (.ref a)
  | ref {n : Nat} {a : Addr} : m[n]? = some a → RV G m H (.ref n) (.ref a)
inductive RVs (G : Gam) (m : List Addr) (H : Hp) : List D → List V → Prop
  | nil : RVs G m H [] []
  | cons {d : D} {v : V} {ds : List D} {us : List V} : RV G m H d v → RVs G m H ds us → RVs G m H (d :: ds) (v :: us)
end
/-- the memory and the heap grow: what is not the memory's stays, tuples and locked things stay -/
structure Ext (G : Gam) (m m' : List Addr) (H H' : Hp) : Prop where
  pre : ∃ x, m' = m ++ x ∧ ∀ a ∈ x, H a = none
  keep : ∀ a o, H a = some o → a ∉ m → H' a = some o
  here : ∀ a, H a ≠ none → H' a ≠ none
  tups : ∀ a us, H a = some (.tup us) → H' a = some (.tup us)
  frzs : ∀ a o u, H a = some (.frz o u) → H' a = some (.frz o u)
theorem Ext.refl {G : Gam} (m : List Addr) (H : Hp) : Ext G m m H H := ⟨⟨[], by simp, by simp⟩, fun _ _ e _ => e, fun _ e => e, fun _ _ e => e, fun _ _ _ e => e⟩
theorem Ext.out {G : Gam} {m m' : List Addr} {H H' : Hp} (x : Ext G m m' H H') {a : Addr} {o : HO} (e : H a = some o) (n : a ∉ m) : a ∉ m' := by
  obtain ⟨y, rfl, hy⟩ := x.pre
  intro h
  rcases List.mem_append.mp h with h | h
  · exact n h
  · rw [hy a h] at e; cases e
theorem Ext.get {G : Gam} {m m' : List Addr} {H H' : Hp} (x : Ext G m m' H H') {n : Nat} {a : Addr} (e : m[n]? = some a) : m'[n]? = some a := by
  obtain ⟨y, rfl, hy⟩ := x.pre
  have hl : n < m.length := (List.getElem?_eq_some_iff.mp e).1
  rw [List.getElem?_append_left hl]; exact e
theorem Ext.rd {G : Gam} {m m' : List Addr} {H H' : Hp} (x : Ext G m m' H H') {a : Addr} {u : HO} (r : Rd H a u) (n : a ∉ m) : Rd H' a u := by
  rcases r with r | ⟨o, r⟩
  · exact .inl (x.keep _ _ r n)
  · exact .inr ⟨o, x.frzs _ _ _ r⟩
theorem Ext.sqT {G : Gam} {m m' : List Addr} {H H' : Hp} (x : Ext G m m' H H') {a : Addr} {us : List V} (r : SqT G.K H a us) : SqT G.K H' a us := by
  rcases r with (r | ⟨o, r⟩) | r
  · exact .inl (.inl (x.tups _ _ r))
  · exact .inl (.inr ⟨o, x.frzs _ _ _ r⟩)
  · exact .inr r
theorem ScrOk.mono {G : Gam} {K : PySem.W.Frag} {m m' : List Addr} {H H' : Hp} {a : Addr} {us : List V} (h : ScrOk K H a us) (x : Ext G m m' H H') : ScrOk K H' a us := by
  rcases h with ⟨o, r⟩ | h
  · exact .inl ⟨o, x.frzs _ _ _ r⟩
  · exact .inr h
theorem ScrOk.sq {K : PySem.W.Frag} {H : Hp} {a : Addr} {us : List V} (h : ScrOk K H a us) : SqL K H a us := by
  rcases h with ⟨o, r⟩ | h
  · exact .inl (.inr ⟨o, r⟩)
  · exact h H
mutual
theorem RV.mono {G : Gam} {m m' : List Addr} {H H' : Hp} (x : Ext G m m' H H') : ∀ {d : D} {v : V}, RV G m H d v → RV G m' H' d v
  | _, _, .non => .non
  | _, _, .bl b => .bl b
  | _, _, .int i => .int i
  | _, _, .str y => .str y
  | _, _, .tup a b => .tup (x.tups _ _ a) (RVs.mono x b)
  | _, _, .cst a b => .cst a (RVs.mono x b)
  | _, _, .lst a n n2 b => .lst (x.keep _ _ a n) (x.out a n) n2 (RVs.mono x b)
  | _, _, .scr a b => .scr (a.mono x) (RVs.mono x b)
  | _, _, .ref e => .ref (x.get e)
theorem RVs.mono {G : Gam} {m m' : List Addr} {H H' : Hp} (x : Ext G m m' H H') : ∀ {ds : List D} {us : List V}, RVs G m H ds us → RVs G m' H' ds us
  | _, _, .nil => .nil
  | _, _, .cons a b => .cons (RV.mono x a) (RVs.mono x b)
end
theorem RVs.length {G : Gam} {m : List Addr} {H : Hp} : ∀ {ds : List D} {us : List V}, RVs G m H ds us → ds.length = us.length
  | _, _, .nil => rfl
  | _, _, .cons _ b => by simp [RVs.length b]
theorem RVs.get {G : Gam} {m : List Addr} {H : Hp} : ∀ {ds : List D} {us : List V} {i : Nat} {d : D}, RVs G m H ds us → ds[i]? = some d → ∃ v, us[i]? = some v ∧ RV G m H d v
  | _, _, _, _, .nil, e => by simp at e
  | _, _, 0, _, .cons a _, e => by simp at e; subst e; exact ⟨_, rfl, a⟩
  | _, _, i + 1, d, .cons _ b, e => by
    obtain ⟨v, h1, h2⟩ := RVs.get (i := i) (d := d) b (by simpa using e)
    exact ⟨v, by simpa using h1, h2⟩
theorem RVs.getV {G : Gam} {m : List Addr} {H : Hp} : ∀ {ds : List D} {us : List V} {i : Nat} {v : V}, RVs G m H ds us → us[i]? = some v → ∃ d, ds[i]? = some d ∧ RV G m H d v
  | _, _, _, _, .nil, e => by simp at e
  | _, _, 0, _, .cons a _, e => by simp at e; subst e; exact ⟨_, rfl, a⟩
  | _, _, i + 1, v, .cons _ b, e => by
    obtain ⟨d, h1, h2⟩ := RVs.getV (i := i) (v := v) b (by simpa using e)
    exact ⟨d, by simpa using h1, h2⟩
theorem RVs.append {G : Gam} {m : List Addr} {H : Hp} : ∀ {ds es : List D} {us ws : List V}, RVs G m H ds us → RVs G m H es ws → RVs G m H (ds ++ es) (us ++ ws)
  | _, _, _, _, .nil, s => s
  | _, _, _, _, .cons a b, s => .cons a (RVs.append b s)
theorem RVs.take {G : Gam} {m : List Addr} {H : Hp} : ∀ {ds : List D} {us : List V} (n : Nat), RVs G m H ds us → RVs G m H (ds.take n) (us.take n)
  | _, _, 0, _ => .nil
  | _, _, _ + 1, .nil => .nil
  | _, _, n + 1, .cons a b => .cons a (RVs.take n b)
theorem RVs.drop {G : Gam} {m : List Addr} {H : Hp} : ∀ {ds : List D} {us : List V} (n : Nat), RVs G m H ds us → RVs G m H (ds.drop n) (us.drop n)
  | _, _, 0, r => r
  | _, _, _ + 1, .nil => .nil
  | _, _, n + 1, .cons _ b => RVs.drop n b
theorem RVs.set {G : Gam} {m : List Addr} {H : Hp} {d : D} {v : V} (r : RV G m H d v) : ∀ {ds : List D} {us : List V} (n : Nat), RVs G m H ds us → RVs G m H (ds.set n d) (us.set n v)
  | _, _, _, .nil => .nil
  | _, _, 0, .cons _ b => .cons r b
  | _, _, n + 1, .cons a b => .cons a (RVs.set r n b)
theorem RVs.eraseIdx {G : Gam} {m : List Addr} {H : Hp} : ∀ {ds : List D} {us : List V} (n : Nat), RVs G m H ds us → RVs G m H (ds.eraseIdx n) (us.eraseIdx n)
  | _, _, _, .nil => .nil
  | _, _, 0, .cons _ b => b
  | _, _, n + 1, .cons a b => .cons a (RVs.eraseIdx n b)
theorem RVs.reverse {G : Gam} {m : List Addr} {H : Hp} {ds : List D} {us : List V} (r : RVs G m H ds us) : RVs G m H ds.reverse us.reverse := by
  induction ds generalizing us with
  | nil => cases r; exact .nil
  | cons d ds ih => cases r with
    | cons a b => simp only [List.reverse_cons]; exact (ih b).append (.cons a .nil)
theorem RVs.ints {G : Gam} {m : List Addr} {H : Hp} : ∀ {ns : List Int} {us : List V}, RVs G m H (ns.map D.int) us → us = ns.map V.int
  | [], _, .nil => rfl
  | n :: ns, _, .cons a b => by cases a; simp [RVs.ints b]
theorem RVs.of_ints {G : Gam} {m : List Addr} {H : Hp} : ∀ (ns : List Int), RVs G m H (ns.map D.int) (ns.map V.int)
  | [] => .nil
  | n :: ns => .cons (.int n) (RVs.of_ints ns)
/-! ### the memory -/
def KVs (G : Gam) (m : List Addr) (H : Hp) {κ : Type} : List (κ × D) → List (κ × V) → Prop := Paired fun p q => p.1 = q.1 ∧ RV G m H p.2 q.2
theorem KVs.mono {G : Gam} {m m' : List Addr} {H H' : Hp} {κ : Type} (x : Ext G m m' H H') {a : List (κ × D)} {b : List (κ × V)} (h : KVs G m H a b) : KVs G m' H' a b := Paired.mapP h fun _ _ z => ⟨z.1, z.2.mono x⟩
def cnt (fs : List (Option D)) : Nat := (fs.filter (·.isSome)).length
structure InsOk (G : Gam) (m : List Addr) (H : Hp) (c : Nat) (fs : List (Option D)) (fus : List (Str × V)) : Prop where
  len : fs.length = (G.lay c).2.length
  few : fs.length ≤ 900
  at_ : ∀ (i : Nat) (x : Str) (d : D), (G.lay c).2[i]? = some x → fs[i]? = some (some d) → ∃ v, fus.lookup x = some v ∧ RV G m H d v
  keys : ∀ (x : Str) (v : V), fus.lookup x = some v → ∃ (i : Nat) (d : D), (G.lay c).2[i]? = some x ∧ fs[i]? = some (some d)
  size : fus.length ≤ cnt fs
def RO (G : Gam) (m : List Addr) (H : Hp) (a : Addr) : MO → Prop
  | .lst ds => ∃ us, H a = some (.lst us) ∧ RVs G m H ds us
  | .dK kvs => ∃ kus, H a = some (.dK kus) ∧ KVs G m H kvs kus
  | .dT kvs => ∃ kus, H a = some (.dT kus) ∧ KVs G m H kvs kus
  | .ins c fs => ∃ dx fus, H a = some (.ins (He.ga G.K (G.lay c).1) dx fus) ∧ H dx = some (.own a) ∧ InsOk G m H c fs fus
def MO.ub (n : Nat) : MO → Bool
  | .lst ds => ubL n ds
  | .dK kvs => kvs.all fun p => p.2.ub n
  | .dT kvs => kvs.all fun p => p.2.ub n
  | .ins _ fs => fs.all fun o => match o with
    | some d => d.ub n
    | none => true
/-- the memory stands for the heap; below bd nothing names what is not below bd -/
structure RS (G : Gam) (bd : Nat) (m : List Addr) (H : Hp) (M : Mem) : Prop where
  len : M.length = m.length
  nd : m.Nodup
  at_ : ∀ (n : Nat) (o : MO), M[n]? = some o → ∃ a, m[n]? = some a ∧ RO G m H a o
  low : ∀ b ∈ G.P.C, ∀ (n : Nat) (o : MO), n < b → M[n]? = some o → o.ub b = true
  cs : ∀ b ∈ G.P.C, b ≤ bd
  le : bd ≤ M.length
  trk : ∀ a ∈ G.P.as, H a ≠ none
theorem RO.mutd {G : Gam} {m : List Addr} {H : Hp} {a : Addr} {o : MO} (h : RO G m H a o) : ∃ u, H a = some u ∧ Mut (some u) := by
  cases o with
  | lst ds => obtain ⟨us, e, _⟩ := h; exact ⟨_, e, trivial⟩
  | dK kvs => obtain ⟨us, e, _⟩ := h; exact ⟨_, e, trivial⟩
  | dT kvs => obtain ⟨us, e, _⟩ := h; exact ⟨_, e, trivial⟩
  | ins c fs => obtain ⟨dx, us, e, _⟩ := h; exact ⟨_, e, trivial⟩
theorem RS.mut {G : Gam} {bd : Nat} {m : List Addr} {H : Hp} {M : Mem} (s : RS G bd m H M) {a : Addr} (h : a ∈ m) : ∃ (n : Nat) (o : MO) (u : HO), M[n]? = some o ∧ m[n]? = some a ∧ RO G m H a o ∧ H a = some u ∧ Mut (some u) := by
  obtain ⟨n, hn, e⟩ := List.mem_iff_getElem.mp h
  have e' : m[n]? = some a := by rw [List.getElem?_eq_getElem hn, e]
  have hM : n < M.length := by rw [s.len]; exact hn
  obtain ⟨b, hb, r⟩ := s.at_ n M[n] (List.getElem?_eq_getElem hM)
  rw [e'] at hb; cases hb
  obtain ⟨u, hu, mu⟩ := r.mutd
  exact ⟨n, M[n], u, List.getElem?_eq_getElem hM, e', r, hu, mu⟩
theorem InsOk.mono {G : Gam} {m m' : List Addr} {H H' : Hp} {c : Nat} {fs : List (Option D)} {fus : List (Str × V)} (h : InsOk G m H c fs fus) (x : Ext G m m' H H') : InsOk G m' H' c fs fus :=
  ⟨h.len, h.few, fun i y d e1 e2 => let ⟨v, h1, h2⟩ := h.at_ i y d e1 e2; ⟨v, h1, h2.mono x⟩, h.keys, h.size⟩
/-- an object of the memory that is not written -/
theorem RO.keep {G : Gam} {m m' : List Addr} {H H' : Hp} {a : Addr} {o : MO} (h : RO G m H a o) (x : Ext G m m' H H') (e : ∀ u, H a = some u → H' a = some u) (hd : ∀ b u, H b = some u → (∃ y, u = .own y) → H' b = some u) : RO G m' H' a o := by
  cases o with
  | lst ds => obtain ⟨us, q, r⟩ := h; exact ⟨us, e _ q, r.mono x⟩
  | dK kvs => obtain ⟨us, q, r⟩ := h; exact ⟨us, e _ q, KVs.mono x r⟩
  | dT kvs => obtain ⟨us, q, r⟩ := h; exact ⟨us, e _ q, KVs.mono x r⟩
  | ins c fs => obtain ⟨dx, us, q, q2, r⟩ := h; exact ⟨dx, us, e _ q, hd _ _ q2 ⟨_, rfl⟩, r.mono x⟩
mutual
theorem flat_ub (n : Nat) : ∀ {d : D}, d.flat = true → d.ub n = true
  | .non, _ => rfl
  | .bl _, _ => rfl
  | .int _, _ => rfl
  | .str _, _ => rfl
  | .tup ds, h => flatL_ub n (ds := ds) h
  | .lst ds, h => flatL_ub n (ds := ds) h
  | .cst ds, h => flatL_ub n (ds := ds) h
  | .scr ds, h => flatL_ub n (ds := ds) h
  | .ref _, h => by cases h
theorem flatL_ub (n : Nat) : ∀ {ds : List D}, flatL ds = true → ubL n ds = true
  | [], _ => rfl
  | d :: r, h => by
    simp only [flatL, Bool.and_eq_true] at h
    simp only [ubL, Bool.and_eq_true]
    exact ⟨flat_ub n h.1, flatL_ub n h.2⟩
end
mutual
theorem RV.ub {G : Gam} {m : List Addr} {H : Hp} : ∀ {d : D} {v : V}, RV G m H d v → d.ub m.length = true
  | _, _, .non => rfl
  | _, _, .bl _ => rfl
  | _, _, .int _ => rfl
  | _, _, .str _ => rfl
  | _, _, .tup _ b => RVs.ub b
  | _, _, .lst _ _ _ b => RVs.ub b
  | _, _, .scr _ b => RVs.ub b
  | _, _, .cst _ b => RVs.ub b
  | _, _, .ref e => decide_eq_true (List.getElem?_eq_some_iff.mp e).1
theorem RVs.ub {G : Gam} {m : List Addr} {H : Hp} : ∀ {ds : List D} {us : List V}, RVs G m H ds us → ubL m.length ds = true
  | _, _, .nil => rfl
  | _, _, .cons a b => by simp only [ubL, Bool.and_eq_true]; exact ⟨RV.ub a, RVs.ub b⟩
end
mutual
theorem RV.cut {G : Gam} {m : List Addr} {H : Hp} (n : Nat) : ∀ {d : D} {v : V}, RV G m H d v → d.ub n = true → RV G (m.take n) H d v
  | _, _, .non, _ => .non
  | _, _, .bl b, _ => .bl b
  | _, _, .int i, _ => .int i
  | _, _, .str x, _ => .str x
  | _, _, .tup a b, h => .tup a (RVs.cut n b h)
  | _, _, .lst a q n2 b, h => .lst a (fun z => q (List.mem_of_mem_take z)) n2 (RVs.cut n b h)
  | _, _, .scr a b, h => .scr a (RVs.cut n b h)
  | _, _, .cst a b, h => .cst a (RVs.cut n b h)
  | _, _, .ref e, h => .ref (by rw [List.getElem?_take_of_lt (of_decide_eq_true h)]; exact e)
theorem RVs.cut {G : Gam} {m : List Addr} {H : Hp} (n : Nat) : ∀ {ds : List D} {us : List V}, RVs G m H ds us → ubL n ds = true → RVs G (m.take n) H ds us
  | _, _, .nil, _ => .nil
  | _, _, .cons a b, h => by
    simp only [ubL, Bool.and_eq_true] at h
    exact .cons (RV.cut n a h.1) (RVs.cut n b h.2)
end
theorem KVs.cut {G : Gam} {m : List Addr} {H : Hp} {κ : Type} (n : Nat) : ∀ {a : List (κ × D)} {b : List (κ × V)}, KVs G m H a b → (a.all fun p => p.2.ub n) = true → KVs G (m.take n) H a b
  | _, _, .nil, _ => .nil
  | _, _, .cons a b, h => by
    simp only [List.all_cons, Bool.and_eq_true] at h
    exact .cons ⟨a.1, a.2.cut n h.1⟩ (KVs.cut n b h.2)
theorem RO.cut {G : Gam} {m : List Addr} {H : Hp} (n : Nat) {a : Addr} {o : MO} (h : RO G m H a o) (b : o.ub n = true) : RO G (m.take n) H a o := by
  cases o with
  | lst ds => obtain ⟨us, q, r⟩ := h; exact ⟨us, q, r.cut n b⟩
  | dK kvs => obtain ⟨us, q, r⟩ := h; exact ⟨us, q, r.cut n b⟩
  | dT kvs => obtain ⟨us, q, r⟩ := h; exact ⟨us, q, r.cut n b⟩
  | ins c fs =>
    obtain ⟨dx, us, q, q2, r⟩ := h
    refine ⟨dx, us, q, q2, r.len, r.few, fun i x d e1 e2 => ?_, r.keys, r.size⟩
    obtain ⟨v, h1, h2⟩ := r.at_ i x d e1 e2
    refine ⟨v, h1, h2.cut n ?_⟩
    have := List.all_eq_true.mp b (some d) (List.mem_of_getElem? e2)
    exact this
theorem KVs.ub {G : Gam} {m : List Addr} {H : Hp} {κ : Type} : ∀ {a : List (κ × D)} {b : List (κ × V)}, KVs G m H a b → (a.all fun p => p.2.ub m.length) = true
  | _, _, .nil => rfl
  | _, _, .cons a b => by simp only [List.all_cons, Bool.and_eq_true]; exact ⟨a.2.ub, KVs.ub b⟩
theorem RO.ub {G : Gam} {m : List Addr} {H : Hp} {a : Addr} {o : MO} (h : RO G m H a o) : o.ub m.length = true := by
  cases o with
  | lst ds => obtain ⟨us, q, r⟩ := h; exact r.ub
  | dK kvs => obtain ⟨us, q, r⟩ := h; exact KVs.ub r
  | dT kvs => obtain ⟨us, q, r⟩ := h; exact KVs.ub r
  | ins c fs =>
    obtain ⟨dx, us, q, q2, r⟩ := h
    show (fs.all fun o => match o with
      | some d => d.ub m.length
      | none => true) = true
    refine List.all_eq_true.mpr fun o ho => ?_
    cases o with
    | none => rfl
    | some d =>
      obtain ⟨i, hi, e⟩ := List.mem_iff_getElem.mp ho
      have hl : i < (G.lay c).2.length := by rw [← r.len]; exact hi
      obtain ⟨v, _, h2⟩ := r.at_ i _ d (List.getElem?_eq_getElem hl) (by rw [List.getElem?_eq_getElem hi, e])
      exact h2.ub
/-! ### steps of the heap -/
section
variable {G : Gam} {bd : Nat} {m : List Addr} {H : Hp} {M : Mem}
theorem Ext.trans {m1 m2 m3 : List Addr} {H1 H2 H3 : Hp} (x : Ext G m1 m2 H1 H2) (y : Ext G m2 m3 H2 H3) : Ext G m1 m3 H1 H3 where
  pre := by
    obtain ⟨u, rfl, hu⟩ := x.pre
    obtain ⟨w, rfl, hw⟩ := y.pre
    refine ⟨u ++ w, by simp, fun a ha => ?_⟩
    rcases List.mem_append.mp ha with h | h
    · exact hu a h
    · cases e : H1 a with
      | none => rfl
      | some o => exact absurd (hw a h) (x.here a (by rw [e]; simp))
  keep := fun a o e n => y.keep a o (x.keep a o e n) (x.out e n)
  here := fun a e => y.here a (x.here a e)
  tups := fun a us e => y.tups a us (x.tups a us e)
  frzs := fun a o u e => y.frzs a o u (x.frzs a o u e)
/-- behind a step the memory's addresses are still tracked -/
theorem RS.there {bd' : Nat} {m' : List Addr} {H' : Hp} {M' : Mem} (s' : RS G bd' m' H' M') {a : Addr} (h : a ∈ m') : H' a ≠ none := by
  obtain ⟨_, _, u, _, _, _, e, _⟩ := s'.mut h
  rw [e]; simp
theorem Ext.mem {m m' : List Addr} {H H' : Hp} (x : Ext G m m' H H') {a : Addr} (h : a ∈ m) : a ∈ m' := by
  obtain ⟨y, rfl, _⟩ := x.pre
  exact List.mem_append_left _ h
theorem Ext.andThen {m1 m2 m3 : List Addr} {H1 H2 H3 : Hp} {bd2 : Nat} {M2 : Mem} (x : Ext G m1 m2 H1 H2) (s2 : RS G bd2 m2 H2 M2) (y : Ext G m2 m3 H2 H3) : Ext G m1 m3 H1 H3 := x.trans y
/-- a new thing that is none of the memory's -/
theorem Ext.fresh {p : Addr} {o : HO} (hp : H p = none) : Ext G m m H (upd H p o) where
  pre := ⟨[], by simp, by simp⟩
  keep := fun a u e _ => by rw [upd_ne (ne_of_none e hp)]; exact e
  here := fun a e => by
    by_cases h : a = p
    · subst h; rw [upd_same]; simp
    · rw [upd_ne h]; exact e
  tups := fun a u e => by rw [upd_ne (ne_of_none e hp)]; exact e
  frzs := fun a o u e => by rw [upd_ne (ne_of_none e hp)]; exact e
theorem RS.notin (s : RS G bd m H M) {p : Addr} (hp : H p = none) : p ∉ m := fun h => s.there h hp
theorem RS.notP (s : RS G bd m H M) {p : Addr} (hp : H p = none) : p ∉ G.P.as := fun h => s.trk p h hp
theorem RS.keepAll {H' : Hp} (s : RS G bd m H M) (x : Ext G m m H H') (k : ∀ a o, H a = some o → H' a = some o) : RS G bd m H' M :=
  ⟨s.len, s.nd, fun n o e => let ⟨a, e2, r⟩ := s.at_ n o e; ⟨a, e2, r.keep x (fun u q => k _ _ q) fun b u q _ => k _ _ q⟩, s.low, s.cs, s.le, fun a ha => x.here a (s.trk a ha)⟩
theorem RS.fresh {p : Addr} {o : HO} (s : RS G bd m H M) (hp : H p = none) : RS G bd m (upd H p o) M :=
  s.keepAll (Ext.fresh hp) fun a u e => by rw [upd_ne (ne_of_none e hp)]; exact e
/-- a new thing of the memory -/
theorem Ext.new {p : Addr} {o : HO} (hp : H p = none) : Ext G m (m ++ [p]) H (upd H p o) where
  pre := ⟨[p], rfl, fun a ha => by rw [List.mem_singleton.mp ha]; exact hp⟩
  keep := fun a u e _ => by rw [upd_ne (ne_of_none e hp)]; exact e
  here := fun a e => by
    by_cases h : a = p
    · subst h; rw [upd_same]; simp
    · rw [upd_ne h]; exact e
  tups := fun a u e => by rw [upd_ne (ne_of_none e hp)]; exact e
  frzs := fun a o u e => by rw [upd_ne (ne_of_none e hp)]; exact e
theorem RS.new {p : Addr} {o : HO} {mo : MO} (s : RS G bd m H M) (hp : H p = none) (r : RO G (m ++ [p]) (upd H p o) p mo) : RS G bd (m ++ [p]) (upd H p o) (M ++ [mo]) where
  len := by simp [s.len]
  nd := by
    rw [List.nodup_append]
    exact ⟨s.nd, by simp, fun a ha b hb => by rw [List.mem_singleton.mp hb]; rintro rfl; exact s.notin hp ha⟩
  at_ := fun n o' e => by
    by_cases hn : n < M.length
    · rw [List.getElem?_append_left hn] at e
      obtain ⟨a, e2, q⟩ := s.at_ n o' e
      refine ⟨a, (Ext.new (G := G) (o := o) hp).get e2, q.keep (Ext.new hp) (fun u z => ?_) fun b u z _ => ?_⟩
      · rw [upd_ne (ne_of_none z hp)]; exact z
      · rw [upd_ne (ne_of_none z hp)]; exact z
    · have hl := (List.getElem?_eq_some_iff.mp e).1
      simp only [List.length_append, List.length_singleton] at hl
      have en : n = M.length := by omega
      subst en
      rw [List.getElem?_append_right (Nat.le_refl _)] at e
      simp at e
      subst e
      exact ⟨p, by rw [s.len, List.getElem?_append_right (Nat.le_refl _)]; simp, r⟩
  low := fun b hb n o' hn e => by
    rw [List.getElem?_append_left (Nat.lt_of_lt_of_le hn (Nat.le_trans (s.cs b hb) s.le))] at e
    exact s.low b hb n o' hn e
  cs := s.cs
  le := by
    have := s.le
    simp only [List.length_append, List.length_singleton]
    omega
  trk := fun a ha => (Ext.new (G := G) (m := m) hp).here a (s.trk a ha)
/-- a thing of the memory is written anew -/
theorem Ext.write {n : Nat} {a : Addr} {o : HO} {u : HO} (e : m[n]? = some a) (q : H a = some u) (mu : Mut (some u)) : Ext G m m H (upd H a o) where
  pre := ⟨[], by simp, by simp⟩
  keep := fun b w z nb => by
    rw [upd_ne]; exact z
    rintro rfl
    exact nb (List.mem_of_getElem? e)
  here := fun b h => by
    by_cases hb : b = a
    · subst hb; rw [upd_same]; simp
    · rw [upd_ne hb]; exact h
  tups := fun b w z => by
    rw [upd_ne]; exact z
    rintro rfl
    rw [q] at z; cases z; cases mu
  frzs := fun b w y z => by
    rw [upd_ne]; exact z
    rintro rfl
    rw [q] at z; cases z; cases mu
theorem RS.write {n : Nat} {a : Addr} {o u : HO} {mo : MO} (s : RS G bd m H M) (e : m[n]? = some a) (q : H a = some u) (mu : Mut (some u)) (r : RO G m (upd H a o) a mo) (lo : ∀ b ∈ G.P.C, n < b → mo.ub b = true) : RS G bd m (upd H a o) (M.set n mo) where
  len := by simp [s.len]
  nd := s.nd
  at_ := fun k o' z => by
    by_cases hk : n = k
    · subst hk
      have hl : n < M.length := by rw [s.len]; exact (List.getElem?_eq_some_iff.mp e).1
      rw [List.getElem?_set_self hl] at z
      cases z
      exact ⟨a, e, r⟩
    · rw [List.getElem?_set_ne hk] at z
      obtain ⟨b, e2, w⟩ := s.at_ k o' z
      have hab : b ≠ a := by
        rintro rfl
        exact hk ((List.getElem?_inj (List.getElem?_eq_some_iff.mp e).1 s.nd).mp (e.trans e2.symm))
      refine ⟨b, e2, w.keep (Ext.write e q mu) (fun u' z' => by rw [upd_ne hab]; exact z') fun c u' z' hy => ?_⟩
      obtain ⟨y, rfl⟩ := hy
      rw [upd_ne]; exact z'
      rintro rfl
      rw [q] at z'; cases z'; cases mu
  cs := s.cs
  low := fun b hb k o' hk z => by
    by_cases hn : n = k
    · subst hn
      have hl : n < M.length := by rw [s.len]; exact (List.getElem?_eq_some_iff.mp e).1
      rw [List.getElem?_set_self hl] at z
      cases z
      exact lo b hb hk
    · rw [List.getElem?_set_ne hn] at z
      exact s.low b hb k o' hk z
  le := by simpa using s.le
  trk := fun b hb => (Ext.write (G := G) e q mu).here b (s.trk b hb)
end
end Sh
set_option Elab.async false
set_option linter.all false
set_option maxRecDepth 100000
set_option maxHeartbeats 4000000
/-! Sh: expressions as functions over plain data; one lemma a construct. -/
namespace Sh
open PySem PySem.Spec PyProof.Rows L2
abbrev Env := List (Option D)
abbrev EF := Nat → Env → Mem → R D
abbrev AF := Nat → Env → Mem → R (List D)
abbrev BF := Nat → Env → Mem → R Bool
def Sat {α : Type} (r : R α) (k : α → Mem → Prop) (x : Str → Mem → Prop) : Prop := match r with
  | .ok a M => k a M
  | .exc c M => x c M
  | .stuck => False
theorem Sat_bind {α β : Type} {r : R α} {f : α → Mem → R β} {k : β → Mem → Prop} {x : Str → Mem → Prop} : Sat (r.bind f) k x ↔ Sat r (fun a M => Sat (f a M) k x) x := by cases r <;> rfl
theorem Sat.mono {α : Type} {r : R α} {k k' : α → Mem → Prop} {x x' : Str → Mem → Prop} (h : Sat r k x) (hk : ∀ a M, k a M → k' a M) (hx : ∀ c M, x c M → x' c M) : Sat r k' x' := by
  cases r with
  | ok a M => exact hk _ _ h
  | exc c M => exact hx _ _ h
  | stuck => exact h
structure RE (G : Gam) (m : List Addr) (H : Hp) (e : Env) (σ : L2.St) : Prop where
  len : e.length = σ.length
  at_ : ∀ (i : Nat) (d : D), e[i]? = some (some d) → ∃ v, σ[i]? = some (some v) ∧ RV G m H d v
theorem RE.mono {G : Gam} {m m' : List Addr} {H H' : Hp} {e : Env} {σ : L2.St} (h : RE G m H e σ) (x : Ext G m m' H H') : RE G m' H' e σ := ⟨h.len, fun i d z => let ⟨v, a, b⟩ := h.at_ i d z; ⟨v, a, b.mono x⟩⟩
/-- what is wanted of an exception that leaves -/
def XW (G : Gam) (W : WX) (bd : Nat) (σ : L2.St) (m : List Addr) (H : Hp) : Str → Mem → Prop := fun c M' => ∀ m' H', Ext G m m' H H' → RS G bd m' H' M' → W (.ref (He.ga G.K c)) none σ H'
/-- the reading of a plain function -/
def tE (G : Gam) (W : WX) (bd : Nat) (f : EF) : TE := fun σ H Q => ∃ P m e M, RE (G.on P) m H e σ ∧ RS (G.on P) bd m H M ∧
  Sat (f bd e M) (fun d M' => ∀ m' H' v, Ext (G.on P) m m' H H' → RS (G.on P) bd m' H' M' → RV (G.on P) m' H' d v → Q v H') (XW (G.on P) W bd σ m H)
def tA (G : Gam) (W : WX) (bd : Nat) (f : AF) : TA := fun σ H Q => ∃ P m e M, RE (G.on P) m H e σ ∧ RS (G.on P) bd m H M ∧
  Sat (f bd e M) (fun ds M' => ∀ m' H' vs, Ext (G.on P) m m' H H' → RS (G.on P) bd m' H' M' → RVs (G.on P) m' H' ds vs → Q vs H') (XW (G.on P) W bd σ m H)
def tT (G : Gam) (W : WX) (bd : Nat) (f : BF) : TT := fun σ H Q => ∃ P m e M, RE (G.on P) m H e σ ∧ RS (G.on P) bd m H M ∧
  Sat (f bd e M) (fun b M' => ∀ m' H', Ext (G.on P) m m' H H' → RS (G.on P) bd m' H' M' → Q b H') (XW (G.on P) W bd σ m H)
def SE (G : Gam) (X : Cx) (W : WX) (e : Expr) (f : EF) : Prop := ∀ bd, PE X e (tE G W bd f)
def SA (G : Gam) (X : Cx) (W : WX) (es : List Expr) (f : AF) : Prop := ∀ bd, PA X es (tA G W bd f)
def ST (G : Gam) (X : Cx) (W : WX) (e : Expr) (f : BF) : Prop := ∀ bd, PT X e (tT G W bd f)
def SW (G : Gam) (X : Cx) (W : WX) (e : Expr) (f : BF) : Prop := ∀ bd, PW X e (tT G W bd f)
section
variable {G : Gam} {X : Cx} {W : WX} {bd : Nat} {f g h : EF} {a b c : Expr} {pos : Pos} {σ : L2.St} {H H0 : Hp} {m m0 : List Addr} {M : Mem} {e : Env}
theorem PE.imp {e : Expr} {t t' : TE} (p : PE X e t) (i : ∀ σ H Q, t' σ H Q → t σ H Q) : PE X e t' := ⟨fun pins s σ H Q I h => p.run pins s σ H Q I (i _ _ _ h)⟩
theorem PT.imp {e : Expr} {t t' : TT} (p : PT X e t) (i : ∀ σ H Q, t' σ H Q → t σ H Q) : PT X e t' := ⟨fun pins s σ H Q I h => p.run pins s σ H Q I (i _ _ _ h)⟩
theorem PW.imp {e : Expr} {t t' : TT} (p : PW X e t) (i : ∀ σ H Q, t' σ H Q → t σ H Q) : PW X e t' := ⟨fun w pins s σ H Q I h => p.run w pins s σ H Q I (i _ _ _ h)⟩
theorem PA.imp {e : List Expr} {t t' : TA} (p : PA X e t) (i : ∀ σ H Q, t' σ H Q → t σ H Q) : PA X e t' := ⟨fun w pins s σ H Q I h => p.run w pins s σ H Q I (i _ _ _ h)⟩
theorem tE.mono {Q Q' : VK} (t : tE G W bd f σ H Q) (k : ∀ v H', Q v H' → Q' v H') : tE G W bd f σ H Q' := by
  obtain ⟨P, m, e, M, re, rs, h⟩ := t
  exact ⟨P, m, e, M, re, rs, h.mono (fun d M' z m' H' v x s r => k _ _ (z m' H' v x s r)) fun _ _ z => z⟩
theorem XW.mono {c : Str} {M' : Mem} (x : Ext G m0 m H0 H) (s : RS G bd m H M) (h : XW G W bd σ m0 H0 c M') : XW G W bd σ m H c M' := fun m' H' y s' => h m' H' (x.andThen s y) s'
/-- one step of a chain that began at (m0, H0) -/
theorem step {P : Prt} {β : Type} {k : D → Mem → R β} {Z : β → Mem → Prop} (x0 : Ext (G.on P) m0 m H0 H) (re : RE (G.on P) m H e σ) (rs : RS (G.on P) bd m H M) (h : Sat ((f bd e M).bind k) Z (XW (G.on P) W bd σ m0 H0)) :
    tE G W bd f σ H fun v H1 => ∃ m1 d M1, Ext (G.on P) m m1 H H1 ∧ Ext (G.on P) m0 m1 H0 H1 ∧ RE (G.on P) m1 H1 e σ ∧ RS (G.on P) bd m1 H1 M1 ∧ RV (G.on P) m1 H1 d v ∧ Sat (k d M1) Z (XW (G.on P) W bd σ m0 H0) := by
  rw [Sat_bind] at h
  exact ⟨_, m, e, M, re, rs, h.mono (fun d M1 z m1 H1 v x s r => ⟨m1, d, M1, x, x0.andThen rs x, re.mono x, s, r, z⟩) fun c M' z => z.mono x0 rs⟩
theorem stepA {P : Prt} {β : Type} {f : AF} {k : List D → Mem → R β} {Z : β → Mem → Prop} (x0 : Ext (G.on P) m0 m H0 H) (re : RE (G.on P) m H e σ) (rs : RS (G.on P) bd m H M) (h : Sat ((f bd e M).bind k) Z (XW (G.on P) W bd σ m0 H0)) :
    tA G W bd f σ H fun vs H1 => ∃ m1 ds M1, Ext (G.on P) m m1 H H1 ∧ Ext (G.on P) m0 m1 H0 H1 ∧ RE (G.on P) m1 H1 e σ ∧ RS (G.on P) bd m1 H1 M1 ∧ RVs (G.on P) m1 H1 ds vs ∧ Sat (k ds M1) Z (XW (G.on P) W bd σ m0 H0) := by
  rw [Sat_bind] at h
  exact ⟨_, m, e, M, re, rs, h.mono (fun d M1 z m1 H1 v x s r => ⟨m1, d, M1, x, x0.andThen rs x, re.mono x, s, r, z⟩) fun c M' z => z.mono x0 rs⟩
theorem stepT {P : Prt} {β : Type} {f : BF} {k : Bool → Mem → R β} {Z : β → Mem → Prop} (x0 : Ext (G.on P) m0 m H0 H) (re : RE (G.on P) m H e σ) (rs : RS (G.on P) bd m H M) (h : Sat ((f bd e M).bind k) Z (XW (G.on P) W bd σ m0 H0)) :
    tT G W bd f σ H fun b H1 => ∃ m1 M1, Ext (G.on P) m m1 H H1 ∧ Ext (G.on P) m0 m1 H0 H1 ∧ RE (G.on P) m1 H1 e σ ∧ RS (G.on P) bd m1 H1 M1 ∧ Sat (k b M1) Z (XW (G.on P) W bd σ m0 H0) := by
  rw [Sat_bind] at h
  exact ⟨_, m, e, M, re, rs, h.mono (fun d M1 z m1 H1 x s => ⟨m1, M1, x, x0.andThen rs x, re.mono x, s, z⟩) fun c M' z => z.mono x0 rs⟩
/-- a chain's last step: f as it stands -/
theorem last {P : Prt} {Q : VK} (x0 : Ext (G.on P) m0 m H0 H) (re : RE (G.on P) m H e σ) (rs : RS (G.on P) bd m H M) (h : Sat (f bd e M) (fun d M' => ∀ m' H' v, Ext (G.on P) m0 m' H0 H' → RS (G.on P) bd m' H' M' → RV (G.on P) m' H' d v → Q v H') (XW (G.on P) W bd σ m0 H0)) : tE G W bd f σ H Q :=
  ⟨_, m, e, M, re, rs, h.mono (fun d M1 z m1 H1 v x s r => z m1 H1 v (x0.andThen rs x) s r) fun c M' z => z.mono x0 rs⟩
theorem lastT {P : Prt} {f : BF} {Q : Bool → Hp → Prop} (x0 : Ext (G.on P) m0 m H0 H) (re : RE (G.on P) m H e σ) (rs : RS (G.on P) bd m H M) (h : Sat (f bd e M) (fun b M' => ∀ m' H', Ext (G.on P) m0 m' H0 H' → RS (G.on P) bd m' H' M' → Q b H') (XW (G.on P) W bd σ m0 H0)) : tT G W bd f σ H Q :=
  ⟨_, m, e, M, re, rs, h.mono (fun d M1 z m1 H1 x s => z m1 H1 (x0.andThen rs x) s) fun c M' z => z.mono x0 rs⟩
/-! ### names, constants -/
def eV (i : Nat) : EF := fun _ e M => match e[i]? with
  | some (some d) => .ok d M
  | _ => .stuck
def eC (d : D) : EF := fun _ _ M => .ok d M
theorem se_var {i : Nat} {x : Str} {pos : Pos} (p : PE X (.Name x pos) (tVar i)) : SE G X W (.Name x pos) (eV i) := fun bd => PE.imp p fun σ H Q ⟨P, m, e, M, re, rs, h⟩ => by
  unfold eV at h
  split at h
  · rename_i d q
    obtain ⟨v, hv, r⟩ := re.at_ i d q
    exact ⟨v, hv, h m H v (Ext.refl m H) rs r⟩
  · exact h.elim
theorem se_const {c : Expr} {d : D} {v : V} (p : PE X c (tC v)) (r : ∀ P m H, RV (G.on P) m H d v) : SE G X W c (eC d) := fun bd => PE.imp p fun σ H Q ⟨P, m, e, M, re, rs, h⟩ => h m H v (Ext.refl m H) rs (r P m H)
theorem se_int {i : Int} {j : Nat} : SE G X W (.Constant (.int i) j pos) (eC (.int i)) := se_const pe_int fun _ _ _ => .int i
theorem se_bl {i : Bool} {j : Nat} : SE G X W (.Constant (.bool i) j pos) (eC (.bl i)) := se_const pe_bl fun _ _ _ => .bl i
theorem se_non {j : Nat} : SE G X W (.Constant .none j pos) (eC .non) := se_const pe_non fun _ _ _ => .non
theorem se_str {x : Str} {j : Nat} : SE G X W (.Constant (.str x) j pos) (eC (.str x)) := se_const pe_str fun _ _ _ => .str x
/-! ### arguments, tuples, lists -/
def aNil : AF := fun _ _ M => .ok [] M
def aCons (f : EF) (t : AF) : AF := fun bd e M => (f bd e M).bind fun d M1 => (t bd e M1).bind fun ds M2 => .ok (d :: ds) M2
theorem sa_nil : SA G X W [] aNil := fun bd => PA.imp pa_nil fun σ H Q ⟨P, m, e, M, re, rs, h⟩ => h m H [] (Ext.refl m H) rs .nil
theorem sa_cons {es : List Expr} {t : AF} (ha : SE G X W a f) (hr : SA G X W es t) (hs : starEach (a :: es) X.env = (false, eval a X.env) :: starEach es X.env := by rfl) : SA G X W (a :: es) (aCons f t) := fun bd =>
  PA.imp (pa_cons (ha bd) (hr bd) hs) fun σ H Q ⟨P, m, e, M, re, rs, h⟩ => (step (Ext.refl m H) re rs h).mono fun v H1 ⟨m1, d, M1, x1, x01, re1, rs1, r1, h1⟩ => by
    obtain ⟨P', m', e', M', a1, a2, a3⟩ := stepA x01 re1 rs1 h1
    refine ⟨P', m', e', M', a1, a2, a3.mono (fun ds M2 z m2 H2 vs x s r => ?_) fun _ _ z => z⟩
    obtain ⟨m3, ds3, M3, x3, x03, re3, rs3, r3, h3⟩ := z m2 H2 vs x s r
    exact h3 m3 H2 (v :: vs) x03 rs3 (.cons (r1.mono x3) r3)
theorem tA.mono {f : AF} {Q Q' : List V → Hp → Prop} (t : tA G W bd f σ H Q) (k : ∀ v H', Q v H' → Q' v H') : tA G W bd f σ H Q' := by
  obtain ⟨P, m, e, M, re, rs, h⟩ := t
  exact ⟨_, m, e, M, re, rs, h.mono (fun d M' z m' H' v x s r => k _ _ (z m' H' v x s r)) fun _ _ z => z⟩
theorem tT.mono {f : BF} {Q Q' : Bool → Hp → Prop} (t : tT G W bd f σ H Q) (k : ∀ v H', Q v H' → Q' v H') : tT G W bd f σ H Q' := by
  obtain ⟨P, m, e, M, re, rs, h⟩ := t
  exact ⟨_, m, e, M, re, rs, h.mono (fun d M' z m' H' x s => k _ _ (z m' H' x s)) fun _ _ z => z⟩
def big (n : Nat) : Bool := decide (n ≤ 16777216)
theorem big_line {n : Nat} (h : big n = true) : n ≤ sizeLine := by
  have := of_decide_eq_true h
  rw [sizeLine_eq]; omega
/-- a new tuple; a new list that stays as it is; a new list of the memory -/
def eTup (t : AF) : EF := fun bd e M => (t bd e M).bind fun ds M1 => if big ds.length = true then .ok (.tup ds) M1 else .stuck
def eLst (t : AF) : EF := fun bd e M => (t bd e M).bind fun ds M1 => if big ds.length = true then .ok (.lst ds) M1 else .stuck
def mNew (o : MO) (M : Mem) : R D := .ok (.ref M.length) (M ++ [o])
def eLstM (t : AF) : EF := fun bd e M => (t bd e M).bind fun ds M1 => if big ds.length = true then mNew (.lst ds) M1 else .stuck
theorem rv_tup {p : Addr} {ds : List D} {vs : List V} (hp : H p = none) (r : RVs G m H ds vs) : RV G m (upd H p (.tup vs)) (.tup ds) (.ref p) := .tup upd_same (r.mono (Ext.fresh hp))
theorem rv_lst {p : Addr} {ds : List D} {vs : List V} (rs : RS G bd m H M) (hp : H p = none) (r : RVs G m H ds vs) : RV G m (upd H p (.lst vs)) (.lst ds) (.ref p) := .lst upd_same (rs.notin hp) (rs.notP hp) (r.mono (Ext.fresh hp))
theorem rv_new {p : Addr} {o : HO} (rs : RS G bd m H M) : RV G (m ++ [p]) (upd H p o) (.ref M.length) (.ref p) := .ref (by rw [rs.len, List.getElem?_append_right (Nat.le_refl _)]; simp)
theorem ro_lst {p : Addr} {ds : List D} {vs : List V} (hp : H p = none) (r : RVs G m H ds vs) : RO G (m ++ [p]) (upd H p (.lst vs)) p (.lst ds) := ⟨vs, upd_same, r.mono (Ext.new hp)⟩
theorem se_tup {es : List Expr} {t : AF} {x1} (ha : SA G X W es t) : SE G X W (.Tuple es x1 pos) (eTup t) := fun bd =>
  PE.imp (pe_tup (ha bd)) fun σ H Q ⟨P, m, e, M, re, rs, h⟩ => (stepA (Ext.refl m H) re rs h).mono fun vs H1 ⟨m1, ds, M1, x1, x01, re1, rs1, r1, h1⟩ => by
    split at h1
    · rename_i hb
      refine ⟨by rw [← r1.length]; exact big_line hb, fun p hp => ?_⟩
      exact h1 m1 _ _ (x01.andThen rs1 (Ext.fresh hp)) (rs1.fresh hp) (rv_tup hp r1)
    · exact h1.elim
theorem se_lst {es : List Expr} {t : AF} (ha : SA G X W es t) : SE G X W (.List es pos) (eLst t) := fun bd =>
  PE.imp (pe_lst (ha bd)) fun σ H Q ⟨P, m, e, M, re, rs, h⟩ => (stepA (Ext.refl m H) re rs h).mono fun vs H1 ⟨m1, ds, M1, x1, x01, re1, rs1, r1, h1⟩ => by
    split at h1
    · rename_i hb
      refine ⟨by rw [← r1.length]; exact big_line hb, fun p hp => ?_⟩
      exact h1 m1 _ _ (x01.andThen rs1 (Ext.fresh hp)) (rs1.fresh hp) (rv_lst rs1 hp r1)
    · exact h1.elim
theorem se_lstM {es : List Expr} {t : AF} (ha : SA G X W es t) : SE G X W (.List es pos) (eLstM t) := fun bd =>
  PE.imp (pe_lst (ha bd)) fun σ H Q ⟨P, m, e, M, re, rs, h⟩ => (stepA (Ext.refl m H) re rs h).mono fun vs H1 ⟨m1, ds, M1, x1, x01, re1, rs1, r1, h1⟩ => by
    split at h1
    · rename_i hb
      refine ⟨by rw [← r1.length]; exact big_line hb, fun p hp => ?_⟩
      exact h1 _ _ _ (x01.andThen rs1 (Ext.new hp)) (rs1.new hp (ro_lst hp r1)) (rv_new rs1)
    · exact h1.elim
/-! ### operators by values -/
abbrev O2 := Mem → D → D → Option D
def lft (o : Option D) (M : Mem) : R D := match o with
  | some d => .ok d M
  | none => .stuck
@[simp] theorem lft_some (d : D) (M : Mem) : lft (some d) M = .ok d M := rfl
@[simp] theorem lft_none (M : Mem) : lft none M = .stuck := rfl
def eOp (op : O2) (f g : EF) : EF := fun bd e M => (f bd e M).bind fun x M1 => (g bd e M1).bind fun y M2 => lft (op M2 x y) M2
/-- op does what the rule r asks -/
def Sim (G : Gam) (r : R2) (op : O2) : Prop := ∀ (bd : Nat) (m : List Addr) (H : Hp) (M : Mem) (x y d : D) (u v : V) (Q : VK), RS G bd m H M → RV G m H x u → RV G m H y v → op M x y = some d →
  (∀ m' H' w, Ext G m m' H H' → RS G bd m' H' M → RV G m' H' d w → Q w H') → r u v H Q
theorem sat_lft {o : Option D} {M : Mem} {k : D → Mem → Prop} {x : Str → Mem → Prop} (h : Sat (lft o M) k x) : ∃ d, o = some d ∧ k d M := by
  cases o with
  | some d => exact ⟨d, rfl, h⟩
  | none => exact h.elim
theorem tOp_of {r : R2} {op : O2} (hr : ∀ P, Sim (G.on P) r op) {Q : VK} (h : tE G W bd (eOp op f g) σ H Q) : tOp r (tE G W bd f) (tE G W bd g) σ H Q := by
  obtain ⟨P, m, e, M, re, rs, h⟩ := h
  refine (step (Ext.refl m H) re rs h).mono fun v H1 ⟨m1, d, M1, x1, x01, re1, rs1, r1, h1⟩ => ?_
  refine (step x01 re1 rs1 h1).mono fun v2 H2 ⟨m2, d2, M2, x2, x02, re2, rs2, r2, h2⟩ => ?_
  obtain ⟨d3, e3, h3⟩ := sat_lft h2
  exact hr P bd m2 H2 M2 d d2 d3 v v2 Q rs2 (r1.mono x2) r2 e3 fun m' H' w x s r => h3 m' H' w (x02.andThen rs2 x) s r
theorem se_op {op : Operator} {r : R2} {o2 : O2} (ho : OpR X (binaryOp op) r) (hr : ∀ P, Sim (G.on P) r o2) (ha : SE G X W a f) (hb : SE G X W b g) : SE G X W (.BinOp a op b pos) (eOp o2 f g) := fun bd =>
  PE.imp (pe_op ho (ha bd) (hb bd)) fun σ H Q h => tOp_of hr h
theorem se_cmp {op : CmpOp} {r : R2} {o2 : O2} (ho : OpR X (compareOp op) r) (hr : ∀ P, Sim (G.on P) r o2) (ha : SE G X W a f) (hb : SE G X W b g) (hm : behindInMarks op b = false) : SE G X W (.Compare a [op] [b] pos) (eOp o2 f g) := fun bd =>
  PE.imp (pe_cmpR ho (ha bd) (hb bd) hm) fun σ H Q h => tOp_of hr h
def eUn (op : D → Option D) (f : EF) : EF := fun bd e M => (f bd e M).bind fun x M1 => lft (op x) M1
def oNeg : D → Option D | .int i => some (.int (-i)) | _ => none
theorem se_neg (ha : SE G X W a f) : SE G X W (.UnaryOp .USub a pos) (eUn oNeg f) := fun bd =>
  PE.imp (pe_un un_neg (ha bd)) fun σ H Q ⟨P, m, e, M, re, rs, h⟩ => (step (Ext.refl m H) re rs h).mono fun v H1 ⟨m1, d, M1, x1, x01, re1, rs1, r1, h1⟩ => by
    obtain ⟨d3, e3, h3⟩ := sat_lft h1
    cases r1 <;> cases e3
    exact ⟨_, rfl, h3 m1 H1 _ x01 rs1 (.int _)⟩
/-- ints -/
def oI0 (g : Int → Int → D) : O2 := fun _ x y => match x, y with
  | .int i, .int j => some (g i j)
  | _, _ => none
def oI (C : Int → Int → Bool) (g : Int → Int → D) : O2 := fun _ x y => match x, y with
  | .int i, .int j => if C i j = true then some (g i j) else none
  | _, _ => none
theorem sim_I0 {g : Int → Int → D} {gv : Int → Int → V} (hg : ∀ i j m H, RV G m H (g i j) (gv i j)) : Sim G (rI0 gv) (oI0 g) := fun bd m H M x y d u v Q rs rx ry e k => by
  cases rx <;> cases ry <;> simp only [oI0, reduceCtorEq] at e
  cases e
  exact ⟨_, _, rfl, rfl, k m H _ (Ext.refl m H) rs (hg _ _ _ _)⟩
theorem sim_I {C : Int → Int → Bool} {C' : Int → Int → Prop} {g : Int → Int → D} {gv : Int → Int → V} (hC : ∀ i j, C i j = true → C' i j) (hg : ∀ i j m H, C i j = true → RV G m H (g i j) (gv i j)) : Sim G (rI C' gv) (oI C g) := fun bd m H M x y d u v Q rs rx ry e k => by
  cases rx <;> cases ry <;> simp only [oI, reduceCtorEq] at e
  split at e
  · rename_i hc
    cases e
    exact ⟨_, _, rfl, rfl, hC _ _ hc, k m H _ (Ext.refl m H) rs (hg _ _ _ _ hc)⟩
  · cases e
def oAdd := oI0 fun i j => .int (i + j)
def oSub := oI0 fun i j => .int (i - j)
def cMul (i j : Int) : Bool := decide (i.natAbs < 2 ^ 64) || decide (j.natAbs < 2 ^ 64) || decide (i.natAbs.log2 + j.natAbs.log2 < 1000000)
def oMul := oI cMul fun i j => .int (i * j)
def cDiv (_ j : Int) : Bool := decide (0 < j) && decide (j.natAbs.log2 < 9000)
def oDiv := oI cDiv fun i j => .int (i / j)
def oMod := oI (fun _ j => decide (0 < j)) fun i j => .int (i % j)
def cShl (i j : Int) : Bool := decide (0 ≤ j) && decide (j ≤ 100000) && (decide (i.natAbs.log2 < 1000000))
def oShl := oI cShl fun i j => .int (i * 2 ^ j.toNat)
def oShr := oI (fun _ j => decide (0 ≤ j)) fun i j => .int (i / 2 ^ j.toNat)
def oAnd := oI0 fun i j => .int (Builtin.bitAnd i j)
def oOr := oI0 fun i j => .int (Builtin.bitOr i j)
def oXor := oI0 fun i j => .int (Builtin.bitXor i j)
def cPow (i j : Int) : Bool := decide (0 ≤ j) && decide (j ≤ 1000000) && decide (i.natAbs < 2 ^ 64)
def oPow := oI cPow fun i j => .int (i ^ j.toNat)
def oLt := oI0 fun i j => .bl (decide (i < j))
def oLe := oI0 fun i j => .bl (decide (i ≤ j))
def oGt := oI0 fun i j => .bl (decide (j < i))
def oGe := oI0 fun i j => .bl (decide (j ≤ i))
theorem cMul_ok {i j : Int} (h : cMul i j = true) : IntMulOk i j := by
  simp only [cMul, Bool.or_eq_true, decide_eq_true_eq] at h
  rcases h with (h | h) | h
  · exact CMul.ok (.inl ⟨by omega, by omega⟩)
  · exact CMul.ok (.inr ⟨by omega, by omega⟩)
  · exact CMulW.ok h
theorem op_mulS : OpR X (binaryOp .Mult) (rI (fun i j => IntMulOk i j) fun i j => .int (i * j)) := opI fun _ _ _ _ _ _ _ hc q => mul_int q hc
theorem iop_mulS : OpR X (inplaceOp .Mult) (rI (fun i j => IntMulOk i j) fun i j => .int (i * j)) := opI fun _ _ _ _ _ _ _ hc q => imul_int q hc
theorem sim_add : Sim G (rI0 fun i j => .int (i + j)) oAdd := sim_I0 fun _ _ _ _ => .int _
theorem sim_sub : Sim G (rI0 fun i j => .int (i - j)) oSub := sim_I0 fun _ _ _ _ => .int _
theorem sim_mul : Sim G (rI (fun i j => IntMulOk i j) fun i j => .int (i * j)) oMul := sim_I (fun _ _ h => cMul_ok h) fun _ _ _ _ _ => .int _
theorem sim_div : Sim G (rI CDivW fun i j => .int (i / j)) oDiv := sim_I (fun i j h => by
  simp only [cDiv, Bool.and_eq_true, decide_eq_true_eq] at h
  exact h) fun _ _ _ _ _ => .int _
theorem sim_mod : Sim G (rI (fun _ j => 0 < j) fun i j => .int (i % j)) oMod := sim_I (fun i j h => of_decide_eq_true h) fun _ _ _ _ _ => .int _
theorem cShl_ok {i j : Int} (h : cShl i j = true) : CShl i j := by
  simp only [cShl, Bool.and_eq_true, decide_eq_true_eq] at h
  obtain ⟨⟨h1, h2⟩, h3⟩ := h
  obtain ⟨n, rfl⟩ := Int.eq_ofNat_of_zero_le h1
  exact shl_ok (n := i.natAbs.log2 + 1) Nat.lt_log2_self (by omega)
theorem sim_shl : Sim G (rI CShl fun i j => .int (i * 2 ^ j.toNat)) oShl := sim_I (fun i j h => cShl_ok h) fun _ _ _ _ _ => .int _
theorem sim_shr : Sim G (rI (fun _ j => 0 ≤ j) fun i j => .int (i / 2 ^ j.toNat)) oShr := sim_I (fun i j h => of_decide_eq_true h) fun _ _ _ _ _ => .int _
theorem sim_and : Sim G (rI0 fun i j => .int (Builtin.bitAnd i j)) oAnd := sim_I0 fun _ _ _ _ => .int _
theorem sim_or : Sim G (rI0 fun i j => .int (Builtin.bitOr i j)) oOr := sim_I0 fun _ _ _ _ => .int _
theorem sim_xor : Sim G (rI0 fun i j => .int (Builtin.bitXor i j)) oXor := sim_I0 fun _ _ _ _ => .int _
theorem sim_pow : Sim G (rI CPow fun i j => .int (i ^ j.toNat)) oPow := sim_I (fun i j h => by
  simp only [cPow, Bool.and_eq_true, decide_eq_true_eq] at h
  exact ⟨h.1.1, h.1.2, h.2⟩) fun _ _ _ _ _ => .int _
theorem sim_lt : Sim G (rI0 fun i j => .bl (decide (i < j))) oLt := sim_I0 fun _ _ _ _ => .bl _
theorem sim_le : Sim G (rI0 fun i j => .bl (decide (i ≤ j))) oLe := sim_I0 fun _ _ _ _ => .bl _
theorem sim_gt : Sim G (rI0 fun i j => .bl (decide (j < i))) oGt := sim_I0 fun _ _ _ _ => .bl _
theorem sim_ge : Sim G (rI0 fun i j => .bl (decide (j ≤ i))) oGe := sim_I0 fun _ _ _ _ => .bl _
/-- is None -/
def oIsN : O2 := fun _ x y => match y with
  | .non => some (.bl (match x with | .non => true | _ => false))
  | _ => none
def oNotN : O2 := fun _ x y => match y with
  | .non => some (.bl (match x with | .non => false | _ => true))
  | _ => none
theorem sim_isN : Sim G (fun x y H Q => y = .non ∧ Q (.bl (decide (x = .non))) H) oIsN := fun bd m H M x y d u v Q rs rx ry e k => by
  cases ry <;> simp only [oIsN, reduceCtorEq] at e
  cases e
  refine ⟨rfl, ?_⟩
  cases rx <;> exact k m H _ (Ext.refl m H) rs (by simpa using RV.bl _)
theorem sim_notN : Sim G (fun x y H Q => y = .non ∧ Q (.bl (!decide (x = .non))) H) oNotN := fun bd m H M x y d u v Q rs rx ry e k => by
  cases ry <;> simp only [oNotN, reduceCtorEq] at e
  cases e
  refine ⟨rfl, ?_⟩
  cases rx <;> exact k m H _ (Ext.refl m H) rs (by simpa using RV.bl _)
end
end Sh
set_option Elab.async false
set_option linter.all false
set_option maxRecDepth 100000
set_option maxHeartbeats 4000000
/-! Sh: ==, in, truth, and, or, not, subscripts. -/
namespace Sh
open PySem PySem.Spec PyProof.Rows L2
/-! ### data as the library's data -/
mutual
def D.py : D → PyData
  | .non => .none
  | .bl b => .bool b
  | .int i => .int i
  | .str x => .str x
  | .tup ds => .tuple (pyL ds)
  | .lst ds => .list (pyL ds)
  | .cst ds => .tuple (pyL ds)
  | .scr ds => .list (pyL ds)
  | .ref _ => .none
def pyL : List D → List PyData
  | [] => []
  | d :: r => d.py :: pyL r
end
mutual
theorem RV.dp {G : Gam} {m : List Addr} {H : Hp} : ∀ {d : D} {v : V}, RV G m H d v → d.flat = true → Dp G.K H v d.py
  | _, _, .non, _ => .non
  | _, _, .bl b, _ => .bl b
  | _, _, .int i, _ => .int i
  | _, _, .str x, _ => .str x
  | _, _, .tup a b, h => .tup (SqT.of a) (RVs.dp b h)
  | _, _, .cst a b, h => .tup (a H) (RVs.dp b h)
  | _, _, .lst a _ _ b, h => .lst (SqL.of a) (RVs.dp b h)
  | _, _, .scr a b, h => .lst a.sq (RVs.dp b h)
  | _, _, .ref _, h => by cases h
theorem RVs.dp {G : Gam} {m : List Addr} {H : Hp} : ∀ {ds : List D} {us : List V}, RVs G m H ds us → flatL ds = true → DpAll G.K H us (pyL ds)
  | _, _, .nil, _ => .nil
  | _, _, .cons a b, h => by
    simp only [flatL, Bool.and_eq_true] at h
    exact .cons (RV.dp a h.1) (RVs.dp b h.2)
end
/-- the items of a tuple, of a list (one that stays, one of the memory) -/
def seqOf (M : Mem) : D → Option (List D)
  | .tup ds => some ds
  | .lst ds => some ds
  | .cst ds => some ds
  | .scr ds => some ds
  | .ref n => match M[n]? with
    | some (.lst ds) => some ds
    | _ => none
  | _ => none
def lstOf (M : Mem) : D → Option (List D)
  | .lst ds => some ds
  | .scr ds => some ds
  | .ref n => match M[n]? with
    | some (.lst ds) => some ds
    | _ => none
  | _ => none
section
variable {G : Gam} {X : Cx} {W : WX} {bd : Nat} {f g h : EF} {a b c : Expr} {pos : Pos} {σ : L2.St} {H H0 : Hp} {m m0 : List Addr} {M : Mem} {e : Env}
theorem RS.ref {n : Nat} {o : MO} {a : Addr} (rs : RS G bd m H M) (h : M[n]? = some o) (e : m[n]? = some a) : RO G m H a o := by
  obtain ⟨b, e2, r⟩ := rs.at_ n o h
  rw [e] at e2; cases e2; exact r
theorem lst_of {d : D} {v : V} {ds : List D} (rs : RS G bd m H M) (r : RV G m H d v) (h : lstOf M d = some ds) : ∃ a us, v = .ref a ∧ SqL G.K H a us ∧ RVs G m H ds us := by
  cases r with
  | lst q _ _ s => cases h; exact ⟨_, _, rfl, SqL.of q, s⟩
  | scr q s => cases h; exact ⟨_, _, rfl, q.sq, s⟩
  | ref z =>
    simp only [lstOf] at h
    split at h
    · rename_i ds' hM
      cases h
      obtain ⟨us, hq, s⟩ := rs.ref hM z
      exact ⟨_, us, rfl, SqL.of hq, s⟩
    · cases h
  | _ => cases h
theorem seq_of {d : D} {v : V} {ds : List D} (rs : RS G bd m H M) (r : RV G m H d v) (h : seqOf M d = some ds) : ∃ a us, v = .ref a ∧ (SqL G.K H a us ∨ SqT G.K H a us) ∧ RVs G m H ds us := by
  cases r with
  | tup q s => cases h; exact ⟨_, _, rfl, .inr (SqT.of q), s⟩
  | cst q s => cases h; exact ⟨_, _, rfl, .inr (q H), s⟩
  | lst q _ _ s => cases h; exact ⟨_, _, rfl, .inl (SqL.of q), s⟩
  | scr q s => cases h; exact ⟨_, _, rfl, .inl q.sq, s⟩
  | ref z =>
    obtain ⟨a, us, e1, e2, e3⟩ := lst_of rs (.ref z) (show lstOf M (.ref _) = some ds from h)
    exact ⟨a, us, e1, .inl e2, e3⟩
  | _ => cases h
def isList : D → Bool
  | .tup _ => false
  | _ => true
/-- the thing with what stands in the memory put in (one deep) -/
def dref (M : Mem) : D → D
  | .ref n => match M[n]? with
    | some (.lst ds) => .lst ds
    | _ => .ref n
  | d => d
theorem dref_dp {d : D} {v : V} (rs : RS G bd m H M) (r : RV G m H d v) (h : (dref M d).flat = true) : Dp G.K H v (dref M d).py := by
  cases r with
  | @ref n a z =>
    have e : dref M (.ref n) = match M[n]? with
      | some (.lst ds) => .lst ds
      | _ => .ref n := rfl
    cases hM : M[n]? with
    | none =>
      rw [e, hM] at h
      cases h
    | some o =>
      rw [e, hM] at h ⊢
      cases o with
      | lst ds =>
        obtain ⟨us, hq, s⟩ := rs.ref hM z
        exact .lst (SqL.of hq) (s.dp h)
      | _ => cases h
  | non => exact RV.dp (m := m) .non h
  | bl b => exact RV.dp (m := m) (.bl b) h
  | int b => exact RV.dp (m := m) (.int b) h
  | str b => exact RV.dp (m := m) (.str b) h
  | tup q s => exact RV.dp (.tup q s) h
  | lst q n n2 s => exact RV.dp (.lst q n n2 s) h
  | scr q s => exact RV.dp (.scr q s) h
  | cst q s => exact RV.dp (.cst q s) h
/-! ### ==, != -/
def eqDeep (M : Mem) (x y : D) : Option Bool :=
  if ((dref M x).flat && (dref M y).flat && SeqAt.shaped (dref M x).py && SeqAt.shaped (dref M y).py) = true then some (PyData.eqv (dref M x).py (dref M y).py) else none
def eqB (M : Mem) : D → D → Option Bool
  | .int i, .int j => some (decide (i = j))
  | .bl i, .bl j => some (decide (i = j))
  | .str i, .str j => some (decide (i = j))
  | x, y => eqDeep M x y
def oEq : O2 := fun M x y => (eqB M x y).map D.bl
def oNe : O2 := fun M x y => (eqB M x y).map fun b => D.bl (!b)
theorem eqB_sim {x y : D} {u v : V} {k : Bool} (rs : RS G bd m H M) (rx : RV G m H x u) (ry : RV G m H y v) (h : eqB M x y = some k) :
    (scal u v = true ∧ decide (u = v) = k) ∨ ∃ d e, Dp G.K H u d ∧ Dp G.K H v e ∧ SeqAt.shaped d = true ∧ SeqAt.shaped e = true ∧ PyData.eqv d e = k := by
  have deep : eqDeep M x y = some k → ∃ d e, Dp G.K H u d ∧ Dp G.K H v e ∧ SeqAt.shaped d = true ∧ SeqAt.shaped e = true ∧ PyData.eqv d e = k := fun h => by
    unfold eqDeep at h
    split at h
    · rename_i c
      simp only [Bool.and_eq_true] at c
      exact ⟨_, _, dref_dp rs rx c.1.1.1, dref_dp rs ry c.1.1.2, c.1.2, c.2, Option.some.inj h⟩
    · cases h
  unfold eqB at h
  split at h
  · cases rx; cases ry; cases h
    refine .inl ⟨rfl, ?_⟩
    simp
  · cases rx; cases ry; cases h
    refine .inl ⟨rfl, ?_⟩
    simp
  · cases rx; cases ry; cases h
    refine .inl ⟨rfl, ?_⟩
    simp
  · exact .inr (deep h)
def rEqS (K : PySem.W.Frag) : R2 := fun x y H Q => rEq x y H Q ∨ rEqD K x y H Q
def rNeS (K : PySem.W.Frag) : R2 := fun x y H Q => rNe x y H Q ∨ rNeD K x y H Q
theorem sim_eq : Sim G (rEqS G.K) oEq := fun bd m H M x y d u v Q rs rx ry h k => by
  obtain ⟨b, hb, rfl⟩ := Option.map_eq_some_iff.mp h
  rcases eqB_sim rs rx ry hb with ⟨h1, h2⟩ | ⟨d, e, h1, h2, h3, h4, h5⟩
  · exact .inl ⟨h1, by rw [h2]; exact k m H _ (Ext.refl m H) rs (.bl _)⟩
  · exact .inr ⟨d, e, h1, h2, h3, h4, by rw [h5]; exact k m H _ (Ext.refl m H) rs (.bl _)⟩
theorem sim_ne : Sim G (rNeS G.K) oNe := fun bd m H M x y d u v Q rs rx ry h k => by
  obtain ⟨b, hb, rfl⟩ := Option.map_eq_some_iff.mp h
  rcases eqB_sim rs rx ry hb with ⟨h1, h2⟩ | ⟨d, e, h1, h2, h3, h4, h5⟩
  · exact .inl ⟨h1, by rw [h2]; exact k m H _ (Ext.refl m H) rs (.bl _)⟩
  · exact .inr ⟨d, e, h1, h2, h3, h4, by rw [h5]; exact k m H _ (Ext.refl m H) rs (.bl _)⟩
theorem op_eqS (hu : X.A.units + 64 < cLine) : OpR X (compareOp .Eq) (rEqS X.K) := op_eq.or (op_eqD hu)
theorem op_neS (hu : X.A.units + 64 < cLine) : OpR X (compareOp .NotEq) (rNeS X.K) := op_ne.or (op_neD hu)
/-! ### in -/
def scl : D → Bool
  | .non => true | .bl _ => true | .int _ => true | .str _ => true
  | _ => false
def eqS : D → D → Bool
  | .non, .non => true
  | .bl a, .bl b => a == b
  | .bl a, .int b => (if a then 1 else 0) == b
  | .int a, .bl b => a == (if b then 1 else 0)
  | .int a, .int b => a == b
  | .str a, .str b => a == b
  | _, _ => false
def kOf : D → Option Key
  | .int i => some (.inl i)
  | .str x => some (.inr x)
  | _ => none
def kOfs : List D → Option (List Key)
  | [] => some []
  | d :: r => match kOf d, kOfs r with
    | some k, some ks => some (k :: ks)
    | _, _ => none
def getK {κ : Type} [DecidableEq κ] (kvs : List (κ × D)) (k : κ) : Option D := (kvs.find? fun p => decide (p.1 = k)).map (·.2)
/-- what the dict n holds at a key -/
def dGet (M : Mem) (n : Nat) (y : D) : Option (Option D) := match M[n]? with
  | some (.dK kvs) => (kOf y).map fun k => getK kvs k
  | some (.dT kvs) => (match y with
    | .tup ds => (kOfs ds).map fun k => getK kvs k
    | _ => none)
  | _ => none
def inB (M : Mem) (x y : D) : Option Bool := match seqOf M y with
  | some ds => if (scl x && ds.all scl) = true then some (ds.any fun z => eqS z x) else none
  | none => match y with
    | .ref n => (dGet M n x).map (·.isSome)
    | _ => none
def oIn : O2 := fun M x y => (inB M x y).map D.bl
def oNotIn : O2 := fun M x y => (inB M x y).map fun b => D.bl (!b)
theorem scl_flat {d : D} {v : V} (r : RV G m H d v) (h : scl d = true) : flatV v = true := by cases r <;> first | rfl | cases h
theorem scl_all : ∀ {ds : List D} {us : List V}, RVs G m H ds us → ds.all scl = true → us.all flatV = true
  | _, _, .nil, _ => rfl
  | _, _, .cons a b, h => by
    simp only [List.all_cons, Bool.and_eq_true] at h ⊢
    exact ⟨scl_flat a h.1, scl_all b h.2⟩
theorem eqS_V {x y : D} {u v : V} (rx : RV G m H x u) (ry : RV G m H y v) (hx : scl x = true) (hy : scl y = true) : eqV u v = eqS x y := by
  cases rx <;> cases ry <;> first | rfl | cases hx | cases hy
theorem inV_S {x : D} {u : V} (rx : RV G m H x u) (hx : scl x = true) : ∀ {ds : List D} {us : List V}, RVs G m H ds us → ds.all scl = true → inV u us = ds.any fun z => eqS z x
  | _, _, .nil, _ => rfl
  | _, _, .cons a b, h => by
    simp only [List.all_cons, Bool.and_eq_true] at h
    have ih := inV_S rx hx b h.2
    unfold inV at ih ⊢
    simp only [List.any_cons, ih, eqS_V a rx h.1 hx]
theorem kOf_V {x : D} {u : V} {k : Key} (rx : RV G m H x u) (h : kOf x = some k) : u = kV k := by
  cases rx <;> cases h <;> rfl
theorem kOfs_V : ∀ {ds : List D} {us : List V} {ks : List Key}, RVs G m H ds us → kOfs ds = some ks → us = ks.map kV
  | _, _, _, .nil, h => by cases h; rfl
  | _, _, ks, .cons (d := d) (ds := r) a b, h => by
    simp only [kOfs] at h
    split at h
    · rename_i k ks' h1 h2
      cases h
      rw [kOf_V a h1, kOfs_V b h2]; rfl
    · cases h
theorem getK_V {κ : Type} [DecidableEq κ] {k : κ} : ∀ {kvs : List (κ × D)} {kus : List (κ × V)}, KVs G m H kvs kus → (∀ d, getK kvs k = some d → ∃ v, valV kus k = some v ∧ RV G m H d v) ∧ (getK kvs k = none → valV kus k = none)
  | _, _, .nil => ⟨fun _ h => by simp [getK] at h, fun _ => rfl⟩
  | _, _, .cons (a := p) (b := q) a b => by
    obtain ⟨i1, i2⟩ := getK_V (k := k) b
    by_cases hk : p.1 = k
    · have hk' : q.1 = k := by rw [← a.1]; exact hk
      refine ⟨fun d h => ?_, fun h => ?_⟩
      · simp [getK, hk] at h
        rw [valV_pos hk']
        exact ⟨_, rfl, h ▸ a.2⟩
      · simp [getK, hk] at h
    · have hk' : ¬ q.1 = k := by rw [← a.1]; exact hk
      refine ⟨fun d h => ?_, fun h => ?_⟩
      · rw [valV_neg hk']
        refine i1 d ?_
        simpa [getK, List.find?_cons, hk] using h
      · rw [valV_neg hk']
        refine i2 ?_
        simpa [getK, List.find?_cons, hk] using h
/-- a dict's look -/
theorem dGet_V {n : Nat} {y : D} {v u : V} {o : Option D} (rs : RS G bd m H M) (rn : RV G m H (.ref n) u) (ry : RV G m H y v) (h : dGet M n y = some o) :
    ∃ a ov, u = .ref a ∧ DGet H a v ov ∧ (∀ d, o = some d → ∃ w, ov = some w ∧ RV G m H d w) ∧ (o = none → ov = none) ∧ IsD H a := by
  cases rn with
  | ref z =>
    unfold dGet at h
    split at h
    · rename_i kvs hM
      obtain ⟨k, hk, rfl⟩ := Option.map_eq_some_iff.mp h
      obtain ⟨kus, hq, rk⟩ := rs.ref hM z
      obtain ⟨i1, i2⟩ := getK_V (k := k) rk
      refine ⟨_, valV kus k, rfl, by rw [kOf_V ry hk]; exact DGet.k hq, fun d e => i1 d e, fun e => i2 e, .inl ⟨_, .inl hq⟩⟩
    · rename_i kvs hM
      obtain ⟨kus, hq, rk⟩ := rs.ref hM z
      cases ry with
      | tup hs hv =>
        obtain ⟨k, hk, rfl⟩ := Option.map_eq_some_iff.mp h
        obtain ⟨i1, i2⟩ := getK_V (k := k) rk
        have e1 := kOfs_V hv hk
        subst e1
        exact ⟨_, valV kus k, rfl, DGet.t hq hs, fun d e => i1 d e, fun e => i2 e, .inr ⟨_, .inl hq⟩⟩
      | _ => cases h
    · cases h
end
end Sh
set_option Elab.async false
set_option linter.all false
set_option maxRecDepth 100000
set_option maxHeartbeats 4000000
/-! Sh: in, truth, and, or, not, if-else, subscripts, slices. -/
namespace Sh
open PySem PySem.Spec PyProof.Rows L2
section
variable {G : Gam} {X : Cx} {W : WX} {bd : Nat} {f g h : EF} {fb gb : BF} {a b c : Expr} {pos : Pos} {σ : L2.St} {H H0 : Hp} {m m0 : List Addr} {M : Mem} {e : Env}
/-! ### in -/
def rDIn : R2 := fun y x H Q => ∃ a o, x = .ref a ∧ DGet H a y o ∧ Q (.bl o.isSome) H
def rDNotIn : R2 := fun y x H Q => ∃ a o, x = .ref a ∧ DGet H a y o ∧ Q (.bl (!o.isSome)) H
theorem op_din (hu : X.A.units + 1 < cLine) : OpR X (compareOp .In) rDIn := by
  intro pins s σ H y x v u Q I ry rx h
  obtain ⟨a, o, rfl, g, q⟩ := h
  obtain rfl : u = Value.ref a := rx
  exact d_in hu I g ry fun s3 I3 => ⟨.bl o.isSome, H, I3, rfl, q⟩
theorem op_dnotin (hu : X.A.units + 1 < cLine) : OpR X (compareOp .NotIn) rDNotIn := by
  intro pins s σ H y x v u Q I ry rx h
  obtain ⟨a, o, rfl, g, q⟩ := h
  obtain rfl : u = Value.ref a := rx
  exact d_notIn hu I g ry fun s3 I3 => ⟨.bl (!o.isSome), H, I3, rfl, q⟩
def rInS (K : PySem.W.Frag) : R2 := fun x y H Q => rIn K false x y H Q ∨ rDIn x y H Q
def rNotInS (K : PySem.W.Frag) : R2 := fun x y H Q => rIn K true x y H Q ∨ rDNotIn x y H Q
theorem op_inS (hu : X.A.units + 64 < cLine) : OpR X (compareOp .In) (rInS X.K) := op_in_seq.or (op_din (by omega))
theorem op_notInS (hu : X.A.units + 64 < cLine) : OpR X (compareOp .NotIn) (rNotInS X.K) := op_notIn_seq.or (op_dnotin (by omega))
theorem inB_sim {x y : D} {u v : V} {k : Bool} (rs : RS G bd m H M) (rx : RV G m H x u) (ry : RV G m H y v) (h : inB M x y = some k) :
    (∃ p xs, v = .ref p ∧ (SqL G.K H p xs ∨ SqT G.K H p xs) ∧ flatV u = true ∧ xs.all flatV = true ∧ inV u xs = k) ∨ ∃ a o, v = .ref a ∧ DGet H a u o ∧ o.isSome = k := by
  unfold inB at h
  split at h
  · rename_i ds hs
    split at h
    · rename_i c
      simp only [Bool.and_eq_true] at c
      obtain ⟨a, us, e1, e2, e3⟩ := seq_of rs ry hs
      refine .inl ⟨a, us, e1, e2, scl_flat rx c.1, scl_all e3 c.2, ?_⟩
      rw [inV_S rx c.1 e3 c.2]
      exact Option.some.inj h
    · cases h
  · split at h
    · obtain ⟨o, ho, rfl⟩ := Option.map_eq_some_iff.mp h
      obtain ⟨a, ov, e1, e2, e3, e4, _⟩ := dGet_V rs ry rx ho
      refine .inr ⟨a, ov, e1, e2, ?_⟩
      cases o with
      | none => rw [e4 rfl]; rfl
      | some d =>
        obtain ⟨w, e5, _⟩ := e3 d rfl
        rw [e5]; rfl
    · cases h
theorem sim_in : Sim G (rInS G.K) oIn := fun bd m H M x y d u v Q rs rx ry h k => by
  obtain ⟨b, hb, rfl⟩ := Option.map_eq_some_iff.mp h
  rcases inB_sim rs rx ry hb with ⟨p, xs, e1, e2, e3, e4, e5⟩ | ⟨a, o, e1, e2, e3⟩
  · exact .inl ⟨p, xs, e1, e2, e3, e4, by rw [e5]; exact k m H _ (Ext.refl m H) rs (.bl _)⟩
  · exact .inr ⟨a, o, e1, e2, by rw [e3]; exact k m H _ (Ext.refl m H) rs (.bl _)⟩
theorem sim_notIn : Sim G (rNotInS G.K) oNotIn := fun bd m H M x y d u v Q rs rx ry h k => by
  obtain ⟨b, hb, rfl⟩ := Option.map_eq_some_iff.mp h
  rcases inB_sim rs rx ry hb with ⟨p, xs, e1, e2, e3, e4, e5⟩ | ⟨a, o, e1, e2, e3⟩
  · exact .inl ⟨p, xs, e1, e2, e3, e4, by rw [e5]; exact k m H _ (Ext.refl m H) rs (.bl _)⟩
  · exact .inr ⟨a, o, e1, e2, by rw [e3]; exact k m H _ (Ext.refl m H) rs (.bl _)⟩
/-! ### truth -/
def tru (M : Mem) : D → Option Bool
  | .non => some false
  | .bl b => some b
  | .int i => some (i != 0)
  | .str x => if x.length ≤ 16777216 then some ((x.length : Int) != 0) else none
  | .tup ds => some (!ds.isEmpty)
  | .cst ds => some (!ds.isEmpty)
  | .scr ds => some (!ds.isEmpty)
  | .lst ds => some (!ds.isEmpty)
  | .ref n => match M[n]? with
    | some (.lst ds) => some (!ds.isEmpty)
    | some (.dK kvs) => some (!kvs.isEmpty)
    | _ => none
theorem RVs.empty {ds : List D} {us : List V} (r : RVs G m H ds us) : us.isEmpty = ds.isEmpty := by cases r <;> rfl
theorem tru_V {d : D} {v : V} {k : Bool} (rs : RS G bd m H M) (r : RV G m H d v) (h : tru M d = some k) : TruV G.K v H k := by
  cases r with
  | non => cases h; rfl
  | bl b => cases h; rfl
  | int i => cases h; rfl
  | str x =>
    simp only [tru] at h
    split at h
    · rename_i c
      cases h
      exact ⟨by rw [sizeLine_eq]; omega, rfl⟩
    · cases h
  | tup q s => cases h; exact .inr (.inl ⟨_, SqT.of q, by rw [s.empty]⟩)
  | cst q s => cases h; exact .inr (.inl ⟨_, q H, by rw [s.empty]⟩)
  | lst q _ _ s => cases h; exact .inl ⟨_, SqL.of q, by rw [s.empty]⟩
  | scr q s => cases h; exact .inl ⟨_, q.sq, by rw [s.empty]⟩
  | ref z =>
    simp only [tru] at h
    split at h
    · rename_i ds hM
      cases h
      obtain ⟨us, hq, s⟩ := rs.ref hM z
      exact .inl ⟨us, SqL.of hq, by rw [s.empty]⟩
    · rename_i kvs hM
      cases h
      obtain ⟨kus, hq, s⟩ := rs.ref hM z
      have s : KVs G m H kvs kus := s
      exact .inr (.inr ⟨kus, hq, by cases s <;> rfl⟩)
    · cases h
def lftB (o : Option Bool) (M : Mem) : R Bool := match o with
  | some d => .ok d M
  | none => .stuck
@[simp] theorem lftB_some (d : Bool) (M : Mem) : lftB (some d) M = .ok d M := rfl
theorem sat_lftB {o : Option Bool} {M : Mem} {k : Bool → Mem → Prop} {x : Str → Mem → Prop} (h : Sat (lftB o M) k x) : ∃ d, o = some d ∧ k d M := by
  cases o with
  | some d => exact ⟨d, rfl, h⟩
  | none => exact h.elim
/-- a test by its value's truth -/
def bT (f : EF) : BF := fun bd e M => (f bd e M).bind fun d M1 => lftB (tru M1 d) M1
/-- a value that is a bool -/
def bV (f : EF) : BF := fun bd e M => (f bd e M).bind fun d M1 => match d with
  | .bl k => .ok k M1
  | _ => .stuck
theorem st_tru (hK : X.K = G.K) (ha : SE G X W a f) (he : ∀ whole, isTrue a X.env whole = (do let v ← whole; standAt a.pos; holding [v] (truthy v))) : ST G X W a (bT f) := fun bd =>
  PT.imp (pt_truth (ha bd) he) fun σ H Q ⟨P, m, e, M, re, rs, h⟩ => (step (Ext.refl m H) re rs h).mono fun v H1 ⟨m1, d, M1, x1, x01, re1, rs1, r1, h1⟩ => by
    obtain ⟨k, hk, h2⟩ := sat_lftB h1
    exact ⟨k, by rw [hK]; exact tru_V (G := G.on P) rs1 r1 hk, h2 m1 H1 x01 rs1⟩
theorem tTest_of {r : R2} {op : O2} (hr : ∀ P, Sim (G.on P) r op) {Q : Bool → Hp → Prop} (h : tT G W bd (bV (eOp op f g)) σ H Q) : tTest (tOp r (tE G W bd f) (tE G W bd g)) σ H Q := by
  obtain ⟨P, m, e, M, re, rs, h⟩ := h
  refine tOp_of hr ((step (Ext.refl m H) re rs h).mono fun v H1 ⟨m1, d, M1, x1, x01, re1, rs1, r1, h1⟩ => ?_)
  cases r1 with
  | bl k => exact ⟨k, rfl, h1 m1 H1 x01 rs1⟩
  | _ => exact h1.elim
theorem st_cmp {op : CmpOp} {r : R2} {o2 : O2} (ho : OpR X (compareOp op) r) (hr : ∀ P, Sim (G.on P) r o2) (ha : SE G X W a f) (hb : SE G X W b g) (hm : behindInMarks op b = false) : ST G X W (.Compare a [op] [b] pos) (bV (eOp o2 f g)) := fun bd =>
  PT.imp (pt_cmpR ho (ha bd) (hb bd) hm) fun σ H Q h => tTest_of hr h
/-- a < b < c -/
def eChain (o1 o2 : O2) (f g h : EF) : EF := fun bd e M => (f bd e M).bind fun x M1 => (g bd e M1).bind fun y M2 => (lft (o1 M2 x y) M2).bind fun z M3 => match z with
  | .bl true => (h bd e M3).bind fun w M4 => lft (o2 M4 y w) M4
  | .bl false => .ok (.bl false) M3
  | _ => .stuck
theorem chain_of {r r' : R2} {o1 o2 : O2} (hr : ∀ P, Sim (G.on P) r o1) (hr' : ∀ P, Sim (G.on P) r' o2) {Q : VK} (t : tE G W bd (eChain o1 o2 f g h) σ H Q) : tChain r r' (tE G W bd f) (tE G W bd g) (tE G W bd h) σ H Q := by
  obtain ⟨P, m, e, M, re, rs, t⟩ := t
  refine (step (Ext.refl m H) re rs t).mono fun v H1 ⟨m1, d, M1, x1, x01, re1, rs1, r1, h1⟩ => ?_
  refine (step x01 re1 rs1 h1).mono fun v2 H2 ⟨m2, d2, M2, x2, x02, re2, rs2, r2, h2⟩ => ?_
  rw [Sat_bind] at h2
  obtain ⟨d3, e3, h3⟩ := sat_lft h2
  refine hr P bd m2 H2 M2 d d2 d3 v v2 _ rs2 (r1.mono x2) r2 e3 fun m' H' w x s q => ?_
  cases q with
  | bl k =>
    refine ⟨k, rfl, ?_⟩
    cases k with
    | true =>
      rw [if_pos rfl]
      have x03 := x02.andThen rs2 x
      refine (step x03 (re2.mono x) s h3).mono fun v4 H4 ⟨m4, d4, M4, x4, x04, re4, rs4, r4, h4⟩ => ?_
      obtain ⟨d5, e5, h5⟩ := sat_lft h4
      exact hr' P bd m4 H4 M4 d2 d4 d5 v2 v4 Q rs4 (r2.mono (x.andThen s x4)) r4 e5 fun m6 H6 w6 x6 s6 q6 => h5 m6 H6 w6 (x04.andThen rs4 x6) s6 q6
    | false =>
      rw [if_neg Bool.false_ne_true]
      exact h3 m' H' _ (x02.andThen rs2 x) s (.bl false)
  | _ => exact h3.elim
theorem se_chain {op op' : CmpOp} {r r' : R2} {o1 o2 : O2} (ho : OpR X (compareOp op) r) (ho' : OpR X (compareOp op') r') (hr : ∀ P, Sim (G.on P) r o1) (hr' : ∀ P, Sim (G.on P) r' o2) (ha : SE G X W a f) (hb : SE G X W b g) (hc : SE G X W c h)
    (hm : lastMarks [op, op'] [b, c] = false) : SE G X W (.Compare a [op, op'] [b, c] pos) (eChain o1 o2 f g h) := fun bd =>
  PE.imp (pe_chain ho ho' (ha bd) (hb bd) (hc bd) hm) fun σ H Q t => chain_of hr hr' t
theorem st_chain {op op' : CmpOp} {r r' : R2} {o1 o2 : O2} (ho : OpR X (compareOp op) r) (ho' : OpR X (compareOp op') r') (hr : ∀ P, Sim (G.on P) r o1) (hr' : ∀ P, Sim (G.on P) r' o2) (ha : SE G X W a f) (hb : SE G X W b g) (hc : SE G X W c h)
    (hm : lastMarks [op, op'] [b, c] = false) : ST G X W (.Compare a [op, op'] [b, c] pos) (bV (eChain o1 o2 f g h)) := fun bd =>
  PT.imp (pt_chain ho ho' (ha bd) (hb bd) (hc bd) hm) fun σ H Q ⟨P, m, e, M, re, rs, t⟩ => chain_of hr hr' ((step (Ext.refl m H) re rs t).mono fun v H1 ⟨m1, d, M1, x1, x01, re1, rs1, r1, h1⟩ => by
    cases r1 with
    | bl k => exact ⟨k, rfl, h1 m1 H1 x01 rs1⟩
    | _ => exact h1.elim)
/-! ### and, or, not -/
def bAnd (f g : BF) : BF := fun bd e M => (f bd e M).bind fun k M1 => if k = true then g bd e M1 else .ok false M1
def bOr (f g : BF) : BF := fun bd e M => (f bd e M).bind fun k M1 => if k = true then .ok true M1 else g bd e M1
def bNot (f : BF) : BF := fun bd e M => (f bd e M).bind fun k M1 => .ok (!k) M1
theorem st_not (ha : ST G X W a fb) : ST G X W (.UnaryOp .Not a pos) (bNot fb) := fun bd =>
  PT.imp (pt_not (ha bd)) fun σ H Q ⟨P, m, e, M, re, rs, h⟩ => (stepT (Ext.refl m H) re rs h).mono fun k H1 ⟨m1, M1, x1, x01, re1, rs1, h1⟩ => h1 m1 H1 x01 rs1
theorem sw_and1 (ha : ST G X W a fb) : SW G X W (.BoolOp .And [a] pos) fb := fun bd => pw_and1 (ha bd)
theorem sw_or1 (ha : ST G X W a fb) : SW G X W (.BoolOp .Or [a] pos) fb := fun bd => pw_or1 (ha bd)
theorem sw_and {rest : List Expr} (ha : ST G X W a fb) (hb : SW G X W (.BoolOp .And (b :: rest) pos) gb) : SW G X W (.BoolOp .And (a :: b :: rest) pos) (bAnd fb gb) := fun bd =>
  PW.imp (pw_and (ha bd) (hb bd)) fun σ H Q ⟨P, m, e, M, re, rs, h⟩ => (stepT (Ext.refl m H) re rs h).mono fun k H1 ⟨m1, M1, x1, x01, re1, rs1, h1⟩ => by
    cases k with
    | true =>
      simp only [if_true] at h1 ⊢
      exact lastT x01 re1 rs1 h1
    | false =>
      simp only [Bool.false_eq_true, if_false] at h1 ⊢
      exact h1 m1 H1 x01 rs1
theorem sw_or {rest : List Expr} (ha : ST G X W a fb) (hb : SW G X W (.BoolOp .Or (b :: rest) pos) gb) : SW G X W (.BoolOp .Or (a :: b :: rest) pos) (bOr fb gb) := fun bd =>
  PW.imp (pw_or (ha bd) (hb bd)) fun σ H Q ⟨P, m, e, M, re, rs, h⟩ => (stepT (Ext.refl m H) re rs h).mono fun k H1 ⟨m1, M1, x1, x01, re1, rs1, h1⟩ => by
    cases k with
    | true =>
      simp only [if_true] at h1 ⊢
      exact h1 m1 H1 x01 rs1
    | false =>
      simp only [Bool.false_eq_true, if_false] at h1 ⊢
      exact lastT x01 re1 rs1 h1
theorem st_w (h : SW G X W a fb) : ST G X W a fb := fun bd => (h bd).pt
/-- and, or, not as values -/
def eAnd (f g : EF) : EF := fun bd e M => (f bd e M).bind fun d M1 => (lftB (tru M1 d) M1).bind fun k M2 => if k = true then g bd e M2 else .ok d M2
def eOr (f g : EF) : EF := fun bd e M => (f bd e M).bind fun d M1 => (lftB (tru M1 d) M1).bind fun k M2 => if k = true then .ok d M2 else g bd e M2
def eNot (f : EF) : EF := fun bd e M => (f bd e M).bind fun d M1 => (lftB (tru M1 d) M1).bind fun k M2 => .ok (.bl (!k)) M2
theorem se_one {op} (h : SE G X W a f) : SE G X W (.BoolOp op [a] pos) f := fun bd => pe_one (h bd)
theorem se_and {rest : List Expr} (hK : X.K = G.K) (ha : SE G X W a f) (hb : SE G X W (.BoolOp .And (b :: rest) pos) g) : SE G X W (.BoolOp .And (a :: b :: rest) pos) (eAnd f g) := fun bd =>
  PE.imp (pe_andT (ha bd) (hb bd)) fun σ H Q ⟨P, m, e, M, re, rs, h⟩ => (step (Ext.refl m H) re rs h).mono fun v H1 ⟨m1, d, M1, x1, x01, re1, rs1, r1, h1⟩ => by
    rw [Sat_bind] at h1
    obtain ⟨k, hk, h2⟩ := sat_lftB h1
    refine ⟨k, by rw [hK]; exact tru_V (G := G.on P) rs1 r1 hk, ?_⟩
    cases k with
    | true => simp only [if_true] at h2 ⊢; exact last x01 re1 rs1 h2
    | false => simp only [Bool.false_eq_true, if_false] at h2 ⊢; exact h2 m1 H1 v x01 rs1 r1
theorem se_or {rest : List Expr} (hK : X.K = G.K) (ha : SE G X W a f) (hb : SE G X W (.BoolOp .Or (b :: rest) pos) g) : SE G X W (.BoolOp .Or (a :: b :: rest) pos) (eOr f g) := fun bd =>
  PE.imp (pe_orT (ha bd) (hb bd)) fun σ H Q ⟨P, m, e, M, re, rs, h⟩ => (step (Ext.refl m H) re rs h).mono fun v H1 ⟨m1, d, M1, x1, x01, re1, rs1, r1, h1⟩ => by
    rw [Sat_bind] at h1
    obtain ⟨k, hk, h2⟩ := sat_lftB h1
    refine ⟨k, by rw [hK]; exact tru_V (G := G.on P) rs1 r1 hk, ?_⟩
    cases k with
    | true => simp only [if_true] at h2 ⊢; exact h2 m1 H1 v x01 rs1 r1
    | false => simp only [Bool.false_eq_true, if_false] at h2 ⊢; exact last x01 re1 rs1 h2
theorem se_not (hK : X.K = G.K) (ha : SE G X W a f) : SE G X W (.UnaryOp .Not a pos) (eNot f) := fun bd =>
  PE.imp (pe_notT (ha bd)) fun σ H Q ⟨P, m, e, M, re, rs, h⟩ => (step (Ext.refl m H) re rs h).mono fun v H1 ⟨m1, d, M1, x1, x01, re1, rs1, r1, h1⟩ => by
    rw [Sat_bind] at h1
    obtain ⟨k, hk, h2⟩ := sat_lftB h1
    exact ⟨k, by rw [hK]; exact tru_V (G := G.on P) rs1 r1 hk, h2 m1 H1 _ x01 rs1 (.bl _)⟩
def eIf (c : BF) (f g : EF) : EF := fun bd e M => (c bd e M).bind fun k M1 => if k = true then f bd e M1 else g bd e M1
theorem se_if (hc : ST G X W c fb) (ha : SE G X W a f) (hb : SE G X W b g) : SE G X W (.IfExp c a b pos) (eIf fb f g) := fun bd =>
  PE.imp (pe_ifExp (hc bd) (ha bd) (hb bd)) fun σ H Q ⟨P, m, e, M, re, rs, h⟩ => (stepT (Ext.refl m H) re rs h).mono fun k H1 ⟨m1, M1, x1, x01, re1, rs1, h1⟩ => by
    cases k with
    | true => simp only [if_true] at h1 ⊢; exact last x01 re1 rs1 h1
    | false => simp only [Bool.false_eq_true, if_false] at h1 ⊢; exact last x01 re1 rs1 h1
/-! ### subscripts -/
/-- x[i]: an item of a tuple, a list, a text; what a dict holds -/
def oIx : O2 := fun M x i => match x with
  | .str z => (match i with
    | .int k => if z.length ≤ 16777216 then (atI z.cps.toList k).map fun c => .str ⟨#[c]⟩ else none
    | _ => none)
  | x => match seqOf M x with
    | some ds => (match i with
      | .int k => atI ds k
      | _ => none)
    | none => (match x with
      | .ref n => (dGet M n i).bind id
      | _ => none)
def rIxD : R2 := fun x y H Q => ∃ a v, x = .ref a ∧ DGet H a y (some v) ∧ Q v H
theorem ix_dict (hu : X.A.units + 1 < cLine) : IxR X rIxD := by
  intro value slice pins s σ H x y v u Q I rx ry h hs
  obtain ⟨a, z, rfl, g, q⟩ := h
  obtain rfl : v = Value.ref a := rx
  unfold subscriptTail
  refine wpAny_bind ?_
  have hT := dict_typeIs I g
  rw [getitemInPython_of_ne hT.not_modules]
  refine wpAny_bind (wpAny_specialOf hT PySem.F.slot_dict_getitem.lookup ?_)
  have fin : wpAny (model X.prog X.w) X.A (subscripted slice false (.ref a) u) (fun r s₃ => wpAny (model X.prog X.w) X.A (letTemporaryGo value (.ref a) r >>= fun _ => pure r) (EP X pins σ Q) X.xe s₃) X.xe s := by
    rw [hs]
    exact wpAny_operating (thn (d_getItem hu I g ry fun w' s3 I3 rw' => (⟨z, H, I3, rw', q⟩ : EP X pins σ Q w' s3)) fun r s₃ h₃ => wpAny_bind (wpAny_letTemporaryGo (wpAny_pure h₃)))
  first
    | exact wpAny_pure (wpAny_bind fin)
    | exact wpAny_bind (wpAny_pure (wpAny_bind fin))
    | exact wpAny_bind fin
def rIxA (K : PySem.W.Frag) : R2 := fun x y H Q => rIx K x y H Q ∨ rIxD x y H Q
theorem ix_any (hu : X.A.units + 64 < cLine) : IxR X (rIxA X.K) := ix_seq.or (ix_dict (by omega))
theorem atI_get2 {ds : List D} {us : List V} {k : Int} {d : D} (r : RVs G m H ds us) (h : atI ds k = some d) : ∃ v, atI us k = some v ∧ RV G m H d v := by
  unfold atI at h ⊢
  rw [← r.length]
  cases e : ixN ds.length k with
  | none => rw [e] at h; cases h
  | some j =>
    rw [e] at h
    obtain ⟨v, h1, h2⟩ := r.get (i := j) (d := d) h
    exact ⟨v, h1, h2⟩
theorem sim_ix : Sim G (rIxA G.K) oIx := fun bd m H M x y d u v Q rs rx ry h k => by
  unfold oIx at h
  split at h
  · rename_i z
    cases rx
    split at h
    · rename_i kk
      cases ry
      split at h
      · rename_i hz
        obtain ⟨c, hc, rfl⟩ := Option.map_eq_some_iff.mp h
        exact .inl (.inr (.inr ⟨z, kk, c, rfl, rfl, by rw [sizeLine_eq]; omega, hc, k m H _ (Ext.refl m H) rs (.str _)⟩))
      · cases h
    · cases h
  · split at h
    · rename_i ds hs
      obtain ⟨a, us, e1, e2, e3⟩ := seq_of rs rx hs
      split at h
      · rename_i kk
        cases ry
        obtain ⟨w, e4, e5⟩ := atI_get2 e3 h
        rcases e2 with e2 | e2
        · exact .inl (.inl ⟨a, us, kk, w, e1, rfl, e2, e4, k m H w (Ext.refl m H) rs e5⟩)
        · exact .inl (.inr (.inl ⟨a, us, kk, w, e1, rfl, e2, e4, k m H w (Ext.refl m H) rs e5⟩))
      · cases h
    · split at h
      · obtain ⟨o, ho, ho2⟩ := Option.bind_eq_some_iff.mp h
        obtain ⟨a, ov, e1, e2, e3, e4, _⟩ := dGet_V rs rx ry ho
        have ho2 : o = some d := ho2
        obtain ⟨w, e5, e6⟩ := e3 d ho2
        subst e5
        exact .inr ⟨a, w, e1, e2, k m H w (Ext.refl m H) rs e6⟩
      · cases h
theorem se_ix (hu : X.A.units + 64 < cLine) (hK : X.K = G.K) (ha : SE G X W a f) (hb : SE G X W b g) (hs : PlainIx b) : SE G X W (.Subscript a b pos) (eOp oIx f g) := fun bd =>
  PE.imp (pe_ix (ix_any hu) (ha bd) (hb bd) hs) fun σ H Q h => tOp_of (fun P => by rw [hK]; exact sim_ix) h
end
end Sh
set_option Elab.async false
set_option linter.all false
set_option maxRecDepth 100000
set_option maxHeartbeats 4000000
/-! Sh: built-in functions, slices, lists' methods. -/
namespace Sh
open PySem PySem.Spec PyProof.Rows L2
section
variable {G : Gam} {X : Cx} {W : WX} {bd : Nat} {f g h : EF} {fb gb : BF} {fa : AF} {a b c : Expr} {pos : Pos} {σ : L2.St} {H H0 : Hp} {m m0 : List Addr} {M : Mem} {e : Env}
/-! ### calls of built-ins whose answer is a value; a new list -/
abbrev C1 := Mem → List D → Option D
abbrev CL := Mem → List D → Option (List D)
abbrev RC := List V → Hp → VK → Prop
def eCB (op : C1) (t : AF) : EF := fun bd e M => (t bd e M).bind fun ds M1 => lft (op M1 ds) M1
def CSim (G : Gam) (r : RC) (op : C1) : Prop := ∀ (bd : Nat) (m : List Addr) (H : Hp) (M : Mem) (ds : List D) (us : List V) (d : D) (Q : VK), RS G bd m H M → RVs G m H ds us → op M ds = some d →
  (∀ m' H' w, Ext G m m' H H' → RS G bd m' H' M → RV G m' H' d w → Q w H') → r us H Q
theorem tCB_of {r : RC} {op : C1} (hr : ∀ P, CSim (G.on P) r op) {Q : VK} (h : tE G W bd (eCB op fa) σ H Q) : tCB r (tA G W bd fa) σ H Q := by
  obtain ⟨P, m, e, M, re, rs, h⟩ := h
  refine (stepA (Ext.refl m H) re rs h).mono fun vs H1 ⟨m1, ds, M1, x1, x01, re1, rs1, r1, h1⟩ => ?_
  obtain ⟨d, e1, h2⟩ := sat_lft h1
  exact hr P bd m1 H1 M1 ds vs d Q rs1 r1 e1 fun m' H' w x s r => h2 m' H' w (x01.andThen rs1 x) s r
/-- a new list: one that stays as it is; one of the memory -/
def lftL (o : Option (List D)) (M : Mem) : R D := match o with
  | some ds => .ok (.lst ds) M
  | none => .stuck
def lftM (o : Option (List D)) (M : Mem) : R D := match o with
  | some ds => mNew (.lst ds) M
  | none => .stuck
@[simp] theorem lftL_some (ds : List D) (M : Mem) : lftL (some ds) M = .ok (.lst ds) M := rfl
@[simp] theorem lftM_some (ds : List D) (M : Mem) : lftM (some ds) M = mNew (.lst ds) M := rfl
def eCL (op : CL) (t : AF) : EF := fun bd e M => (t bd e M).bind fun ds M1 => lftL (op M1 ds) M1
def eCM (op : CL) (t : AF) : EF := fun bd e M => (t bd e M).bind fun ds M1 => lftM (op M1 ds) M1
def LSim (G : Gam) (r : RC) (op : CL) : Prop := ∀ (bd : Nat) (m : List Addr) (H : Hp) (M : Mem) (ds es : List D) (us : List V) (Q : VK), RS G bd m H M → RVs G m H ds us → op M ds = some es →
  (∀ p ws, H p = none → RVs G m H es ws → Q (.ref p) (upd H p (.lst ws))) → r us H Q
theorem sat_lftL {o : Option (List D)} {M : Mem} {k : D → Mem → Prop} {x : Str → Mem → Prop} (h : Sat (lftL o M) k x) : ∃ ds, o = some ds ∧ k (.lst ds) M := by
  cases o with
  | some d => exact ⟨d, rfl, h⟩
  | none => exact h.elim
theorem sat_lftM {o : Option (List D)} {M : Mem} {k : D → Mem → Prop} {x : Str → Mem → Prop} (h : Sat (lftM o M) k x) : ∃ ds, o = some ds ∧ k (.ref M.length) (M ++ [.lst ds]) := by
  cases o with
  | some d => exact ⟨d, rfl, h⟩
  | none => exact h.elim
theorem tCL_of {r : RC} {op : CL} (hr : ∀ P, LSim (G.on P) r op) {Q : VK} (h : tE G W bd (eCL op fa) σ H Q) : tCB r (tA G W bd fa) σ H Q := by
  obtain ⟨P, m, e, M, re, rs, h⟩ := h
  refine (stepA (Ext.refl m H) re rs h).mono fun vs H1 ⟨m1, ds, M1, x1, x01, re1, rs1, r1, h1⟩ => ?_
  obtain ⟨es, e1, h2⟩ := sat_lftL h1
  exact hr P bd m1 H1 M1 ds es vs Q rs1 r1 e1 fun p ws hp rw' => h2 m1 _ _ (x01.andThen rs1 (Ext.fresh hp)) (rs1.fresh hp) (rv_lst rs1 hp rw')
theorem tCM_of {r : RC} {op : CL} (hr : ∀ P, LSim (G.on P) r op) {Q : VK} (h : tE G W bd (eCM op fa) σ H Q) : tCB r (tA G W bd fa) σ H Q := by
  obtain ⟨P, m, e, M, re, rs, h⟩ := h
  refine (stepA (Ext.refl m H) re rs h).mono fun vs H1 ⟨m1, ds, M1, x1, x01, re1, rs1, r1, h1⟩ => ?_
  obtain ⟨es, e1, h2⟩ := sat_lftM h1
  exact hr P bd m1 H1 M1 ds es vs Q rs1 r1 e1 fun p ws hp rw' => h2 _ _ _ (x01.andThen rs1 (Ext.new hp)) (rs1.new hp (ro_lst hp rw')) (rv_new rs1)
section
variable {x : Str} {p : Pos} {id T : String} {es : List Expr}
theorem se_cb {r : RC} {op : C1} (hc : CallR X (.builtin id) r) (hr : ∀ P, CSim (G.on P) r op) (hg : Gl X x) (hm : X.mg x = none) (hv : bootBuiltins x = some (.builtin id)) (ha : SA G X W (a :: es) fa) (hn : x ≠ "__name__" := by decide) (hdb : (x == ("__debug__" : Str)) = false := by decide)
    (he : starEach (a :: es) X.env = (false, eval a X.env) :: starEach es X.env := by rfl) (hpl : (backTo pos (starEach es X.env)).any (·.1) = false := by rfl) : SE G X W (.Call (.Name x p) (a :: es) [] pos) (eCB op fa) := fun bd =>
  PE.imp (pe_callB hc hg hm hv (ha bd) hn hdb he hpl) fun σ H Q h => tCB_of hr h
theorem se_cbL {r : RC} {op : CL} (hc : CallR X (.builtin id) r) (hr : ∀ P, LSim (G.on P) r op) (hg : Gl X x) (hm : X.mg x = none) (hv : bootBuiltins x = some (.builtin id)) (ha : SA G X W (a :: es) fa) (hn : x ≠ "__name__" := by decide) (hdb : (x == ("__debug__" : Str)) = false := by decide)
    (he : starEach (a :: es) X.env = (false, eval a X.env) :: starEach es X.env := by rfl) (hpl : (backTo pos (starEach es X.env)).any (·.1) = false := by rfl) : SE G X W (.Call (.Name x p) (a :: es) [] pos) (eCL op fa) := fun bd =>
  PE.imp (pe_callB hc hg hm hv (ha bd) hn hdb he hpl) fun σ H Q h => tCL_of hr h
theorem se_cbM {r : RC} {op : CL} (hc : CallR X (.builtin id) r) (hr : ∀ P, LSim (G.on P) r op) (hg : Gl X x) (hm : X.mg x = none) (hv : bootBuiltins x = some (.builtin id)) (ha : SA G X W (a :: es) fa) (hn : x ≠ "__name__" := by decide) (hdb : (x == ("__debug__" : Str)) = false := by decide)
    (he : starEach (a :: es) X.env = (false, eval a X.env) :: starEach es X.env := by rfl) (hpl : (backTo pos (starEach es X.env)).any (·.1) = false := by rfl) : SE G X W (.Call (.Name x p) (a :: es) [] pos) (eCM op fa) := fun bd =>
  PE.imp (pe_callB hc hg hm hv (ha bd) hn hdb he hpl) fun σ H Q h => tCM_of hr h
theorem se_ct {r : RC} {op : C1} (hc : CallR X (.type T) r) (hr : ∀ P, CSim (G.on P) r op) (hg : Gl X x) (hm : X.mg x = none) (hv : bootBuiltins x = some (.type T)) (ha : SA G X W (a :: es) fa) (hn : x ≠ "__name__" := by decide) (hdb : (x == ("__debug__" : Str)) = false := by decide)
    (he : starEach (a :: es) X.env = (false, eval a X.env) :: starEach es X.env := by rfl) (hpl : (backTo pos (starEach es X.env)).any (·.1) = false := by rfl) : SE G X W (.Call (.Name x p) (a :: es) [] pos) (eCB op fa) := fun bd =>
  PE.imp (pe_callTy hc hg hm hv (ha bd) hn hdb he hpl) fun σ H Q h => tCB_of hr h
theorem se_ctL {r : RC} {op : CL} (hc : CallR X (.type T) r) (hr : ∀ P, LSim (G.on P) r op) (hg : Gl X x) (hm : X.mg x = none) (hv : bootBuiltins x = some (.type T)) (ha : SA G X W (a :: es) fa) (hn : x ≠ "__name__" := by decide) (hdb : (x == ("__debug__" : Str)) = false := by decide)
    (he : starEach (a :: es) X.env = (false, eval a X.env) :: starEach es X.env := by rfl) (hpl : (backTo pos (starEach es X.env)).any (·.1) = false := by rfl) : SE G X W (.Call (.Name x p) (a :: es) [] pos) (eCL op fa) := fun bd =>
  PE.imp (pe_callTy hc hg hm hv (ha bd) hn hdb he hpl) fun σ H Q h => tCL_of hr h
theorem se_ctM {r : RC} {op : CL} (hc : CallR X (.type T) r) (hr : ∀ P, LSim (G.on P) r op) (hg : Gl X x) (hm : X.mg x = none) (hv : bootBuiltins x = some (.type T)) (ha : SA G X W (a :: es) fa) (hn : x ≠ "__name__" := by decide) (hdb : (x == ("__debug__" : Str)) = false := by decide)
    (he : starEach (a :: es) X.env = (false, eval a X.env) :: starEach es X.env := by rfl) (hpl : (backTo pos (starEach es X.env)).any (·.1) = false := by rfl) : SE G X W (.Call (.Name x p) (a :: es) [] pos) (eCM op fa) := fun bd =>
  PE.imp (pe_callTy hc hg hm hv (ha bd) hn hdb he hpl) fun σ H Q h => tCM_of hr h
end
theorem RVs.one {d : D} {us : List V} (r : RVs G m H [d] us) : ∃ u, us = [u] ∧ RV G m H d u := by
  cases r with
  | cons a b => cases b; exact ⟨_, rfl, a⟩
theorem RVs.two {d e : D} {us : List V} (r : RVs G m H [d, e] us) : ∃ u w, us = [u, w] ∧ RV G m H d u ∧ RV G m H e w := by
  cases r with
  | cons a b => cases b with
    | cons c d => cases d; exact ⟨_, _, rfl, a, c⟩
/-! len -/
def cLen : C1 := fun M ds => match ds with
  | [.str x] => if x.length ≤ 16777216 then some (.int x.length) else none
  | [d] => (match seqOf M d with
    | some es => some (.int es.length)
    | none => (match d with
      | .ref n => (match M[n]? with
        | some (.dK kvs) => some (.int kvs.length)
        | some (.dT kvs) => some (.int kvs.length)
        | _ => none)
      | _ => none))
  | _ => none
def rLenQ (K : PySem.W.Frag) : RC := fun xs H Q => (∃ p ys, xs = [.ref p] ∧ (SqL K H p ys ∨ SqT K H p ys) ∧ Q (.int ys.length) H) ∨ ∃ z, xs = [.str z] ∧ z.length ≤ sizeLine ∧ Q (.int z.length) H
def rLenD : RC := fun xs H Q => ∃ a kvs, xs = [V.ref a] ∧ H a = some (.dK kvs) ∧ Q (.int kvs.length) H
def rLenS (K : PySem.W.Frag) : RC := fun xs H Q => rLenQ K xs H Q ∨ (rLenD xs H Q ∨ rLenT xs H Q)
theorem call_lenS : CallR X (.builtin "len") (rLenS X.K) := CallR.or (CallR.or call_len_seq call_len_str) (CallR.or call_lenD call_len_dT)
theorem csim_len : CSim G (rLenS G.K) cLen := fun bd m H M ds us d Q rs rv e k => by
  unfold cLen at e
  split at e
  · obtain ⟨u, rfl, r⟩ := rv.one
    cases r
    split at e
    · rename_i hz
      cases e
      exact .inl (.inr ⟨_, rfl, by rw [sizeLine_eq]; omega, k m H _ (Ext.refl m H) rs (.int _)⟩)
    · cases e
  · obtain ⟨u, rfl, r⟩ := rv.one
    split at e
    · rename_i es he
      cases e
      obtain ⟨a, ws, rfl, q, r2⟩ := seq_of rs r he
      exact .inl (.inl ⟨a, ws, rfl, q, by rw [← r2.length]; exact k m H _ (Ext.refl m H) rs (.int _)⟩)
    · split at e
      · rename_i n
        cases r with
        | ref em =>
          split at e
          · rename_i kvs he
            cases e
            obtain ⟨b, hb, kus, q, z⟩ := rs.at_ _ _ he
            rw [em] at hb; cases hb
            exact .inr (.inl ⟨_, kus, rfl, q, by rw [← Paired.length z]; exact k m H _ (Ext.refl m H) rs (.int _)⟩)
          · rename_i kvs he
            cases e
            obtain ⟨b, hb, kus, q, z⟩ := rs.at_ _ _ he
            rw [em] at hb; cases hb
            exact .inr (.inr ⟨_, kus, rfl, q, by rw [← Paired.length z]; exact k m H _ (Ext.refl m H) rs (.int _)⟩)
          · cases e
      · cases e
  · cases e
/-! ints in a list; bools -/
def intsOf : List D → Option (List Int)
  | [] => some []
  | .int i :: r => (intsOf r).map (i :: ·)
  | _ => none
def blsOf : List D → Option (List Bool)
  | [] => some []
  | .bl i :: r => (blsOf r).map (i :: ·)
  | _ => none
theorem intsOf_V : ∀ {ds : List D} {us : List V} {ns : List Int}, RVs G m H ds us → intsOf ds = some ns → us = ns.map V.int
  | _, _, _, .nil, e => by cases e; rfl
  | _, _, _, .cons (d := d) a b, e => by
    cases a <;> simp only [intsOf, reduceCtorEq] at e
    obtain ⟨r, hr, rfl⟩ := Option.map_eq_some_iff.mp e
    rw [intsOf_V b hr]; rfl
theorem blsOf_V : ∀ {ds : List D} {us : List V} {ns : List Bool}, RVs G m H ds us → blsOf ds = some ns → us = ns.map V.bl
  | _, _, _, .nil, e => by cases e; rfl
  | _, _, _, .cons (d := d) a b, e => by
    cases a <;> simp only [blsOf, reduceCtorEq] at e
    obtain ⟨r, hr, rfl⟩ := Option.map_eq_some_iff.mp e
    rw [blsOf_V b hr]; rfl
theorem intsOf_map (ns : List Int) : intsOf (ns.map D.int) = some ns := by
  induction ns with
  | nil => rfl
  | cons n r ih => simp [intsOf, ih]
theorem blsOf_map (ns : List Bool) : blsOf (ns.map D.bl) = some ns := by
  induction ns with
  | nil => rfl
  | cons n r ih => simp [blsOf, ih]
/-! sum -/
def cSum : C1 := fun M ds => match ds with
  | [d] => ((seqOf M d).bind intsOf).map fun ns => .int ns.sum
  | _ => none
def rSumT (K : PySem.W.Frag) : RC := fun vs H Q => ∃ (a : Addr) (ns : List Int), vs = [V.ref a] ∧ SqT K H a (ns.map V.int) ∧ Q (.int ns.sum) H
theorem cr_sumT (hc : X.calm = true) : CallR X (.builtin "sum") (rSumT X.K) := by
  intro pins s σ H vs us Q I r h
  obtain ⟨a, ns, rfl, hs, q⟩ := h
  obtain ⟨its, rv, hl, _⟩ := I.tuple hs
  rw [Vals.ref1 r]
  obtain ⟨xs, e⟩ := rv.ints.allInts.items
  have hn : numsOf (intItems xs).toList = ns := by rw [← e]; exact rv.ints.numsOf
  rw [nums_intItems] at hn
  have hl : s.heap.IsTuple a its.toArray := hl
  rw [e] at hl
  refine PySem.W.ktm_sumG (I.ok.hd hc) hl fun h' tk t' hk => ⟨.int _, H, I.kept hk, ⟨_, rfl⟩, ?_⟩
  rw [preSum_eq, List.take_of_length_le (by simp), hn]
  exact q
def rSumS (K : PySem.W.Frag) : RC := fun xs H Q => rSum K xs H Q ∨ rSumT K xs H Q
theorem call_sumS (hc : X.calm = true) : CallR X (.builtin "sum") (rSumS X.K) := CallR.or (cr_sum hc) (cr_sumT hc)
theorem csim_sum : CSim G (rSumS G.K) cSum := fun bd m H M ds us d Q rs rv e k => by
  unfold cSum at e
  split at e
  · obtain ⟨u, rfl, r⟩ := rv.one
    obtain ⟨ns, h1, rfl⟩ := Option.map_eq_some_iff.mp e
    obtain ⟨es, he, h2⟩ := Option.bind_eq_some_iff.mp h1
    obtain ⟨a, ws, rfl, q, r2⟩ := seq_of rs r he
    rw [intsOf_V r2 h2] at q
    rcases q with q | q
    · exact .inl ⟨a, ns, rfl, q, k m H _ (Ext.refl m H) rs (.int _)⟩
    · exact .inr ⟨a, ns, rfl, q, k m H _ (Ext.refl m H) rs (.int _)⟩
  · cases e
/-! any, all -/
def cAny : C1 := fun M ds => match ds with
  | [d] => ((lstOf M d).bind blsOf).map fun bs => .bl (bs.any id)
  | _ => none
def cAll : C1 := fun M ds => match ds with
  | [d] => ((lstOf M d).bind blsOf).map fun bs => .bl (bs.all id)
  | _ => none
theorem csim_any : CSim G (rAny G.K) cAny := fun bd m H M ds us d Q rs rv e k => by
  unfold cAny at e
  split at e
  · obtain ⟨u, rfl, r⟩ := rv.one
    obtain ⟨ns, h1, rfl⟩ := Option.map_eq_some_iff.mp e
    obtain ⟨es, he, h2⟩ := Option.bind_eq_some_iff.mp h1
    obtain ⟨a, ws, rfl, q, r2⟩ := lst_of rs r he
    rw [blsOf_V r2 h2] at q
    exact ⟨a, ns, rfl, q, k m H _ (Ext.refl m H) rs (.bl _)⟩
  · cases e
theorem csim_all : CSim G (rAll G.K) cAll := fun bd m H M ds us d Q rs rv e k => by
  unfold cAll at e
  split at e
  · obtain ⟨u, rfl, r⟩ := rv.one
    obtain ⟨ns, h1, rfl⟩ := Option.map_eq_some_iff.mp e
    obtain ⟨es, he, h2⟩ := Option.bind_eq_some_iff.mp h1
    obtain ⟨a, ws, rfl, q, r2⟩ := lst_of rs r he
    rw [blsOf_V r2 h2] at q
    exact ⟨a, ns, rfl, q, k m H _ (Ext.refl m H) rs (.bl _)⟩
  · cases e
/-! abs, min, max of two, max of a list, int -/
def cAbs : C1 := fun M ds => match ds with
  | [.int i] => some (.int (if i < 0 then -i else i))
  | _ => none
def cMin2 : C1 := fun M ds => match ds with
  | [.int i, .int j] => some (.int (if j < i then j else i))
  | _ => none
def cMax2 : C1 := fun M ds => match ds with
  | [.int i, .int j] => some (.int (if j > i then j else i))
  | _ => none
def cInt : C1 := fun M ds => match ds with
  | [.int i] => some (.int i)
  | [.bl k] => some (.int (if k then 1 else 0))
  | _ => none
theorem csim_abs : CSim G (fun xs H Q => ∃ i, xs = [.int i] ∧ Q (.int (if i < 0 then -i else i)) H) cAbs := fun bd m H M ds us d Q rs rv e k => by
  unfold cAbs at e
  split at e
  · obtain ⟨u, rfl, r⟩ := rv.one
    cases r; cases e
    exact ⟨_, rfl, k m H _ (Ext.refl m H) rs (.int _)⟩
  · cases e
theorem csim_min2 : CSim G (fun xs H Q => ∃ i j, xs = [.int i, .int j] ∧ Q (.int (if j < i then j else i)) H) cMin2 := fun bd m H M ds us d Q rs rv e k => by
  unfold cMin2 at e
  split at e
  · obtain ⟨u, w, rfl, r, r2⟩ := rv.two
    cases r; cases r2; cases e
    exact ⟨_, _, rfl, k m H _ (Ext.refl m H) rs (.int _)⟩
  · cases e
theorem csim_max2 : CSim G (fun xs H Q => ∃ i j, xs = [.int i, .int j] ∧ Q (.int (if j > i then j else i)) H) cMax2 := fun bd m H M ds us d Q rs rv e k => by
  unfold cMax2 at e
  split at e
  · obtain ⟨u, w, rfl, r, r2⟩ := rv.two
    cases r; cases r2; cases e
    exact ⟨_, _, rfl, k m H _ (Ext.refl m H) rs (.int _)⟩
  · cases e
theorem csim_int : CSim G (fun xs H Q => (∃ i, xs = [.int i] ∧ Q (.int i) H) ∨ ∃ k, xs = [.bl k] ∧ Q (.int (if k then 1 else 0)) H) cInt := fun bd m H M ds us d Q rs rv e k => by
  unfold cInt at e
  split at e
  · obtain ⟨u, rfl, r⟩ := rv.one
    cases r; cases e
    exact .inl ⟨_, rfl, k m H _ (Ext.refl m H) rs (.int _)⟩
  · obtain ⟨u, rfl, r⟩ := rv.one
    cases r; cases e
    exact .inr ⟨_, rfl, k m H _ (Ext.refl m H) rs (.int _)⟩
  · cases e
def maxL : List Int → Option Int
  | [] => none
  | n :: r => some (r.foldl (fun a b => if a < b then b else a) n)
theorem maxL_spec : ∀ {ns : List Int} {k : Int}, maxL ns = some k → k ∈ ns ∧ ∀ y ∈ ns, y ≤ k := by
  have gen : ∀ (r : List Int) (n : Int), r.foldl (fun a b => if a < b then b else a) n ∈ n :: r ∧ ∀ y ∈ n :: r, y ≤ r.foldl (fun a b => if a < b then b else a) n := by
    intro r
    induction r with
    | nil => intro n; simp
    | cons x r ih =>
      intro n
      simp only [List.foldl_cons]
      by_cases hnx : n < x
      · simp only [hnx, if_true]
        obtain ⟨h1, h2⟩ := ih x
        refine ⟨List.mem_cons_of_mem _ h1, fun y hy => ?_⟩
        have h0 := h2 _ List.mem_cons_self
        rcases List.mem_cons.mp hy with rfl | hy
        · omega
        · exact h2 y hy
      · simp only [hnx, if_false]
        obtain ⟨h1, h2⟩ := ih n
        refine ⟨?_, fun y hy => ?_⟩
        · rcases List.mem_cons.mp h1 with h | h
          · rw [h]; simp
          · simp [h]
        · have h0 := h2 _ List.mem_cons_self
          rcases List.mem_cons.mp hy with rfl | hy
          · omega
          · rcases List.mem_cons.mp hy with rfl | hy
            · omega
            · exact h2 y (List.mem_cons_of_mem _ hy)
  intro ns k h
  cases ns with
  | nil => cases h
  | cons n r => cases h; exact gen r n
def cMaxL : C1 := fun M ds => match ds with
  | [d] => ((lstOf M d).bind intsOf).bind fun ns => (maxL ns).map D.int
  | _ => none
theorem csim_maxL : CSim G (rMax G.K) cMaxL := fun bd m H M ds us d Q rs rv e k => by
  unfold cMaxL at e
  split at e
  · obtain ⟨u, rfl, r⟩ := rv.one
    obtain ⟨ns, h1, h3⟩ := Option.bind_eq_some_iff.mp e
    obtain ⟨es, he, h2⟩ := Option.bind_eq_some_iff.mp h1
    obtain ⟨mx, h4, rfl⟩ := Option.map_eq_some_iff.mp h3
    obtain ⟨a, ws, rfl, q, r2⟩ := lst_of rs r he
    rw [intsOf_V r2 h2] at q
    obtain ⟨s1, s2⟩ := maxL_spec h4
    refine ⟨a, ns, rfl, q, List.length_pos_of_mem s1, fun y hy1 hy2 => ?_⟩
    have : y = mx := by
      have a1 := hy2 mx s1
      have a2 := s2 y hy1
      omega
    rw [this]
    exact k m H _ (Ext.refl m H) rs (.int _)
  · cases e
/-! tuple(x), list(x) -/
def cTup : C1 := fun M ds => match ds with
  | [.tup es] => some (.tup es)
  | [.cst es] => some (.cst es)
  | [d] => (lstOf M d).map .tup
  | _ => none
theorem csim_tup : CSim G (fun xs H Q => ∃ p ys, xs = [.ref p] ∧ ((SqL G.K H p ys ∧ ∀ l, H l = none → Q (.ref l) (upd H l (.tup ys))) ∨ (SqT G.K H p ys ∧ Q (.ref p) H))) cTup := fun bd m H M ds us d Q rs rv e k => by
  unfold cTup at e
  split at e
  · obtain ⟨u, rfl, r⟩ := rv.one
    cases e
    cases r with
    | tup q s => exact ⟨_, _, rfl, .inr ⟨SqT.of q, k m H _ (Ext.refl m H) rs (.tup q s)⟩⟩
  · obtain ⟨u, rfl, r⟩ := rv.one
    cases e
    cases r with
    | cst q s => exact ⟨_, _, rfl, .inr ⟨q H, k m H _ (Ext.refl m H) rs (.cst q s)⟩⟩
  · obtain ⟨u, rfl, r⟩ := rv.one
    obtain ⟨es, he, rfl⟩ := Option.map_eq_some_iff.mp e
    obtain ⟨a, ws, rfl, q, r2⟩ := lst_of rs r he
    exact ⟨a, ws, rfl, .inl ⟨q, fun l hl => k m _ _ (Ext.fresh hl) (rs.fresh hl) (rv_tup hl r2)⟩⟩
  · cases e
def lSeq : CL := fun M ds => match ds with
  | [d] => seqOf M d
  | _ => none
theorem lsim_list : LSim G (fun xs H Q => ∃ p ys, xs = [.ref p] ∧ (SqL G.K H p ys ∨ SqT G.K H p ys) ∧ ∀ l, H l = none → Q (.ref l) (upd H l (.lst ys))) lSeq := fun bd m H M ds es us Q rs rv e k => by
  unfold lSeq at e
  split at e
  · obtain ⟨u, rfl, r⟩ := rv.one
    obtain ⟨a, ws, rfl, q, r2⟩ := seq_of rs r e
    exact ⟨a, ws, rfl, q, fun l hl => k l ws hl r2⟩
  · cases e
/-! sorted of ints -/
def insI (x : Int) : List Int → List Int
  | [] => [x]
  | y :: r => if x ≤ y then x :: y :: r else y :: insI x r
def srtI : List Int → List Int
  | [] => []
  | x :: r => insI x (srtI r)
theorem insI_perm (x : Int) : ∀ l : List Int, (insI x l).Perm (x :: l)
  | [] => List.Perm.refl _
  | y :: r => by
    unfold insI
    split
    · exact List.Perm.refl _
    · exact ((insI_perm x r).cons y).trans (List.Perm.swap x y r)
theorem srtI_perm : ∀ l : List Int, (srtI l).Perm l
  | [] => List.Perm.refl _
  | x :: r => (insI_perm x (srtI r)).trans ((srtI_perm r).cons x)
theorem insI_sorted (x : Int) : ∀ {l : List Int}, l.Pairwise (· ≤ ·) → (insI x l).Pairwise (· ≤ ·)
  | [], _ => by simp [insI]
  | y :: r, h => by
    unfold insI
    split
    · rename_i hxy
      refine List.Pairwise.cons (fun z hz => ?_) h
      rcases List.mem_cons.mp hz with rfl | hz
      · exact hxy
      · have := (List.pairwise_cons.mp h).1 z hz
        omega
    · rename_i hxy
      refine List.Pairwise.cons (fun z hz => ?_) (insI_sorted x (List.pairwise_cons.mp h).2)
      rcases List.mem_cons.mp ((insI_perm x r).mem_iff.mp hz) with rfl | hz
      · omega
      · exact (List.pairwise_cons.mp h).1 z hz
theorem srtI_sorted : ∀ l : List Int, (srtI l).Pairwise (· ≤ ·)
  | [] => List.Pairwise.nil
  | x :: r => insI_sorted x (srtI_sorted r)
theorem sorted_uniq {l k : List Int} (p : l.Perm k) (hl : l.Pairwise (· ≤ ·)) (hk : k.Pairwise (· ≤ ·)) : l = k :=
  List.Perm.eq_of_pairwise (fun a b _ _ h1 h2 => Int.le_antisymm h1 h2) hl hk p
def lSortI : CL := fun M ds => match ds with
  | [d] => ((lstOf M d).bind intsOf).map fun ns => (srtI ns).map D.int
  | _ => none
theorem lsim_sortI : LSim G (rSortedI G.K) lSortI := fun bd m H M ds es us Q rs rv e k => by
  unfold lSortI at e
  split at e
  · obtain ⟨u, rfl, r⟩ := rv.one
    obtain ⟨ns, h1, rfl⟩ := Option.map_eq_some_iff.mp e
    obtain ⟨fs, he, h2⟩ := Option.bind_eq_some_iff.mp h1
    obtain ⟨a, ws, rfl, q, r2⟩ := lst_of rs r he
    rw [intsOf_V r2 h2] at q
    refine ⟨a, ns, rfl, q, fun ns' p hp hs hn => ?_⟩
    have : ns' = srtI ns := sorted_uniq (hp.trans (srtI_perm ns).symm) hs (srtI_sorted ns)
    rw [this]
    exact k p _ hn (RVs.of_ints _)
  · cases e
end
end Sh
set_option Elab.async false
set_option linter.all false
set_option maxRecDepth 100000
set_option maxHeartbeats 4000000
/-! Sh: sums of sequences, slices, lists' methods, isinstance, bit_length, dict's get and display. -/
namespace Sh
open PySem PySem.Spec PyProof.Rows L2
section
variable {G : Gam} {X : Cx} {W : WX} {bd : Nat} {f g h : EF} {fb gb : BF} {fa : AF} {a b c : Expr} {pos : Pos} {σ : L2.St} {H H0 : Hp} {m m0 : List Addr} {M : Mem} {e : Env}
/-- the items of a list that is not locked -/
def lstH (M : Mem) : D → Option (List D)
  | .lst ds => some ds
  | .ref n => match M[n]? with
    | some (.lst ds) => some ds
    | _ => none
  | _ => none
theorem lstH_of {d : D} {v : V} {ds : List D} (rs : RS G bd m H M) (r : RV G m H d v) (h : lstH M d = some ds) : ∃ a us, v = .ref a ∧ H a = some (.lst us) ∧ RVs G m H ds us := by
  cases r with
  | lst q _ _ s => cases h; exact ⟨_, _, rfl, q, s⟩
  | ref z =>
    simp only [lstH] at h
    split at h
    · rename_i ds' hM
      cases h
      obtain ⟨us, hq, s⟩ := rs.ref hM z
      exact ⟨_, us, rfl, hq, s⟩
    · cases h
  | _ => cases h
/-! tuple + tuple; list + list, list * int: a new list -/
def tupT : D → Option (List D)
  | .tup ds => some ds
  | .cst ds => some ds
  | _ => none
theorem tupT_of {d : D} {v : V} {ds : List D} (r : RV G m H d v) (h : tupT d = some ds) : ∃ a us, v = .ref a ∧ SqT G.K H a us ∧ RVs G m H ds us := by
  cases r with
  | tup q s => cases h; exact ⟨_, _, rfl, SqT.of q, s⟩
  | cst q s => cases h; exact ⟨_, _, rfl, q H, s⟩
  | _ => cases h
def oCat : O2 := fun M x y => match x, y with
  | .int i, .int j => some (.int (i + j))
  | .str i, .str j => if i.length + j.length ≤ 16777216 then some (.str (i ++ j)) else none
  | .tup xs, .tup ys => if xs.length + ys.length ≤ 16777216 then some (.tup (xs ++ ys)) else none
  | x, y => match lstH M x, lstH M y with
    | some xs, some ys => if xs.length + ys.length ≤ 16777216 then some (.lst (xs ++ ys)) else none
    | _, _ => none
def rCatS (K : PySem.W.Frag) : R2 := fun x y H Q => ((∃ i j, x = .int i ∧ y = .int j ∧ Q (.int (i + j)) H) ∨ (∃ i j, x = .str i ∧ y = .str j ∧ i.length + j.length ≤ sizeLine ∧ Q (.str (i ++ j)) H)) ∨ (rCatA K x y H Q ∨ rCat x y H Q)
theorem op_catS : OpR X (binaryOp .Add) (rCatS X.K) := (op_add.or op_add_str).or (op_catA.or op_cat)
theorem line_le {n : Nat} (h : n ≤ 16777216) : n ≤ sizeLine := by rw [sizeLine_eq]; omega
theorem line_lt {n : Nat} (h : n < 16777216) : n < sizeLine := by rw [sizeLine_eq]; omega
theorem sim_cat : Sim G (rCatS G.K) oCat := fun bd m H M x y d u v Q rs rx ry h k => by
  unfold oCat at h
  split at h
  · cases rx; cases ry; cases h
    exact .inl (.inl ⟨_, _, rfl, rfl, k m H _ (Ext.refl m H) rs (.int _)⟩)
  · split at h
    · rename_i hz
      cases rx; cases ry; cases h
      exact .inl (.inr ⟨_, _, rfl, rfl, line_le hz, k m H _ (Ext.refl m H) rs (.str _)⟩)
    · cases h
  · split at h
    · rename_i xs ys hz
      cases h
      cases rx with
      | tup q1 s1 => cases ry with
        | tup q2 s2 =>
          rename_i us1 a1 us2 a2
          refine .inr (.inl ⟨a1, a2, us1, us2, rfl, rfl, SqT.of q1, SqT.of q2, by rw [← s1.length, ← s2.length]; exact line_le hz, fun e => ?_, fun e1 e2 => ?_, fun e1 e2 p hp => ?_⟩)
          · subst e
            cases s1
            exact k m H _ (Ext.refl m H) rs (.tup q2 s2)
          · subst e2
            cases s2
            rw [List.append_nil] at k
            exact k m H _ (Ext.refl m H) rs (.tup q1 s1)
          · exact k m _ _ (Ext.fresh hp) (rs.fresh hp) (rv_tup hp (s1.append s2))
    · cases h
  · split at h
    · rename_i xs ys h1 h2
      split at h
      · rename_i hz
        cases h
        obtain ⟨a1, us1, rfl, q1, s1⟩ := lstH_of rs rx h1
        obtain ⟨a2, us2, rfl, q2, s2⟩ := lstH_of rs ry h2
        exact .inr (.inr ⟨a1, a2, us1, us2, rfl, rfl, q1, q2, by rw [← s1.length, ← s2.length]; exact line_le hz, fun p hp => k m _ _ (Ext.fresh hp) (rs.fresh hp) (rv_lst rs hp (s1.append s2))⟩)
      · cases h
    · cases h
/-- [..] * n: a list that stays as it is; one of the memory -/
def repD (M : Mem) (x y : D) : Option (List D) := match y with
  | .int k => match lstH M x with
    | some ds => if k < 2 ^ 62 ∧ -(2 ^ 62) ≤ k ∧ ds.length * k.toNat ≤ 16777216 then some (List.replicate k.toNat ds).flatten else none
    | none => none
  | _ => none
def eRep (f g : EF) : EF := fun bd e M => (f bd e M).bind fun x M1 => (g bd e M1).bind fun y M2 => lftL (repD M2 x y) M2
def eRepM (f g : EF) : EF := fun bd e M => (f bd e M).bind fun x M1 => (g bd e M1).bind fun y M2 => lftM (repD M2 x y) M2
theorem RVs.rep {ds : List D} {us : List V} (r : RVs G m H ds us) : ∀ k : Nat, RVs G m H (List.replicate k ds).flatten (List.replicate k us).flatten
  | 0 => .nil
  | k + 1 => by simp only [List.replicate_succ, List.flatten_cons]; exact r.append (RVs.rep r k)
theorem rep_V {x y : D} {u v : V} {es : List D} {Q : VK} (rs : RS G bd m H M) (rx : RV G m H x u) (ry : RV G m H y v) (h : repD M x y = some es) (k : ∀ p ws, H p = none → RVs G m H es ws → Q (.ref p) (upd H p (.lst ws))) : rRep u v H Q := by
  unfold repD at h
  split at h
  · rename_i kk
    cases ry
    split at h
    · rename_i ds h1
      split at h
      · rename_i hc
        cases h
        obtain ⟨a1, us1, rfl, q1, s1⟩ := lstH_of rs rx h1
        obtain ⟨c1, c2, c3⟩ := hc
        exact ⟨a1, kk, us1, rfl, rfl, q1, by omega, by omega, by rw [← s1.length]; exact line_le c3, fun p hp => k p _ hp (s1.rep _)⟩
      · cases h
    · cases h
  · cases h
theorem se_rep (ha : SE G X W a f) (hb : SE G X W b g) : SE G X W (.BinOp a .Mult b pos) (eRep f g) := fun bd =>
  PE.imp (pe_op op_rep (ha bd) (hb bd)) fun σ H Q ⟨P, m, e, M, re, rs, h⟩ => (step (Ext.refl m H) re rs h).mono fun v H1 ⟨m1, d, M1, x1, x01, re1, rs1, r1, h1⟩ => (step x01 re1 rs1 h1).mono fun v2 H2 ⟨m2, d2, M2, x2, x02, re2, rs2, r2, h2⟩ => by
    obtain ⟨es, e1, h3⟩ := sat_lftL h2
    exact rep_V rs2 (r1.mono x2) r2 e1 fun p ws hp rw' => h3 m2 _ _ (x02.andThen rs2 (Ext.fresh hp)) (rs2.fresh hp) (rv_lst rs2 hp rw')
theorem se_repM (ha : SE G X W a f) (hb : SE G X W b g) : SE G X W (.BinOp a .Mult b pos) (eRepM f g) := fun bd =>
  PE.imp (pe_op op_rep (ha bd) (hb bd)) fun σ H Q ⟨P, m, e, M, re, rs, h⟩ => (step (Ext.refl m H) re rs h).mono fun v H1 ⟨m1, d, M1, x1, x01, re1, rs1, r1, h1⟩ => (step x01 re1 rs1 h1).mono fun v2 H2 ⟨m2, d2, M2, x2, x02, re2, rs2, r2, h2⟩ => by
    obtain ⟨es, e1, h3⟩ := sat_lftM h2
    exact rep_V rs2 (r1.mono x2) r2 e1 fun p ws hp rw' => h3 _ _ _ (x02.andThen rs2 (Ext.new hp)) (rs2.new hp (ro_lst hp rw')) (rv_new rs2)
/-! ### slices -/
def cutD (xs : List D) (lo hi : Option Int) : List D := (xs.drop (HT.sIx xs.length 0 lo)).take (HT.sIx xs.length xs.length hi - HT.sIx xs.length 0 lo)
abbrev OF := Nat → Env → Mem → R (Option Int)
def oNo : OF := fun _ _ M => .ok none M
def oYes (f : EF) : OF := fun bd e M => (f bd e M).bind fun d M1 => match d with
  | .int i => .ok (some i) M1
  | _ => .stuck
def tO (G : Gam) (W : WX) (bd : Nat) (f : OF) : TO := fun σ H Q => ∃ P m e M, RE (G.on P) m H e σ ∧ RS (G.on P) bd m H M ∧
  Sat (f bd e M) (fun o M' => ∀ m' H', Ext (G.on P) m m' H H' → RS (G.on P) bd m' H' M' → Q o H') (XW (G.on P) W bd σ m H)
def SO (G : Gam) (X : Cx) (W : WX) (e : Option Expr) (f : OF) : Prop := ∀ bd, PO X e (tO G W bd f)
theorem PO.imp {e : Option Expr} {t t' : TO} (p : PO X e t) (i : ∀ σ H Q, t' σ H Q → t σ H Q) : PO X e t' := ⟨fun pins s σ H Q I h => p.run pins s σ H Q I (i _ _ _ h)⟩
theorem tO.mono {f : OF} {Q Q' : Option Int → Hp → Prop} (t : tO G W bd f σ H Q) (k : ∀ v H', Q v H' → Q' v H') : tO G W bd f σ H Q' := by
  obtain ⟨P, m, e, M, re, rs, h⟩ := t
  exact ⟨_, m, e, M, re, rs, h.mono (fun d M' z m' H' x s => k _ _ (z m' H' x s)) fun _ _ z => z⟩
theorem stepO {P : Prt} {β : Type} {f : OF} {k : Option Int → Mem → R β} {Z : β → Mem → Prop} (x0 : Ext (G.on P) m0 m H0 H) (re : RE (G.on P) m H e σ) (rs : RS (G.on P) bd m H M) (h : Sat ((f bd e M).bind k) Z (XW (G.on P) W bd σ m0 H0)) :
    tO G W bd f σ H fun b H1 => ∃ m1 M1, Ext (G.on P) m m1 H H1 ∧ Ext (G.on P) m0 m1 H0 H1 ∧ RE (G.on P) m1 H1 e σ ∧ RS (G.on P) bd m1 H1 M1 ∧ Sat (k b M1) Z (XW (G.on P) W bd σ m0 H0) := by
  rw [Sat_bind] at h
  exact ⟨_, m, e, M, re, rs, h.mono (fun d M1 z m1 H1 x s => ⟨m1, M1, x, x0.andThen rs x, re.mono x, s, z⟩) fun c M' z => z.mono x0 rs⟩
theorem so_no : SO G X W none oNo := fun bd => PO.imp po_none fun σ H Q ⟨P, m, e, M, re, rs, h⟩ => h m H (Ext.refl m H) rs
theorem so_yes (ha : SE G X W a f) : SO G X W (some a) (oYes f) := fun bd => PO.imp (po_some (ha bd)) fun σ H Q ⟨P, m, e, M, re, rs, h⟩ => (step (Ext.refl m H) re rs h).mono fun v H1 ⟨m1, d, M1, x1, x01, re1, rs1, r1, h1⟩ => by
  cases r1 with
  | int i => exact ⟨i, rfl, h1 m1 H1 x01 rs1⟩
  | _ => exact h1.elim
def slD (M : Mem) (x : D) (lo hi : Option Int) : Option D := match x with
  | .tup ds => some (.tup (cutD ds lo hi))
  | .cst ds => if HT.sIx ds.length 0 lo = 0 ∧ HT.sIx ds.length ds.length hi = ds.length then none else some (.tup (cutD ds lo hi))
  | x => (lstOf M x).map fun ds => .lst (cutD ds lo hi)
def eSl (f : EF) (lo hi : OF) : EF := fun bd e M => (f bd e M).bind fun x M1 => (lo bd e M1).bind fun l M2 => (hi bd e M2).bind fun u M3 => lft (slD M3 x l u) M3
theorem RVs.cutD {ds : List D} {us : List V} (r : RVs G m H ds us) (lo hi : Option Int) : RVs G m H (cutD ds lo hi) (cutV us lo hi) := by
  unfold Sh.cutD cutV
  rw [r.length]
  exact (r.drop _).take _
theorem cutD_all {ds : List D} {lo hi : Option Int} (h : HT.sIx ds.length 0 lo = 0 ∧ HT.sIx ds.length ds.length hi = ds.length) : cutD ds lo hi = ds := by
  unfold cutD
  rw [h.1, h.2]
  simp
def rSlS2 (K : PySem.W.Frag) : V → Option Int → Option Int → Hp → VK → Prop := fun x lo hi H Q => rSlA K x lo hi H Q ∨ rSlL K x lo hi H Q
theorem sl_S : SlR X (rSlS2 X.K) := SlR.or sl_tupA sl_list
theorem se_slice {lo hi : Option Expr} {fl fh : OF} {p2 : Pos} (hK : X.K = G.K) (ha : SE G X W a f) (hl : SO G X W lo fl) (hh : SO G X W hi fh) : SE G X W (.Subscript a (.Slice lo hi none p2) pos) (eSl f fl fh) := fun bd =>
  PE.imp (pe_slice sl_S (ha bd) (hl bd) (hh bd)) fun σ H Q ⟨P, m, e, M, re, rs, h⟩ => (step (Ext.refl m H) re rs h).mono fun v H1 ⟨m1, d, M1, x1, x01, re1, rs1, r1, h1⟩ => (stepO x01 re1 rs1 h1).mono fun l H2 ⟨m2, M2, x2, x02, re2, rs2, h2⟩ =>
    (stepO x02 re2 rs2 h2).mono fun u H3 ⟨m3, M3, x3, x03, re3, rs3, h3⟩ => by
      have r3 := r1.mono (x2.andThen rs2 x3)
      obtain ⟨d2, e2, h4⟩ := sat_lft h3
      rw [hK]
      cases r3 with
      | tup q s =>
        cases e2
        refine .inl ⟨_, _, rfl, SqT.of q, fun hw => ?_, fun hw p hp => h4 m3 _ _ (x03.andThen rs3 (Ext.fresh hp)) (rs3.fresh hp) (rv_tup hp (s.cutD _ _))⟩
        rw [← s.length] at hw
        rw [cutD_all hw] at h4
        exact h4 m3 H3 _ x03 rs3 (.tup q s)
      | cst q s =>
        simp only [slD] at e2
        split at e2
        · cases e2
        · rename_i hn
          cases e2
          refine .inl ⟨_, _, rfl, q H3, fun hw => ?_, fun hw p hp => h4 m3 _ _ (x03.andThen rs3 (Ext.fresh hp)) (rs3.fresh hp) (rv_tup hp (s.cutD _ _))⟩
          rw [← s.length] at hw
          exact absurd hw hn
      | lst q n n2 s =>
        cases e2
        exact .inr ⟨_, _, rfl, SqL.of q, fun p hp => h4 m3 _ _ (x03.andThen rs3 (Ext.fresh hp)) (rs3.fresh hp) (rv_lst rs3 hp (s.cutD _ _))⟩
      | scr q s =>
        cases e2
        exact .inr ⟨_, _, rfl, q.sq, fun p hp => h4 m3 _ _ (x03.andThen rs3 (Ext.fresh hp)) (rs3.fresh hp) (rv_lst rs3 hp (s.cutD _ _))⟩
      | ref z =>
        obtain ⟨ds, e3, rfl⟩ := Option.map_eq_some_iff.mp e2
        obtain ⟨a, us, e4, q, s⟩ := lst_of rs3 (.ref z) e3
        cases e4
        exact .inr ⟨_, _, rfl, q, fun p hp => h4 m3 _ _ (x03.andThen rs3 (Ext.fresh hp)) (rs3.fresh hp) (rv_lst rs3 hp (s.cutD _ _))⟩
      | _ => cases e2
/-! ### methods of lists -/
theorem ubL_iff {n : Nat} : ∀ {ds : List D}, ubL n ds = true ↔ ∀ d ∈ ds, d.ub n = true
  | [] => by simp [ubL]
  | d :: r => by simp [ubL, ubL_iff (ds := r)]
theorem flatL_iff : ∀ {ds : List D}, flatL ds = true ↔ ∀ d ∈ ds, d.flat = true
  | [] => by simp [flatL]
  | d :: r => by simp [flatL, flatL_iff (ds := r)]
/-- what may be stored in the n-th thing -/
def okS (bd n : Nat) (d : D) : Bool := decide (bd ≤ n) || d.flat
theorem okS_ub {n b : Nat} {d : D} (h : okS bd n d = true) (hn : n < b) (hb : b ≤ bd) : d.ub b = true := by
  simp only [okS, Bool.or_eq_true, decide_eq_true_eq] at h
  rcases h with h | h
  · omega
  · exact flat_ub _ h
theorem wr_lst {n : Nat} {p : Addr} {ds es : List D} {ws : List V} (rs : RS G bd m H M) (hM : M[n]? = some (.lst ds)) (z : m[n]? = some p) (r : RVs G m H es ws) (lo : ∀ b ∈ G.P.C, n < b → ubL b es = true) : Ext G m m H (upd H p (.lst ws)) ∧ RS G bd m (upd H p (.lst ws)) (M.set n (.lst es)) := by
  obtain ⟨us, hq, _⟩ := rs.ref hM z
  have x : Ext G m m H (upd H p (.lst ws)) := Ext.write z hq trivial
  exact ⟨x, rs.write z hq trivial ⟨ws, upd_same, r.mono x⟩ lo⟩
theorem RS.lowL {n b : Nat} {ds : List D} (rs : RS G bd m H M) (hM : M[n]? = some (.lst ds)) (hb : b ∈ G.P.C) (hn : n < b) : ∀ d ∈ ds, d.ub b = true := ubL_iff.mp (rs.low b hb n _ hn hM)
abbrev MF := Nat → Mem → D → List D → R D
abbrev RM := V → List V → Hp → VK → Prop
def eMt (op : MF) (f : EF) (t : AF) : EF := fun bd e M => (f bd e M).bind fun x M1 => if (lstOf M1 x).isSome = true then (t bd e M1).bind fun ds M2 => op bd M2 x ds else .stuck
def eMt0 (op : MF) (f : EF) : EF := fun bd e M => (f bd e M).bind fun x M1 => if (lstOf M1 x).isSome = true then op bd M1 x [] else .stuck
def MSim (G : Gam) (r : RM) (op : MF) : Prop := ∀ (bd : Nat) (m : List Addr) (H : Hp) (M : Mem) (d : D) (ds : List D) (u : V) (us : List V) (Q : VK), RS G bd m H M → RV G m H d u → RVs G m H ds us →
  Sat (op bd M d ds) (fun d M' => ∀ m' H' w, Ext G m m' H H' → RS G bd m' H' M' → RV G m' H' d w → Q w H') (fun _ _ => False) → r u us H Q
def NoX (op : MF) : Prop := ∀ bd M d ds c M', op bd M d ds ≠ .exc c M'
theorem sat_nox {op : MF} (hn : NoX op) {d : D} {ds : List D} {k : D → Mem → Prop} {x x' : Str → Mem → Prop} (h : Sat (op bd M d ds) k x) : Sat (op bd M d ds) k x' := by
  have := hn bd M d ds
  cases e : op bd M d ds with
  | ok a M' => rw [e] at h; exact h
  | exc c M' => exact absurd e (this c M')
  | stuck => rw [e] at h; exact h
/-- what is a list, whatever is in it -/
theorem tyV_list {d : D} {v : V} {ds : List D} (rs : RS G bd m H M) (r : RV G m H d v) (h : lstOf M d = some ds) : tyV G.K "list" v H := by
  obtain ⟨a, us, rfl, q, _⟩ := lst_of rs r h
  exact .inl ⟨rfl, us, q⟩
/-- a method of a list -/
theorem se_mt {es : List Expr} {name : Str} {apos : Pos} {id : String} {r : RM} {op : MF} (hK : X.K = G.K) (slot : Slot "list" name id) (hty : typeOf (.builtin id) = pure (.type "method_descriptor")) (hm : MtR X id r) (hr : ∀ P, MSim (G.on P) r op) (hn : NoX op)
    (ho : SE G X W b f) (ha : SA G X W (a :: es) fa)
    (hbase : attributeBase b name X.env (eval b X.env) = eval b X.env := by rfl)
    (hfew : ((backTo pos (starEach (a :: es) X.env)).all (fun x => !x.1) && (backToKw pos (keywordEach [] X.env)).all (fun x => x.1.isSome)
      && decide ((a :: es).length + ([] : List Keyword).length + (if ([] : List Keyword).isEmpty then 0 else 1) < 30)) = true := by rfl)
    (hline : (apos.endLine == pos.line) = true := by rfl) (hs : starEach (a :: es) X.env = (false, eval a X.env) :: starEach es X.env := by rfl) (hplain : (backTo pos (starEach es X.env)).any (·.1) = false := by rfl) :
    SE G X W (.Call (.Attribute b name apos) (a :: es) [] pos) (eMt op f fa) := fun bd =>
  PE.imp (pe_bm PySem.F.plainAttrs_list slot hty hm (ho bd) (ha bd) hbase hfew hline hs hplain) fun σ H Q ⟨P, m, e, M, re, rs, h⟩ => (step (Ext.refl m H) re rs h).mono fun v H1 ⟨m1, d, M1, x1, x01, re1, rs1, r1, h1⟩ => by
    split at h1
    · rename_i hl
      obtain ⟨ds0, hl⟩ := Option.isSome_iff_exists.mp hl
      refine ⟨by rw [hK]; exact tyV_list (G := G.on P) rs1 r1 hl, ?_⟩
      refine (stepA x01 re1 rs1 h1).mono fun vs H2 ⟨m2, ds, M2, x2, x02, re2, rs2, r2, h2⟩ => ?_
      exact hr P bd m2 H2 M2 d ds v vs Q rs2 (r1.mono x2) r2 (sat_nox hn (h2.mono (fun d M' z m' H' w x s r => z m' H' w (x02.andThen rs2 x) s r) fun _ _ z => z))
    · exact h1.elim
theorem se_mt0 {name : Str} {apos : Pos} {id : String} {r : RM} {op : MF} (hK : X.K = G.K) (slot : Slot "list" name id) (hty : typeOf (.builtin id) = pure (.type "method_descriptor")) (hm : MtR X id r) (hr : ∀ P, MSim (G.on P) r op) (hn : NoX op)
    (ho : SE G X W b f) (hbase : attributeBase b name X.env (eval b X.env) = eval b X.env := by rfl) (hline : (apos.endLine == pos.line) = true := by rfl) : SE G X W (.Call (.Attribute b name apos) [] [] pos) (eMt0 op f) := fun bd =>
  PE.imp (pe_bm0 PySem.F.plainAttrs_list slot hty hm (ho bd) hbase hline) fun σ H Q ⟨P, m, e, M, re, rs, h⟩ => (step (Ext.refl m H) re rs h).mono fun v H1 ⟨m1, d, M1, x1, x01, re1, rs1, r1, h1⟩ => by
    split at h1
    · rename_i hl
      obtain ⟨ds0, hl⟩ := Option.isSome_iff_exists.mp hl
      refine ⟨by rw [hK]; exact tyV_list (G := G.on P) rs1 r1 hl, ?_⟩
      exact hr P bd m1 H1 M1 d [] v [] Q rs1 r1 .nil (sat_nox hn (h1.mono (fun d M' z m' H' w x s r => z m' H' w (x01.andThen rs1 x) s r) fun _ _ z => z))
    · exact h1.elim
def mAppend : MF := fun bd M x ds => match x, ds with
  | .ref n, [y] => (match M[n]? with
    | some (.lst es) => if (okS bd n y && decide (es.length < 16777216)) = true then .ok .non (M.set n (.lst (es ++ [y]))) else .stuck
    | _ => .stuck)
  | _, _ => .stuck
theorem nox_append : NoX mAppend := fun bd M d ds c M' h => by
  unfold mAppend at h
  repeat' split at h
  all_goals cases h
theorem msim_append : MSim G rAppend mAppend := fun bd m H M d ds u us Q rs r rv h => by
  unfold mAppend at h
  split at h
  · split at h
    · rename_i es hM
      split at h
      · rename_i c
        simp only [Bool.and_eq_true, decide_eq_true_eq] at c
        obtain ⟨w, rfl, rw'⟩ := rv.one
        cases r with
        | ref z =>
          obtain ⟨ws, hq, s⟩ := rs.ref hM z
          obtain ⟨x, rs'⟩ := wr_lst rs hM z (s.append (.cons rw' .nil)) fun b hb hn => ubL_iff.mpr fun d hd => by
            rcases List.mem_append.mp hd with hd | hd
            · exact rs.lowL hM hb hn d hd
            · rw [List.mem_singleton.mp hd]; exact okS_ub c.1 hn (rs.cs b hb)
          exact ⟨_, ws, w, rfl, rfl, hq, by rw [← s.length]; exact line_lt c.2, h m _ _ x rs' .non⟩
      · exact h.elim
    · exact h.elim
  · exact h.elim
def mExtend : MF := fun bd M x ds => match x, ds with
  | .ref n, [y] => (match M[n]?, lstH M y with
    | some (.lst es), some zs => if (zs.all (okS bd n) && decide (es.length + zs.length ≤ 16777216)) = true then .ok .non (M.set n (.lst (es ++ zs))) else .stuck
    | _, _ => .stuck)
  | _, _ => .stuck
theorem nox_extend : NoX mExtend := fun bd M d ds c M' h => by
  unfold mExtend at h
  repeat' split at h
  all_goals cases h
theorem msim_extend : MSim G rExtend mExtend := fun bd m H M d ds u us Q rs r rv h => by
  unfold mExtend at h
  split at h
  · split at h
    · rename_i es zs hM hz
      split at h
      · rename_i c
        simp only [Bool.and_eq_true, decide_eq_true_eq] at c
        obtain ⟨w, rfl, rw'⟩ := rv.one
        obtain ⟨b, ys, rfl, hb, sb⟩ := lstH_of rs rw' hz
        cases r with
        | ref z =>
          obtain ⟨ws, hq, s⟩ := rs.ref hM z
          obtain ⟨x, rs'⟩ := wr_lst rs hM z (s.append sb) fun b hb hn => ubL_iff.mpr fun d hd => by
            rcases List.mem_append.mp hd with hd | hd
            · exact rs.lowL hM hb hn d hd
            · exact okS_ub (List.all_eq_true.mp c.1 d hd) hn (rs.cs b hb)
          exact ⟨_, b, ws, ys, rfl, rfl, hq, hb, by rw [← s.length, ← sb.length]; exact line_le c.2, h m _ _ x rs' .non⟩
      · exact h.elim
    · exact h.elim
  · exact h.elim
/-- pop(i), 0 ≤ i; pop() -/
def mPopAt : MF := fun bd M x ds => match x, ds with
  | .ref n, [.int i] => (match M[n]? with
    | some (.lst es) => if 0 ≤ i ∧ i < 2 ^ 62 then (match es[i.toNat]? with
      | some d => .ok d (M.set n (.lst (es.eraseIdx i.toNat)))
      | none => .stuck) else .stuck
    | _ => .stuck)
  | _, _ => .stuck
theorem nox_popAt : NoX mPopAt := fun bd M d ds c M' h => by
  unfold mPopAt at h
  repeat' split at h
  all_goals cases h
theorem msim_popAt : MSim G rPopAt mPopAt := fun bd m H M d ds u us Q rs r rv h => by
  unfold mPopAt at h
  split at h
  · split at h
    · rename_i es hM
      split at h
      · rename_i c
        split at h
        · rename_i y hy
          obtain ⟨w, rfl, rw'⟩ := rv.one
          cases rw' with
          | int i =>
          cases r with
          | ref z =>
            obtain ⟨ws, hq, s⟩ := rs.ref hM z
            obtain ⟨v, hv, rv'⟩ := s.get hy
            obtain ⟨x, rs'⟩ := wr_lst rs hM z (s.eraseIdx _) fun b hb hn => ubL_iff.mpr fun d hd => rs.lowL hM hb hn d (List.mem_of_mem_eraseIdx hd)
            have hl := (List.getElem?_eq_some_iff.mp hv).1
            exact ⟨_, ws, _, _, v, rfl, rfl, hq, by omega, by omega, seqIndex_of c.1 (by omega), hv, h m _ _ x rs' (rv'.mono x)⟩
        · exact h.elim
      · exact h.elim
    · exact h.elim
  · exact h.elim
def mPop : MF := fun bd M x ds => match x, ds with
  | .ref n, [] => (match M[n]? with
    | some (.lst es) => (match es[es.length - 1]? with
      | some d => .ok d (M.set n (.lst es.dropLast))
      | none => .stuck)
    | _ => .stuck)
  | _, _ => .stuck
theorem nox_pop : NoX mPop := fun bd M d ds c M' h => by
  unfold mPop at h
  repeat' split at h
  all_goals cases h
theorem RVs.dropLast {ds : List D} {us : List V} (r : RVs G m H ds us) : RVs G m H ds.dropLast us.dropLast := by
  rw [List.dropLast_eq_take, List.dropLast_eq_take, r.length]
  exact r.take _
theorem msim_pop : MSim G rPop mPop := fun bd m H M d ds u us Q rs r rv h => by
  unfold mPop at h
  split at h
  · split at h
    · rename_i es hM
      split at h
      · rename_i y hy
        cases rv
        cases r with
        | ref z =>
          obtain ⟨ws, hq, s⟩ := rs.ref hM z
          obtain ⟨v, hv, rv'⟩ := s.get hy
          obtain ⟨x, rs'⟩ := wr_lst rs hM z s.dropLast fun b hb hn => ubL_iff.mpr fun d hd => rs.lowL hM hb hn d (List.dropLast_subset _ hd)
          rw [s.length] at hv
          exact ⟨_, ws, v, rfl, rfl, hq, hv, h m _ _ x rs' (rv'.mono x)⟩
      · exact h.elim
    · exact h.elim
  · exact h.elim
/-! ### x.bit_length() -/
def oBits : D → Option D
  | .int i => some (.int (Builtin.Int.intBits i : Nat))
  | _ => none
theorem se_bits {apos : Pos} (ha : SE G X W a f) (hbase : attributeBase a "bit_length" X.env (eval a X.env) = eval a X.env := by rfl) (hline : (apos.endLine == pos.line) = true := by rfl) : SE G X W (.Call (.Attribute a "bit_length" apos) [] [] pos) (eUn oBits f) := fun bd =>
  PE.imp (pe_bits (ha bd) hbase hline) fun σ H Q ⟨P, m, e, M, re, rs, h⟩ => (step (Ext.refl m H) re rs h).mono fun v H1 ⟨m1, d, M1, x1, x01, re1, rs1, r1, h1⟩ => by
    obtain ⟨d3, e3, h3⟩ := sat_lft h1
    cases r1 <;> cases e3
    exact ⟨_, rfl, h3 m1 H1 _ x01 rs1 (.int _)⟩
/-! ### d.get -/
def isDct (M : Mem) (n : Nat) : Bool := match M[n]? with
  | some (.dK _) => true
  | some (.dT _) => true
  | _ => false
def eGet1 (f g : EF) : EF := fun bd e M => (f bd e M).bind fun x M1 => match x with
  | .ref n => if isDct M1 n = true then (g bd e M1).bind fun y M2 => lft ((dGet M2 n y).map fun o => o.getD .non) M2 else .stuck
  | _ => .stuck
def eGet2 (f g h : EF) : EF := fun bd e M => (f bd e M).bind fun x M1 => match x with
  | .ref n => if isDct M1 n = true then (g bd e M1).bind fun y M2 => (h bd e M2).bind fun z M3 => lft ((dGet M3 n y).map fun o => o.getD z) M3 else .stuck
  | _ => .stuck
theorem isD_of {n : Nat} {p : Addr} (rs : RS G bd m H M) (z : m[n]? = some p) (h : isDct M n = true) : IsD H p := by
  unfold isDct at h
  split at h
  · rename_i kvs hM
    obtain ⟨us, hq, _⟩ := rs.ref hM z
    exact .inl ⟨us, .inl hq⟩
  · rename_i kvs hM
    obtain ⟨us, hq, _⟩ := rs.ref hM z
    exact .inr ⟨us, .inl hq⟩
  · cases h
theorem se_get1 {apos : Pos} (hu : X.A.units + 64 < cLine) (ha : SE G X W a f) (hb : SE G X W b g) (mm : M1 X a "get" apos b pos) : SE G X W (.Call (.Attribute a "get" apos) [b] [] pos) (eGet1 f g) := fun bd =>
  PE.imp (pe_dget1 (by omega) (ha bd) (hb bd) mm) fun σ H Q ⟨P, m, e, M, re, rs, h⟩ => (step (Ext.refl m H) re rs h).mono fun v H1 ⟨m1, d, M1, x1, x01, re1, rs1, r1, h1⟩ => by
    cases r1 with
    | ref z =>
      simp only at h1
      split at h1
      · rename_i hd
        refine ⟨_, rfl, isD_of rs1 z hd, (step x01 re1 rs1 h1).mono fun v2 H2 ⟨m2, d2, M2, x2, x02, re2, rs2, r2, h2⟩ => ?_⟩
        obtain ⟨d3, e3, h3⟩ := sat_lft h2
        obtain ⟨o, ho, rfl⟩ := Option.map_eq_some_iff.mp e3
        obtain ⟨p, ov, e4, g4, e5, e6, _⟩ := dGet_V rs2 (.ref (x2.get z)) r2 ho
        cases e4
        refine ⟨ov, g4, ?_⟩
        cases o with
        | none => rw [e6 rfl]; exact h3 m2 H2 _ x02 rs2 .non
        | some dd =>
          obtain ⟨w, e7, rw'⟩ := e5 dd rfl
          subst e7
          exact h3 m2 H2 _ x02 rs2 rw'
      · exact h1.elim
    | _ => exact h1.elim
theorem se_get2 {apos : Pos} (hu : X.A.units + 64 < cLine) (ha : SE G X W a f) (hb : SE G X W b g) (hc : SE G X W c h) (mm : M2 X a "get" apos b c pos) : SE G X W (.Call (.Attribute a "get" apos) [b, c] [] pos) (eGet2 f g h) := fun bd =>
  PE.imp (pe_dget2 (by omega) (ha bd) (hb bd) (hc bd) mm) fun σ H Q ⟨P, m, e, M, re, rs, h⟩ => (step (Ext.refl m H) re rs h).mono fun v H1 ⟨m1, d, M1, x1, x01, re1, rs1, r1, h1⟩ => by
    cases r1 with
    | ref z =>
      simp only at h1
      split at h1
      · rename_i hd
        refine ⟨_, rfl, isD_of rs1 z hd, (step x01 re1 rs1 h1).mono fun v2 H2 ⟨m2, d2, M2, x2, x02, re2, rs2, r2, h2⟩ => (step x02 re2 rs2 h2).mono fun v3 H3 ⟨m3, d3, M3, x3, x03, re3, rs3, r3, h3⟩ => ?_⟩
        obtain ⟨d4, e3, h4⟩ := sat_lft h3
        obtain ⟨o, ho, rfl⟩ := Option.map_eq_some_iff.mp e3
        obtain ⟨p, ov, e4, g4, e5, e6, _⟩ := dGet_V rs3 (.ref (x3.get (x2.get z))) (r2.mono x3) ho
        cases e4
        refine ⟨ov, g4, ?_⟩
        cases o with
        | none => rw [e6 rfl]; exact h4 m3 H3 _ x03 rs3 r3
        | some dd =>
          obtain ⟨w, e7, rw'⟩ := e5 dd rfl
          subst e7
          exact h4 m3 H3 _ x03 rs3 rw'
      · exact h1.elim
    | _ => exact h1.elim
end
end Sh
set_option Elab.async false
set_option linter.all false
set_option maxRecDepth 100000
set_option maxHeartbeats 4000000
/-! Sh: isinstance, fields, calls. -/
namespace Sh
open PySem PySem.Spec PyProof.Rows L2
inductive Ty where
  | non | bool | int | str | tup | lst | dct
  deriving DecidableEq
def Ty.name : Ty → String
  | .non => "NoneType" | .bool => "bool" | .int => "int" | .str => "str" | .tup => "tuple" | .lst => "list" | .dct => "dict"
def kindOf (M : Mem) : D → Option Ty
  | .non => some .non
  | .bl _ => some .bool
  | .int _ => some .int
  | .str _ => some .str
  | .tup _ => some .tup
  | .cst _ => some .tup
  | .lst _ => some .lst
  | .scr _ => some .lst
  | .ref n => match M[n]? with
    | some (.lst _) => some .lst
    | some (.dK _) => some .dct
    | some (.dT _) => some .dct
    | _ => none
def isT (k t : Ty) : Bool := decide (k = t) || (decide (k = .bool) && decide (t = .int))
theorem kit_all (k t : Ty) : kitB k.name t.name = some (isT k t) := by cases k <;> cases t <;> decide +kernel
section
variable {G : Gam} {X : Cx} {W : WX} {bd : Nat} {f g h : EF} {fb gb : BF} {fa : AF} {a b c : Expr} {pos : Pos} {σ : L2.St} {H H0 : Hp} {m m0 : List Addr} {M : Mem} {e : Env}
theorem tyx_of {d : D} {v : V} {k : Ty} (rs : RS G bd m H M) (r : RV G m H d v) (h : kindOf M d = some k) : TyX G.K H v (.type k.name) := by
  cases r with
  | non => cases h; exact .base .non
  | bl b => cases h; exact .base (.bl b)
  | int b => cases h; exact .base (.int b)
  | str b => cases h; exact .base (.str b)
  | tup q _ => cases h; exact .base (.tup q)
  | lst q _ _ _ => cases h; exact .base (.lst q)
  | cst q _ =>
    cases h
    rcases q (fun _ => none) with (z | ⟨_, z⟩) | ⟨o, its, n, h1, h2, _⟩
    · cases z
    · cases z
    · exact .kTuple h1 h2
  | scr q _ =>
    cases h
    rcases q with ⟨o, q⟩ | q
    · exact .base (.frz q)
    · rcases q (fun _ => none) with (z | ⟨_, z⟩) | ⟨o, its, n, h1, h2, _⟩
      · cases z
      · cases z
      · exact .kList h1 h2
  | ref z =>
    simp only [kindOf] at h
    split at h
    · rename_i ds hM
      cases h
      obtain ⟨us, hq, _⟩ := rs.ref hM z
      exact .base (.lst hq)
    · rename_i ds hM
      cases h
      obtain ⟨us, hq, _⟩ := rs.ref hM z
      exact .base (.dK hq)
    · rename_i ds hM
      cases h
      obtain ⟨us, hq, _⟩ := rs.ref hM z
      exact .base (.dT hq)
    · cases h
def eIsi (ts : List Ty) (f : EF) : EF := fun bd e M => (f bd e M).bind fun d M1 => lft ((kindOf M1 d).map fun k => .bl (ts.any (isT k))) M1
theorem se_isi1 {x : Str} {p p2 : Pos} (t : Ty) (hK : X.K = G.K) (hg : Gl X "isinstance") (hm : X.mg "isinstance" = none) (ha : SE G X W a f) (hb : PE X (.Name x p2) (tC (.ty t.name)))
    (he : starEach [a, .Name x p2] X.env = (false, eval a X.env) :: starEach [.Name x p2] X.env := by rfl) (he2 : starEach [Expr.Name x p2] X.env = (false, eval (.Name x p2) X.env) :: starEach [] X.env := by rfl) (hpl : (backTo pos (starEach [Expr.Name x p2] X.env)).any (·.1) = false := by rfl) :
    SE G X W (.Call (.Name "isinstance" p) [a, .Name x p2] [] pos) (eIsi [t] f) := fun bd =>
  PE.imp (pe_callB call_isi hg hm (by decide +kernel) (pa_cons (ha bd) (pa_cons hb pa_nil he2) he) (by decide) (by decide) he hpl) fun σ H Q ⟨P, m, e, M, re, rs, h⟩ => (step (Ext.refl m H) re rs h).mono fun v H1 ⟨m1, d, M1, x1, x01, re1, rs1, r1, h1⟩ => by
    obtain ⟨d3, e3, h3⟩ := sat_lft h1
    obtain ⟨k, hk, rfl⟩ := Option.map_eq_some_iff.mp e3
    refine ⟨v, .ty t.name, .type k.name, .type t.name, isT k t, rfl, .ty _, by rw [hK]; exact tyx_of (G := G.on P) rs1 r1 hk, kit_ty (kit_all k t), ?_⟩
    have e4 : ([t].any (isT k)) = isT k t := by simp
    rw [← e4]
    exact h3 m1 H1 _ x01 rs1 (.bl _)
theorem se_isi2 {x y : Str} {p p2 p3 p4 : Pos} {kk : Nat} (t u : Ty) (hK : X.K = G.K) (hg : Gl X "isinstance") (hm : X.mg "isinstance" = none) (ha : SE G X W a f) (hb : PE X (.Name x p2) (tC (.ty t.name))) (hc : PE X (.Name y p3) (tC (.ty u.name)))
    (he : starEach [a, .Tuple [.Name x p2, .Name y p3] kk p4] X.env = (false, eval a X.env) :: starEach [.Tuple [.Name x p2, .Name y p3] kk p4] X.env := by rfl) (he2 : starEach [Expr.Tuple [.Name x p2, .Name y p3] kk p4] X.env = (false, eval (.Tuple [.Name x p2, .Name y p3] kk p4) X.env) :: starEach [] X.env := by rfl)
    (he3 : starEach [Expr.Name x p2, .Name y p3] X.env = (false, eval (.Name x p2) X.env) :: starEach [.Name y p3] X.env := by rfl) (he4 : starEach [Expr.Name y p3] X.env = (false, eval (.Name y p3) X.env) :: starEach [] X.env := by rfl)
    (hpl : (backTo pos (starEach [Expr.Tuple [.Name x p2, .Name y p3] kk p4] X.env)).any (·.1) = false := by rfl) :
    SE G X W (.Call (.Name "isinstance" p) [a, .Tuple [.Name x p2, .Name y p3] kk p4] [] pos) (eIsi [t, u] f) := fun bd =>
  PE.imp (pe_callB call_isiT hg hm (by decide +kernel) (pa_cons (ha bd) (pa_cons (pe_tup (pa_cons hb (pa_cons hc pa_nil he4) he3)) pa_nil he2) he) (by decide) (by decide) he hpl) fun σ H Q ⟨P, m, e, M, re, rs, h⟩ => (step (Ext.refl m H) re rs h).mono fun v H1 ⟨m1, d, M1, x1, x01, re1, rs1, r1, h1⟩ => by
    obtain ⟨d3, e3, h3⟩ := sat_lft h1
    obtain ⟨k, hk, rfl⟩ := Option.map_eq_some_iff.mp e3
    refine ⟨by show 2 ≤ sizeLine; decide, fun q hq => ?_⟩
    have x2 : Ext (G.on P) m1 m1 H1 (upd H1 q (.tup [.ty t.name, .ty u.name])) := Ext.fresh hq
    refine ⟨v, q, [.ty t.name, .ty u.name], .type k.name, [.type t.name, .type u.name], [t, u].any (isT k), rfl, upd_same, .cons (.ty _) (.cons (.ty _) .nil), by rw [hK]; exact tyx_of (G := G.on P) (rs1.fresh hq) (r1.mono x2) hk, ?_, ?_⟩
    · refine kitAny_cons (b := isT k t) (kit_ty (kit_all k t)) (fun h0 => ?_) fun h0 => by simp [h0]
      refine kitAny_cons (b := isT k u) (kit_ty (kit_all k u)) (fun h1 => ?_) fun h1 => by simp [h1]
      rw [kitAny_nil]
      simp [h0, h1]
    · exact h3 m1 _ _ (x01.andThen rs1 x2) (rs1.fresh hq) (.bl _)
/-! ### fields -/
/-- the field i of an instance of the class number c -/
def eFld (c i : Nat) (f : EF) : EF := fun bd e M => (f bd e M).bind fun x M1 => match x with
  | .ref n => (match M1[n]? with
    | some (.ins c' fs) => if c' = c then (match fs[i]? with
      | some (some d) => .ok d M1
      | _ => .stuck) else .stuck
    | _ => .stuck)
  | _ => .stuck
/-- what is known of the class number c -/
structure ClsF (G : Gam) (c : Nat) (n : Str) (fs : List Str) : Prop where
  lay : G.lay c = (n, fs)
  cls : Cls G.K (He.ga G.K n)
  no : ∀ x ∈ fs, NoAttr G.K (He.ga G.K n) x
theorem se_fld {c i : Nat} {n : Str} {fs : List Str} {fld : Str} (hK : X.K = G.K) (F : ClsF G c n fs) (hi : fs[i]? = some fld) (ha : SE G X W a f) (hb : attributeBase a fld X.env (eval a X.env) = eval a X.env) : SE G X W (.Attribute a fld pos) (eFld c i f) := fun bd =>
  PE.imp (pe_fld (ha bd) hb) fun σ H Q ⟨P, m, e, M, re, rs, h⟩ => (step (Ext.refl m H) re rs h).mono fun v H1 ⟨m1, d, M1, x1, x01, re1, rs1, r1, h1⟩ => by
    cases r1 with
    | ref z =>
      simp only at h1
      split at h1
      · rename_i c' fs' hM
        split at h1
        · rename_i hc
          subst hc
          split at h1
          · rename_i d' hd
            obtain ⟨dx, fus, hq, _, ok⟩ := rs1.ref hM z
            have el : (G.on P).lay c' = (n, fs) := F.lay
            obtain ⟨w, h2, h3⟩ := ok.at_ i fld d' (by rw [el]; exact hi) hd
            rw [el] at hq
            rw [hK]
            exact ⟨_, _, dx, fus, w, rfl, hq, F.cls, F.no _ (List.mem_of_getElem? hi), h2, h1 m1 H1 w x01 rs1 h3⟩
          · exact h1.elim
        · exact h1.elim
      · exact h1.elim
    | _ => exact h1.elim
theorem ClsF.on {c : Nat} {n : Str} {fs : List Str} (h : ClsF G c n fs) (P : Prt) : ClsF (G.on P) c n fs := ⟨h.lay, h.cls, h.no⟩
/-! ### defs -/
/-- a def: what it makes of its arguments and the memory -/
abbrev Fn := Nat → List D → Mem → R D
/-- its promise -/
def spF (G : Gam) (F : Fn) : Sp := fun vs H Q E => ∃ (P : Prt) (bd : Nat) (m : List Addr) (M : Mem) (ds : List D), RVs (G.on P) m H ds vs ∧ RS (G.on P) bd m H M ∧
  Sat (F bd ds M) (fun d M' => ∀ m' H' v, Ext (G.on P) m m' H H' → RS (G.on P) bd m' H' M' → RV (G.on P) m' H' d v → Q v H') (fun c M' => ∀ m' H', Ext (G.on P) m m' H H' → RS (G.on P) bd m' H' M' → E (.ref (He.ga G.K c)) none H')
/-- a call of it -/
def eCall (F : Fn) (t : AF) : EF := fun bd e M => (t bd e M).bind fun ds M1 => F bd ds M1
/-- the same of a def that lets no exception out -/
def calm (r : R D) : R D := match r with
  | .exc _ _ => .stuck
  | r => r
theorem sat_calm {r : R D} {k : D → Mem → Prop} {x : Str → Mem → Prop} (h : Sat (calm r) k x) : Sat r k (fun _ _ => False) := by
  cases r with
  | ok a M => exact h
  | exc c M => exact h.elim
  | stuck => exact h
section
variable {k : Nat} {F : Fn} {fA : Addr} {fd : FuncData} {ps : List Str} {x : Str} {p : Pos} {es : List Expr}
/-- a def of the module, by its name -/
def Fk (G : Gam) (P : Program) (w : World) (K : PySem.W.Frag) (mg : Str → Option Value) (base : Heap) (k : Nat) (x : Str) (F : Fn) : Prop := ∃ fA fd ps, FnOk P w K mg base (L2.CX P w) k fA fd ps (spF G F) ∧ mg x = some (.ref fA) ∧ PySem.W.keepIn K (.ref fA) = true ∧ Binds K fd ps []
/-- a call of a def that may let an exception out -/
theorem se_call (O : Fk G X.prog X.w X.K X.mg X.base k x F) (hr : Room k X.A) (hg : Gl X x) (tk : Takes X W)
    (ha : SA G X W (a :: es) fa) (hdb : (x == ("__debug__" : Str)) = false := by decide) (he : starEach (a :: es) X.env = (false, eval a X.env) :: starEach es X.env := by rfl) (hpl : (backTo pos (starEach es X.env)).any (·.1) = false := by rfl) :
    SE G X W (.Call (.Name x p) (a :: es) [] pos) (eCall F fa) := fun bd => by
  obtain ⟨fA, fd, ps, O, hm, hk, hb⟩ := O
  exact PE.imp (pe_callS O hr hg hm hk hb (fun σ => passAt tk σ) (ha bd) hdb he hpl) fun σ H Q ⟨P, m, e, M, re, rs, h⟩ => (stepA (Ext.refl m H) re rs h).mono fun vs H1 ⟨m1, ds, M1, x1, x01, re1, rs1, r1, h1⟩ =>
    ⟨P, bd, m1, M1, ds, r1, rs1, h1.mono (fun d M' z m' H' v x s r => z m' H' v (x01.andThen rs1 x) s r) fun c M' z m' H' x s => z m' H' (x01.andThen rs1 x) s⟩
def eCall0 (F : Fn) : EF := fun bd e M => calm (eCall F aNil bd e M)
theorem se_call0 (O : Fk G X.prog X.w X.K X.mg X.base k x F) (hr : Room k X.A) (hg : Gl X x) (hdb : (x == ("__debug__" : Str)) = false := by decide) : SE G X W (.Call (.Name x p) [] [] pos) (eCall0 F) := fun bd => by
  obtain ⟨fA, fd, ps, O, hm, hk, hb⟩ := O
  exact PE.imp (pe_call0 O hr hg hm hk hb .nil passL hdb) fun σ H Q ⟨P, m, e, M, re, rs, h⟩ =>
    ⟨P, bd, m, M, [], .nil, rs, (sat_calm h).mono (fun _ _ z => z) fun _ _ z => z.elim⟩
def isIns (M : Mem) (n c : Nat) : Bool := match M[n]? with
  | some (.ins c' _) => decide (c' = c)
  | _ => false
/-- a method of an instance of the class number c -/
def eMeth (c : Nat) (F : Fn) (f : EF) (t : AF) : EF := fun bd e M => (f bd e M).bind fun x M1 => match x with
  | .ref n => if isIns M1 n c = true then (t bd e M1).bind fun ds M2 => calm (F bd (.ref n :: ds) M2) else .stuck
  | _ => .stuck
theorem ins_of {c n : Nat} {p : Addr} {cn mt : Str} {fs : List Str} (Fc : ClsF G c cn fs) (hmt : mt ∉ fs) (rs : RS G bd m H M) (z : m[n]? = some p) (h : isIns M n c = true) :
    ∃ dx fus, H p = some (.ins (He.ga G.K cn) dx fus) ∧ fus.lookup mt = none := by
  unfold isIns at h
  split at h
  · rename_i c' fs' hM
    have hc := of_decide_eq_true h
    subst hc
    obtain ⟨dx, fus, hq, _, ok⟩ := rs.ref hM z
    rw [Fc.lay] at hq
    refine ⟨dx, fus, hq, ?_⟩
    cases e : fus.lookup mt with
    | none => rfl
    | some v =>
      obtain ⟨i, d, h1, _⟩ := ok.keys mt v e
      rw [Fc.lay] at h1
      exact absurd (List.mem_of_getElem? h1) hmt
  · cases h
def Mt (G : Gam) (P : Program) (w : World) (K : PySem.W.Frag) (mg : Str → Option Value) (base : Heap) (k : Nat) (cn mt : Str) (F : Fn) : Prop := ∃ fA fd ps, Meth K (He.ga G.K cn) mt fA ∧ FnOk P w K mg base (L2.CX P w) k fA fd ps (spF G F) ∧ Binds K fd ps []
theorem se_meth {c : Nat} {cn mt : Str} {fs : List Str} {apos : Pos} {pl : Sem Bool} (hK : X.K = G.K) (Fc : ClsF G c cn fs) (hmt : mt ∉ fs) (O : Mt G X.prog X.w X.K X.mg X.base k cn mt F) (hr : Room k X.A)
    (ho : SE G X W b f) (ha : SA G X W (a :: es) fa)
    (hst : starEach (a :: es) X.env = (false, eval a X.env) :: starEach es X.env := by rfl) (hpl : (backTo pos (starEach es X.env)).any (·.1) = false := by rfl)
    (ht : eval (.Call (.Attribute b mt apos) (a :: es) [] pos) X.env = (do
      let ov ← eval b X.env
      standAt apos.atName
      let (f, first) ← holding [ov] (getMethod ov mt pl)
      callWith pos f first (backTo pos (starEach (a :: es) X.env)) (backToKw pos (keywordEach [] X.env))) := by rfl) :
    SE G X W (.Call (.Attribute b mt apos) (a :: es) [] pos) (eMeth c F f fa) := fun bd => by
  obtain ⟨fA, fd, ps, hM, O, hb⟩ := O
  exact PE.imp (pe_meth (pl := pl) (ho bd) (by rw [hK]; exact Fc.cls) hM O hr hb .nil passL (ha bd) hst hpl ht) fun σ H Q ⟨P, m, e, M, re, rs, h⟩ => (step (Ext.refl m H) re rs h).mono fun v H1 ⟨m1, d, M1, x1, x01, re1, rs1, r1, h1⟩ => by
    cases r1 with
    | ref z =>
      simp only at h1
      split at h1
      · rename_i hc
        obtain ⟨dx, fus, hq, hl⟩ := ins_of (Fc.on P) hmt rs1 z hc
        refine ⟨_, dx, fus, rfl, hq, hl, (stepA x01 re1 rs1 h1).mono fun vs H2 ⟨m2, ds, M2, x2, x02, re2, rs2, r2, h2⟩ => ?_⟩
        exact ⟨P, bd, m2, M2, _, .cons (.ref (x2.get z)) (by rw [List.append_nil]; exact r2), rs2, (sat_calm h2).mono (fun d M' z m' H' v x s r => z m' H' v (x02.andThen rs2 x) s r) fun _ _ z => z.elim⟩
      · exact h1.elim
    | _ => exact h1.elim
theorem se_meth0 {c : Nat} {cn mt : Str} {fs : List Str} {apos : Pos} {pl : Sem Bool} (hK : X.K = G.K) (Fc : ClsF G c cn fs) (hmt : mt ∉ fs) (O : Mt G X.prog X.w X.K X.mg X.base k cn mt F) (hr : Room k X.A)
    (ho : SE G X W b f)
    (ht : eval (.Call (.Attribute b mt apos) [] [] pos) X.env = (do
      let ov ← eval b X.env
      standAt apos.atName
      let (f, first) ← holding [ov] (getMethod ov mt pl)
      callWith pos f first (backTo pos (starEach [] X.env)) (backToKw pos (keywordEach [] X.env))) := by rfl) :
    SE G X W (.Call (.Attribute b mt apos) [] [] pos) (eMeth c F f aNil) := fun bd => by
  obtain ⟨fA, fd, ps, hM, O, hb⟩ := O
  exact PE.imp (pe_meth0 (pl := pl) (ho bd) (by rw [hK]; exact Fc.cls) hM O hr hb .nil passL ht) fun σ H Q ⟨P, m, e, M, re, rs, h⟩ => (step (Ext.refl m H) re rs h).mono fun v H1 ⟨m1, d, M1, x1, x01, re1, rs1, r1, h1⟩ => by
    cases r1 with
    | ref z =>
      simp only at h1
      split at h1
      · rename_i hc
        obtain ⟨dx, fus, hq, hl⟩ := ins_of (Fc.on P) hmt rs1 z hc
        have h1 : Sat (calm (F bd [_] M1)) _ _ := h1
        exact ⟨_, dx, fus, rfl, hq, hl, ⟨P, bd, m1, M1, _, .cons (.ref z) .nil, rs1, (sat_calm h1).mono (fun d M' z m' H' v x s r => z m' H' v (x01.andThen rs1 x) s r) fun _ _ z => z.elim⟩⟩
      · exact h1.elim
    | _ => exact h1.elim
/-- C(..): a new instance of the class number c, with so many fields -/
def eMake (c nf : Nat) (F : Fn) (t : AF) : EF := fun bd e M => (t bd e M).bind fun ds M1 => (calm (F bd (.ref M1.length :: ds) (M1 ++ [.ins c (List.replicate nf none)]))).bind fun d M2 => match d with
  | .non => .ok (.ref M1.length) M2
  | _ => .stuck
theorem made_of {c nf : Nat} {cn : Str} {fs : List Str} {x dx : Addr} (Fc : ClsF G c cn fs) (hn : nf = fs.length) (h9 : fs.length ≤ 900) (rs : RS G bd m H M) (h1 : H x = none) (h2 : H dx = none) (h3 : dx ≠ x) :
    Ext G m (m ++ [x]) H (upd (upd H dx (.own x)) x (.ins (He.ga G.K cn) dx [])) ∧ RS G bd (m ++ [x]) (upd (upd H dx (.own x)) x (.ins (He.ga G.K cn) dx [])) (M ++ [.ins c (List.replicate nf none)]) := by
  have y1 : Ext G m m H (upd H dx (.own x)) := Ext.fresh h2
  have r1 := rs.fresh (o := .own x) h2
  have hx : upd H dx (.own x) x = none := by rw [upd_ne (Ne.symm h3)]; exact h1
  have y2 : Ext G m (m ++ [x]) (upd H dx (.own x)) (upd (upd H dx (.own x)) x (.ins (He.ga G.K cn) dx [])) := Ext.new hx
  refine ⟨y1.andThen r1 y2, r1.new hx ?_⟩
  refine ⟨dx, [], by rw [Fc.lay]; exact upd_same, by rw [upd_ne h3]; exact upd_same, ?_, ?_, fun i y d e1 e2 => ?_, fun y v e => ?_, Nat.zero_le _⟩
  · rw [Fc.lay]; simp [hn]
  · simp [hn]; exact h9
  · rw [List.getElem?_replicate] at e2
    split at e2 <;> cases e2
  · cases e
theorem make_sat {P : Prt} {c nf : Nat} {cn : Str} {fs : List Str} {ds : List D} {vs : List V} {Z : D → Mem → Prop} {Xc : Str → Mem → Prop} {Q : VK} {E : XK} (Fc : ClsF (G.on P) c cn fs) (hn : nf = fs.length) (h9 : fs.length ≤ 900) (rs : RS (G.on P) bd m H M) (r : RVs (G.on P) m H ds vs)
    (h : Sat ((calm (F bd (.ref M.length :: ds) (M ++ [.ins c (List.replicate nf none)]))).bind fun d M2 => match d with | .non => .ok (.ref M.length) M2 | _ => .stuck) Z Xc)
    (k : ∀ d M' m' H' v, Z d M' → Ext (G.on P) m m' H H' → RS (G.on P) bd m' H' M' → RV (G.on P) m' H' d v → Q v H') :
    ∀ x dx, H x = none → H dx = none → dx ≠ x → spF G F (.ref x :: (vs ++ [])) (upd (upd H dx (.own x)) x (.ins (He.ga G.K cn) dx [])) (fun v H2 => v = .non ∧ Q (.ref x) H2) E := by
  intro x dx h1 h2 h3
  obtain ⟨y, rs2⟩ := made_of Fc hn h9 rs h1 h2 h3
  have rx : RV (G.on P) (m ++ [x]) (upd (upd H dx (.own x)) x (.ins (He.ga G.K cn) dx [])) (.ref M.length) (.ref x) := .ref (by rw [rs.len, List.getElem?_append_right (Nat.le_refl _)]; simp)
  refine ⟨P, bd, _, _, _, .cons rx (by rw [List.append_nil]; exact r.mono y), rs2, ?_⟩
  rw [Sat_bind] at h
  refine (sat_calm h).mono (fun d M' z m' H' v x2 s2 r2 => ?_) fun _ _ z => z.elim
  cases r2 with
  | non => exact ⟨rfl, k _ M' m' H' _ z (y.andThen rs2 x2) s2 (rx.mono x2)⟩
  | _ => exact z.elim
def Mkr (G : Gam) (P : Program) (w : World) (K : PySem.W.Frag) (mg : Str → Option Value) (base : Heap) (k : Nat) (cn x : Str) (F : Fn) : Prop := ∃ fA fd ps, Mk K (He.ga G.K cn) fA ∧ FnOk P w K mg base (L2.CX P w) k fA fd ps (spF G F) ∧ mg x = some (.ref (He.ga G.K cn)) ∧ Binds K fd ps []
theorem se_make {c nf : Nat} {cn : Str} {fs : List Str} (hK : X.K = G.K) (Fc : ClsF G c cn fs) (hn : nf = fs.length) (h9 : fs.length ≤ 900) (O : Mkr G X.prog X.w X.K X.mg X.base k cn x F) (hr : Room (k + 1) X.A) (hg : Gl X x)
    (ha : SA G X W (a :: es) fa) (hdb : (x == ("__debug__" : Str)) = false := by decide) (he : starEach (a :: es) X.env = (false, eval a X.env) :: starEach es X.env := by rfl) (hpl : (backTo pos (starEach es X.env)).any (·.1) = false := by rfl) :
    SE G X W (.Call (.Name x p) (a :: es) [] pos) (eMake c nf F fa) := fun bd => by
  obtain ⟨fA, fd, ps, Mc, O, hm, hb⟩ := O
  exact PE.imp (pe_make Mc O hr hg hm hb .nil passL (ha bd) hdb he hpl) fun σ H Q ⟨P, m, e, M, re, rs, h⟩ => (stepA (Ext.refl m H) re rs h).mono fun vs H1 ⟨m1, ds, M1, x1, x01, re1, rs1, r1, h1⟩ =>
    make_sat (Fc.on P) hn h9 rs1 r1 h1 fun d M' m' H' v z y s r => z m' H' v (x01.andThen rs1 y) s r
theorem se_make0 {c nf : Nat} {cn : Str} {fs : List Str} (hK : X.K = G.K) (Fc : ClsF G c cn fs) (hn : nf = fs.length) (h9 : fs.length ≤ 900) (O : Mkr G X.prog X.w X.K X.mg X.base k cn x F) (hr : Room (k + 1) X.A) (hg : Gl X x)
    (hdb : (x == ("__debug__" : Str)) = false := by decide) : SE G X W (.Call (.Name x p) [] [] pos) (eMake c nf F aNil) := fun bd => by
  obtain ⟨fA, fd, ps, Mc, O, hm, hb⟩ := O
  exact PE.imp (pe_make0 Mc O hr hg hm hb .nil passL hdb) fun σ H Q ⟨P, m, e, M, re, rs, h⟩ =>
    make_sat (vs := []) (ds := []) (Fc.on P) hn h9 rs .nil h fun d M' m' H' v z y s r => z m' H' v y s r
end
end
end Sh
set_option Elab.async false
set_option linter.all false
set_option maxRecDepth 100000
set_option maxHeartbeats 4000000
/-! Sh: what is walked; targets; list comprehensions. -/
namespace Sh
open PySem PySem.Spec PyProof.Rows L2
/-! ### more, or fewer, things in the making -/
section
variable {G : Gam} {P P0 : Prt} {m : List Addr} {H : Hp}
def PLe (P P0 : Prt) (H : Hp) : Prop := ∀ a ∈ P.as, a ∈ P0.as ∨ H a = none
theorem PLe.refl : PLe P P H := fun a h => .inl h
theorem PLe.cons {D : Addr} (h : H D = none) : PLe (P.add D) P H := fun a ha => (List.mem_cons.mp ha).elim (fun e => .inr (e ▸ h)) .inl
theorem PLe.tail {D : Addr} : PLe P (P.add D) H := fun a ha => .inl (List.mem_cons_of_mem _ ha)
mutual
theorem RV.prot (hp : PLe P P0 H) : ∀ {d : D} {v : V}, RV (G.on P0) m H d v → RV (G.on P) m H d v
  | _, _, .non => .non
  | _, _, .bl b => .bl b
  | _, _, .int i => .int i
  | _, _, .str y => .str y
  | _, _, .tup a b => .tup a (RVs.prot hp b)
  | _, _, .cst a b => .cst a (RVs.prot hp b)
  | _, _, .lst a n n2 b => .lst a n (fun z => (hp _ z).elim n2 fun e => by rw [e] at a; cases a) (RVs.prot hp b)
  | _, _, .scr a b => .scr a (RVs.prot hp b)
  | _, _, .ref e => .ref e
theorem RVs.prot (hp : PLe P P0 H) : ∀ {ds : List D} {us : List V}, RVs (G.on P0) m H ds us → RVs (G.on P) m H ds us
  | _, _, .nil => .nil
  | _, _, .cons a b => .cons (RV.prot hp a) (RVs.prot hp b)
end
theorem InsOk.prot {c : Nat} {fs : List (Option D)} {fus : List (Str × V)} (hp : PLe P P0 H) (h : InsOk (G.on P0) m H c fs fus) : InsOk (G.on P) m H c fs fus :=
  ⟨h.len, h.few, fun i y d e1 e2 => let ⟨v, h1, h2⟩ := h.at_ i y d e1 e2; ⟨v, h1, h2.prot hp⟩, h.keys, h.size⟩
theorem KVs.prot {κ : Type} (hp : PLe P P0 H) {a : List (κ × D)} {b : List (κ × V)} (h : KVs (G.on P0) m H a b) : KVs (G.on P) m H a b := Paired.mapP h fun _ _ z => ⟨z.1, z.2.prot hp⟩
theorem RO.prot {a : Addr} {o : MO} (hp : PLe P P0 H) (h : RO (G.on P0) m H a o) : RO (G.on P) m H a o := by
  cases o with
  | lst ds => obtain ⟨us, q, r⟩ := h; exact ⟨us, q, r.prot hp⟩
  | dK kvs => obtain ⟨us, q, r⟩ := h; exact ⟨us, q, KVs.prot hp r⟩
  | dT kvs => obtain ⟨us, q, r⟩ := h; exact ⟨us, q, KVs.prot hp r⟩
  | ins c fs => obtain ⟨dx, us, q, q2, r⟩ := h; exact ⟨dx, us, q, q2, r.prot hp⟩
theorem RS.prot {bd : Nat} {M : Mem} (hp : PLe P P0 H) (hC : P.C = P0.C) (ht : ∀ a ∈ P.as, H a ≠ none) (h : RS (G.on P0) bd m H M) : RS (G.on P) bd m H M :=
  ⟨h.len, h.nd, fun n o e => let ⟨a, e2, r⟩ := h.at_ n o e; ⟨a, e2, r.prot hp⟩, fun b hb => h.low b (hC ▸ hb), fun b hb => h.cs b (hC ▸ hb), h.le, ht⟩
theorem RE.prot {e : Env} {σ : L2.St} (hp : PLe P P0 H) (h : RE (G.on P0) m H e σ) : RE (G.on P) m H e σ := ⟨h.len, fun i d z => let ⟨v, a, b⟩ := h.at_ i d z; ⟨v, a, b.prot hp⟩⟩
theorem Ext.chg {G' : Gam} {m' : List Addr} {H' : Hp} (x : Ext G m m' H H') : Ext G' m m' H H' := ⟨x.pre, x.keep, x.here, x.tups, x.frzs⟩
/-- a protected thing written anew -/
theorem updP_ne {D a : Addr} {o u : HO} (hd : H D = some (.lst us)) (e : H a = some u) (hu : ∀ ws, u ≠ .lst ws) : upd H D o a = some u := by
  rw [upd_ne]; exact e
  rintro rfl
  rw [hd] at e
  cases e
  exact hu _ rfl
mutual
theorem RV.updP {D : Addr} {us : List V} {o : HO} (hm : D ∈ P.as) (hd : H D = some (.lst us)) : ∀ {d : Sh.D} {v : V}, RV (G.on P) m H d v → RV (G.on P) m (upd H D o) d v
  | _, _, .non => .non
  | _, _, .bl b => .bl b
  | _, _, .int i => .int i
  | _, _, .str y => .str y
  | _, _, .tup a b => .tup (updP_ne hd a (by intro _ z; cases z)) (RVs.updP hm hd b)
  | _, _, .cst a b => .cst a (RVs.updP hm hd b)
  | _, _, .lst a n n2 b => .lst (by rw [upd_ne (by rintro rfl; exact n2 hm)]; exact a) n n2 (RVs.updP hm hd b)
  | _, _, .scr a b => .scr (by
    rcases a with ⟨o', q⟩ | q
    · exact .inl ⟨o', updP_ne hd q (by intro _ z; cases z)⟩
    · exact .inr q) (RVs.updP hm hd b)
  | _, _, .ref e => .ref e
theorem RVs.updP {D : Addr} {us : List V} {o : HO} (hm : D ∈ P.as) (hd : H D = some (.lst us)) : ∀ {ds : List Sh.D} {ws : List V}, RVs (G.on P) m H ds ws → RVs (G.on P) m (upd H D o) ds ws
  | _, _, .nil => .nil
  | _, _, .cons a b => .cons (RV.updP hm hd a) (RVs.updP hm hd b)
end
theorem RO.updP {D a : Addr} {us : List V} {o : HO} {mo : MO} (hm : D ∈ P.as) (hd : H D = some (.lst us)) (ha : a ≠ D) (h : RO (G.on P) m H a mo) : RO (G.on P) m (upd H D o) a mo := by
  have e : ∀ {u}, H a = some u → upd H D o a = some u := fun q => by rw [upd_ne ha]; exact q
  cases mo with
  | lst ds => obtain ⟨us, q, r⟩ := h; exact ⟨us, e q, r.updP hm hd⟩
  | dK kvs => obtain ⟨us, q, r⟩ := h; exact ⟨us, e q, Paired.mapP r fun _ _ z => ⟨z.1, z.2.updP hm hd⟩⟩
  | dT kvs => obtain ⟨us, q, r⟩ := h; exact ⟨us, e q, Paired.mapP r fun _ _ z => ⟨z.1, z.2.updP hm hd⟩⟩
  | ins c fs =>
    obtain ⟨dx, us, q, q2, r⟩ := h
    exact ⟨dx, us, e q, updP_ne hd q2 (by intro _ z; cases z), r.len, r.few, fun i y d e1 e2 => let ⟨v, h1, h2⟩ := r.at_ i y d e1 e2; ⟨v, h1, h2.updP hm hd⟩, r.keys, r.size⟩
theorem RS.updP {bd : Nat} {M : Mem} {D : Addr} {us : List V} {o : HO} (hm : D ∈ P.as) (hd : H D = some (.lst us)) (hn : D ∉ m) (h : RS (G.on P) bd m H M) : RS (G.on P) bd m (upd H D o) M :=
  ⟨h.len, h.nd, fun n mo e => let ⟨a, e2, r⟩ := h.at_ n mo e; ⟨a, e2, r.updP hm hd (fun z => hn (z ▸ List.mem_of_getElem? e2))⟩, h.low, h.cs, h.le, fun a ha => by
    by_cases z : a = D
    · subst z; rw [upd_same]; simp
    · rw [upd_ne z]; exact h.trk a ha⟩
/-- from before it was there -/
theorem Ext.set_new {m' : List Addr} {H' : Hp} {D : Addr} {us : List V} {o : HO} (x : Ext G m m' H H') (h : H D = none) (hd : H' D = some (.lst us)) : Ext G m m' H (upd H' D o) where
  pre := x.pre
  keep := fun a u e n => by rw [upd_ne (ne_of_none e h)]; exact x.keep a u e n
  here := fun a e => by
    by_cases z : a = D
    · subst z; exact absurd h e
    · rw [upd_ne z]; exact x.here a e
  tups := fun a u e => by rw [upd_ne (ne_of_none e h)]; exact x.tups a u e
  frzs := fun a o u e => by rw [upd_ne (ne_of_none e h)]; exact x.frzs a o u e
end
/-! ### what is walked -/
abbrev Src := Mem → Option (List D)
abbrev IF := Nat → Env → Mem → R Src
/-- J yields the items of src, from (m1, H1) on -/
def Walk (G : Gam) (P0 : Prt) (J : It) (src : Src) (m1 : List Addr) (H1 : Hp) : Prop := ∀ (P : Prt) (bd : Nat) (m : List Addr) (H : Hp) (M : Mem) (ds : List D) (i : Nat),
  PLe P P0 H1 → Ext G m1 m H1 H → RS (G.on P) bd m H M → src M = some ds →
    (∀ d, ds[i]? = some d → J.go i H ∧ ∀ x H', J.yld i H x H' → Ext G m m H H' ∧ RS (G.on P) bd m H' M ∧ RV (G.on P) m H' d x) ∧ (ds.length ≤ i → J.stop i H)
def tI (G : Gam) (W : WX) (bd : Nat) (f : IF) : TI := fun σ H Rr => ∃ P m e M, RE (G.on P) m H e σ ∧ RS (G.on P) bd m H M ∧
  Sat (f bd e M) (fun src M' => ∀ m' H' J, Ext (G.on P) m m' H H' → RS (G.on P) bd m' H' M' → Walk G P J src m' H' → Rr J H') (XW (G.on P) W bd σ m H)
def SI (G : Gam) (X : Cx) (W : WX) (tg e : Expr) (f : IF) : Prop := ∀ bd, PI X tg e (tI G W bd f)
def tupOf : D → Option (List D)
  | .tup ds => some ds
  | .cst ds => some ds
  | _ => none
section
variable {G : Gam} {X : Cx} {W : WX} {bd : Nat} {f g h : EF} {fb gb : BF} {fa : AF} {a b c tg : Expr} {pos p : Pos} {σ : L2.St} {H H0 : Hp} {m m0 : List Addr} {M : Mem} {e : Env}
theorem PI.imp {tg e : Expr} {t t' : TI} (p : PI X tg e t) (i : ∀ σ H Q, t' σ H Q → t σ H Q) : PI X tg e t' := ⟨fun pins s σ H Q I h => p.run pins s σ H Q I (i _ _ _ h)⟩
theorem tup_of {d : D} {v : V} {ds : List D} (r : RV G m H d v) (h : tupOf d = some ds) : ∃ a us, v = .ref a ∧ SqT G.K H a us ∧ RVs G m H ds us := by
  cases r with
  | tup q s => cases h; exact ⟨_, _, rfl, SqT.of q, s⟩
  | cst q s => cases h; exact ⟨_, _, rfl, q H, s⟩
  | _ => cases h
def iLst (f : EF) : IF := fun bd e M => (f bd e M).bind fun d M1 => if (lstOf M1 d).isSome = true then .ok (fun M => lstOf M d) M1 else .stuck
def iTpl (f : EF) : IF := fun bd e M => (f bd e M).bind fun d M1 => match tupOf d with
  | some ds => .ok (fun _ => some ds) M1
  | none => .stuck
/-- what is known of a value, later -/
theorem later {P0 P : Prt} {m1 : List Addr} {H1 : Hp} {d : D} {v : V} (r : RV (G.on P0) m1 H1 d v) (hp : PLe P P0 H1) (x : Ext G m1 m H1 H) : RV (G.on P) m H d v := (r.prot hp).mono x.chg
theorem walk_list {P0 : Prt} {m1 : List Addr} {H1 : Hp} {d : D} {q : Addr} (r : RV (G.on P0) m1 H1 d (.ref q)) : Walk G P0 (Itl G.K q) (fun M => lstOf M d) m1 H1 := fun P bd m H M ds i hp x rs hs => by
  obtain ⟨a, us, e1, sq, rv⟩ := lst_of rs (later r hp x) hs
  cases e1
  refine ⟨fun d' hd => ?_, fun hl => ⟨us, sq, by rw [← rv.length]; exact hl⟩⟩
  obtain ⟨u, hu, ru⟩ := rv.get hd
  refine ⟨⟨us, u, sq, hu⟩, fun y H' hy => ?_⟩
  obtain ⟨rfl, hy⟩ := hy
  have := hy us sq
  rw [hu] at this
  cases this
  exact ⟨Ext.refl _ _, rs, ru⟩
theorem walk_tup {P0 : Prt} {m1 : List Addr} {H1 : Hp} {d : D} {ds : List D} {q : Addr} (r : RV (G.on P0) m1 H1 d (.ref q)) (ht : tupOf d = some ds) : Walk G P0 (Itt G.K q) (fun _ => some ds) m1 H1 := fun P bd m H M ds i hp x rs hs => by
  cases hs
  obtain ⟨a, us, e1, sq, rv⟩ := tup_of (later r hp x) ht
  cases e1
  refine ⟨fun d' hd => ?_, fun hl => ⟨us, sq, by rw [← rv.length]; exact hl⟩⟩
  obtain ⟨u, hu, ru⟩ := rv.get hd
  refine ⟨⟨us, u, sq, hu⟩, fun y H' hy => ?_⟩
  obtain ⟨rfl, hy⟩ := hy
  have := hy us sq
  rw [hu] at this
  cases this
  exact ⟨Ext.refl _ _, rs, ru⟩
theorem si_lst (hK : X.K = G.K) (ha : SE G X W a f) : SI G X W tg a (iLst f) := fun bd =>
  PI.imp (pi_list (ha bd)) fun σ H Q ⟨P, m, e, M, re, rs, h⟩ => (step (Ext.refl m H) re rs h).mono fun v H1 ⟨m1, d, M1, x1, x01, re1, rs1, r1, h1⟩ => by
    split at h1
    · rename_i hl
      obtain ⟨ds, hl⟩ := Option.isSome_iff_exists.mp hl
      obtain ⟨q, us, rfl, sq, rv⟩ := lst_of rs1 r1 hl
      rw [hK]
      exact ⟨q, rfl, ⟨us, sq⟩, h1 m1 H1 _ x01 rs1 (walk_list r1)⟩
    · exact h1.elim
theorem si_tpl (hK : X.K = G.K) (ha : SE G X W a f) : SI G X W tg a (iTpl f) := fun bd =>
  PI.imp (pi_tup (ha bd)) fun σ H Q ⟨P, m, e, M, re, rs, h⟩ => (step (Ext.refl m H) re rs h).mono fun v H1 ⟨m1, d, M1, x1, x01, re1, rs1, r1, h1⟩ => by
    split at h1
    · rename_i ds hl
      obtain ⟨q, us, rfl, sq, rv⟩ := tup_of r1 hl
      rw [hK]
      exact ⟨q, rfl, ⟨us, sq⟩, h1 m1 H1 _ x01 rs1 (walk_tup r1 hl)⟩
    · exact h1.elim
/-- lo, lo + 1, .. -/
def ups (lo : Int) (n : Nat) : List D := (List.range n).map fun i : Nat => D.int (lo + (i : Int))
def upsC (lo c : Int) (n : Nat) : List D := (List.range n).map fun i : Nat => D.int (lo + (i : Int) * c)
theorem ups_get {lo : Int} {n i : Nat} {d : D} (h : (ups lo n)[i]? = some d) : i < n ∧ d = .int (lo + i) := by
  unfold ups at h
  rw [List.getElem?_map, Option.map_eq_some_iff] at h
  obtain ⟨j, h1, h2⟩ := h
  obtain ⟨h3, h4⟩ := List.getElem?_eq_some_iff.mp h1
  simp only [List.length_range] at h3
  simp only [List.getElem_range] at h4
  subst h4
  exact ⟨h3, h2.symm⟩
theorem walk_range {P0 : Prt} {m1 : List Addr} {H1 : Hp} (lo : Int) (n : Nat) : Walk G P0 (Itr lo n) (fun _ => some (ups lo n)) m1 H1 := fun P bd m H M ds i hp x rs hs => by
  cases hs
  refine ⟨fun d hd => ?_, fun hl => ?_⟩
  · obtain ⟨h1, rfl⟩ := ups_get hd
    refine ⟨h1, fun y H' hy => ?_⟩
    obtain ⟨rfl, rfl⟩ := hy
    exact ⟨Ext.refl _ _, rs, .int _⟩
  · show n ≤ i
    simpa [ups] using hl
theorem upsC_get {lo c : Int} {n i : Nat} {d : D} (h : (upsC lo c n)[i]? = some d) : i < n ∧ d = .int (lo + i * c) := by
  unfold upsC at h
  rw [List.getElem?_map, Option.map_eq_some_iff] at h
  obtain ⟨j, h1, h2⟩ := h
  obtain ⟨h3, h4⟩ := List.getElem?_eq_some_iff.mp h1
  simp only [List.length_range] at h3
  simp only [List.getElem_range] at h4
  subst h4
  exact ⟨h3, h2.symm⟩
theorem walk_rangeC {P0 : Prt} {m1 : List Addr} {H1 : Hp} (lo c : Int) (n : Nat) : Walk G P0 (Itc lo c n) (fun _ => some (upsC lo c n)) m1 H1 := fun P bd m H M ds i hp x rs hs => by
  cases hs
  refine ⟨fun d hd => ?_, fun hl => ?_⟩
  · obtain ⟨h1, rfl⟩ := upsC_get hd
    refine ⟨h1, fun y H' hy => ?_⟩
    obtain ⟨rfl, rfl⟩ := hy
    exact ⟨Ext.refl _ _, rs, .int _⟩
  · show n ≤ i
    simpa [upsC] using hl
def small (i : Int) : Bool := decide (-(2 ^ 62) ≤ i) && decide (i < 2 ^ 62)
theorem small_iff {i : Int} (h : small i = true) : -(2 ^ 62) ≤ i ∧ i < 2 ^ 62 := by
  simpa [small] using h
def iRg1 (t : AF) : IF := fun bd e M => (t bd e M).bind fun ds M1 => match ds with
  | [.int j] => if small j = true then .ok (fun _ => some (ups 0 j.toNat)) M1 else .stuck
  | _ => .stuck
def iRg2 (t : AF) : IF := fun bd e M => (t bd e M).bind fun ds M1 => match ds with
  | [.int i, .int j] => if (small i && small j) = true then .ok (fun _ => some (ups i (j - i).toNat)) M1 else .stuck
  | _ => .stuck
/-- range(i, j, -1) -/
def iRg3 (t : AF) : IF := fun bd e M => (t bd e M).bind fun ds M1 => match ds with
  | [.int i, .int j, .int c] => if (small i && small j && decide (c = -1)) = true then .ok (fun _ => some (upsC i (-1) (i - j).toNat)) M1 else .stuck
  | _ => .stuck
theorem RVs.one' {d : D} {us : List V} (r : RVs G m H [d] us) : ∃ u, us = [u] ∧ RV G m H d u := by
  cases r with | cons a b => cases b; exact ⟨_, rfl, a⟩
theorem si_range1 (hg : Gl X "range") (hm : X.mg "range" = none) (ha : SA G X W [a] fa) (hs : starEach [a] X.env = [(false, eval a X.env)] := by rfl) : SI G X W tg (.Call (.Name "range" p) [a] [] pos) (iRg1 fa) := fun bd =>
  PI.imp (pi_range1 hg hm (ha bd) hs) fun σ H Q ⟨P, m, e, M, re, rs, h⟩ => (stepA (Ext.refl m H) re rs h).mono fun vs H1 ⟨m1, ds, M1, x1, x01, re1, rs1, r1, h1⟩ => by
    split at h1
    · rename_i j
      split at h1
      · rename_i hc
        cases r1 with | cons q r2 => cases r2; cases q; exact ⟨j, rfl, (small_iff hc).1, (small_iff hc).2, h1 m1 H1 _ x01 rs1 (walk_range 0 _)⟩
      · exact h1.elim
    · exact h1.elim
theorem si_range2 (hg : Gl X "range") (hm : X.mg "range" = none) (ha : SA G X W [a, b] fa) (hs : starEach [a, b] X.env = [(false, eval a X.env), (false, eval b X.env)] := by rfl) (hs2 : starEach [b] X.env = [(false, eval b X.env)] := by rfl) :
    SI G X W tg (.Call (.Name "range" p) [a, b] [] pos) (iRg2 fa) := fun bd =>
  PI.imp (pi_range2 hg hm (ha bd) hs hs2) fun σ H Q ⟨P, m, e, M, re, rs, h⟩ => (stepA (Ext.refl m H) re rs h).mono fun vs H1 ⟨m1, ds, M1, x1, x01, re1, rs1, r1, h1⟩ => by
    split at h1
    · rename_i i j
      split at h1
      · rename_i hc
        simp only [Bool.and_eq_true] at hc
        cases r1 with | cons q r2 => cases r2 with | cons q2 r3 => cases r3; cases q; cases q2; exact ⟨i, j, rfl, ⟨(small_iff hc.1).1, (small_iff hc.1).2, (small_iff hc.2).1, (small_iff hc.2).2⟩, h1 m1 H1 _ x01 rs1 (walk_range i _)⟩
      · exact h1.elim
    · exact h1.elim
theorem si_range3 (hg : Gl X "range") (hm : X.mg "range" = none) (ha : SA G X W [a, b, c] fa)
    (hs : starEach [a, b, c] X.env = (false, eval a X.env) :: starEach [b, c] X.env := by rfl) (hpl : (backTo pos (starEach [b, c] X.env)).any (·.1) = false := by rfl) :
    SI G X W tg (.Call (.Name "range" p) [a, b, c] [] pos) (iRg3 fa) := fun bd =>
  PI.imp (pi_range3 hg hm (ha bd) hs hpl) fun σ H Q ⟨P, m, e, M, re, rs, h⟩ => (stepA (Ext.refl m H) re rs h).mono fun vs H1 ⟨m1, ds, M1, x1, x01, re1, rs1, r1, h1⟩ => by
    split at h1
    · rename_i i j c
      split at h1
      · rename_i hc
        simp only [Bool.and_eq_true, decide_eq_true_eq] at hc
        obtain ⟨⟨hi, hj⟩, rfl⟩ := hc
        cases r1 with | cons q r2 => cases r2 with | cons q2 r3 => cases r3 with | cons q3 r4 =>
          cases r4; cases q; cases q2; cases q3
          exact ⟨i, j, -1, _, rfl, RgC.neg (small_iff hi).1 (small_iff hi).2 (small_iff hj).1 (small_iff hj).2, h1 m1 H1 _ x01 rs1 (walk_rangeC i (-1) _)⟩
      · exact h1.elim
    · exact h1.elim
/-- enumerate(a list) -/
def enumD (ds : List D) : List D := ds.zipIdx.map fun p => D.tup [.int (p.2 : Nat), p.1]
theorem enumD_get {ds : List D} {i : Nat} {d : D} (h : (enumD ds)[i]? = some d) : ∃ y, ds[i]? = some y ∧ d = .tup [.int (i : Nat), y] := by
  unfold enumD at h
  rw [List.getElem?_map, Option.map_eq_some_iff] at h
  obtain ⟨q, h1, h2⟩ := h
  rw [List.getElem?_zipIdx] at h1
  obtain ⟨y, h3, h4⟩ := Option.map_eq_some_iff.mp h1
  subst h4
  refine ⟨y, h3, ?_⟩
  rw [← h2]
  simp
def iEnu (t : AF) : IF := fun bd e M => (t bd e M).bind fun ds M1 => match ds with
  | [d] => if (lstOf M1 d).isSome = true then .ok (fun M => (lstOf M d).map enumD) M1 else .stuck
  | _ => .stuck
theorem walk_enum {P0 : Prt} {m1 : List Addr} {H1 : Hp} {d : D} {q : Addr} (r : RV (G.on P0) m1 H1 d (.ref q)) : Walk G P0 (Ite G.K q) (fun M => (lstOf M d).map enumD) m1 H1 := fun P bd m H M ds i hp x rs hs => by
  obtain ⟨ds', hl, rfl⟩ := Option.map_eq_some_iff.mp hs
  obtain ⟨a, us, e1, sq, rv⟩ := lst_of rs (later r hp x) hl
  cases e1
  refine ⟨fun d' hd => ?_, fun hl' => ⟨us, sq, by rw [← rv.length]; simpa [enumD] using hl'⟩⟩
  obtain ⟨y, hy, rfl⟩ := enumD_get hd
  obtain ⟨u, hu, ru⟩ := rv.get hy
  refine ⟨⟨us, u, sq, hu⟩, fun z H' hz => ?_⟩
  obtain ⟨T, x', rfl, hT, rfl, hz⟩ := hz
  have := hz us sq
  rw [hu] at this
  cases this
  exact ⟨Ext.fresh hT, rs.fresh hT, .tup upd_same (.cons (.int _) (.cons (ru.mono (Ext.fresh hT)) .nil))⟩
theorem si_enum {elts : List Expr} {kk : Nat} {tpos : Pos} (hK : X.K = G.K) (hg : Gl X "enumerate") (hm : X.mg "enumerate" = none) (ha : SA G X W [a] fa) (hs : starEach [a] X.env = [(false, eval a X.env)] := by rfl) : SI G X W (.Tuple elts kk tpos) (.Call (.Name "enumerate" p) [a] [] pos) (iEnu fa) := fun bd =>
  PI.imp (pi_enum hg hm (ha bd) hs) fun σ H Q ⟨P, m, e, M, re, rs, h⟩ => (stepA (Ext.refl m H) re rs h).mono fun vs H1 ⟨m1, ds, M1, x1, x01, re1, rs1, r1, h1⟩ => by
    split at h1
    · rename_i d
      split at h1
      · rename_i hl
        obtain ⟨ds, hl⟩ := Option.isSome_iff_exists.mp hl
        obtain ⟨u, rfl, r2⟩ := r1.one'
        obtain ⟨q, us, rfl, sq, rv⟩ := lst_of rs1 r2 hl
        rw [hK]
        exact ⟨q, us, rfl, sq, h1 m1 H1 _ x01 rs1 (walk_enum r2)⟩
      · exact h1.elim
    · exact h1.elim
/-- zip of two lists, of two tuples -/
def zipD (xs ys : List D) : List D := List.zipWith (fun x y => D.tup [x, y]) xs ys
theorem zipD_get {xs ys : List D} {i : Nat} {d : D} (h : (zipD xs ys)[i]? = some d) : ∃ x y, xs[i]? = some x ∧ ys[i]? = some y ∧ d = .tup [x, y] := by
  unfold zipD at h
  rw [List.getElem?_zipWith] at h
  split at h
  · rename_i x y h1 h2; cases h; exact ⟨x, y, h1, h2, rfl⟩
  · cases h
def iZp (t : AF) : IF := fun bd e M => (t bd e M).bind fun ds M1 => match ds with
  | [d, d2] => (match lstOf M1 d, lstOf M1 d2 with
    | some _, some _ => .ok (fun M => match lstOf M d, lstOf M d2 with
      | some xs, some ys => some (zipD xs ys)
      | _, _ => none) M1
    | _, _ => (match tupOf d, tupOf d2 with
      | some xs, some ys => .ok (fun _ => some (zipD xs ys)) M1
      | _, _ => .stuck))
  | _ => .stuck
theorem zip_len {xs ys : List D} {i : Nat} (h : (zipD xs ys).length ≤ i) : xs.length ≤ i ∨ ys.length ≤ i := by
  unfold zipD at h
  rw [List.length_zipWith] at h
  omega
theorem walk_zip {P0 : Prt} {m1 : List Addr} {H1 : Hp} {d d2 : D} {q q2 : Addr} (r : RV (G.on P0) m1 H1 d (.ref q)) (r2 : RV (G.on P0) m1 H1 d2 (.ref q2)) : Walk G P0 (Itz G.K q q2) (fun M => match lstOf M d, lstOf M d2 with
      | some xs, some ys => some (zipD xs ys)
      | _, _ => none) m1 H1 := fun P bd m H M ds i hp x rs hs => by
  simp only at hs
  split at hs
  · rename_i xs ys hl hl2
    cases hs
    obtain ⟨a, us, e1, sq, rv⟩ := lst_of rs (later r hp x) hl
    obtain ⟨a2, us2, e2, sq2, rv2⟩ := lst_of rs (later r2 hp x) hl2
    cases e1; cases e2
    refine ⟨fun d' hd => ?_, fun hl' => ⟨us, us2, sq, sq2, by rw [← rv.length, ← rv2.length]; exact zip_len hl'⟩⟩
    obtain ⟨y, y2, hy, hy2, rfl⟩ := zipD_get hd
    obtain ⟨u, hu, ru⟩ := rv.get hy
    obtain ⟨u2, hu2, ru2⟩ := rv2.get hy2
    refine ⟨⟨us, us2, u, u2, sq, sq2, hu, hu2⟩, fun z H' hz => ?_⟩
    obtain ⟨T, x', x2, rfl, hT, rfl, hz, hz2⟩ := hz
    have := hz us sq
    rw [hu] at this
    cases this
    have := hz2 us2 sq2
    rw [hu2] at this
    cases this
    exact ⟨Ext.fresh hT, rs.fresh hT, .tup upd_same (.cons (ru.mono (Ext.fresh hT)) (.cons (ru2.mono (Ext.fresh hT)) .nil))⟩
  · cases hs
theorem walk_zipT {P0 : Prt} {m1 : List Addr} {H1 : Hp} {d d2 : D} {q q2 : Addr} {xs ys : List D} (r : RV (G.on P0) m1 H1 d (.ref q)) (r2 : RV (G.on P0) m1 H1 d2 (.ref q2)) (hl : tupOf d = some xs) (hl2 : tupOf d2 = some ys) : Walk G P0 (RZ.ItzT G.K q q2) (fun _ => some (zipD xs ys)) m1 H1 := fun P bd m H M ds i hp x rs hs => by
  cases hs
  obtain ⟨a, us, e1, sq, rv⟩ := tup_of (later r hp x) hl
  obtain ⟨a2, us2, e2, sq2, rv2⟩ := tup_of (later r2 hp x) hl2
  cases e1; cases e2
  refine ⟨fun d' hd => ?_, fun hl' => ⟨us, us2, sq, sq2, by rw [← rv.length, ← rv2.length]; exact zip_len hl'⟩⟩
  obtain ⟨y, y2, hy, hy2, rfl⟩ := zipD_get hd
  obtain ⟨u, hu, ru⟩ := rv.get hy
  obtain ⟨u2, hu2, ru2⟩ := rv2.get hy2
  refine ⟨⟨us, us2, u, u2, sq, sq2, hu, hu2⟩, fun z H' hz => ?_⟩
  obtain ⟨T, x', x2, rfl, hT, rfl, hz, hz2⟩ := hz
  have := hz us sq
  rw [hu] at this
  cases this
  have := hz2 us2 sq2
  rw [hu2] at this
  cases this
  exact ⟨Ext.fresh hT, rs.fresh hT, .tup upd_same (.cons (ru.mono (Ext.fresh hT)) (.cons (ru2.mono (Ext.fresh hT)) .nil))⟩
theorem zipA_of (hK : X.K = G.K) : ∀ σ H Q, tI G W bd (iZp fa) σ H Q → RZ.iZipA X.K (tA G W bd fa) σ H Q :=
  fun σ H Q ⟨P, m, e, M, re, rs, h⟩ => (stepA (Ext.refl m H) re rs h).mono fun vs H1 ⟨m1, ds, M1, x1, x01, re1, rs1, r1, h1⟩ => by
    split at h1
    · rename_i d d2
      cases r1 with | cons ra r2 => cases r2 with | cons rb r3 =>
      cases r3
      split at h1
      · rename_i xs ys hl hl2
        obtain ⟨q, us, rfl, sq, rv⟩ := lst_of rs1 ra hl
        obtain ⟨q2, us2, rfl, sq2, rv2⟩ := lst_of rs1 rb hl2
        rw [hK]
        exact ⟨q, q2, us, us2, rfl, .inl ⟨sq, sq2, h1 m1 H1 _ x01 rs1 (walk_zip ra rb)⟩⟩
      · split at h1
        · rename_i xs ys hl hl2
          obtain ⟨q, us, rfl, sq, rv⟩ := tup_of ra hl
          obtain ⟨q2, us2, rfl, sq2, rv2⟩ := tup_of rb hl2
          rw [hK]
          exact ⟨q, q2, us, us2, rfl, .inr ⟨sq, sq2, h1 m1 H1 _ x01 rs1 (walk_zipT ra rb hl hl2)⟩⟩
        · exact h1.elim
    · exact h1.elim
theorem si_zip {elts : List Expr} {kk : Nat} {tpos : Pos} (hK : X.K = G.K) (hg : Gl X "zip") (hm : X.mg "zip" = none) (ha : SA G X W [a, b] fa) (hs : starEach [a, b] X.env = (false, eval a X.env) :: starEach [b] X.env := by rfl) (hpl : (backTo pos (starEach [b] X.env)).any (·.1) = false := by rfl) :
    SI G X W (.Tuple elts kk tpos) (.Call (.Name "zip" p) [a, b] [] pos) (iZp fa) := fun bd =>
  PI.imp (RZ.pi_zipA hg hm (ha bd) hs hpl) (zipA_of hK)
end
end Sh
set_option Elab.async false
set_option linter.all false
set_option maxRecDepth 100000
set_option maxHeartbeats 4000000
/-! Sh: targets; list comprehensions. -/
namespace Sh
open PySem PySem.Spec PyProof.Rows L2
abbrev GF := Nat → D → Env → Mem → R Env
abbrev GFs := Nat → List D → Env → Mem → R Env
def NoE : Str → Mem → Prop := fun _ _ => False
def tG (G : Gam) (bd : Nat) (vs : List Nat) (f : GF) : TG := fun v σ H Q => ∃ P m e M d, RE (G.on P) m H e σ ∧ RS (G.on P) bd m H M ∧ RV (G.on P) m H d v ∧
  Sat (f bd d e M) (fun e' M' => ∀ m' H' σ', Ext (G.on P) m m' H H' → RS (G.on P) bd m' H' M' → RE (G.on P) m' H' e' σ' → wipe σ' vs = wipe σ vs → Q σ' H') NoE
def tGs (G : Gam) (bd : Nat) (vs : List Nat) (f : GFs) : TGs := fun ws σ H Q => ∃ P m e M ds, RE (G.on P) m H e σ ∧ RS (G.on P) bd m H M ∧ RVs (G.on P) m H ds ws ∧
  Sat (f bd ds e M) (fun e' M' => ∀ m' H' σ', Ext (G.on P) m m' H H' → RS (G.on P) bd m' H' M' → RE (G.on P) m' H' e' σ' → wipe σ' vs = wipe σ vs → Q σ' H') NoE
def SG (G : Gam) (X : Cx) (vs : List Nat) (tg : Expr) (f : GF) : Prop := ∀ bd, PG X tg (tG G bd vs f)
def SGs (G : Gam) (X : Cx) (vs : List Nat) (tg : List Expr) (f : GFs) : Prop := ∀ bd, PGs X tg (tGs G bd vs f)
theorem wipe_set1 {σ : L2.St} {i : Nat} {x : Option V} : ∀ vs : List Nat, (wipe (σ.set i x) vs).set i none = (wipe σ vs).set i none
  | [] => by simp [wipe]
  | w :: r => by
    have ih := wipe_set1 (σ := σ) (i := i) (x := x) r
    unfold wipe
    by_cases h : w = i
    · subst h; rw [List.set_set, List.set_set]; exact ih
    · rw [List.set_comm _ _ h, ih, List.set_comm _ _ (Ne.symm h)]
theorem wipe_set {σ : L2.St} {i : Nat} {x : Option V} : ∀ {vs : List Nat}, i ∈ vs → wipe (σ.set i x) vs = wipe σ vs
  | w :: r, h => by
    unfold wipe
    by_cases e : w = i
    · subst e; exact wipe_set1 r
    · rw [wipe_set (vs := r) ((List.mem_cons.mp h).resolve_left (fun z => e z.symm))]
section
variable {G : Gam} {X : Cx} {W : WX} {bd : Nat} {f g h : EF} {fb gb : BF} {fa : AF} {a b c tg : Expr} {pos p : Pos} {σ : L2.St} {H H0 : Hp} {m m0 : List Addr} {M : Mem} {e : Env}
theorem PG.imp {tg : Expr} {t t' : TG} (p : PG X tg t) (i : ∀ v σ H Q, t' v σ H Q → t v σ H Q) : PG X tg t' := ⟨fun pins s σ H v u Q I r h => p.run pins s σ H v u Q I r (i _ _ _ _ h)⟩
theorem PGs.imp {tg : List Expr} {t t' : TGs} (p : PGs X tg t) (i : ∀ v σ H Q, t' v σ H Q → t v σ H Q) : PGs X tg t' := ⟨fun pins s σ H v u Q I r h => p.run pins s σ H v u Q I r (i _ _ _ _ h)⟩
theorem RE.set {i : Nat} {d : D} {v : V} (re : RE G m H e σ) (r : RV G m H d v) : RE G m H (e.set i (some d)) (σ.set i (some v)) where
  len := by simp [re.len]
  at_ := fun j d' z => by
    by_cases h : i = j
    · subst h
      have hl : i < e.length := by simpa using (List.getElem?_eq_some_iff.mp z).1
      rw [List.getElem?_set_self hl] at z
      cases z
      exact ⟨v, List.getElem?_set_self (by rw [← re.len]; exact hl), r⟩
    · rw [List.getElem?_set_ne h] at z
      rw [List.getElem?_set_ne h]
      exact re.at_ j d' z
def gNm (i : Nat) : GF := fun _ d e M => .ok (e.set i (some d)) M
theorem sg_name {i : Nat} {x : Str} {vs : List Nat} (hv : i ∈ vs) (hN : X.N.Nodup) (hi : X.N[i]? = some x) (hx : Loc X.env.scope x) (hf : X.fn x = true ∨ X.env.scope.names.lookup x = some .local) : SG G X vs (.Name x pos) (gNm i) := fun bd =>
  PG.imp (pg_name hN hi hx hf) fun v σ H Q ⟨P, m, e, M, d, re, rs, r, h⟩ => h m H _ (Ext.refl _ _) rs (re.set r) (wipe_set hv)
def gsNil : GFs := fun _ ds e M => match ds with
  | [] => .ok e M
  | _ => .stuck
def gsCons (f : GF) (t : GFs) : GFs := fun bd ds e M => match ds with
  | d :: r => (f bd d e M).bind fun e' M' => t bd r e' M'
  | _ => .stuck
theorem sgs_nil {vs : List Nat} : SGs G X vs [] gsNil := fun bd =>
  PGs.imp pgs_nil fun v σ H Q ⟨P, m, e, M, d, re, rs, r, h⟩ => by
    unfold gsNil at h
    split at h
    · cases r; exact ⟨rfl, h m H _ (Ext.refl _ _) rs re rfl⟩
    · exact h.elim
theorem sgs_cons {vs : List Nat} {es : List Expr} {f : GF} {t : GFs} (h1 : SG G X vs a f) (h2 : SGs G X vs es t) (hs : (assignEach (a :: es) X.env).map (·.2) = assign a X.env :: (assignEach es X.env).map (·.2) := by rfl) : SGs G X vs (a :: es) (gsCons f t) := fun bd =>
  PGs.imp (pgs_cons (h1 bd) (h2 bd) hs) fun v σ H Q ⟨P, m, e, M, d, re, rs, r, h⟩ => by
    unfold gsCons at h
    split at h
    · cases r with | cons ra rb =>
      rw [Sat_bind] at h
      refine ⟨_, _, rfl, P, m, e, M, _, re, rs, ra, h.mono (fun e' M' z m' H' σ' x s' re' hw => ?_) fun _ _ z => z⟩
      exact ⟨P, m', e', M', _, re', s', rb.mono x, z.mono (fun e2 M2 z2 m2 H2 σ2 x2 s2 re2 hw2 => z2 m2 H2 σ2 (x.andThen s' x2) s2 re2 (hw2.trans hw)) fun _ _ z => z⟩
    · exact h.elim
def gTp (n : Nat) (t : GFs) : GF := fun bd d e M => match tupOf d with
  | some ds => if ds.length = n then t bd ds e M else .stuck
  | none => .stuck
theorem sg_tup {vs : List Nat} {es : List Expr} {k n : Nat} {t : GFs} (hK : X.K = G.K) (hc : X.calm = true) (h : SGs G X vs es t) (hn : (assignEach es X.env).length = n := by rfl) (hst : (assignEach es X.env).findIdx? (·.1) = none := by rfl) :
    SG G X vs (.Tuple es k pos) (gTp n t) := fun bd =>
  PG.imp (pg_tup hc (h bd) hn hst) fun v σ H Q ⟨P, m, e, M, d, re, rs, r, h⟩ => by
    unfold gTp at h
    split at h
    · rename_i ds hd
      split at h
      · rename_i hl
        obtain ⟨q, us, rfl, sq, rv⟩ := tup_of r hd
        rw [hK]
        exact ⟨q, us, rfl, sq, by rw [← rv.length]; exact hl, P, m, e, M, ds, re, rs, rv, h⟩
      · exact h.elim
    · exact h.elim
def gLs (n : Nat) (t : GFs) : GF := fun bd d e M => match lstOf M d with
  | some ds => if ds.length = n then t bd ds e M else .stuck
  | none => .stuck
theorem sg_lst {vs : List Nat} {es : List Expr} {k n : Nat} {t : GFs} (hK : X.K = G.K) (hc : X.calm = true) (h : SGs G X vs es t) (hn : (assignEach es X.env).length = n := by rfl) (hst : (assignEach es X.env).findIdx? (·.1) = none := by rfl) :
    SG G X vs (.Tuple es k pos) (gLs n t) := fun bd =>
  PG.imp (pg_lst hc (h bd) hn hst) fun v σ H Q ⟨P, m, e, M, d, re, rs, r, h⟩ => by
    unfold gLs at h
    split at h
    · rename_i ds hd
      split at h
      · rename_i hl
        obtain ⟨q, us, rfl, sq, rv⟩ := lst_of rs r hd
        rw [hK]
        exact ⟨q, us, rfl, sq, by rw [← rv.length]; exact hl, P, m, e, M, ds, re, rs, rv, h⟩
      · exact h.elim
    · exact h.elim
/-! ### tests of a clause -/
def STs (G : Gam) (X : Cx) (W : WX) (ifs : List Expr) (f : BF) : Prop := ∀ bd, PTs X ifs (tT G W bd f)
def bYes : BF := fun _ _ M => .ok true M
theorem sts_nil : STs G X W [] bYes := fun bd => ⟨fun pins s σ H Q I ⟨P, m, e, M, re, rs, h⟩ => pts_nil.run pins s σ H Q I (h m H (Ext.refl _ _) rs)⟩
theorem sts_one (h : ST G X W a fb) : STs G X W [a] fb := fun bd => pts_one (h bd)
/-! ### list comprehensions -/
theorem RS.guard {P : Prt} {D : Addr} {o : HO} (rs : RS (G.on P) bd m H M) (hD : H D = none) : RS (G.on (P.add D)) bd m (upd H D o) M :=
  ⟨rs.len, rs.nd, fun n mo e => let ⟨a, e2, r⟩ := rs.at_ n mo e; ⟨a, e2, (r.prot (PLe.cons hD)).keep (Ext.fresh hD) (fun u q => by rw [upd_ne (ne_of_none q hD)]; exact q) fun b u q _ => by rw [upd_ne (ne_of_none q hD)]; exact q⟩, rs.low, rs.cs, rs.le, fun a ha => by
    rcases List.mem_cons.mp ha with z | z
    · rw [z, upd_same]; simp
    · exact (rs.fresh hD).trk a z⟩
def W0 : WX := fun _ _ _ _ => False
def wipeE (e : Env) : List Nat → Env
  | [] => e
  | v :: vs => (wipeE e vs).set v none
theorem RE.wipe (re : RE G m H e σ) : ∀ vs : List Nat, RE G m H (wipeE e vs) (L2.wipe σ vs)
  | [] => re
  | w :: r => by
    have ih := RE.wipe re r
    refine ⟨by simp [wipeE, L2.wipe, ih.len], fun i d z => ?_⟩
    unfold wipeE at z
    unfold L2.wipe
    by_cases h : w = i
    · subst h
      have hl : w < (wipeE e r).length := by simpa using (List.getElem?_eq_some_iff.mp z).1
      rw [List.getElem?_set_self hl] at z; cases z
    · rw [List.getElem?_set_ne h] at z
      rw [List.getElem?_set_ne h]
      exact ih.at_ i d z
/-- the turns: the source is read anew at each -/
def goS {α : Type} (body : D → α → Mem → R α) (src : Src) : Nat → Nat → α → Mem → R α
  | 0, _, _, _ => .stuck
  | n + 1, i, x, M => match src M with
    | none => .stuck
    | some ds => match ds[i]? with
      | none => .ok x M
      | some d => (body d x M).bind fun y M1 => goS body src n (i + 1) y M1
def runS {α : Type} (body : D → α → Mem → R α) (src : Src) (x : α) (M : Mem) : R α := match src M with
  | none => .stuck
  | some ds => goS body src (ds.length + 1) 0 x M
/-- a comprehension's turn: target, tests, then k -/
def turnB {α : Type} (bd : Nat) (e0 : Env) (tg : GF) (c : BF) (d : D) (no : α) (M : Mem) (yes : Env → Mem → R α) : R α :=
  (tg bd d e0 M).bind fun e2 M2 => (c bd e2 M2).bind fun k M3 => if k = true then yes e2 M3 else .ok no M3
def hush {α : Type} (r : R α) : R α := match r with
  | .exc _ _ => .stuck
  | r => r
theorem sat_hush {α : Type} {r : R α} {k : α → Mem → Prop} {x : Str → Mem → Prop} (h : Sat (hush r) k x) : Sat r k NoE := by
  cases r with
  | ok a M => exact h
  | exc c M => exact h.elim
  | stuck => exact h
theorem noE_of {α : Type} {r : R α} {k : α → Mem → Prop} {x : Str → Mem → Prop} (h : Sat r k NoE) : Sat r k x := h.mono (fun _ _ z => z) fun _ _ z => z.elim
theorem turn_of {α : Type} {P : Prt} {vs : List Nat} {tgf : GF} {c : BF} {d : D} {x : V} {e0 : Env} {no : α} {yes : Env → Mem → R α} {Z : α → Mem → Prop} {te : L2.St → Hp → Prop} {Nx : Hp → Prop} {τ : L2.St} (hτ : wipe σ vs = τ)
    (re : RE (G.on P) m H e0 σ) (rs : RS (G.on P) bd m H M) (r : RV (G.on P) m H d x) (h : Sat (turnB bd e0 tgf c d no M yes) Z NoE)
    (hy : ∀ e2 σ2 m2 H2 M2, Ext (G.on P) m m2 H H2 → RE (G.on P) m2 H2 e2 σ2 → RS (G.on P) bd m2 H2 M2 → Sat (yes e2 M2) Z NoE → te σ2 H2)
    (hn : ∀ m2 H2 M2, Ext (G.on P) m m2 H H2 → RS (G.on P) bd m2 H2 M2 → Z no M2 → Nx H2) :
    tG G bd vs tgf x σ H fun σ2 H2 => wipe σ2 vs = τ ∧ tT G W0 bd c σ2 H2 fun b H3 => if b = true then te σ2 H3 else Nx H3 := by
  unfold turnB at h
  rw [Sat_bind] at h
  refine ⟨P, m, e0, M, d, re, rs, r, h.mono (fun e2 M2 z m2 H2 σ2 x2 s2 re2 hw => ⟨hw.trans hτ, ?_⟩) fun _ _ z => z⟩
  rw [Sat_bind] at z
  refine ⟨P, m2, e2, M2, re2, s2, z.mono (fun k M3 z3 m3 H3 x3 s3 => ?_) fun _ _ z => z.elim⟩
  cases k with
  | true => simp only [if_true] at z3 ⊢; exact hy e2 σ2 m3 H3 M3 (x2.andThen s2 x3) (re2.mono x3) s3 z3
  | false => simp only [Bool.false_eq_true, if_false] at z3 ⊢; exact hn m3 H3 M3 (x2.andThen s2 x3) s3 z3
/-- [elt for tg in it if c], a list that stays as it is -/
def lcBody (bd : Nat) (e0 : Env) (tg : GF) (c : BF) (f : EF) : D → List D → Mem → R (List D) := fun d acc M =>
  turnB bd e0 tg c d acc M fun e2 M2 => (f bd e2 M2).bind fun y M3 => if acc.length < 16777216 then .ok (acc ++ [y]) M3 else .stuck
def eLc (it : IF) (vs : List Nat) (tg : GF) (c : BF) (f : EF) : EF := fun bd e M => (it bd e M).bind fun src M1 =>
  (hush (runS (lcBody bd (wipeE e vs) tg c f) src [] M1)).bind fun acc M2 => .ok (.lst acc) M2
/-- the reading of a comprehension over J -/
def tLcB (J : It) (g : TG) (tt : TT) (te : TE) (vs : List Nat) (Q : VK) (σ : L2.St) (H1 : Hp) : Prop := ∀ D, H1 D = none → ∃ W : Nat → Nat → Hp → Prop, (∃ m, W 0 m (upd H1 D (.lst []))) ∧ ∀ i m H, W i m H →
  (J.stop i H ∧ Q (.ref D) H) ∨ (J.go i H ∧ ∃ Nx : Hp → Prop, (∀ H', Nx H' → ∃ m', m' < m ∧ W (i + 1) m' H') ∧ ∀ x H', J.yld i H x H' → g x (wipe σ vs) H' fun σ2 H2 => wipe σ2 vs = wipe σ vs ∧ tt σ2 H2 fun b H3 =>
    if b = true then te σ2 H3 fun y H4 => ∃ acc, H4 D = some (.lst acc) ∧ acc.length < sizeLine ∧ Nx (upd H4 D (.lst (acc ++ [y]))) else Nx H3)
theorem wipe_idem (σ : L2.St) (vs : List Nat) : wipe (wipe σ vs) vs = wipe σ vs := by
  apply List.ext_getElem?
  intro i
  by_cases h : i ∈ vs
  · have key : ∀ (σ : L2.St) (vs : List Nat), i ∈ vs → ∀ v, (wipe σ vs)[i]? ≠ some (some v) := fun σ vs h v e => (wipe_some e).2 h
    have hl : (wipe (wipe σ vs) vs).length = (wipe σ vs).length := wipe_length _ _
    by_cases hi : i < (wipe σ vs).length
    · have h1 := key (wipe σ vs) vs h
      have h2 := key σ vs h
      rw [List.getElem?_eq_getElem (by rw [hl]; exact hi)] at h1 ⊢
      rw [List.getElem?_eq_getElem hi] at h2 ⊢
      cases e1 : (wipe (wipe σ vs) vs)[i]'(by rw [hl]; exact hi) with
      | some v => exact absurd (by rw [e1]) (h1 v)
      | none =>
        cases e2 : (wipe σ vs)[i] with
        | some v => exact absurd (by rw [e2]) (h2 v)
        | none => rfl
    · rw [List.getElem?_eq_none (by rw [hl]; omega), List.getElem?_eq_none (by omega)]
  · rw [wipe_out h]
/-- at a turn: the list D in the making, its items -/
def LcW (G : Gam) (P : Prt) (bd : Nat) (m1 : List Addr) (H1 : Hp) (D : Addr) (body : Sh.D → List Sh.D → Mem → R (List Sh.D)) (src : Src) (Z : List Sh.D → Mem → Prop) (i n : Nat) (H : Hp) : Prop :=
  ∃ mm M acc us, H D = some (.lst us) ∧ RVs (G.on (P.add D)) mm H acc us ∧ RS (G.on (P.add D)) bd mm H M ∧ Ext (G.on P) m1 mm H1 H ∧ D ∉ mm ∧ Sat (goS body src n i acc M) Z NoE
theorem lc_frz {P : Prt} {J : It} {src : Src} {vs : List Nat} {tgf : GF} {c : BF} {f : EF} {Q : VK} {m1 : List Addr} {H1 : Hp} {M1 : Mem} {e : Env} (re : RE (G.on P) m1 H1 e σ) (rs : RS (G.on P) bd m1 H1 M1) (w : Walk G P J src m1 H1)
    (h : Sat (runS (lcBody bd (wipeE e vs) tgf c f) src [] M1) (fun acc M2 => ∀ m' H' v, Ext (G.on P) m1 m' H1 H' → RS (G.on P) bd m' H' M2 → RV (G.on P) m' H' (.lst acc) v → Q v H') NoE) :
    tLcB J (tG G bd vs tgf) (tT G W0 bd c) (tE G W0 bd f) vs Q σ H1 := by
  intro D hD
  have hle : PLe (P.add D) P H1 := PLe.cons hD
  have hDm : D ∉ m1 := rs.notin hD
  unfold runS at h
  cases hs : src M1 with
  | none => rw [hs] at h; exact h.elim
  | some ds0 =>
    rw [hs] at h
    simp only at h
    refine ⟨LcW G P bd m1 H1 D (lcBody bd (wipeE e vs) tgf c f) src (fun acc M2 => ∀ m' H' v, Ext (G.on P) m1 m' H1 H' → RS (G.on P) bd m' H' M2 → RV (G.on P) m' H' (.lst acc) v → Q v H'), ⟨ds0.length + 1, m1, M1, [], [], upd_same, .nil, ?_, Ext.fresh hD, hDm, h⟩, ?_⟩
    · exact rs.guard hD
    rintro i n H ⟨mm, M, acc, us, hd, ra, rsM, xx, hDn, hg⟩
    have rsP : RS (G.on P) bd mm H M := rsM.prot PLe.tail rfl fun a ha => rsM.trk a (List.mem_cons_of_mem _ ha)
    cases n with
    | zero => exact hg.elim
    | succ n =>
      unfold goS at hg
      cases hsM : src M with
      | none => rw [hsM] at hg; exact hg.elim
      | some ds =>
        rw [hsM] at hg
        simp only at hg
        have wk := w (P.add D) bd mm H M ds i hle xx.chg rsM hsM
        cases hi : ds[i]? with
        | none =>
          rw [hi] at hg
          exact .inl ⟨wk.2 (List.getElem?_eq_none_iff.mp hi), hg mm H _ xx rsP (.lst hd hDn (fun z => rs.trk D z hD) (ra.prot PLe.tail))⟩
        | some d =>
          rw [hi] at hg
          simp only at hg
          obtain ⟨w1, w2⟩ := wk.1 d hi
          refine .inr ⟨w1, LcW G P bd m1 H1 D (lcBody bd (wipeE e vs) tgf c f) src (fun acc M2 => ∀ m' H' v, Ext (G.on P) m1 m' H1 H' → RS (G.on P) bd m' H' M2 → RV (G.on P) m' H' (.lst acc) v → Q v H') (i + 1) n, fun H' hN => ⟨n, Nat.lt_succ_self n, hN⟩, fun x H' hy => ?_⟩
          obtain ⟨x2, rs2, rd⟩ := w2 x H' hy
          rw [Sat_bind] at hg
          have hd2 : H' D = some (.lst us) := x2.keep _ _ hd hDn
          have re2 : RE (G.on (P.add D)) mm H' (wipeE e vs) (wipe σ vs) := ((re.wipe vs).prot hle).mono (xx.trans x2.chg).chg
          refine turn_of (wipe_idem σ vs) re2 rs2 rd hg ?_ ?_
          · intro e2 σ2 m2 H2 M2 x3 re3 rs3 hf
            refine (step (Ext.refl _ _) re3 rs3 (hf.mono (fun _ _ z => z) fun _ _ z => z.elim)).mono fun y H4 ⟨m4, yd, M4, x4, x04, re4, rs4, ry, h4⟩ => ?_
            split at h4
            · rename_i hlen
              have x24 : Ext (G.on (P.add D)) mm m4 H' H4 := x3.trans x4
              have hd4 : H4 D = some (.lst us) := x24.keep _ _ hd2 hDn
              have hD4 : D ∉ m4 := x24.out hd2 hDn
              have ra4 : RVs (G.on (P.add D)) m4 H4 acc us := (ra.mono x2.chg).mono x24
              refine ⟨us, hd4, by rw [← ra.length]; exact line_lt hlen, m4, M4, acc ++ [yd], us ++ [y], upd_same, (ra4.append (.cons ry .nil)).updP (List.mem_cons_self) hd4, rs4.updP (List.mem_cons_self) hd4 hD4, ?_, hD4, h4⟩
              exact ((xx.trans x2.chg).trans x24.chg).set_new hD hd4
            · exact h4.elim
          · intro m2 H2 M2 x3 rs3 hz
            exact ⟨m2, M2, acc, us, x3.keep _ _ hd2 hDn, (ra.mono x2.chg).mono x3, rs3, (xx.trans x2.chg).trans x3.chg, x3.out hd2 hDn, hz⟩
theorem lc_all {it : IF} {vs : List Nat} {tgf : GF} {c : BF} {f : EF} {Q : VK} (h : tE G W bd (eLc it vs tgf c f) σ H Q) : tLc (tI G W bd it) (tG G bd vs tgf) (tT G W0 bd c) (tE G W0 bd f) vs σ H Q := by
  obtain ⟨P, m, e, M, re, rs, h⟩ := h
  unfold eLc at h
  rw [Sat_bind] at h
  refine ⟨P, m, e, M, re, rs, h.mono (fun src M1 z m1 H1 J x1 rs1 w => ?_) fun _ _ z => z⟩
  rw [Sat_bind] at z
  exact lc_frz (re.mono x1) rs1 w ((sat_hush z).mono (fun acc M2 z2 m' H' v x s r => z2 m' H' v (x1.andThen rs1 x) s r) fun _ _ z => z)
theorem se_lc {elt tg iter : Expr} {ifs : List Expr} {scope : Scope} {own : List (Str × Nat)} {it : IF} {tgf : GF} {cf : BF} (hc : X.calm = true) (hN : X.N.Nodup) (hi : SI G X W tg iter it) (ok : BlkOk X.N X.env.scope scope own)
    (hg : ∀ (s : Shared) (H : Hp) (C : Addr) (cl : List (Str × Addr)) (fp : List Addr), SG G (X.blk s H scope (compEnvC scope cl C X.env) fp) (own.map (·.2)) tg tgf) (ht : ∀ (s : Shared) (H : Hp) (C : Addr) (cl : List (Str × Addr)) (fp : List Addr), STs G (X.blk s H scope (compEnvC scope cl C X.env) fp) W0 ifs cf)
    (he : ∀ (s : Shared) (H : Hp) (C : Addr) (cl : List (Str × Addr)) (fp : List Addr), SE G (X.blk s H scope (compEnvC scope cl C X.env) fp) W0 elt f) (hs : ∀ x, foldedSetIterable iter X.env x = pure x := by intro _; rfl) :
    SE G X W (.ListComp elt [⟨tg, iter, ifs, 0⟩] scope pos) (eLc it (own.map (·.2)) tgf cf f) := fun bd =>
  PE.imp (pe_lc hc hN (hi bd) ok (fun s H C cl fp => hg s H C cl fp bd) (fun s H C cl fp => ht s H C cl fp bd) (fun s H C cl fp => he s H C cl fp bd) hs) fun σ H Q h => lc_all h
end
end Sh
set_option Elab.async false
set_option linter.all false
set_option maxRecDepth 100000
set_option maxHeartbeats 4000000
/-! Sh: comprehensions that make a thing of the memory. -/
namespace Sh
open PySem PySem.Spec PyProof.Rows L2
section
variable {G : Gam} {X : Cx} {W : WX} {bd : Nat} {f g h : EF} {fb gb : BF} {fa : AF} {a b c tg : Expr} {pos p : Pos} {σ : L2.St} {H H0 : Hp} {m m0 : List Addr} {M : Mem} {e : Env}
/-- a new item of the k-th thing -/
def push (k : Nat) (y : D) (M : Mem) : R Unit := match M[k]? with
  | some (.lst acc) => if acc.length < 16777216 then .ok () (M.set k (.lst (acc ++ [y]))) else .stuck
  | _ => .stuck
def lcBodyM (bd : Nat) (e0 : Env) (tg : GF) (c : BF) (f : EF) (k : Nat) : D → Unit → Mem → R Unit := fun d _ M =>
  turnB bd e0 tg c d () M fun e2 M2 => (f bd e2 M2).bind fun y M3 => push k y M3
def eLcM (it : IF) (vs : List Nat) (tg : GF) (c : BF) (f : EF) : EF := fun bd e M => (it bd e M).bind fun src M1 =>
  (hush (runS (lcBodyM bd (wipeE e vs) tg c f M1.length) src () (M1 ++ [.lst []]))).bind fun _ M2 => .ok (.ref M1.length) M2
def MW (G : Gam) (P : Prt) (bd : Nat) (m1 : List Addr) (H1 : Hp) (D : Addr) (k : Nat) (body : Sh.D → Unit → Mem → R Unit) (src : Src) (Z : Unit → Mem → Prop) (i n : Nat) (H : Hp) : Prop :=
  ∃ mm M, mm[k]? = some D ∧ RS (G.on P) bd mm H M ∧ Ext (G.on P) m1 mm H1 H ∧ Sat (goS body src n i () M) Z NoE
theorem lc_mem {P : Prt} {J : It} {src : Src} {vs : List Nat} {tgf : GF} {c : BF} {f : EF} {Q : VK} {m1 : List Addr} {H1 : Hp} {M1 : Mem} {e : Env} (re : RE (G.on P) m1 H1 e σ) (rs : RS (G.on P) bd m1 H1 M1) (w : Walk G P J src m1 H1)
    (h : Sat (runS (lcBodyM bd (wipeE e vs) tgf c f M1.length) src () (M1 ++ [.lst []])) (fun _ M2 => ∀ m' H' v, Ext (G.on P) m1 m' H1 H' → RS (G.on P) bd m' H' M2 → RV (G.on P) m' H' (.ref M1.length) v → Q v H') NoE) :
    tLcB J (tG G bd vs tgf) (tT G W0 bd c) (tE G W0 bd f) vs Q σ H1 := by
  intro D hD
  have hk : (m1 ++ [D])[M1.length]? = some D := by rw [rs.len, List.getElem?_append_right (Nat.le_refl _)]; simp
  unfold runS at h
  cases hs : src (M1 ++ [.lst []]) with
  | none => rw [hs] at h; exact h.elim
  | some ds0 =>
    rw [hs] at h
    simp only at h
    refine ⟨MW G P bd m1 H1 D M1.length (lcBodyM bd (wipeE e vs) tgf c f M1.length) src (fun _ M2 => ∀ m' H' v, Ext (G.on P) m1 m' H1 H' → RS (G.on P) bd m' H' M2 → RV (G.on P) m' H' (.ref M1.length) v → Q v H'), ⟨ds0.length + 1, m1 ++ [D], _, hk, rs.new hD (ro_lst hD .nil), Ext.new hD, h⟩, ?_⟩
    rintro i n H ⟨mm, M, hkm, rsM, xx, hg⟩
    cases n with
    | zero => exact hg.elim
    | succ n =>
      unfold goS at hg
      cases hsM : src M with
      | none => rw [hsM] at hg; exact hg.elim
      | some ds =>
        rw [hsM] at hg
        simp only at hg
        have wk := w P bd mm H M ds i PLe.refl xx.chg rsM hsM
        cases hi : ds[i]? with
        | none =>
          rw [hi] at hg
          exact .inl ⟨wk.2 (List.getElem?_eq_none_iff.mp hi), hg mm H _ xx rsM (.ref hkm)⟩
        | some d =>
          rw [hi] at hg
          simp only at hg
          obtain ⟨w1, w2⟩ := wk.1 d hi
          refine .inr ⟨w1, MW G P bd m1 H1 D M1.length (lcBodyM bd (wipeE e vs) tgf c f M1.length) src (fun _ M2 => ∀ m' H' v, Ext (G.on P) m1 m' H1 H' → RS (G.on P) bd m' H' M2 → RV (G.on P) m' H' (.ref M1.length) v → Q v H') (i + 1) n, fun H' hN => ⟨n, Nat.lt_succ_self n, hN⟩, fun x H' hy => ?_⟩
          obtain ⟨x2, rs2, rd⟩ := w2 x H' hy
          rw [Sat_bind] at hg
          have re2 : RE (G.on P) mm H' (wipeE e vs) (wipe σ vs) := (re.wipe vs).mono (xx.trans x2.chg)
          refine turn_of (wipe_idem σ vs) re2 rs2 rd hg ?_ ?_
          · intro e2 σ2 m2 H2 M2 x3 re3 rs3 hf
            refine (step (Ext.refl _ _) re3 rs3 (hf.mono (fun _ _ z => z) fun _ _ z => z.elim)).mono fun y H4 ⟨m4, yd, M4, x4, x04, re4, rs4, ry, h4⟩ => ?_
            unfold push at h4
            split at h4
            · rename_i acc hM4
              split at h4
              · rename_i hlen
                have x24 : Ext (G.on P) mm m4 H' H4 := x3.trans x4
                have hk4 : m4[M1.length]? = some D := x24.get hkm
                obtain ⟨us, hq, s⟩ := rs4.ref hM4 hk4
                obtain ⟨x, rs'⟩ := wr_lst rs4 hM4 hk4 (s.append (.cons ry .nil)) fun b hb hn => absurd (Nat.le_trans (rs.cs b hb) rs.le) (by omega)
                exact ⟨us, hq, by rw [← s.length]; exact line_lt hlen, m4, _, hk4, rs', ((xx.trans x2.chg).trans x24).trans x, h4⟩
              · exact h4.elim
            · exact h4.elim
          · intro m2 H2 M2 x3 rs3 hz
            exact ⟨m2, M2, x3.get hkm, rs3, (xx.trans x2.chg).trans x3, hz⟩
theorem lcM_all {it : IF} {vs : List Nat} {tgf : GF} {c : BF} {f : EF} {Q : VK} (h : tE G W bd (eLcM it vs tgf c f) σ H Q) : tLc (tI G W bd it) (tG G bd vs tgf) (tT G W0 bd c) (tE G W0 bd f) vs σ H Q := by
  obtain ⟨P, m, e, M, re, rs, h⟩ := h
  unfold eLcM at h
  rw [Sat_bind] at h
  refine ⟨P, m, e, M, re, rs, h.mono (fun src M1 z m1 H1 J x1 rs1 w => ?_) fun _ _ z => z⟩
  rw [Sat_bind] at z
  exact lc_mem (re.mono x1) rs1 w ((sat_hush z).mono (fun acc M2 z2 m' H' v x s r => z2 m' H' v (x1.andThen rs1 x) s r) fun _ _ z => z)
theorem se_lcM {elt tg iter : Expr} {ifs : List Expr} {scope : Scope} {own : List (Str × Nat)} {it : IF} {tgf : GF} {cf : BF} (hc : X.calm = true) (hN : X.N.Nodup) (hi : SI G X W tg iter it) (ok : BlkOk X.N X.env.scope scope own)
    (hg : ∀ (s : Shared) (H : Hp) (C : Addr) (cl : List (Str × Addr)) (fp : List Addr), SG G (X.blk s H scope (compEnvC scope cl C X.env) fp) (own.map (·.2)) tg tgf) (ht : ∀ (s : Shared) (H : Hp) (C : Addr) (cl : List (Str × Addr)) (fp : List Addr), STs G (X.blk s H scope (compEnvC scope cl C X.env) fp) W0 ifs cf)
    (he : ∀ (s : Shared) (H : Hp) (C : Addr) (cl : List (Str × Addr)) (fp : List Addr), SE G (X.blk s H scope (compEnvC scope cl C X.env) fp) W0 elt f) (hs : ∀ x, foldedSetIterable iter X.env x = pure x := by intro _; rfl) :
    SE G X W (.ListComp elt [⟨tg, iter, ifs, 0⟩] scope pos) (eLcM it (own.map (·.2)) tgf cf f) := fun bd =>
  PE.imp (pe_lc hc hN (hi bd) ok (fun s H C cl fp => hg s H C cl fp bd) (fun s H C cl fp => ht s H C cl fp bd) (fun s H C cl fp => he s H C cl fp bd) hs) fun σ H Q h => lcM_all h
/-! ### dicts -/
section
variable {κ : Type} [DecidableEq κ]
def putD (kvs : List (κ × D)) (k : κ) (v : D) : List (κ × D) :=
  if (kvs.any fun kv => decide (kv.1 = k)) = true then kvs.map (fun kv => if kv.1 = k then (kv.1, v) else kv) else kvs ++ [(k, v)]
theorem KVs.any {kvs : List (κ × D)} {kus : List (κ × V)} {k : κ} (h : KVs G m H kvs kus) : (kvs.any fun kv => decide (kv.1 = k)) = kus.any fun kv => decide (kv.1 = k) := by
  induction h with
  | nil => rfl
  | cons z _ ih => simp only [List.any_cons, ih, z.1]
theorem Paired.append' {α β : Type} {P : α → β → Prop} : ∀ {xs xs' : List α} {ys ys' : List β}, Paired P xs ys → Paired P xs' ys' → Paired P (xs ++ xs') (ys ++ ys')
  | _, _, _, _, .nil, s => s
  | _, _, _, _, .cons a b, s => .cons a (Paired.append' b s)
theorem KVs.upd1 {k : κ} {d : D} {v : V} (r : RV G m H d v) : ∀ {kvs : List (κ × D)} {kus : List (κ × V)}, KVs G m H kvs kus → KVs G m H (kvs.map fun kv => if kv.1 = k then (kv.1, d) else kv) (kus.map fun kv => if kv.1 = k then (kv.1, v) else kv)
  | _, _, .nil => .nil
  | _, _, .cons (a := p) (b := q) z h => by
    refine .cons ?_ (KVs.upd1 r h)
    show (if p.1 = k then (p.1, d) else p).1 = (if q.1 = k then (q.1, v) else q).1 ∧ RV G m H (if p.1 = k then (p.1, d) else p).2 (if q.1 = k then (q.1, v) else q).2
    by_cases e : p.1 = k
    · have e2 : q.1 = k := by rw [← z.1]; exact e
      rw [if_pos e, if_pos e2]; exact ⟨z.1, r⟩
    · have e2 : ¬ q.1 = k := by rw [← z.1]; exact e
      rw [if_neg e, if_neg e2]; exact z
theorem KVs.put {kvs : List (κ × D)} {kus : List (κ × V)} {k : κ} {d : D} {v : V} (h : KVs G m H kvs kus) (r : RV G m H d v) : KVs G m H (putD kvs k d) (putK kus k v) := by
  unfold putD putK
  rw [h.any]
  split
  · exact KVs.upd1 r h
  · exact Paired.append' h (.cons ⟨rfl, r⟩ .nil)
theorem KVs.length {kvs : List (κ × D)} {kus : List (κ × V)} (h : KVs G m H kvs kus) : kvs.length = kus.length := by
  induction h with
  | nil => rfl
  | cons _ _ ih => simp [ih]
theorem putD_ub {n : Nat} {kvs : List (κ × D)} {k : κ} {d : D} (h : (kvs.all fun p => p.2.ub n) = true) (hd : d.ub n = true) : ((putD kvs k d).all fun p => p.2.ub n) = true := by
  rw [List.all_eq_true] at h ⊢
  intro p hp
  unfold putD at hp
  split at hp
  · obtain ⟨q, hq, rfl⟩ := List.mem_map.mp hp
    split
    · exact hd
    · exact h q hq
  · rcases List.mem_append.mp hp with z | z
    · exact h p z
    · rw [List.mem_singleton.mp z]; exact hd
end
theorem wr_dK {n : Nat} {p : Addr} {kvs es : List (Key × D)} {ws : List (Key × V)} (rs : RS G bd m H M) (hM : M[n]? = some (.dK kvs)) (z : m[n]? = some p) (r : KVs G m H es ws) (lo : ∀ b ∈ G.P.C, n < b → (es.all fun p => p.2.ub b) = true) : Ext G m m H (upd H p (.dK ws)) ∧ RS G bd m (upd H p (.dK ws)) (M.set n (.dK es)) := by
  obtain ⟨us, hq, _⟩ := rs.ref hM z
  have x : Ext G m m H (upd H p (.dK ws)) := Ext.write z hq trivial
  exact ⟨x, rs.write z hq trivial ⟨ws, upd_same, KVs.mono x r⟩ lo⟩
theorem wr_dT {n : Nat} {p : Addr} {kvs es : List (List Key × D)} {ws : List (List Key × V)} (rs : RS G bd m H M) (hM : M[n]? = some (.dT kvs)) (z : m[n]? = some p) (r : KVs G m H es ws) (lo : ∀ b ∈ G.P.C, n < b → (es.all fun p => p.2.ub b) = true) : Ext G m m H (upd H p (.dT ws)) ∧ RS G bd m (upd H p (.dT ws)) (M.set n (.dT es)) := by
  obtain ⟨us, hq, _⟩ := rs.ref hM z
  have x : Ext G m m H (upd H p (.dT ws)) := Ext.write z hq trivial
  exact ⟨x, rs.write z hq trivial ⟨ws, upd_same, KVs.mono x r⟩ lo⟩
/-- {k: v for tg in it if c}, the keys ints and texts -/
def putM (k : Nat) (y z : D) (M : Mem) : R Unit := match M[k]?, kOf y with
  | some (.dK acc), some key => if acc.length < 16777216 then .ok () (M.set k (.dK (putD acc key z))) else .stuck
  | _, _ => .stuck
def dcBody (bd : Nat) (e0 : Env) (tg : GF) (c : BF) (f g : EF) (k : Nat) : D → Unit → Mem → R Unit := fun d _ M =>
  turnB bd e0 tg c d () M fun e2 M2 => (f bd e2 M2).bind fun y M3 => (g bd e2 M3).bind fun z M4 => putM k y z M4
def eDc (it : IF) (vs : List Nat) (tg : GF) (c : BF) (f g : EF) : EF := fun bd e M => (it bd e M).bind fun src M1 =>
  (hush (runS (dcBody bd (wipeE e vs) tg c f g M1.length) src () (M1 ++ [.dK []]))).bind fun _ M2 => .ok (.ref M1.length) M2
theorem ro_dK {p : Addr} (hp : H p = none) : RO G (m ++ [p]) (upd H p (.dK [])) p (.dK []) := ⟨[], upd_same, .nil⟩
theorem ro_dT {p : Addr} (hp : H p = none) : RO G (m ++ [p]) (upd H p (.dT [])) p (.dT []) := ⟨[], upd_same, .nil⟩
theorem dc_all {it : IF} {vs : List Nat} {tgf : GF} {c : BF} {f g : EF} {Q : VK} (h : tE G W bd (eDc it vs tgf c f g) σ H Q) : tDc (tI G W bd it) (tG G bd vs tgf) (tT G W0 bd c) (tE G W0 bd f) (tE G W0 bd g) vs σ H Q := by
  obtain ⟨P, m, e, M, re, rs, h⟩ := h
  unfold eDc at h
  rw [Sat_bind] at h
  refine ⟨P, m, e, M, re, rs, h.mono (fun src M1 z m1 H1 J x1 rs1 w => ?_) fun _ _ z => z⟩
  rw [Sat_bind] at z
  replace z := sat_hush z
  replace re := re.mono x1
  intro D hD
  have hk : (m1 ++ [D])[M1.length]? = some D := by rw [rs1.len, List.getElem?_append_right (Nat.le_refl _)]; simp
  unfold runS at z
  cases hs : src (M1 ++ [.dK []]) with
  | none => rw [hs] at z; exact z.elim
  | some ds0 =>
    rw [hs] at z
    simp only at z
    generalize hZ : (fun (a : Unit) (M2 : Mem) => _) = Z at z
    refine ⟨MW G P bd m1 H1 D M1.length (dcBody bd (wipeE e vs) tgf c f g M1.length) src Z, ⟨ds0.length + 1, m1 ++ [D], _, hk, rs1.new hD (ro_dK hD), Ext.new hD, z⟩, ?_⟩
    rintro i n H ⟨mm, M, hkm, rsM, xx, hg⟩
    cases n with
    | zero => exact hg.elim
    | succ n =>
      unfold goS at hg
      cases hsM : src M with
      | none => rw [hsM] at hg; exact hg.elim
      | some ds =>
        rw [hsM] at hg
        simp only at hg
        have wk := w P bd mm H M ds i PLe.refl xx.chg rsM hsM
        cases hi : ds[i]? with
        | none =>
          rw [hi] at hg
          subst hZ
          exact .inl ⟨wk.2 (List.getElem?_eq_none_iff.mp hi), hg mm H _ (x1.trans xx) rsM (.ref hkm)⟩
        | some d =>
          rw [hi] at hg
          simp only at hg
          obtain ⟨w1, w2⟩ := wk.1 d hi
          refine .inr ⟨w1, MW G P bd m1 H1 D M1.length (dcBody bd (wipeE e vs) tgf c f g M1.length) src Z (i + 1) n, fun H' hN => ⟨n, Nat.lt_succ_self n, hN⟩, fun x H' hy => ?_⟩
          obtain ⟨x2, rs2, rd⟩ := w2 x H' hy
          rw [Sat_bind] at hg
          have re2 : RE (G.on P) mm H' (wipeE e vs) (wipe σ vs) := (re.wipe vs).mono (xx.trans x2.chg)
          refine turn_of (wipe_idem σ vs) re2 rs2 rd hg ?_ ?_
          · intro e2 σ2 m2 H2 M2 x3 re3 rs3 hf
            refine (step (Ext.refl _ _) re3 rs3 (hf.mono (fun _ _ z => z) fun _ _ z => z.elim)).mono fun y H4 ⟨m4, yd, M4, x4, x04, re4, rs4, ry, h4⟩ => ?_
            refine (step x04 re4 rs4 h4).mono fun y2 H5 ⟨m5, yd2, M5, x5, x05, re5, rs5, ry2, h5⟩ => ?_
            unfold putM at h5
            split at h5
            · rename_i acc key hM5 hkey
              split at h5
              · rename_i hlen
                have x25 : Ext (G.on P) mm m5 H' H5 := (x3.trans x4).trans x5
                have hk5 : m5[M1.length]? = some D := x25.get hkm
                obtain ⟨us, hq, s⟩ := rs5.ref hM5 hk5
                obtain ⟨x, rs'⟩ := wr_dK rs5 hM5 hk5 (KVs.put (k := key) s ry2) fun b hb hn => absurd (Nat.le_trans (rs1.cs b hb) rs1.le) (by omega)
                exact ⟨us, key, kOf_V ry hkey, hq, by rw [← KVs.length s]; exact line_lt hlen, m5, _, hk5, rs', ((xx.trans x2.chg).trans x25).trans x, h5⟩
              · exact h5.elim
            · exact h5.elim
          · intro m2 H2 M2 x3 rs3 hz
            exact ⟨m2, M2, x3.get hkm, rs3, (xx.trans x2.chg).trans x3, hz⟩
theorem se_dc {kx vx tg iter : Expr} {ifs : List Expr} {scope : Scope} {own : List (Str × Nat)} {it : IF} {tgf : GF} {cf : BF} (hc : X.calm = true) (hN : X.N.Nodup) (hi : SI G X W tg iter it) (ok : BlkOk X.N X.env.scope scope own)
    (hg : ∀ (s : Shared) (H : Hp) (C : Addr) (cl : List (Str × Addr)) (fp : List Addr), SG G (X.blk s H scope (compEnvC scope cl C X.env) fp) (own.map (·.2)) tg tgf) (ht : ∀ (s : Shared) (H : Hp) (C : Addr) (cl : List (Str × Addr)) (fp : List Addr), STs G (X.blk s H scope (compEnvC scope cl C X.env) fp) W0 ifs cf)
    (hk : ∀ (s : Shared) (H : Hp) (C : Addr) (cl : List (Str × Addr)) (fp : List Addr), SE G (X.blk s H scope (compEnvC scope cl C X.env) fp) W0 kx f) (he : ∀ (s : Shared) (H : Hp) (C : Addr) (cl : List (Str × Addr)) (fp : List Addr), SE G (X.blk s H scope (compEnvC scope cl C X.env) fp) W0 vx g) (hs : ∀ x, foldedSetIterable iter X.env x = pure x := by intro _; rfl) :
    SE G X W (.DictComp kx vx [⟨tg, iter, ifs, 0⟩] scope pos) (eDc it (own.map (·.2)) tgf cf f g) := fun bd =>
  PE.imp (pe_dc hc hN (hi bd) ok (fun s H C cl fp => hg s H C cl fp bd) (fun s H C cl fp => ht s H C cl fp bd) (fun s H C cl fp => hk s H C cl fp bd) (fun s H C cl fp => he s H C cl fp bd) hs) fun σ H Q h => dc_all h
end
end Sh
set_option Elab.async false
set_option linter.all false
set_option maxRecDepth 100000
set_option maxHeartbeats 4000000
/-! Sh: statements. -/
namespace Sh
open PySem PySem.Spec PyProof.Rows L2
inductive Out where
  | nx (e : Env) (M : Mem) | rt (d : D) (M : Mem) | bk (e : Env) (M : Mem) | ct (e : Env) (M : Mem) | exc (c : Str) (e : Env) (M : Mem) | stuck
abbrev SF := Nat → Env → Mem → Out
abbrev KE := Env → Mem → Prop
def SatO (o : Out) (n : KE) (r : D → Mem → Prop) (b c : KE) (x : Str → KE) : Prop := match o with
  | .nx e M => n e M
  | .rt d M => r d M
  | .bk e M => b e M
  | .ct e M => c e M
  | .exc c e M => x c e M
  | .stuck => False
theorem SatO.mono {o : Out} {n n' : KE} {r r' : D → Mem → Prop} {b b' c c' : KE} {x x' : Str → KE} (h : SatO o n r b c x) (hn : ∀ e M, n e M → n' e M) (hr : ∀ d M, r d M → r' d M) (hb : ∀ e M, b e M → b' e M) (hc : ∀ e M, c e M → c' e M) (hx : ∀ k e M, x k e M → x' k e M) : SatO o n' r' b' c' x' := by
  cases o with
  | nx e M => exact hn _ _ h
  | rt d M => exact hr _ _ h
  | bk e M => exact hb _ _ h
  | ct e M => exact hc _ _ h
  | exc k e M => exact hx _ _ _ h
  | stuck => exact h
/-- behind a step from (m0, H0) -/
def PK (G : Gam) (P : Prt) (bd : Nat) (m0 : List Addr) (H0 : Hp) (Q : L2.St → Hp → Prop) : KE := fun e' M' => ∀ m' H' σ', Ext (G.on P) m0 m' H0 H' → RS (G.on P) bd m' H' M' → RE (G.on P) m' H' e' σ' → Q σ' H'
def PR (G : Gam) (P : Prt) (bd : Nat) (m0 : List Addr) (H0 : Hp) (Q : VK) : D → Mem → Prop := fun d M' => ∀ m' H' v, Ext (G.on P) m0 m' H0 H' → RS (G.on P) bd m' H' M' → RV (G.on P) m' H' d v → Q v H'
def PX (G : Gam) (W : WX) (P : Prt) (bd : Nat) (m0 : List Addr) (H0 : Hp) : Str → KE := fun c => PK G P bd m0 H0 fun σ' H' => W (.ref (He.ga G.K c)) none σ' H'
def SatD (G : Gam) (W : WX) (P : Prt) (bd : Nat) (m0 : List Addr) (H0 : Hp) (D : Ends) (o : Out) : Prop := SatO o (PK G P bd m0 H0 D.nx) (PR G P bd m0 H0 D.rt) (PK G P bd m0 H0 D.bk) (PK G P bd m0 H0 D.ct) (PX G W P bd m0 H0)
def tS (G : Gam) (W : WX) (bd : Nat) (f : SF) : TS := fun D σ H => ∃ P m e M, RE (G.on P) m H e σ ∧ RS (G.on P) bd m H M ∧ SatD G W P bd m H D (f bd e M)
def SS (G : Gam) (X : Cx) (W : WX) (st : Stmt) (f : SF) : Prop := ∀ bd, PS X st (tS G W bd f)
def SSs (G : Gam) (X : Cx) (W : WX) (st : List Stmt) (f : SF) : Prop := ∀ bd, PSs X st (tS G W bd f)
def R.out {α : Type} (r : R α) (e : Env) (k : α → Mem → Out) : Out := match r with
  | .ok a M => k a M
  | .exc c M => .exc c e M
  | .stuck => .stuck
section
variable {G : Gam} {X : Cx} {W : WX} {bd : Nat} {f g h : EF} {fb gb : BF} {fa : AF} {F1 F2 : SF} {a b c tg : Expr} {pos p : Pos} {σ : L2.St} {H H0 : Hp} {m m0 : List Addr} {M : Mem} {e : Env} {st : Stmt} {rest : List Stmt} {De : Ends} {P : Prt}
theorem PS.imp {t t' : TS} (p : PS X st t) (i : ∀ D σ H, t' D σ H → t D σ H) : PS X st t' := ⟨fun pins s σ H D I h => p.run pins s σ H D I (i _ _ _ h)⟩
theorem PSs.imp {t t' : TS} (p : PSs X rest t) (i : ∀ D σ H, t' D σ H → t D σ H) : PSs X rest t' := ⟨fun pins s σ H D I h => p.run pins s σ H D I (i _ _ _ h)⟩
theorem SatD.back {o : Out} (x : Ext (G.on P) m0 m H0 H) (h : SatD G W P bd m0 H0 De o) : SatD G W P bd m H De o := SatO.mono h (fun e' M' z m' H' σ' y s r => z m' H' σ' (x.trans y) s r) (fun d M' z m' H' v y s r => z m' H' v (x.trans y) s r) (fun e' M' z m' H' σ' y s r => z m' H' σ' (x.trans y) s r) (fun e' M' z m' H' σ' y s r => z m' H' σ' (x.trans y) s r) fun k e' M' z m' H' σ' y s r => z m' H' σ' (x.trans y) s r
theorem SatD.ends {o : Out} {D' : Ends} (h : SatD G W P bd m H De o) (hn : ∀ σ' H', De.nx σ' H' → D'.nx σ' H') (hr : ∀ v H', De.rt v H' → D'.rt v H') (hb : ∀ σ' H', De.bk σ' H' → D'.bk σ' H') (hc : ∀ σ' H', De.ct σ' H' → D'.ct σ' H') : SatD G W P bd m H D' o :=
  SatO.mono h (fun e' M' z m' H' σ' y s r => hn _ _ (z m' H' σ' y s r)) (fun d M' z m' H' v y s r => hr _ _ (z m' H' v y s r)) (fun e' M' z m' H' σ' y s r => hb _ _ (z m' H' σ' y s r)) (fun e' M' z m' H' σ' y s r => hc _ _ (z m' H' σ' y s r)) fun k e' M' z => z
/-- an expression in a statement -/
theorem stepS {f : EF} {k : D → Mem → Out} (x0 : Ext (G.on P) m0 m H0 H) (re : RE (G.on P) m H e σ) (rs : RS (G.on P) bd m H M) (h : SatD G W P bd m0 H0 De ((f bd e M).out e k)) :
    tE G W bd f σ H fun v H1 => ∃ m1 d M1, Ext (G.on P) m m1 H H1 ∧ Ext (G.on P) m0 m1 H0 H1 ∧ RE (G.on P) m1 H1 e σ ∧ RS (G.on P) bd m1 H1 M1 ∧ RV (G.on P) m1 H1 d v ∧ SatD G W P bd m0 H0 De (k d M1) := by
  refine ⟨_, m, e, M, re, rs, ?_⟩
  cases q : f bd e M with
  | ok d M1 => rw [q] at h; exact fun m1 H1 v x s r => ⟨m1, d, M1, x, x0.trans x, re.mono x, s, r, h⟩
  | exc c M1 => rw [q] at h; exact fun m1 H1 x s => h m1 H1 σ (x0.trans x) s (re.mono x)
  | stuck => rw [q] at h; exact h.elim
theorem stepSA {f : AF} {k : List D → Mem → Out} (x0 : Ext (G.on P) m0 m H0 H) (re : RE (G.on P) m H e σ) (rs : RS (G.on P) bd m H M) (h : SatD G W P bd m0 H0 De ((f bd e M).out e k)) :
    tA G W bd f σ H fun vs H1 => ∃ m1 ds M1, Ext (G.on P) m m1 H H1 ∧ Ext (G.on P) m0 m1 H0 H1 ∧ RE (G.on P) m1 H1 e σ ∧ RS (G.on P) bd m1 H1 M1 ∧ RVs (G.on P) m1 H1 ds vs ∧ SatD G W P bd m0 H0 De (k ds M1) := by
  refine ⟨_, m, e, M, re, rs, ?_⟩
  cases q : f bd e M with
  | ok d M1 => rw [q] at h; exact fun m1 H1 v x s r => ⟨m1, d, M1, x, x0.trans x, re.mono x, s, r, h⟩
  | exc c M1 => rw [q] at h; exact fun m1 H1 x s => h m1 H1 σ (x0.trans x) s (re.mono x)
  | stuck => rw [q] at h; exact h.elim
theorem stepST {f : BF} {k : Bool → Mem → Out} (x0 : Ext (G.on P) m0 m H0 H) (re : RE (G.on P) m H e σ) (rs : RS (G.on P) bd m H M) (h : SatD G W P bd m0 H0 De ((f bd e M).out e k)) :
    tT G W bd f σ H fun b H1 => ∃ m1 M1, Ext (G.on P) m m1 H H1 ∧ Ext (G.on P) m0 m1 H0 H1 ∧ RE (G.on P) m1 H1 e σ ∧ RS (G.on P) bd m1 H1 M1 ∧ SatD G W P bd m0 H0 De (k b M1) := by
  refine ⟨_, m, e, M, re, rs, ?_⟩
  cases q : f bd e M with
  | ok d M1 => rw [q] at h; exact fun m1 H1 x s => ⟨m1, M1, x, x0.trans x, re.mono x, s, h⟩
  | exc c M1 => rw [q] at h; exact fun m1 H1 x s => h m1 H1 σ (x0.trans x) s (re.mono x)
  | stuck => rw [q] at h; exact h.elim
/-! ### blocks -/
def sNil : SF := fun _ e M => .nx e M
def sSeq (f g : SF) : SF := fun bd e M => match f bd e M with
  | .nx e' M' => g bd e' M'
  | r => r
theorem ss_nil : SSs G X W [] sNil := fun bd => PSs.imp pss_nil fun D σ H ⟨P, m, e, M, re, rs, h⟩ => h m H σ (Ext.refl _ _) rs re
theorem sseq_of {D : Ends} (h : tS G W bd (sSeq F1 F2) D σ H) : tSeq (tS G W bd F1) (tS G W bd F2) D σ H := by
  obtain ⟨P, m, e, M, re, rs, h⟩ := h
  refine ⟨P, m, e, M, re, rs, ?_⟩
  unfold sSeq at h
  cases q : F1 bd e M with
  | nx e' M' => rw [q] at h; exact fun m' H' σ' x s r => ⟨P, m', e', M', r, s, h.back x⟩
  | rt d M' => rw [q] at h; exact h
  | bk e' M' => rw [q] at h; exact h
  | ct e' M' => rw [q] at h; exact h
  | exc c e' M' => rw [q] at h; exact h
  | stuck => rw [q] at h; exact h
theorem ss_cons (h1 : SS G X W st F1) (h2 : SSs G X W rest F2) : SSs G X W (st :: rest) (sSeq F1 F2) := fun bd => PSs.imp (pss_cons (h1 bd) (h2 bd)) fun D σ H h => sseq_of h
theorem ss_one (h1 : SS G X W st F1) : SSs G X W [st] F1 := fun bd => pss_one (h1 bd)
def sBk : SF := fun _ e M => .bk e M
def sCt : SF := fun _ e M => .ct e M
def sStuck : SF := fun _ _ _ => .stuck
theorem ss_pass : SS G X W (.Pass pos) sNil := fun bd => PS.imp ps_pass fun D σ H ⟨P, m, e, M, re, rs, h⟩ => h m H σ (Ext.refl _ _) rs re
theorem ss_doc {x j pos pos'} : SS G X W (.Expr (.Constant (.str x) j pos) pos') sNil := fun bd => PS.imp ps_doc fun D σ H ⟨P, m, e, M, re, rs, h⟩ => h m H σ (Ext.refl _ _) rs re
theorem ss_break : SS G X W (.Break pos) sBk := fun bd => PS.imp ps_break fun D σ H ⟨P, m, e, M, re, rs, h⟩ => h m H σ (Ext.refl _ _) rs re
theorem ss_continue : SS G X W (.Continue pos) sCt := fun bd => PS.imp ps_continue fun D σ H ⟨P, m, e, M, re, rs, h⟩ => h m H σ (Ext.refl _ _) rs re
theorem ss_stuck : SS G X W st sStuck := fun bd => PS.imp ps_never fun D σ H ⟨P, m, e, M, re, rs, h⟩ => h
theorem sss_stuck : SSs G X W rest sStuck := fun bd => PSs.imp pss_never fun D σ H ⟨P, m, e, M, re, rs, h⟩ => h
def sDrop (f : EF) : SF := fun bd e M => (f bd e M).out e fun _ M1 => .nx e M1
theorem ss_expr (ha : SE G X W a f) (hs : swapsWith a none pos.line X.env = pure false := by rfl) : SS G X W (.Expr a pos) (sDrop f) := fun bd =>
  PS.imp (ps_expr (ha bd) hs) fun D σ H ⟨P, m, e, M, re, rs, h⟩ => (stepS (Ext.refl _ _) re rs h).mono fun v H1 ⟨m1, d, M1, x1, x01, re1, rs1, r1, h1⟩ => h1 m1 H1 σ x01 rs1 re1
def sRet (f : EF) : SF := fun bd e M => (f bd e M).out e fun d M1 => .rt d M1
theorem ss_ret (ha : SE G X W a f) : SS G X W (.Return (some a) pos) (sRet f) := fun bd =>
  PS.imp (ps_ret (ha bd)) fun D σ H ⟨P, m, e, M, re, rs, h⟩ => (stepS (Ext.refl _ _) re rs h).mono fun v H1 ⟨m1, d, M1, x1, x01, re1, rs1, r1, h1⟩ => h1 m1 H1 v x01 rs1 r1
def sRetN : SF := fun _ _ M => .rt .non M
theorem ss_retN : SS G X W (.Return none pos) sRetN := fun bd => PS.imp ps_retN fun D σ H ⟨P, m, e, M, re, rs, h⟩ => h m H _ (Ext.refl _ _) rs .non
def sIf (c : BF) (f g : SF) : SF := fun bd e M => (c bd e M).out e fun k M1 => if k = true then f bd e M1 else g bd e M1
theorem ss_if {s1 s2 : List Stmt} (hc : ST G X W c fb) (ha : SSs G X W s1 F1) (hb : SSs G X W s2 F2) : SS G X W (.If c s1 s2 pos) (sIf fb F1 F2) := fun bd =>
  PS.imp (ps_if (hc bd) (ha bd) (hb bd)) fun D σ H ⟨P, m, e, M, re, rs, h⟩ => (stepST (Ext.refl _ _) re rs h).mono fun k H1 ⟨m1, M1, x1, x01, re1, rs1, h1⟩ => by
    cases k with
    | true => simp only [if_true] at h1 ⊢; exact ⟨P, m1, e, M1, re1, rs1, h1.back x1⟩
    | false => simp only [Bool.false_eq_true, if_false] at h1 ⊢; exact ⟨P, m1, e, M1, re1, rs1, h1.back x1⟩
/-! ### stores -/
def sSet (i : Nat) (f : EF) : SF := fun bd e M => (f bd e M).out e fun d M1 => .nx (e.set i (some d)) M1
theorem ss_set {i : Nat} {x : Str} {pos' : Pos} (hN : X.N.Nodup) (hi : X.N[i]? = some x) (hx : Loc X.env.scope x) (hf : X.fn x = true ∨ X.env.scope.names.lookup x = some .local) (ha : SE G X W a f) (hs : swapsWith a (some (.Name x pos')) pos.line X.env = pure false := by rfl) : SS G X W (.Assign [.Name x pos'] a pos) (sSet i f) := fun bd =>
  PS.imp (ps_set hN hi hx (ha bd) hs hf) fun D σ H ⟨P, m, e, M, re, rs, h⟩ => (stepS (Ext.refl _ _) re rs h).mono fun v H1 ⟨m1, d, M1, x1, x01, re1, rs1, r1, h1⟩ => h1 m1 H1 _ x01 rs1 (re1.set r1)
def sSet2 (i j : Nat) (t : AF) : SF := fun bd e M => (t bd e M).out e fun ds M1 => match ds with
  | [d, d2] => .nx ((e.set i (some d)).set j (some d2)) M1
  | _ => .stuck
theorem ss_par {i j : Nat} {x y : Str} {px py pt : Pos} {kt k2 pt2} (hc : X.calm = true) (hN : X.N.Nodup) (hi : X.N[i]? = some x) (hj : X.N[j]? = some y) (hij : i ≠ j)
    (hx : X.env.scope.names.lookup x = some .local) (hy : X.env.scope.names.lookup y = some .local) (ha : SA G X W [a, b] fa)
    (hw : swappedStores [.Tuple [.Name x px, .Name y py] kt pt] (.Tuple [a, b] k2 pt2) X.env = pure (some [x, y]))
    (hs : swapsWithSole [.Tuple [.Name x px, .Name y py] kt pt] (.Tuple [a, b] k2 pt2) pos.line X.env = pure false := by rfl) :
    SS G X W (.Assign [.Tuple [.Name x px, .Name y py] kt pt] (.Tuple [a, b] k2 pt2) pos) (sSet2 i j fa) := fun bd =>
  PS.imp (ps_par hc hN hi hj hij hx hy (ha bd) hw hs) fun D σ H ⟨P, m, e, M, re, rs, h⟩ => (stepSA (Ext.refl _ _) re rs h).mono fun vs H1 ⟨m1, ds, M1, x1, x01, re1, rs1, r1, h1⟩ => by
    split at h1
    · cases r1 with | cons ra r2 => cases r2 with | cons rb r3 =>
        cases r3; exact ⟨_, _, rfl, h1 m1 H1 _ x01 rs1 ((re1.set ra).set rb)⟩
    · exact h1.elim
/-- target = value, in general -/
def gOut (r : R Env) : Out := match r with
  | .ok e M => .nx e M
  | _ => .stuck
def sAsg (f : EF) (g : GF) : SF := fun bd e M => (f bd e M).out e fun d M1 => gOut (g bd d e M1)
theorem sat_gOut {r : R Env} (h : SatD G W P bd m H De (gOut r)) : Sat r (PK G P bd m H De.nx) NoE := by
  cases r with
  | ok e M => exact h
  | exc c M => exact h.elim
  | stuck => exact h.elim
theorem ss_asg {vs : List Nat} {gf : GF} (ha : SE G X W a f) (hg : SG G X vs tg gf) (hs : swapsWithSole [tg] a pos.line X.env = pure false := by rfl) (hw : swappedStores [tg] a X.env = pure none := by rfl)
    (h1 : (assignEach [tg] X.env).map (·.2) = [assign tg X.env] := by rfl) : SS G X W (.Assign [tg] a pos) (sAsg f gf) := fun bd =>
  PS.imp (ps_asg (ha bd) (hg bd) hs hw h1) fun D σ H ⟨P, m, e, M, re, rs, h⟩ => (stepS (Ext.refl _ _) re rs h).mono fun v H1 ⟨m1, d, M1, x1, x01, re1, rs1, r1, h1⟩ =>
    ⟨P, m1, e, M1, d, re1, rs1, r1, (sat_gOut h1).mono (fun e' M' z m' H' σ' x s r _ => z m' H' σ' (x01.trans x) s r) fun _ _ z => z⟩
/-- name op= value -/
def sAug (i : Nat) (op : O2) (f : EF) : SF := fun bd e M => match e[i]? with
  | some (some x) => (f bd e M).out e fun y M1 => match op M1 x y with
    | some d => .nx (e.set i (some d)) M1
    | none => .stuck
  | _ => .stuck
theorem ss_aug {i : Nat} {x : Str} {op : Operator} {r : R2} {o2 : O2} {pos' : Pos} (hN : X.N.Nodup) (hi : X.N[i]? = some x) (hx : Loc X.env.scope x) (hf : X.fn x = true ∨ X.env.scope.names.lookup x = some .local) (ho : OpR X (inplaceOp op) r) (hr : ∀ P, Sim (G.on P) r o2) (ha : SE G X W a f) :
    SS G X W (.AugAssign (.Name x pos') op a pos) (sAug i o2 f) := fun bd =>
  PS.imp (ps_aug hN hi hx (ha bd) ho hf) fun D σ H ⟨P, m, e, M, re, rs, h⟩ => by
    unfold sAug at h
    split at h
    · rename_i d0 q
      obtain ⟨v0, hv, r0⟩ := re.at_ i d0 q
      refine ⟨v0, hv, (stepS (Ext.refl _ _) re rs h).mono fun v H1 ⟨m1, d, M1, x1, x01, re1, rs1, r1, h1⟩ => ?_⟩
      split at h1
      · rename_i d2 hd
        exact hr P bd m1 H1 M1 d0 d d2 v0 v _ rs1 (r0.mono x1) r1 hd fun m' H' w x s r => h1 m' H' _ (x01.trans x) s ((re1.mono x).set r)
      · exact h1.elim
    · exact h.elim
/-! ### while, for -/
def loopW (c : BF) (body : SF) : Nat → Nat → Env → Mem → Out
  | 0, _, _, _ => .stuck
  | n + 1, bd, e, M => (c bd e M).out e fun k M1 => if k = true then (match body bd e M1 with
      | .nx e2 M2 => loopW c body n bd e2 M2
      | .ct e2 M2 => loopW c body n bd e2 M2
      | .bk e2 M2 => .nx e2 M2
      | r => r) else .nx e M1
/-- turns enough -/
def turns : Nat := 18446744073709551616
def sWhile (c : BF) (body : SF) : SF := fun bd e M => loopW c body turns bd e M
theorem while_of {D : Ends} (h : tS G W bd (sWhile fb F1) D σ H) : tWhile (tT G W bd fb) (tS G W bd F1) D σ H := by
  obtain ⟨P, m, e, M, re, rs, h⟩ := h
  unfold sWhile at h
  generalize turns = n0 at h
  refine ⟨fun n σ' H' => ∃ m' e' M', RE (G.on P) m' H' e' σ' ∧ RS (G.on P) bd m' H' M' ∧ Ext (G.on P) m m' H H' ∧ SatD G W P bd m H D (loopW fb F1 n bd e' M'), ⟨n0, m, e, M, re, rs, Ext.refl _ _, h⟩, ?_⟩
  rintro n σ1 H1 ⟨m1, e1, M1, re1, rs1, x1, h1⟩
  cases n with
  | zero => exact h1.elim
  | succ n =>
    unfold loopW at h1
    refine (stepST x1 re1 rs1 h1).mono fun k H2 ⟨m2, M2, x2, x02, re2, rs2, h2⟩ => ?_
    cases k with
    | false => simp only [Bool.false_eq_true, if_false] at h2 ⊢; exact h2 m2 H2 σ1 x02 rs2 re2
    | true =>
      simp only [if_true] at h2 ⊢
      refine ⟨fun σ' H' => ∃ m' e' M', RE (G.on P) m' H' e' σ' ∧ RS (G.on P) bd m' H' M' ∧ Ext (G.on P) m m' H H' ∧ SatD G W P bd m H D (loopW fb F1 n bd e' M'), fun σ' H' z => ⟨n, Nat.lt_succ_self n, z⟩, P, m2, e1, M2, re2, rs2, ?_⟩
      cases q : F1 bd e1 M2 with
      | nx e3 M3 => rw [q] at h2; exact fun m3 H3 σ3 x3 s3 r3 => ⟨m3, e3, M3, r3, s3, x02.trans x3, h2⟩
      | ct e3 M3 => rw [q] at h2; exact fun m3 H3 σ3 x3 s3 r3 => ⟨m3, e3, M3, r3, s3, x02.trans x3, h2⟩
      | bk e3 M3 => rw [q] at h2; exact fun m3 H3 σ3 x3 s3 r3 => h2 m3 H3 σ3 (x02.trans x3) s3 r3
      | rt d M3 => rw [q] at h2; exact fun m3 H3 σ3 x3 s3 r3 => h2 m3 H3 σ3 (x02.trans x3) s3 r3
      | exc c e3 M3 => rw [q] at h2; exact fun m3 H3 σ3 x3 s3 r3 => h2 m3 H3 σ3 (x02.trans x3) s3 r3
      | stuck => rw [q] at h2; exact h2.elim
theorem ss_while {body : List Stmt} (hp : PassesOwn (model X.prog X.w) X.A X.env X.xe) (hc : ST G X W c fb) (hb : SSs G X W body F1) : SS G X W (.While c body [] pos) (sWhile fb F1) := fun bd => PS.imp (ps_while hp (hc bd) (hb bd)) fun D σ H h => while_of h
def loopF (tg : GF) (body : SF) (src : Src) : Nat → Nat → Nat → Env → Mem → Out
  | 0, _, _, _, _ => .stuck
  | n + 1, i, bd, e, M => match src M with
    | none => .stuck
    | some ds => match ds[i]? with
      | none => .nx e M
      | some d => match tg bd d e M with
        | .ok e2 M2 => (match body bd e2 M2 with
          | .nx e3 M3 => loopF tg body src n (i + 1) bd e3 M3
          | .ct e3 M3 => loopF tg body src n (i + 1) bd e3 M3
          | .bk e3 M3 => .nx e3 M3
          | r => r)
        | _ => .stuck
def sFor (it : IF) (tg : GF) (body : SF) : SF := fun bd e M => (it bd e M).out e fun src M1 => match src M1 with
  | none => .stuck
  | some ds => loopF tg body src (ds.length + 1) 0 bd e M1
theorem stepSI {it : IF} {k : Src → Mem → Out} (x0 : Ext (G.on P) m0 m H0 H) (re : RE (G.on P) m H e σ) (rs : RS (G.on P) bd m H M) (h : SatD G W P bd m0 H0 De ((it bd e M).out e k)) (R : It → Hp → Prop)
    (hk : ∀ m1 H1 src M1 J, Ext (G.on P) m m1 H H1 → Ext (G.on P) m0 m1 H0 H1 → RE (G.on P) m1 H1 e σ → RS (G.on P) bd m1 H1 M1 → Walk G P J src m1 H1 → SatD G W P bd m0 H0 De (k src M1) → R J H1) : tI G W bd it σ H R := by
  refine ⟨P, m, e, M, re, rs, ?_⟩
  cases q : it bd e M with
  | ok src M1 => rw [q] at h; exact fun m1 H1 J x s w => hk m1 H1 src M1 J x (x0.trans x) (re.mono x) s w h
  | exc c M1 => rw [q] at h; exact fun m1 H1 x s => h m1 H1 σ (x0.trans x) s (re.mono x)
  | stuck => rw [q] at h; exact h.elim
theorem for_of {vs : List Nat} {it : IF} {gf : GF} {D : Ends} (h : tS G W bd (sFor it gf F1) D σ H) : tFor (tI G W bd it) (tG G bd vs gf) (tS G W bd F1) D σ H := by
  obtain ⟨P, m, e, M, re, rs, h⟩ := h
  refine stepSI (Ext.refl _ _) re rs h _ fun m1 H1 src M1 J x1 x01 re1 rs1 w h1 => ?_
  cases hs : src M1 with
  | none => rw [hs] at h1; exact h1.elim
  | some ds0 =>
    rw [hs] at h1
    simp only at h1
    refine ⟨fun i n σ' H' => ∃ m' e' M', RE (G.on P) m' H' e' σ' ∧ RS (G.on P) bd m' H' M' ∧ Ext (G.on P) m1 m' H1 H' ∧ SatD G W P bd m H D (loopF gf F1 src n i bd e' M'), ⟨ds0.length + 1, m1, e, M1, re1, rs1, Ext.refl _ _, h1⟩, ?_⟩
    rintro i n σ2 H2 ⟨m2, e2, M2, re2, rs2, x2, h2⟩
    cases n with
    | zero => exact h2.elim
    | succ n =>
      unfold loopF at h2
      cases hsM : src M2 with
      | none => rw [hsM] at h2; exact h2.elim
      | some ds =>
        rw [hsM] at h2
        simp only at h2
        have wk := w P bd m2 H2 M2 ds i PLe.refl x2.chg rs2 hsM
        cases hi : ds[i]? with
        | none =>
          rw [hi] at h2
          exact .inl ⟨wk.2 (List.getElem?_eq_none_iff.mp hi), h2 m2 H2 σ2 (x01.trans x2) rs2 re2⟩
        | some d =>
          rw [hi] at h2
          simp only at h2
          obtain ⟨w1, w2⟩ := wk.1 d hi
          refine .inr ⟨w1, fun σ' H' => ∃ m' e' M', RE (G.on P) m' H' e' σ' ∧ RS (G.on P) bd m' H' M' ∧ Ext (G.on P) m1 m' H1 H' ∧ SatD G W P bd m H D (loopF gf F1 src n (i + 1) bd e' M'), fun σ' H' z => ⟨n, Nat.lt_succ_self n, z⟩, fun x H' hy => ?_⟩
          obtain ⟨x3, rs3, rd⟩ := w2 x H' hy
          refine ⟨P, m2, e2, M2, d, re2.mono x3.chg, rs3, rd, ?_⟩
          cases hg : gf bd d e2 M2 with
          | stuck => rw [hg] at h2; exact h2.elim
          | exc c M3 => rw [hg] at h2; exact h2.elim
          | ok e4 M4 =>
            rw [hg] at h2
            simp only at h2
            intro m4 H4 σ4 x4 s4 r4 _
            have x14 : Ext (G.on P) m1 m4 H1 H4 := (x2.trans x3.chg).trans x4
            refine ⟨P, m4, e4, M4, r4, s4, ?_⟩
            cases q : F1 bd e4 M4 with
            | nx e3 M3 => rw [q] at h2; exact fun m3 H3 σ3 x3 s3 r3 => ⟨m3, e3, M3, r3, s3, x14.trans x3, h2⟩
            | ct e3 M3 => rw [q] at h2; exact fun m3 H3 σ3 x3 s3 r3 => ⟨m3, e3, M3, r3, s3, x14.trans x3, h2⟩
            | bk e3 M3 => rw [q] at h2; exact fun m3 H3 σ3 x3 s3 r3 => h2 m3 H3 σ3 ((x01.trans x14).trans x3) s3 r3
            | rt d M3 => rw [q] at h2; exact fun m3 H3 σ3 x3 s3 r3 => h2 m3 H3 σ3 ((x01.trans x14).trans x3) s3 r3
            | exc c e3 M3 => rw [q] at h2; exact fun m3 H3 σ3 x3 s3 r3 => h2 m3 H3 σ3 ((x01.trans x14).trans x3) s3 r3
            | stuck => rw [q] at h2; exact h2.elim
theorem ss_for {vs : List Nat} {iter : Expr} {it : IF} {gf : GF} {body : List Stmt} (hp : PassesOwn (model X.prog X.w) X.A X.env X.xe) (hc : X.calm = true) (hi : SI G X W tg iter it) (hg : SG G X vs tg gf) (hb : SSs G X W body F1) (hs : ∀ x, foldedSetIterable iter X.env x = pure x := by intro _; rfl) :
    SS G X W (.For tg iter body [] pos) (sFor it gf F1) := fun bd => PS.imp (ps_for hp hc (hi bd) (hg bd) (hb bd) hs) fun D σ H h => for_of h
end
end Sh
set_option Elab.async false
set_option linter.all false
set_option maxRecDepth 100000
set_option maxHeartbeats 4000000
/-! Sh: stores into things, fields, raise, the rule for a def. -/
namespace Sh
open PySem PySem.Spec PyProof.Rows L2
section
variable {G : Gam} {X : Cx} {W : WX} {bd : Nat} {f g h : EF} {fb gb : BF} {fa : AF} {F1 F2 : SF} {a b c tg : Expr} {pos p : Pos} {σ : L2.St} {H H0 : Hp} {m m0 : List Addr} {M : Mem} {e : Env} {st : Stmt} {rest : List Stmt} {De : Ends} {P : Prt}
/-! ### x[i] = v -/
def setM (bd : Nat) (x y d : D) (M : Mem) : Option Mem := match x with
  | .ref n => (match M[n]? with
    | some (.lst es) => (match y with
      | .int k => (match ixN es.length k with
        | some j => if okS bd n d = true then some (M.set n (.lst (es.set j d))) else none
        | none => none)
      | _ => none)
    | some (.dK kvs) => (match kOf y with
      | some k => if (okS bd n d && decide (kvs.length < 16777216)) = true then some (M.set n (.dK (putD kvs k d))) else none
      | none => none)
    | some (.dT kvs) => (match y with
      | .tup ds => (match kOfs ds with
        | some k => if (okS bd n d && decide (kvs.length < 16777216)) = true then some (M.set n (.dT (putD kvs k d))) else none
        | none => none)
      | _ => none)
    | _ => none)
  | _ => none
def rSetS : TSet := fun o i v H Q => rSetL o i v H Q ∨ rSetD o i v H Q
theorem set_S (hu : X.A.units + 64 < cLine) : PSet X rSetS := by
  intro pins s σ H o i v ov iv u Q I ro ri rv h
  rcases h with h | h
  · exact set_list pins s σ H o i v ov iv u Q I ro ri rv h
  · exact set_dict (by omega) pins s σ H o i v ov iv u Q I ro ri rv h
theorem RVs.setAt {ds : List D} {us : List V} {d : D} {v : V} (r : RVs G m H ds us) (rd : RV G m H d v) (j : Nat) : RVs G m H (ds.set j d) (us.set j v) := r.set rd j
theorem setM_of {x y d : D} {u v w : V} {M' : Mem} {Q : Hp → Prop} (rs : RS G bd m H M) (rx : RV G m H x u) (ry : RV G m H y v) (rd : RV G m H d w) (h : setM bd x y d M = some M')
    (k : ∀ H', Ext G m m H H' → RS G bd m H' M' → Q H') : rSetS u v w H Q := by
  unfold setM at h
  split at h
  · cases rx with
    | ref z =>
    split at h
    · rename_i es hM
      split at h
      · split at h
        · rename_i j hj
          split at h
          · rename_i hs
            cases h
            cases ry
            obtain ⟨us, hq, s⟩ := rs.ref hM z
            obtain ⟨x, rs'⟩ := wr_lst rs hM z (s.set rd j) fun b hb hn => ubL_iff.mpr fun d' hd => by
              rcases List.mem_or_eq_of_mem_set hd with q | q
              · exact rs.lowL hM hb hn d' q
              · rw [q]; exact okS_ub hs hn (rs.cs b hb)
            exact .inl ⟨_, us, _, j, rfl, rfl, hq, by rw [← s.length]; exact hj, k _ x rs'⟩
          · cases h
        · cases h
      · cases h
    · rename_i kvs hM
      split at h
      · rename_i key hk
        split at h
        · rename_i hs
          simp only [Bool.and_eq_true, decide_eq_true_eq] at hs
          cases h
          obtain ⟨kus, hq, s⟩ := rs.ref hM z
          obtain ⟨x, rs'⟩ := wr_dK rs hM z (KVs.put (k := key) s rd) fun b hb hn => putD_ub (rs.low b hb _ _ hn hM) (okS_ub hs.1 hn (rs.cs b hb))
          exact .inr ⟨_, _, rfl, by rw [kOf_V ry hk]; exact DPut.k hq (by rw [← KVs.length s]; exact line_lt hs.2), k _ x rs'⟩
        · cases h
      · cases h
    · rename_i kvs hM
      split at h
      · split at h
        · rename_i key hk
          split at h
          · rename_i hs
            simp only [Bool.and_eq_true, decide_eq_true_eq] at hs
            cases h
            obtain ⟨kus, hq, s⟩ := rs.ref hM z
            cases ry with
            | tup hb hv =>
              have e1 := kOfs_V hv hk
              subst e1
              obtain ⟨x, rs'⟩ := wr_dT rs hM z (KVs.put (k := key) s rd) fun b hb hn => putD_ub (rs.low b hb _ _ hn hM) (okS_ub hs.1 hn (rs.cs b hb))
              exact .inr ⟨_, _, rfl, DPut.t hq hb (by rw [← KVs.length s]; exact line_lt hs.2), k _ x rs'⟩
          · cases h
        · cases h
      · cases h
    · cases h
  · cases h
def optM (o : Option Mem) (e : Env) : R Env := match o with
  | some M => .ok e M
  | none => .stuck
theorem sat_optM {o : Option Mem} {k : Env → Mem → Prop} {x : Str → Mem → Prop} (h : Sat (optM o e) k x) : ∃ M', o = some M' ∧ k e M' := by
  cases o with
  | none => exact h.elim
  | some M' => exact ⟨M', rfl, h⟩
def gSb (f g : EF) : GF := fun bd d e M => (hush ((f bd e M).bind fun x M1 => (g bd e M1).bind fun y M2 => optM (setM bd x y d M2) e))
theorem sg_sub {vs : List Nat} (hu : X.A.units + 64 < cLine) (ha : SE G X W a f) (hb : SE G X W b g) (hs : ∀ v, assign (.Subscript a b pos) X.env v = (do
      let ov ← holding [v] (eval a X.env)
      let iv ← holding [v, ov] (eval b X.env)
      standAt pos
      holding [v, ov, iv] (setItem ov iv v)
      release [v, ov, iv] []) := by intro _; rfl) : SG G X vs (.Subscript a b pos) (gSb f g) := fun bd =>
  PG.imp (pg_sub (ha bd) (hb bd) (set_S hu) hs) fun v σ H Q ⟨P, m, e, M, d, re, rs, r, h⟩ => by
    have h := noE_of (x := XW (G.on P) W bd σ m H) (sat_hush h)
    refine (step (Ext.refl _ _) re rs h).mono fun x H1 ⟨m1, xd, M1, x1, x01, re1, rs1, r1, h1⟩ => (step x01 re1 rs1 h1).mono fun y H2 ⟨m2, yd, M2, x2, x02, re2, rs2, r2, h2⟩ => ?_
    obtain ⟨M3, e3, h3⟩ := sat_optM h2
    exact setM_of rs2 (r1.mono x2) r2 (r.mono x02) e3 fun H' x s => h3 m2 H' σ (x02.trans x) s (re2.mono x) rfl
/-- x[i] op= v, x a list -/
def rGetL : V → V → Hp → VK → Prop := fun o i H Q => ∃ p xs k v, o = .ref p ∧ i = .int k ∧ H p = some (.lst xs) ∧ 0 ≤ k ∧ xs[k.toNat]? = some v ∧ Q v H
theorem get_listS : PGet X rGetL := by
  intro pins s σ H o i ov iv Q I ro ri h
  obtain ⟨p, xs, k, v, rfl, rfl, hp, h0, hv, q⟩ := h
  cases ro
  obtain ⟨t, rfl⟩ := ri
  obtain ⟨its, rv, pl, hz⟩ := I.list (.inl (.inl hp))
  obtain ⟨u, hu, ru⟩ := rv.get hv
  have hl := line63
  have hlt := (List.getElem?_eq_some_iff.mp hv).1
  exact wpAny_getItem_list pl.isList h0 (by omega) (x := u) (by simpa using hu) ⟨v, H, I, ru, q⟩
def sAugL (f g : EF) (op : O2) (h : EF) : SF := fun bd e M => (f bd e M).out e fun x M1 => (g bd e M1).out e fun y M2 => match x, y with
  | .ref n, .int k => (match M2[n]? with
    | some (.lst es) => if 0 ≤ k then (match es[k.toNat]? with
      | some z => (h bd e M2).out e fun w M3 => (match op M3 z w with
        | some d => (match setM bd x y d M3 with
          | some M4 => .nx e M4
          | none => .stuck)
        | none => .stuck)
      | none => .stuck) else .stuck
    | _ => .stuck)
  | _, _ => .stuck
theorem ss_augL {op : Operator} {r : R2} {o2 : O2} {tpos : Pos} (hu : X.A.units + 64 < cLine) (ha : SE G X W a f) (hb : SE G X W b g) (ho : OpR X (inplaceOp op) r) (hr : ∀ P, Sim (G.on P) r o2) (hc : SE G X W c h)
    (hs : ∀ ov iv new, augStore b ov iv new = (do holding [new, ov, iv] (setItem ov iv new); release [new, ov, iv] []; pure .next) := by intros; rfl) : SS G X W (.AugAssign (.Subscript a b tpos) op c pos) (sAugL f g o2 h) := fun bd =>
  PS.imp (ps_augS (ha bd) (hb bd) get_listS (hc bd) ho (set_S hu) hs) fun D σ H ⟨P, m, e, M, re, rs, h⟩ => (stepS (Ext.refl _ _) re rs h).mono fun x H1 ⟨m1, xd, M1, x1, x01, re1, rs1, r1, h1⟩ => (stepS x01 re1 rs1 h1).mono fun y H2 ⟨m2, yd, M2, x2, x02, re2, rs2, r2, h2⟩ => by
    split at h2
    · split at h2
      · rename_i es hM
        split at h2
        · rename_i h0
          split at h2
          · rename_i z hz
            cases r2 with | int k =>
            have rx := r1.mono x2
            cases rx with | ref zz =>
            obtain ⟨us, hq, s⟩ := rs2.ref hM zz
            obtain ⟨u, hu, ru⟩ := s.get hz
            refine ⟨_, us, _, u, rfl, rfl, hq, h0, hu, (stepS x02 re2 rs2 h2).mono fun w H3 ⟨m3, wd, M3, x3, x03, re3, rs3, r3, h3⟩ => ?_⟩
            split at h3
            · rename_i d hd
              split at h3
              · rename_i M4 hM4
                refine hr P bd m3 H3 M3 z wd d u w _ rs3 (ru.mono x3) r3 hd fun m4 H4 q x4 s4 rq => ?_
                exact setM_of s4 (.ref (x4.get (x3.get zz))) (.int _) rq hM4 fun H' x s => h3 m4 H' σ ((x03.trans x4).trans x) s ((re3.mono x4).mono x)
              · exact h3.elim
            · exact h3.elim
          · exact h2.elim
        · exact h2.elim
      · exact h2.elim
    · exact h2.elim
/-! ### o.f = v -/
def gFldV (K : PySem.W.Frag) (to : TE) (f : Str) : TG := fun v σ H Q => to σ H fun x H1 => ∃ a C dx fs, x = .ref a ∧ H1 a = some (.ins C dx fs) ∧ Cls K C ∧ NoAttr K C f ∧ fs.length < 1000 ∧ Q σ (upd H1 a (.ins C dx (putF f v fs)))
theorem pg_fld {o : Expr} {f : Str} {to : TE} (ho : PE X o to) : PG X (.Attribute o f pos) (gFldV X.K to f) := by
  refine ⟨fun pins s σ H v u Q I r h => ?_⟩
  rw [assign_Attribute]
  refine wpAny_bind (wpAny_holding (thn (ho.run pins s σ H _ I h) fun ov s1 ⟨x, H1, I1, r1, a, C, dx, fs, ex, ea, c, n, l, q⟩ => ?_))
  subst ex
  obtain rfl : ov = Value.ref a := r1
  exact wpAny_bind (wpAny_standAt (wpAny_bind (wpAny_holding (setattr_ok I1 ea c n l r fun s3 I3 => wpAny_release ⟨σ, _, I3, q⟩))))
theorem cnt_set {d : D} : ∀ {fs : List (Option D)} {i : Nat}, i < fs.length → cnt (fs.set i (some d)) = cnt fs + (if (fs[i]?).join.isSome then 0 else 1)
  | x :: r, 0, _ => by cases x <;> simp [cnt]
  | x :: r, i + 1, h => by
    have ih := cnt_set (d := d) (fs := r) (i := i) (by simpa using h)
    unfold cnt at ih ⊢
    cases x <;> simp [ih] <;> omega
theorem length_putF_old {f : Str} {v w : V} : ∀ {fs : List (Str × V)}, fs.lookup f = some w → (putF f v fs).length = fs.length
  | [], h => by simp at h
  | (k, x) :: r, h => by
    unfold putF
    by_cases e : k = f
    · rw [if_pos e]; rfl
    · rw [if_neg e]
      have : (f == k) = false := by simp; exact fun z => e z.symm
      rw [List.lookup_cons, this] at h
      simp [length_putF_old h]
theorem cnt_le (fs : List (Option D)) : cnt fs ≤ fs.length := List.length_filter_le _ _
theorem InsOk.put {cn : Nat} {fs : List (Option D)} {fus : List (Str × V)} {i : Nat} {x : Str} {d : D} {v : V} (h : InsOk G m H cn fs fus) (nd : (G.lay cn).2.Nodup) (hx : (G.lay cn).2[i]? = some x) (r : RV G m H d v) : InsOk G m H cn (fs.set i (some d)) (putF x v fus) := by
  have hi : i < fs.length := by rw [h.len]; exact (List.getElem?_eq_some_iff.mp hx).1
  have inj : ∀ {j : Nat} {y : Str}, (G.lay cn).2[j]? = some y → y = x → j = i := fun {j y} hj e => by
    subst e
    exact (List.getElem?_inj (List.getElem?_eq_some_iff.mp hj).1 nd).mp (hj.trans hx.symm)
  refine ⟨by simp [h.len], by simpa using h.few, fun j y d' e1 e2 => ?_, fun y w e => ?_, ?_⟩
  · by_cases q : i = j
    · subst q
      rw [List.getElem?_set_self hi] at e2
      cases e2
      rw [hx] at e1; cases e1
      exact ⟨v, by rw [lookup_putF, if_pos rfl], r⟩
    · rw [List.getElem?_set_ne q] at e2
      obtain ⟨w, h1, h2⟩ := h.at_ j y d' e1 e2
      exact ⟨w, by rw [lookup_putF, if_neg (fun z => q (inj e1 z).symm)]; exact h1, h2⟩
  · rw [lookup_putF] at e
    split at e
    · rename_i q
      subst q
      exact ⟨i, d, hx, List.getElem?_set_self hi⟩
    · rename_i q
      obtain ⟨j, d', h1, h2⟩ := h.keys y w e
      refine ⟨j, d', h1, ?_⟩
      rw [List.getElem?_set_ne]; exact h2
      rintro rfl
      rw [hx] at h1; cases h1
      exact q rfl
  · rw [cnt_set hi]
    have hs := h.size
    cases q : fs[i]? with
    | none => rw [List.getElem?_eq_none_iff] at q; omega
    | some o =>
      cases o with
      | some d0 =>
        obtain ⟨w, h1, _⟩ := h.at_ i x d0 hx q
        rw [length_putF_old h1]
        simpa using hs
      | none =>
        have := length_putF x v fus
        simp
        omega
def fldM (bd c i : Nat) (x d : D) (M : Mem) : Option Mem := match x with
  | .ref n => (match M[n]? with
    | some (.ins c' fs) => if (decide (c' = c) && okS bd n d) = true then some (M.set n (.ins c (fs.set i (some d)))) else none
    | _ => none)
  | _ => none
theorem ub_set {n : Nat} {fs : List (Option D)} {i : Nat} {d : D} (h : (MO.ins c' fs).ub n = true) (hd : d.ub n = true) : (MO.ins c' (fs.set i (some d))).ub n = true := by
  have h : (fs.all fun o => match o with | some d => d.ub n | none => true) = true := h
  show ((fs.set i (some d)).all fun o => match o with | some d => d.ub n | none => true) = true
  rw [List.all_eq_true] at h ⊢
  intro o ho
  rcases List.mem_or_eq_of_mem_set ho with q | q
  · exact h o q
  · rw [q]; exact hd
theorem fldM_of {cn i : Nat} {n x : Str} {fs : List Str} {xd d : D} {u w : V} {M' : Mem} (Fc : ClsF G cn n fs) (nd : fs.Nodup) (hi : fs[i]? = some x) (rs : RS G bd m H M) (rx : RV G m H xd u) (rd : RV G m H d w) (h : fldM bd cn i xd d M = some M') :
    ∃ a C dx fus, u = .ref a ∧ H a = some (.ins C dx fus) ∧ Cls G.K C ∧ NoAttr G.K C x ∧ fus.length < 1000 ∧ Ext G m m H (upd H a (.ins C dx (putF x w fus))) ∧ RS G bd m (upd H a (.ins C dx (putF x w fus))) M' := by
  unfold fldM at h
  split at h
  · split at h
    · rename_i c' fsd hM
      split at h
      · rename_i hc
        simp only [Bool.and_eq_true, decide_eq_true_eq] at hc
        obtain ⟨rfl, hs⟩ := hc
        cases h
        cases rx with
        | ref z =>
          obtain ⟨dx, fus, hq, hdx, ok⟩ := rs.ref hM z
          have hl := Fc.lay
          have hq' := hq
          rw [hl] at hq'
          have h9 : fus.length < 1000 := by
            have := ok.size; have := cnt_le fsd; have := ok.few; omega
          have x1 := Ext.write (G := G) (o := .ins (He.ga G.K n) dx (putF x w fus)) z hq' trivial
          refine ⟨_, _, dx, fus, rfl, hq', Fc.cls, Fc.no _ (List.mem_of_getElem? hi), h9, x1, rs.write z hq' trivial ?_ fun b hb hn => ub_set (rs.low b hb _ _ hn hM) (okS_ub hs hn (rs.cs b hb))⟩
          refine ⟨dx, _, by rw [hl]; exact upd_same, ?_, ?_⟩
          · rw [upd_ne]; exact hdx
            intro e
            rw [e, hq] at hdx; cases hdx
          · refine InsOk.mono ?_ x1
            exact ok.put (by rw [hl]; exact nd) (by rw [hl]; exact hi) rd
      · cases h
    · cases h
  · cases h
def gFd (c i : Nat) (f : EF) : GF := fun bd d e M => hush ((f bd e M).bind fun x M1 => optM (fldM bd c i x d M1) e)
theorem sg_fld {vs : List Nat} {cn i : Nat} {n x : Str} {fs : List Str} (hK : X.K = G.K) (Fc : ClsF G cn n fs) (nd : fs.Nodup) (hi : fs[i]? = some x) (ha : SE G X W a f) : SG G X vs (.Attribute a x pos) (gFd cn i f) := fun bd =>
  PG.imp (pg_fld (ha bd)) fun v σ H Q ⟨P, m, e, M, d, re, rs, r, h⟩ => by
    have h := noE_of (x := XW (G.on P) W bd σ m H) (sat_hush h)
    refine (step (Ext.refl _ _) re rs h).mono fun y H1 ⟨m1, yd, M1, x1, x01, re1, rs1, r1, h1⟩ => ?_
    obtain ⟨M2, e2, h2⟩ := sat_optM h1
    obtain ⟨aa, C, dx, fus, e3, e4, e5, e6, e7, x8, s9⟩ := fldM_of (Fc.on P) nd hi rs1 r1 (r.mono x01) e2
    rw [hK]
    exact ⟨aa, C, dx, fus, e3, e4, e5, e6, e7, h2 m1 _ σ (x01.trans x8) s9 (re1.mono x8) rfl⟩
/-- o.f op= v -/
def sAugF (c i : Nat) (f : EF) (op : O2) (g : EF) : SF := fun bd e M => (f bd e M).out e fun x M1 => match x with
  | .ref n => (match M1[n]? with
    | some (.ins c' fs) => if c' = c then (match fs[i]? with
      | some (some z) => (g bd e M1).out e fun w M2 => (match op M2 z w with
        | some d => (match fldM bd c i x d M2 with
          | some M3 => .nx e M3
          | none => .stuck)
        | none => .stuck)
      | _ => .stuck) else .stuck
    | _ => .stuck)
  | _ => .stuck
theorem ss_augF {cn i : Nat} {n x : Str} {fs : List Str} {op : Operator} {r : R2} {o2 : O2} {tpos : Pos} (hK : X.K = G.K) (Fc : ClsF G cn n fs) (nd : fs.Nodup) (hi : fs[i]? = some x) (ha : SE G X W a f) (ho : OpR X (inplaceOp op) r) (hr : ∀ P, Sim (G.on P) r o2) (hb : SE G X W b g) :
    SS G X W (.AugAssign (.Attribute a x tpos) op b pos) (sAugF cn i f o2 g) := fun bd =>
  PS.imp (ps_fldaug (ha bd) (hb bd) ho) fun D σ H ⟨P, m, e, M, re, rs, h⟩ => (stepS (Ext.refl _ _) re rs h).mono fun y H1 ⟨m1, yd, M1, x1, x01, re1, rs1, r1, h1⟩ => by
    split at h1
    · split at h1
      · rename_i c' fsd hM
        split at h1
        · rename_i hc
          subst hc
          split at h1
          · rename_i z hz
            cases r1 with
            | ref zz =>
              obtain ⟨dx, fus, hq, _, ok⟩ := rs1.ref hM zz
              have el : (G.on P).lay c' = (n, fs) := Fc.lay
              obtain ⟨w, h2, h3⟩ := ok.at_ i x z (by rw [el]; exact hi) hz
              rw [el] at hq
              rw [hK]
              refine ⟨_, _, dx, fus, w, rfl, hq, Fc.cls, Fc.no _ (List.mem_of_getElem? hi), h2, (stepS x01 re1 rs1 h1).mono fun v2 H2 ⟨m2, d2, M2, x2, x02, re2, rs2, r2, h4⟩ => ?_⟩
              split at h4
              · rename_i d hd
                split at h4
                · rename_i M3 hM3
                  refine hr P bd m2 H2 M2 z d2 d w v2 _ rs2 (h3.mono x2) r2 hd fun m4 H4 q x4 s4 rq => ?_
                  obtain ⟨aa, C, dx', fus', e3, e4, e5, e6, e7, x8, s9⟩ := fldM_of (Fc.on P) nd hi s4 (.ref (x4.get (x2.get zz))) rq hM3
                  have hC : C = He.ga G.K n := by
                    have hM3' := hM3
                    unfold fldM at hM3'
                    simp only at hM3'
                    split at hM3'
                    · rename_i c2 fs2 hM2
                      split at hM3'
                      · rename_i hc2
                        simp only [Bool.and_eq_true, decide_eq_true_eq] at hc2
                        obtain ⟨dx2, fus2, hq2, _, _⟩ := s4.ref hM2 (x4.get (x2.get zz))
                        cases e3
                        rw [e4] at hq2
                        have := hc2.1
                        subst this
                        rw [el] at hq2
                        cases hq2
                        rfl
                      · cases hM3'
                    · cases hM3'
                  cases e3
                  subst hC
                  exact ⟨dx', fus', e4, e7, h4 m4 _ σ ((x02.trans x4).trans x8) s9 ((re2.mono x4).mono x8)⟩
                · exact h4.elim
              · exact h4.elim
          · exact h1.elim
        · exact h1.elim
      · exact h1.elim
    · exact h1.elim
/-! ### {} -/
def eDK : EF := fun _ _ M => mNew (.dK []) M
def eDT : EF := fun _ _ M => mNew (.dT []) M
theorem se_dK : SE G X W (.Dict [] [] pos) eDK := fun bd => PE.imp pe_dnewK fun σ H Q ⟨P, m, e, M, re, rs, h⟩ p hp => h _ _ _ (Ext.new hp) (rs.new hp (ro_dK hp)) (rv_new rs)
theorem se_dT : SE G X W (.Dict [] [] pos) eDT := fun bd => PE.imp pe_dnewT fun σ H Q ⟨P, m, e, M, re, rs, h⟩ p hp => h _ _ _ (Ext.new hp) (rs.new hp (ro_dT hp)) (rv_new rs)
/-! ### raise C() -/
theorem pmk_own0 {C : Addr} {bmB : List Value} {B newId initId : String} {x : Str} {p pos : Pos} (F : ExcBaseFacts B newId initId bmB) (q : PySem.W.excIn X.K C bmB newId = true) (gC : X.mg x = some (.ref C)) (kC : PySem.W.keepIn X.K (.ref C) = true) (r : Raises X (.ref C)) (hg : Gl X x)
    (hdb : (x == ("__debug__" : Str)) = false := by decide) : PMk X (.Call (.Name x p) [] [] pos) (fun _ H Q => Q (.ref C) none H) := by
  intro pins s σ H Q I h
  refine wpAny_Call_Name_kw (ld_glob I hg gC ?_ hdb)
  refine PySem.W.callWith_K0 I.kIn kC ?_
  show wpAny _ _ (call (.ref C) []) _ _ _
  obtain ⟨bm, N, nm, qn, bs, hdct, sn, sub, ab, col, dd, k0, k1, k2, k3, k5, mN, hC, hN, hni, T⟩ := exc_obj I.kIn q
  refine wpAny_call_exc_subT F T hC hN hni (fun h' e hm => ?_) (by show 0 ≤ sizeLine; omega)
  exact mk_of I hm r h (I.hok.gone hm.new)
def sRaise (c : Str) : SF := fun _ e M => .exc c e M
/-- an exception class of the module's own -/
structure ExcF (P : Program) (w : World) (K : PySem.W.Frag) (mg : Str → Option Value) (x : Str) : Prop where
  q : PySem.W.excIn K (He.ga K x) He.veBase "ValueError.__new__" = true
  k : PySem.W.keepIn K (.ref (He.ga K x)) = true
  g : mg x = some (.ref (He.ga K x))
  r : ∀ (M : Model) (h : Heap), K.In h → PySem.W.Looks M h (isSubtype (.ref (He.ga K x)) (.type "BaseException")) true ∧ PySem.W.Looks M h (typeOf (.ref (He.ga K x))) (.type "type")
end
end Sh
set_option Elab.async false
set_option linter.all false
set_option maxRecDepth 100000
set_option maxHeartbeats 4000000
/-! Sh: the rule for a def; raise; try. -/
namespace Sh
open PySem PySem.Spec PyProof.Rows L2
section
variable {G : Gam} {W : WX} {bd : Nat} {f g h : EF} {a b c tg : Expr} {pos p : Pos} {σ : L2.St} {H H0 : Hp} {m m0 : List Addr} {M : Mem} {e : Env} {P : Prt}
/-- what leaves a scope: lists of the scope's own become lists that stay as they are -/
def frz : Nat → Nat → Mem → D → Option D
  | 0, bd, _, d => if d.ub bd = true then some d else none
  | n + 1, bd, M, d => if d.ub bd = true then some d else match d with
    | .ref k => (match M[k]? with
      | some (.lst es) => (es.mapM (frz n bd M)).map D.lst
      | _ => none)
    | .tup ds => (ds.mapM (frz n bd M)).map D.tup
    | .lst ds => (ds.mapM (frz n bd M)).map D.lst
    | _ => none
theorem RVs.mapM {n' : Nat} {m' : List Addr} {fr : D → Option D} (hf : ∀ {d d' : D} {v : V}, RV G m H d v → fr d = some d' → RV G m' H d' v) : ∀ {ds ds' : List D} {us : List V}, RVs G m H ds us → ds.mapM fr = some ds' → RVs G m' H ds' us
  | _, _, _, .nil, h => by simp at h; subst h; exact .nil
  | _, _, _, .cons (d := d) (ds := r) a b, h => by
    rw [List.mapM_cons] at h
    cases q : fr d with
    | none => rw [q] at h; cases h
    | some d1 =>
      rw [q] at h
      cases q2 : r.mapM fr with
      | none =>
        simp only [bind, Option.bind, q2] at h
        cases h
      | some r1 =>
        simp only [bind, Option.bind, q2, pure] at h
        cases h
        exact .cons (hf a q) (RVs.mapM (n' := n') hf b q2)
theorem frz_of {k0 : Nat} (rs : RS G bd m H M) (hk : k0 ≤ M.length) (hP : ∀ a ∈ m.drop k0, a ∉ G.P.as) : ∀ (n : Nat) {d d' : D} {v : V}, RV G m H d v → frz n k0 M d = some d' → RV G (m.take k0) H d' v
  | 0, d, d', v, r, h => by
    unfold frz at h
    split at h
    · rename_i hu; cases h; exact r.cut k0 hu
    · cases h
  | n + 1, d, d', v, r, h => by
    unfold frz at h
    split at h
    · rename_i hu; cases h; exact r.cut k0 hu
    · rename_i hu
      split at h
      · rename_i k
        split at h
        · rename_i es hM
          obtain ⟨es', h1, rfl⟩ := Option.map_eq_some_iff.mp h
          cases r with
          | ref z =>
            obtain ⟨us, hq, s⟩ := rs.ref hM z
            have hkk : k0 ≤ k := by
              rcases Nat.lt_or_ge k k0 with q | q
              · exact absurd (decide_eq_true q) hu
              · exact q
            have hl := (List.getElem?_eq_some_iff.mp z).1
            refine .lst hq (fun hm => ?_) (hP _ ?_) (RVs.mapM (n' := n) (fun r h => frz_of rs hk hP n r h) s h1)
            · obtain ⟨j, hj, e⟩ := List.mem_iff_getElem.mp hm
              have hj' : j < k0 := by rw [List.length_take] at hj; omega
              rw [List.getElem_take] at e
              have e1 : m[j]? = some m[j] := List.getElem?_eq_getElem _
              have : j = k := (List.getElem?_inj (by rw [List.length_take] at hj; omega) rs.nd).mp (by rw [e1, z, e])
              omega
            · rw [List.mem_iff_getElem?]
              exact ⟨k - k0, by rw [List.getElem?_drop, Nat.add_sub_cancel' hkk]; exact z⟩
        · cases h
      · obtain ⟨es', h1, rfl⟩ := Option.map_eq_some_iff.mp h
        cases r with
        | tup q s => exact .tup q (RVs.mapM (n' := n) (fun r h => frz_of rs hk hP n r h) s h1)
      · obtain ⟨es', h1, rfl⟩ := Option.map_eq_some_iff.mp h
        cases r with
        | lst q n1 n2 s => exact .lst q (fun z => n1 (List.mem_of_mem_take z)) n2 (RVs.mapM (n' := n) (fun r h => frz_of rs hk hP n r h) s h1)
      · cases h
/-- a scope of its own -/
def Prt.inn (P : Prt) (n : Nat) : Prt := ⟨P.as, n :: P.C⟩
theorem RS.enter (s : RS (G.on P) bd m H M) : RS (G.on (P.inn M.length)) M.length m H M where
  len := s.len
  nd := s.nd
  at_ := fun n o e => let ⟨a, e2, r⟩ := s.at_ n o e; ⟨a, e2, RO.prot (P0 := P) (fun a ha => .inl ha) r⟩
  low := fun b hb n o hn e => by
    rcases List.mem_cons.mp hb with q | q
    · subst q
      obtain ⟨_, _, r⟩ := s.at_ n o e
      rw [s.len]; exact r.ub
    · exact s.low b q n o hn e
  cs := fun b hb => by
    rcases List.mem_cons.mp hb with q | q
    · rw [q]; exact Nat.le_refl _
    · exact Nat.le_trans (s.cs b q) s.le
  le := Nat.le_refl _
  trk := s.trk
theorem RS.leave {m' : List Addr} {H' : Hp} {M' : Mem} (s : RS (G.on P) bd m H M) (x : Ext (G.on (P.inn M.length)) m m' H H') (s' : RS (G.on (P.inn M.length)) M.length m' H' M') :
    Ext (G.on P) m m H H' ∧ RS (G.on P) bd m H' (M'.take M.length) ∧ m'.take M.length = m ∧ ∀ a ∈ m'.drop M.length, a ∉ P.as := by
  obtain ⟨y, rfl, hy⟩ := x.pre
  have hm : (m ++ y).take M.length = m := by rw [s.len]; simp
  have hd : (m ++ y).drop M.length = y := by rw [s.len]; simp
  refine ⟨⟨⟨[], by simp, by simp⟩, x.keep, x.here, x.tups, x.frzs⟩, ⟨?_, s.nd, fun n o e => ?_, fun b hb n o hn e => ?_, s.cs, ?_, fun a ha => x.here a (s.trk a ha)⟩, hm, fun a ha hp => ?_⟩
  · have := s'.le; rw [List.length_take, s.len] at *; omega
  · have hn : n < M.length := by
      have := (List.getElem?_eq_some_iff.mp e).1
      simp only [List.length_take] at this
      omega
    rw [List.getElem?_take_of_lt hn] at e
    obtain ⟨a, e2, r⟩ := s'.at_ n o e
    have r2 := RO.prot (P0 := P.inn M.length) (P := P) (fun a ha => .inl ha) (r.cut M.length (s'.low _ List.mem_cons_self n o hn e))
    rw [hm] at r2
    exact ⟨a, by rw [← hm, List.getElem?_take_of_lt hn]; exact e2, r2⟩
  · have hb2 := Nat.le_trans (s.cs b hb) s.le
    rw [List.getElem?_take_of_lt (Nat.lt_of_lt_of_le hn hb2)] at e
    exact s'.low b (List.mem_cons_of_mem _ hb) n o hn e
  · have := s'.le; have := s.le
    simp only [List.length_take]
    omega
  · rw [hd] at ha
    exact s.trk a hp (hy a ha)
def startE (nN : Nat) (ds : List D) : Env := ds.map some ++ List.replicate (nN - ds.length) none
/-- a def whose own things go with it -/
def fnPop (np nN : Nat) (B : SF) : Fn := fun _ ds M => if ds.length = np then (match B M.length (startE nN ds) M with
  | .nx _ M' => .ok .non (M'.take M.length)
  | .rt d M' => (match frz 40 M.length M' d with
    | some d' => .ok d' (M'.take M.length)
    | none => .stuck)
  | .exc c _ M' => .exc c (M'.take M.length)
  | _ => .stuck) else .stuck
/-- a def whose own things stay -/
def fnKeep (np nN : Nat) (B : SF) : Fn := fun bd ds M => if ds.length = np then (match B bd (startE nN ds) M with
  | .nx _ M' => .ok .non M'
  | .rt d M' => .ok d M'
  | .exc c _ M' => .exc c M'
  | _ => .stuck) else .stuck
theorem start_re {N : List Str} {ds : List D} {vs : List V} (r : RVs G m H ds vs) : RE G m H (startE N.length ds) (L2.start N vs) := by
  refine ⟨by simp [startE, L2.start, r.length], fun i d e => ?_⟩
  unfold startE at e
  unfold L2.start
  by_cases hi : i < ds.length
  · rw [List.getElem?_append_left (by simpa using hi), List.getElem?_map, Option.map_eq_some_iff] at e
    obtain ⟨d', h1, h2⟩ := e
    cases h2
    obtain ⟨v, h3, h4⟩ := r.get h1
    exact ⟨v, by rw [List.getElem?_append_left (by simpa [← r.length] using hi), List.getElem?_map, h3]; rfl, h4⟩
  · rw [List.getElem?_append_right (by simp; omega), List.getElem?_replicate] at e
    split at e <;> cases e
variable {Pr : Program} {w : World} {K : PySem.W.Frag} {mg : Str → Option Value} {base : Heap} {x qual : Str} {params : Arguments} {body : List Stmt} {scope : Scope} {fA : Addr} {fd : FuncData} {N ps : List Str} {k np nN : Nat} {B : SF}
/-- what a body wants of exceptions -/
abbrev WB (E : XK) : WX := fun cls d _ H => E cls d H
theorem fn_pop (F : FunD K x qual params body scope [] [] fA fd) (S : FnScope N ps scope) (hnp : np = ps.length) (hnN : nN = N.length) (hb : ∀ (cdv : Value) (A : Around) (outer : List PySem.Env) (s : Shared) (H : Hp) (E : XK), Room k (A.deeper (envOfC qual scope s.heap.objs.size fA cdv)) →
    SSs G (cxOf (L2.CX Pr w) Pr w K mg base N qual scope fA cdv A outer s H E) (WB E) body B) : FnOk Pr w K mg base (L2.CX Pr w) (k + 1) fA fd ps (spF G (fnPop np nN B)) := by
  refine F.ok S (fun vs H Q E ⟨P, bd, m, M, ds, r, rs, h⟩ => ?_) fun cdv A outer s H vs Q E hr hsp => ?_
  · rw [← r.length]
    unfold fnPop at h
    split at h
    · rename_i q; rw [q, hnp]
    · exact h.elim
  · obtain ⟨P, bd, m, M, ds, r, rs, h⟩ := hsp
    unfold fnPop at h
    split at h
    · refine ⟨_, hb cdv A outer s H E hr M.length, P.inn M.length, m, startE nN ds, M, ?_, rs.enter, ?_⟩
      · rw [hnN]; exact start_re (RVs.prot (P0 := P) (P := P.inn M.length) (fun a ha => .inl ha) r)
      · cases q : B M.length (startE nN ds) M with
        | nx e' M' =>
          rw [q] at h
          intro m' H' σ' x s r'
          obtain ⟨x1, s1, _, _⟩ := rs.leave x s
          exact h m H' _ x1 s1 .non
        | rt d M' =>
          rw [q] at h
          intro m' H' v x s r'
          obtain ⟨x1, s1, hm, hP⟩ := rs.leave x s
          simp only at h
          split at h
          · rename_i d' hd'
            refine h m H' v x1 s1 ?_
            have := frz_of s s.le hP 40 r' hd'
            rw [hm] at this
            exact RV.prot (P0 := P.inn M.length) (P := P) (fun a ha => .inl ha) this
          · exact h.elim
        | bk e' M' => rw [q] at h; exact h.elim
        | ct e' M' => rw [q] at h; exact h.elim
        | exc c e' M' =>
          rw [q] at h
          intro m' H' σ' x s r'
          obtain ⟨x1, s1, _, _⟩ := rs.leave x s
          exact h m H' x1 s1
        | stuck => rw [q] at h; exact h.elim
    · exact h.elim
theorem fn_keep (F : FunD K x qual params body scope [] [] fA fd) (S : FnScope N ps scope) (hnp : np = ps.length) (hnN : nN = N.length) (hb : ∀ (cdv : Value) (A : Around) (outer : List PySem.Env) (s : Shared) (H : Hp) (E : XK), Room k (A.deeper (envOfC qual scope s.heap.objs.size fA cdv)) →
    SSs G (cxOf (L2.CX Pr w) Pr w K mg base N qual scope fA cdv A outer s H E) (WB E) body B) : FnOk Pr w K mg base (L2.CX Pr w) (k + 1) fA fd ps (spF G (fnKeep np nN B)) := by
  refine F.ok S (fun vs H Q E ⟨P, bd, m, M, ds, r, rs, h⟩ => ?_) fun cdv A outer s H vs Q E hr hsp => ?_
  · rw [← r.length]
    unfold fnKeep at h
    split at h
    · rename_i q; rw [q, hnp]
    · exact h.elim
  · obtain ⟨P, bd, m, M, ds, r, rs, h⟩ := hsp
    unfold fnKeep at h
    split at h
    · refine ⟨_, hb cdv A outer s H E hr bd, P, m, startE nN ds, M, by rw [hnN]; exact start_re r, rs, ?_⟩
      cases q : B bd (startE nN ds) M with
      | nx e' M' => rw [q] at h; exact fun m' H' σ' x s r' => h m' H' _ x s .non
      | rt d M' => rw [q] at h; exact fun m' H' v x s r' => h m' H' v x s r'
      | bk e' M' => rw [q] at h; exact h.elim
      | ct e' M' => rw [q] at h; exact h.elim
      | exc c e' M' => rw [q] at h; exact fun m' H' σ' x s r' => h m' H' x s
      | stuck => rw [q] at h; exact h.elim
    · exact h.elim
/-- the def that is never come to (recursion's ground) -/
def fnNo : Fn := fun _ _ _ => .stuck
theorem FnOk.no {ps : List Str} : FnOk Pr w K mg base (L2.CX Pr w) k fA fd ps (spF G fnNo) := ⟨fun vs H Q E ⟨_, _, _, _, _, _, _, h⟩ => h.elim, fun A outer s H args us vs Q E _ _ _ _ ⟨_, _, _, _, _, _, _, h⟩ => h.elim⟩
theorem Fk.mono {j : Nat} {F : Fn} (h : Fk G Pr w K mg base j x F) (hj : j ≤ k) : Fk G Pr w K mg base k x F := let ⟨fA, fd, ps, O, r⟩ := h; ⟨fA, fd, ps, O.mono hj, r⟩
theorem Mt.mono {j : Nat} {cn mt : Str} {F : Fn} (h : Mt G Pr w K mg base j cn mt F) (hj : j ≤ k) : Mt G Pr w K mg base k cn mt F := let ⟨fA, fd, ps, hm, O, r⟩ := h; ⟨fA, fd, ps, hm, O.mono hj, r⟩
theorem Mkr.mono {j : Nat} {cn : Str} {F : Fn} (h : Mkr G Pr w K mg base j cn x F) (hj : j ≤ k) : Mkr G Pr w K mg base k cn x F := let ⟨fA, fd, ps, hm, O, r⟩ := h; ⟨fA, fd, ps, hm, O.mono hj, r⟩
theorem cx_takes {cd : Value} {A : Around} {outer : List PySem.Env} {s : Shared} {E : XK} : Takes (cxOf (L2.CX Pr w) Pr w K mg base N qual scope fA cd A outer s H E) (WB E) := takes_of rfl rfl rfl rfl
theorem cx_passes {cd : Value} {A : Around} {outer : List PySem.Env} {s : Shared} {E : XK} : PassesOwn (model Pr w) (A.deeper (envOfC qual scope s.heap.objs.size fA cd)) (envOfC qual scope s.heap.objs.size fA cd) (cxOf (L2.CX Pr w) Pr w K mg base N qual scope fA cd A outer s H E).xe :=
  passes_of (X := cxOf (L2.CX Pr w) Pr w K mg base N qual scope fA cd A outer s H E) rfl
end
section
variable {G : Gam} {X : Cx} {W : WX} {bd : Nat} {pos p : Pos} {F1 F2 : SF}
theorem ss_raise {c : Str} (hK : X.K = G.K) (hc : X.calm = true) (tk : Takes X W) (hx : ExcF X.prog X.w X.K X.mg c) (hg : Gl X c) (hdb : (c == ("__debug__" : Str)) = false := by decide) : SS G X W (.Raise (some (.Call (.Name c p) [] [] pos)) none pos') (sRaise c) := fun bd =>
  PS.imp (ps_raise hc tk (pmk_own0 PySem.F.excBase_ValueError hx.q hx.g hx.k hx.r hg hdb)) fun D σ H ⟨P, m, e, M, re, rs, h⟩ => by
    have := h m H σ (Ext.refl _ _) rs re
    rw [hK]
    exact this
end
end Sh
set_option Elab.async false
set_option linter.all false
set_option maxRecDepth 100000
set_option maxHeartbeats 4000000
/-! Sh: contexts, short forms of the rules, more that is walked, try. -/
namespace Sh
open PySem PySem.Spec PyProof.Rows L2
structure Ct (G : Gam) (X : Cx) (k : Nat) : Prop where
  hK : X.K = G.K
  hr : Room k X.A
  hc : X.calm = true
  hN : X.N.Nodup
section
variable {G : Gam} {X : Cx} {W : WX} {bd : Nat} {f g h : EF} {fb gb : BF} {fa : AF} {F1 F2 : SF} {a b c tg : Expr} {pos p : Pos} {σ : L2.St} {H H0 : Hp} {m m0 : List Addr} {M : Mem} {e : Env} {k : Nat}
theorem Ct.blk (c : Ct G X k) {s : Shared} {H : Hp} {sc : Scope} {env : PySem.Env} {fp : List Addr} : Ct G (X.blk s H sc env fp) k := ⟨c.hK, c.hr, c.hc, c.hN⟩
theorem Ct.tr (c : Ct G X k) {pn : List (Addr × Obj)} {xe : Value → Shared → Prop} : Ct G (X.tr pn xe) k := ⟨c.hK, c.hr, c.hc, c.hN⟩
theorem Ct.hu (c : Ct G X k) : X.A.units + 64 < cLine := c.hr.units
theorem sv (i : Nat) {x : Str} (hi : X.N[i]? = some x := by rfl) (hv : Vis X.env.scope x := by first | exact .inl rfl | exact .inr (.inl rfl) | exact .inr (.inr rfl)) (hd : (x == ("__debug__" : Str)) = false := by decide) (hcd : (x == ("__classdict__" : Str)) = false := by decide) : SE G X W (.Name x pos) (eV i) := se_var (pe_var hi hv hd hcd)
theorem gv (i : Nat) {x : Str} {vs : List Nat} (c : Ct G X k) (hv : i ∈ vs := by decide) (hi : X.N[i]? = some x := by rfl) (hx : Loc X.env.scope x := by first | exact .inl rfl | exact .inr rfl) (hf : X.fn x = true ∨ X.env.scope.names.lookup x = some .local := by first | exact .inl rfl | exact .inr rfl) : SG G X vs (.Name x pos) (gNm i) :=
  sg_name hv c.hN hi hx hf
theorem ss_st (i : Nat) {x : Str} {pos' : Pos} (c : Ct G X k) (ha : SE G X W a f) (hi : X.N[i]? = some x := by rfl) (hx : Loc X.env.scope x := by first | exact .inl rfl | exact .inr rfl) (hf : X.fn x = true ∨ X.env.scope.names.lookup x = some .local := by first | exact .inl rfl | exact .inr rfl) (hs : swapsWith a (some (.Name x pos')) pos.line X.env = pure false := by rfl) : SS G X W (.Assign [.Name x pos'] a pos) (sSet i f) :=
  ss_set c.hN hi hx hf ha hs
theorem ss_au (i : Nat) {x : Str} {op : Operator} {r : R2} {o2 : O2} {pos' : Pos} (c : Ct G X k) (ho : OpR X (inplaceOp op) r) (hr : ∀ P, Sim (G.on P) r o2) (ha : SE G X W a f) (hi : X.N[i]? = some x := by rfl) (hx : Loc X.env.scope x := by first | exact .inl rfl | exact .inr rfl) (hf : X.fn x = true ∨ X.env.scope.names.lookup x = some .local := by first | exact .inl rfl | exact .inr rfl) :
    SS G X W (.AugAssign (.Name x pos') op a pos) (sAug i o2 f) := ss_aug c.hN hi hx hf ho hr ha
theorem ss_p2 (i j : Nat) {x y : Str} {px py pt : Pos} {kt k2 pt2} (c : Ct G X k) (ha : SA G X W [a, b] fa) (hi : X.N[i]? = some x := by rfl) (hj : X.N[j]? = some y := by rfl) (hij : i ≠ j := by decide)
    (hx : X.env.scope.names.lookup x = some .local := by rfl) (hy : X.env.scope.names.lookup y = some .local := by rfl)
    (hw : swappedStores [.Tuple [.Name x px, .Name y py] kt pt] (.Tuple [a, b] k2 pt2) X.env = pure (some [x, y]) := by rfl)
    (hs : swapsWithSole [.Tuple [.Name x px, .Name y py] kt pt] (.Tuple [a, b] k2 pt2) pos.line X.env = pure false := by rfl) :
    SS G X W (.Assign [.Tuple [.Name x px, .Name y py] kt pt] (.Tuple [a, b] k2 pt2) pos) (sSet2 i j fa) := ss_par c.hc c.hN hi hj hij hx hy ha hw hs
/-- name = [..]: the comprehension's value goes into the slot -/
theorem ss_lc (i : Nat) {y : Str} {py spos : Pos} {elt tg iter : Expr} {ifs : List Expr} {scope : Scope} {own : List (Str × Nat)} {it : IF} {tgf : GF} {cf : BF} (c : Ct G X k) (hi : SI G X W tg iter it) (ok : BlkOk X.N X.env.scope scope own)
    (hg : ∀ (s : Shared) (H : Hp) (C : Addr) (cl : List (Str × Addr)) (fp : List Addr), SG G (X.blk s H scope (compEnvC scope cl C X.env) fp) (own.map (·.2)) tg tgf) (ht : ∀ (s : Shared) (H : Hp) (C : Addr) (cl : List (Str × Addr)) (fp : List Addr), STs G (X.blk s H scope (compEnvC scope cl C X.env) fp) W0 ifs cf)
    (he : ∀ (s : Shared) (H : Hp) (C : Addr) (cl : List (Str × Addr)) (fp : List Addr), SE G (X.blk s H scope (compEnvC scope cl C X.env) fp) W0 elt f) (hy : X.N[i]? = some y := by rfl) (hyl : X.env.scope.names.lookup y = some .local := by rfl)
    (hsw : swapsWith (.ListComp elt [⟨tg, iter, ifs, 0⟩] scope pos) (some (.Name y py)) spos.line X.env = pure true := by rfl) (hs : ∀ x, foldedSetIterable iter X.env x = pure x := by intro _; rfl) :
    SS G X W (.Assign [.Name y py] (.ListComp elt [⟨tg, iter, ifs, 0⟩] scope pos) spos) (sSet i (eLc it (own.map (·.2)) tgf cf f)) := fun bd =>
  PS.imp (ps_setLc c.hc c.hN hy hyl hsw (hi bd) ok (fun s H C cl fp => hg s H C cl fp bd) (fun s H C cl fp => ht s H C cl fp bd) (fun s H C cl fp => he s H C cl fp bd) hs) fun D σ H ⟨P, m, e, M, re, rs, h⟩ =>
    lc_all ((stepS (Ext.refl _ _) re rs h).mono fun v H1 ⟨m1, d, M1, x1, x01, re1, rs1, r1, h1⟩ => h1 m1 H1 _ x01 rs1 (re1.set r1))
theorem ss_lcM (i : Nat) {y : Str} {py spos : Pos} {elt tg iter : Expr} {ifs : List Expr} {scope : Scope} {own : List (Str × Nat)} {it : IF} {tgf : GF} {cf : BF} (c : Ct G X k) (hi : SI G X W tg iter it) (ok : BlkOk X.N X.env.scope scope own)
    (hg : ∀ (s : Shared) (H : Hp) (C : Addr) (cl : List (Str × Addr)) (fp : List Addr), SG G (X.blk s H scope (compEnvC scope cl C X.env) fp) (own.map (·.2)) tg tgf) (ht : ∀ (s : Shared) (H : Hp) (C : Addr) (cl : List (Str × Addr)) (fp : List Addr), STs G (X.blk s H scope (compEnvC scope cl C X.env) fp) W0 ifs cf)
    (he : ∀ (s : Shared) (H : Hp) (C : Addr) (cl : List (Str × Addr)) (fp : List Addr), SE G (X.blk s H scope (compEnvC scope cl C X.env) fp) W0 elt f) (hy : X.N[i]? = some y := by rfl) (hyl : X.env.scope.names.lookup y = some .local := by rfl)
    (hsw : swapsWith (.ListComp elt [⟨tg, iter, ifs, 0⟩] scope pos) (some (.Name y py)) spos.line X.env = pure true := by rfl) (hs : ∀ x, foldedSetIterable iter X.env x = pure x := by intro _; rfl) :
    SS G X W (.Assign [.Name y py] (.ListComp elt [⟨tg, iter, ifs, 0⟩] scope pos) spos) (sSet i (eLcM it (own.map (·.2)) tgf cf f)) := fun bd =>
  PS.imp (ps_setLc c.hc c.hN hy hyl hsw (hi bd) ok (fun s H C cl fp => hg s H C cl fp bd) (fun s H C cl fp => ht s H C cl fp bd) (fun s H C cl fp => he s H C cl fp bd) hs) fun D σ H ⟨P, m, e, M, re, rs, h⟩ =>
    lcM_all ((stepS (Ext.refl _ _) re rs h).mono fun v H1 ⟨m1, d, M1, x1, x01, re1, rs1, r1, h1⟩ => h1 m1 H1 _ x01 rs1 (re1.set r1))
theorem se_gint {i : Int} {x : Str} (hg : Gl X x) (hm : ∃ t, X.mg x = some (.int i t)) (hd : (x == ("__debug__" : Str)) = false := by decide) : SE G X W (.Name x pos) (eC (.int i)) := by
  obtain ⟨t, hm⟩ := hm
  exact se_const (pe_glob (v := .int i) hg hm ⟨t, rfl⟩ hd) fun _ _ _ => .int i
/-! ### a list or a tuple, walked -/
def tAny (K : PySem.W.Frag) (tl : TE) : TI := fun σ H R => tl σ H fun x H1 => ∃ a, x = .ref a ∧ (((∃ xs, SqL K H1 a xs) ∧ R (Itl K a) H1) ∨ ((∃ xs, SqT K H1 a xs) ∧ R (Itt K a) H1))
theorem pi_any {l : Expr} {tl : TE} (hl : PE X l tl) : PI X tg l (tAny X.K tl) := by
  refine ⟨fun pins s σ H R I h => ?_⟩
  refine thn (hl.run pins s σ H _ I h) fun v s1 ⟨x, H1, I1, r1, q1⟩ => ?_
  obtain ⟨a, e, q⟩ := q1
  subst e
  cases r1
  rcases q with ⟨⟨xs, hq⟩, q⟩ | ⟨⟨xs, hq⟩, q⟩
  · obtain ⟨its, rv, p, hz⟩ := I1.list hq
    refine wpAny_pyIter_list p.isList ?_
    refine ⟨s1.heap.objs.size, [s1.heap.objs.size], _, _, H1, rfl, I1.kept (t' := s1.toks) fun b o e => Heap.get?_push_of_some _ e, turn_list a _, ⟨_, Heap.get?_push_size _ rfl, rfl, rfl⟩, fun b hb => ?_, q⟩
    have e : b = s1.heap.objs.size := by simpa using hb
    subst e
    exact I1.fpOk (Nat.le_refl _) (I1.hok.fresh (Nat.le_refl _))
  · obtain ⟨its, rv, p, hz⟩ := I1.tuple hq
    refine wpAny_pyIter_tuple (show s1.heap.IsTuple a its.toArray from p) ?_
    refine ⟨s1.heap.objs.size, [s1.heap.objs.size], _, _, H1, rfl, I1.kept (t' := s1.toks) fun b o e => Heap.get?_push_of_some _ e, turn_tuple a _, ⟨_, Heap.get?_push_size _ rfl, rfl, rfl⟩, fun b hb => ?_, q⟩
    have e : b = s1.heap.objs.size := by simpa using hb
    subst e
    exact I1.fpOk (Nat.le_refl _) (I1.hok.fresh (Nat.le_refl _))
def iSq (f : EF) : IF := fun bd e M => (f bd e M).bind fun d M1 => match tupOf d with
  | some ds => .ok (fun _ => some ds) M1
  | none => if (lstOf M1 d).isSome = true then .ok (fun M => lstOf M d) M1 else .stuck
theorem si_sq (c : Ct G X k) (ha : SE G X W a f) : SI G X W tg a (iSq f) := fun bd =>
  PI.imp (pi_any (ha bd)) fun σ H Q ⟨P, m, e, M, re, rs, h⟩ => (step (Ext.refl m H) re rs h).mono fun v H1 ⟨m1, d, M1, x1, x01, re1, rs1, r1, h1⟩ => by
    rw [c.hK]
    split at h1
    · rename_i ds hl
      obtain ⟨q, us, rfl, sq, rv⟩ := tup_of r1 hl
      exact ⟨q, rfl, .inr ⟨⟨us, sq⟩, h1 m1 H1 _ x01 rs1 (walk_tup r1 hl)⟩⟩
    · split at h1
      · rename_i hl
        obtain ⟨ds, hl⟩ := Option.isSome_iff_exists.mp hl
        obtain ⟨q, us, rfl, sq, rv⟩ := lst_of rs1 r1 hl
        exact ⟨q, rfl, .inl ⟨⟨us, sq⟩, h1 m1 H1 _ x01 rs1 (walk_list r1)⟩⟩
      · exact h1.elim
/-! ### {1: 2, ..} of constants -/
def vOf : D → V
  | .bl b => .bl b
  | .int i => .int i
  | .str x => .str x
  | _ => .non
def scP : List (Key × D) → Bool := fun kvs => kvs.all fun p => scl p.2
def putAll (kvs more : List (Key × D)) : List (Key × D) := more.foldl (fun acc kv => putD acc kv.1 kv.2) kvs
def eDisp (kvs : List (Key × D)) : EF := fun _ _ M => mNew (.dK (putAll [] kvs)) M
theorem rv_vOf {d : D} (h : scl d = true) : RV G m H d (vOf d) := by cases d <;> first | exact .non | exact .bl _ | exact .int _ | exact .str _ | cases h
theorem kvs_merge : ∀ (more : List (Key × D)) {kvs : List (Key × D)} {kus : List (Key × V)}, scP more = true → KVs G m H kvs kus → KVs G m H (putAll kvs more) (mergeK kus (more.map fun p => (p.1, vOf p.2)))
  | [], _, _, _, r => r
  | p :: more, kvs, kus, h, r => by
    simp only [scP, List.all_cons, Bool.and_eq_true] at h
    exact kvs_merge more h.2 (KVs.put (k := p.1) r (rv_vOf h.1))
theorem pairs_of {σ : L2.St} {H : Hp} : ∀ (kvs : List (Key × D)) {Q : List (V × V) → Hp → Prop}, Q (kvs.map fun p => (kV p.1, vOf p.2)) H → tPairs (kvs.map fun p => (tC (kV p.1), tC (vOf p.2))) σ H Q
  | [], _, h => h
  | p :: r, Q, h => pairs_of r (Q := fun ps H3 => Q ((kV p.1, vOf p.2) :: ps) H3) h
theorem upd_upd {H : Hp} {p : Addr} {o u : HO} : upd (upd H p o) p u = upd H p u := by
  funext a
  by_cases h : a = p
  · subst h; rw [upd_same, upd_same]
  · rw [upd_ne h, upd_ne h, upd_ne h]
theorem se_disp (kvs : List (Key × D)) {keys : List (Option Expr)} {values : List Expr} (h : PPs X pos keys values (kvs.map fun p => (tC (kV p.1), tC (vOf p.2)))) (hs : scP kvs = true := by rfl) (hall : keys.all (·.isSome) = true := by rfl) (hl : keys.length = values.length := by rfl) (h0 : keys ≠ [] := by simp)
    (h15 : keys.length ≤ 15 := by decide) (h16 : kvs.length ≤ 15 := by decide) : SE G X W (.Dict keys values pos) (eDisp kvs) := fun bd =>
  PE.imp (pe_disp h hall hl h0 h15) fun σ H Q ⟨P, m, e, M, re, rs, h⟩ p hp => pairs_of kvs ⟨upd_same, kvs.map fun p => (p.1, vOf p.2), by simp, by simpa using h16, by
    rw [upd_upd]
    exact h _ _ _ (Ext.new hp) (rs.new hp ⟨_, upd_same, KVs.mono (Ext.new hp) (kvs_merge kvs hs .nil)⟩) (rv_new rs)⟩
theorem m1_ (hb : attributeBase a "get" X.env (eval a X.env) = eval a X.env) {apos : Pos} (h2 : ((backTo pos (starEach [b] X.env)).all (fun x => !x.1) && (backToKw pos (keywordEach [] X.env)).all (fun x => x.1.isSome)
    && decide (([b] : List Expr).length + ([] : List Keyword).length + (if ([] : List Keyword).isEmpty then 0 else 1) < 30)) = true) (h3 : (apos.endLine == pos.line) = true) (h4 : backTo pos (starEach [b] X.env) = [(false, eval b X.env)]) : M1 X a "get" apos b pos := ⟨hb, h2, h3, h4⟩
/-! ### try -/
def sTry (body : SF) (mt : Str → Option Bool) (hd : SF) : SF := fun bd e M => match body bd e M with
  | .exc c e2 M2 => (match mt c with
    | some true => (match hd bd e2 M2 with
      | .exc _ _ _ => .stuck
      | r => r)
    | some false => .exc c e2 M2
    | none => .stuck)
  | r => r
theorem ss_try {x : Str} {cv : Value} {body suite : List Stmt} {b₀ : Stmt} {np pos' : Pos} {mt : Str → Option Bool} (hK : X.K = G.K) (hs : X.stack = X.env :: X.outer) (hf : X.env.frame = some X.env.locals) (hc : Names X x cv) (tk : Takes X W)
    (hb : ∀ (W : WX) (pn : List (Addr × Obj)) (xe : Value → Shared → Prop), Takes (X.tr pn xe) W → PassesOwn (model X.prog X.w) X.A X.env xe → SSs G (X.tr pn xe) W body F1)
    (hsu : ∀ (a : Addr) (oe : Obj) (pn : List (Addr × Obj)), SSs G (X.suite a ((a, oe) :: pn)) W0 (b₀ :: suite) F2)
    (hm : ∀ c b, mt c = some b → PySem.W.exmOne G.K (.ref (He.ga G.K c)) cv = some b) : SS G X W (.Try body [.ExceptHandler (some (.Name x np)) none (b₀ :: suite) pos'] [] [] pos) (sTry F1 mt F2) := fun bd =>
  PS.imp (ps_try_only hs hf hc tk (tb := fun W => tS G W bd F1) (ts := fun _ _ _ => tS G W0 bd F2) (fun W pn xe t po => hb W pn xe t po bd) (fun a oe cls d pn _ _ => hsu a oe pn bd)) fun D σ H ⟨P, m, e, M, re, rs, h⟩ => by
    refine ⟨P, m, e, M, re, rs, ?_⟩
    unfold sTry at h
    cases q : F1 bd e M with
    | nx e' M' => rw [q] at h; exact h
    | rt d M' => rw [q] at h; exact h
    | bk e' M' => rw [q] at h; exact h
    | ct e' M' => rw [q] at h; exact h
    | stuck => rw [q] at h; exact h.elim
    | exc c2 e2 M2 =>
      rw [q] at h
      simp only at h
      intro m2 H2 σ2 x2 s2 r2
      split at h
      · rename_i hmt
        refine ⟨true, by rw [hK]; exact hm _ _ hmt, fun _ _ _ => ⟨P, m2, e2, M2, r2, s2, ?_⟩, fun z => (by cases z)⟩
        cases q2 : F2 bd e2 M2 with
        | nx e' M' => rw [q2] at h; exact SatD.back (W := W0) (o := .nx e' M') x2 h
        | rt d M' => rw [q2] at h; exact SatD.back (W := W0) (o := .rt d M') x2 h
        | bk e' M' => rw [q2] at h; exact SatD.back (W := W0) (o := .bk e' M') x2 h
        | ct e' M' => rw [q2] at h; exact SatD.back (W := W0) (o := .ct e' M') x2 h
        | exc c3 e' M' => rw [q2] at h; exact h.elim
        | stuck => rw [q2] at h; exact h.elim
      · rename_i hmt
        exact ⟨false, by rw [hK]; exact hm _ _ hmt, fun z => (by cases z), fun _ => h m2 H2 σ2 x2 s2 r2⟩
      · exact h.elim
/-- except C as n: found = [a text, isinstance(n, T)] -/
def sTryI (body : SF) (mt is : Str → Option Bool) (i j : Nat) (z : Str) : SF := fun bd e M => match body bd e M with
  | .exc c e2 M2 => (match mt c, is c with
    | some true, some k => if i < e2.length then .nx ((e2.set j (some (.lst [.str z, .bl k]))).set i none) M2 else .stuck
    | some false, _ => .exc c e2 M2
    | _, _ => .stuck)
  | r => r
theorem RE.unset {i : Nat} (re : RE G m H e σ) : RE G m H (e.set i none) (σ.set i none) := by
  refine ⟨by simp [re.len], fun j d z => ?_⟩
  by_cases h : i = j
  · subst h
    have hl : i < e.length := by simpa using (List.getElem?_eq_some_iff.mp z).1
    rw [List.getElem?_set_self hl] at z; cases z
  · rw [List.getElem?_set_ne h] at z
    rw [List.getElem?_set_ne h]
    exact re.at_ j d z
theorem ss_tryI {i j : Nat} {x n y nT : Str} {T : String} {cv : Value} {body : List Stmt} {z : Str} {jz : Nat} {pz py pl pc pf pn' pt ps np pos' : Pos} {mt is : Str → Option Bool} (hij : i ≠ j) (c : Ct G X k) (hs : X.stack = X.env :: X.outer) (hf : X.env.frame = some X.env.locals) (hc : Names X x cv) (tk : Takes X W)
    (hb : ∀ (W : WX) (pn : List (Addr × Obj)) (xe : Value → Shared → Prop), Takes (X.tr pn xe) W → PassesOwn (model X.prog X.w) X.A X.env xe → SSs G (X.tr pn xe) W body F1)
    (hm : ∀ c b, mt c = some b → PySem.W.exmOne G.K (.ref (He.ga G.K c)) cv = some b) (hT : ∀ c b, is c = some b → ExcC G.K (He.ga G.K c) ∧ PySem.W.kitOne G.K (.ref (He.ga G.K c)) (.type T) = some b)
    (hi : X.N[i]? = some n) (hln : X.env.kindOf n = some .local) (hj : X.N[j]? = some y) (hlj : X.env.scope.names.lookup y = some .local) (hfj : X.fn y = true ∨ X.env.scope.names.lookup y = some .local)
    (hgi : Gl X "isinstance") (hmi : X.mg "isinstance" = none) (hgT : Gl X nT) (hmT : X.mg nT = none) (hvT : bootBuiltins nT = some (.type T)) (hnT : nT ≠ "__name__") (hdT : (nT == ("__debug__" : Str)) = false) (hd1 : (n == ("__debug__" : Str)) = false) (hd2 : (n == ("__classdict__" : Str)) = false)
    (hsw : ∀ (Y : Cx), Y.env = X.env → swapsWith (.List [.Constant (.str z) jz pz, .Call (.Name "isinstance" pf) [.Name n pn', .Name nT pt] [] pc] pl) (some (.Name y py)) ps.line Y.env = pure false) :
    SS G X W (.Try body [.ExceptHandler (some (.Name x np)) (some n) [.Assign [.Name y py] (.List [.Constant (.str z) jz pz, .Call (.Name "isinstance" pf) [.Name n pn', .Name nT pt] [] pc] pl) ps] pos'] [] [] pos) (sTryI F1 mt is i j z) := fun bd => by
  refine PS.imp (ps_try_as hs hf c.hN hi hln hc tk (tb := fun W => tS G W bd F1) (ts := fun a cls d => fun De σ H => ∃ D', cls = .ref D' ∧ d = none ∧ ExcC X.K D' ∧
    tAsg (tLst (tCons (tC (.str z)) (tCons (tCB (rIsE X.K D' a) (tCons (tVar i) (tCons (tC (.ty T)) tNil))) tNil))) (gName j) De σ H) (fun W pn xe t po => hb W pn xe t po bd) fun a oe cls d pn hz hfl => ?_) ?_
  · refine ⟨fun pins s σ H De I ⟨D', e1, e2, C, h⟩ => ?_⟩
    subst e1 e2
    have pn1 : PE (X.suite a ((a, oe) :: pn)) (.Name n pn') (tVar i) := pe_var hi (.inl hln) hd1 hd2
    have pT : PE (X.suite a ((a, oe) :: pn)) (.Name nT pt) (tC (.ty T)) := pe_bltn (v := .ty T) hgT hmT hvT rfl hnT hdT
    have pcall := pe_callB (pos := pc) (p := pf) (X := X.suite a ((a, oe) :: pn)) (call_isE (pn := pn) C hz hfl) hgi hmi PyProof.Rows.boot_isinstance (pa_cons pn1 (pa_cons pT pa_nil rfl) rfl)
    have plst := pe_lst (pos := pl) (pa_cons (pe_str (X := X.suite a ((a, oe) :: pn)) (x := z) (j := jz) (pos := pz)) (pa_cons pcall pa_nil rfl) rfl)
    exact (pss_one (ps_set (X := X.suite a ((a, oe) :: pn)) c.hN hj (.inl hlj) plst (hsw _ rfl) hfj)).run pins s σ H De I h
  · intro D σ H ⟨P, m, e, M, re, rs, h⟩
    refine ⟨P, m, e, M, re, rs, ?_⟩
    unfold sTryI at h
    cases q : F1 bd e M with
    | nx e' M' => rw [q] at h; exact h
    | rt d M' => rw [q] at h; exact h
    | bk e' M' => rw [q] at h; exact h
    | ct e' M' => rw [q] at h; exact h
    | stuck => rw [q] at h; exact h.elim
    | exc c2 e2 M2 =>
      rw [q] at h
      simp only at h
      intro m2 H2 σ2 x2 s2 r2
      split at h
      · rename_i k' hmt his
        refine ⟨true, by rw [c.hK]; exact hm _ _ hmt, fun _ a ha => ?_, fun z => (by cases z)⟩
        obtain ⟨hC, hkit⟩ := hT _ _ his
        refine ⟨_, rfl, rfl, by rw [c.hK]; exact hC, ?_⟩
        split at h
        · rename_i hil
          rw [r2.len] at hil
          refine ⟨.ref a, List.getElem?_set_self hil, _, _, k', rfl, fun u hu => hu, by rw [c.hK]; exact hkit, by show 2 ≤ sizeLine; decide, fun p hp => ?_⟩
          show D.nx (((σ2.set i (some (V.ref a))).set j (some (V.ref p))).set i none) _
          rw [List.set_comm _ _ hij, List.set_set]
          have x3 : Ext (G.on P) m2 m2 H2 (upd H2 p (.lst [.str z, .bl k'])) := Ext.fresh hp
          exact h m2 _ _ (x2.trans x3) (s2.fresh hp) (((r2.mono x3).set (rv_lst s2 hp (.cons (.str z) (.cons (.bl k') .nil)))).unset)
        · exact h.elim
      · rename_i hmt
        exact ⟨false, by rw [c.hK]; exact hm _ _ hmt, fun z => (by cases z), fun _ => h m2 H2 σ2 x2 s2 r2⟩
      · exact h.elim
/-! < of ints, of texts, of tuples of ints -/
def ltB (x y : D) : Option Bool := match x, y with
  | .int i, .int j => some (decide (i < j))
  | .str i, .str j => some (decide (i.cps.toList < j.cps.toList))
  | x, y => match tupOf x, tupOf y with
    | some xs, some ys => (match intsOf xs, intsOf ys with
      | some ns, some ms => some (HT.lexLt ns ms)
      | _, _ => none)
    | _, _ => none
def oLtS : O2 := fun _ x y => (ltB x y).map D.bl
def rLtS (K : PySem.W.Frag) : R2 := fun x y H Q => ((∃ i j, x = .int i ∧ y = .int j ∧ Q (.bl (decide (i < j))) H) ∨ (∃ i j, x = .str i ∧ y = .str j ∧ Q (.bl (decide (i.cps.toList < j.cps.toList))) H)) ∨ rLtT K x y H Q
theorem op_ltS {X : Cx} (hu : X.A.units + 64 < cLine) : OpR X (compareOp .Lt) (rLtS X.K) := (op_lt.or op_lt_str).or (op_ltT (by omega))
theorem sim_ltS {G : Gam} : Sim G (rLtS G.K) oLtS := fun bd m H M x y d u v Q rs rx ry h k => by
  obtain ⟨b, hb, rfl⟩ := Option.map_eq_some_iff.mp h
  unfold ltB at hb
  split at hb
  · cases rx; cases ry; cases hb
    exact .inl (.inl ⟨_, _, rfl, rfl, k m H _ (Ext.refl m H) rs (.bl _)⟩)
  · cases rx; cases ry; cases hb
    exact .inl (.inr ⟨_, _, rfl, rfl, k m H _ (Ext.refl m H) rs (.bl _)⟩)
  · split at hb
    · rename_i xs ys hx hy
      split at hb
      · rename_i ns ms hn hm
        cases hb
        obtain ⟨a, us, rfl, q, r⟩ := tup_of rx hx
        obtain ⟨a2, us2, rfl, q2, r2⟩ := tup_of ry hy
        have e1 := intsOf_V r hn
        have e2 := intsOf_V r2 hm
        subst e1; subst e2
        exact .inr ⟨a, a2, _, _, rfl, rfl, q, q2, k m H _ (Ext.refl m H) rs (.bl _)⟩
      · cases hb
    · cases hb
end
end Sh
set_option Elab.async false
set_option linter.all false
set_option maxRecDepth 100000
set_option maxHeartbeats 4000000
namespace Sh
open PySem PySem.Spec PyProof.Rows L2
section
variable {prog : Program} {w : World} {A : Around} {E : Value → Shared → Prop} {s : Shared}
/-- a list or a tuple, gathered -/
theorem gather {l : Addr} {o : Obj} {vs : List Value} {n : Nat} {T : String} {Q : List Value → Shared → Prop} (ho : s.heap.get? l = some o) (hc : o.cls = .type T) (hT : (Value.type T == Value.type "list" || Value.type T == Value.type "tuple") = true) (hd : o.data = .seq vs.toArray n) (hz : vs.length ≤ sizeLine)
    (h : ∀ h', (∀ b ob, s.heap.get? b = some ob → h'.get? b = some ob) → Q vs { s with heap := h' }) : wpAny (model prog w) A (collect (.ref l)) Q E s := by
  unfold collect
  refine wpAny_bind (wpAny_runValue (codeAny_builtin entry_proto_collect' ?_))
  show wpAny _ _ (do again (.builtin "list.__iadd__" ⟨[← newList [], .ref l], []⟩)) _ _ s
  refine wpAny_bind (wpAny_newList (wpAny_pure ⟨Code.quiet_builtin _ (by decide +kernel), codeAny_builtin entry_list_iadd' ?_⟩))
  show wpAny _ _ (Builtin.List.listExtendWith (.ref s.heap.objs.size) (.ref l) (.ref s.heap.objs.size)) _ _ { s with heap := s.heap.push (seqObj "list" #[] 0) }
  unfold Builtin.List.listExtendWith
  have hl2 : (s.heap.push (seqObj "list" #[] 0)).get? l = some o := Heap.get?_push_of_some _ ho
  have hn2 : (s.heap.push (seqObj "list" #[] 0)).get? s.heap.objs.size = some (seqObj "list" #[] 0) := Heap.get?_push_size _ rfl
  refine wpAny_bind (wpAny_typeOf (T := T) ⟨o, hl2, hc⟩ ?_)
  rw [if_pos (by rw [Bool.or_assoc, hT, Bool.or_true])]
  refine wpAny_bind (listItems_at hl2 hd (wpAny_bind (listItems_at hn2 rfl ?_)))
  rw [if_neg (by simp)]
  refine wpAny_bind (listUpdate_at hn2 rfl (wpAny_pure ?_) (Nat.zero_le _) (by show (#[] ++ vs.toArray).size ≤ sizeLine + 1; simp only [Array.size_append, List.size_toArray, List.length_nil]; omega))
  show wpAny (model prog w) A (do
      let o ← load s.heap.objs.size
      match o.data with
      | .seq xs _ => pure xs.toList
      | _ => unsupported "internal:collect") Q E { s with heap := (s.heap.push (seqObj "list" #[] 0)).update s.heap.objs.size (Obj.mapSeq (· ++ vs.toArray)) }
  refine wpAny_bind (wpAny_load (get?_update_seq hn2 _) ?_)
  show wpAny _ _ (pure ((#[] : Array Value) ++ vs.toArray).toList) Q E _
  rw [show ((#[] : Array Value) ++ vs.toArray).toList = vs by simp]
  refine wpAny_pure (h _ fun b ob e => ?_)
  have hb := Heap.lt_size e
  rw [Heap.get?_update_ne _ _ _ _ (Nat.ne_of_lt hb)]
  exact Heap.get?_push_of_some _ e
end
section
variable {X : Cx} {pins : List (Addr × Obj)} {s : Shared} {σ : L2.St} {H : Hp} {Q : VK}
/-- sorted of what gathers to ints -/
theorem sort_ints {v : Value} {ks : List Int} (I : Inv X pins σ H s) (hz : ks.length ≤ sizeLine)
    (hcol : ∀ R : List Value → Shared → Prop, (∀ (h' : Heap) (tk : Nat) (vs : List Value), (∀ b o, s.heap.get? b = some o → h'.get? b = some o) → IntsAre vs ks → R vs { s with heap := h', toks := tk }) → wpAny (model X.prog X.w) X.A.in1 (collect v) R X.xe s)
    (q : ∀ (ys : List Int) (p : Addr), ys.Perm ks → ys.Pairwise (· ≤ ·) → H p = none → Q (.ref p) (upd H p (.lst (ys.map V.int)))) : wpAny (model X.prog X.w) X.A (call (.builtin "sorted") [v]) (EP X pins σ Q) X.xe s := by
  refine Calls.call_function_entry PyProof.Rows.kind_sorted PyProof.Rows.plain_sorted PyProof.Rows.entry_sorted (PyProof.Rows.args_sorted1 _) ?_
  unfold Builtin.«sorted»
  refine wpAny_bind (m := checkCount "sorted" 1 1 _) (wpAny_pure (wpAny_bind (hcol _ fun h' tk vs hk hI => ?_)))
  have hz2 : vs.length ≤ sizeLine := by rw [hI.length]; exact hz
  have I1 : Inv X pins σ H { s with heap := h', toks := tk } := I.kept hk
  refine wpAny_bind (wpAny_newList ?_ hz2)
  have hL : (h'.push (seqObj "list" vs.toArray 0)).get? h'.objs.size = some (seqObj "list" vs.toArray 0) := Heap.get?_push_size _ rfl
  show wpAny _ _ _ _ _ { s with heap := h'.push (seqObj "list" vs.toArray 0), toks := tk }
  refine wpAny_bind (wpAny_holding (wpAny_call_entry PyProof.Rows.slot_list_sort ⟨_, hL, rfl⟩ PyProof.Rows.entry_list_sort (SrtO.list_sort_ord SrtO.swo_int hL hz2 (fun h2 => SrtO.ints_sortable hI h2) fun out h1 h2 => ⟨_, rfl, ?_⟩) (PyProof.Rows.args_list_sort _)))
  obtain ⟨k1, k2, k3⟩ := SrtO.ints_out hI h1 h2
  obtain ⟨ep, he⟩ := PyProof.Rows.sortedHeap_at (vs := vs) (out := out.toArray) hL
  have hlen : ((out.map SrtO.iv).map V.int).length ≤ sizeLine := by rw [List.length_map, k2.length_eq]; exact hz
  refine wpAny_pure ⟨_, rfl, .ref h'.objs.size, upd H h'.objs.size (.lst ((out.map SrtO.iv).map V.int)), I1.laid (t' := tk) (fun b u e => ?_) (Nat.le_refl _) ⟨hlen, out, ep, vals_of_ints k1, he⟩, rfl, q _ _ k2 k3 (I1.hok.fresh (Nat.le_refl _))⟩
  have hb : b < h'.objs.size := Heap.lt_size e
  rw [PyProof.Rows.sortedHeap_old (Nat.ne_of_lt hb) (by rw [PyProof.Rows.size_push']; exact Nat.lt_succ_of_lt hb)]
  exact Heap.get?_push_of_some _ e
/-- .. of a list or a tuple of ints -/
def rSortSq (K : PySem.W.Frag) : RC := fun xs H Q => ∃ (a : Addr) (ks : List Int), xs = [V.ref a] ∧ (SqL K H a (ks.map V.int) ∨ SqT K H a (ks.map V.int)) ∧
  ∀ (ys : List Int) (p : Addr), ys.Perm ks → ys.Pairwise (· ≤ ·) → H p = none → Q (.ref p) (upd H p (.lst (ys.map V.int)))
theorem call_sortSq : CallR X (.builtin "sorted") (rSortSq X.K) := by
  intro pins s σ H xs us Q I r h
  obtain ⟨a, ks, rfl, hs, q⟩ := h
  rw [Vals.ref1 r]
  rcases hs with hs | hs
  · obtain ⟨its, rv, ⟨o, n, ho, hc, hdn, hd⟩, hz⟩ := I.list hs
    refine sort_ints (ks := ks) I (by rw [List.length_map] at hz; exact hz) (fun R hR => ?_) q
    refine gather ho hc (by rfl) hd (by rw [← rv.length]; exact hz) fun h' hk => hR h' s.toks its hk rv.ints
  · obtain ⟨its, rv, ⟨o, ho, hc, n, hd⟩, hz⟩ := I.tuple hs
    refine sort_ints (ks := ks) I (by rw [List.length_map] at hz; exact hz) (fun R hR => ?_) q
    refine gather ho hc (by rfl) hd (by rw [← rv.length]; exact hz) fun h' hk => hR h' s.toks its hk rv.ints
end
end Sh
set_option Elab.async false
set_option linter.all false
set_option maxRecDepth 100000
set_option maxHeartbeats 4000000
namespace Sh
open PySem PySem.Spec PyProof.Rows L2
open PySem.Sem (wp)
abbrev nwSet (w : World) : Obj := { cls := .type "set", dict := none, data := .set #[] 0 (.fresh 0 0 (!w.params.followText "set-order")) }
section
variable {P : Program} {w : World} {A : Around} {E : Value → Shared → Prop} {s : Shared}
/-- set(a list of ints) -/
theorem set_of_list {l : Addr} {its : Array Value} (ks : List Int) {Q : Value → Shared → Prop} (noH : A.handled = none) (hl : s.heap.IsList l its) (hi : IntsAre its.toList ks) (room : ks.length + 1 < scanBound)
    (fin : ∀ (h' : Heap) (tk c : Nat), SetR w h' s.heap.objs.size (fun j => decide (j ∈ ks)) c → c ≤ ks.length → (∀ b o, s.heap.get? b = some o → h'.get? b = some o) → Q (.ref s.heap.objs.size) { s with heap := h', toks := tk }) :
    wpAny (model P w) A (call (.type "set") [.ref l]) Q E s := by
  have hlen : its.size = ks.length := by rw [← Array.length_toList]; exact hi.length
  obtain ⟨_, _, m0⟩ := F.called_set.mro
  have m1 := F.called_set.made; have m2 := F.called_set.sub
  refine wpAny_call (codeAny_of_tree (show wpAny _ _ (callAny (.type "set") _) _ _ _ from ?_))
  refine wpAny_pure ⟨Code.quiet_builtin _ (by decide +kernel), codeAny_builtin F.entry_type_call ?_⟩
  rw [Around.under_plain (weight_type_call_type "set" [.ref l] []) rfl]
  have m3 := F.called_set.notType; have m4 := F.called_set.canCreate; have m5 := F.typeCall_set_1 (.ref l)
  repeat (any_goals (first | assumption | wp_step))
  refine codeAny_mono (code_set_led1 (.ref l) (E := E) (Q₁ := fun ob t => ob = .ref s.heap.objs.size ∧ t = { s with heap := s.heap.push (nwSet w) }) ⟨rfl, rfl⟩) fun r t ht => ?_
  cases r with
  | error e => exact ht
  | ok fl =>
    cases fl with
    | next => exact ht.elim
    | brk => exact ht.elim
    | cont => exact ht.elim
    | ret ob =>
      obtain ⟨rfl, rfl⟩ := ht
      have at0 : (s.heap.push (nwSet w)).get? s.heap.objs.size = some (nwSet w) := Heap.get?_push_size _ rfl
      have ty0 : Shared.TypeIs { s with heap := s.heap.push (nwSet w) } (.ref s.heap.objs.size) "set" := ⟨_, at0, rfl⟩
      have i1 := F.called_set.init.lookup; have i2 := F.called_set.init.bind (.ref s.heap.objs.size)
      repeat (any_goals (first | assumption | wp_step))
      refine codeAny_mono (codeAny_call_builtin (R := wants (fun r u => r = .none ∧ ∃ h' tk c, u = { s with heap := h', toks := tk } ∧ SetR w h' s.heap.objs.size (fun j => decide (j ∈ ks)) c ∧ c ≤ ks.length ∧
          (∀ b o, s.heap.get? b = some o → h'.get? b = some o)) E) F.called_set.init.plain F.entry_set_init (check_set_init_1 ty0 ?_)) fun r2 u hr => ?_
      · obtain ⟨⟨c0, d0, dat, sl⟩, hol, hcl, nl, hdl⟩ := hl
        simp only at hcl hdl
        subst hcl hdl
        have old : (s.heap.push (nwSet w)).get? l = some { cls := .type "list", dict := d0, data := .seq its nl, slots := sl } := Heap.get?_push_of_some _ hol
        have s1 := F.sub_list_set; have s2 := F.sub_list_frozenset
        have s3 : (Value.type "list" == Value.type "dict") = false := by decide
        have isl : (s.heap.push (nwSet w)).IsList l its := ⟨_, old, rfl, nl, rfl⟩
        unfold Builtin.«set.__init__» noKeywords Builtin.Frozenset.updateFrom
        generalize hPI : pyIter = PI
        wp_walk
        subst hPI
        refine wpAny_pyIter_list isl (wpAny_bind (wpAny_runValue ?_))
        have llt : l < s.heap.objs.size := Heap.lt_size hol
        have sz : (s.heap.push (nwSet w)).objs.size = s.heap.objs.size + 1 := Heap.size_push ..
        have ne1 : l ≠ (s.heap.push (nwSet w)).objs.size := by rw [sz]; exact Nat.ne_of_lt (Nat.lt_succ_of_lt llt)
        have nin : s.heap.objs.size ∉ [(s.heap.push (nwSet w)).objs.size, l] := by
          rw [sz]; simp only [List.mem_cons, List.not_mem_nil, or_false, not_or]; exact ⟨Nat.ne_of_lt (Nat.lt_succ_self _), Nat.ne_of_gt llt⟩
        have each : ∀ (i : Nat) (v : Value), its[i]? = some v → ∃ k t, ks[i]? = some k ∧ v = .int k t := fun i v hv => by
          have hlt : i < ks.length := by rw [← hlen]; exact (Array.getElem?_eq_some_iff.mp hv).1
          obtain ⟨t, e⟩ := IntsAre.int_at hi i v (by rw [Array.getElem?_toList]; exact hv)
          exact ⟨ks[i], t, List.getElem?_eq_getElem hlt, by rw [e, List.getD_eq_getElem?_getD, List.getElem?_eq_getElem hlt] <;> rfl⟩
        refine set_update_ints ((Walks.list (by simp [noH]) _ l ne1 its).toS) s.heap.objs.size nin ks hlen room each (its.size - 0) 0 _ (by omega) (Nat.zero_le _) ⟨⟨_, Heap.get?_push_size _ rfl, rfl, rfl⟩, (isl.push _)⟩ ?st ?en
        case st => exact ⟨0, Nat.le_refl 0, setR_new_at (Heap.get?_push_of_some _ at0)⟩
        case en =>
          intro s' c' hm hc' hS'
          obtain ⟨h', g', d', tk', os'⟩ := s'
          obtain rfl : g' = s.gens := hm.gens
          obtain rfl : d' = s.drawn := hm.drawn
          obtain rfl : os' = s.os := hm.os
          rw [hlen] at hc'
          refine wpAny_pure (show wpAny _ _ (ret Value.none) _ _ _ from wpAny_pure ⟨rfl, h', tk', c', rfl, hS', hc', fun b o e => ?_⟩)
          have blt : b < s.heap.objs.size := Heap.lt_size e
          exact hm.heap b o (by rw [sz]; simp only [List.mem_cons, List.not_mem_nil, or_false, not_or]; exact ⟨Nat.ne_of_lt blt, Nat.ne_of_lt (Nat.lt_succ_of_lt blt)⟩) (Heap.get?_push_of_some _ (Heap.get?_push_of_some _ e))
      · cases r2 with
        | error e => exact hr
        | ok f2 =>
          cases f2 with
          | ret r =>
            obtain ⟨rfl, h', tk, c', rfl, hS', hc', hk'⟩ := hr
            repeat (any_goals (first | assumption | wp_step))
            exact fin _ _ _ hS' hc' hk'
          | next => exact hr.elim
          | brk => exact hr.elim
          | cont => exact hr.elim
end
end Sh
set_option Elab.async false
set_option linter.all false
set_option maxRecDepth 100000
set_option maxHeartbeats 4000000
/-! Sh: zip over two iterators of any kind that goes by steps. -/
namespace Sh
open PySem PySem.Spec PyProof.Rows L2
/-- an iterator at i over the thing at l: its state by the number of steps gone -/
structure Stp (prog : Program) (w : World) (i l : Addr) (xs : Array Value) (S : Nat → Heap → Prop) : Prop where
  stay : ∀ {k : Nat} {h h' : Heap}, S k h → (∀ c o, c = i ∨ c = l → h.get? c = some o → h'.get? c = some o) → S k h'
  lt : ∀ {k : Nat} {h : Heap}, S k h → i < h.objs.size
  go : ∀ {A : Around} {s : Shared} {E : Value → Shared → Prop} {Q : Value → Shared → Prop} {k : Nat} {x : Value}, S k s.heap → xs[k]? = some x → (∀ h', S (k + 1) h' → Heap.SameBut i s.heap h' → Q x { s with heap := h' }) →
    wpAny (model prog w) A (Builtin.SmallTypes.nextOf (.ref i)) Q E s
  end_ : ∀ {A : Around} {s : Shared} {E : Value → Shared → Prop} {Q : Value → Shared → Prop} {k : Nat}, A.handled = none → S k s.heap → xs[k]? = none → (∀ h' e, Heap.ExtBut i s.heap h' → (∃ o, h'.get? e = some o ∧ o.cls = .type "StopIteration") → E (.ref e) { s with heap := h' }) →
    wpAny (model prog w) A (Builtin.SmallTypes.nextOf (.ref i)) Q E s
theorem stp_list {prog : Program} {w : World} {i l : Addr} {xs : Array Value} (ne : l ≠ i) : Stp prog w i l xs (fun k h => h.IsListIter i l k ∧ h.IsList l xs) where
  stay := fun ⟨a, b⟩ k => ⟨a.at fun o e => k i o (.inl rfl) e, let ⟨o, e, r⟩ := b; ⟨o, k l o (.inr rfl) e, r⟩⟩
  lt := fun ⟨⟨_, e, _⟩, _⟩ => Heap.lt_size e
  go := fun ⟨a, b⟩ hx q => wpAny_nextOf_list_item a b hx fun h' a' sb => q h' ⟨a', b.extBut sb.extBut ne⟩ sb
  end_ := fun hh ⟨a, b⟩ hx q => wpAny_nextOf_list_end hh a b hx q
theorem stp_tup {prog : Program} {w : World} {i l : Addr} {xs : Array Value} (ne : l ≠ i) : Stp prog w i l xs (fun k h => h.IsTupleIter i l k ∧ h.IsTuple l xs) where
  stay := fun ⟨a, b⟩ k => ⟨a.at fun o e => k i o (.inl rfl) e, let ⟨o, e, r⟩ := b; ⟨o, k l o (.inr rfl) e, r⟩⟩
  lt := fun ⟨⟨_, e, _⟩, _⟩ => Heap.lt_size e
  go := fun ⟨a, b⟩ hx q => RZ.nextOf_tuple_item a b hx fun h' a' sb => q h' ⟨a', b.extBut sb.extBut ne⟩ sb
  end_ := fun hh ⟨a, b⟩ hx q => RZ.nextOf_tuple_end hh a b hx q
section
variable {prog : Program} {w : World} {A : Around} {E : Value → Shared → Prop} {s : Shared} {z ti to ia ib la lb : Addr} {xs ys : Array Value} {S T : Nat → Heap → Prop} {k : Nat} {x y u v : Value}
/-- who is apart from whom -/
structure Apz (z ti to ia ib la lb : Addr) : Prop where
  d : ti ≠ z ∧ to ≠ z ∧ ia ≠ z ∧ ib ≠ z ∧ ti ≠ to ∧ ti ≠ ia ∧ ti ≠ ib ∧ to ≠ ia ∧ to ≠ ib ∧ ia ≠ ib
  e : la ≠ z ∧ la ≠ to ∧ la ≠ ia ∧ la ≠ ib ∧ lb ≠ z ∧ lb ≠ to ∧ lb ≠ ia ∧ lb ≠ ib
theorem zip_go {Q : Value → Shared → Prop} (D : Apz z ti to ia ib la lb) (N1 : Stp prog w ia la xs S) (N2 : Stp prog w ib lb ys T)
    (hz : IsZip s.heap z ti to .none) (hti : IsPair s.heap ti (.ref ia) (.ref ib)) (hto : IsPair s.heap to u v) (h1 : S k s.heap) (h2 : T k s.heap) (hx : xs[k]? = some x) (hy : ys[k]? = some y)
    (fin : ∀ h', IsZip h' z ti to (rawInt s.heap.objs.size) → IsPair h' to x y → S (k + 1) h' → T (k + 1) h' → IsPair h' s.heap.objs.size x y → h'.objs.size = s.heap.objs.size + 1 →
      (∀ c o, c ≠ z → c ≠ to → c ≠ ia → c ≠ ib → s.heap.get? c = some o → h'.get? c = some o) → Q (.ref s.heap.objs.size) { s with heap := h' }) :
    wpAny (model prog w) A (Builtin.«zip.__next__» ⟨[.ref z], []⟩) (fun fn s' => ∃ r, fn = .done (.ret r) ∧ Q r s') E s := by
  obtain ⟨⟨d1, d2, d3, d4, d5, d6, d7, d8, d9, d10⟩, e1, e2, e3, e4, e5, e6, e7, e8⟩ := D
  show wpAny _ _ (field (.ref z) 2 >>= _) _ _ _
  refine wpAny_bind (wpAny_field hz rfl (x := .bool false) rfl (show wpAny _ _ (field (.ref z) 3 >>= _) _ _ _ from wpAny_bind (wpAny_field hz rfl (x := .ref ti) rfl (wpAny_bind (wpAny_seqItems hti rfl ?_)))))
  show wpAny _ _ (Builtin.SmallTypes.ownedTupleIsFree (.ref z) >>= _) _ _ _
  unfold Builtin.SmallTypes.ownedTupleIsFree
  refine wpAny_bind (wpAny_bind (wpAny_field hz rfl (x := .none) rfl (wpAny_pure ?_)))
  simp only [if_true]
  refine wpAny_bind (wpAny_rule (wpAny_bind (wpAny_field hz rfl (x := .ref to) rfl (wpAny_bind (wpAny_setField_rec hz (by simp) fun g1 z1 b1 => ?_)))))
  replace z1 : IsZip g1 z ti to .ellipsis := z1
  refine wpAny_bind ?_
  simp only [List.forIn_cons, List.forIn_nil, List.zipIdx_nil, List.zipIdx_cons]
  refine wpAny_bind (wpAny_bind (wpAny_onRaise (show wpAny _ _ (Builtin.SmallTypes.nextOf (.ref ia) >>= _) _ _ _ from ?_)))
  have k1 : ∀ c o, c ≠ z → s.heap.get? c = some o → g1.get? c = some o := fun c o n e => b1.extBut _ _ n e
  refine wpAny_bind (N1.go (N1.stay h1 fun c o q e => k1 c o (by rcases q with rfl | rfl <;> assumption) e) hx fun g2 s2 b2 => wpAny_pure ?_)
  have k2 : ∀ c o, c ≠ z → c ≠ ia → s.heap.get? c = some o → g2.get? c = some o := fun c o n n2 e => b2.extBut _ _ n2 (k1 c o n e)
  have p2 : IsPair g2 to u v := k2 _ _ d2 d8 hto
  refine wpAny_bind (wpAny_seqItems p2 rfl (wpAny_bind (wpAny_updateSeq_pair p2 fun g3 p3 b3 => ?_)))
  replace p3 : IsPair g3 to x v := p3
  refine wpAny_bind (wpAny_letGo (wpAny_pure ?_))
  refine wpAny_bind (wpAny_bind (wpAny_onRaise (show wpAny _ _ (Builtin.SmallTypes.nextOf (.ref ib) >>= _) _ _ _ from ?_)))
  have k3 : ∀ c o, c ≠ z → c ≠ ia → c ≠ to → s.heap.get? c = some o → g3.get? c = some o := fun c o n n2 n3 e => b3.extBut _ _ n3 (k2 c o n n2 e)
  refine wpAny_bind (N2.go (N2.stay h2 fun c o q e => k3 c o (by rcases q with rfl | rfl <;> assumption) (by rcases q with rfl | rfl; exact Ne.symm d10; assumption) (by rcases q with rfl | rfl; exact Ne.symm d9; assumption) e) hy fun g4 s4 b4 => wpAny_pure ?_)
  have p4 : IsPair g4 to x v := b4.extBut _ _ d9 p3
  refine wpAny_bind (wpAny_seqItems p4 rfl (wpAny_bind (wpAny_updateSeq_pair p4 fun g5 p5 b5 => ?_)))
  replace p5 : IsPair g5 to x y := p5
  refine wpAny_bind (wpAny_letGo (wpAny_pure (wpAny_pure ?_)))
  refine wpAny_bind (wpAny_seqItems p5 rfl (wpAny_bind (wpAny_newTuple ?_)))
  have sz : g5.objs.size = s.heap.objs.size := by rw [b5.1, b4.1, b3.1, b2.1, b1.1]
  have z5 : IsZip g5 z ti to .ellipsis := b5.extBut _ _ (Ne.symm d2) (b4.extBut _ _ (Ne.symm d4) (b3.extBut _ _ (Ne.symm d2) (b2.extBut _ _ (Ne.symm d3) z1)))
  have k5 : ∀ c o, c ≠ z → c ≠ to → c ≠ ia → c ≠ ib → s.heap.get? c = some o → g5.get? c = some o := fun c o n1 n2 n3 n4 e => b5.extBut _ _ n2 (b4.extBut _ _ n4 (k3 c o n1 n3 n2 e))
  have t5 : S (k + 1) g5 := N1.stay s2 fun c o q e => b5.extBut _ _ (by rcases q with rfl | rfl; exact Ne.symm d8; assumption) (b4.extBut _ _ (by rcases q with rfl | rfl <;> assumption) (b3.extBut _ _ (by rcases q with rfl | rfl; exact Ne.symm d8; assumption) e))
  have r5 : T (k + 1) g5 := N2.stay s4 fun c o q e => b5.extBut _ _ (by rcases q with rfl | rfl; exact Ne.symm d9; assumption) e
  have zlt : z < g5.objs.size := Heap.lt_size z5
  show wpAny _ _ (Builtin.SmallTypes.ownedTupleHandOut (.ref z) (.ref g5.objs.size) >>= _) _ _ _
  unfold Builtin.SmallTypes.ownedTupleHandOut
  have z6 : IsZip (g5.push { cls := .type "tuple", data := .seq #[x, y] }) z ti to .ellipsis := Heap.get?_push_of_some _ z5
  refine wpAny_bind (wpAny_bind (wpAny_setField_rec z6 (by simp) fun g7 z7 b7 => ?_))
  replace z7 : IsZip g7 z ti to (rawInt g5.objs.size) := z7
  refine wpAny_setField_rec z7 (by simp) fun g8 z8 b8 => ?_
  replace z8 : IsZip g8 z ti to (rawInt g5.objs.size) := z8
  have up : ∀ c o, c ≠ z → g5.get? c = some o → g8.get? c = some o := fun c o n e => b8.extBut _ _ n (b7.extBut _ _ n (Heap.get?_push_of_some _ e))
  have pT : IsPair g8 g5.objs.size x y := b8.extBut _ _ (Nat.ne_of_gt zlt) (b7.extBut _ _ (Nat.ne_of_gt zlt) (Heap.get?_push_size _ rfl))
  have s8 : g8.objs.size = g5.objs.size + 1 := by rw [b8.1, b7.1, Heap.size_push]
  rw [sz] at z8 pT s8
  refine wpAny_pure ⟨_, rfl, ?_⟩
  show Q (.ref g5.objs.size) _
  rw [sz]
  exact fin g8 z8 (up _ _ d2 p5) (N1.stay t5 fun c o q e => up c o (by rcases q with rfl | rfl <;> assumption) e) (N2.stay r5 fun c o q e => up c o (by rcases q with rfl | rfl <;> assumption) e) pT s8 fun c o n1 n2 n3 n4 e => up c o n1 (k5 c o n1 n2 n3 n4 e)
theorem zip_stop {Q : PySem.Fin → Shared → Prop} (hh : A.handled = none) (D : Apz z ti to ia ib la lb) (N1 : Stp prog w ia la xs S) (N2 : Stp prog w ib lb ys T)
    (hz : IsZip s.heap z ti to .none) (hti : IsPair s.heap ti (.ref ia) (.ref ib)) (hto : IsPair s.heap to u v) (h1 : S k s.heap) (h2 : T k s.heap) (ends : xs[k]? = none ∨ ys[k]? = none)
    (fin : ∀ h' e, (∀ c o, c ≠ z → c ≠ to → c ≠ ia → c ≠ ib → s.heap.get? c = some o → h'.get? c = some o) → (∃ o, h'.get? e = some o ∧ o.cls = .type "StopIteration") → E (.ref e) { s with heap := h' }) :
    wpAny (model prog w) A (Builtin.«zip.__next__» ⟨[.ref z], []⟩) Q E s := by
  obtain ⟨⟨d1, d2, d3, d4, d5, d6, d7, d8, d9, d10⟩, e1, e2, e3, e4, e5, e6, e7, e8⟩ := D
  show wpAny _ _ (field (.ref z) 2 >>= _) _ _ _
  refine wpAny_bind (wpAny_field hz rfl (x := .bool false) rfl (show wpAny _ _ (field (.ref z) 3 >>= _) _ _ _ from wpAny_bind (wpAny_field hz rfl (x := .ref ti) rfl (wpAny_bind (wpAny_seqItems hti rfl ?_)))))
  show wpAny _ _ (Builtin.SmallTypes.ownedTupleIsFree (.ref z) >>= _) _ _ _
  unfold Builtin.SmallTypes.ownedTupleIsFree
  refine wpAny_bind (wpAny_bind (wpAny_field hz rfl (x := .none) rfl (wpAny_pure ?_)))
  simp only [if_true]
  refine wpAny_bind (wpAny_rule (wpAny_bind (wpAny_field hz rfl (x := .ref to) rfl (wpAny_bind (wpAny_setField_rec hz (by simp) fun g1 z1 b1 => ?_)))))
  replace z1 : IsZip g1 z ti to .ellipsis := z1
  refine wpAny_bind ?_
  simp only [List.forIn_cons, List.forIn_nil, List.zipIdx_nil, List.zipIdx_cons]
  refine wpAny_bind (wpAny_bind (wpAny_onRaise (show wpAny _ _ (Builtin.SmallTypes.nextOf (.ref ia) >>= _) _ _ _ from ?_)))
  have k1 : ∀ c o, c ≠ z → s.heap.get? c = some o → g1.get? c = some o := fun c o n e => b1.extBut _ _ n e
  have s1 : S k g1 := N1.stay h1 fun c o q e => k1 c o (by rcases q with rfl | rfl <;> assumption) e
  cases hx : xs[k]? with
  | none =>
    refine wpAny_bind (N1.end_ hh s1 hx fun g2 e b2 he => ?_)
    obtain ⟨oe, ge, ce⟩ := he
    have z2 : IsZip g2 z ti to .ellipsis := b2 _ _ (Ne.symm d3) z1
    have ne : e ≠ z := by rintro rfl; rw [z2] at ge; cases ge; simp at ce
    exact wpAny_setField_rec z2 (by simp) fun g3 _ b3 => fin g3 e (fun c o n1 _ n3 _ q => b3.extBut _ _ n1 (b2 _ _ n3 (k1 c o n1 q))) ⟨oe, b3.extBut _ _ ne ge, ce⟩
  | some x =>
    have hy : ys[k]? = none := ends.resolve_left fun q => by rw [hx] at q; cases q
    refine wpAny_bind (N1.go s1 hx fun g2 s2 b2 => wpAny_pure ?_)
    have k2 : ∀ c o, c ≠ z → c ≠ ia → s.heap.get? c = some o → g2.get? c = some o := fun c o n n2 e => b2.extBut _ _ n2 (k1 c o n e)
    have p2 : IsPair g2 to u v := k2 _ _ d2 d8 hto
    refine wpAny_bind (wpAny_seqItems p2 rfl (wpAny_bind (wpAny_updateSeq_pair p2 fun g3 p3 b3 => ?_)))
    refine wpAny_bind (wpAny_letGo (wpAny_pure ?_))
    refine wpAny_bind (wpAny_bind (wpAny_onRaise (show wpAny _ _ (Builtin.SmallTypes.nextOf (.ref ib) >>= _) _ _ _ from ?_)))
    have k3 : ∀ c o, c ≠ z → c ≠ ia → c ≠ to → s.heap.get? c = some o → g3.get? c = some o := fun c o n n2 n3 e => b3.extBut _ _ n3 (k2 c o n n2 e)
    refine wpAny_bind (N2.end_ hh (N2.stay h2 fun c o q e => k3 c o (by rcases q with rfl | rfl <;> assumption) (by rcases q with rfl | rfl; exact Ne.symm d10; assumption) (by rcases q with rfl | rfl; exact Ne.symm d9; assumption) e) hy fun g4 e b4 he => ?_)
    obtain ⟨oe, ge, ce⟩ := he
    have z4 : IsZip g4 z ti to .ellipsis := b4 _ _ (Ne.symm d4) (b3.extBut _ _ (Ne.symm d2) (b2.extBut _ _ (Ne.symm d3) z1))
    have ne : e ≠ z := by rintro rfl; rw [z4] at ge; cases ge; simp at ce
    exact wpAny_setField_rec z4 (by simp) fun g5 _ b5 => fin g5 e (fun c o n1 n2 n3 n4 q => b5.extBut _ _ n1 (b4 _ _ n4 (k3 c o n1 n3 n2 q))) ⟨oe, b5.extBut _ _ ne ge, ce⟩
theorem zip_nextG {Q : Option Value → Shared → Prop} (D : Apz z ti to ia ib la lb) (N1 : Stp prog w ia la xs S) (N2 : Stp prog w ib lb ys T)
    (hz : IsZip s.heap z ti to .none) (hti : IsPair s.heap ti (.ref ia) (.ref ib)) (hto : IsPair s.heap to u v) (h1 : S k s.heap) (h2 : T k s.heap) (hx : xs[k]? = some x) (hy : ys[k]? = some y)
    (fin : ∀ h', IsZip h' z ti to (rawInt s.heap.objs.size) → IsPair h' to x y → S (k + 1) h' → T (k + 1) h' → IsPair h' s.heap.objs.size x y → h'.objs.size = s.heap.objs.size + 1 →
      (∀ c o, c ≠ z → c ≠ to → c ≠ ia → c ≠ ib → s.heap.get? c = some o → h'.get? c = some o) → Q (some (.ref s.heap.objs.size)) { s with heap := h' }) : wpAny (model prog w) A (pyNext (.ref z)) Q E s := by
  have ty : s.TypeIs (.ref z) "zip" := ⟨_, hz, rfl⟩
  unfold pyNext
  exact wpAny_bind (wpAny_attempt (wpAny_callSpecial?_slot (name := Str.ofString "__next__") ty F.slot_zip_next (wpAny_call_entry F.slot_zip_next ty F.entry_zip_next
    (zip_go D N1 N2 hz hti hto h1 h2 hx hy fun h' a1 a2 a3 a4 a5 a6 a7 => wpAny_pure (fin h' a1 a2 a3 a4 a5 a6 a7)) (F.args_zip_next_1 _))))
theorem zip_nextE {Q : Option Value → Shared → Prop} (hh : A.handled = none) (D : Apz z ti to ia ib la lb) (N1 : Stp prog w ia la xs S) (N2 : Stp prog w ib lb ys T)
    (hz : IsZip s.heap z ti to .none) (hti : IsPair s.heap ti (.ref ia) (.ref ib)) (hto : IsPair s.heap to u v) (h1 : S k s.heap) (h2 : T k s.heap) (ends : xs[k]? = none ∨ ys[k]? = none)
    (fin : ∀ h', (∀ c o, c ≠ z → c ≠ to → c ≠ ia → c ≠ ib → s.heap.get? c = some o → h'.get? c = some o) → Q none { s with heap := h' }) : wpAny (model prog w) A (pyNext (.ref z)) Q E s := by
  have ty : s.TypeIs (.ref z) "zip" := ⟨_, hz, rfl⟩
  unfold pyNext
  refine wpAny_bind (wpAny_attempt (wpAny_callSpecial?_slot (name := Str.ofString "__next__") ty F.slot_zip_next (wpAny_call_entry F.slot_zip_next ty F.entry_zip_next
    (zip_stop hh D N1 N2 hz hti hto h1 h2 ends fun h' e hk he => ?_) (F.args_zip_next_1 _))))
  obtain ⟨o, ho, hc⟩ := he
  exact wpAny_bind (wpAny_isInstance (T := "StopIteration") (b := true) ⟨o, ho, hc⟩ isSubtype_stop (wpAny_pure (fin _ hk)))
end
abbrev zq1 (h : Heap) (l1 : Addr) : Heap := h.push { cls := .type "list_iterator", data := .fields #[.ref l1, .int 0 0] }
abbrev zq2 (h : Heap) (l1 l2 : Addr) : Heap := (zq1 h l1).push { cls := .type "tuple_iterator", data := .fields #[.ref l2, .int 0 0] }
abbrev zq3 (h : Heap) (l1 l2 : Addr) : Heap := (zq2 h l1 l2).push { cls := .type "tuple", data := .seq #[.ref h.objs.size, .ref (zq1 h l1).objs.size] }
abbrev zq4 (h : Heap) (l1 l2 : Addr) : Heap := (zq3 h l1 l2).push { cls := .type "tuple", data := .seq #[.none, .none] }
abbrev zq5 (h : Heap) (l1 l2 : Addr) : Heap := (zq4 h l1 l2).push { cls := .type "zip", data := .fields #[.none, .bool false, .bool false, .ref (zq2 h l1 l2).objs.size, .ref (zq3 h l1 l2).objs.size] }
theorem meets_zq (l1 l2 : Addr) (xs ys : Array Value) :
    Meets (Builtin.«zip.__new__» ⟨[.type "zip", .ref l1, .ref l2], []⟩) (fun _ R s => s.heap.IsList l1 xs ∧ s.heap.IsTuple l2 ys ∧ R (.ok (.ret (.ref (zq4 s.heap l1 l2).objs.size))) { s with heap := zq5 s.heap l1 l2 }) :=
  .of_wp fun prog w A R s h => by
    obtain ⟨hp, g, d, tk, os⟩ := s
    obtain ⟨q1, q2, h⟩ := h
    have sub := sub_zip
    have i1 : Heap.IsList (Shared.heap ⟨hp, g, d, tk, os⟩) l1 xs := q1
    have i2 : Heap.IsTuple (Shared.heap ⟨hp.push { cls := .type "list_iterator", data := .fields #[.ref l1, .int 0 0] }, g, d, tk, os⟩) l2 ys := Heap.IsTuple.push q2 _
    wp_walk using wpAny_pyIter_list i1, wpAny_pyIter_tuple i2
    exact ⟨_, rfl, h⟩
section
variable {prog : Program} {w : World} {A : Around} {E : Value → Shared → Prop} {s : Shared}
theorem call_zq {l1 l2 : Addr} {xs ys : Array Value} {Q : Value → Shared → Prop} (q1 : s.heap.IsList l1 xs) (q2 : s.heap.IsTuple l2 ys)
    (h : ∀ h' n, n = s.heap.objs.size → IsZip h' (n + 4) (n + 2) (n + 3) .none → IsPair h' (n + 2) (.ref n) (.ref (n + 1)) → IsPair h' (n + 3) .none .none → h'.IsListIter n l1 0 → h'.IsTupleIter (n + 1) l2 0 →
      (∀ c o, s.heap.get? c = some o → h'.get? c = some o) → Q (.ref (n + 4)) { s with heap := h' }) : wpAny (model prog w) A (call (.type "zip") [.ref l1, .ref l2]) Q E s := by
  refine callType_new F.called_zip (by decide) (F.typeCall_zip_2 _ _) (F.newCall_zip_2 _ _) (fun ob => F.args_object_init_3 ob _ _) F.entry_zip_new (meets_zq l1 l2 xs ys) ⟨q1, q2, ?_⟩
  have n1 : (zq1 s.heap l1).objs.size = s.heap.objs.size + 1 := Heap.size_push ..
  have n2 : (zq2 s.heap l1 l2).objs.size = s.heap.objs.size + 2 := by rw [Heap.size_push, n1]
  have n3 : (zq3 s.heap l1 l2).objs.size = s.heap.objs.size + 3 := by rw [Heap.size_push, n2]
  have n4 : (zq4 s.heap l1 l2).objs.size = s.heap.objs.size + 4 := by rw [Heap.size_push, n3]
  have f5 : (zq5 s.heap l1 l2).get? (zq4 s.heap l1 l2).objs.size = some _ := Heap.get?_push_size _ rfl
  have f4 : (zq5 s.heap l1 l2).get? (zq3 s.heap l1 l2).objs.size = some _ := Heap.get?_push_of_some _ (Heap.get?_push_size _ rfl)
  have f3 : (zq5 s.heap l1 l2).get? (zq2 s.heap l1 l2).objs.size = some _ := Heap.get?_push_of_some _ (Heap.get?_push_of_some _ (Heap.get?_push_size _ rfl))
  have f2 : (zq5 s.heap l1 l2).get? (zq1 s.heap l1).objs.size = some _ := Heap.get?_push_of_some _ (Heap.get?_push_of_some _ (Heap.get?_push_of_some _ (Heap.get?_push_size _ rfl)))
  have f1 : (zq5 s.heap l1 l2).get? s.heap.objs.size = some _ := Heap.get?_push_of_some _ (Heap.get?_push_of_some _ (Heap.get?_push_of_some _ (Heap.get?_push_of_some _ (Heap.get?_push_size _ rfl))))
  show _ ∧ _
  rw [n2, n3, n4] at f5
  rw [n1, n2] at f3
  rw [n3] at f4
  rw [n1] at f2
  rw [n4]
  exact ⟨⟨_, f5, rfl⟩, h _ _ rfl f5 f3 f4 ⟨_, f1, rfl, rfl⟩ ⟨_, f2, rfl, rfl⟩ fun c o e => Heap.get?_push_of_some _ (Heap.get?_push_of_some _ (Heap.get?_push_of_some _ (Heap.get?_push_of_some _ (Heap.get?_push_of_some _ e))))⟩
end
/-- the list at a and the tuple at b, the items in new pairs -/
def Itq (K : PySem.W.Frag) (a b : Addr) : It :=
  ⟨fun i H => ∃ (xs ys : List V) (x y : V), SqL K H a xs ∧ SqT K H b ys ∧ xs[i]? = some x ∧ ys[i]? = some y,
    fun i H v H' => ∃ c x y, v = .ref c ∧ H c = none ∧ H' = upd H c (.tup [x, y]) ∧ (∀ xs, SqL K H a xs → xs[i]? = some x) ∧ ∀ ys, SqT K H b ys → ys[i]? = some y,
    fun i H => ∃ xs ys : List V, SqL K H a xs ∧ SqT K H b ys ∧ (xs.length ≤ i ∨ ys.length ≤ i)⟩
theorem turn_zq {P : Program} {w : World} {K : PySem.W.Frag} {elts : List Expr} {kk : Nat} {tpos : Pos} {a b z ti to ia ib : Addr} (D : Apz z ti to ia ib a b) :
    Turn P w K (.Tuple elts kk tpos) (Itq K a b) [z, ti, to, ia, ib] z (fun i h => IsZip h z ti to .none ∧ IsPair h ti (.ref ia) (.ref ib) ∧ (∃ x y, IsPair h to x y) ∧ h.IsListIter ia a i ∧ h.IsTupleIter ib b i) where
  mem := by simp
  obj := fun i h st c hc => by
    obtain ⟨g1, g2, ⟨x, y, g3⟩, ⟨o1, e1, _, d1⟩, ⟨o2, e2, _, d2⟩⟩ := st
    simp only [List.mem_cons, List.not_mem_nil, or_false] at hc
    rcases hc with rfl | rfl | rfl | rfl | rfl
    · exact ⟨_, g1, fun v q => nomatch q⟩
    · exact ⟨_, g2, fun v q => nomatch q⟩
    · exact ⟨_, g3, fun v q => nomatch q⟩
    · exact ⟨o1, e1, fun v q => by rw [d1] at q; cases q⟩
    · exact ⟨o2, e2, fun v q => by rw [d2] at q; cases q⟩
  keep := fun i h h' st q => by
    obtain ⟨g1, g2, ⟨x, y, g3⟩, g4, g5⟩ := st
    exact ⟨q z (by simp) _ g1, q ti (by simp) _ g2, ⟨x, y, q to (by simp) _ g3⟩, g4.at fun o e => q ia (by simp) o e, g5.at fun o e => q ib (by simp) o e⟩
  item := by
    intro X hP hw hK hc i pins s σ H E I hf st hg
    subst hP hw hK
    obtain ⟨g1, g2, ⟨x0, y0, g3⟩, g4, g5⟩ := st
    obtain ⟨xs, ys, x, y, qa, qb, hx, hy⟩ := hg
    obtain ⟨its, rv, pl, _⟩ := I.list qa
    obtain ⟨its2, rv2, pt, _⟩ := I.tuple qb
    obtain ⟨u, hu, ru⟩ := rv.get hx
    obtain ⟨u2, hu2, ru2⟩ := rv2.get hy
    have zlt : z < s.heap.objs.size := Heap.lt_size g1
    have D0 := D
    obtain ⟨⟨d1, d2, d3, d4, d5, d6, d7, d8, d9, d10⟩, e1, e2, e3, e4, e5, e6, e7, e8⟩ := D
    refine zip_nextG D0 (stp_list e3) (stp_tup e8) g1 g2 g3 ⟨g4, pl.isList⟩ ⟨g5, show s.heap.IsTuple b its2.toArray from pt⟩ (x := u) (y := u2) (by simpa using hu) (by simpa using hu2) fun h' z' t' s1 s2 pT hsz hk => ?_
    refine ⟨_, rfl, wpAny_letOwnedTupleGo_zip (s := { s with heap := h' }) z' fun h2 z2 sb => ?_⟩
    have pT2 : h2.get? s.heap.objs.size = some { cls := .type "tuple", data := .seq #[u, u2] } := (sb.2 _ (Nat.ne_of_gt zlt)).trans pT
    have new : ObjOk X.prog X.w (upd H s.heap.objs.size (.tup [x, y])) h2 s.heap.objs.size (.tup [x, y]) := ⟨by show 2 ≤ sizeLine; decide, [u, u2], .cons ru (.cons ru2 .nil), ⟨_, pT2, rfl, _, rfl⟩⟩
    have I1 : Inv X pins σ (upd H s.heap.objs.size (.tup [x, y])) { s with heap := h2 } := I.turnedNew (t' := s.toks) (ch := [z, ti, to, ia, ib]) (fun c o hb e => by
      simp only [List.mem_cons, List.not_mem_nil, or_false, not_or] at hb
      exact (sb.2 c hb.1).trans (hk c o hb.1 hb.2.2.1 hb.2.2.2.1 hb.2.2.2.2 e)) hf (Nat.le_refl _) new
    refine ⟨.ref s.heap.objs.size, _, I1, rfl, ⟨_, x, y, rfl, I.hok.fresh (Nat.le_refl _), rfl, fun l hl => by rw [I.list_inj hl qa]; exact hx, fun l hl => by rw [I.tuple_inj hl qb]; exact hy⟩, ⟨z2, (sb.2 _ d1).trans (hk _ _ d1 d5 d6 d7 g2), ⟨u, u2, (sb.2 _ d2).trans t'⟩, s1.1.at fun o e => (sb.2 _ d3).trans e, s2.1.at fun o e => (sb.2 _ d4).trans e⟩, fun c hcm => ?_⟩
    have clt : c < s.heap.objs.size := by
      simp only [List.mem_cons, List.not_mem_nil, or_false] at hcm
      rcases hcm with rfl | rfl | rfl | rfl | rfl
      · exact zlt
      · exact Heap.lt_size g2
      · exact Heap.lt_size g3
      · obtain ⟨_, e, _⟩ := g4; exact Heap.lt_size e
      · obtain ⟨_, e, _⟩ := g5; exact Heap.lt_size e
    rw [upd_ne (Nat.ne_of_lt clt)]
    exact (hf c hcm).1
  done := by
    intro X hP hw hK hc i pins s σ H E I hf st hg
    subst hP hw hK
    obtain ⟨g1, g2, ⟨x0, y0, g3⟩, g4, g5⟩ := st
    obtain ⟨xs, ys, qa, qb, hend⟩ := hg
    obtain ⟨its, rv, pl, _⟩ := I.list qa
    obtain ⟨its2, rv2, pt, _⟩ := I.tuple qb
    have l1 := rv.length
    have l2 := rv2.length
    refine zip_nextE (I.ok.hd hc) D (stp_list D.e.2.2.1) (stp_tup D.e.2.2.2.2.2.2.2) g1 g2 g3 ⟨g4, pl.isList⟩ ⟨g5, show s.heap.IsTuple b its2.toArray from pt⟩ (hend.imp (fun q => by simp; omega) (fun q => by simp; omega)) fun h' hk => ⟨rfl, I.turnedL (t' := s.toks) (ch := [z, ti, to, ia, ib]) (fun c o hb e => ?_) hf⟩
    simp only [List.mem_cons, List.not_mem_nil, or_false, not_or] at hb
    exact hk c o hb.1 hb.2.2.1 hb.2.2.2.1 hb.2.2.2.2 e
  self := fun A i s Q E st h => wpAny_pyIter_zip st.1 h
def iZipQ (K : PySem.W.Frag) (ta : TA) : TI := fun σ H R => ta σ H fun vs H1 => ∃ a b xs ys, vs = [.ref a, .ref b] ∧ SqL K H1 a xs ∧ SqT K H1 b ys ∧ R (Itq K a b) H1
theorem adn {x y : Nat} (h : x ≠ y) : @Ne Addr x y := h
theorem apz_new (n a b : Nat) (ha : a < n) (hb : b < n) : Apz (n + 4) (n + 2) (n + 3) n (n + 1) a b := ⟨⟨adn (by omega), adn (by omega), adn (by omega), adn (by omega), adn (by omega), adn (by omega), adn (by omega), adn (by omega), adn (by omega), adn (by omega)⟩, adn (by omega), adn (by omega), adn (by omega), adn (by omega), adn (by omega), adn (by omega), adn (by omega), adn (by omega)⟩
theorem pi_zipQ {X : Cx} {e e2 : Expr} {ta : TA} {p pos tpos : Pos} {elts : List Expr} {kk : Nat} (hg : Gl X "zip") (hm : X.mg "zip" = none) (ha : PA X [e, e2] ta)
    (hs : starEach [e, e2] X.env = (false, eval e X.env) :: starEach [e2] X.env := by rfl) (hpl : (backTo pos (starEach [e2] X.env)).any (·.1) = false := by rfl) :
    PI X (.Tuple elts kk tpos) (.Call (.Name "zip" p) [e, e2] [] pos) (iZipQ X.K ta) := by
  refine ⟨fun pins s σ H R I h => Call_ (ld_blt I hg hm PyProof.Rows.boot_zip (PyProof.Rows.callWith_type1 (thn (ha.run pos pins s σ H _ I h) fun us s1 ⟨vs, H1, I1, r1, a, b, xs, ys, ex, qa, qb, q⟩ => ?_) hs hpl))⟩
  subst ex
  obtain ⟨u1, u2, rfl, w1, w2⟩ := vals2 r1
  cases w1; cases w2
  obtain ⟨its, rv, pl, _⟩ := I1.list qa
  obtain ⟨its2, rv2, pt, _⟩ := I1.tuple qb
  have tlt : b < s1.heap.objs.size := by obtain ⟨o, ho, _⟩ := pt; exact Heap.lt_size ho
  refine call_zq pl.isList (show s1.heap.IsTuple b its2.toArray from pt) fun h' n hn z1 p1 p2 t1 t2 hk => wpAny_pyIter_zip z1 ?_
  have I2 : Inv X pins σ H1 { s1 with heap := h' } := I1.kept (t' := s1.toks) hk
  refine ⟨n + 4, [n + 4, n + 2, n + 3, n, n + 1], _, _, H1, rfl, I2, turn_zq (apz_new n a b (hn ▸ pl.lt) (hn ▸ tlt)), ⟨z1, p1, ⟨_, _, p2⟩, t1, t2⟩, fun c hc => ?_, q⟩
  have le : s1.heap.objs.size ≤ c := by
    simp only [List.mem_cons, List.not_mem_nil, or_false] at hc
    have up : ∀ d : Nat, s1.heap.objs.size ≤ n + d := fun d => by rw [hn]; exact Nat.le_add_right _ _
    rcases hc with rfl | rfl | rfl | rfl | rfl
    · exact up 4
    · exact up 2
    · exact up 3
    · exact up 0
    · exact up 1
  exact I1.fpOk le (I1.hok.fresh le)
section
variable {G : Gam} {X : Cx} {W : WX} {bd : Nat} {fa : AF} {a b : Expr} {pos p : Pos} {k : Nat}
def iZq (t : AF) : IF := fun bd e M => (t bd e M).bind fun ds M1 => match ds with
  | [d, d2] => (match lstOf M1 d, tupOf d2 with
    | some _, some ys => .ok (fun M => (lstOf M d).map fun xs => zipD xs ys) M1
    | _, _ => .stuck)
  | _ => .stuck
/-- zip of two lists, of two tuples, of a list and a tuple -/
def iZz (t : AF) : IF := fun bd e M => match iZp t bd e M with
  | .stuck => iZq t bd e M
  | r => r
theorem walk_zq {P0 : Prt} {m1 : List Addr} {H1 : Hp} {d d2 : D} {q q2 : Addr} {ys : List D} (r : RV (G.on P0) m1 H1 d (.ref q)) (r2 : RV (G.on P0) m1 H1 d2 (.ref q2)) (hl2 : tupOf d2 = some ys) : Walk G P0 (Itq G.K q q2) (fun M => (lstOf M d).map fun xs => zipD xs ys) m1 H1 := fun P bd m H M ds i hp x rs hs => by
  obtain ⟨xs, hl, rfl⟩ := Option.map_eq_some_iff.mp hs
  obtain ⟨a, us, e1, sq, rv⟩ := lst_of rs (later r hp x) hl
  obtain ⟨a2, us2, e2, sq2, rv2⟩ := tup_of (later r2 hp x) hl2
  cases e1; cases e2
  refine ⟨fun d' hd => ?_, fun hl' => ⟨us, us2, sq, sq2, by rw [← rv.length, ← rv2.length]; exact zip_len hl'⟩⟩
  obtain ⟨y, y2, hy, hy2, rfl⟩ := zipD_get hd
  obtain ⟨u, hu, ru⟩ := rv.get hy
  obtain ⟨u2, hu2, ru2⟩ := rv2.get hy2
  refine ⟨⟨us, us2, u, u2, sq, sq2, hu, hu2⟩, fun z H' hz => ?_⟩
  obtain ⟨T, x', x2, rfl, hT, rfl, hz, hz2⟩ := hz
  have := hz us sq
  rw [hu] at this
  cases this
  have := hz2 us2 sq2
  rw [hu2] at this
  cases this
  exact ⟨Ext.fresh hT, rs.fresh hT, .tup upd_same (.cons (ru.mono (Ext.fresh hT)) (.cons (ru2.mono (Ext.fresh hT)) .nil))⟩
theorem zipQ_of (hK : X.K = G.K) : ∀ σ H Q, tI G W bd (iZq fa) σ H Q → iZipQ X.K (tA G W bd fa) σ H Q :=
  fun σ H Q ⟨P, m, e, M, re, rs, h⟩ => (stepA (Ext.refl m H) re rs h).mono fun vs H1 ⟨m1, ds, M1, x1, x01, re1, rs1, r1, h1⟩ => by
    split at h1
    · rename_i d d2
      cases r1 with | cons ra r2 => cases r2 with | cons rb r3 =>
      cases r3
      split at h1
      · rename_i xs ys hl hl2
        obtain ⟨q, us, rfl, sq, rv⟩ := lst_of rs1 ra hl
        obtain ⟨q2, us2, rfl, sq2, rv2⟩ := tup_of rb hl2
        rw [hK]
        exact ⟨q, q2, us, us2, rfl, sq, sq2, h1 m1 H1 _ x01 rs1 (walk_zq ra rb hl2)⟩
      · exact h1.elim
    · exact h1.elim
theorem si_zz {elts : List Expr} {kk : Nat} {tpos : Pos} (hK : X.K = G.K) (hg : Gl X "zip") (hm : X.mg "zip" = none) (ha : SA G X W [a, b] fa) (hs : starEach [a, b] X.env = (false, eval a X.env) :: starEach [b] X.env := by rfl) (hpl : (backTo pos (starEach [b] X.env)).any (·.1) = false := by rfl) :
    SI G X W (.Tuple elts kk tpos) (.Call (.Name "zip" p) [a, b] [] pos) (iZz fa) := fun bd => by
  refine ⟨fun pins s σ H R I ⟨P, m, e, M, re, rs, h⟩ => ?_⟩
  unfold iZz at h
  split at h
  · exact (pi_zipQ hg hm (ha bd) hs hpl).run pins s σ H R I (zipQ_of hK _ _ _ ⟨P, m, e, M, re, rs, h⟩)
  · exact (RZ.pi_zipA hg hm (ha bd) hs hpl).run pins s σ H R I (zipA_of hK _ _ _ ⟨P, m, e, M, re, rs, h⟩)
end
end Sh
set_option Elab.async false
set_option linter.all false
set_option maxRecDepth 100000
set_option maxHeartbeats 4000000
/-! Sh: sorted, index, module constants, facts about exceptions. -/
namespace Sh
open PySem PySem.Spec PyProof.Rows L2
/-- pairs of ints, by their order -/
def lexI (p q : Int × Int) : Bool := if p.1 = q.1 then decide (p.2 < q.2) else decide (p.1 < q.1)
def insP (x : Int × Int) : List (Int × Int) → List (Int × Int)
  | [] => [x]
  | y :: r => if lexI y x = true then y :: insP x r else x :: y :: r
def srtP : List (Int × Int) → List (Int × Int)
  | [] => []
  | x :: r => insP x (srtP r)
def prsOf : List D → Option (List (Int × Int))
  | [] => some []
  | .tup [.int i, .int j] :: r => (prsOf r).map fun l => (i, j) :: l
  | _ => none
def keysI : List (Key × D) → Option (List Int)
  | [] => some []
  | (.inl i, _) :: r => (keysI r).map fun l => i :: l
  | _ => none
/-- what sorted gives: ints of a list or tuple, pairs of ints of a list, a dict's int keys -/
def lSort : CL := fun M ds => match ds with
  | [d] => (match seqOf M d with
    | some es => (match intsOf es with
      | some ns => some ((srtI ns).map D.int)
      | none => (match lstOf M d, prsOf es with
        | some _, some ps => some ((srtP ps).map fun p => D.tup [.int p.1, .int p.2])
        | _, _ => none))
    | none => (match d with
      | .ref n => (match M[n]? with
        | some (.dK kvs) => if kvs.length ≤ 16777216 then (keysI kvs).map fun ns => (srtI ns).map D.int else none
        | _ => none)
      | _ => none))
  | _ => none
/-- sorted(set(xs)), xs a list or tuple of ints -/
def ddup : List Int → List Int
  | [] => []
  | x :: r => x :: (ddup r).filter (fun y => !decide (y = x))
def lSortSet (M : Mem) (d : D) : Option (List D) := match (lstOf M d).bind intsOf with
  | some ns => if ns.length < 64 then some ((srtI (ddup ns)).map D.int) else none
  | none => none
def eSortSet (f : EF) : EF := fun bd e M => (f bd e M).bind fun d M1 => lftL (lSortSet M1 d) M1
def excCB (K : PySem.W.Frag) (D : Addr) : Bool :=
  decide (PySem.W.findIn K (.ref D) "__getattribute__" = some (some (.builtin "BaseException.__getattribute__"))) && (decide (PySem.W.findIn K (.ref D) "__getattr__" = some none) && (decide (PySem.W.subIn K (.ref D) (.type "BaseException") = some true) && (PySem.W.hasDictIn K D &&
  (decide (PySem.W.findIn K (.ref D) "__class__" = some (some (.builtin "object.__class__"))) && (decide (PySem.W.specialIn K (.builtin "object.__class__") "__get__" = some (some (.builtin "getset_descriptor.__get__"))) && (decide (PySem.W.takesIn K (.builtin "object.__class__") = some true) && decide (PySem.W.mroIn K D (.type "object") = some true)))))))
theorem excC_ok {K : PySem.W.Frag} {D : Addr} (h : excCB K D = true) : ExcC K D := by
  simp only [excCB, Bool.and_eq_true, decide_eq_true_eq] at h
  obtain ⟨h1, h2, h3, h4, h5, h6, h7, h8⟩ := h
  exact ⟨h1, h2, h3, h4, h5, h6, h7, h8⟩
/-- what one wants to know of an own exception class x and a built-in type T -/
def isB (K : PySem.W.Frag) (x : Str) (T : String) (b : Bool) : Bool := excCB K (He.ga K x) && decide (PySem.W.kitOne K (.ref (He.ga K x)) (.type T) = some b)
theorem isB_ok {K : PySem.W.Frag} {x : Str} {T : String} {b : Bool} (h : isB K x T b = true) : ExcC K (He.ga K x) ∧ PySem.W.kitOne K (.ref (He.ga K x)) (.type T) = some b := by
  simp only [isB, Bool.and_eq_true, decide_eq_true_eq] at h
  exact ⟨excC_ok h.1, h.2⟩
theorem excF_of {P : Program} {w : World} {K : PySem.W.Frag} {mg : Str → Option Value} {x : Str} (c : (He.Fa.exc x).ok K = true) (g : mg x = some (.ref (He.ga K x))) : ExcF P w K mg x := by
  obtain ⟨h1, h2, h3, h4⟩ := He.exc_ok c
  exact ⟨h1, h2, g, fun M h X => ⟨PySem.W.looks_subIn X h3, PySem.W.looks_typeIn X h4⟩⟩
/-- a def of which no exception is wished lets none out -/
theorem FnOk.calm0 {P : Program} {w : World} {K : PySem.W.Frag} {mg : Str → Option Value} {base : Heap} {k : Nat} {f : Addr} {fd : FuncData} {ps : List Str} {sp : Sp} (F : L2.FnOk P w K mg base (L2.CX P w) k f fd ps sp) : L2.FnOk P w K mg base CX0 k f fd ps (fun vs H Q _ => sp vs H Q E0) :=
  ⟨fun vs H Q _ h => F.len vs H Q E0 h, fun A outer s H args us vs Q E hr e0 hb hv h => codeAny_mono (F.run A outer s H args us vs Q E0 hr e0 hb hv h) fun r s' hq => by
    cases r with
    | error e =>
      obtain ⟨_, _, _, _, _, _, _, _, _, _, _, _, z⟩ := hq
      exact z.elim
    | ok fl => cases fl <;> exact hq⟩
section
variable {G : Gam} {X : Cx} {W : WX} {bd : Nat} {f g h : EF} {fb gb : BF} {fa : AF} {F1 F2 : SF} {a b c tg : Expr} {pos p : Pos} {σ : L2.St} {H H0 : Hp} {m m0 : List Addr} {M : Mem} {e : Env} {k : Nat} {tA' : TA}
theorem se_gstr {z : Str} {x : Str} (hg : Gl X x) (hm : ∃ t, X.mg x = some (.str z t)) (hd : (x == ("__debug__" : Str)) = false := by decide) : SE G X W (.Name x pos) (eC (.str z)) := by
  obtain ⟨t, hm⟩ := hm
  exact se_const (pe_glob (v := .str z) hg hm ⟨t, rfl⟩ hd) fun _ _ _ => .str z
theorem se_gcst {x : Str} {A : Addr} {ds : List D} {us : List V} (hg : Gl X x) (hm : X.mg x = some (.ref A) ∧ (∀ H', SqT G.K H' A us) ∧ ∀ (P : Prt) m H, RVs (G.on P) m H ds us) (hd : (x == ("__debug__" : Str)) = false := by decide) : SE G X W (.Name x pos) (eC (.cst ds)) :=
  se_const (pe_glob (v := .ref A) hg hm.1 rfl hd) fun P m H => .cst hm.2.1 (hm.2.2 P m H)
/-! ### index -/
def idxS (y : D) : List D → Option Nat
  | [] => none
  | d :: r => if eqS d y = true then some 0 else (idxS y r).map (· + 1)
def mIndex : MF := fun bd M x ds => match lstOf M x, ds with
  | some es, [y] => if (scl y && es.all scl) = true then (match idxS y es with
    | some j => .ok (.int (j : Nat)) M
    | none => .stuck) else .stuck
  | _, _ => .stuck
theorem nox_index : NoX mIndex := fun bd M d ds c M' h => by
  unfold mIndex at h
  repeat' split at h
  all_goals cases h
theorem idxS_spec {y : D} {u : V} (ry : RV G m H y u) (hy : scl y = true) : ∀ {es : List D} {us : List V} {j : Nat}, RVs G m H es us → es.all scl = true → idxS y es = some j → ∃ z, us[j]? = some z ∧ eqV z u = true ∧ ∀ (i : Nat) (z' : V), i < j → us[i]? = some z' → eqV z' u = false
  | _, _, _, .nil, _, h => by cases h
  | _, _, j, .cons (d := d) a b, hs, h => by
    simp only [List.all_cons, Bool.and_eq_true] at hs
    unfold idxS at h
    split at h
    · rename_i he
      cases h
      exact ⟨_, rfl, by rw [eqS_V a ry hs.1 hy]; exact he, fun i z' hi => absurd hi (Nat.not_lt_zero _)⟩
    · rename_i he
      obtain ⟨j', h1, rfl⟩ := Option.map_eq_some_iff.mp h
      obtain ⟨z, h2, h3, h4⟩ := idxS_spec ry hy b hs.2 h1
      refine ⟨z, h2, h3, fun i z' hi hz => ?_⟩
      cases i with
      | zero => cases hz; rw [eqS_V a ry hs.1 hy]; exact Bool.eq_false_iff.mpr he
      | succ i => exact h4 i z' (by omega) hz
theorem msim_index : MSim G (rIndex G.K) mIndex := fun bd m H M d ds u us Q rs r rv h => by
  unfold mIndex at h
  split at h
  · rename_i es y hl
    split at h
    · rename_i c
      simp only [Bool.and_eq_true] at c
      split at h
      · rename_i j hj
        obtain ⟨w, rfl, rw'⟩ := rv.one
        obtain ⟨q, ws, rfl, sq, s⟩ := lst_of rs r hl
        obtain ⟨z, h1, h2, h3⟩ := idxS_spec rw' c.1 s c.2 hj
        exact ⟨q, ws, w, j, z, rfl, rfl, sq, scl_flat rw' c.1, scl_all s c.2, h1, h2, h3, h m H _ (Ext.refl m H) rs (.int _)⟩
      · exact h.elim
    · exact h.elim
  · exact h.elim
/-! ### sorted -/
/-- a dict's int keys -/
def rSortDI : RC := fun xs H Q => ∃ (a : Addr) (kvs : List (Key × V)) (ks : List Int), xs = [V.ref a] ∧ Rd H a (.dK kvs) ∧ kvs.map (·.1) = ks.map Sum.inl ∧ ks.length ≤ 16777216 ∧
  ∀ (ys : List Int) (p : Addr), ys.Perm ks → ys.Pairwise (· ≤ ·) → H p = none → Q (.ref p) (upd H p (.lst (ys.map V.int)))
theorem cr_sortDI (hcalm : X.calm = true) : CallR X (.builtin "sorted") rSortDI := by
  intro pins s σ H xs us Q I r q
  obtain ⟨a, kvs, ks, rfl, hd, hks, hz, q⟩ := q
  rw [Vals.ref1 r]
  obtain ⟨_, lo, vs, rel, dd⟩ := dk_rd I.hok hd
  obtain ⟨ep, hat⟩ := dd.dictAt
  have hkeys : vs.map (·.1) = ks.map Sum.inl := rel.keys.symm.trans hks
  have hl : vs.length = ks.length := by
    have e := congrArg List.length hkeys
    rwa [List.length_map, List.length_map] at e
  refine sort_ints (ks := ks) I (line_le hz) (fun R hR => ?_) q
  refine PySem.W.kdu_collect (A := X.A.in1) (PySem.W.kdl_dict (knd := mixKind X.prog X.w) (kvs := vs) (ep := ep) lo) (I.ok.hd hcalm) hat (line_le (by rw [hl]; exact hz)) fun h' tk acc hk hacc => hR h' tk _ hk ?_
  refine ints_each (by rw [Array.length_toList, hacc.1, hl]) fun j v e => ?_
  obtain ⟨k, x, e1, e2⟩ := hacc.2 j v (by rw [← Array.getElem?_toList]; exact e)
  have e3 : (ks.map Sum.inl)[j]? = some k := by rw [← hkeys, List.getElem?_map, e1]; rfl
  rw [List.getElem?_map] at e3
  obtain ⟨y, e4, rfl⟩ := Option.map_eq_some_iff.mp e3
  rcases keyIs_shape (show keyIs (Sum.inl y) v = true from e2) with ⟨i, t, ek, ev⟩ | ⟨z, t, ek, ev⟩
  · cases ek; exact ⟨y, t, e4, ev⟩
  · cases ek
def rSortS (K : PySem.W.Frag) : RC := fun xs H Q => rSortSq K xs H Q ∨ (rSortedPO K xs H Q ∨ rSortDI xs H Q)
theorem call_sortS (c : Ct G X k) : CallR X (.builtin "sorted") (rSortS X.K) := CallR.or call_sortSq (CallR.or cr_sortedPO (cr_sortDI c.hc))
theorem keysI_map : ∀ {kvs : List (Key × D)} {ns : List Int}, keysI kvs = some ns → kvs.map (·.1) = ns.map Sum.inl
  | [], _, h => by cases h; rfl
  | (.inl i, d) :: r, ns, h => by
    obtain ⟨l, h1, rfl⟩ := Option.map_eq_some_iff.mp h
    simp [keysI_map h1]
  | (.inr i, d) :: r, ns, h => by cases h
theorem KVs.keys {κ : Type} : ∀ {a : List (κ × D)} {b : List (κ × V)}, KVs G m H a b → a.map (·.1) = b.map (·.1)
  | _, _, .nil => rfl
  | _, _, .cons z r => by simp only [List.map_cons, z.1, KVs.keys r]
/-- pairs -/
def kP (H : Hp) : V → Int × Int
  | .ref t => match H t with
    | some (.tup [.int i, .int j]) => (i, j)
    | _ => (0, 0)
  | _ => (0, 0)
theorem prs_V : ∀ {ds : List D} {us : List V} {ps : List (Int × Int)}, RVs G m H ds us → prsOf ds = some ps → us.map (kP H) = ps ∧ ∀ x ∈ us, ∃ t, x = V.ref t ∧ H t = some (.tup [.int (kP H x).1, .int (kP H x).2])
  | _, _, _, .nil, h => by cases h; exact ⟨rfl, fun _ hx => by cases hx⟩
  | _, _, ps, .cons (d := d) (ds := r) a b, h => by
    unfold prsOf at h
    split at h
    · rename_i heq; cases heq
    · rename_i i j r' heq
      cases heq
      obtain ⟨l, h1, rfl⟩ := Option.map_eq_some_iff.mp h
      obtain ⟨h2, h3⟩ := prs_V b h1
      cases a with
      | tup q s =>
        cases s with | cons s1 s2 => cases s2 with | cons s2 s3 =>
        cases s3; cases s1; cases s2
        have e : ∀ t, H t = some (.tup [.int i, .int j]) → kP H (V.ref t) = (i, j) := fun t q => by simp only [kP, q]
        refine ⟨by rw [List.map_cons, h2, e _ q], fun x hx => ?_⟩
        rcases List.mem_cons.mp hx with rfl | hx
        · exact ⟨_, rfl, by rw [e _ q]; exact q⟩
        · exact h3 x hx
    · cases h
theorem insP_perm (x : Int × Int) : ∀ l : List (Int × Int), (insP x l).Perm (x :: l)
  | [] => .refl _
  | y :: r => by
    unfold insP
    split
    · exact ((insP_perm x r).cons y).trans (.swap x y r)
    · exact .refl _
theorem srtP_perm : ∀ l : List (Int × Int), (srtP l).Perm l
  | [] => .refl _
  | x :: r => (insP_perm x (srtP r)).trans ((srtP_perm r).cons x)
def leP (p q : Int × Int) : Prop := lexI q p = false
theorem leP_iff {p q : Int × Int} : leP p q ↔ p.1 < q.1 ∨ (p.1 = q.1 ∧ p.2 ≤ q.2) := by
  unfold leP lexI
  split
  · rw [decide_eq_false_iff_not]; omega
  · rw [decide_eq_false_iff_not]; omega
theorem insP_sorted (x : Int × Int) : ∀ {l : List (Int × Int)}, l.Pairwise leP → (insP x l).Pairwise leP
  | [], _ => List.pairwise_singleton _ _
  | y :: r, h => by
    obtain ⟨h1, h2⟩ := List.pairwise_cons.mp h
    unfold insP
    split
    · rename_i hy
      refine List.pairwise_cons.mpr ⟨fun z hz => ?_, insP_sorted x h2⟩
      rcases List.mem_cons.mp ((insP_perm x r).mem_iff.mp hz) with rfl | hz
      · rw [leP_iff]
        unfold lexI at hy
        split at hy
        · have := of_decide_eq_true hy; omega
        · have := of_decide_eq_true hy; omega
      · exact h1 z hz
    · rename_i hy
      have hxy : leP x y := Bool.eq_false_iff.mpr hy
      refine List.pairwise_cons.mpr ⟨fun z hz => ?_, h⟩
      rcases List.mem_cons.mp hz with rfl | hz
      · exact hxy
      · have := h1 z hz
        rw [leP_iff] at this hxy ⊢
        omega
theorem srtP_sorted : ∀ l : List (Int × Int), (srtP l).Pairwise leP
  | [] => List.Pairwise.nil
  | x :: r => insP_sorted x (srtP_sorted r)
theorem srtP_uniq {l k : List (Int × Int)} (p : l.Perm k) (hl : l.Pairwise leP) (hk : k.Pairwise leP) : l = k :=
  List.Perm.eq_of_pairwise (fun a b _ _ h1 h2 => by
    rw [leP_iff] at h1 h2
    exact Prod.ext (by omega) (by omega)) hl hk p
theorem prs_RV {H2 : Hp} : ∀ (ys : List V), (∀ x ∈ ys, ∃ t, x = V.ref t ∧ H2 t = some (.tup [.int (kP H x).1, .int (kP H x).2])) → RVs G m H2 ((ys.map (kP H)).map fun p => D.tup [.int p.1, .int p.2]) ys
  | [], _ => .nil
  | y :: r, h => by
    obtain ⟨t, rfl, ht⟩ := h y List.mem_cons_self
    exact .cons (.tup ht (.cons (.int _) (.cons (.int _) .nil))) (prs_RV r fun x hx => h x (List.mem_cons_of_mem _ hx))
theorem seq_lst {d : D} {v : V} {ls : List D} (r : RV G m H d v) (h : lstOf M d = some ls) : seqOf M d = some ls := by
  cases r <;> first | exact h | (cases h)
theorem lsim_sortS : LSim G (rSortS G.K) lSort := fun bd m H M ds es us Q rs rv e k => by
  unfold lSort at e
  split at e
  · obtain ⟨u, rfl, r⟩ := rv.one
    split at e
    · rename_i fs hfs
      split at e
      · rename_i ns hns
        cases e
        obtain ⟨a, ws, rfl, q, s⟩ := seq_of rs r hfs
        rw [intsOf_V s hns] at q
        refine .inl ⟨a, ns, rfl, q, fun ys p hp hs hn => ?_⟩
        rw [sorted_uniq (hp.trans (srtI_perm ns).symm) hs (srtI_sorted ns)]
        exact k p _ hn (RVs.of_ints _)
      · split at e
        · rename_i ls ps hls hps
          cases e
          obtain ⟨a, ws, rfl, q, s⟩ := lst_of rs r hls
          have hfl : fs = ls := Option.some.inj (hfs.symm.trans (seq_lst r hls))
          subst hfl
          obtain ⟨h1, h2⟩ := prs_V s hps
          refine .inr (.inl ⟨a, ws, kP H, rfl, q, h2, fun ys p hs hb hn => ?_⟩)
          have hp := hb.perm
          have hps : (ys.map (kP H)) = srtP ps := by
            refine srtP_uniq ?_ ?_ (srtP_sorted ps)
            · have := hp.map (kP H)
              rw [h1] at this
              exact this.trans (srtP_perm ps).symm
            · exact List.pairwise_map.mpr (hs.imp fun {x y} h => h)
          have k2 := k p ys hn
          rw [← hps] at k2
          exact k2 (prs_RV ys fun x hx => h2 x (hp.mem_iff.mp hx))
        · cases e
    · rename_i hno
      split at e
      · rename_i n
        split at e
        · rename_i kvs hM
          split at e
          · rename_i hz
            obtain ⟨ns, h1, rfl⟩ := Option.map_eq_some_iff.mp e
            have hln : ns.length = kvs.length := by
              have := congrArg List.length (keysI_map h1)
              simpa using this.symm
            cases r with
            | ref z =>
              obtain ⟨kus, hq, s⟩ := rs.ref hM z
              have s : KVs G m H kvs kus := s
              refine .inr (.inr ⟨_, kus, ns, rfl, .inl hq, by rw [← KVs.keys s]; exact keysI_map h1, by omega, fun ys p hp hs hn => ?_⟩)
              rw [sorted_uniq (hp.trans (srtI_perm ns).symm) hs (srtI_sorted ns)]
              exact k p _ hn (RVs.of_ints _)
          · cases e
        · cases e
      · cases e
  · cases e
/-- the set of the ints ks, fewer than 64 of them -/
def SetI (w : World) (a : Addr) (ks : List Int) : Heap → Prop := fun h => ∃ n, n < 64 ∧ SetR w h a (fun j => decide (j ∈ ks)) n
def rSetL1 (K : PySem.W.Frag) (w : World) : RC := fun xs H Q => ∃ (a : Addr) (ks : List Int), xs = [V.ref a] ∧ SqL K H a (ks.map V.int) ∧ ks.length < 64 ∧ ∀ p, H p = none → Q (.ref p) (upd H p (.ext (SetI w p ks)))
theorem cr_setL1 (hc : X.calm = true) : CallR X (.type "set") (rSetL1 X.K X.w) := by
  intro pins s σ H xs us Q I r h
  obtain ⟨l, ks, rfl, hl, hf, q⟩ := h
  rw [Vals.ref1 r]
  obtain ⟨its, rv, pl, hz⟩ := I.list hl
  have hn : H s.heap.objs.size = none := I.hok.fresh (Nat.le_refl _)
  refine set_of_list (P := X.prog) (w := X.w) ks (I.ok.hd hc) pl.isList (by simpa using rv.ints) (by unfold scanBound; omega) fun h' tk c R hcn k => ?_
  refine ⟨.ref s.heap.objs.size, _, I.laid (o := .ext (SetI X.w s.heap.objs.size ks)) (t' := tk) k (Nat.le_refl _) ⟨⟨c, by omega, R⟩, ?_, fun h1 h2 ⟨n, hn, R1⟩ kk => ⟨n, hn, R1.at kk⟩⟩, rfl, q _ hn⟩
  obtain ⟨o, _, _, _, ho, _⟩ := R
  exact ⟨o, ho⟩
def rSortL1 (w : World) : RC := fun xs H Q => ∃ (a : Addr) (ks : List Int), xs = [V.ref a] ∧ H a = some (.ext (SetI w a ks)) ∧
  ∀ (ys : List Int) (p : Addr), ys.Pairwise (· < ·) → (∀ j, j ∈ ys ↔ j ∈ ks) → H p = none → Q (.ref p) (upd H p (.lst (ys.map V.int)))
theorem cr_sortL1 (hc : X.calm = true) : CallR X (.builtin "sorted") (rSortL1 X.w) := by
  intro pins s σ H vs us Q I r h
  obtain ⟨a, ks, rfl, ha, q⟩ := h
  obtain ⟨n, h64, R⟩ : SetI X.w a ks s.heap := (I.hok a _ ha).1
  rw [Vals.ref1 r]
  refine sorted_set (P := X.prog) R (I.ok.hd hc) h64 fun s' p out c ns k g o hp hg hI pw hm hln => ?_
  have hn : H p = none := I.hok.fresh hp
  have hlen : (ns.map V.int).length ≤ sizeLine := by rw [List.length_map, sizeLine_eq]; omega
  have J : Inv X pins σ (upd H p (.lst (ns.map V.int))) { s with heap := s'.heap, gens := s'.gens, drawn := s'.drawn, toks := s'.toks } :=
    I.call (ch := []) (Un.laid k hp hn) (I.hok.laid k hp ⟨hlen, out.toList, c, vals_of_ints hI, hg⟩) (by rw [g]; exact I.bare) (fun _ z => nomatch z)
  have e : s' = { s with heap := s'.heap, gens := s'.gens, drawn := s'.drawn, toks := s'.toks } := by
    obtain ⟨_, _, _, _, _⟩ := s'; obtain ⟨_, _, _, _, _⟩ := s; cases o; rfl
  rw [e]
  exact ⟨.ref p, _, J, rfl, q ns p pw (fun j => by rw [hm j]; simp) hn⟩
theorem ddup_mem (y : Int) : ∀ l : List Int, y ∈ ddup l ↔ y ∈ l
  | [] => Iff.rfl
  | x :: r => by
    have ih := ddup_mem y r
    simp only [ddup, List.mem_cons, List.mem_filter, ih, Bool.not_eq_true', decide_eq_false_iff_not]
    by_cases h : y = x
    · simp [h]
    · simp [h]
theorem ddup_nodup : ∀ l : List Int, (ddup l).Nodup
  | [] => List.nodup_nil
  | x :: r => by
    unfold ddup
    refine List.nodup_cons.mpr ⟨fun h => ?_, (ddup_nodup r).sublist List.filter_sublist⟩
    have := (List.mem_filter.mp h).2
    simp at this
theorem srt_ddup {ys ks : List Int} (h : ys.Pairwise (· < ·)) (hm : ∀ j, j ∈ ys ↔ j ∈ ks) : ys = srtI (ddup ks) := by
  have n1 : ys.Nodup := h.imp fun h => Int.ne_of_lt h
  have p : ys.Perm (ddup ks) := (List.perm_ext_iff_of_nodup n1 (ddup_nodup ks)).mpr fun j => by rw [hm j, ddup_mem]
  exact sorted_uniq (p.trans (srtI_perm _).symm) (h.imp fun h => Int.le_of_lt h) (srtI_sorted _)
theorem se_sortSet {p1 p2 p3 : Pos} (c : Ct G X k) (hm : X.mg "sorted" = none) (hm2 : X.mg "set" = none) (ha : SE G X W a f) (hg : Gl X "sorted" := by rfl) (hg2 : Gl X "set" := by rfl) (h1 : starEach [a] X.env = (false, eval a X.env) :: starEach [] X.env := by rfl) :
    SE G X W (.Call (.Name "sorted" p1) [.Call (.Name "set" p2) [a] [] p3] [] pos) (eSortSet f) := fun bd =>
  PE.imp (pe_callB (cr_sortL1 c.hc) hg hm PyProof.Rows.boot_sorted (pa_cons (pe_callTy (cr_setL1 c.hc) hg2 hm2 PyProof.Rows.boot_set (pa_cons (ha bd) pa_nil h1) (by decide) (by decide) h1 rfl) pa_nil rfl) (by decide) (by decide) rfl rfl) fun σ H Q ⟨P, m, e, M, re, rs, h⟩ =>
    (step (Ext.refl m H) re rs h).mono fun v H1 ⟨m1, d, M1, x1, x01, re1, rs1, r1, h2⟩ => by
      cases q : lSortSet M1 d with
      | none => rw [q] at h2; exact h2.elim
      | some es =>
        rw [q] at h2
        unfold lSortSet at q
        split at q
        · rename_i ns hns
          split at q
          · rename_i h64
            cases q
            obtain ⟨ls, e1, e2⟩ := Option.bind_eq_some_iff.mp hns
            obtain ⟨aa, ws, rfl, sq, s⟩ := lst_of rs1 r1 e1
            rw [intsOf_V s e2] at sq
            refine ⟨aa, ns, rfl, by rw [c.hK]; exact sq, h64, fun p hp => ⟨p, ns, rfl, upd_same, fun ys p2 hw hm hn => ?_⟩⟩
            have s2 := rs1.fresh (o := .ext (SetI X.w p ns)) hp
            rw [srt_ddup hw hm]
            exact h2 m1 _ _ ((x01.trans (Ext.fresh hp)).trans (Ext.fresh hn)) (s2.fresh hn) (rv_lst s2 hn (RVs.of_ints _))
          · cases q
        · cases q
end
end Sh
set_option Elab.async false
set_option linter.all false
set_option maxRecDepth 100000
set_option maxHeartbeats 0
namespace Q
open PySem PySem.Spec PyProof.Rows L2 Sh
def k_KINDS : D := .cst [(.str "first"), (.str "second"), (.str "product"), (.str "rows")]
def mt_CanNot (x : Str) : Option Bool := if x = "Unfit" then some false else if x = "CanNot" then some true else none
def mt_Unfit (x : Str) : Option Bool := if x = "CanNot" then some false else if x = "Unfit" then some true else none
def is_ValueError (x : Str) : Option Bool := if x = "CanNot" then some true else if x = "Unfit" then some true else none
def B__law_odd : SF :=
  (sSeq (sSet 1 (eC (.int 0)))
  (sSeq (sFor (iRg1 (aCons (eC (.int 900)) aNil)) (gNm 2)
  (sSeq (sIf (bV (eOp oEq (eV 0) (eC (.int 0))))
  sBk
  sNil)
  (sSet2 1 0 (aCons (eOp oCat (eV 1) (eOp oMod (eCB cInt (aCons (eV 0) aNil)) (eC (.int 2)))) (aCons (eOp oDiv (eV 0) (eC (.int 2))) aNil)))))
  (sRet (eOp oMod (eCB cInt (aCons (eV 1) aNil)) (eC (.int 2))))))
def F__law_odd : Fn := fnPop 1 3 B__law_odd
def B__law_bit : SF :=
  (sRet (eOp oXor (eCall F__law_odd (aCons (eOp oAnd (eOp oIx (eV 0) (eC (.int 1))) (eV 1)) aNil)) (eCB cInt (aCons (eOp oIn (eV 1) (eOp oIx (eV 0) (eC (.int 2)))) aNil))))
def F__law_bit : Fn := fnPop 2 2 B__law_bit
def B__law_box : SF :=
  (sSeq (sSet 2 (eIf (bV (eOp oLtS (eV 1) (eCB cLen (aCons (eV 0) aNil)))) (eOp oIx (eV 0) (eV 1)) (eC (.int 0))))
  (sRet (eLstM (aCons (eOp oMul (eCB cAbs (aCons (eV 2) aNil)) (eCB cInt (aCons (eOp oGe (eCB cAbs (aCons (eV 2) aNil)) (eOp oPow (eC (.int 10)) (eC (.int 18)))) aNil))) (aCons (eOp oCat (eOp oCat (eOp oMod (eCB cInt (aCons (eV 2) aNil)) (eC (.int 2305843009213693951))) (eOp oMul (eC (.int 39373)) (eV 1))) (eC (.int 8900000))) (aCons (eC (.int 0)) aNil))))))
def F__law_box : Fn := fnKeep 2 3 B__law_box
def B__law_cells : SF :=
  (sSeq (sSet 2 (eOr (eCM lSeq (aCons (eSl (eV 0) oNo (oYes (eV 1))) aNil)) (eLstM (aCons (eC (.int 0)) aNil))))
  (sSeq (sFor (iEnu (aCons (eSl (eV 0) (oYes (eV 1)) (oYes (eC (.int 63)))) aNil)) (gTp 2 (gsCons (gNm 3) (gsCons (gNm 4) gsNil)))
  (sSeq (sSet 5 (eOp oMod (eCB cInt (aCons (eV 3) aNil)) (eV 1)))
  (sAsg (eOp oCat (eOp oIx (eV 2) (eV 5)) (eOp oMul (eV 4) (eOp oCat (eV 3) (eC (.int 2))))) (gSb (eV 2) (eV 5)))))
  (sRet (eV 2))))
def F__law_cells : Fn := fnPop 2 6 B__law_cells
def B_is_number : SF :=
  (sRet (eAnd (eIsi [.int] (eV 0)) (eNot (eIsi [.bool] (eV 0)))))
def F_is_number : Fn := fnPop 1 1 B_is_number
def B_is_from : SF :=
  (sRet (eAnd (eCall F_is_number (aCons (eV 0) aNil)) (eOp oGe (eV 0) (eV 1))))
def F_is_from : Fn := fnPop 2 2 B_is_from
def B_sure_place_of : SF :=
  (sSeq (sIf (bOr (bNot (bT (eCall F_is_from (aCons (eV 1) (aCons (eC (.int 0)) aNil))))) (bV (eOp oGe (eV 1) (eOp oShl (eC (.int 1)) (eOp oIx (eV 0) (eC (.int 0)))))))
  (sRaise "Unfit")
  sNil)
  (sRet (eV 1)))
def F_sure_place_of : Fn := fnPop 2 2 B_sure_place_of
def B_ascends : SF :=
  (sRet (eCB cAll (aCons (eLc (iRg1 (aCons (eOp oSub (eCB cLen (aCons (eV 0) aNil)) (eC (.int 1))) aNil)) [1] (gNm 1) bYes (eOp oLtS (eOp oIx (eV 0) (eV 1)) (eOp oIx (eV 0) (eOp oCat (eV 1) (eC (.int 1)))))) aNil)))
def F_ascends : Fn := fnPop 1 2 B_ascends
def B_is_long : SF :=
  (sRet (eAnd (eIsi [.tup] (eV 0)) (eOp oEq (eCB cLen (aCons (eV 0) aNil)) (eV 1))))
def F_is_long : Fn := fnPop 2 2 B_is_long
def B_is_within : SF :=
  (sRet (eAnd (eCall F_is_number (aCons (eV 0) aNil)) (eChain oLe oLe (eV 1) (eV 0) (eV 2))))
def F_is_within : Fn := fnPop 3 3 B_is_within
def B_is_told : SF :=
  (sSeq (sIf (bOr (bNot (bT (eCall F_is_long (aCons (eV 0) (aCons (eC (.int 3)) aNil))))) (bOr (bNot (bT (eCall F_is_within (aCons (eOp oIx (eV 0) (eC (.int 0))) (aCons (eC (.int 0)) (aCons (eC (.int 820)) aNil)))))) (bNot (bT (eIsi [.tup] (eOp oIx (eV 0) (eC (.int 2))))))))
  (sRet (eC (.bl false)))
  sNil)
  (sSeq (sAsg (eV 0) (gTp 3 (gsCons (gNm 1) (gsCons (gNm 2) (gsCons (gNm 3) gsNil)))))
  (sSeq (sIf (bOr (bNot (bT (eCall F_is_from (aCons (eV 2) (aCons (eC (.int 0)) aNil))))) (bOr (bV (eOp oGe (eV 2) (eOp oShl (eC (.int 1)) (eV 1)))) (bV (eOp oGt (eCB cLen (aCons (eV 3) aNil)) (eC (.int 24))))))
  (sRet (eC (.bl false)))
  sNil)
  (sRet (eAnd (eCB cAll (aCons (eLc (iSq (eV 3)) [4] (gNm 4) bYes (eAnd (eCall F_is_from (aCons (eV 4) (aCons (eC (.int 0)) aNil))) (eOp oLtS (eV 4) (eOp oShl (eC (.int 1)) (eV 1))))) aNil)) (eCall F_ascends (aCons (eV 3) aNil)))))))
def F_is_told : Fn := fnPop 1 5 B_is_told
def B_tupled (self : Fn) : SF :=
  (sRet (eIf (bT (eIsi [.lst, .tup] (eV 0))) (eCB cTup (aCons (eLc (iSq (eV 0)) [1] (gNm 1) bYes (eCall self (aCons (eV 1) aNil))) aNil)) (eV 0)))
def F_tupled : Nat → Fn
  | 0 => fnNo
  | n + 1 => fnPop 1 2 (B_tupled (F_tupled n))
def B_sure_told_table : SF :=
  (sSeq (sSet 1 (eCall (F_tupled 9) (aCons (eV 0) aNil)))
  (sSeq (sIf (bNot (bT (eCall F_is_told (aCons (eV 1) aNil))))
  (sRaise "Unfit")
  sNil)
  (sRet (eV 1))))
def F_sure_told_table : Fn := fnPop 1 2 B_sure_told_table
def B_changed : SF :=
  (sSeq (sSet 2 (eCall F_sure_told_table (aCons (eV 0) aNil)))
  (sSeq (sSet 3 (eCall F_sure_place_of (aCons (eV 2) (aCons (eV 1) aNil))))
  (sSeq (sSet 4 (eCB cTup (aCons (eLc (iSq (eOp oIx (eV 2) (eC (.int 2)))) [5] (gNm 5) (bV (eOp oNe (eV 5) (eV 3))) (eV 5)) aNil)))
  (sSeq (sIf (bV (eOp oEq (eCB cLen (aCons (eV 4) aNil)) (eCB cLen (aCons (eOp oIx (eV 2) (eC (.int 2))) aNil))))
  (sSeq (sIf (bV (eOp oEq (eCB cLen (aCons (eV 4) aNil)) (eC (.int 24))))
  (sRaise "CanNot")
  sNil)
  (sSet 4 (eCB cTup (aCons (eCL lSort (aCons (eOp oCat (eV 4) (eTup (aCons (eV 3) aNil))) aNil)) aNil))))
  sNil)
  (sRet (eTup (aCons (eOp oIx (eV 2) (eC (.int 0))) (aCons (eOp oIx (eV 2) (eC (.int 1))) (aCons (eV 4) aNil)))))))))
def F_changed : Fn := fnPop 2 6 B_changed
def B__law_heard : SF :=
  (sSeq (sAsg (eTup (aCons (eC .non) (aCons (eC .non) aNil))) (gTp 2 (gsCons (gNm 3) (gsCons (gNm 4) gsNil))))
  (sSeq (sTryI (sSet 3 (eCall F_changed (aCons (eV 0) (aCons (eV 1) aNil)))) mt_CanNot is_ValueError 2 4 "cannot")
  (sRet (eIf (bV (eOp oIsN (eV 4) (eC .non))) (eV 3) (eV 4)))))
def F__law_heard : Fn := fnPop 2 5 B__law_heard
def B__law_lined : SF :=
  (sSeq (sAsg (eV 0) (gTp 3 (gsCons (gNm 2) (gsCons (gNm 3) (gsCons (gNm 4) gsNil)))))
  (sSeq (sSet 1 (eCB cSum (aCons (eLc (iSq (eV 4)) [5] (gNm 5) bYes (eCB cLen (aCons (eLc (iSq (eV 4)) [6] (gNm 6) (bV (eOp oIn (eOp oXor (eV 5) (eV 6)) (eV 4))) (eC (.int 1))) aNil))) aNil)))
  (sRet (eOp oCat (eOp oSub (eOp oMul (eOp oMul (eC (.int 3)) (eCB cLen (aCons (eV 4) aNil))) (eOp oShl (eC (.int 1)) (eV 2))) (eOp oMul (eOp oMul (eC (.int 6)) (eCB cLen (aCons (eV 4) aNil))) (eCB cLen (aCons (eV 4) aNil)))) (eOp oMul (eC (.int 4)) (eV 1))))))
def F__law_lined : Fn := fnPop 1 7 B__law_lined
def B__law_take : SF :=
  (sSeq (sIf (bV (eOp oGt (eOp oIx (eV 0) (eC (.int 0))) (eC (.int 0))))
  (sSeq (sSet 5 (eOp oMod (eCB cInt (aCons (eOp oIx (eV 0) (eC (.int 0))) aNil)) (eV 1)))
  (sSeq (sAsg (eOp oDiv (eOp oIx (eV 0) (eC (.int 0))) (eV 1)) (gSb (eV 0) (eC (.int 0))))
  (sRet (eV 5))))
  sNil)
  (sSeq (sAsg (eOp oCat (eOp oIx (eV 0) (eC (.int 2))) (eC (.int 1))) (gSb (eV 0) (eC (.int 2))))
  (sSeq (sSet 2 (eOp oMod (eCB cInt (aCons (eOp oMul (eOp oCat (eOp oIx (eV 0) (eC (.int 1))) (eOp oMul (eC (.int 48271)) (eOp oIx (eV 0) (eC (.int 2))))) (eOp oCat (eC (.int 39373)) (eOp oIx (eV 0) (eC (.int 2))))) aNil)) (eC (.int 2147483647))))
  (sSeq (sSet 3 (eOp oCat (eOp oMod (eCB cInt (aCons (eV 2) aNil)) (eC (.int 40009))) (eC (.int 7))))
  (sSeq (sSet 4 (eOp oMod (eCB cInt (aCons (eOp oMul (eOp oCat (eOp oCat (eV 2) (eOp oIx (eV 0) (eC (.int 2)))) (eOp oDiv (eOp oIx (eV 0) (eC (.int 1))) (eC (.int 1000003)))) (eV 3)) aNil)) (eC (.int 2147483629))))
  (sRet (eOp oMod (eCB cInt (aCons (eOp oDiv (eOp oMod (eCB cInt (aCons (eOp oCat (eOp oMul (eV 4) (eC (.int 48271))) (eV 2)) aNil)) (eC (.int 2147483587))) (eC (.int 64))) aNil)) (eV 1))))))))
def F__law_take : Fn := fnPop 2 6 B__law_take
def B__law_mixed (self : Fn) : SF :=
  (sSeq (sIf (bNot (bT (eIsi [.lst, .tup] (eV 1))))
  (sRet (eV 1))
  sNil)
  (sSeq (sSet 2 (eLc (iSq (eV 1)) [3] (gNm 3) bYes (eCall self (aCons (eV 0) (aCons (eV 3) aNil)))))
  (sRet (eIf (bV (eOp oEq (eCall F__law_take (aCons (eV 0) (aCons (eC (.int 2)) aNil))) (eC (.int 0)))) (eV 2) (eCB cTup (aCons (eV 2) aNil))))))
def F__law_mixed : Nat → Fn
  | 0 => fnNo
  | n + 1 => fnPop 2 4 (B__law_mixed (F__law_mixed n))
def B__law_of : SF :=
  (sRet (eOp oIx (eV 1) (eCall F__law_take (aCons (eV 0) (aCons (eCB cLen (aCons (eV 1) aNil)) aNil)))))
def F__law_of : Fn := fnPop 2 2 B__law_of
def B__law_ones : SF :=
  (sSeq (sAsg (eV 0) (gTp 3 (gsCons (gNm 2) (gsCons (gNm 3) (gsCons (gNm 4) gsNil)))))
  (sSeq (sSet 1 (eIf (bV (eOp oGt (eV 3) (eC (.int 0)))) (eOp oDiv (eOp oShl (eC (.int 1)) (eV 2)) (eC (.int 2))) (eC (.int 0))))
  (sRet (eOp oCat (eV 1) (eCB cSum (aCons (eLc (iSq (eV 4)) [5] (gNm 5) bYes (eOp oSub (eC (.int 1)) (eOp oMul (eC (.int 2)) (eCall F__law_odd (aCons (eOp oAnd (eV 3) (eV 5)) aNil))))) aNil))))))
def F__law_ones : Fn := fnPop 1 6 B__law_ones
def B__law_pick : SF :=
  (sSeq (sSet2 4 5 (aCons (eCM lSeq (aCons (eV 1) aNil)) (aCons (eLstM aNil) aNil)))
  (sSeq (sFor (iRg1 (aCons (eCB cMin2 (aCons (eCB cInt (aCons (eV 2) aNil)) (aCons (eCB cLen (aCons (eV 4) aNil)) aNil))) aNil)) (gNm 3)
  (sDrop (eMt mAppend (eV 5) (aCons (eMt mPopAt (eV 4) (aCons (eCall F__law_take (aCons (eV 0) (aCons (eCB cLen (aCons (eV 4) aNil)) aNil))) aNil)) aNil))))
  (sRet (eV 5))))
def F__law_pick : Fn := fnPop 3 6 B__law_pick
def B__law_same (self : Fn) : SF :=
  (sSeq (sIf (bT (eIsi [.lst, .tup] (eV 1)))
  (sSeq (sIf (bOr (bV (eOp oNe (eIsi [.lst] (eV 0)) (eIsi [.lst] (eV 1)))) (bV (eOp oNe (eIsi [.tup] (eV 0)) (eIsi [.tup] (eV 1)))))
  (sRet (eC (.bl false)))
  sNil)
  (sRet (eAnd (eOp oEq (eCB cLen (aCons (eV 0) aNil)) (eCB cLen (aCons (eV 1) aNil))) (eCB cAll (aCons (eLc (iZz (aCons (eV 0) (aCons (eV 1) aNil))) [2, 3] (gTp 2 (gsCons (gNm 2) (gsCons (gNm 3) gsNil))) bYes (eCall self (aCons (eV 2) (aCons (eV 3) aNil)))) aNil)))))
  sNil)
  (sSeq (sIf (bV (eOp oIsN (eV 1) (eC .non)))
  (sRet (eOp oIsN (eV 0) (eC .non)))
  sNil)
  (sSeq (sIf (bT (eIsi [.bool, .str] (eV 1)))
  (sRet (eAnd (eOp oEq (eIsi [.bool] (eV 0)) (eIsi [.bool] (eV 1))) (eAnd (eOp oEq (eIsi [.str] (eV 0)) (eIsi [.str] (eV 1))) (eOp oEq (eV 0) (eV 1)))))
  sNil)
  (sRet (eAnd (eIsi [.int] (eV 0)) (eAnd (eNot (eIsi [.bool] (eV 0))) (eOp oEq (eV 0) (eV 1))))))))
def F__law_same : Nat → Fn
  | 0 => fnNo
  | n + 1 => fnPop 2 4 (B__law_same (F__law_same n))
def B__law_gcd : SF :=
  (sSeq (sSet2 0 1 (aCons (eCB cAbs (aCons (eV 0) aNil)) (aCons (eCB cAbs (aCons (eV 1) aNil)) aNil)))
  (sSeq (sFor (iRg1 (aCons (eC (.int 9000)) aNil)) (gNm 2)
  (sSeq (sIf (bV (eOp oEq (eV 1) (eC (.int 0))))
  sBk
  sNil)
  (sSet2 0 1 (aCons (eV 1) (aCons (eOp oMod (eCB cInt (aCons (eV 0) aNil)) (eV 1)) aNil)))))
  (sRet (eV 0))))
def F__law_gcd : Fn := fnPop 2 3 B__law_gcd
def B__law_share : SF :=
  (sSeq (sSet 2 (eCall F__law_gcd (aCons (eV 0) (aCons (eV 1) aNil))))
  (sRet (eTup (aCons (eOp oDiv (eV 0) (eV 2)) (aCons (eOp oDiv (eV 1) (eV 2)) aNil)))))
def F__law_share : Fn := fnPop 2 3 B__law_share
def B__law_pairs : SF :=
  (sSeq (sSet 1 (eLstM aNil))
  (sSeq (sFor (iRg1 (aCons (eV 0) aNil)) (gNm 2)
  (sDrop (eMt mExtend (eV 1) (aCons (eLc (iRg2 (aCons (eV 2) (aCons (eV 0) aNil))) [3] (gNm 3) bYes (eTup (aCons (eV 2) (aCons (eV 3) aNil)))) aNil))))
  (sRet (eV 1))))
def F__law_pairs : Fn := fnPop 1 4 B__law_pairs
def B__law_some_equations : SF :=
  (sSeq (sSet 3 (eCall F__law_pairs (aCons (eV 1) aNil)))
  (sSeq (sSet 4 (eLstM aNil))
  (sSeq (sFor (iRg1 (aCons (eCall F__law_take (aCons (eV 0) (aCons (eOp oCat (eV 2) (eC (.int 1))) aNil))) aNil)) (gNm 5)
  (sDrop (eMt mAppend (eV 4) (aCons (eTup (aCons (eCB cTup (aCons (eCL lSort (aCons (eCall F__law_pick (aCons (eV 0) (aCons (eV 3) (aCons (eCall F__law_take (aCons (eV 0) (aCons (eC (.int 4)) aNil))) aNil)))) aNil)) aNil)) (aCons (eCall F__law_take (aCons (eV 0) (aCons (eC (.int 2)) aNil))) aNil))) aNil))))
  (sRet (eTup (aCons (eV 1) (aCons (eCB cTup (aCons (eV 4) aNil)) aNil)))))))
def F__law_some_equations : Fn := fnPop 3 6 B__law_some_equations
def B__law_some_told : SF :=
  (sSeq (sSet 3 (eLstM aNil))
  (sSeq (sFor (iRg1 (aCons (eCall F__law_take (aCons (eV 0) (aCons (eOp oCat (eV 2) (eC (.int 1))) aNil))) aNil)) (gNm 4)
  (sDrop (eMt mAppend (eV 3) (aCons (eCall F__law_of (aCons (eV 0) (aCons (eLst (aCons (eC (.int 0)) (aCons (eOp oSub (eOp oShl (eC (.int 1)) (eV 1)) (eC (.int 1))) (aCons (eCall F__law_take (aCons (eV 0) (aCons (eOp oShl (eC (.int 1)) (eV 1)) aNil))) (aCons (eCall F__law_take (aCons (eV 0) (aCons (eOp oShl (eC (.int 1)) (eCB cMin2 (aCons (eV 1) (aCons (eC (.int 4)) aNil)))) aNil))) aNil))))) aNil))) aNil))))
  (sRet (eTup (aCons (eV 1) (aCons (eCall F__law_take (aCons (eV 0) (aCons (eOp oShl (eC (.int 1)) (eV 1)) aNil))) (aCons (eCB cTup (aCons (eSortSet (eV 3)) aNil)) aNil)))))))
def F__law_some_told : Fn := fnPop 3 5 B__law_some_told
def B__law_wide : SF :=
  (sSeq (sSet 2 (eC (.int 0)))
  (sSeq (sFor (iRg1 (aCons (eOp oCat (eOp oDiv (eV 1) (eC (.int 20))) (eC (.int 1))) aNil)) (gNm 3)
  (sSet 2 (eOp oCat (eOp oMul (eV 2) (eC (.int 1048576))) (eCall F__law_take (aCons (eV 0) (aCons (eC (.int 1048576)) aNil))))))
  (sRet (eOp oAnd (eV 2) (eOp oSub (eOp oShl (eC (.int 1)) (eV 1)) (eC (.int 1)))))))
def F__law_wide : Fn := fnPop 2 4 B__law_wide
def B_odd : SF :=
  (sSeq (sSet 1 (eV 0))
  (sSeq (sFor (iSq (eTup (aCons (eC (.int 512)) (aCons (eC (.int 256)) (aCons (eC (.int 128)) (aCons (eC (.int 64)) (aCons (eC (.int 32)) (aCons (eC (.int 16)) (aCons (eC (.int 8)) (aCons (eC (.int 4)) (aCons (eC (.int 2)) (aCons (eC (.int 1)) aNil)))))))))))) (gNm 2)
  (sAug 1 oXor (eOp oShr (eV 1) (eV 2))))
  (sRet (eOp oAnd (eV 1) (eC (.int 1))))))
def F_odd : Fn := fnPop 1 3 B_odd
def B_bit_in : SF :=
  (sRet (eOp oXor (eCall F_odd (aCons (eOp oAnd (eOp oIx (eV 0) (eC (.int 1))) (eV 1)) aNil)) (eCB cInt (aCons (eOp oIn (eV 1) (eOp oIx (eV 0) (eC (.int 2)))) aNil))))
def F_bit_in : Fn := fnPop 2 2 B_bit_in
def B_bit_at : SF :=
  (sSeq (sSet 2 (eCall F_sure_told_table (aCons (eV 0) aNil)))
  (sRet (eCall F_bit_in (aCons (eV 2) (aCons (eCall F_sure_place_of (aCons (eV 2) (aCons (eV 1) aNil))) aNil)))))
def F_bit_at : Fn := fnPop 2 3 B_bit_at
def B_corrected : SF :=
  (sSeq (sSet 3 (eCall F_sure_told_table (aCons (eV 0) aNil)))
  (sSeq (sSet2 4 5 (aCons (eCall F_sure_place_of (aCons (eV 3) (aCons (eV 1) aNil))) (aCons (eCall F_sure_place_of (aCons (eV 3) (aCons (eV 2) aNil))) aNil)))
  (sRet (eOp oXor (eCall F_bit_in (aCons (eV 3) (aCons (eOp oXor (eV 4) (eV 5)) aNil))) (eCall F_bit_in (aCons (eV 3) (aCons (eV 5) aNil)))))))
def F_corrected : Fn := fnPop 3 6 B_corrected
def B_product_in : SF :=
  (sSeq (sAsg (eTup (aCons (eC (.int 0)) (aCons (eC (.int 0)) aNil))) (gTp 2 (gsCons (gNm 4) (gsCons (gNm 5) gsNil))))
  (sSeq (sFor (iRg1 (aCons (eV 0) aNil)) (gNm 3)
  (sSeq (sSet 6 (eOp oSub (eV 0) (eV 3)))
  (sSeq (sSet2 8 9 (aCons (eOp oShr (eV 1) (eV 3)) (aCons (eOp oShr (eV 2) (eV 3)) aNil)))
  (sSeq (sSet 7 (eOp oXor (eIf (bT (eOp oAnd (eV 8) (eC (.int 1)))) (eV 9) (eC (.int 0))) (eIf (bT (eOp oAnd (eV 9) (eC (.int 1)))) (eOp oXor (eV 8) (eOp oAnd (eV 8) (eC (.int 1)))) (eC (.int 0)))))
  (sSeq (sAug 4 oXor (eOp oShl (eV 7) (eV 5)))
  (sAug 5 oAdd (eV 6)))))))
  (sRet (eV 4))))
def F_product_in : Fn := fnPop 3 10 B_product_in
def B_ProductCount_differs : SF :=
  (sSeq (sSet 3 (eOp oAnd (eCall F_bit_in (aCons (eFld 1 4 (eV 0)) (aCons (eV 1) aNil))) (eCall F_bit_in (aCons (eFld 1 4 (eV 0)) (aCons (eV 2) aNil)))))
  (sRet (eOp oXor (eV 3) (eCall F_odd (aCons (eOp oAnd (eOp oIx (eFld 1 5 (eV 0)) (eC (.int 1))) (eCall F_product_in (aCons (eFld 1 3 (eV 0)) (aCons (eV 1) (aCons (eV 2) aNil))))) aNil)))))
def F_ProductCount_differs : Fn := fnPop 3 4 B_ProductCount_differs
def B_pair_number : SF :=
  (sRet (eOp oSub (eOp oCat (eOp oSub (eOp oMul (eV 1) (eV 0)) (eOp oDiv (eOp oMul (eV 1) (eOp oSub (eV 1) (eC (.int 1)))) (eC (.int 2)))) (eV 2)) (eV 1)))
def F_pair_number : Fn := fnPop 3 3 B_pair_number
def B_rows_by_pairs : SF :=
  (sSeq (sSet 2 (eRepM (eLst (aCons (eC (.int 0)) aNil)) (eV 0)))
  (sSeq (sFor (iRg1 (aCons (eV 0) aNil)) (gNm 3)
  (sFor (iRg2 (aCons (eOp oCat (eV 3) (eC (.int 1))) (aCons (eV 0) aNil))) (gNm 4)
  (sIf (bV (eOp oEq (eOp oAnd (eOp oShr (eV 1) (eCall F_pair_number (aCons (eV 0) (aCons (eV 3) (aCons (eV 4) aNil))))) (eC (.int 1))) (eC (.int 1))))
  (sSeq (sAugL (eV 2) (eV 3) oOr (eOp oShl (eC (.int 1)) (eV 4)))
  (sAugL (eV 2) (eV 4) oOr (eOp oShl (eC (.int 1)) (eV 3))))
  sNil)))
  (sRet (eV 2))))
def F_rows_by_pairs : Fn := fnPop 2 5 B_rows_by_pairs
def B_factors_in : SF :=
  (sSeq (sSet 2 (eLc (iSq (eCall F_rows_by_pairs (aCons (eV 0) (aCons (eV 1) aNil)))) [11] (gNm 11) (bV (eOp oNe (eV 11) (eC (.int 0)))) (eV 11)))
  (sSeq (sIf (bV (eOp oEq (eV 2) (eLst aNil)))
  (sSeq (sSet 8 (eC (.int 0)))
  (sSeq (sFor (iRg1 (aCons (eV 0) aNil)) (gNm 9)
  (sAug 8 oOr (eOp oShl (eOp oAnd (eOp oShr (eV 1) (eCall F_pair_number (aCons (eV 0) (aCons (eV 9) (aCons (eV 9) aNil))))) (eC (.int 1))) (eV 9))))
  (sRet (eIf (bV (eOp oNe (eV 8) (eC (.int 0)))) (eLst (aCons (eTup (aCons (eV 8) (aCons (eV 8) aNil))) aNil)) (eLst aNil)))))
  sNil)
  (sSeq (sSet 3 (eOp oIx (eV 2) (eC (.int 0))))
  (sSeq (sSet 4 (eLc (iSq (eV 2)) [11] (gNm 11) (bV (eOp oNe (eV 11) (eV 3))) (eV 11)))
  (sSeq (sSet 5 (eLst (aCons (eV 3) (aCons (eOp oIx (eV 4) (eC (.int 0))) (aCons (eOp oXor (eV 3) (eOp oIx (eV 4) (eC (.int 0)))) aNil)))))
  (sSeq (sSet 6 (eLstM aNil))
  (sSeq (sFor (iSq (eV 5)) (gNm 7)
  (sFor (iSq (eV 5)) (gNm 10)
  (sIf (bAnd (bV (eOp oNe (eV 7) (eV 10))) (bV (eOp oEq (eCall F_product_in (aCons (eV 0) (aCons (eV 7) (aCons (eV 10) aNil)))) (eV 1))))
  (sDrop (eMt mAppend (eV 6) (aCons (eTup (aCons (eV 7) (aCons (eV 10) aNil))) aNil)))
  sNil)))
  (sRet (eV 6)))))))))
def F_factors_in : Fn := fnPop 2 12 B_factors_in
def B_ProductCount_far_pairs : SF :=
  (sSeq (sSet 1 (eLstM aNil))
  (sSeq (sFor (iSq (eCL lSort (aCons (eFld 1 2 (eV 0)) aNil))) (gNm 2)
  (sIf (bV (eOp oNe (eV 2) (eC (.int 0))))
  (sDrop (eMt mExtend (eV 1) (aCons (eCall F_factors_in (aCons (eFld 1 3 (eV 0)) (aCons (eV 2) aNil))) aNil)))
  sNil))
  (sRet (eV 1))))
def F_ProductCount_far_pairs : Fn := fnPop 1 3 B_ProductCount_far_pairs
def B_ProductCount_ones_with : SF :=
  (sSeq (sSet 3 (eIf (bV (eOp oNe (eV 1) (eC (.int 0)))) (eOp oShl (eC (.int 1)) (eOp oSub (eFld 1 3 (eV 0)) (eC (.int 1)))) (eC (.int 0))))
  (sSeq (sIf (bV (eOp oEq (eV 2) (eC (.int 0))))
  (sRet (eV 3))
  sNil)
  (sRet (eOp oCat (eV 3) (eCB cSum (aCons (eLc (iSq (eOp oIx (eFld 1 4 (eV 0)) (eC (.int 2)))) [4] (gNm 4) bYes (eOp oSub (eC (.int 1)) (eOp oMul (eC (.int 2)) (eCall F_odd (aCons (eOp oAnd (eV 1) (eV 4)) aNil))))) aNil))))))
def F_ProductCount_ones_with : Fn := fnPop 3 5 B_ProductCount_ones_with
def B_Ladder_init : SF :=
  (sAsg (eTup (aCons eDK (aCons (eLstM aNil) (aCons (eC (.int 0)) aNil)))) (gTp 3 (gsCons (gFd 0 1 (eV 0)) (gsCons (gFd 0 2 (eV 0)) (gsCons (gFd 0 0 (eV 0)) gsNil)))))
def F_Ladder_init : Fn := fnKeep 1 1 B_Ladder_init
def B_Ladder_lowered : SF :=
  (sSeq (sWhile (bAnd (bV (eOp oGt (eV 1) (eC (.int 0)))) (bV (eOp oIn (eUn oBits (eV 1)) (eFld 0 1 (eV 0)))))
  (sSeq (sAsg (eOp oIx (eFld 0 1 (eV 0)) (eUn oBits (eV 1))) (gTp 2 (gsCons (gNm 3) (gsCons (gNm 4) gsNil))))
  (sSet2 1 2 (aCons (eOp oXor (eV 1) (eV 3)) (aCons (eOp oXor (eV 2) (eV 4)) aNil)))))
  (sRet (eTup (aCons (eV 1) (aCons (eV 2) aNil)))))
def F_Ladder_lowered : Fn := fnPop 3 5 B_Ladder_lowered
def B_Ladder_put : SF :=
  (sSeq (sAsg (eMeth 0 F_Ladder_lowered (eV 0) (aCons (eV 1) (aCons (eOp oShl (eC (.int 1)) (eFld 0 0 (eV 0))) aNil))) (gTp 2 (gsCons (gNm 2) (gsCons (gNm 3) gsNil))))
  (sSeq (sAugF 0 0 (eV 0) oAdd (eC (.int 1)))
  (sIf (bV (eOp oGt (eV 2) (eC (.int 0))))
  (sAsg (eTup (aCons (eV 2) (aCons (eV 3) aNil))) (gSb (eFld 0 1 (eV 0)) (eUn oBits (eV 2))))
  (sDrop (eMt mAppend (eFld 0 2 (eV 0)) (aCons (eV 3) aNil))))))
def F_Ladder_put : Fn := fnPop 2 4 B_Ladder_put
def B_ladder_of : SF :=
  (sSeq (sSet 1 (eMake 0 3 F_Ladder_init aNil))
  (sSeq (sFor (iSq (eV 0)) (gNm 2)
  (sDrop (eMeth 0 F_Ladder_put (eV 1) (aCons (eV 2) aNil))))
  (sRet (eV 1))))
def F_ladder_of : Fn := fnKeep 1 3 B_ladder_of
def B_places_of : SF :=
  (sSeq (sSet2 1 2 (aCons (eLstM aNil) (aCons (eC (.int 0)) aNil)))
  (sSeq (sWhile (bV (eOp oGt (eV 0) (eC (.int 0))))
  (sSeq (sIf (bV (eOp oEq (eOp oAnd (eV 0) (eC (.int 1))) (eC (.int 1))))
  (sDrop (eMt mAppend (eV 1) (aCons (eV 2) aNil)))
  sNil)
  (sSet2 0 2 (aCons (eOp oShr (eV 0) (eC (.int 1))) (aCons (eOp oCat (eV 2) (eC (.int 1))) aNil)))))
  (sRet (eCB cTup (aCons (eV 1) aNil)))))
def F_places_of : Fn := fnPop 1 3 B_places_of
def B_square_times : SF :=
  (sSeq (sSet 2 (eC (.int 0)))
  (sSeq (sFor (iSq (eCall F_places_of (aCons (eV 1) aNil))) (gNm 3)
  (sAug 2 oXor (eOp oIx (eV 0) (eV 3))))
  (sRet (eV 2))))
def F_square_times : Fn := fnPop 2 4 B_square_times
def B_ProductCount_many_differing : SF :=
  (sSeq (sAsg (eTup (aCons (eOp oIx (eFld 1 4 (eV 0)) (eC (.int 1))) (aCons (eOp oShl (eC (.int 1)) (eFld 1 3 (eV 0))) aNil))) (gTp 2 (gsCons (gNm 5) (gsCons (gNm 6) gsNil))))
  (sSeq (sSet 1 (eLc (iEnu (aCons (eFld 1 1 (eV 0)) aNil)) [4, 7] (gTp 2 (gsCons (gNm 4) (gsCons (gNm 7) gsNil))) bYes (eOp oXor (eV 7) (eIf (bV (eOp oEq (eOp oAnd (eOp oShr (eV 5) (eV 4)) (eC (.int 1))) (eC (.int 1)))) (eV 5) (eC (.int 0))))))
  (sSeq (sSet 2 (eCB cLen (aCons (eFld 0 1 (eCall F_ladder_of (aCons (eV 1) aNil))) aNil)))
  (sSeq (sSet 3 (eOp oMul (eOp oShr (eV 6) (eC (.int 1))) (eOp oSub (eV 6) (eOp oShr (eV 6) (eV 2)))))
  (sSeq (sFor (iSq (eOp oIx (eFld 1 4 (eV 0)) (eC (.int 2)))) (gNm 4)
  (sSeq (sSet 7 (eCall F_square_times (aCons (eV 1) (aCons (eV 4) aNil))))
  (sAug 3 oAdd (eOp oMul (eOp oShr (eV 6) (eC (.int 1))) (eOp oSub (eCB cInt (aCons (eOp oEq (eV 7) (eC (.int 0))) aNil)) (eCB cInt (aCons (eOp oEq (eV 7) (eV 5)) aNil)))))))
  (sSeq (sFor (iSq (eOp oIx (eFld 1 4 (eV 0)) (eC (.int 2)))) (gNm 4)
  (sSeq (sSet 8 (eCall F_square_times (aCons (eFld 1 1 (eV 0)) (aCons (eV 4) aNil))))
  (sSeq (sSet 9 (eCall F_odd (aCons (eOp oAnd (eV 5) (eV 4)) aNil)))
  (sSeq (sAug 3 oSub (eMeth 1 F_ProductCount_ones_with (eV 0) (aCons (eOp oXor (eV 8) (eIf (bV (eOp oEq (eV 9) (eC (.int 1)))) (eV 5) (eC (.int 0)))) (aCons (eV 9) aNil))))
  (sAug 3 oAdd (eMeth 1 F_ProductCount_ones_with (eV 0) (aCons (eOp oXor (eV 8) (eIf (bV (eOp oEq (eV 9) (eC (.int 0)))) (eV 5) (eC (.int 0)))) (aCons (eOp oSub (eC (.int 1)) (eV 9)) aNil))))))))
  (sRet (eV 3))))))))
def F_ProductCount_many_differing : Fn := fnPop 1 10 B_ProductCount_many_differing
def B_ones_in : SF :=
  (sSeq (sSet 1 (eIf (bV (eOp oNe (eOp oIx (eV 0) (eC (.int 1))) (eC (.int 0)))) (eOp oShl (eC (.int 1)) (eOp oSub (eOp oIx (eV 0) (eC (.int 0))) (eC (.int 1)))) (eC (.int 0))))
  (sRet (eOp oCat (eV 1) (eCB cSum (aCons (eLc (iSq (eOp oIx (eV 0) (eC (.int 2)))) [2] (gNm 2) bYes (eOp oSub (eC (.int 1)) (eOp oMul (eC (.int 2)) (eCall F_odd (aCons (eOp oAnd (eOp oIx (eV 0) (eC (.int 1))) (eV 2)) aNil))))) aNil)))))
def F_ones_in : Fn := fnPop 1 3 B_ones_in
def B_ProductCount_still : SF :=
  (sSeq (sSet 1 (eOp oSub (eOp oShl (eC (.int 2)) (eFld 1 3 (eV 0))) (eC (.int 1))))
  (sSeq (sIf (bV (eOp oEq (eCall F_bit_in (aCons (eFld 1 4 (eV 0)) (aCons (eC (.int 0)) aNil))) (eC (.int 0))))
  (sRet (eV 1))
  sNil)
  (sRet (eOp oSub (eV 1) (eOp oMul (eC (.int 2)) (eOp oSub (eOp oMul (eC (.int 2)) (eCall F_ones_in (aCons (eFld 1 4 (eV 0)) aNil))) (eC (.int 1))))))))
def F_ProductCount_still : Fn := fnPop 1 2 B_ProductCount_still
def B_ProductCount_fails : SF :=
  (sSeq (sSet2 2 3 (aCons (eMeth 1 F_ProductCount_many_differing (eV 0) aNil) (aCons (eCB cLen (aCons (eOp oIx (eFld 1 5 (eV 0)) (eC (.int 2))) aNil)) aNil)))
  (sSeq (sSet 1 (eOp oCat (eOp oMul (eFld 1 0 (eV 0)) (eV 2)) (eOp oMul (eOp oMul (eC (.int 2)) (eV 3)) (eOp oSub (eOp oShl (eC (.int 1)) (eOp oMul (eC (.int 2)) (eFld 1 3 (eV 0)))) (eOp oMul (eC (.int 2)) (eV 2))))))
  (sSeq (sAug 1 oSub (eOp oMul (eOp oMul (eC (.int 2)) (eV 3)) (eMeth 1 F_ProductCount_still (eV 0) aNil)))
  (sSeq (sFor (iSq (eMeth 1 F_ProductCount_far_pairs (eV 0) aNil)) (gTp 2 (gsCons (gNm 4) (gsCons (gNm 5) gsNil)))
  (sSeq (sSet 6 (eOp oSub (eC (.int 1)) (eOp oMul (eC (.int 2)) (eMeth 1 F_ProductCount_differs (eV 0) (aCons (eV 4) (aCons (eV 5) aNil))))))
  (sAug 1 oSub (eOp oMul (eOp oMul (eC (.int 2)) (eOp oIx (eFld 1 2 (eV 0)) (eCall F_product_in (aCons (eFld 1 3 (eV 0)) (aCons (eV 4) (aCons (eV 5) aNil)))))) (eV 6)))))
  (sRet (eV 1))))))
def F_ProductCount_fails : Fn := fnPop 1 7 B_ProductCount_fails
def B_mirror_rows : SF :=
  (sSeq (sSet 2 (eRepM (eLst (aCons (eC (.int 0)) aNil)) (eV 0)))
  (sSeq (sFor (iRg1 (aCons (eV 0) aNil)) (gNm 3)
  (sFor (iRg2 (aCons (eV 3) (aCons (eV 0) aNil))) (gNm 4)
  (sIf (bV (eOp oEq (eOp oAnd (eOp oShr (eV 1) (eCall F_pair_number (aCons (eV 0) (aCons (eV 3) (aCons (eV 4) aNil))))) (eC (.int 1))) (eC (.int 1))))
  (sSeq (sAugL (eV 2) (eV 3) oOr (eOp oShl (eC (.int 1)) (eV 4)))
  (sAugL (eV 2) (eV 4) oOr (eOp oShl (eC (.int 1)) (eV 3))))
  sNil)))
  (sRet (eV 2))))
def F_mirror_rows : Fn := fnPop 2 5 B_mirror_rows
def B_ProductCount_init : SF :=
  (sSeq (sAsg (eTup (aCons (eOp oIx (eV 1) (eC (.int 0))) (aCons (eV 2) aNil))) (gTp 2 (gsCons (gFd 1 3 (eV 0)) (gsCons (gTp 2 (gsCons (gFd 1 4 (eV 0)) (gsCons (gFd 1 5 (eV 0)) gsNil))) gsNil))))
  (sSeq (sAsg (eOp oShl (eC (.int 1)) (eOp oIx (eFld 1 5 (eV 0)) (eC (.int 0)))) (gFd 1 0 (eV 0)))
  (sSeq (sAsg (eCall F_mirror_rows (aCons (eFld 1 3 (eV 0)) (aCons (eOp oIx (eFld 1 5 (eV 0)) (eC (.int 1))) aNil))) (gFd 1 1 (eV 0)))
  (sSeq (sAsg eDK (gFd 1 2 (eV 0)))
  (sFor (iSq (eOp oIx (eFld 1 5 (eV 0)) (eC (.int 2)))) (gNm 3)
  (sFor (iSq (eOp oIx (eFld 1 5 (eV 0)) (eC (.int 2)))) (gNm 4)
  (sAsg (eOp oCat (eGet2 (eFld 1 2 (eV 0)) (eOp oXor (eV 3) (eV 4)) (eC (.int 0))) (eC (.int 1))) (gSb (eFld 1 2 (eV 0)) (eOp oXor (eV 3) (eV 4))))))))))
def F_ProductCount_init : Fn := fnKeep 3 5 B_ProductCount_init
def B_meetings : SF :=
  (sSeq (sSet 2 (eDc (iSq (eOp oIx (eV 0) (eC (.int 2)))) [3] (gNm 3) bYes (eV 3) (eC (.bl true))))
  (sRet (eCB cLen (aCons (eLc (iSq (eOp oIx (eV 0) (eC (.int 2)))) [3] (gNm 3) (bV (eOp oIn (eOp oXor (eV 3) (eV 1)) (eV 2))) (eV 3)) aNil))))
def F_meetings : Fn := fnPop 2 4 B_meetings
def B_triples_in : SF :=
  (sRet (eCB cSum (aCons (eLc (iSq (eOp oIx (eV 0) (eC (.int 2)))) [1] (gNm 1) bYes (eCall F_meetings (aCons (eV 0) (aCons (eV 1) aNil)))) aNil)))
def F_triples_in : Fn := fnPop 1 2 B_triples_in
def B_line_fails_in : SF :=
  (sSeq (sSet2 1 2 (aCons (eOp oShl (eC (.int 1)) (eOp oIx (eV 0) (eC (.int 0)))) (aCons (eCB cLen (aCons (eOp oIx (eV 0) (eC (.int 2))) aNil)) aNil)))
  (sRet (eOp oCat (eOp oSub (eOp oMul (eOp oMul (eC (.int 3)) (eV 2)) (eV 1)) (eOp oMul (eOp oMul (eC (.int 6)) (eV 2)) (eV 2))) (eOp oMul (eC (.int 4)) (eCall F_triples_in (aCons (eV 0) aNil))))))
def F_line_fails_in : Fn := fnPop 1 3 B_line_fails_in
def B_made_of : SF :=
  (sSeq (sAsg (eMeth 0 F_Ladder_lowered (eCall F_ladder_of (aCons (eV 0) aNil)) (aCons (eV 1) (aCons (eC (.int 0)) aNil))) (gTp 2 (gsCons (gNm 2) (gsCons (gNm 3) gsNil))))
  (sRet (eIf (bV (eOp oEq (eV 2) (eC (.int 0)))) (eV 3) (eC .non))))
def F_made_of : Fn := fnPop 2 4 B_made_of
def B_missed_by : SF :=
  (sRet (eOp oMod (eCB cSum (aCons (eLc (iSq (eCall F_places_of (aCons (eV 1) aNil))) [2] (gNm 2) bYes (eOp oIx (eV 0) (eV 2))) aNil)) (eC (.int 2))))
def F_missed_by : Fn := fnPop 2 3 B_missed_by
def B_row_place : SF :=
  (sSeq (sSet 2 (eC (.int 0)))
  (sSeq (sFor (iSq (eOp oIx (eV 1) (eC (.int 0)))) (gTp 2 (gsCons (gNm 3) (gsCons (gNm 4) gsNil)))
  (sAug 2 oXor (eOp oShl (eC (.int 1)) (eCall F_pair_number (aCons (eV 0) (aCons (eV 3) (aCons (eV 4) aNil)))))))
  (sRet (eV 2))))
def F_row_place : Fn := fnPop 2 5 B_row_place
def B_row_fails_in : SF :=
  (sSeq (sAsg (eTup (aCons (eOp oIx (eV 1) (eC (.int 1))) (aCons (eCB cLen (aCons (eOp oIx (eV 0) (eC (.int 1))) aNil)) aNil))) (gTp 2 (gsCons (gNm 11) (gsCons (gNm 12) gsNil))))
  (sSeq (sSet 2 (eLc (iSq (eOp oIx (eV 0) (eC (.int 1)))) [17] (gNm 17) bYes (eCall F_row_place (aCons (eOp oIx (eV 0) (eC (.int 0))) (aCons (eV 17) aNil)))))
  (sSeq (sSet 3 (eLc (iZz (aCons (eV 2) (aCons (eOp oIx (eV 0) (eC (.int 1))) aNil))) [19, 17] (gTp 2 (gsCons (gNm 19) (gsCons (gNm 17) gsNil))) bYes (eOp oXor (eCall F_odd (aCons (eOp oAnd (eOp oIx (eV 11) (eC (.int 1))) (eV 19)) aNil)) (eOp oIx (eV 17) (eC (.int 1))))))
  (sSeq (sSet2 13 14 (aCons (eOp oShl (eC (.int 1)) (eOp oIx (eV 11) (eC (.int 0)))) (aCons (eCB cLen (aCons (eOp oIx (eV 11) (eC (.int 2))) aNil)) aNil)))
  (sSeq (sSet 4 (eIf (bV (eOp oIn (eC (.int 1)) (eV 3))) (eOp oShl (eC (.int 1)) (eOp oSub (eV 12) (eC (.int 1)))) (eC (.int 0))))
  (sSeq (sSet 5 (eOp oCat (eOp oMul (eV 13) (eV 4)) (eOp oMul (eOp oMul (eC (.int 2)) (eV 14)) (eOp oSub (eOp oShl (eC (.int 1)) (eV 12)) (eOp oMul (eC (.int 2)) (eV 4))))))
  (sSeq (sSet 6 (eCall F_ladder_of (aCons (eV 2) aNil)))
  (sSeq (sSet 7 (eCB cAny (aCons (eLc (iSq (eFld 0 2 (eV 6))) [16] (gNm 16) bYes (eOp oEq (eCall F_missed_by (aCons (eV 3) (aCons (eV 16) aNil))) (eC (.int 1)))) aNil)))
  (sSeq (sSet 8 eDK)
  (sSeq (sFor (iSq (eOp oIx (eV 11) (eC (.int 2)))) (gNm 9)
  (sFor (iSq (eOp oIx (eV 11) (eC (.int 2)))) (gNm 15)
  (sAsg (eC (.bl true)) (gSb (eV 8) (eOp oXor (eV 9) (eV 15))))))
  (sSeq (sFor (iSq (eCL lSort (aCons (eV 8) aNil))) (gNm 10)
  (sSeq (sSet 16 (eCall F_made_of (aCons (eV 2) (aCons (eV 10) aNil))))
  (sIf (bAnd (bV (eOp oNotN (eV 16) (eC .non))) (bNot (bT (eV 7))))
  (sSeq (sSet 18 (eOp oShl (eC (.int 1)) (eCB cLen (aCons (eFld 0 2 (eV 6)) aNil))))
  (sAug 5 oSub (eOp oMul (eOp oMul (eOp oMul (eC (.int 2)) (eCall F_meetings (aCons (eV 11) (aCons (eV 10) aNil)))) (eV 18)) (eOp oSub (eC (.int 1)) (eOp oMul (eC (.int 2)) (eCall F_missed_by (aCons (eV 3) (aCons (eV 16) aNil))))))))
  sNil)))
  (sRet (eV 5)))))))))))))
def F_row_fails_in : Fn := fnPop 2 20 B_row_fails_in
def B_fails_in : SF :=
  (sSeq (sSet 2 (eMeth 1 F_ProductCount_fails (eMake 1 6 F_ProductCount_init (aCons (eV 0) (aCons (eV 1) aNil))) aNil))
  (sRet (eTup (aCons (eCall F_line_fails_in (aCons (eOp oIx (eV 1) (eC (.int 0))) aNil)) (aCons (eCall F_line_fails_in (aCons (eOp oIx (eV 1) (eC (.int 1))) aNil)) (aCons (eV 2) (aCons (eCall F_row_fails_in (aCons (eV 0) (aCons (eV 1) aNil))) aNil)))))))
def F_fails_in : Fn := fnPop 2 3 B_fails_in
def B_is_bit : SF :=
  (sRet (eCall F_is_within (aCons (eV 0) (aCons (eC (.int 0)) (aCons (eC (.int 1)) aNil)))))
def F_is_bit : Fn := fnPop 1 1 B_is_bit
def B_ascends_pairs : SF :=
  (sSeq (sIf (bNot (bT (eCB cAll (aCons (eLc (iSq (eV 0)) [1] (gNm 1) bYes (eAnd (eCall F_is_long (aCons (eV 1) (aCons (eC (.int 2)) aNil))) (eCall F_is_within (aCons (eOp oIx (eV 1) (eC (.int 0))) (aCons (eC (.int 0)) (aCons (eC (.int 40)) aNil)))))) aNil))))
  (sRet (eC (.bl false)))
  sNil)
  (sRet (eAnd (eCB cAll (aCons (eLc (iSq (eV 0)) [1] (gNm 1) bYes (eCall F_is_within (aCons (eOp oIx (eV 1) (eC (.int 1))) (aCons (eC (.int 0)) (aCons (eC (.int 40)) aNil))))) aNil)) (eCall F_ascends (aCons (eV 0) aNil)))))
def F_ascends_pairs : Fn := fnPop 1 2 B_ascends_pairs
def B_is_pair_row : SF :=
  (sSeq (sIf (bOr (bNot (bT (eIsi [.tup] (eV 0)))) (bNot (bT (eCall F_ascends_pairs (aCons (eV 0) aNil)))))
  (sRet (eC (.bl false)))
  sNil)
  (sRet (eCB cAll (aCons (eLc (iSq (eV 0)) [2] (gNm 2) bYes (eAnd (eCall F_is_within (aCons (eOp oIx (eV 2) (eC (.int 0))) (aCons (eC (.int 0)) (aCons (eOp oSub (eV 1) (eC (.int 1))) aNil)))) (eCall F_is_within (aCons (eOp oIx (eV 2) (eC (.int 1))) (aCons (eOp oIx (eV 2) (eC (.int 0))) (aCons (eOp oSub (eV 1) (eC (.int 1))) aNil)))))) aNil))))
def F_is_pair_row : Fn := fnPop 2 3 B_is_pair_row
def B_is_row : SF :=
  (sRet (eAnd (eCall F_is_long (aCons (eV 0) (aCons (eC (.int 2)) aNil))) (eAnd (eCall F_is_pair_row (aCons (eOp oIx (eV 0) (eC (.int 0))) (aCons (eV 1) aNil))) (eCall F_is_bit (aCons (eOp oIx (eV 0) (eC (.int 1))) aNil)))))
def F_is_row : Fn := fnPop 2 2 B_is_row
def B_is_equations : SF :=
  (sSeq (sIf (bOr (bNot (bT (eCall F_is_long (aCons (eV 0) (aCons (eC (.int 2)) aNil))))) (bOr (bNot (bT (eCall F_is_within (aCons (eOp oIx (eV 0) (eC (.int 0))) (aCons (eC (.int 1)) (aCons (eC (.int 40)) aNil)))))) (bNot (bT (eIsi [.tup] (eOp oIx (eV 0) (eC (.int 1))))))))
  (sRet (eC (.bl false)))
  sNil)
  (sRet (eAnd (eOp oLe (eCB cLen (aCons (eOp oIx (eV 0) (eC (.int 1))) aNil)) (eC (.int 60))) (eCB cAll (aCons (eLc (iSq (eOp oIx (eV 0) (eC (.int 1)))) [1] (gNm 1) bYes (eCall F_is_row (aCons (eV 1) (aCons (eOp oIx (eV 0) (eC (.int 0))) aNil)))) aNil)))))
def F_is_equations : Fn := fnPop 1 2 B_is_equations
def B_sure_equations : SF :=
  (sSeq (sSet 1 (eCall (F_tupled 9) (aCons (eV 0) aNil)))
  (sSeq (sIf (bNot (bT (eCall F_is_equations (aCons (eV 1) aNil))))
  (sRaise "Unfit")
  sNil)
  (sRet (eV 1))))
def F_sure_equations : Fn := fnPop 1 2 B_sure_equations
def B_wide_of : SF :=
  (sRet (eOp oDiv (eOp oMul (eV 0) (eOp oCat (eV 0) (eC (.int 1)))) (eC (.int 2))))
def F_wide_of : Fn := fnPop 1 1 B_wide_of
def B_is_proof_in : SF :=
  (sSeq (sIf (bOr (bNot (bT (eCall F_is_long (aCons (eV 1) (aCons (eC (.int 2)) aNil))))) (bOr (bNot (bT (eCall F_is_told (aCons (eOp oIx (eV 1) (eC (.int 0))) aNil)))) (bNot (bT (eCall F_is_told (aCons (eOp oIx (eV 1) (eC (.int 1))) aNil))))))
  (sRet (eC (.bl false)))
  sNil)
  (sRet (eAnd (eOp oEq (eOp oIx (eOp oIx (eV 1) (eC (.int 0))) (eC (.int 0))) (eV 0)) (eOp oEq (eOp oIx (eOp oIx (eV 1) (eC (.int 1))) (eC (.int 0))) (eCall F_wide_of (aCons (eV 0) aNil))))))
def F_is_proof_in : Fn := fnPop 2 2 B_is_proof_in
def B_sure_proof : SF :=
  (sSeq (sSet 2 (eCall (F_tupled 9) (aCons (eV 1) aNil)))
  (sSeq (sIf (bNot (bT (eCall F_is_proof_in (aCons (eOp oIx (eV 0) (eC (.int 0))) (aCons (eV 2) aNil)))))
  (sRaise "Unfit")
  sNil)
  (sRet (eV 2))))
def F_sure_proof : Fn := fnPop 2 3 B_sure_proof
def B_fail_counts : SF :=
  (sSeq (sSet 2 (eCall F_sure_equations (aCons (eV 0) aNil)))
  (sRet (eCall F_fails_in (aCons (eV 2) (aCons (eCall F_sure_proof (aCons (eV 2) (aCons (eV 1) aNil))) aNil)))))
def F_fail_counts : Fn := fnPop 2 3 B_fail_counts
def B_is_proof : SF :=
  (sRet (eCall F_is_proof_in (aCons (eOp oIx (eCall F_sure_equations (aCons (eV 0) aNil)) (eC (.int 0))) (aCons (eV 1) aNil))))
def F_is_proof : Fn := fnPop 2 2 B_is_proof
def B_line_fails : SF :=
  (sRet (eCall F_line_fails_in (aCons (eCall F_sure_told_table (aCons (eV 0) aNil)) aNil)))
def F_line_fails : Fn := fnPop 1 1 B_line_fails
def B_draw_sizes : SF :=
  (sSeq (sSet 2 (eOp oIx (eV 0) (eC (.int 0))))
  (sSeq (sIf (bV (eOp oEq (eV 1) (eC (.str "first"))))
  (sRet (eTup (aCons (eV 2) (aCons (eV 2) aNil))))
  sNil)
  (sSeq (sIf (bV (eOp oEq (eV 1) (eC (.str "second"))))
  (sRet (eTup (aCons (eCall F_wide_of (aCons (eV 2) aNil)) (aCons (eCall F_wide_of (aCons (eV 2) aNil)) aNil))))
  sNil)
  (sRet (eIf (bV (eOp oEq (eV 1) (eC (.str "product")))) (eTup (aCons (eV 2) (aCons (eV 2) (aCons (eCall F_wide_of (aCons (eV 2) aNil)) aNil)))) (eTup (aCons (eCB cLen (aCons (eOp oIx (eV 0) (eC (.int 1))) aNil)) (aCons (eCall F_wide_of (aCons (eV 2) aNil)) aNil))))))))
def F_draw_sizes : Fn := fnPop 2 3 B_draw_sizes
def B_many_draws_in : SF :=
  (sRet (eOp oShl (eC (.int 1)) (eCB cSum (aCons (eCall F_draw_sizes (aCons (eV 0) (aCons (eV 1) aNil))) aNil))))
def F_many_draws_in : Fn := fnPop 2 2 B_many_draws_in
def B_many_draws : SF :=
  (sSeq (sSet 1 (eCall F_sure_equations (aCons (eV 0) aNil)))
  (sRet (eCB cTup (aCons (eLc (iSq (eC k_KINDS)) [2] (gNm 2) bYes (eCall F_many_draws_in (aCons (eV 1) (aCons (eV 2) aNil)))) aNil))))
def F_many_draws : Fn := fnPop 1 3 B_many_draws
def B_many_ones : SF :=
  (sRet (eCall F_ones_in (aCons (eCall F_sure_told_table (aCons (eV 0) aNil)) aNil)))
def F_many_ones : Fn := fnPop 1 1 B_many_ones
def B_straight_in : SF :=
  (sRet (eCB cTup (aCons (eLc (iRg1 (aCons (eOp oShl (eC (.int 1)) (eV 0)) aNil)) [2] (gNm 2) bYes (eCall F_odd (aCons (eOp oAnd (eV 2) (eV 1)) aNil))) aNil)))
def F_straight_in : Fn := fnPop 2 3 B_straight_in
def B_full_in : SF :=
  (sSeq (sSet 1 (eCM lSeq (aCons (eCall F_straight_in (aCons (eOp oIx (eV 0) (eC (.int 0))) (aCons (eOp oIx (eV 0) (eC (.int 1))) aNil))) aNil)))
  (sSeq (sFor (iSq (eOp oIx (eV 0) (eC (.int 2)))) (gNm 2)
  (sAsg (eOp oSub (eC (.int 1)) (eOp oIx (eV 1) (eV 2))) (gSb (eV 1) (eV 2))))
  (sRet (eCB cTup (aCons (eV 1) aNil)))))
def F_full_in : Fn := fnPop 1 3 B_full_in
def B_sums_in : SF :=
  (sSeq (sSet2 1 2 (aCons (eLcM (iSq (eV 0)) [5] (gNm 5) bYes (eOp oSub (eC (.int 1)) (eOp oMul (eC (.int 2)) (eV 5)))) (aCons (eC (.int 1)) aNil)))
  (sSeq (sWhile (bV (eOp oLtS (eV 2) (eCB cLen (aCons (eV 1) aNil))))
  (sSeq (sFor (iRg3 (aCons (eC (.int 0)) (aCons (eCB cLen (aCons (eV 1) aNil)) (aCons (eOp oMul (eC (.int 2)) (eV 2)) aNil)))) (gNm 3)
  (sFor (iRg2 (aCons (eV 3) (aCons (eOp oCat (eV 3) (eV 2)) aNil))) (gNm 4)
  (sSeq (sSet2 6 7 (aCons (eOp oIx (eV 1) (eV 4)) (aCons (eOp oIx (eV 1) (eOp oCat (eV 4) (eV 2))) aNil)))
  (sAsg (eTup (aCons (eOp oCat (eV 6) (eV 7)) (aCons (eOp oSub (eV 6) (eV 7)) aNil))) (gTp 2 (gsCons (gSb (eV 1) (eV 4)) (gsCons (gSb (eV 1) (eOp oCat (eV 4) (eV 2))) gsNil)))))))
  (sAug 2 oMul (eC (.int 2)))))
  (sRet (eV 1))))
def F_sums_in : Fn := fnPop 1 8 B_sums_in
def B_nearest_in : SF :=
  (sSeq (sSet 1 (eCall F_sums_in (aCons (eV 0) aNil)))
  (sSeq (sSet 2 (eCB cMaxL (aCons (eV 1) aNil)))
  (sRet (eTup (aCons (eMt mIndex (eV 1) (aCons (eV 2) aNil)) (aCons (eOp oDiv (eOp oSub (eCB cLen (aCons (eV 0) aNil)) (eV 2)) (eC (.int 2))) aNil))))))
def F_nearest_in : Fn := fnPop 1 3 B_nearest_in
def B_nearest_told : SF :=
  (sSeq (sIf (bV (eOp oLtS (eOp oShl (eCB cLen (aCons (eOp oIx (eV 0) (eC (.int 2))) aNil)) (eC (.int 2))) (eOp oShl (eC (.int 1)) (eOp oIx (eV 0) (eC (.int 0))))))
  (sRet (eOp oIx (eV 0) (eC (.int 1))))
  sNil)
  (sRet (eOp oIx (eCall F_nearest_in (aCons (eCall F_full_in (aCons (eV 0) aNil)) aNil)) (eC (.int 0)))))
def F_nearest_told : Fn := fnPop 1 1 B_nearest_told
def B_nearest_row : SF :=
  (sRet (eCall F_nearest_told (aCons (eCall F_sure_told_table (aCons (eV 0) aNil)) aNil)))
def F_nearest_row : Fn := fnPop 1 1 B_nearest_row
def B_common : SF :=
  (sSeq (sSet2 2 3 (aCons (eV 0) (aCons (eV 1) aNil)))
  (sSeq (sWhile (bV (eOp oGt (eV 3) (eC (.int 0))))
  (sSet2 2 3 (aCons (eV 3) (aCons (eOp oMod (eV 2) (eV 3)) aNil))))
  (sRet (eV 2))))
def F_common : Fn := fnPop 2 4 B_common
def B_fraction : SF :=
  (sSeq (sSet 2 (eCall F_common (aCons (eV 0) (aCons (eV 1) aNil))))
  (sRet (eTup (aCons (eOp oDiv (eV 0) (eV 2)) (aCons (eOp oDiv (eV 1) (eV 2)) aNil)))))
def F_fraction : Fn := fnPop 2 3 B_fraction
def B_unlike_far_in : SF :=
  (sRet (eOp oSub (eOp oMul (eC (.int 2)) (eCB cLen (aCons (eOp oIx (eV 0) (eC (.int 2))) aNil))) (eOp oMul (eC (.int 2)) (eCall F_meetings (aCons (eV 0) (aCons (eV 1) aNil))))))
def F_unlike_far_in : Fn := fnPop 2 2 B_unlike_far_in
def B_right_share : SF :=
  (sSeq (sSet 2 (eCall F_sure_told_table (aCons (eV 0) aNil)))
  (sSeq (sSet 3 (eCall F_sure_place_of (aCons (eV 2) (aCons (eV 1) aNil))))
  (sRet (eCall F_fraction (aCons (eOp oSub (eOp oShl (eC (.int 1)) (eOp oIx (eV 2) (eC (.int 0)))) (eCall F_unlike_far_in (aCons (eV 2) (aCons (eV 3) aNil)))) (aCons (eOp oShl (eC (.int 1)) (eOp oIx (eV 2) (eC (.int 0)))) aNil))))))
def F_right_share : Fn := fnPop 2 4 B_right_share
def B_sure_from : SF :=
  (sSeq (sIf (bNot (bT (eCall F_is_from (aCons (eV 0) (aCons (eV 1) aNil)))))
  (sRaise "Unfit")
  sNil)
  (sRet (eV 0)))
def F_sure_from : Fn := fnPop 2 2 B_sure_from
def B_straight_told : SF :=
  (sSeq (sSet2 2 3 (aCons (eCall F_sure_from (aCons (eV 0) (aCons (eC (.int 0)) aNil))) (aCons (eCall F_sure_from (aCons (eV 1) (aCons (eC (.int 0)) aNil))) aNil)))
  (sSeq (sIf (bOr (bV (eOp oGt (eV 2) (eC (.int 820)))) (bV (eOp oGe (eV 3) (eOp oShl (eC (.int 1)) (eV 2)))))
  (sRaise "Unfit")
  sNil)
  (sRet (eTup (aCons (eV 2) (aCons (eV 3) (aCons (eTup aNil) aNil)))))))
def F_straight_told : Fn := fnPop 2 4 B_straight_told
def B_unlike_far : SF :=
  (sSeq (sSet 2 (eCall F_sure_told_table (aCons (eV 0) aNil)))
  (sRet (eCall F_unlike_far_in (aCons (eV 2) (aCons (eCall F_sure_place_of (aCons (eV 2) (aCons (eV 1) aNil))) aNil)))))
def F_unlike_far : Fn := fnPop 2 3 B_unlike_far
def B_law : SF :=
  (sSeq (sSet 1 (eCall F__law_box (aCons (eCall F__law_cells (aCons (eV 0) (aCons (eC (.int 1)) aNil))) (aCons (eC (.int 0)) aNil))))
  (sSeq (sFor (iRg1 (aCons (eC (.int 3)) aNil)) (gNm 2)
  (sSeq (sSet 3 (eCall F__law_of (aCons (eV 1) (aCons (eLst (aCons (eC (.int 6)) (aCons (eC (.int 8)) (aCons (eC (.int 11)) (aCons (eC (.int 28)) (aCons (eC (.int 40)) (aCons (eC (.int 300)) (aCons (eC (.int 820)) aNil)))))))) aNil))))
  (sSeq (sSet 4 (eCall F__law_wide (aCons (eV 1) (aCons (eV 3) aNil))))
  (sSeq (sSet 5 (eCall F_straight_told (aCons (eV 3) (aCons (eV 4) aNil))))
  (sSeq (sIf (bNot (bT (eCall (F__law_same 9) (aCons (eV 5) (aCons (eTup (aCons (eV 3) (aCons (eV 4) (aCons (eTup aNil) aNil)))) aNil)))))
  (sRet (eC (.bl false)))
  sNil)
  (sSeq (sSet 6 (eLstM (aCons (eC (.int 0)) (aCons (eOp oSub (eOp oShl (eC (.int 1)) (eV 3)) (eC (.int 1))) (aCons (eC (.int 1)) (aCons (eC (.int 2)) (aCons (eC (.int 3)) aNil)))))))
  (sSeq (sFor (iRg1 (aCons (eCall F__law_take (aCons (eV 1) (aCons (eC (.int 24)) aNil))) aNil)) (gNm 7)
  (sSeq (sSet 8 (eIf (bV (eOp oGt (eCall F__law_take (aCons (eV 1) (aCons (eC (.int 3)) aNil))) (eC (.int 0)))) (eCall F__law_wide (aCons (eV 1) (aCons (eV 3) aNil))) (eOp oXor (eCall F__law_of (aCons (eV 1) (aCons (eV 6) aNil))) (eCall F__law_of (aCons (eV 1) (aCons (eV 6) aNil))))))
  (sDrop (eMt mAppend (eV 6) (aCons (eV 8) aNil)))))
  (sSeq (sFor (iSq (eCall F__law_pick (aCons (eV 1) (aCons (eV 6) (aCons (eOp oCat (eC (.int 1)) (eCall F__law_take (aCons (eV 1) (aCons (eCB cLen (aCons (eV 6) aNil)) aNil)))) aNil))))) (gNm 8)
  (sSeq (sSet 11 (eIf (bV (eOp oNotIn (eV 8) (eOp oIx (eV 5) (eC (.int 2))))) (eOp oCat (eOp oIx (eV 5) (eC (.int 2))) (eTup (aCons (eV 8) aNil))) (eCB cTup (aCons (eLc (iSq (eOp oIx (eV 5) (eC (.int 2)))) [23] (gNm 23) (bV (eOp oNe (eV 23) (eV 8))) (eV 23)) aNil))))
  (sSeq (sSet 12 (eCall F__law_heard (aCons (eV 5) (aCons (eV 8) aNil))))
  (sSeq (sIf (bV (eOp oGt (eCB cLen (aCons (eV 11) aNil)) (eC (.int 24))))
  (sSeq (sIf (bV (eOp oNe (eV 12) (eLst (aCons (eC (.str "cannot")) (aCons (eC (.bl true)) aNil)))))
  (sRet (eC (.bl false)))
  sNil)
  sCt)
  sNil)
  (sSeq (sIf (bNot (bT (eCall (F__law_same 9) (aCons (eLst (aCons (eV 12) (aCons (eCall F_bit_at (aCons (eV 12) (aCons (eV 8) aNil))) (aCons (eCall F_bit_at (aCons (eV 5) (aCons (eV 8) aNil))) aNil)))) (aCons (eLst (aCons (eTup (aCons (eV 3) (aCons (eV 4) (aCons (eCB cTup (aCons (eCL lSort (aCons (eV 11) aNil)) aNil)) aNil)))) (aCons (eCall F__law_bit (aCons (eV 12) (aCons (eV 8) aNil))) (aCons (eOp oSub (eC (.int 1)) (eCall F__law_bit (aCons (eV 12) (aCons (eV 8) aNil)))) aNil)))) aNil)))))
  (sRet (eC (.bl false)))
  sNil)
  (sSet 5 (eV 12)))))))
  (sSeq (sSet2 13 14 (aCons (eOp oShl (eC (.int 1)) (eV 3)) (aCons (eCB cLen (aCons (eOp oIx (eV 5) (eC (.int 2))) aNil)) aNil)))
  (sSeq (sSet 9 (eLst (aCons (eCall F_is_told (aCons (eV 5) aNil)) (aCons (eCall F_line_fails (aCons (eCall (F__law_mixed 9) (aCons (eV 1) (aCons (eV 5) aNil))) aNil)) (aCons (eCall F_many_ones (aCons (eV 5) aNil)) (aCons (eOp oIx (eCall F_straight_told (aCons (eV 3) (aCons (eOp oIx (eV 5) (eC (.int 1))) aNil))) (eC (.int 1))) aNil))))))
  (sSeq (sIf (bNot (bT (eCall (F__law_same 9) (aCons (eV 9) (aCons (eLst (aCons (eC (.bl true)) (aCons (eCall F__law_lined (aCons (eV 5) aNil)) (aCons (eCall F__law_ones (aCons (eV 5) aNil)) (aCons (eV 4) aNil))))) aNil)))))
  (sRet (eC (.bl false)))
  sNil)
  (sSeq (sIf (bAnd (bV (eOp oLtS (eOp oMul (eC (.int 4)) (eV 14)) (eV 13))) (bNot (bT (eCall (F__law_same 9) (aCons (eCall F_nearest_row (aCons (eV 5) aNil)) (aCons (eV 4) aNil))))))
  (sRet (eC (.bl false)))
  sNil)
  (sSeq (sFor (iRg1 (aCons (eC (.int 5)) aNil)) (gNm 7)
  (sSeq (sSet 15 (eCall F__law_of (aCons (eV 1) (aCons (eLst (aCons (eC (.int 0)) (aCons (eC (.int 1)) (aCons (eOp oXor (eCall F__law_of (aCons (eV 1) (aCons (eV 6) aNil))) (eCall F__law_of (aCons (eV 1) (aCons (eV 6) aNil)))) (aCons (eCall F__law_wide (aCons (eV 1) (aCons (eV 3) aNil))) aNil))))) aNil))))
  (sSeq (sSet 16 (eCB cLen (aCons (eLc (iSq (eOp oIx (eV 5) (eC (.int 2)))) [8] (gNm 8) (bV (eOp oIn (eOp oXor (eV 8) (eV 15)) (eOp oIx (eV 5) (eC (.int 2))))) (eC (.int 1))) aNil)))
  (sSeq (sSet 17 (eOp oMul (eC (.int 2)) (eOp oSub (eV 14) (eV 16))))
  (sSeq (sIf (bNot (bT (eCall (F__law_same 9) (aCons (eLst (aCons (eCall F_unlike_far (aCons (eV 5) (aCons (eV 15) aNil))) (aCons (eCall F_right_share (aCons (eV 5) (aCons (eV 15) aNil))) aNil))) (aCons (eLst (aCons (eV 17) (aCons (eCall F__law_share (aCons (eOp oSub (eV 13) (eV 17)) (aCons (eV 13) aNil))) aNil))) aNil)))))
  (sRet (eC (.bl false)))
  sNil)
  (sSeq (sSet 18 (eCall F__law_of (aCons (eV 1) (aCons (eLst (aCons (eCall F__law_wide (aCons (eV 1) (aCons (eV 3) aNil))) (aCons (eCall F__law_of (aCons (eV 1) (aCons (eV 6) aNil))) aNil))) aNil))))
  (sSeq (sSet 19 (eOp oXor (eCall F__law_bit (aCons (eV 5) (aCons (eV 18) aNil))) (eCall F__law_bit (aCons (eV 5) (aCons (eOp oXor (eV 18) (eV 15)) aNil)))))
  (sSeq (sSet 20 (eOp oEq (eOp oIn (eV 18) (eOp oIx (eV 5) (eC (.int 2)))) (eOp oIn (eOp oXor (eV 18) (eV 15)) (eOp oIx (eV 5) (eC (.int 2))))))
  (sIf (bOr (bNot (bT (eCall (F__law_same 9) (aCons (eCall F_corrected (aCons (eV 5) (aCons (eV 15) (aCons (eV 18) aNil)))) (aCons (eV 19) aNil))))) (bV (eOp oNe (eOp oEq (eV 19) (eCall F__law_odd (aCons (eOp oAnd (eV 4) (eV 15)) aNil))) (eV 20))))
  (sRet (eC (.bl false)))
  sNil)))))))))
  (sSeq (sSet 10 (eGet1 (eDisp [(.inl 6, .int 3), (.inl 28, .int 7), (.inl 300, .int 24), (.inl 820, .int 40)]) (eV 3)))
  (sIf (bV (eOp oNotN (eV 10) (eC .non)))
  (sSeq (sSet 21 (eCall F__law_some_equations (aCons (eV 1) (aCons (eV 10) (aCons (eC (.int 4)) aNil)))))
  (sSeq (sSet 22 (eTup (aCons (eCall F__law_some_told (aCons (eV 1) (aCons (eV 10) (aCons (eC (.int 4)) aNil)))) (aCons (eV 5) aNil))))
  (sSeq (sSet 9 (eLst (aCons (eCall F_is_proof (aCons (eV 21) (aCons (eV 22) aNil))) (aCons (eSl (eCall F_fail_counts (aCons (eV 21) (aCons (eV 22) aNil))) oNo (oYes (eC (.int 2)))) (aCons (eOp oIx (eCall F_many_draws (aCons (eV 21) aNil)) (eC (.int 1))) aNil)))))
  (sIf (bNot (bT (eCall (F__law_same 9) (aCons (eV 9) (aCons (eLst (aCons (eC (.bl true)) (aCons (eTup (aCons (eCall F__law_lined (aCons (eOp oIx (eV 22) (eC (.int 0))) aNil)) (aCons (eCall F__law_lined (aCons (eV 5) aNil)) aNil))) (aCons (eOp oMul (eV 13) (eV 13)) aNil)))) aNil)))))
  (sRet (eC (.bl false)))
  sNil))))
  (sIf (bV (eOp oLtS (eV 3) (eC (.int 41))))
  (sSeq (sSet 21 (eTup (aCons (eV 3) (aCons (eTup aNil) aNil))))
  (sSeq (sSet 22 (eTup (aCons (eV 5) (aCons (eTup (aCons (eOp oDiv (eOp oMul (eV 3) (eOp oCat (eV 3) (eC (.int 1)))) (eC (.int 2))) (aCons (eC (.int 0)) (aCons (eTup aNil) aNil)))) aNil))))
  (sIf (bNot (bT (eCall (F__law_same 9) (aCons (eLst (aCons (eCall F_is_proof (aCons (eV 21) (aCons (eV 22) aNil))) (aCons (eSl (eCall F_fail_counts (aCons (eV 21) (aCons (eV 22) aNil))) oNo (oYes (eC (.int 2)))) aNil))) (aCons (eLst (aCons (eC (.bl true)) (aCons (eTup (aCons (eCall F__law_lined (aCons (eV 5) aNil)) (aCons (eC (.int 0)) aNil))) aNil))) aNil)))))
  (sRet (eC (.bl false)))
  sNil)))
  sNil))))))))))))))))
  (sRet (eC (.bl true)))))
def F_law : Fn := fnPop 1 24 B_law
end Q
set_option Elab.async false
set_option linter.all false
set_option maxRecDepth 100000
set_option maxHeartbeats 0
namespace Q
open PySem PySem.Spec PyProof.Rows L2 Sh
def top (i : Nat) : Stmt := PySem.Challenge.pw_twoshown_k69_across_tables_changed_place.main.body.getD i (.Pass ⟨0, 0, 0, 0⟩)
abbrev s__wall : Stmt := top 0
abbrev s_is_number : Stmt := top 5
abbrev s_is_from : Stmt := top 6
abbrev s_is_within : Stmt := top 7
abbrev s_is_long : Stmt := top 8
abbrev s_tupled : Stmt := top 9
abbrev s_ascends : Stmt := top 10
abbrev s_sure_from : Stmt := top 11
abbrev s_is_bit : Stmt := top 12
abbrev s_odd : Stmt := top 13
abbrev s_common : Stmt := top 14
abbrev s_fraction : Stmt := top 15
abbrev s_sums_in : Stmt := top 17
abbrev s_straight_in : Stmt := top 18
abbrev s_nearest_in : Stmt := top 19
abbrev s_is_told : Stmt := top 23
abbrev s_sure_told_table : Stmt := top 24
abbrev s_sure_place_of : Stmt := top 25
abbrev s_bit_in : Stmt := top 26
abbrev s_bit_at : Stmt := top 27
abbrev s_changed : Stmt := top 28
abbrev s_full_in : Stmt := top 29
abbrev s_nearest_told : Stmt := top 30
abbrev s_nearest_row : Stmt := top 31
abbrev s_meetings : Stmt := top 32
abbrev s_unlike_far_in : Stmt := top 33
abbrev s_unlike_far : Stmt := top 34
abbrev s_corrected : Stmt := top 35
abbrev s_right_share : Stmt := top 36
abbrev s_triples_in : Stmt := top 37
abbrev s_line_fails_in : Stmt := top 38
abbrev s_line_fails : Stmt := top 39
abbrev s_ones_in : Stmt := top 40
abbrev s_many_ones : Stmt := top 41
abbrev s_straight_told : Stmt := top 42
abbrev s_Ladder_init : Stmt := inClass (top 44) 0
abbrev s_Ladder_lowered : Stmt := inClass (top 44) 1
abbrev s_Ladder_put : Stmt := inClass (top 44) 2
abbrev s_ladder_of : Stmt := top 45
abbrev s_made_of : Stmt := top 46
abbrev s_places_of : Stmt := top 47
abbrev s_is_pair_row : Stmt := top 51
abbrev s_ascends_pairs : Stmt := top 52
abbrev s_is_row : Stmt := top 53
abbrev s_is_equations : Stmt := top 54
abbrev s_sure_equations : Stmt := top 55
abbrev s_wide_of : Stmt := top 57
abbrev s_pair_number : Stmt := top 58
abbrev s_product_in : Stmt := top 59
abbrev s_row_place : Stmt := top 60
abbrev s_is_proof_in : Stmt := top 61
abbrev s_is_proof : Stmt := top 62
abbrev s_sure_proof : Stmt := top 63
abbrev s_draw_sizes : Stmt := top 66
abbrev s_many_draws_in : Stmt := top 67
abbrev s_many_draws : Stmt := top 68
abbrev s_mirror_rows : Stmt := top 70
abbrev s_square_times : Stmt := top 71
abbrev s_ProductCount_init : Stmt := inClass (top 72) 0
abbrev s_ProductCount_unlike : Stmt := inClass (top 72) 1
abbrev s_ProductCount_differs : Stmt := inClass (top 72) 2
abbrev s_ProductCount_fails_at : Stmt := inClass (top 72) 3
abbrev s_ProductCount_ones_with : Stmt := inClass (top 72) 4
abbrev s_ProductCount_many_differing : Stmt := inClass (top 72) 5
abbrev s_ProductCount_far_pairs : Stmt := inClass (top 72) 6
abbrev s_ProductCount_still : Stmt := inClass (top 72) 7
abbrev s_ProductCount_fails : Stmt := inClass (top 72) 8
abbrev s_rows_by_pairs : Stmt := top 73
abbrev s_factors_in : Stmt := top 74
abbrev s_row_fails_in : Stmt := top 75
abbrev s_missed_by : Stmt := top 76
abbrev s_fails_in : Stmt := top 77
abbrev s_fail_counts : Stmt := top 78
abbrev s__law_box : Stmt := top 80
abbrev s__law_take : Stmt := top 81
abbrev s__law_cells : Stmt := top 82
abbrev s__law_of : Stmt := top 83
abbrev s__law_pick : Stmt := top 84
abbrev s__law_mixed : Stmt := top 85
abbrev s__law_same : Stmt := top 86
abbrev s__law_gcd : Stmt := top 87
abbrev s__law_some_equations : Stmt := top 88
abbrev s__law_pairs : Stmt := top 89
abbrev s__law_odd : Stmt := top 90
abbrev s__law_bit : Stmt := top 91
abbrev s__law_some_told : Stmt := top 92
abbrev s__law_share : Stmt := top 93
abbrev s__law_wide : Stmt := top 94
abbrev s__law_lined : Stmt := top 95
abbrev s__law_ones : Stmt := top 96
abbrev s__law_heard : Stmt := top 97
abbrev s_law : Stmt := top 98
def d__wall : He.DefD := ⟨("_wall", none), "_wall", "_wall", defArgs s__wall, defBody s__wall, defScope s__wall, [], []⟩
def d_is_number : He.DefD := ⟨("is_number", none), "is_number", "is_number", defArgs s_is_number, defBody s_is_number, defScope s_is_number, [], []⟩
def d_is_from : He.DefD := ⟨("is_from", none), "is_from", "is_from", defArgs s_is_from, defBody s_is_from, defScope s_is_from, [], []⟩
def d_is_within : He.DefD := ⟨("is_within", none), "is_within", "is_within", defArgs s_is_within, defBody s_is_within, defScope s_is_within, [], []⟩
def d_is_long : He.DefD := ⟨("is_long", none), "is_long", "is_long", defArgs s_is_long, defBody s_is_long, defScope s_is_long, [], []⟩
def d_tupled : He.DefD := ⟨("tupled", none), "tupled", "tupled", defArgs s_tupled, defBody s_tupled, defScope s_tupled, [], []⟩
def d_ascends : He.DefD := ⟨("ascends", none), "ascends", "ascends", defArgs s_ascends, defBody s_ascends, defScope s_ascends, [], []⟩
def d_sure_from : He.DefD := ⟨("sure_from", none), "sure_from", "sure_from", defArgs s_sure_from, defBody s_sure_from, defScope s_sure_from, [], []⟩
def d_is_bit : He.DefD := ⟨("is_bit", none), "is_bit", "is_bit", defArgs s_is_bit, defBody s_is_bit, defScope s_is_bit, [], []⟩
def d_odd : He.DefD := ⟨("odd", none), "odd", "odd", defArgs s_odd, defBody s_odd, defScope s_odd, [], []⟩
def d_common : He.DefD := ⟨("common", none), "common", "common", defArgs s_common, defBody s_common, defScope s_common, [], []⟩
def d_fraction : He.DefD := ⟨("fraction", none), "fraction", "fraction", defArgs s_fraction, defBody s_fraction, defScope s_fraction, [], []⟩
def d_sums_in : He.DefD := ⟨("sums_in", none), "sums_in", "sums_in", defArgs s_sums_in, defBody s_sums_in, defScope s_sums_in, [], []⟩
def d_straight_in : He.DefD := ⟨("straight_in", none), "straight_in", "straight_in", defArgs s_straight_in, defBody s_straight_in, defScope s_straight_in, [], []⟩
def d_nearest_in : He.DefD := ⟨("nearest_in", none), "nearest_in", "nearest_in", defArgs s_nearest_in, defBody s_nearest_in, defScope s_nearest_in, [], []⟩
def d_is_told : He.DefD := ⟨("is_told", none), "is_told", "is_told", defArgs s_is_told, defBody s_is_told, defScope s_is_told, [], []⟩
def d_sure_told_table : He.DefD := ⟨("sure_told_table", none), "sure_told_table", "sure_told_table", defArgs s_sure_told_table, defBody s_sure_told_table, defScope s_sure_told_table, [], []⟩
def d_sure_place_of : He.DefD := ⟨("sure_place_of", none), "sure_place_of", "sure_place_of", defArgs s_sure_place_of, defBody s_sure_place_of, defScope s_sure_place_of, [], []⟩
def d_bit_in : He.DefD := ⟨("bit_in", none), "bit_in", "bit_in", defArgs s_bit_in, defBody s_bit_in, defScope s_bit_in, [], []⟩
def d_bit_at : He.DefD := ⟨("bit_at", none), "bit_at", "bit_at", defArgs s_bit_at, defBody s_bit_at, defScope s_bit_at, [], []⟩
def d_changed : He.DefD := ⟨("changed", none), "changed", "changed", defArgs s_changed, defBody s_changed, defScope s_changed, [], []⟩
def d_full_in : He.DefD := ⟨("full_in", none), "full_in", "full_in", defArgs s_full_in, defBody s_full_in, defScope s_full_in, [], []⟩
def d_nearest_told : He.DefD := ⟨("nearest_told", none), "nearest_told", "nearest_told", defArgs s_nearest_told, defBody s_nearest_told, defScope s_nearest_told, [], []⟩
def d_nearest_row : He.DefD := ⟨("nearest_row", none), "nearest_row", "nearest_row", defArgs s_nearest_row, defBody s_nearest_row, defScope s_nearest_row, [], []⟩
def d_meetings : He.DefD := ⟨("meetings", none), "meetings", "meetings", defArgs s_meetings, defBody s_meetings, defScope s_meetings, [], []⟩
def d_unlike_far_in : He.DefD := ⟨("unlike_far_in", none), "unlike_far_in", "unlike_far_in", defArgs s_unlike_far_in, defBody s_unlike_far_in, defScope s_unlike_far_in, [], []⟩
def d_unlike_far : He.DefD := ⟨("unlike_far", none), "unlike_far", "unlike_far", defArgs s_unlike_far, defBody s_unlike_far, defScope s_unlike_far, [], []⟩
def d_corrected : He.DefD := ⟨("corrected", none), "corrected", "corrected", defArgs s_corrected, defBody s_corrected, defScope s_corrected, [], []⟩
def d_right_share : He.DefD := ⟨("right_share", none), "right_share", "right_share", defArgs s_right_share, defBody s_right_share, defScope s_right_share, [], []⟩
def d_triples_in : He.DefD := ⟨("triples_in", none), "triples_in", "triples_in", defArgs s_triples_in, defBody s_triples_in, defScope s_triples_in, [], []⟩
def d_line_fails_in : He.DefD := ⟨("line_fails_in", none), "line_fails_in", "line_fails_in", defArgs s_line_fails_in, defBody s_line_fails_in, defScope s_line_fails_in, [], []⟩
def d_line_fails : He.DefD := ⟨("line_fails", none), "line_fails", "line_fails", defArgs s_line_fails, defBody s_line_fails, defScope s_line_fails, [], []⟩
def d_ones_in : He.DefD := ⟨("ones_in", none), "ones_in", "ones_in", defArgs s_ones_in, defBody s_ones_in, defScope s_ones_in, [], []⟩
def d_many_ones : He.DefD := ⟨("many_ones", none), "many_ones", "many_ones", defArgs s_many_ones, defBody s_many_ones, defScope s_many_ones, [], []⟩
def d_straight_told : He.DefD := ⟨("straight_told", none), "straight_told", "straight_told", defArgs s_straight_told, defBody s_straight_told, defScope s_straight_told, [], []⟩
def d_Ladder_init : He.DefD := ⟨("Ladder", some "__init__"), "__init__", "Ladder.__init__", defArgs s_Ladder_init, defBody s_Ladder_init, defScope s_Ladder_init, [], []⟩
def d_Ladder_lowered : He.DefD := ⟨("Ladder", some "lowered"), "lowered", "Ladder.lowered", defArgs s_Ladder_lowered, defBody s_Ladder_lowered, defScope s_Ladder_lowered, [], []⟩
def d_Ladder_put : He.DefD := ⟨("Ladder", some "put"), "put", "Ladder.put", defArgs s_Ladder_put, defBody s_Ladder_put, defScope s_Ladder_put, [], []⟩
def d_ladder_of : He.DefD := ⟨("ladder_of", none), "ladder_of", "ladder_of", defArgs s_ladder_of, defBody s_ladder_of, defScope s_ladder_of, [], []⟩
def d_made_of : He.DefD := ⟨("made_of", none), "made_of", "made_of", defArgs s_made_of, defBody s_made_of, defScope s_made_of, [], []⟩
def d_places_of : He.DefD := ⟨("places_of", none), "places_of", "places_of", defArgs s_places_of, defBody s_places_of, defScope s_places_of, [], []⟩
def d_is_pair_row : He.DefD := ⟨("is_pair_row", none), "is_pair_row", "is_pair_row", defArgs s_is_pair_row, defBody s_is_pair_row, defScope s_is_pair_row, [], []⟩
def d_ascends_pairs : He.DefD := ⟨("ascends_pairs", none), "ascends_pairs", "ascends_pairs", defArgs s_ascends_pairs, defBody s_ascends_pairs, defScope s_ascends_pairs, [], []⟩
def d_is_row : He.DefD := ⟨("is_row", none), "is_row", "is_row", defArgs s_is_row, defBody s_is_row, defScope s_is_row, [], []⟩
def d_is_equations : He.DefD := ⟨("is_equations", none), "is_equations", "is_equations", defArgs s_is_equations, defBody s_is_equations, defScope s_is_equations, [], []⟩
def d_sure_equations : He.DefD := ⟨("sure_equations", none), "sure_equations", "sure_equations", defArgs s_sure_equations, defBody s_sure_equations, defScope s_sure_equations, [], []⟩
def d_wide_of : He.DefD := ⟨("wide_of", none), "wide_of", "wide_of", defArgs s_wide_of, defBody s_wide_of, defScope s_wide_of, [], []⟩
def d_pair_number : He.DefD := ⟨("pair_number", none), "pair_number", "pair_number", defArgs s_pair_number, defBody s_pair_number, defScope s_pair_number, [], []⟩
def d_product_in : He.DefD := ⟨("product_in", none), "product_in", "product_in", defArgs s_product_in, defBody s_product_in, defScope s_product_in, [], []⟩
def d_row_place : He.DefD := ⟨("row_place", none), "row_place", "row_place", defArgs s_row_place, defBody s_row_place, defScope s_row_place, [], []⟩
def d_is_proof_in : He.DefD := ⟨("is_proof_in", none), "is_proof_in", "is_proof_in", defArgs s_is_proof_in, defBody s_is_proof_in, defScope s_is_proof_in, [], []⟩
def d_is_proof : He.DefD := ⟨("is_proof", none), "is_proof", "is_proof", defArgs s_is_proof, defBody s_is_proof, defScope s_is_proof, [], []⟩
def d_sure_proof : He.DefD := ⟨("sure_proof", none), "sure_proof", "sure_proof", defArgs s_sure_proof, defBody s_sure_proof, defScope s_sure_proof, [], []⟩
def d_draw_sizes : He.DefD := ⟨("draw_sizes", none), "draw_sizes", "draw_sizes", defArgs s_draw_sizes, defBody s_draw_sizes, defScope s_draw_sizes, [], []⟩
def d_many_draws_in : He.DefD := ⟨("many_draws_in", none), "many_draws_in", "many_draws_in", defArgs s_many_draws_in, defBody s_many_draws_in, defScope s_many_draws_in, [], []⟩
def d_many_draws : He.DefD := ⟨("many_draws", none), "many_draws", "many_draws", defArgs s_many_draws, defBody s_many_draws, defScope s_many_draws, [], []⟩
def d_mirror_rows : He.DefD := ⟨("mirror_rows", none), "mirror_rows", "mirror_rows", defArgs s_mirror_rows, defBody s_mirror_rows, defScope s_mirror_rows, [], []⟩
def d_square_times : He.DefD := ⟨("square_times", none), "square_times", "square_times", defArgs s_square_times, defBody s_square_times, defScope s_square_times, [], []⟩
def d_ProductCount_init : He.DefD := ⟨("ProductCount", some "__init__"), "__init__", "ProductCount.__init__", defArgs s_ProductCount_init, defBody s_ProductCount_init, defScope s_ProductCount_init, [], []⟩
def d_ProductCount_unlike : He.DefD := ⟨("ProductCount", some "unlike"), "unlike", "ProductCount.unlike", defArgs s_ProductCount_unlike, defBody s_ProductCount_unlike, defScope s_ProductCount_unlike, [], []⟩
def d_ProductCount_differs : He.DefD := ⟨("ProductCount", some "differs"), "differs", "ProductCount.differs", defArgs s_ProductCount_differs, defBody s_ProductCount_differs, defScope s_ProductCount_differs, [], []⟩
def d_ProductCount_fails_at : He.DefD := ⟨("ProductCount", some "fails_at"), "fails_at", "ProductCount.fails_at", defArgs s_ProductCount_fails_at, defBody s_ProductCount_fails_at, defScope s_ProductCount_fails_at, [], []⟩
def d_ProductCount_ones_with : He.DefD := ⟨("ProductCount", some "ones_with"), "ones_with", "ProductCount.ones_with", defArgs s_ProductCount_ones_with, defBody s_ProductCount_ones_with, defScope s_ProductCount_ones_with, [], []⟩
def d_ProductCount_many_differing : He.DefD := ⟨("ProductCount", some "many_differing"), "many_differing", "ProductCount.many_differing", defArgs s_ProductCount_many_differing, defBody s_ProductCount_many_differing, defScope s_ProductCount_many_differing, [], []⟩
def d_ProductCount_far_pairs : He.DefD := ⟨("ProductCount", some "far_pairs"), "far_pairs", "ProductCount.far_pairs", defArgs s_ProductCount_far_pairs, defBody s_ProductCount_far_pairs, defScope s_ProductCount_far_pairs, [], []⟩
def d_ProductCount_still : He.DefD := ⟨("ProductCount", some "still"), "still", "ProductCount.still", defArgs s_ProductCount_still, defBody s_ProductCount_still, defScope s_ProductCount_still, [], []⟩
def d_ProductCount_fails : He.DefD := ⟨("ProductCount", some "fails"), "fails", "ProductCount.fails", defArgs s_ProductCount_fails, defBody s_ProductCount_fails, defScope s_ProductCount_fails, [], []⟩
def d_rows_by_pairs : He.DefD := ⟨("rows_by_pairs", none), "rows_by_pairs", "rows_by_pairs", defArgs s_rows_by_pairs, defBody s_rows_by_pairs, defScope s_rows_by_pairs, [], []⟩
def d_factors_in : He.DefD := ⟨("factors_in", none), "factors_in", "factors_in", defArgs s_factors_in, defBody s_factors_in, defScope s_factors_in, [], []⟩
def d_row_fails_in : He.DefD := ⟨("row_fails_in", none), "row_fails_in", "row_fails_in", defArgs s_row_fails_in, defBody s_row_fails_in, defScope s_row_fails_in, [], []⟩
def d_missed_by : He.DefD := ⟨("missed_by", none), "missed_by", "missed_by", defArgs s_missed_by, defBody s_missed_by, defScope s_missed_by, [], []⟩
def d_fails_in : He.DefD := ⟨("fails_in", none), "fails_in", "fails_in", defArgs s_fails_in, defBody s_fails_in, defScope s_fails_in, [], []⟩
def d_fail_counts : He.DefD := ⟨("fail_counts", none), "fail_counts", "fail_counts", defArgs s_fail_counts, defBody s_fail_counts, defScope s_fail_counts, [], []⟩
def d__law_box : He.DefD := ⟨("_law_box", none), "_law_box", "_law_box", defArgs s__law_box, defBody s__law_box, defScope s__law_box, [], []⟩
def d__law_take : He.DefD := ⟨("_law_take", none), "_law_take", "_law_take", defArgs s__law_take, defBody s__law_take, defScope s__law_take, [], []⟩
def d__law_cells : He.DefD := ⟨("_law_cells", none), "_law_cells", "_law_cells", defArgs s__law_cells, defBody s__law_cells, defScope s__law_cells, [], []⟩
def d__law_of : He.DefD := ⟨("_law_of", none), "_law_of", "_law_of", defArgs s__law_of, defBody s__law_of, defScope s__law_of, [], []⟩
def d__law_pick : He.DefD := ⟨("_law_pick", none), "_law_pick", "_law_pick", defArgs s__law_pick, defBody s__law_pick, defScope s__law_pick, [], []⟩
def d__law_mixed : He.DefD := ⟨("_law_mixed", none), "_law_mixed", "_law_mixed", defArgs s__law_mixed, defBody s__law_mixed, defScope s__law_mixed, [], []⟩
def d__law_same : He.DefD := ⟨("_law_same", none), "_law_same", "_law_same", defArgs s__law_same, defBody s__law_same, defScope s__law_same, [], []⟩
def d__law_gcd : He.DefD := ⟨("_law_gcd", none), "_law_gcd", "_law_gcd", defArgs s__law_gcd, defBody s__law_gcd, defScope s__law_gcd, [], []⟩
def d__law_some_equations : He.DefD := ⟨("_law_some_equations", none), "_law_some_equations", "_law_some_equations", defArgs s__law_some_equations, defBody s__law_some_equations, defScope s__law_some_equations, [], []⟩
def d__law_pairs : He.DefD := ⟨("_law_pairs", none), "_law_pairs", "_law_pairs", defArgs s__law_pairs, defBody s__law_pairs, defScope s__law_pairs, [], []⟩
def d__law_odd : He.DefD := ⟨("_law_odd", none), "_law_odd", "_law_odd", defArgs s__law_odd, defBody s__law_odd, defScope s__law_odd, [], []⟩
def d__law_bit : He.DefD := ⟨("_law_bit", none), "_law_bit", "_law_bit", defArgs s__law_bit, defBody s__law_bit, defScope s__law_bit, [], []⟩
def d__law_some_told : He.DefD := ⟨("_law_some_told", none), "_law_some_told", "_law_some_told", defArgs s__law_some_told, defBody s__law_some_told, defScope s__law_some_told, [], []⟩
def d__law_share : He.DefD := ⟨("_law_share", none), "_law_share", "_law_share", defArgs s__law_share, defBody s__law_share, defScope s__law_share, [], []⟩
def d__law_wide : He.DefD := ⟨("_law_wide", none), "_law_wide", "_law_wide", defArgs s__law_wide, defBody s__law_wide, defScope s__law_wide, [], []⟩
def d__law_lined : He.DefD := ⟨("_law_lined", none), "_law_lined", "_law_lined", defArgs s__law_lined, defBody s__law_lined, defScope s__law_lined, [], []⟩
def d__law_ones : He.DefD := ⟨("_law_ones", none), "_law_ones", "_law_ones", defArgs s__law_ones, defBody s__law_ones, defScope s__law_ones, [], []⟩
def d__law_heard : He.DefD := ⟨("_law_heard", none), "_law_heard", "_law_heard", defArgs s__law_heard, defBody s__law_heard, defScope s__law_heard, [], []⟩
def d_law : He.DefD := ⟨("law", none), "law", "law", defArgs s_law, defBody s_law, defScope s_law, [], []⟩
def exB (K : PySem.W.Frag) : Bool := Sh.isB K "CanNot" "ValueError" true && (Sh.isB K "Unfit" "ValueError" true && (He.tupB K "KINDS" [(.str "first"), (.str "second"), (.str "product"), (.str "rows")] && (true)))
def fnL_0 : List He.DefD := [d__wall, d_is_number, d_is_from, d_is_within, d_is_long, d_tupled, d_ascends, d_sure_from, d_is_bit, d_odd, d_common, d_fraction, d_sums_in, d_straight_in, d_nearest_in, d_is_told, d_sure_told_table, d_sure_place_of, d_bit_in, d_bit_at, d_changed, d_full_in, d_nearest_told, d_nearest_row, d_meetings, d_unlike_far_in, d_unlike_far, d_corrected, d_right_share, d_triples_in]
def fnL_1 : List He.DefD := [d_line_fails_in, d_line_fails, d_ones_in, d_many_ones, d_straight_told, d_Ladder_init, d_Ladder_lowered, d_Ladder_put, d_ladder_of, d_made_of, d_places_of, d_is_pair_row, d_ascends_pairs, d_is_row, d_is_equations, d_sure_equations, d_wide_of, d_pair_number, d_product_in, d_row_place, d_is_proof_in, d_is_proof, d_sure_proof, d_draw_sizes, d_many_draws_in, d_many_draws, d_mirror_rows, d_square_times, d_ProductCount_init, d_ProductCount_unlike]
def fnL_2 : List He.DefD := [d_ProductCount_differs, d_ProductCount_fails_at, d_ProductCount_ones_with, d_ProductCount_many_differing, d_ProductCount_far_pairs, d_ProductCount_still, d_ProductCount_fails, d_rows_by_pairs, d_factors_in, d_row_fails_in, d_missed_by, d_fails_in, d_fail_counts, d__law_box, d__law_take, d__law_cells, d__law_of, d__law_pick, d__law_mixed, d__law_same, d__law_gcd, d__law_some_equations, d__law_pairs, d__law_odd, d__law_bit, d__law_some_told, d__law_share, d__law_wide, d__law_lined, d__law_ones]
def fnL_3 : List He.DefD := [d__law_heard, d_law]
def fnL : List He.DefD := fnL_0 ++ fnL_1 ++ fnL_2 ++ fnL_3
def faL_0 : List He.Fa := [.glo "_wall", .glo "is_number", .glo "is_from", .glo "is_within", .glo "is_long", .glo "tupled", .glo "ascends", .glo "sure_from", .glo "is_bit", .glo "odd", .glo "common", .glo "fraction", .glo "sums_in", .glo "straight_in", .glo "nearest_in", .glo "is_told", .glo "sure_told_table", .glo "sure_place_of", .glo "bit_in", .glo "bit_at", .glo "changed", .glo "full_in", .glo "nearest_told", .glo "nearest_row", .glo "meetings", .glo "unlike_far_in", .glo "unlike_far", .glo "corrected", .glo "right_share", .glo "triples_in"]
def faL_1 : List He.Fa := [.glo "line_fails_in", .glo "line_fails", .glo "ones_in", .glo "many_ones", .glo "straight_told", .glo "ladder_of", .glo "made_of", .glo "places_of", .glo "is_pair_row", .glo "ascends_pairs", .glo "is_row", .glo "is_equations", .glo "sure_equations", .glo "wide_of", .glo "pair_number", .glo "product_in", .glo "row_place", .glo "is_proof_in", .glo "is_proof", .glo "sure_proof", .glo "draw_sizes", .glo "many_draws_in", .glo "many_draws", .glo "mirror_rows", .glo "square_times", .glo "rows_by_pairs", .glo "factors_in", .glo "row_fails_in", .glo "missed_by", .glo "fails_in"]
def faL_2 : List He.Fa := [.glo "fail_counts", .glo "_law_box", .glo "_law_take", .glo "_law_cells", .glo "_law_of", .glo "_law_pick", .glo "_law_mixed", .glo "_law_same", .glo "_law_gcd", .glo "_law_some_equations", .glo "_law_pairs", .glo "_law_odd", .glo "_law_bit", .glo "_law_some_told", .glo "_law_share", .glo "_law_wide", .glo "_law_lined", .glo "_law_ones", .glo "_law_heard", .glo "law", .free "ValueError", .free "abs", .free "all", .free "any", .free "bool", .free "enumerate", .free "int", .free "isinstance", .free "len", .free "list"]
def faL_3 : List He.Fa := [.free "max", .free "min", .free "range", .free "set", .free "sorted", .free "str", .free "sum", .free "tuple", .free "zip", .int "MOST_LONG" 820, .int "MOST_CHANGES" 24, .int "MOST_UNKNOWNS" 40, .int "MOST_ROWS" 60, .glo "KINDS", .glo "CanNot", .exc "CanNot", .glo "Unfit", .exc "Unfit", .glo "Ladder", .cls "Ladder", .mkr "Ladder", .noat "Ladder" "many", .noat "Ladder" "rungs", .noat "Ladder" "kernel", .meth "Ladder" "lowered", .meth "Ladder" "put", .glo "ProductCount", .cls "ProductCount", .mkr "ProductCount", .noat "ProductCount" "wide"]
def faL_4 : List He.Fa := [.noat "ProductCount" "square", .noat "ProductCount" "meets", .noat "ProductCount" "many", .noat "ProductCount" "first", .noat "ProductCount" "second", .meth "ProductCount" "unlike", .meth "ProductCount" "differs", .meth "ProductCount" "fails_at", .meth "ProductCount" "ones_with", .meth "ProductCount" "many_differing", .meth "ProductCount" "far_pairs", .meth "ProductCount" "still", .meth "ProductCount" "fails", .exm "CanNot" "CanNot" true, .exm "Unfit" "CanNot" false]
def faL : List He.Fa := faL_0 ++ faL_1 ++ faL_2 ++ faL_3 ++ faL_4
def loose_0 : List PySem.Str := ["_wall", "CanNot", "Unfit", "is_number", "is_from", "is_within", "is_long", "tupled", "ascends", "sure_from", "is_bit", "odd", "common", "fraction", "sums_in", "straight_in", "nearest_in", "MOST_LONG", "MOST_CHANGES", "is_told", "sure_told_table", "sure_place_of", "bit_in", "bit_at", "changed", "full_in", "nearest_told", "nearest_row", "meetings", "unlike_far_in"]
def loose_1 : List PySem.Str := ["unlike_far", "corrected", "right_share", "triples_in", "line_fails_in", "line_fails", "ones_in", "many_ones", "straight_told", "Ladder", "ladder_of", "made_of", "places_of", "MOST_UNKNOWNS", "MOST_ROWS", "is_pair_row", "ascends_pairs", "is_row", "is_equations", "sure_equations", "wide_of", "pair_number", "product_in", "row_place", "is_proof_in", "is_proof", "sure_proof", "KINDS", "draw_sizes", "many_draws_in"]
def loose_2 : List PySem.Str := ["many_draws", "mirror_rows", "square_times", "ProductCount", "rows_by_pairs", "factors_in", "row_fails_in", "missed_by", "fails_in", "fail_counts", "_law_box", "_law_take", "_law_cells", "_law_of", "_law_pick", "_law_mixed", "_law_same", "_law_gcd", "_law_some_equations", "_law_pairs", "_law_odd", "_law_bit", "_law_some_told", "_law_share", "_law_wide", "_law_lined", "_law_ones", "_law_heard"]
def loose : List PySem.Str := loose_0 ++ loose_1 ++ loose_2
end Q
set_option Elab.async false
set_option linter.all false
set_option maxRecDepth 100000
set_option maxHeartbeats 0
namespace Q
open PySem PySem.Spec PyProof.Rows L2 Sh
abbrev HRow : PySem.W.OpenRow := PySem.W.OpenLaw.row PySem.Challenge.rw_twoshown_k69_across_tables_changed_place
/-- the objects that the facts lean on: the module's dict, what it names, their code, the classes' dicts and methods -/
def kidF (g : Addr → Option Obj) (a : Addr) : List Addr := a :: match g a with
  | some o => (match o.data with
    | .func fd => He.refV fd.code
    | _ => [])
  | none => []
def valsD (g : Addr → Option Obj) (a : Addr) : List Addr := match g a with
  | some o => (match o.data with
    | .dict es _ => es.toList.flatMap fun e => He.refV e.val
    | _ => [])
  | none => []
def kidC (g : Addr → Option Obj) (a : Addr) : List Addr := match g a with
  | some o => (match o.data with
    | .func fd => a :: He.refV fd.code
    | .cls cd => a :: cd.ns :: (valsD g cd.ns).flatMap (kidF g)
    | .seq _ _ => [a]
    | _ => [])
  | none => []
def asX (g : Addr → Option Obj) : List Addr := mainGlobals :: (valsD g mainGlobals).flatMap (kidC g)
def obsX (fa : List He.Fa) (fn : List He.DefD) (ex : PySem.W.Frag → Bool) (g : Addr → Option Obj) : He.AlD × Bool := (He.obsD fa fn (He.frG g (asX g)), ex (He.frG g (asX g)))
def hookX (fa : List He.Fa) (fn : List He.DefD) (ex : PySem.W.Frag → Bool) : PySem.W.Hook where
  α := He.AlD × Bool
  obs := fun s => obsX fa fn ex s.heap.get?
  val := fun _ => (He.valD fn, true)
  says := fun _ h => ∃ K : PySem.W.Frag, K.In h ∧ He.SaysD fa fn K ∧ ex K = true
  of := fun _ _ e => ⟨_, He.frG_in, (Prod.mk.inj e).1, (Prod.mk.inj e).2⟩
  keeps := fun _ _ _ ⟨K, hK, c⟩ k => ⟨K, PySem.W.Frag.In.keeps hK k, c⟩
theorem obsX_eq {fa : List He.Fa} {fn : List He.DefD} {ex : PySem.W.Frag → Bool} {g : Addr → Option Obj} {s : Shared} (h : ∀ a, g a = s.heap.get? a) : obsX fa fn ex g = (hookX fa fn ex).obs s := by
  have e : g = s.heap.get? := funext h
  rw [e] <;> rfl
abbrev hk : PySem.W.Hook := hookX faL fnL exB
def ob (s : PySem.W.SharedT) : He.AlD × Bool := obsX faL fnL exB (HandSHeadRun.getT s)
theorem ob_eq (s : PySem.W.SharedT) : ob s = hk.obs s.abs := obsX_eq (HandSHeadRun.getT_eq s)
theorem run (w : World) : HandSHeadRun.RunEq HRow (PySem.W.view HRow.prog [98]) hk ob 20000 loose w := by
  intro os
  kernel_rfl
end Q
set_option Elab.async false
set_option linter.all false
set_option maxRecDepth 100000
set_option maxHeartbeats 0
namespace Q
open PySem PySem.Spec PyProof.Rows L2 Sh
abbrev Hyp (K : PySem.W.Frag) (h : Heap) (mg : Str → Option Value) : Prop := K.In h ∧ h.Ns mainGlobals mg ∧ He.SaysD faL fnL K ∧ exB K = true
def lay : Nat → Str × List Str
  | 0 => ("Ladder", ["many", "rungs", "kernel"])
  | 1 => ("ProductCount", ["wide", "square", "meets", "many", "first", "second"])
  | _ => ("", [])
def GG (K : PySem.W.Frag) : Gam := ⟨K, lay, ⟨[], []⟩⟩
section
variable {P : Program} {w : World} {K : PySem.W.Frag} {mg : Str → Option Value} {base h : Heap}
theorem g__wall (Z : Hyp K h mg) : mg "_wall" = some (.ref (He.ga K "_wall")) := He.glo_ok Z.1 Z.2.1 (Z.2.2.1.fact 0 (f := .glo "_wall") rfl)
theorem g_is_number (Z : Hyp K h mg) : mg "is_number" = some (.ref (He.ga K "is_number")) := He.glo_ok Z.1 Z.2.1 (Z.2.2.1.fact 1 (f := .glo "is_number") rfl)
theorem g_is_from (Z : Hyp K h mg) : mg "is_from" = some (.ref (He.ga K "is_from")) := He.glo_ok Z.1 Z.2.1 (Z.2.2.1.fact 2 (f := .glo "is_from") rfl)
theorem g_is_within (Z : Hyp K h mg) : mg "is_within" = some (.ref (He.ga K "is_within")) := He.glo_ok Z.1 Z.2.1 (Z.2.2.1.fact 3 (f := .glo "is_within") rfl)
theorem g_is_long (Z : Hyp K h mg) : mg "is_long" = some (.ref (He.ga K "is_long")) := He.glo_ok Z.1 Z.2.1 (Z.2.2.1.fact 4 (f := .glo "is_long") rfl)
theorem g_tupled (Z : Hyp K h mg) : mg "tupled" = some (.ref (He.ga K "tupled")) := He.glo_ok Z.1 Z.2.1 (Z.2.2.1.fact 5 (f := .glo "tupled") rfl)
theorem g_ascends (Z : Hyp K h mg) : mg "ascends" = some (.ref (He.ga K "ascends")) := He.glo_ok Z.1 Z.2.1 (Z.2.2.1.fact 6 (f := .glo "ascends") rfl)
theorem g_sure_from (Z : Hyp K h mg) : mg "sure_from" = some (.ref (He.ga K "sure_from")) := He.glo_ok Z.1 Z.2.1 (Z.2.2.1.fact 7 (f := .glo "sure_from") rfl)
theorem g_is_bit (Z : Hyp K h mg) : mg "is_bit" = some (.ref (He.ga K "is_bit")) := He.glo_ok Z.1 Z.2.1 (Z.2.2.1.fact 8 (f := .glo "is_bit") rfl)
theorem g_odd (Z : Hyp K h mg) : mg "odd" = some (.ref (He.ga K "odd")) := He.glo_ok Z.1 Z.2.1 (Z.2.2.1.fact 9 (f := .glo "odd") rfl)
theorem g_common (Z : Hyp K h mg) : mg "common" = some (.ref (He.ga K "common")) := He.glo_ok Z.1 Z.2.1 (Z.2.2.1.fact 10 (f := .glo "common") rfl)
theorem g_fraction (Z : Hyp K h mg) : mg "fraction" = some (.ref (He.ga K "fraction")) := He.glo_ok Z.1 Z.2.1 (Z.2.2.1.fact 11 (f := .glo "fraction") rfl)
theorem g_sums_in (Z : Hyp K h mg) : mg "sums_in" = some (.ref (He.ga K "sums_in")) := He.glo_ok Z.1 Z.2.1 (Z.2.2.1.fact 12 (f := .glo "sums_in") rfl)
theorem g_straight_in (Z : Hyp K h mg) : mg "straight_in" = some (.ref (He.ga K "straight_in")) := He.glo_ok Z.1 Z.2.1 (Z.2.2.1.fact 13 (f := .glo "straight_in") rfl)
theorem g_nearest_in (Z : Hyp K h mg) : mg "nearest_in" = some (.ref (He.ga K "nearest_in")) := He.glo_ok Z.1 Z.2.1 (Z.2.2.1.fact 14 (f := .glo "nearest_in") rfl)
theorem g_is_told (Z : Hyp K h mg) : mg "is_told" = some (.ref (He.ga K "is_told")) := He.glo_ok Z.1 Z.2.1 (Z.2.2.1.fact 15 (f := .glo "is_told") rfl)
theorem g_sure_told_table (Z : Hyp K h mg) : mg "sure_told_table" = some (.ref (He.ga K "sure_told_table")) := He.glo_ok Z.1 Z.2.1 (Z.2.2.1.fact 16 (f := .glo "sure_told_table") rfl)
theorem g_sure_place_of (Z : Hyp K h mg) : mg "sure_place_of" = some (.ref (He.ga K "sure_place_of")) := He.glo_ok Z.1 Z.2.1 (Z.2.2.1.fact 17 (f := .glo "sure_place_of") rfl)
theorem g_bit_in (Z : Hyp K h mg) : mg "bit_in" = some (.ref (He.ga K "bit_in")) := He.glo_ok Z.1 Z.2.1 (Z.2.2.1.fact 18 (f := .glo "bit_in") rfl)
theorem g_bit_at (Z : Hyp K h mg) : mg "bit_at" = some (.ref (He.ga K "bit_at")) := He.glo_ok Z.1 Z.2.1 (Z.2.2.1.fact 19 (f := .glo "bit_at") rfl)
theorem g_changed (Z : Hyp K h mg) : mg "changed" = some (.ref (He.ga K "changed")) := He.glo_ok Z.1 Z.2.1 (Z.2.2.1.fact 20 (f := .glo "changed") rfl)
theorem g_full_in (Z : Hyp K h mg) : mg "full_in" = some (.ref (He.ga K "full_in")) := He.glo_ok Z.1 Z.2.1 (Z.2.2.1.fact 21 (f := .glo "full_in") rfl)
theorem g_nearest_told (Z : Hyp K h mg) : mg "nearest_told" = some (.ref (He.ga K "nearest_told")) := He.glo_ok Z.1 Z.2.1 (Z.2.2.1.fact 22 (f := .glo "nearest_told") rfl)
theorem g_nearest_row (Z : Hyp K h mg) : mg "nearest_row" = some (.ref (He.ga K "nearest_row")) := He.glo_ok Z.1 Z.2.1 (Z.2.2.1.fact 23 (f := .glo "nearest_row") rfl)
theorem g_meetings (Z : Hyp K h mg) : mg "meetings" = some (.ref (He.ga K "meetings")) := He.glo_ok Z.1 Z.2.1 (Z.2.2.1.fact 24 (f := .glo "meetings") rfl)
theorem g_unlike_far_in (Z : Hyp K h mg) : mg "unlike_far_in" = some (.ref (He.ga K "unlike_far_in")) := He.glo_ok Z.1 Z.2.1 (Z.2.2.1.fact 25 (f := .glo "unlike_far_in") rfl)
theorem g_unlike_far (Z : Hyp K h mg) : mg "unlike_far" = some (.ref (He.ga K "unlike_far")) := He.glo_ok Z.1 Z.2.1 (Z.2.2.1.fact 26 (f := .glo "unlike_far") rfl)
theorem g_corrected (Z : Hyp K h mg) : mg "corrected" = some (.ref (He.ga K "corrected")) := He.glo_ok Z.1 Z.2.1 (Z.2.2.1.fact 27 (f := .glo "corrected") rfl)
theorem g_right_share (Z : Hyp K h mg) : mg "right_share" = some (.ref (He.ga K "right_share")) := He.glo_ok Z.1 Z.2.1 (Z.2.2.1.fact 28 (f := .glo "right_share") rfl)
theorem g_triples_in (Z : Hyp K h mg) : mg "triples_in" = some (.ref (He.ga K "triples_in")) := He.glo_ok Z.1 Z.2.1 (Z.2.2.1.fact 29 (f := .glo "triples_in") rfl)
theorem g_line_fails_in (Z : Hyp K h mg) : mg "line_fails_in" = some (.ref (He.ga K "line_fails_in")) := He.glo_ok Z.1 Z.2.1 (Z.2.2.1.fact 30 (f := .glo "line_fails_in") rfl)
theorem g_line_fails (Z : Hyp K h mg) : mg "line_fails" = some (.ref (He.ga K "line_fails")) := He.glo_ok Z.1 Z.2.1 (Z.2.2.1.fact 31 (f := .glo "line_fails") rfl)
theorem g_ones_in (Z : Hyp K h mg) : mg "ones_in" = some (.ref (He.ga K "ones_in")) := He.glo_ok Z.1 Z.2.1 (Z.2.2.1.fact 32 (f := .glo "ones_in") rfl)
theorem g_many_ones (Z : Hyp K h mg) : mg "many_ones" = some (.ref (He.ga K "many_ones")) := He.glo_ok Z.1 Z.2.1 (Z.2.2.1.fact 33 (f := .glo "many_ones") rfl)
theorem g_straight_told (Z : Hyp K h mg) : mg "straight_told" = some (.ref (He.ga K "straight_told")) := He.glo_ok Z.1 Z.2.1 (Z.2.2.1.fact 34 (f := .glo "straight_told") rfl)
theorem g_ladder_of (Z : Hyp K h mg) : mg "ladder_of" = some (.ref (He.ga K "ladder_of")) := He.glo_ok Z.1 Z.2.1 (Z.2.2.1.fact 35 (f := .glo "ladder_of") rfl)
theorem g_made_of (Z : Hyp K h mg) : mg "made_of" = some (.ref (He.ga K "made_of")) := He.glo_ok Z.1 Z.2.1 (Z.2.2.1.fact 36 (f := .glo "made_of") rfl)
theorem g_places_of (Z : Hyp K h mg) : mg "places_of" = some (.ref (He.ga K "places_of")) := He.glo_ok Z.1 Z.2.1 (Z.2.2.1.fact 37 (f := .glo "places_of") rfl)
theorem g_is_pair_row (Z : Hyp K h mg) : mg "is_pair_row" = some (.ref (He.ga K "is_pair_row")) := He.glo_ok Z.1 Z.2.1 (Z.2.2.1.fact 38 (f := .glo "is_pair_row") rfl)
theorem g_ascends_pairs (Z : Hyp K h mg) : mg "ascends_pairs" = some (.ref (He.ga K "ascends_pairs")) := He.glo_ok Z.1 Z.2.1 (Z.2.2.1.fact 39 (f := .glo "ascends_pairs") rfl)
theorem g_is_row (Z : Hyp K h mg) : mg "is_row" = some (.ref (He.ga K "is_row")) := He.glo_ok Z.1 Z.2.1 (Z.2.2.1.fact 40 (f := .glo "is_row") rfl)
theorem g_is_equations (Z : Hyp K h mg) : mg "is_equations" = some (.ref (He.ga K "is_equations")) := He.glo_ok Z.1 Z.2.1 (Z.2.2.1.fact 41 (f := .glo "is_equations") rfl)
theorem g_sure_equations (Z : Hyp K h mg) : mg "sure_equations" = some (.ref (He.ga K "sure_equations")) := He.glo_ok Z.1 Z.2.1 (Z.2.2.1.fact 42 (f := .glo "sure_equations") rfl)
theorem g_wide_of (Z : Hyp K h mg) : mg "wide_of" = some (.ref (He.ga K "wide_of")) := He.glo_ok Z.1 Z.2.1 (Z.2.2.1.fact 43 (f := .glo "wide_of") rfl)
theorem g_pair_number (Z : Hyp K h mg) : mg "pair_number" = some (.ref (He.ga K "pair_number")) := He.glo_ok Z.1 Z.2.1 (Z.2.2.1.fact 44 (f := .glo "pair_number") rfl)
theorem g_product_in (Z : Hyp K h mg) : mg "product_in" = some (.ref (He.ga K "product_in")) := He.glo_ok Z.1 Z.2.1 (Z.2.2.1.fact 45 (f := .glo "product_in") rfl)
theorem g_row_place (Z : Hyp K h mg) : mg "row_place" = some (.ref (He.ga K "row_place")) := He.glo_ok Z.1 Z.2.1 (Z.2.2.1.fact 46 (f := .glo "row_place") rfl)
theorem g_is_proof_in (Z : Hyp K h mg) : mg "is_proof_in" = some (.ref (He.ga K "is_proof_in")) := He.glo_ok Z.1 Z.2.1 (Z.2.2.1.fact 47 (f := .glo "is_proof_in") rfl)
theorem g_is_proof (Z : Hyp K h mg) : mg "is_proof" = some (.ref (He.ga K "is_proof")) := He.glo_ok Z.1 Z.2.1 (Z.2.2.1.fact 48 (f := .glo "is_proof") rfl)
theorem g_sure_proof (Z : Hyp K h mg) : mg "sure_proof" = some (.ref (He.ga K "sure_proof")) := He.glo_ok Z.1 Z.2.1 (Z.2.2.1.fact 49 (f := .glo "sure_proof") rfl)
theorem g_draw_sizes (Z : Hyp K h mg) : mg "draw_sizes" = some (.ref (He.ga K "draw_sizes")) := He.glo_ok Z.1 Z.2.1 (Z.2.2.1.fact 50 (f := .glo "draw_sizes") rfl)
theorem g_many_draws_in (Z : Hyp K h mg) : mg "many_draws_in" = some (.ref (He.ga K "many_draws_in")) := He.glo_ok Z.1 Z.2.1 (Z.2.2.1.fact 51 (f := .glo "many_draws_in") rfl)
theorem g_many_draws (Z : Hyp K h mg) : mg "many_draws" = some (.ref (He.ga K "many_draws")) := He.glo_ok Z.1 Z.2.1 (Z.2.2.1.fact 52 (f := .glo "many_draws") rfl)
theorem g_mirror_rows (Z : Hyp K h mg) : mg "mirror_rows" = some (.ref (He.ga K "mirror_rows")) := He.glo_ok Z.1 Z.2.1 (Z.2.2.1.fact 53 (f := .glo "mirror_rows") rfl)
theorem g_square_times (Z : Hyp K h mg) : mg "square_times" = some (.ref (He.ga K "square_times")) := He.glo_ok Z.1 Z.2.1 (Z.2.2.1.fact 54 (f := .glo "square_times") rfl)
theorem g_rows_by_pairs (Z : Hyp K h mg) : mg "rows_by_pairs" = some (.ref (He.ga K "rows_by_pairs")) := He.glo_ok Z.1 Z.2.1 (Z.2.2.1.fact 55 (f := .glo "rows_by_pairs") rfl)
theorem g_factors_in (Z : Hyp K h mg) : mg "factors_in" = some (.ref (He.ga K "factors_in")) := He.glo_ok Z.1 Z.2.1 (Z.2.2.1.fact 56 (f := .glo "factors_in") rfl)
theorem g_row_fails_in (Z : Hyp K h mg) : mg "row_fails_in" = some (.ref (He.ga K "row_fails_in")) := He.glo_ok Z.1 Z.2.1 (Z.2.2.1.fact 57 (f := .glo "row_fails_in") rfl)
theorem g_missed_by (Z : Hyp K h mg) : mg "missed_by" = some (.ref (He.ga K "missed_by")) := He.glo_ok Z.1 Z.2.1 (Z.2.2.1.fact 58 (f := .glo "missed_by") rfl)
theorem g_fails_in (Z : Hyp K h mg) : mg "fails_in" = some (.ref (He.ga K "fails_in")) := He.glo_ok Z.1 Z.2.1 (Z.2.2.1.fact 59 (f := .glo "fails_in") rfl)
theorem g_fail_counts (Z : Hyp K h mg) : mg "fail_counts" = some (.ref (He.ga K "fail_counts")) := He.glo_ok Z.1 Z.2.1 (Z.2.2.1.fact 60 (f := .glo "fail_counts") rfl)
theorem g__law_box (Z : Hyp K h mg) : mg "_law_box" = some (.ref (He.ga K "_law_box")) := He.glo_ok Z.1 Z.2.1 (Z.2.2.1.fact 61 (f := .glo "_law_box") rfl)
theorem g__law_take (Z : Hyp K h mg) : mg "_law_take" = some (.ref (He.ga K "_law_take")) := He.glo_ok Z.1 Z.2.1 (Z.2.2.1.fact 62 (f := .glo "_law_take") rfl)
theorem g__law_cells (Z : Hyp K h mg) : mg "_law_cells" = some (.ref (He.ga K "_law_cells")) := He.glo_ok Z.1 Z.2.1 (Z.2.2.1.fact 63 (f := .glo "_law_cells") rfl)
theorem g__law_of (Z : Hyp K h mg) : mg "_law_of" = some (.ref (He.ga K "_law_of")) := He.glo_ok Z.1 Z.2.1 (Z.2.2.1.fact 64 (f := .glo "_law_of") rfl)
theorem g__law_pick (Z : Hyp K h mg) : mg "_law_pick" = some (.ref (He.ga K "_law_pick")) := He.glo_ok Z.1 Z.2.1 (Z.2.2.1.fact 65 (f := .glo "_law_pick") rfl)
theorem g__law_mixed (Z : Hyp K h mg) : mg "_law_mixed" = some (.ref (He.ga K "_law_mixed")) := He.glo_ok Z.1 Z.2.1 (Z.2.2.1.fact 66 (f := .glo "_law_mixed") rfl)
theorem g__law_same (Z : Hyp K h mg) : mg "_law_same" = some (.ref (He.ga K "_law_same")) := He.glo_ok Z.1 Z.2.1 (Z.2.2.1.fact 67 (f := .glo "_law_same") rfl)
theorem g__law_gcd (Z : Hyp K h mg) : mg "_law_gcd" = some (.ref (He.ga K "_law_gcd")) := He.glo_ok Z.1 Z.2.1 (Z.2.2.1.fact 68 (f := .glo "_law_gcd") rfl)
theorem g__law_some_equations (Z : Hyp K h mg) : mg "_law_some_equations" = some (.ref (He.ga K "_law_some_equations")) := He.glo_ok Z.1 Z.2.1 (Z.2.2.1.fact 69 (f := .glo "_law_some_equations") rfl)
theorem g__law_pairs (Z : Hyp K h mg) : mg "_law_pairs" = some (.ref (He.ga K "_law_pairs")) := He.glo_ok Z.1 Z.2.1 (Z.2.2.1.fact 70 (f := .glo "_law_pairs") rfl)
theorem g__law_odd (Z : Hyp K h mg) : mg "_law_odd" = some (.ref (He.ga K "_law_odd")) := He.glo_ok Z.1 Z.2.1 (Z.2.2.1.fact 71 (f := .glo "_law_odd") rfl)
theorem g__law_bit (Z : Hyp K h mg) : mg "_law_bit" = some (.ref (He.ga K "_law_bit")) := He.glo_ok Z.1 Z.2.1 (Z.2.2.1.fact 72 (f := .glo "_law_bit") rfl)
theorem g__law_some_told (Z : Hyp K h mg) : mg "_law_some_told" = some (.ref (He.ga K "_law_some_told")) := He.glo_ok Z.1 Z.2.1 (Z.2.2.1.fact 73 (f := .glo "_law_some_told") rfl)
theorem g__law_share (Z : Hyp K h mg) : mg "_law_share" = some (.ref (He.ga K "_law_share")) := He.glo_ok Z.1 Z.2.1 (Z.2.2.1.fact 74 (f := .glo "_law_share") rfl)
theorem g__law_wide (Z : Hyp K h mg) : mg "_law_wide" = some (.ref (He.ga K "_law_wide")) := He.glo_ok Z.1 Z.2.1 (Z.2.2.1.fact 75 (f := .glo "_law_wide") rfl)
theorem g__law_lined (Z : Hyp K h mg) : mg "_law_lined" = some (.ref (He.ga K "_law_lined")) := He.glo_ok Z.1 Z.2.1 (Z.2.2.1.fact 76 (f := .glo "_law_lined") rfl)
theorem g__law_ones (Z : Hyp K h mg) : mg "_law_ones" = some (.ref (He.ga K "_law_ones")) := He.glo_ok Z.1 Z.2.1 (Z.2.2.1.fact 77 (f := .glo "_law_ones") rfl)
theorem g__law_heard (Z : Hyp K h mg) : mg "_law_heard" = some (.ref (He.ga K "_law_heard")) := He.glo_ok Z.1 Z.2.1 (Z.2.2.1.fact 78 (f := .glo "_law_heard") rfl)
theorem g_law (Z : Hyp K h mg) : mg "law" = some (.ref (He.ga K "law")) := He.glo_ok Z.1 Z.2.1 (Z.2.2.1.fact 79 (f := .glo "law") rfl)
theorem m_ValueError (Z : Hyp K h mg) : mg "ValueError" = none := He.free_ok Z.1 Z.2.1 (Z.2.2.1.fact 80 (f := .free "ValueError") rfl)
theorem m_abs (Z : Hyp K h mg) : mg "abs" = none := He.free_ok Z.1 Z.2.1 (Z.2.2.1.fact 81 (f := .free "abs") rfl)
theorem m_all (Z : Hyp K h mg) : mg "all" = none := He.free_ok Z.1 Z.2.1 (Z.2.2.1.fact 82 (f := .free "all") rfl)
theorem m_any (Z : Hyp K h mg) : mg "any" = none := He.free_ok Z.1 Z.2.1 (Z.2.2.1.fact 83 (f := .free "any") rfl)
theorem m_bool (Z : Hyp K h mg) : mg "bool" = none := He.free_ok Z.1 Z.2.1 (Z.2.2.1.fact 84 (f := .free "bool") rfl)
theorem m_enumerate (Z : Hyp K h mg) : mg "enumerate" = none := He.free_ok Z.1 Z.2.1 (Z.2.2.1.fact 85 (f := .free "enumerate") rfl)
theorem m_int (Z : Hyp K h mg) : mg "int" = none := He.free_ok Z.1 Z.2.1 (Z.2.2.1.fact 86 (f := .free "int") rfl)
theorem m_isinstance (Z : Hyp K h mg) : mg "isinstance" = none := He.free_ok Z.1 Z.2.1 (Z.2.2.1.fact 87 (f := .free "isinstance") rfl)
theorem m_len (Z : Hyp K h mg) : mg "len" = none := He.free_ok Z.1 Z.2.1 (Z.2.2.1.fact 88 (f := .free "len") rfl)
theorem m_list (Z : Hyp K h mg) : mg "list" = none := He.free_ok Z.1 Z.2.1 (Z.2.2.1.fact 89 (f := .free "list") rfl)
theorem m_max (Z : Hyp K h mg) : mg "max" = none := He.free_ok Z.1 Z.2.1 (Z.2.2.1.fact 90 (f := .free "max") rfl)
theorem m_min (Z : Hyp K h mg) : mg "min" = none := He.free_ok Z.1 Z.2.1 (Z.2.2.1.fact 91 (f := .free "min") rfl)
theorem m_range (Z : Hyp K h mg) : mg "range" = none := He.free_ok Z.1 Z.2.1 (Z.2.2.1.fact 92 (f := .free "range") rfl)
theorem m_set (Z : Hyp K h mg) : mg "set" = none := He.free_ok Z.1 Z.2.1 (Z.2.2.1.fact 93 (f := .free "set") rfl)
theorem m_sorted (Z : Hyp K h mg) : mg "sorted" = none := He.free_ok Z.1 Z.2.1 (Z.2.2.1.fact 94 (f := .free "sorted") rfl)
theorem m_str (Z : Hyp K h mg) : mg "str" = none := He.free_ok Z.1 Z.2.1 (Z.2.2.1.fact 95 (f := .free "str") rfl)
theorem m_sum (Z : Hyp K h mg) : mg "sum" = none := He.free_ok Z.1 Z.2.1 (Z.2.2.1.fact 96 (f := .free "sum") rfl)
theorem m_tuple (Z : Hyp K h mg) : mg "tuple" = none := He.free_ok Z.1 Z.2.1 (Z.2.2.1.fact 97 (f := .free "tuple") rfl)
theorem m_zip (Z : Hyp K h mg) : mg "zip" = none := He.free_ok Z.1 Z.2.1 (Z.2.2.1.fact 98 (f := .free "zip") rfl)
theorem k_MOST_LONG (Z : Hyp K h mg) : ∃ t, mg "MOST_LONG" = some (.int 820 t) := He.int_ok Z.1 Z.2.1 (Z.2.2.1.fact 99 (f := .int "MOST_LONG" 820) rfl)
theorem k_MOST_CHANGES (Z : Hyp K h mg) : ∃ t, mg "MOST_CHANGES" = some (.int 24 t) := He.int_ok Z.1 Z.2.1 (Z.2.2.1.fact 100 (f := .int "MOST_CHANGES" 24) rfl)
theorem k_MOST_UNKNOWNS (Z : Hyp K h mg) : ∃ t, mg "MOST_UNKNOWNS" = some (.int 40 t) := He.int_ok Z.1 Z.2.1 (Z.2.2.1.fact 101 (f := .int "MOST_UNKNOWNS" 40) rfl)
theorem k_MOST_ROWS (Z : Hyp K h mg) : ∃ t, mg "MOST_ROWS" = some (.int 60 t) := He.int_ok Z.1 Z.2.1 (Z.2.2.1.fact 102 (f := .int "MOST_ROWS" 60) rfl)
theorem g_CanNot (Z : Hyp K h mg) : mg "CanNot" = some (.ref (He.ga K "CanNot")) := He.glo_ok Z.1 Z.2.1 (Z.2.2.1.fact 104 (f := .glo "CanNot") rfl)
theorem g_Unfit (Z : Hyp K h mg) : mg "Unfit" = some (.ref (He.ga K "Unfit")) := He.glo_ok Z.1 Z.2.1 (Z.2.2.1.fact 106 (f := .glo "Unfit") rfl)
theorem g_Ladder (Z : Hyp K h mg) : mg "Ladder" = some (.ref (He.ga K "Ladder")) := He.glo_ok Z.1 Z.2.1 (Z.2.2.1.fact 108 (f := .glo "Ladder") rfl)
theorem g_ProductCount (Z : Hyp K h mg) : mg "ProductCount" = some (.ref (He.ga K "ProductCount")) := He.glo_ok Z.1 Z.2.1 (Z.2.2.1.fact 116 (f := .glo "ProductCount") rfl)
theorem mt_CanNot_ok (Z : Hyp K h mg) : ∀ c b, mt_CanNot c = some b → PySem.W.exmOne (GG K).K (.ref (He.ga (GG K).K c)) (.ref (He.ga K "CanNot")) = some b := by
  intro c b h
  unfold mt_CanNot at h
  split at h
  · rename_i e; subst e; cases h; exact He.exm_ok (Z.2.2.1.fact 134 (f := .exm "Unfit" "CanNot" false) rfl)
  split at h
  · rename_i e; subst e; cases h; exact He.exm_ok (Z.2.2.1.fact 133 (f := .exm "CanNot" "CanNot" true) rfl)
  cases h
theorem is_ValueError_ok (Z : Hyp K h mg) : ∀ c b, is_ValueError c = some b → ExcC (GG K).K (He.ga (GG K).K c) ∧ PySem.W.kitOne (GG K).K (.ref (He.ga (GG K).K c)) (.type "ValueError") = some b := by
  intro c b h
  unfold is_ValueError at h
  split at h
  · rename_i e; subst e; cases h; exact isB_ok ((He.ba Z.2.2.2).1)
  split at h
  · rename_i e; subst e; cases h; exact isB_ok ((He.ba (He.ba Z.2.2.2).2).1)
  cases h
theorem kc_KINDS (Z : Hyp K h mg) : mg "KINDS" = some (.ref (He.ga K "KINDS")) ∧ (∀ H', SqT (GG K).K H' (He.ga K "KINDS") [(.str "first"), (.str "second"), (.str "product"), (.str "rows")]) ∧ ∀ (P : Prt) m H, RVs ((GG K).on P) m H [(.str "first"), (.str "second"), (.str "product"), (.str "rows")] [(.str "first"), (.str "second"), (.str "product"), (.str "rows")] := ⟨He.glo_ok Z.1 Z.2.1 (Z.2.2.1.fact 103 (f := .glo "KINDS") rfl), fun H' => He.tupB_ok ((He.ba (He.ba (He.ba Z.2.2.2).2).2).1) H', fun P m H => (.cons (.str _) (.cons (.str _) (.cons (.str _) (.cons (.str _) .nil))))⟩
theorem cf_Ladder (Z : Hyp K h mg) : ClsF (GG K) 0 "Ladder" ["many", "rungs", "kernel"] := ⟨rfl, He.cls_ok (Z.2.2.1.fact 109 (f := .cls "Ladder") rfl), fun x hx => by
    simp only [List.mem_cons, List.mem_nil_iff, or_false, List.not_mem_nil] at hx
    rcases hx with rfl | rfl | rfl
    · exact He.noat_ok (Z.2.2.1.fact 111 (f := .noat "Ladder" "many") rfl)
    · exact He.noat_ok (Z.2.2.1.fact 112 (f := .noat "Ladder" "rungs") rfl)
    · exact He.noat_ok (Z.2.2.1.fact 113 (f := .noat "Ladder" "kernel") rfl)
⟩
theorem cf_ProductCount (Z : Hyp K h mg) : ClsF (GG K) 1 "ProductCount" ["wide", "square", "meets", "many", "first", "second"] := ⟨rfl, He.cls_ok (Z.2.2.1.fact 117 (f := .cls "ProductCount") rfl), fun x hx => by
    simp only [List.mem_cons, List.mem_nil_iff, or_false, List.not_mem_nil] at hx
    rcases hx with rfl | rfl | rfl | rfl | rfl | rfl
    · exact He.noat_ok (Z.2.2.1.fact 119 (f := .noat "ProductCount" "wide") rfl)
    · exact He.noat_ok (Z.2.2.1.fact 120 (f := .noat "ProductCount" "square") rfl)
    · exact He.noat_ok (Z.2.2.1.fact 121 (f := .noat "ProductCount" "meets") rfl)
    · exact He.noat_ok (Z.2.2.1.fact 122 (f := .noat "ProductCount" "many") rfl)
    · exact He.noat_ok (Z.2.2.1.fact 123 (f := .noat "ProductCount" "first") rfl)
    · exact He.noat_ok (Z.2.2.1.fact 124 (f := .noat "ProductCount" "second") rfl)
⟩
theorem xf_CanNot (Z : Hyp K h mg) : ExcF P w K mg "CanNot" := excF_of (Z.2.2.1.fact 105 (f := .exc "CanNot") rfl) (g_CanNot Z)
theorem xf_Unfit (Z : Hyp K h mg) : ExcF P w K mg "Unfit" := excF_of (Z.2.2.1.fact 107 (f := .exc "Unfit") rfl) (g_Unfit Z)
theorem sc__law_odd : FnScope ["number_so", "found", "lap"] ["number_so"] (defScope s__law_odd) := ⟨rfl, rfl, rfl, by decide +kernel, rfl, by decide +kernel, by decide +kernel⟩
theorem ok__law_odd (Z : Hyp K h mg) : Fk (GG K) P w K mg base 1 "_law_odd" F__law_odd := by
  obtain ⟨fd, F⟩ := Z.2.2.1.def_ 83 (d := d__law_odd) rfl
  refine ⟨_, fd, ["number_so"], fn_pop F sc__law_odd rfl rfl (fun cdv A outer s H E hr => ?_), g__law_odd Z, F.kp, F.bindsN fun _ _ _ _ _ _ us hl => match us, hl with | [_], _ => rfl⟩
  have c : Ct (GG K) (cxOf (L2.CX P w) P w K mg base _ "_law_odd" (defScope s__law_odd) _ cdv A outer s H E) 0 := ⟨rfl, hr, rfl, sc__law_odd.nd⟩
  exact (ss_cons (ss_st 1 c se_int)
    (ss_cons (ss_for (vs := [0, 1, 2]) cx_passes c.hc (si_range1 rfl (m_range Z) (sa_cons se_int sa_nil)) (gv 2 c)
    (ss_cons (ss_if (st_cmp (op_eqS c.hu) (fun _ => sim_eq) (sv 0) se_int (nomark _))
    (ss_one ss_break)
    ss_nil)
    (ss_one (ss_p2 1 0 c (sa_cons (se_op op_catS (fun _ => sim_cat) (sv 1) (se_op op_mod (fun _ => sim_mod) (se_ct call_int1 (fun _ => csim_int) rfl (m_int Z) PyProof.Rows.boot_int (sa_cons (sv 0) sa_nil)) se_int)) (sa_cons (se_op op_fdivW (fun _ => sim_div) (sv 0) se_int) sa_nil))))))
    (ss_one (ss_ret (se_op op_mod (fun _ => sim_mod) (se_ct call_int1 (fun _ => csim_int) rfl (m_int Z) PyProof.Rows.boot_int (sa_cons (sv 1) sa_nil)) se_int)))))
theorem sc__law_bit : FnScope ["table_so", "place_so"] ["table_so", "place_so"] (defScope s__law_bit) := ⟨rfl, rfl, rfl, by decide +kernel, rfl, by decide +kernel, by decide +kernel⟩
theorem ok__law_bit (Z : Hyp K h mg) : Fk (GG K) P w K mg base 2 "_law_bit" F__law_bit := by
  obtain ⟨fd, F⟩ := Z.2.2.1.def_ 84 (d := d__law_bit) rfl
  have o__law_odd := (ok__law_odd (P := P) (w := w) (base := base) Z).mono (k := 1) (by decide)
  refine ⟨_, fd, ["table_so", "place_so"], fn_pop F sc__law_bit rfl rfl (fun cdv A outer s H E hr => ?_), g__law_bit Z, F.kp, F.bindsN fun _ _ _ _ _ _ us hl => match us, hl with | [_, _], _ => rfl⟩
  have c : Ct (GG K) (cxOf (L2.CX P w) P w K mg base _ "_law_bit" (defScope s__law_bit) _ cdv A outer s H E) 1 := ⟨rfl, hr, rfl, sc__law_bit.nd⟩
  exact (ss_one (ss_ret (se_op op_xor (fun _ => sim_xor) (se_call o__law_odd c.hr rfl cx_takes (sa_cons (se_op op_and (fun _ => sim_and) (se_ix c.hu c.hK (sv 0) se_int (fun _ _ => rfl)) (sv 1)) sa_nil)) (se_ct call_int1 (fun _ => csim_int) rfl (m_int Z) PyProof.Rows.boot_int (sa_cons (se_cmp (op_inS c.hu) (fun _ => sim_in) (sv 1) (se_ix c.hu c.hK (sv 0) se_int (fun _ _ => rfl)) (by with_unfolding_all rfl)) sa_nil)))))
theorem sc__law_box : FnScope ["script", "k", "bit_so"] ["script", "k"] (defScope s__law_box) := ⟨rfl, rfl, rfl, by decide +kernel, rfl, by decide +kernel, by decide +kernel⟩
theorem ok__law_box (Z : Hyp K h mg) : Fk (GG K) P w K mg base 1 "_law_box" F__law_box := by
  obtain ⟨fd, F⟩ := Z.2.2.1.def_ 73 (d := d__law_box) rfl
  refine ⟨_, fd, ["script", "k"], fn_keep F sc__law_box rfl rfl (fun cdv A outer s H E hr => ?_), g__law_box Z, F.kp, F.bindsN fun _ _ _ _ _ _ us hl => match us, hl with | [_, _], _ => rfl⟩
  have c : Ct (GG K) (cxOf (L2.CX P w) P w K mg base _ "_law_box" (defScope s__law_box) _ cdv A outer s H E) 0 := ⟨rfl, hr, rfl, sc__law_box.nd⟩
  exact (ss_cons (ss_st 2 c (se_if (st_cmp (op_ltS c.hu) (fun _ => sim_ltS) (sv 1) (se_cb call_lenS (fun _ => csim_len) rfl (m_len Z) boot_len (sa_cons (sv 0) sa_nil)) (nomark _)) (se_ix c.hu c.hK (sv 0) (sv 1) (fun _ _ => rfl)) se_int))
    (ss_one (ss_ret (se_lstM (sa_cons (se_op op_mulS (fun _ => sim_mul) (se_cb call_abs (fun _ => csim_abs) rfl (m_abs Z) PyProof.Rows.boot_abs (sa_cons (sv 2) sa_nil)) (se_ct call_int1 (fun _ => csim_int) rfl (m_int Z) PyProof.Rows.boot_int (sa_cons (se_cmp op_ge (fun _ => sim_ge) (se_cb call_abs (fun _ => csim_abs) rfl (m_abs Z) PyProof.Rows.boot_abs (sa_cons (sv 2) sa_nil)) (se_op op_pow (fun _ => sim_pow) se_int se_int) (nomark _)) sa_nil))) (sa_cons (se_op op_catS (fun _ => sim_cat) (se_op op_catS (fun _ => sim_cat) (se_op op_mod (fun _ => sim_mod) (se_ct call_int1 (fun _ => csim_int) rfl (m_int Z) PyProof.Rows.boot_int (sa_cons (sv 2) sa_nil)) se_int) (se_op op_mulS (fun _ => sim_mul) se_int (sv 1))) se_int) (sa_cons se_int sa_nil)))))))
theorem sc__law_cells : FnScope ["script", "most_so", "cells_so", "k", "bit_so", "at_so"] ["script", "most_so"] (defScope s__law_cells) := ⟨rfl, rfl, rfl, by decide +kernel, rfl, by decide +kernel, by decide +kernel⟩
theorem ok__law_cells (Z : Hyp K h mg) : Fk (GG K) P w K mg base 1 "_law_cells" F__law_cells := by
  obtain ⟨fd, F⟩ := Z.2.2.1.def_ 75 (d := d__law_cells) rfl
  refine ⟨_, fd, ["script", "most_so"], fn_pop F sc__law_cells rfl rfl (fun cdv A outer s H E hr => ?_), g__law_cells Z, F.kp, F.bindsN fun _ _ _ _ _ _ us hl => match us, hl with | [_, _], _ => rfl⟩
  have c : Ct (GG K) (cxOf (L2.CX P w) P w K mg base _ "_law_cells" (defScope s__law_cells) _ cdv A outer s H E) 0 := ⟨rfl, hr, rfl, sc__law_cells.nd⟩
  exact (ss_cons (ss_st 2 c (se_or c.hK (se_ctM call_list_of (fun _ => lsim_list) rfl (m_list Z) PyProof.Rows.boot_list (sa_cons (se_slice c.hK (sv 0) so_no (so_yes (sv 1))) sa_nil)) (se_one (se_lstM (sa_cons se_int sa_nil)))))
    (ss_cons (ss_for (vs := [0, 1, 2, 3, 4, 5]) cx_passes c.hc (si_enum c.hK rfl (m_enumerate Z) (sa_cons (se_slice c.hK (sv 0) (so_yes (sv 1)) (so_yes se_int)) sa_nil)) (sg_tup c.hK c.hc (sgs_cons (gv 3 c) (sgs_cons (gv 4 c) sgs_nil)))
    (ss_cons (ss_st 5 c (se_op op_mod (fun _ => sim_mod) (se_ct call_int1 (fun _ => csim_int) rfl (m_int Z) PyProof.Rows.boot_int (sa_cons (sv 3) sa_nil)) (sv 1)))
    (ss_one (ss_asg (vs := [0, 1, 2, 3, 4, 5]) (se_op op_catS (fun _ => sim_cat) (se_ix c.hu c.hK (sv 2) (sv 5) (fun _ _ => rfl)) (se_op op_mulS (fun _ => sim_mul) (sv 4) (se_op op_catS (fun _ => sim_cat) (sv 3) se_int))) (sg_sub (W := WB E) c.hu (sv 2) (sv 5))))))
    (ss_one (ss_ret (sv 2)))))
theorem sc_is_number : FnScope ["thing"] ["thing"] (defScope s_is_number) := ⟨rfl, rfl, rfl, by decide +kernel, rfl, by decide +kernel, by decide +kernel⟩
theorem ok_is_number (Z : Hyp K h mg) : Fk (GG K) P w K mg base 1 "is_number" F_is_number := by
  obtain ⟨fd, F⟩ := Z.2.2.1.def_ 1 (d := d_is_number) rfl
  refine ⟨_, fd, ["thing"], fn_pop F sc_is_number rfl rfl (fun cdv A outer s H E hr => ?_), g_is_number Z, F.kp, F.bindsN fun _ _ _ _ _ _ us hl => match us, hl with | [_], _ => rfl⟩
  have c : Ct (GG K) (cxOf (L2.CX P w) P w K mg base _ "is_number" (defScope s_is_number) _ cdv A outer s H E) 0 := ⟨rfl, hr, rfl, sc_is_number.nd⟩
  exact (ss_one (ss_ret (se_and c.hK (se_isi1 .int c.hK rfl (m_isinstance Z) (sv 0) (pe_bltn rfl (m_int Z) PyProof.Rows.boot_int rfl)) (se_one (se_not c.hK (se_isi1 .bool c.hK rfl (m_isinstance Z) (sv 0) (pe_bltn rfl (m_bool Z) PyProof.Rows.boot_bool rfl)))))))
theorem sc_is_from : FnScope ["thing", "least"] ["thing", "least"] (defScope s_is_from) := ⟨rfl, rfl, rfl, by decide +kernel, rfl, by decide +kernel, by decide +kernel⟩
theorem ok_is_from (Z : Hyp K h mg) : Fk (GG K) P w K mg base 2 "is_from" F_is_from := by
  obtain ⟨fd, F⟩ := Z.2.2.1.def_ 2 (d := d_is_from) rfl
  have o_is_number := (ok_is_number (P := P) (w := w) (base := base) Z).mono (k := 1) (by decide)
  refine ⟨_, fd, ["thing", "least"], fn_pop F sc_is_from rfl rfl (fun cdv A outer s H E hr => ?_), g_is_from Z, F.kp, F.bindsN fun _ _ _ _ _ _ us hl => match us, hl with | [_, _], _ => rfl⟩
  have c : Ct (GG K) (cxOf (L2.CX P w) P w K mg base _ "is_from" (defScope s_is_from) _ cdv A outer s H E) 1 := ⟨rfl, hr, rfl, sc_is_from.nd⟩
  exact (ss_one (ss_ret (se_and c.hK (se_call o_is_number c.hr rfl cx_takes (sa_cons (sv 0) sa_nil)) (se_one (se_cmp op_ge (fun _ => sim_ge) (sv 0) (sv 1) (nomark _))))))
theorem sc_sure_place_of : FnScope ["table", "value"] ["table", "value"] (defScope s_sure_place_of) := ⟨rfl, rfl, rfl, by decide +kernel, rfl, by decide +kernel, by decide +kernel⟩
theorem ok_sure_place_of (Z : Hyp K h mg) : Fk (GG K) P w K mg base 3 "sure_place_of" F_sure_place_of := by
  obtain ⟨fd, F⟩ := Z.2.2.1.def_ 17 (d := d_sure_place_of) rfl
  have o_is_from := (ok_is_from (P := P) (w := w) (base := base) Z).mono (k := 2) (by decide)
  refine ⟨_, fd, ["table", "value"], fn_pop F sc_sure_place_of rfl rfl (fun cdv A outer s H E hr => ?_), g_sure_place_of Z, F.kp, F.bindsN fun _ _ _ _ _ _ us hl => match us, hl with | [_, _], _ => rfl⟩
  have c : Ct (GG K) (cxOf (L2.CX P w) P w K mg base _ "sure_place_of" (defScope s_sure_place_of) _ cdv A outer s H E) 2 := ⟨rfl, hr, rfl, sc_sure_place_of.nd⟩
  exact (ss_cons (ss_if (st_w (sw_or (st_not (st_tru c.hK (se_call o_is_from c.hr rfl cx_takes (sa_cons (sv 1) (sa_cons se_int sa_nil))) (fun _ => rfl))) (sw_or1 (st_cmp op_ge (fun _ => sim_ge) (sv 1) (se_op op_shlW (fun _ => sim_shl) se_int (se_ix c.hu c.hK (sv 0) se_int (fun _ _ => rfl))) (nomark _)))))
    (ss_one (ss_raise c.hK c.hc cx_takes (xf_Unfit Z) rfl))
    ss_nil)
    (ss_one (ss_ret (sv 1))))
theorem sc_ascends : FnScope ["row", "k"] ["row"] (defScope s_ascends) := ⟨rfl, rfl, rfl, by decide +kernel, rfl, by decide +kernel, by decide +kernel⟩
theorem ok_ascends (Z : Hyp K h mg) : Fk (GG K) P w K mg base 1 "ascends" F_ascends := by
  obtain ⟨fd, F⟩ := Z.2.2.1.def_ 6 (d := d_ascends) rfl
  refine ⟨_, fd, ["row"], fn_pop F sc_ascends rfl rfl (fun cdv A outer s H E hr => ?_), g_ascends Z, F.kp, F.bindsN fun _ _ _ _ _ _ us hl => match us, hl with | [_], _ => rfl⟩
  have c : Ct (GG K) (cxOf (L2.CX P w) P w K mg base _ "ascends" (defScope s_ascends) _ cdv A outer s H E) 0 := ⟨rfl, hr, rfl, sc_ascends.nd⟩
  exact (ss_one (ss_ret (se_cb (cr_all c.hc) (fun _ => csim_all) rfl (m_all Z) PyProof.Rows.boot_all (sa_cons (se_lc c.hc c.hN (own := [("k", 1)]) (si_range1 rfl (m_range Z) (sa_cons (se_op op_sub (fun _ => sim_sub) (se_cb call_lenS (fun _ => csim_len) rfl (m_len Z) boot_len (sa_cons (sv 0) sa_nil)) se_int) sa_nil)) (blkOk_by (by rfl)) (fun _ _ _ _ _ => (gv 1 c.blk)) (fun _ _ _ _ _ => sts_nil) (fun _ _ _ _ _ => (se_cmp (op_ltS c.blk.hu) (fun _ => sim_ltS) (se_ix c.blk.hu c.blk.hK (sv 0) (sv 1) (fun _ _ => rfl)) (se_ix c.blk.hu c.blk.hK (sv 0) (se_op op_catS (fun _ => sim_cat) (sv 1) se_int) (fun _ _ => rfl)) (nomark _)))) sa_nil))))
theorem sc_is_long : FnScope ["thing", "length"] ["thing", "length"] (defScope s_is_long) := ⟨rfl, rfl, rfl, by decide +kernel, rfl, by decide +kernel, by decide +kernel⟩
theorem ok_is_long (Z : Hyp K h mg) : Fk (GG K) P w K mg base 1 "is_long" F_is_long := by
  obtain ⟨fd, F⟩ := Z.2.2.1.def_ 4 (d := d_is_long) rfl
  refine ⟨_, fd, ["thing", "length"], fn_pop F sc_is_long rfl rfl (fun cdv A outer s H E hr => ?_), g_is_long Z, F.kp, F.bindsN fun _ _ _ _ _ _ us hl => match us, hl with | [_, _], _ => rfl⟩
  have c : Ct (GG K) (cxOf (L2.CX P w) P w K mg base _ "is_long" (defScope s_is_long) _ cdv A outer s H E) 0 := ⟨rfl, hr, rfl, sc_is_long.nd⟩
  exact (ss_one (ss_ret (se_and c.hK (se_isi1 .tup c.hK rfl (m_isinstance Z) (sv 0) (pe_bltn rfl (m_tuple Z) PyProof.Rows.boot_tuple rfl)) (se_one (se_cmp (op_eqS c.hu) (fun _ => sim_eq) (se_cb call_lenS (fun _ => csim_len) rfl (m_len Z) boot_len (sa_cons (sv 0) sa_nil)) (sv 1) (nomark _))))))
theorem sc_is_within : FnScope ["thing", "least", "most"] ["thing", "least", "most"] (defScope s_is_within) := ⟨rfl, rfl, rfl, by decide +kernel, rfl, by decide +kernel, by decide +kernel⟩
theorem ok_is_within (Z : Hyp K h mg) : Fk (GG K) P w K mg base 2 "is_within" F_is_within := by
  obtain ⟨fd, F⟩ := Z.2.2.1.def_ 3 (d := d_is_within) rfl
  have o_is_number := (ok_is_number (P := P) (w := w) (base := base) Z).mono (k := 1) (by decide)
  refine ⟨_, fd, ["thing", "least", "most"], fn_pop F sc_is_within rfl rfl (fun cdv A outer s H E hr => ?_), g_is_within Z, F.kp, F.bindsN fun _ _ _ _ _ _ us hl => match us, hl with | [_, _, _], _ => rfl⟩
  have c : Ct (GG K) (cxOf (L2.CX P w) P w K mg base _ "is_within" (defScope s_is_within) _ cdv A outer s H E) 1 := ⟨rfl, hr, rfl, sc_is_within.nd⟩
  exact (ss_one (ss_ret (se_and c.hK (se_call o_is_number c.hr rfl cx_takes (sa_cons (sv 0) sa_nil)) (se_one (se_chain op_le op_le (fun _ => sim_le) (fun _ => sim_le) (sv 1) (sv 0) (sv 2) rfl)))))
theorem sc_is_told : FnScope ["thing", "many", "row", "changes", "own"] ["thing"] (defScope s_is_told) := ⟨rfl, rfl, rfl, by decide +kernel, rfl, by decide +kernel, by decide +kernel⟩
theorem ok_is_told (Z : Hyp K h mg) : Fk (GG K) P w K mg base 3 "is_told" F_is_told := by
  obtain ⟨fd, F⟩ := Z.2.2.1.def_ 15 (d := d_is_told) rfl
  have o_ascends := (ok_ascends (P := P) (w := w) (base := base) Z).mono (k := 2) (by decide)
  have o_is_from := (ok_is_from (P := P) (w := w) (base := base) Z).mono (k := 2) (by decide)
  have o_is_long := (ok_is_long (P := P) (w := w) (base := base) Z).mono (k := 2) (by decide)
  have o_is_within := (ok_is_within (P := P) (w := w) (base := base) Z).mono (k := 2) (by decide)
  refine ⟨_, fd, ["thing"], fn_pop F sc_is_told rfl rfl (fun cdv A outer s H E hr => ?_), g_is_told Z, F.kp, F.bindsN fun _ _ _ _ _ _ us hl => match us, hl with | [_], _ => rfl⟩
  have c : Ct (GG K) (cxOf (L2.CX P w) P w K mg base _ "is_told" (defScope s_is_told) _ cdv A outer s H E) 2 := ⟨rfl, hr, rfl, sc_is_told.nd⟩
  exact (ss_cons (ss_if (st_w (sw_or (st_not (st_tru c.hK (se_call o_is_long c.hr rfl cx_takes (sa_cons (sv 0) (sa_cons se_int sa_nil))) (fun _ => rfl))) (sw_or (st_not (st_tru c.hK (se_call o_is_within c.hr rfl cx_takes (sa_cons (se_ix c.hu c.hK (sv 0) se_int (fun _ _ => rfl)) (sa_cons se_int (sa_cons (se_gint rfl (k_MOST_LONG Z)) sa_nil)))) (fun _ => rfl))) (sw_or1 (st_not (st_tru c.hK (se_isi1 .tup c.hK rfl (m_isinstance Z) (se_ix c.hu c.hK (sv 0) se_int (fun _ _ => rfl)) (pe_bltn rfl (m_tuple Z) PyProof.Rows.boot_tuple rfl)) (fun _ => rfl)))))))
    (ss_one (ss_ret se_bl))
    ss_nil)
    (ss_cons (ss_asg (vs := [0, 1, 2, 3, 4]) (sv 0) (sg_tup c.hK c.hc (sgs_cons (gv 1 c) (sgs_cons (gv 2 c) (sgs_cons (gv 3 c) sgs_nil)))))
    (ss_cons (ss_if (st_w (sw_or (st_not (st_tru c.hK (se_call o_is_from c.hr rfl cx_takes (sa_cons (sv 2) (sa_cons se_int sa_nil))) (fun _ => rfl))) (sw_or (st_cmp op_ge (fun _ => sim_ge) (sv 2) (se_op op_shlW (fun _ => sim_shl) se_int (sv 1)) (nomark _)) (sw_or1 (st_cmp op_gt (fun _ => sim_gt) (se_cb call_lenS (fun _ => csim_len) rfl (m_len Z) boot_len (sa_cons (sv 3) sa_nil)) (se_gint rfl (k_MOST_CHANGES Z)) (nomark _))))))
    (ss_one (ss_ret se_bl))
    ss_nil)
    (ss_one (ss_ret (se_and c.hK (se_cb (cr_all c.hc) (fun _ => csim_all) rfl (m_all Z) PyProof.Rows.boot_all (sa_cons (se_lc c.hc c.hN (own := [("own", 4)]) (si_sq c (sv 3)) (blkOk_by (by rfl)) (fun _ _ _ _ _ => (gv 4 c.blk)) (fun _ _ _ _ _ => sts_nil) (fun _ _ _ _ _ => (se_and c.blk.hK (se_call o_is_from c.blk.hr rfl takes0 (sa_cons (sv 4) (sa_cons se_int sa_nil))) (se_one (se_cmp (op_ltS c.blk.hu) (fun _ => sim_ltS) (sv 4) (se_op op_shlW (fun _ => sim_shl) se_int (sv 1)) (nomark _)))))) sa_nil)) (se_one (se_call o_ascends c.hr rfl cx_takes (sa_cons (sv 3) sa_nil)))))))))
theorem sc_tupled : FnScope ["value", "own"] ["value"] (defScope s_tupled) := ⟨rfl, rfl, rfl, by decide +kernel, rfl, by decide +kernel, by decide +kernel⟩
theorem ok_tupled (Z : Hyp K h mg) : ∀ n, Fk (GG K) P w K mg base (1 + n) "tupled" (F_tupled n)
  | 0 => by
    obtain ⟨fd, F⟩ := Z.2.2.1.def_ 5 (d := d_tupled) rfl
    exact ⟨_, fd, ["value"], FnOk.no, g_tupled Z, F.kp, F.bindsN fun _ _ _ _ _ _ us hl => match us, hl with | [_], _ => rfl⟩
  | n + 1 => by
    obtain ⟨fd, F⟩ := Z.2.2.1.def_ 5 (d := d_tupled) rfl
    have o_self := ok_tupled Z n
  
    refine ⟨_, fd, ["value"], fn_pop F sc_tupled rfl rfl (fun cdv A outer s H E hr => ?_), g_tupled Z, F.kp, F.bindsN fun _ _ _ _ _ _ us hl => match us, hl with | [_], _ => rfl⟩
    have c : Ct (GG K) (cxOf (L2.CX P w) P w K mg base _ "tupled" (defScope s_tupled) _ cdv A outer s H E) (1 + n) := ⟨rfl, hr, rfl, sc_tupled.nd⟩
    exact (ss_one (ss_ret (se_if (st_tru c.hK (se_isi2 .lst .tup c.hK rfl (m_isinstance Z) (sv 0) (pe_bltn rfl (m_list Z) PyProof.Rows.boot_list rfl) (pe_bltn rfl (m_tuple Z) PyProof.Rows.boot_tuple rfl)) (fun _ => rfl)) (se_ct call_tuple_of (fun _ => csim_tup) rfl (m_tuple Z) PyProof.Rows.boot_tuple (sa_cons (se_lc c.hc c.hN (own := [("own", 1)]) (si_sq c (sv 0)) (blkOk_by (by rfl)) (fun _ _ _ _ _ => (gv 1 c.blk)) (fun _ _ _ _ _ => sts_nil) (fun _ _ _ _ _ => (se_call o_self c.blk.hr rfl takes0 (sa_cons (sv 1) sa_nil)))) sa_nil)) (sv 0))))
theorem sc_sure_told_table : FnScope ["value", "own"] ["value"] (defScope s_sure_told_table) := ⟨rfl, rfl, rfl, by decide +kernel, rfl, by decide +kernel, by decide +kernel⟩
theorem ok_sure_told_table (Z : Hyp K h mg) : Fk (GG K) P w K mg base 11 "sure_told_table" F_sure_told_table := by
  obtain ⟨fd, F⟩ := Z.2.2.1.def_ 16 (d := d_sure_told_table) rfl
  have o_is_told := (ok_is_told (P := P) (w := w) (base := base) Z).mono (k := 10) (by decide)
  have o_tupled := (ok_tupled (P := P) (w := w) (base := base) Z 9).mono (k := 10) (by decide)
  refine ⟨_, fd, ["value"], fn_pop F sc_sure_told_table rfl rfl (fun cdv A outer s H E hr => ?_), g_sure_told_table Z, F.kp, F.bindsN fun _ _ _ _ _ _ us hl => match us, hl with | [_], _ => rfl⟩
  have c : Ct (GG K) (cxOf (L2.CX P w) P w K mg base _ "sure_told_table" (defScope s_sure_told_table) _ cdv A outer s H E) 10 := ⟨rfl, hr, rfl, sc_sure_told_table.nd⟩
  exact (ss_cons (ss_st 1 c (se_call o_tupled c.hr rfl cx_takes (sa_cons (sv 0) sa_nil)))
    (ss_cons (ss_if (st_not (st_tru c.hK (se_call o_is_told c.hr rfl cx_takes (sa_cons (sv 1) sa_nil)) (fun _ => rfl)))
    (ss_one (ss_raise c.hK c.hc cx_takes (xf_Unfit Z) rfl))
    ss_nil)
    (ss_one (ss_ret (sv 1)))))
theorem sc_changed : FnScope ["table", "place", "own", "spot", "rest", "one"] ["table", "place"] (defScope s_changed) := ⟨rfl, rfl, rfl, by decide +kernel, rfl, by decide +kernel, by decide +kernel⟩
theorem ok_changed (Z : Hyp K h mg) : Fk (GG K) P w K mg base 12 "changed" F_changed := by
  obtain ⟨fd, F⟩ := Z.2.2.1.def_ 20 (d := d_changed) rfl
  have o_sure_place_of := (ok_sure_place_of (P := P) (w := w) (base := base) Z).mono (k := 11) (by decide)
  have o_sure_told_table := (ok_sure_told_table (P := P) (w := w) (base := base) Z).mono (k := 11) (by decide)
  refine ⟨_, fd, ["table", "place"], fn_pop F sc_changed rfl rfl (fun cdv A outer s H E hr => ?_), g_changed Z, F.kp, F.bindsN fun _ _ _ _ _ _ us hl => match us, hl with | [_, _], _ => rfl⟩
  have c : Ct (GG K) (cxOf (L2.CX P w) P w K mg base _ "changed" (defScope s_changed) _ cdv A outer s H E) 11 := ⟨rfl, hr, rfl, sc_changed.nd⟩
  exact (ss_cons (ss_st 2 c (se_call o_sure_told_table c.hr rfl cx_takes (sa_cons (sv 0) sa_nil)))
    (ss_cons (ss_st 3 c (se_call o_sure_place_of c.hr rfl cx_takes (sa_cons (sv 2) (sa_cons (sv 1) sa_nil))))
    (ss_cons (ss_st 4 c (se_ct call_tuple_of (fun _ => csim_tup) rfl (m_tuple Z) PyProof.Rows.boot_tuple (sa_cons (se_lc c.hc c.hN (own := [("one", 5)]) (si_sq c (se_ix c.hu c.hK (sv 2) se_int (fun _ _ => rfl))) (blkOk_by (by rfl)) (fun _ _ _ _ _ => (gv 5 c.blk)) (fun _ _ _ _ _ => (sts_one (st_cmp (op_neS c.blk.hu) (fun _ => sim_ne) (sv 5) (sv 3) (nomark _)))) (fun _ _ _ _ _ => (sv 5))) sa_nil)))
    (ss_cons (ss_if (st_cmp (op_eqS c.hu) (fun _ => sim_eq) (se_cb call_lenS (fun _ => csim_len) rfl (m_len Z) boot_len (sa_cons (sv 4) sa_nil)) (se_cb call_lenS (fun _ => csim_len) rfl (m_len Z) boot_len (sa_cons (se_ix c.hu c.hK (sv 2) se_int (fun _ _ => rfl)) sa_nil)) (nomark _))
    (ss_cons (ss_if (st_cmp (op_eqS c.hu) (fun _ => sim_eq) (se_cb call_lenS (fun _ => csim_len) rfl (m_len Z) boot_len (sa_cons (sv 4) sa_nil)) (se_gint rfl (k_MOST_CHANGES Z)) (nomark _))
    (ss_one (ss_raise c.hK c.hc cx_takes (xf_CanNot Z) rfl))
    ss_nil)
    (ss_one (ss_st 4 c (se_ct call_tuple_of (fun _ => csim_tup) rfl (m_tuple Z) PyProof.Rows.boot_tuple (sa_cons (se_cbL (call_sortS c) (fun _ => lsim_sortS) rfl (m_sorted Z) PyProof.Rows.boot_sorted (sa_cons (se_op op_catS (fun _ => sim_cat) (sv 4) (se_tup (sa_cons (sv 3) sa_nil))) sa_nil)) sa_nil)))))
    ss_nil)
    (ss_one (ss_ret (se_tup (sa_cons (se_ix c.hu c.hK (sv 2) se_int (fun _ _ => rfl)) (sa_cons (se_ix c.hu c.hK (sv 2) se_int (fun _ _ => rfl)) (sa_cons (sv 4) sa_nil))))))))))
theorem sc__law_heard : FnScope ["table_so", "place_so", "slip_so", "told_so", "caught"] ["table_so", "place_so"] (defScope s__law_heard) := ⟨rfl, rfl, rfl, by decide +kernel, rfl, by decide +kernel, by decide +kernel⟩
theorem ok__law_heard (Z : Hyp K h mg) : Fk (GG K) P w K mg base 13 "_law_heard" F__law_heard := by
  obtain ⟨fd, F⟩ := Z.2.2.1.def_ 90 (d := d__law_heard) rfl
  have o_changed := (ok_changed (P := P) (w := w) (base := base) Z).mono (k := 12) (by decide)
  refine ⟨_, fd, ["table_so", "place_so"], fn_pop F sc__law_heard rfl rfl (fun cdv A outer s H E hr => ?_), g__law_heard Z, F.kp, F.bindsN fun _ _ _ _ _ _ us hl => match us, hl with | [_, _], _ => rfl⟩
  have c : Ct (GG K) (cxOf (L2.CX P w) P w K mg base _ "_law_heard" (defScope s__law_heard) _ cdv A outer s H E) 12 := ⟨rfl, hr, rfl, sc__law_heard.nd⟩
  exact (ss_cons (ss_asg (vs := [0, 1, 2, 3, 4]) (se_tup (sa_cons se_non (sa_cons se_non sa_nil))) (sg_tup c.hK c.hc (sgs_cons (gv 3 c) (sgs_cons (gv 4 c) sgs_nil))))
    (ss_cons (ss_tryI (by decide) c rfl rfl ⟨rfl, by decide, .inl (g_CanNot Z)⟩ cx_takes (fun W pn xe tk po => (ss_one (ss_st 3 c.tr (se_call o_changed c.tr.hr rfl tk (sa_cons (sv 0) (sa_cons (sv 1) sa_nil)))))) (mt_CanNot_ok Z) (is_ValueError_ok Z) rfl rfl rfl rfl (.inl rfl) rfl (m_isinstance Z) rfl (m_ValueError Z) boot_ValueError (by decide) (by decide) (by decide) (by decide) (fun Y h => by rw [h]; rfl))
    (ss_one (ss_ret (se_if (st_cmp op_isN (fun _ => sim_isN) (sv 4) se_non (nomark _)) (sv 3) (sv 4))))))
theorem sc__law_lined : FnScope ["table_so", "meets_so", "many_so", "row_so", "spots_so", "own", "far"] ["table_so"] (defScope s__law_lined) := ⟨rfl, rfl, rfl, by decide +kernel, rfl, by decide +kernel, by decide +kernel⟩
theorem ok__law_lined (Z : Hyp K h mg) : Fk (GG K) P w K mg base 1 "_law_lined" F__law_lined := by
  obtain ⟨fd, F⟩ := Z.2.2.1.def_ 88 (d := d__law_lined) rfl
  refine ⟨_, fd, ["table_so"], fn_pop F sc__law_lined rfl rfl (fun cdv A outer s H E hr => ?_), g__law_lined Z, F.kp, F.bindsN fun _ _ _ _ _ _ us hl => match us, hl with | [_], _ => rfl⟩
  have c : Ct (GG K) (cxOf (L2.CX P w) P w K mg base _ "_law_lined" (defScope s__law_lined) _ cdv A outer s H E) 0 := ⟨rfl, hr, rfl, sc__law_lined.nd⟩
  exact (ss_cons (ss_asg (vs := [0, 1, 2, 3, 4, 5, 6]) (sv 0) (sg_tup c.hK c.hc (sgs_cons (gv 2 c) (sgs_cons (gv 3 c) (sgs_cons (gv 4 c) sgs_nil)))))
    (ss_cons (ss_st 1 c (se_cb (call_sumS c.hc) (fun _ => csim_sum) rfl (m_sum Z) PyProof.Rows.boot_sum (sa_cons (se_lc c.hc c.hN (own := [("own", 5)]) (si_sq c (sv 4)) (blkOk_by (by rfl)) (fun _ _ _ _ _ => (gv 5 c.blk)) (fun _ _ _ _ _ => sts_nil) (fun _ _ _ _ _ => (se_cb call_lenS (fun _ => csim_len) rfl (m_len Z) boot_len (sa_cons (se_lc c.blk.hc c.blk.hN (own := [("far", 6)]) (si_sq c.blk (sv 4)) (blkOk_by (by rfl)) (fun _ _ _ _ _ => (gv 6 c.blk.blk)) (fun _ _ _ _ _ => (sts_one (st_cmp (op_inS c.blk.blk.hu) (fun _ => sim_in) (se_op op_xor (fun _ => sim_xor) (sv 5) (sv 6)) (sv 4) (by with_unfolding_all rfl)))) (fun _ _ _ _ _ => se_int)) sa_nil)))) sa_nil)))
    (ss_one (ss_ret (se_op op_catS (fun _ => sim_cat) (se_op op_sub (fun _ => sim_sub) (se_op op_mulS (fun _ => sim_mul) (se_op op_mulS (fun _ => sim_mul) se_int (se_cb call_lenS (fun _ => csim_len) rfl (m_len Z) boot_len (sa_cons (sv 4) sa_nil))) (se_op op_shlW (fun _ => sim_shl) se_int (sv 2))) (se_op op_mulS (fun _ => sim_mul) (se_op op_mulS (fun _ => sim_mul) se_int (se_cb call_lenS (fun _ => csim_len) rfl (m_len Z) boot_len (sa_cons (sv 4) sa_nil))) (se_cb call_lenS (fun _ => csim_len) rfl (m_len Z) boot_len (sa_cons (sv 4) sa_nil)))) (se_op op_mulS (fun _ => sim_mul) se_int (sv 1)))))))
theorem sc__law_take : FnScope ["tin", "below_so", "once_so", "wide_so", "twice_so", "drawn_so"] ["tin", "below_so"] (defScope s__law_take) := ⟨rfl, rfl, rfl, by decide +kernel, rfl, by decide +kernel, by decide +kernel⟩
theorem ok__law_take (Z : Hyp K h mg) : Fk (GG K) P w K mg base 1 "_law_take" F__law_take := by
  obtain ⟨fd, F⟩ := Z.2.2.1.def_ 74 (d := d__law_take) rfl
  refine ⟨_, fd, ["tin", "below_so"], fn_pop F sc__law_take rfl rfl (fun cdv A outer s H E hr => ?_), g__law_take Z, F.kp, F.bindsN fun _ _ _ _ _ _ us hl => match us, hl with | [_, _], _ => rfl⟩
  have c : Ct (GG K) (cxOf (L2.CX P w) P w K mg base _ "_law_take" (defScope s__law_take) _ cdv A outer s H E) 0 := ⟨rfl, hr, rfl, sc__law_take.nd⟩
  exact (ss_cons (ss_if (st_cmp op_gt (fun _ => sim_gt) (se_ix c.hu c.hK (sv 0) se_int (fun _ _ => rfl)) se_int (nomark _))
    (ss_cons (ss_st 5 c (se_op op_mod (fun _ => sim_mod) (se_ct call_int1 (fun _ => csim_int) rfl (m_int Z) PyProof.Rows.boot_int (sa_cons (se_ix c.hu c.hK (sv 0) se_int (fun _ _ => rfl)) sa_nil)) (sv 1)))
    (ss_cons (ss_asg (vs := [0, 1, 2, 3, 4, 5]) (se_op op_fdivW (fun _ => sim_div) (se_ix c.hu c.hK (sv 0) se_int (fun _ _ => rfl)) (sv 1)) (sg_sub (W := WB E) c.hu (sv 0) se_int))
    (ss_one (ss_ret (sv 5)))))
    ss_nil)
    (ss_cons (ss_asg (vs := [0, 1, 2, 3, 4, 5]) (se_op op_catS (fun _ => sim_cat) (se_ix c.hu c.hK (sv 0) se_int (fun _ _ => rfl)) se_int) (sg_sub (W := WB E) c.hu (sv 0) se_int))
    (ss_cons (ss_st 2 c (se_op op_mod (fun _ => sim_mod) (se_ct call_int1 (fun _ => csim_int) rfl (m_int Z) PyProof.Rows.boot_int (sa_cons (se_op op_mulS (fun _ => sim_mul) (se_op op_catS (fun _ => sim_cat) (se_ix c.hu c.hK (sv 0) se_int (fun _ _ => rfl)) (se_op op_mulS (fun _ => sim_mul) se_int (se_ix c.hu c.hK (sv 0) se_int (fun _ _ => rfl)))) (se_op op_catS (fun _ => sim_cat) se_int (se_ix c.hu c.hK (sv 0) se_int (fun _ _ => rfl)))) sa_nil)) se_int))
    (ss_cons (ss_st 3 c (se_op op_catS (fun _ => sim_cat) (se_op op_mod (fun _ => sim_mod) (se_ct call_int1 (fun _ => csim_int) rfl (m_int Z) PyProof.Rows.boot_int (sa_cons (sv 2) sa_nil)) se_int) se_int))
    (ss_cons (ss_st 4 c (se_op op_mod (fun _ => sim_mod) (se_ct call_int1 (fun _ => csim_int) rfl (m_int Z) PyProof.Rows.boot_int (sa_cons (se_op op_mulS (fun _ => sim_mul) (se_op op_catS (fun _ => sim_cat) (se_op op_catS (fun _ => sim_cat) (sv 2) (se_ix c.hu c.hK (sv 0) se_int (fun _ _ => rfl))) (se_op op_fdivW (fun _ => sim_div) (se_ix c.hu c.hK (sv 0) se_int (fun _ _ => rfl)) se_int)) (sv 3)) sa_nil)) se_int))
    (ss_one (ss_ret (se_op op_mod (fun _ => sim_mod) (se_ct call_int1 (fun _ => csim_int) rfl (m_int Z) PyProof.Rows.boot_int (sa_cons (se_op op_fdivW (fun _ => sim_div) (se_op op_mod (fun _ => sim_mod) (se_ct call_int1 (fun _ => csim_int) rfl (m_int Z) PyProof.Rows.boot_int (sa_cons (se_op op_catS (fun _ => sim_cat) (se_op op_mulS (fun _ => sim_mul) (sv 4) se_int) (sv 2)) sa_nil)) se_int) se_int) sa_nil)) (sv 1)))))))))
theorem sc__law_mixed : FnScope ["tin", "matter", "row_so", "bit"] ["tin", "matter"] (defScope s__law_mixed) := ⟨rfl, rfl, rfl, by decide +kernel, rfl, by decide +kernel, by decide +kernel⟩
theorem ok__law_mixed (Z : Hyp K h mg) : ∀ n, Fk (GG K) P w K mg base (2 + n) "_law_mixed" (F__law_mixed n)
  | 0 => by
    obtain ⟨fd, F⟩ := Z.2.2.1.def_ 78 (d := d__law_mixed) rfl
    exact ⟨_, fd, ["tin", "matter"], FnOk.no, g__law_mixed Z, F.kp, F.bindsN fun _ _ _ _ _ _ us hl => match us, hl with | [_, _], _ => rfl⟩
  | n + 1 => by
    obtain ⟨fd, F⟩ := Z.2.2.1.def_ 78 (d := d__law_mixed) rfl
    have o_self := ok__law_mixed Z n
    have o__law_take := (ok__law_take (P := P) (w := w) (base := base) Z).mono (k := 2 + n) (by omega)
    refine ⟨_, fd, ["tin", "matter"], fn_pop F sc__law_mixed rfl rfl (fun cdv A outer s H E hr => ?_), g__law_mixed Z, F.kp, F.bindsN fun _ _ _ _ _ _ us hl => match us, hl with | [_, _], _ => rfl⟩
    have c : Ct (GG K) (cxOf (L2.CX P w) P w K mg base _ "_law_mixed" (defScope s__law_mixed) _ cdv A outer s H E) (2 + n) := ⟨rfl, hr, rfl, sc__law_mixed.nd⟩
    exact (ss_cons (ss_if (st_not (st_tru c.hK (se_isi2 .lst .tup c.hK rfl (m_isinstance Z) (sv 1) (pe_bltn rfl (m_list Z) PyProof.Rows.boot_list rfl) (pe_bltn rfl (m_tuple Z) PyProof.Rows.boot_tuple rfl)) (fun _ => rfl)))
    (ss_one (ss_ret (sv 1)))
    ss_nil)
    (ss_cons (ss_lc 2 c (own := [("bit", 3)]) (si_sq c (sv 1)) (blkOk_by (by rfl)) (fun _ _ _ _ _ => (gv 3 c.blk)) (fun _ _ _ _ _ => sts_nil) (fun _ _ _ _ _ => (se_call o_self c.blk.hr rfl takes0 (sa_cons (sv 0) (sa_cons (sv 3) sa_nil)))))
    (ss_one (ss_ret (se_if (st_cmp (op_eqS c.hu) (fun _ => sim_eq) (se_call o__law_take c.hr rfl cx_takes (sa_cons (sv 0) (sa_cons se_int sa_nil))) se_int (nomark _)) (sv 2) (se_ct call_tuple_of (fun _ => csim_tup) rfl (m_tuple Z) PyProof.Rows.boot_tuple (sa_cons (sv 2) sa_nil)))))))
theorem sc__law_of : FnScope ["tin", "goods_so"] ["tin", "goods_so"] (defScope s__law_of) := ⟨rfl, rfl, rfl, by decide +kernel, rfl, by decide +kernel, by decide +kernel⟩
theorem ok__law_of (Z : Hyp K h mg) : Fk (GG K) P w K mg base 2 "_law_of" F__law_of := by
  obtain ⟨fd, F⟩ := Z.2.2.1.def_ 76 (d := d__law_of) rfl
  have o__law_take := (ok__law_take (P := P) (w := w) (base := base) Z).mono (k := 1) (by decide)
  refine ⟨_, fd, ["tin", "goods_so"], fn_pop F sc__law_of rfl rfl (fun cdv A outer s H E hr => ?_), g__law_of Z, F.kp, F.bindsN fun _ _ _ _ _ _ us hl => match us, hl with | [_, _], _ => rfl⟩
  have c : Ct (GG K) (cxOf (L2.CX P w) P w K mg base _ "_law_of" (defScope s__law_of) _ cdv A outer s H E) 1 := ⟨rfl, hr, rfl, sc__law_of.nd⟩
  exact (ss_one (ss_ret (se_ix c.hu c.hK (sv 1) (se_call o__law_take c.hr rfl cx_takes (sa_cons (sv 0) (sa_cons (se_cb call_lenS (fun _ => csim_len) rfl (m_len Z) boot_len (sa_cons (sv 1) sa_nil)) sa_nil))) (fun _ _ => rfl))))
theorem sc__law_ones : FnScope ["table_so", "found", "many_so", "row_so", "spots_so", "own"] ["table_so"] (defScope s__law_ones) := ⟨rfl, rfl, rfl, by decide +kernel, rfl, by decide +kernel, by decide +kernel⟩
theorem ok__law_ones (Z : Hyp K h mg) : Fk (GG K) P w K mg base 2 "_law_ones" F__law_ones := by
  obtain ⟨fd, F⟩ := Z.2.2.1.def_ 89 (d := d__law_ones) rfl
  have o__law_odd := (ok__law_odd (P := P) (w := w) (base := base) Z).mono (k := 1) (by decide)
  refine ⟨_, fd, ["table_so"], fn_pop F sc__law_ones rfl rfl (fun cdv A outer s H E hr => ?_), g__law_ones Z, F.kp, F.bindsN fun _ _ _ _ _ _ us hl => match us, hl with | [_], _ => rfl⟩
  have c : Ct (GG K) (cxOf (L2.CX P w) P w K mg base _ "_law_ones" (defScope s__law_ones) _ cdv A outer s H E) 1 := ⟨rfl, hr, rfl, sc__law_ones.nd⟩
  exact (ss_cons (ss_asg (vs := [0, 1, 2, 3, 4, 5]) (sv 0) (sg_tup c.hK c.hc (sgs_cons (gv 2 c) (sgs_cons (gv 3 c) (sgs_cons (gv 4 c) sgs_nil)))))
    (ss_cons (ss_st 1 c (se_if (st_cmp op_gt (fun _ => sim_gt) (sv 3) se_int (nomark _)) (se_op op_fdivW (fun _ => sim_div) (se_op op_shlW (fun _ => sim_shl) se_int (sv 2)) se_int) se_int))
    (ss_one (ss_ret (se_op op_catS (fun _ => sim_cat) (sv 1) (se_cb (call_sumS c.hc) (fun _ => csim_sum) rfl (m_sum Z) PyProof.Rows.boot_sum (sa_cons (se_lc c.hc c.hN (own := [("own", 5)]) (si_sq c (sv 4)) (blkOk_by (by rfl)) (fun _ _ _ _ _ => (gv 5 c.blk)) (fun _ _ _ _ _ => sts_nil) (fun _ _ _ _ _ => (se_op op_sub (fun _ => sim_sub) se_int (se_op op_mulS (fun _ => sim_mul) se_int (se_call o__law_odd c.blk.hr rfl takes0 (sa_cons (se_op op_and (fun _ => sim_and) (sv 3) (sv 5)) sa_nil)))))) sa_nil)))))))
theorem sc__law_pick : FnScope ["tin", "goods_so", "count_so", "lap", "pool_so", "found"] ["tin", "goods_so", "count_so"] (defScope s__law_pick) := ⟨rfl, rfl, rfl, by decide +kernel, rfl, by decide +kernel, by decide +kernel⟩
theorem ok__law_pick (Z : Hyp K h mg) : Fk (GG K) P w K mg base 2 "_law_pick" F__law_pick := by
  obtain ⟨fd, F⟩ := Z.2.2.1.def_ 77 (d := d__law_pick) rfl
  have o__law_take := (ok__law_take (P := P) (w := w) (base := base) Z).mono (k := 1) (by decide)
  refine ⟨_, fd, ["tin", "goods_so", "count_so"], fn_pop F sc__law_pick rfl rfl (fun cdv A outer s H E hr => ?_), g__law_pick Z, F.kp, F.bindsN fun _ _ _ _ _ _ us hl => match us, hl with | [_, _, _], _ => rfl⟩
  have c : Ct (GG K) (cxOf (L2.CX P w) P w K mg base _ "_law_pick" (defScope s__law_pick) _ cdv A outer s H E) 1 := ⟨rfl, hr, rfl, sc__law_pick.nd⟩
  exact (ss_cons (ss_p2 4 5 c (sa_cons (se_ctM call_list_of (fun _ => lsim_list) rfl (m_list Z) PyProof.Rows.boot_list (sa_cons (sv 1) sa_nil)) (sa_cons (se_lstM sa_nil) sa_nil)))
    (ss_cons (ss_for (vs := [0, 1, 2, 3, 4, 5]) cx_passes c.hc (si_range1 rfl (m_range Z) (sa_cons (se_cb (call_min2 c.hc) (fun _ => csim_min2) rfl (m_min Z) PyProof.Rows.boot_min (sa_cons (se_ct call_int1 (fun _ => csim_int) rfl (m_int Z) PyProof.Rows.boot_int (sa_cons (sv 2) sa_nil)) (sa_cons (se_cb call_lenS (fun _ => csim_len) rfl (m_len Z) boot_len (sa_cons (sv 4) sa_nil)) sa_nil))) sa_nil)) (gv 3 c)
    (ss_one (ss_expr (se_mt c.hK PySem.F.slot_list_append PySem.F.type_list_append mt_append (fun _ => msim_append) nox_append (sv 5) (sa_cons (se_mt c.hK PySem.F.slot_list_pop PySem.F.type_list_pop mt_popAt (fun _ => msim_popAt) nox_popAt (sv 4) (sa_cons (se_call o__law_take c.hr rfl cx_takes (sa_cons (sv 0) (sa_cons (se_cb call_lenS (fun _ => csim_len) rfl (m_len Z) boot_len (sa_cons (sv 4) sa_nil)) sa_nil))) sa_nil)) sa_nil)))))
    (ss_one (ss_ret (sv 5)))))
theorem sc__law_same : FnScope ["got", "due", "mine", "its"] ["got", "due"] (defScope s__law_same) := ⟨rfl, rfl, rfl, by decide +kernel, rfl, by decide +kernel, by decide +kernel⟩
theorem ok__law_same (Z : Hyp K h mg) : ∀ n, Fk (GG K) P w K mg base (1 + n) "_law_same" (F__law_same n)
  | 0 => by
    obtain ⟨fd, F⟩ := Z.2.2.1.def_ 79 (d := d__law_same) rfl
    exact ⟨_, fd, ["got", "due"], FnOk.no, g__law_same Z, F.kp, F.bindsN fun _ _ _ _ _ _ us hl => match us, hl with | [_, _], _ => rfl⟩
  | n + 1 => by
    obtain ⟨fd, F⟩ := Z.2.2.1.def_ 79 (d := d__law_same) rfl
    have o_self := ok__law_same Z n
  
    refine ⟨_, fd, ["got", "due"], fn_pop F sc__law_same rfl rfl (fun cdv A outer s H E hr => ?_), g__law_same Z, F.kp, F.bindsN fun _ _ _ _ _ _ us hl => match us, hl with | [_, _], _ => rfl⟩
    have c : Ct (GG K) (cxOf (L2.CX P w) P w K mg base _ "_law_same" (defScope s__law_same) _ cdv A outer s H E) (1 + n) := ⟨rfl, hr, rfl, sc__law_same.nd⟩
    exact (ss_cons (ss_if (st_tru c.hK (se_isi2 .lst .tup c.hK rfl (m_isinstance Z) (sv 1) (pe_bltn rfl (m_list Z) PyProof.Rows.boot_list rfl) (pe_bltn rfl (m_tuple Z) PyProof.Rows.boot_tuple rfl)) (fun _ => rfl))
    (ss_cons (ss_if (st_w (sw_or (st_cmp (op_neS c.hu) (fun _ => sim_ne) (se_isi1 .lst c.hK rfl (m_isinstance Z) (sv 0) (pe_bltn rfl (m_list Z) PyProof.Rows.boot_list rfl)) (se_isi1 .lst c.hK rfl (m_isinstance Z) (sv 1) (pe_bltn rfl (m_list Z) PyProof.Rows.boot_list rfl)) (nomark _)) (sw_or1 (st_cmp (op_neS c.hu) (fun _ => sim_ne) (se_isi1 .tup c.hK rfl (m_isinstance Z) (sv 0) (pe_bltn rfl (m_tuple Z) PyProof.Rows.boot_tuple rfl)) (se_isi1 .tup c.hK rfl (m_isinstance Z) (sv 1) (pe_bltn rfl (m_tuple Z) PyProof.Rows.boot_tuple rfl)) (nomark _)))))
    (ss_one (ss_ret se_bl))
    ss_nil)
    (ss_one (ss_ret (se_and c.hK (se_cmp (op_eqS c.hu) (fun _ => sim_eq) (se_cb call_lenS (fun _ => csim_len) rfl (m_len Z) boot_len (sa_cons (sv 0) sa_nil)) (se_cb call_lenS (fun _ => csim_len) rfl (m_len Z) boot_len (sa_cons (sv 1) sa_nil)) (nomark _)) (se_one (se_cb (cr_all c.hc) (fun _ => csim_all) rfl (m_all Z) PyProof.Rows.boot_all (sa_cons (se_lc c.hc c.hN (own := [("mine", 2), ("its", 3)]) (si_zz c.hK rfl (m_zip Z) (sa_cons (sv 0) (sa_cons (sv 1) sa_nil))) (blkOk_by (by rfl)) (fun _ _ _ _ _ => (sg_tup c.blk.hK c.blk.hc (sgs_cons (gv 2 c.blk) (sgs_cons (gv 3 c.blk) sgs_nil)))) (fun _ _ _ _ _ => sts_nil) (fun _ _ _ _ _ => (se_call o_self c.blk.hr rfl takes0 (sa_cons (sv 2) (sa_cons (sv 3) sa_nil))))) sa_nil)))))))
    ss_nil)
    (ss_cons (ss_if (st_cmp op_isN (fun _ => sim_isN) (sv 1) se_non (nomark _))
    (ss_one (ss_ret (se_cmp op_isN (fun _ => sim_isN) (sv 0) se_non (nomark _))))
    ss_nil)
    (ss_cons (ss_if (st_tru c.hK (se_isi2 .bool .str c.hK rfl (m_isinstance Z) (sv 1) (pe_bltn rfl (m_bool Z) PyProof.Rows.boot_bool rfl) (pe_bltn rfl (m_str Z) PyProof.Rows.boot_str rfl)) (fun _ => rfl))
    (ss_one (ss_ret (se_and c.hK (se_cmp (op_eqS c.hu) (fun _ => sim_eq) (se_isi1 .bool c.hK rfl (m_isinstance Z) (sv 0) (pe_bltn rfl (m_bool Z) PyProof.Rows.boot_bool rfl)) (se_isi1 .bool c.hK rfl (m_isinstance Z) (sv 1) (pe_bltn rfl (m_bool Z) PyProof.Rows.boot_bool rfl)) (nomark _)) (se_and c.hK (se_cmp (op_eqS c.hu) (fun _ => sim_eq) (se_isi1 .str c.hK rfl (m_isinstance Z) (sv 0) (pe_bltn rfl (m_str Z) PyProof.Rows.boot_str rfl)) (se_isi1 .str c.hK rfl (m_isinstance Z) (sv 1) (pe_bltn rfl (m_str Z) PyProof.Rows.boot_str rfl)) (nomark _)) (se_one (se_cmp (op_eqS c.hu) (fun _ => sim_eq) (sv 0) (sv 1) (nomark _)))))))
    ss_nil)
    (ss_one (ss_ret (se_and c.hK (se_isi1 .int c.hK rfl (m_isinstance Z) (sv 0) (pe_bltn rfl (m_int Z) PyProof.Rows.boot_int rfl)) (se_and c.hK (se_not c.hK (se_isi1 .bool c.hK rfl (m_isinstance Z) (sv 0) (pe_bltn rfl (m_bool Z) PyProof.Rows.boot_bool rfl))) (se_one (se_cmp (op_eqS c.hu) (fun _ => sim_eq) (sv 0) (sv 1) (nomark _))))))))))
theorem sc__law_gcd : FnScope ["one", "two", "lap"] ["one", "two"] (defScope s__law_gcd) := ⟨rfl, rfl, rfl, by decide +kernel, rfl, by decide +kernel, by decide +kernel⟩
theorem ok__law_gcd (Z : Hyp K h mg) : Fk (GG K) P w K mg base 1 "_law_gcd" F__law_gcd := by
  obtain ⟨fd, F⟩ := Z.2.2.1.def_ 80 (d := d__law_gcd) rfl
  refine ⟨_, fd, ["one", "two"], fn_pop F sc__law_gcd rfl rfl (fun cdv A outer s H E hr => ?_), g__law_gcd Z, F.kp, F.bindsN fun _ _ _ _ _ _ us hl => match us, hl with | [_, _], _ => rfl⟩
  have c : Ct (GG K) (cxOf (L2.CX P w) P w K mg base _ "_law_gcd" (defScope s__law_gcd) _ cdv A outer s H E) 0 := ⟨rfl, hr, rfl, sc__law_gcd.nd⟩
  exact (ss_cons (ss_p2 0 1 c (sa_cons (se_cb call_abs (fun _ => csim_abs) rfl (m_abs Z) PyProof.Rows.boot_abs (sa_cons (sv 0) sa_nil)) (sa_cons (se_cb call_abs (fun _ => csim_abs) rfl (m_abs Z) PyProof.Rows.boot_abs (sa_cons (sv 1) sa_nil)) sa_nil)))
    (ss_cons (ss_for (vs := [0, 1, 2]) cx_passes c.hc (si_range1 rfl (m_range Z) (sa_cons se_int sa_nil)) (gv 2 c)
    (ss_cons (ss_if (st_cmp (op_eqS c.hu) (fun _ => sim_eq) (sv 1) se_int (nomark _))
    (ss_one ss_break)
    ss_nil)
    (ss_one (ss_p2 0 1 c (sa_cons (sv 1) (sa_cons (se_op op_mod (fun _ => sim_mod) (se_ct call_int1 (fun _ => csim_int) rfl (m_int Z) PyProof.Rows.boot_int (sa_cons (sv 0) sa_nil)) (sv 1)) sa_nil))))))
    (ss_one (ss_ret (sv 0)))))
theorem sc__law_share : FnScope ["above_so", "below_so", "own"] ["above_so", "below_so"] (defScope s__law_share) := ⟨rfl, rfl, rfl, by decide +kernel, rfl, by decide +kernel, by decide +kernel⟩
theorem ok__law_share (Z : Hyp K h mg) : Fk (GG K) P w K mg base 2 "_law_share" F__law_share := by
  obtain ⟨fd, F⟩ := Z.2.2.1.def_ 86 (d := d__law_share) rfl
  have o__law_gcd := (ok__law_gcd (P := P) (w := w) (base := base) Z).mono (k := 1) (by decide)
  refine ⟨_, fd, ["above_so", "below_so"], fn_pop F sc__law_share rfl rfl (fun cdv A outer s H E hr => ?_), g__law_share Z, F.kp, F.bindsN fun _ _ _ _ _ _ us hl => match us, hl with | [_, _], _ => rfl⟩
  have c : Ct (GG K) (cxOf (L2.CX P w) P w K mg base _ "_law_share" (defScope s__law_share) _ cdv A outer s H E) 1 := ⟨rfl, hr, rfl, sc__law_share.nd⟩
  exact (ss_cons (ss_st 2 c (se_call o__law_gcd c.hr rfl cx_takes (sa_cons (sv 0) (sa_cons (sv 1) sa_nil))))
    (ss_one (ss_ret (se_tup (sa_cons (se_op op_fdivW (fun _ => sim_div) (sv 0) (sv 2)) (sa_cons (se_op op_fdivW (fun _ => sim_div) (sv 1) (sv 2)) sa_nil))))))
theorem sc__law_pairs : FnScope ["many_so", "found", "i", "j"] ["many_so"] (defScope s__law_pairs) := ⟨rfl, rfl, rfl, by decide +kernel, rfl, by decide +kernel, by decide +kernel⟩
theorem ok__law_pairs (Z : Hyp K h mg) : Fk (GG K) P w K mg base 1 "_law_pairs" F__law_pairs := by
  obtain ⟨fd, F⟩ := Z.2.2.1.def_ 82 (d := d__law_pairs) rfl
  refine ⟨_, fd, ["many_so"], fn_pop F sc__law_pairs rfl rfl (fun cdv A outer s H E hr => ?_), g__law_pairs Z, F.kp, F.bindsN fun _ _ _ _ _ _ us hl => match us, hl with | [_], _ => rfl⟩
  have c : Ct (GG K) (cxOf (L2.CX P w) P w K mg base _ "_law_pairs" (defScope s__law_pairs) _ cdv A outer s H E) 0 := ⟨rfl, hr, rfl, sc__law_pairs.nd⟩
  exact (ss_cons (ss_st 1 c (se_lstM sa_nil))
    (ss_cons (ss_for (vs := [0, 1, 2, 3]) cx_passes c.hc (si_range1 rfl (m_range Z) (sa_cons (sv 0) sa_nil)) (gv 2 c)
    (ss_one (ss_expr (se_mt c.hK PySem.F.slot_list_extend PySem.F.type_list_extend mt_extend (fun _ => msim_extend) nox_extend (sv 1) (sa_cons (se_lc c.hc c.hN (own := [("j", 3)]) (si_range2 rfl (m_range Z) (sa_cons (sv 2) (sa_cons (sv 0) sa_nil))) (blkOk_by (by rfl)) (fun _ _ _ _ _ => (gv 3 c.blk)) (fun _ _ _ _ _ => sts_nil) (fun _ _ _ _ _ => (se_tup (sa_cons (sv 2) (sa_cons (sv 3) sa_nil))))) sa_nil)))))
    (ss_one (ss_ret (sv 1)))))
theorem sc__law_some_equations : FnScope ["tin", "many_so", "rows_so", "pairs_so", "found", "k"] ["tin", "many_so", "rows_so"] (defScope s__law_some_equations) := ⟨rfl, rfl, rfl, by decide +kernel, rfl, by decide +kernel, by decide +kernel⟩
theorem ok__law_some_equations (Z : Hyp K h mg) : Fk (GG K) P w K mg base 3 "_law_some_equations" F__law_some_equations := by
  obtain ⟨fd, F⟩ := Z.2.2.1.def_ 81 (d := d__law_some_equations) rfl
  have o__law_pairs := (ok__law_pairs (P := P) (w := w) (base := base) Z).mono (k := 2) (by decide)
  have o__law_pick := (ok__law_pick (P := P) (w := w) (base := base) Z).mono (k := 2) (by decide)
  have o__law_take := (ok__law_take (P := P) (w := w) (base := base) Z).mono (k := 2) (by decide)
  refine ⟨_, fd, ["tin", "many_so", "rows_so"], fn_pop F sc__law_some_equations rfl rfl (fun cdv A outer s H E hr => ?_), g__law_some_equations Z, F.kp, F.bindsN fun _ _ _ _ _ _ us hl => match us, hl with | [_, _, _], _ => rfl⟩
  have c : Ct (GG K) (cxOf (L2.CX P w) P w K mg base _ "_law_some_equations" (defScope s__law_some_equations) _ cdv A outer s H E) 2 := ⟨rfl, hr, rfl, sc__law_some_equations.nd⟩
  exact (ss_cons (ss_st 3 c (se_call o__law_pairs c.hr rfl cx_takes (sa_cons (sv 1) sa_nil)))
    (ss_cons (ss_st 4 c (se_lstM sa_nil))
    (ss_cons (ss_for (vs := [0, 1, 2, 3, 4, 5]) cx_passes c.hc (si_range1 rfl (m_range Z) (sa_cons (se_call o__law_take c.hr rfl cx_takes (sa_cons (sv 0) (sa_cons (se_op op_catS (fun _ => sim_cat) (sv 2) se_int) sa_nil))) sa_nil)) (gv 5 c)
    (ss_one (ss_expr (se_mt c.hK PySem.F.slot_list_append PySem.F.type_list_append mt_append (fun _ => msim_append) nox_append (sv 4) (sa_cons (se_tup (sa_cons (se_ct call_tuple_of (fun _ => csim_tup) rfl (m_tuple Z) PyProof.Rows.boot_tuple (sa_cons (se_cbL (call_sortS c) (fun _ => lsim_sortS) rfl (m_sorted Z) PyProof.Rows.boot_sorted (sa_cons (se_call o__law_pick c.hr rfl cx_takes (sa_cons (sv 0) (sa_cons (sv 3) (sa_cons (se_call o__law_take c.hr rfl cx_takes (sa_cons (sv 0) (sa_cons se_int sa_nil))) sa_nil)))) sa_nil)) sa_nil)) (sa_cons (se_call o__law_take c.hr rfl cx_takes (sa_cons (sv 0) (sa_cons se_int sa_nil))) sa_nil))) sa_nil)))))
    (ss_one (ss_ret (se_tup (sa_cons (sv 1) (sa_cons (se_ct call_tuple_of (fun _ => csim_tup) rfl (m_tuple Z) PyProof.Rows.boot_tuple (sa_cons (sv 4) sa_nil)) sa_nil))))))))
theorem sc__law_some_told : FnScope ["tin", "many_so", "most_so", "spots_so", "k"] ["tin", "many_so", "most_so"] (defScope s__law_some_told) := ⟨rfl, rfl, rfl, by decide +kernel, rfl, by decide +kernel, by decide +kernel⟩
theorem ok__law_some_told (Z : Hyp K h mg) : Fk (GG K) P w K mg base 3 "_law_some_told" F__law_some_told := by
  obtain ⟨fd, F⟩ := Z.2.2.1.def_ 85 (d := d__law_some_told) rfl
  have o__law_of := (ok__law_of (P := P) (w := w) (base := base) Z).mono (k := 2) (by decide)
  have o__law_take := (ok__law_take (P := P) (w := w) (base := base) Z).mono (k := 2) (by decide)
  refine ⟨_, fd, ["tin", "many_so", "most_so"], fn_pop F sc__law_some_told rfl rfl (fun cdv A outer s H E hr => ?_), g__law_some_told Z, F.kp, F.bindsN fun _ _ _ _ _ _ us hl => match us, hl with | [_, _, _], _ => rfl⟩
  have c : Ct (GG K) (cxOf (L2.CX P w) P w K mg base _ "_law_some_told" (defScope s__law_some_told) _ cdv A outer s H E) 2 := ⟨rfl, hr, rfl, sc__law_some_told.nd⟩
  exact (ss_cons (ss_st 3 c (se_lstM sa_nil))
    (ss_cons (ss_for (vs := [0, 1, 2, 3, 4]) cx_passes c.hc (si_range1 rfl (m_range Z) (sa_cons (se_call o__law_take c.hr rfl cx_takes (sa_cons (sv 0) (sa_cons (se_op op_catS (fun _ => sim_cat) (sv 2) se_int) sa_nil))) sa_nil)) (gv 4 c)
    (ss_one (ss_expr (se_mt c.hK PySem.F.slot_list_append PySem.F.type_list_append mt_append (fun _ => msim_append) nox_append (sv 3) (sa_cons (se_call o__law_of c.hr rfl cx_takes (sa_cons (sv 0) (sa_cons (se_lst (sa_cons se_int (sa_cons (se_op op_sub (fun _ => sim_sub) (se_op op_shlW (fun _ => sim_shl) se_int (sv 1)) se_int) (sa_cons (se_call o__law_take c.hr rfl cx_takes (sa_cons (sv 0) (sa_cons (se_op op_shlW (fun _ => sim_shl) se_int (sv 1)) sa_nil))) (sa_cons (se_call o__law_take c.hr rfl cx_takes (sa_cons (sv 0) (sa_cons (se_op op_shlW (fun _ => sim_shl) se_int (se_cb (call_min2 c.hc) (fun _ => csim_min2) rfl (m_min Z) PyProof.Rows.boot_min (sa_cons (sv 1) (sa_cons se_int sa_nil)))) sa_nil))) sa_nil))))) sa_nil))) sa_nil)))))
    (ss_one (ss_ret (se_tup (sa_cons (sv 1) (sa_cons (se_call o__law_take c.hr rfl cx_takes (sa_cons (sv 0) (sa_cons (se_op op_shlW (fun _ => sim_shl) se_int (sv 1)) sa_nil))) (sa_cons (se_ct call_tuple_of (fun _ => csim_tup) rfl (m_tuple Z) PyProof.Rows.boot_tuple (sa_cons (se_sortSet c (m_sorted Z) (m_set Z) (sv 3)) sa_nil)) sa_nil))))))))
theorem sc__law_wide : FnScope ["tin", "many_so", "found", "lap"] ["tin", "many_so"] (defScope s__law_wide) := ⟨rfl, rfl, rfl, by decide +kernel, rfl, by decide +kernel, by decide +kernel⟩
theorem ok__law_wide (Z : Hyp K h mg) : Fk (GG K) P w K mg base 2 "_law_wide" F__law_wide := by
  obtain ⟨fd, F⟩ := Z.2.2.1.def_ 87 (d := d__law_wide) rfl
  have o__law_take := (ok__law_take (P := P) (w := w) (base := base) Z).mono (k := 1) (by decide)
  refine ⟨_, fd, ["tin", "many_so"], fn_pop F sc__law_wide rfl rfl (fun cdv A outer s H E hr => ?_), g__law_wide Z, F.kp, F.bindsN fun _ _ _ _ _ _ us hl => match us, hl with | [_, _], _ => rfl⟩
  have c : Ct (GG K) (cxOf (L2.CX P w) P w K mg base _ "_law_wide" (defScope s__law_wide) _ cdv A outer s H E) 1 := ⟨rfl, hr, rfl, sc__law_wide.nd⟩
  exact (ss_cons (ss_st 2 c se_int)
    (ss_cons (ss_for (vs := [0, 1, 2, 3]) cx_passes c.hc (si_range1 rfl (m_range Z) (sa_cons (se_op op_catS (fun _ => sim_cat) (se_op op_fdivW (fun _ => sim_div) (sv 1) se_int) se_int) sa_nil)) (gv 3 c)
    (ss_one (ss_st 2 c (se_op op_catS (fun _ => sim_cat) (se_op op_mulS (fun _ => sim_mul) (sv 2) se_int) (se_call o__law_take c.hr rfl cx_takes (sa_cons (sv 0) (sa_cons se_int sa_nil)))))))
    (ss_one (ss_ret (se_op op_and (fun _ => sim_and) (sv 2) (se_op op_sub (fun _ => sim_sub) (se_op op_shlW (fun _ => sim_shl) se_int (sv 1)) se_int))))))
theorem sc_odd : FnScope ["number", "found", "shift"] ["number"] (defScope s_odd) := ⟨rfl, rfl, rfl, by decide +kernel, rfl, by decide +kernel, by decide +kernel⟩
theorem ok_odd (Z : Hyp K h mg) : Fk (GG K) P w K mg base 1 "odd" F_odd := by
  obtain ⟨fd, F⟩ := Z.2.2.1.def_ 9 (d := d_odd) rfl
  refine ⟨_, fd, ["number"], fn_pop F sc_odd rfl rfl (fun cdv A outer s H E hr => ?_), g_odd Z, F.kp, F.bindsN fun _ _ _ _ _ _ us hl => match us, hl with | [_], _ => rfl⟩
  have c : Ct (GG K) (cxOf (L2.CX P w) P w K mg base _ "odd" (defScope s_odd) _ cdv A outer s H E) 0 := ⟨rfl, hr, rfl, sc_odd.nd⟩
  exact (ss_cons (ss_st 1 c (sv 0))
    (ss_cons (ss_for (vs := [0, 1, 2]) cx_passes c.hc (si_sq c (se_tup (sa_cons se_int (sa_cons se_int (sa_cons se_int (sa_cons se_int (sa_cons se_int (sa_cons se_int (sa_cons se_int (sa_cons se_int (sa_cons se_int (sa_cons se_int sa_nil)))))))))))) (gv 2 c)
    (ss_one (ss_au 1 c iop_xor (fun _ => sim_xor) (se_op op_shr (fun _ => sim_shr) (sv 1) (sv 2)))))
    (ss_one (ss_ret (se_op op_and (fun _ => sim_and) (sv 1) se_int)))))
theorem sc_bit_in : FnScope ["table", "place"] ["table", "place"] (defScope s_bit_in) := ⟨rfl, rfl, rfl, by decide +kernel, rfl, by decide +kernel, by decide +kernel⟩
theorem ok_bit_in (Z : Hyp K h mg) : Fk (GG K) P w K mg base 2 "bit_in" F_bit_in := by
  obtain ⟨fd, F⟩ := Z.2.2.1.def_ 18 (d := d_bit_in) rfl
  have o_odd := (ok_odd (P := P) (w := w) (base := base) Z).mono (k := 1) (by decide)
  refine ⟨_, fd, ["table", "place"], fn_pop F sc_bit_in rfl rfl (fun cdv A outer s H E hr => ?_), g_bit_in Z, F.kp, F.bindsN fun _ _ _ _ _ _ us hl => match us, hl with | [_, _], _ => rfl⟩
  have c : Ct (GG K) (cxOf (L2.CX P w) P w K mg base _ "bit_in" (defScope s_bit_in) _ cdv A outer s H E) 1 := ⟨rfl, hr, rfl, sc_bit_in.nd⟩
  exact (ss_one (ss_ret (se_op op_xor (fun _ => sim_xor) (se_call o_odd c.hr rfl cx_takes (sa_cons (se_op op_and (fun _ => sim_and) (se_ix c.hu c.hK (sv 0) se_int (fun _ _ => rfl)) (sv 1)) sa_nil)) (se_ct call_int1 (fun _ => csim_int) rfl (m_int Z) PyProof.Rows.boot_int (sa_cons (se_cmp (op_inS c.hu) (fun _ => sim_in) (sv 1) (se_ix c.hu c.hK (sv 0) se_int (fun _ _ => rfl)) (by with_unfolding_all rfl)) sa_nil)))))
theorem sc_bit_at : FnScope ["table", "place", "own"] ["table", "place"] (defScope s_bit_at) := ⟨rfl, rfl, rfl, by decide +kernel, rfl, by decide +kernel, by decide +kernel⟩
theorem ok_bit_at (Z : Hyp K h mg) : Fk (GG K) P w K mg base 12 "bit_at" F_bit_at := by
  obtain ⟨fd, F⟩ := Z.2.2.1.def_ 19 (d := d_bit_at) rfl
  have o_bit_in := (ok_bit_in (P := P) (w := w) (base := base) Z).mono (k := 11) (by decide)
  have o_sure_place_of := (ok_sure_place_of (P := P) (w := w) (base := base) Z).mono (k := 11) (by decide)
  have o_sure_told_table := (ok_sure_told_table (P := P) (w := w) (base := base) Z).mono (k := 11) (by decide)
  refine ⟨_, fd, ["table", "place"], fn_pop F sc_bit_at rfl rfl (fun cdv A outer s H E hr => ?_), g_bit_at Z, F.kp, F.bindsN fun _ _ _ _ _ _ us hl => match us, hl with | [_, _], _ => rfl⟩
  have c : Ct (GG K) (cxOf (L2.CX P w) P w K mg base _ "bit_at" (defScope s_bit_at) _ cdv A outer s H E) 11 := ⟨rfl, hr, rfl, sc_bit_at.nd⟩
  exact (ss_cons (ss_st 2 c (se_call o_sure_told_table c.hr rfl cx_takes (sa_cons (sv 0) sa_nil)))
    (ss_one (ss_ret (se_call o_bit_in c.hr rfl cx_takes (sa_cons (sv 2) (sa_cons (se_call o_sure_place_of c.hr rfl cx_takes (sa_cons (sv 2) (sa_cons (sv 1) sa_nil))) sa_nil))))))
theorem sc_corrected : FnScope ["table", "place", "draw", "own", "spot", "far"] ["table", "place", "draw"] (defScope s_corrected) := ⟨rfl, rfl, rfl, by decide +kernel, rfl, by decide +kernel, by decide +kernel⟩
theorem ok_corrected (Z : Hyp K h mg) : Fk (GG K) P w K mg base 12 "corrected" F_corrected := by
  obtain ⟨fd, F⟩ := Z.2.2.1.def_ 27 (d := d_corrected) rfl
  have o_bit_in := (ok_bit_in (P := P) (w := w) (base := base) Z).mono (k := 11) (by decide)
  have o_sure_place_of := (ok_sure_place_of (P := P) (w := w) (base := base) Z).mono (k := 11) (by decide)
  have o_sure_told_table := (ok_sure_told_table (P := P) (w := w) (base := base) Z).mono (k := 11) (by decide)
  refine ⟨_, fd, ["table", "place", "draw"], fn_pop F sc_corrected rfl rfl (fun cdv A outer s H E hr => ?_), g_corrected Z, F.kp, F.bindsN fun _ _ _ _ _ _ us hl => match us, hl with | [_, _, _], _ => rfl⟩
  have c : Ct (GG K) (cxOf (L2.CX P w) P w K mg base _ "corrected" (defScope s_corrected) _ cdv A outer s H E) 11 := ⟨rfl, hr, rfl, sc_corrected.nd⟩
  exact (ss_cons (ss_st 3 c (se_call o_sure_told_table c.hr rfl cx_takes (sa_cons (sv 0) sa_nil)))
    (ss_cons (ss_p2 4 5 c (sa_cons (se_call o_sure_place_of c.hr rfl cx_takes (sa_cons (sv 3) (sa_cons (sv 1) sa_nil))) (sa_cons (se_call o_sure_place_of c.hr rfl cx_takes (sa_cons (sv 3) (sa_cons (sv 2) sa_nil))) sa_nil)))
    (ss_one (ss_ret (se_op op_xor (fun _ => sim_xor) (se_call o_bit_in c.hr rfl cx_takes (sa_cons (sv 3) (sa_cons (se_op op_xor (fun _ => sim_xor) (sv 4) (sv 5)) sa_nil))) (se_call o_bit_in c.hr rfl cx_takes (sa_cons (sv 3) (sa_cons (sv 5) sa_nil))))))))
theorem sc_product_in : FnScope ["many", "one", "other", "place", "found", "first", "long", "row", "rest", "rows"] ["many", "one", "other"] (defScope s_product_in) := ⟨rfl, rfl, rfl, by decide +kernel, rfl, by decide +kernel, by decide +kernel⟩
theorem ok_product_in (Z : Hyp K h mg) : Fk (GG K) P w K mg base 1 "product_in" F_product_in := by
  obtain ⟨fd, F⟩ := Z.2.2.1.def_ 48 (d := d_product_in) rfl
  refine ⟨_, fd, ["many", "one", "other"], fn_pop F sc_product_in rfl rfl (fun cdv A outer s H E hr => ?_), g_product_in Z, F.kp, F.bindsN fun _ _ _ _ _ _ us hl => match us, hl with | [_, _, _], _ => rfl⟩
  have c : Ct (GG K) (cxOf (L2.CX P w) P w K mg base _ "product_in" (defScope s_product_in) _ cdv A outer s H E) 0 := ⟨rfl, hr, rfl, sc_product_in.nd⟩
  exact (ss_cons (ss_asg (vs := [0, 1, 2, 3, 4, 5, 6, 7, 8, 9]) (se_tup (sa_cons se_int (sa_cons se_int sa_nil))) (sg_tup c.hK c.hc (sgs_cons (gv 4 c) (sgs_cons (gv 5 c) sgs_nil))))
    (ss_cons (ss_for (vs := [0, 1, 2, 3, 4, 5, 6, 7, 8, 9]) cx_passes c.hc (si_range1 rfl (m_range Z) (sa_cons (sv 0) sa_nil)) (gv 3 c)
    (ss_cons (ss_st 6 c (se_op op_sub (fun _ => sim_sub) (sv 0) (sv 3)))
    (ss_cons (ss_p2 8 9 c (sa_cons (se_op op_shr (fun _ => sim_shr) (sv 1) (sv 3)) (sa_cons (se_op op_shr (fun _ => sim_shr) (sv 2) (sv 3)) sa_nil)))
    (ss_cons (ss_st 7 c (se_op op_xor (fun _ => sim_xor) (se_if (st_tru c.hK (se_op op_and (fun _ => sim_and) (sv 8) se_int) (fun _ => rfl)) (sv 9) se_int) (se_if (st_tru c.hK (se_op op_and (fun _ => sim_and) (sv 9) se_int) (fun _ => rfl)) (se_op op_xor (fun _ => sim_xor) (sv 8) (se_op op_and (fun _ => sim_and) (sv 8) se_int)) se_int)))
    (ss_cons (ss_au 4 c iop_xor (fun _ => sim_xor) (se_op op_shlW (fun _ => sim_shl) (sv 7) (sv 5)))
    (ss_one (ss_au 5 c iop_add (fun _ => sim_add) (sv 6))))))))
    (ss_one (ss_ret (sv 4)))))
theorem sc_ProductCount_differs : FnScope ["self", "one", "other", "both"] ["self", "one", "other"] (defScope s_ProductCount_differs) := ⟨rfl, rfl, rfl, by decide +kernel, rfl, by decide +kernel, by decide +kernel⟩
theorem ok_ProductCount_differs (Z : Hyp K h mg) : Mt (GG K) P w K mg base 3 "ProductCount" "differs" F_ProductCount_differs := by
  obtain ⟨fd, F⟩ := Z.2.2.1.def_ 60 (d := d_ProductCount_differs) rfl
  have o_bit_in := (ok_bit_in (P := P) (w := w) (base := base) Z).mono (k := 2) (by decide)
  have o_odd := (ok_odd (P := P) (w := w) (base := base) Z).mono (k := 2) (by decide)
  have o_product_in := (ok_product_in (P := P) (w := w) (base := base) Z).mono (k := 2) (by decide)
  refine ⟨_, fd, ["self", "one", "other"], He.meth_ok (Z.2.2.1.fact 126 (f := .meth "ProductCount" "differs") rfl), fn_pop F sc_ProductCount_differs rfl rfl (fun cdv A outer s H E hr => ?_), F.bindsN fun _ _ _ _ _ _ us hl => match us, hl with | [_, _, _], _ => rfl⟩
  have c : Ct (GG K) (cxOf (L2.CX P w) P w K mg base _ "ProductCount.differs" (defScope s_ProductCount_differs) _ cdv A outer s H E) 2 := ⟨rfl, hr, rfl, sc_ProductCount_differs.nd⟩
  exact (ss_cons (ss_st 3 c (se_op op_and (fun _ => sim_and) (se_call o_bit_in c.hr rfl cx_takes (sa_cons (se_fld c.hK (cf_ProductCount Z) rfl (sv 0) rfl) (sa_cons (sv 1) sa_nil))) (se_call o_bit_in c.hr rfl cx_takes (sa_cons (se_fld c.hK (cf_ProductCount Z) rfl (sv 0) rfl) (sa_cons (sv 2) sa_nil)))))
    (ss_one (ss_ret (se_op op_xor (fun _ => sim_xor) (sv 3) (se_call o_odd c.hr rfl cx_takes (sa_cons (se_op op_and (fun _ => sim_and) (se_ix c.hu c.hK (se_fld c.hK (cf_ProductCount Z) rfl (sv 0) rfl) se_int (fun _ _ => rfl)) (se_call o_product_in c.hr rfl cx_takes (sa_cons (se_fld c.hK (cf_ProductCount Z) rfl (sv 0) rfl) (sa_cons (sv 1) (sa_cons (sv 2) sa_nil))))) sa_nil))))))
theorem sc_pair_number : FnScope ["many", "one", "other"] ["many", "one", "other"] (defScope s_pair_number) := ⟨rfl, rfl, rfl, by decide +kernel, rfl, by decide +kernel, by decide +kernel⟩
theorem ok_pair_number (Z : Hyp K h mg) : Fk (GG K) P w K mg base 1 "pair_number" F_pair_number := by
  obtain ⟨fd, F⟩ := Z.2.2.1.def_ 47 (d := d_pair_number) rfl
  refine ⟨_, fd, ["many", "one", "other"], fn_pop F sc_pair_number rfl rfl (fun cdv A outer s H E hr => ?_), g_pair_number Z, F.kp, F.bindsN fun _ _ _ _ _ _ us hl => match us, hl with | [_, _, _], _ => rfl⟩
  have c : Ct (GG K) (cxOf (L2.CX P w) P w K mg base _ "pair_number" (defScope s_pair_number) _ cdv A outer s H E) 0 := ⟨rfl, hr, rfl, sc_pair_number.nd⟩
  exact (ss_one (ss_ret (se_op op_sub (fun _ => sim_sub) (se_op op_catS (fun _ => sim_cat) (se_op op_sub (fun _ => sim_sub) (se_op op_mulS (fun _ => sim_mul) (sv 1) (sv 0)) (se_op op_fdivW (fun _ => sim_div) (se_op op_mulS (fun _ => sim_mul) (sv 1) (se_op op_sub (fun _ => sim_sub) (sv 1) se_int)) se_int)) (sv 2)) (sv 1))))
theorem sc_rows_by_pairs : FnScope ["many", "place", "found", "one", "other"] ["many", "place"] (defScope s_rows_by_pairs) := ⟨rfl, rfl, rfl, by decide +kernel, rfl, by decide +kernel, by decide +kernel⟩
theorem ok_rows_by_pairs (Z : Hyp K h mg) : Fk (GG K) P w K mg base 2 "rows_by_pairs" F_rows_by_pairs := by
  obtain ⟨fd, F⟩ := Z.2.2.1.def_ 67 (d := d_rows_by_pairs) rfl
  have o_pair_number := (ok_pair_number (P := P) (w := w) (base := base) Z).mono (k := 1) (by decide)
  refine ⟨_, fd, ["many", "place"], fn_pop F sc_rows_by_pairs rfl rfl (fun cdv A outer s H E hr => ?_), g_rows_by_pairs Z, F.kp, F.bindsN fun _ _ _ _ _ _ us hl => match us, hl with | [_, _], _ => rfl⟩
  have c : Ct (GG K) (cxOf (L2.CX P w) P w K mg base _ "rows_by_pairs" (defScope s_rows_by_pairs) _ cdv A outer s H E) 1 := ⟨rfl, hr, rfl, sc_rows_by_pairs.nd⟩
  exact (ss_cons (ss_st 2 c (se_repM (se_lst (sa_cons se_int sa_nil)) (sv 0)))
    (ss_cons (ss_for (vs := [0, 1, 2, 3, 4]) cx_passes c.hc (si_range1 rfl (m_range Z) (sa_cons (sv 0) sa_nil)) (gv 3 c)
    (ss_one (ss_for (vs := [0, 1, 2, 3, 4]) cx_passes c.hc (si_range2 rfl (m_range Z) (sa_cons (se_op op_catS (fun _ => sim_cat) (sv 3) se_int) (sa_cons (sv 0) sa_nil))) (gv 4 c)
    (ss_one (ss_if (st_cmp (op_eqS c.hu) (fun _ => sim_eq) (se_op op_and (fun _ => sim_and) (se_op op_shr (fun _ => sim_shr) (sv 1) (se_call o_pair_number c.hr rfl cx_takes (sa_cons (sv 0) (sa_cons (sv 3) (sa_cons (sv 4) sa_nil))))) se_int) se_int (nomark _))
    (ss_cons (ss_augL c.hu (sv 2) (sv 3) iop_or (fun _ => sim_or) (se_op op_shlW (fun _ => sim_shl) se_int (sv 4)))
    (ss_one (ss_augL c.hu (sv 2) (sv 4) iop_or (fun _ => sim_or) (se_op op_shlW (fun _ => sim_shl) se_int (sv 3)))))
    ss_nil)))))
    (ss_one (ss_ret (sv 2)))))
theorem sc_factors_in : FnScope ["many", "place", "rows", "near", "others", "spare", "found", "one", "own", "number", "other", "row"] ["many", "place"] (defScope s_factors_in) := ⟨rfl, rfl, rfl, by decide +kernel, rfl, by decide +kernel, by decide +kernel⟩
theorem ok_factors_in (Z : Hyp K h mg) : Fk (GG K) P w K mg base 3 "factors_in" F_factors_in := by
  obtain ⟨fd, F⟩ := Z.2.2.1.def_ 68 (d := d_factors_in) rfl
  have o_pair_number := (ok_pair_number (P := P) (w := w) (base := base) Z).mono (k := 2) (by decide)
  have o_product_in := (ok_product_in (P := P) (w := w) (base := base) Z).mono (k := 2) (by decide)
  have o_rows_by_pairs := (ok_rows_by_pairs (P := P) (w := w) (base := base) Z).mono (k := 2) (by decide)
  refine ⟨_, fd, ["many", "place"], fn_pop F sc_factors_in rfl rfl (fun cdv A outer s H E hr => ?_), g_factors_in Z, F.kp, F.bindsN fun _ _ _ _ _ _ us hl => match us, hl with | [_, _], _ => rfl⟩
  have c : Ct (GG K) (cxOf (L2.CX P w) P w K mg base _ "factors_in" (defScope s_factors_in) _ cdv A outer s H E) 2 := ⟨rfl, hr, rfl, sc_factors_in.nd⟩
  exact (ss_cons (ss_lc 2 c (own := [("row", 11)]) (si_sq c (se_call o_rows_by_pairs c.hr rfl cx_takes (sa_cons (sv 0) (sa_cons (sv 1) sa_nil)))) (blkOk_by (by rfl)) (fun _ _ _ _ _ => (gv 11 c.blk)) (fun _ _ _ _ _ => (sts_one (st_cmp (op_neS c.blk.hu) (fun _ => sim_ne) (sv 11) se_int (nomark _)))) (fun _ _ _ _ _ => (sv 11)))
    (ss_cons (ss_if (st_cmp (op_eqS c.hu) (fun _ => sim_eq) (sv 2) (se_lst sa_nil) (nomark _))
    (ss_cons (ss_st 8 c se_int)
    (ss_cons (ss_for (vs := [0, 1, 2, 3, 4, 5, 6, 7, 8, 9, 10, 11]) cx_passes c.hc (si_range1 rfl (m_range Z) (sa_cons (sv 0) sa_nil)) (gv 9 c)
    (ss_one (ss_au 8 c iop_or (fun _ => sim_or) (se_op op_shlW (fun _ => sim_shl) (se_op op_and (fun _ => sim_and) (se_op op_shr (fun _ => sim_shr) (sv 1) (se_call o_pair_number c.hr rfl cx_takes (sa_cons (sv 0) (sa_cons (sv 9) (sa_cons (sv 9) sa_nil))))) se_int) (sv 9)))))
    (ss_one (ss_ret (se_if (st_cmp (op_neS c.hu) (fun _ => sim_ne) (sv 8) se_int (nomark _)) (se_lst (sa_cons (se_tup (sa_cons (sv 8) (sa_cons (sv 8) sa_nil))) sa_nil)) (se_lst sa_nil))))))
    ss_nil)
    (ss_cons (ss_st 3 c (se_ix c.hu c.hK (sv 2) se_int (fun _ _ => rfl)))
    (ss_cons (ss_lc 4 c (own := [("row", 11)]) (si_sq c (sv 2)) (blkOk_by (by rfl)) (fun _ _ _ _ _ => (gv 11 c.blk)) (fun _ _ _ _ _ => (sts_one (st_cmp (op_neS c.blk.hu) (fun _ => sim_ne) (sv 11) (sv 3) (nomark _)))) (fun _ _ _ _ _ => (sv 11)))
    (ss_cons (ss_st 5 c (se_lst (sa_cons (sv 3) (sa_cons (se_ix c.hu c.hK (sv 4) se_int (fun _ _ => rfl)) (sa_cons (se_op op_xor (fun _ => sim_xor) (sv 3) (se_ix c.hu c.hK (sv 4) se_int (fun _ _ => rfl))) sa_nil)))))
    (ss_cons (ss_st 6 c (se_lstM sa_nil))
    (ss_cons (ss_for (vs := [0, 1, 2, 3, 4, 5, 6, 7, 8, 9, 10, 11]) cx_passes c.hc (si_sq c (sv 5)) (gv 7 c)
    (ss_one (ss_for (vs := [0, 1, 2, 3, 4, 5, 6, 7, 8, 9, 10, 11]) cx_passes c.hc (si_sq c (sv 5)) (gv 10 c)
    (ss_one (ss_if (st_w (sw_and (st_cmp (op_neS c.hu) (fun _ => sim_ne) (sv 7) (sv 10) (nomark _)) (sw_and1 (st_cmp (op_eqS c.hu) (fun _ => sim_eq) (se_call o_product_in c.hr rfl cx_takes (sa_cons (sv 0) (sa_cons (sv 7) (sa_cons (sv 10) sa_nil)))) (sv 1) (nomark _)))))
    (ss_one (ss_expr (se_mt c.hK PySem.F.slot_list_append PySem.F.type_list_append mt_append (fun _ => msim_append) nox_append (sv 6) (sa_cons (se_tup (sa_cons (sv 7) (sa_cons (sv 10) sa_nil))) sa_nil))))
    ss_nil)))))
    (ss_one (ss_ret (sv 6))))))))))
theorem sc_ProductCount_far_pairs : FnScope ["self", "found", "place"] ["self"] (defScope s_ProductCount_far_pairs) := ⟨rfl, rfl, rfl, by decide +kernel, rfl, by decide +kernel, by decide +kernel⟩
theorem ok_ProductCount_far_pairs (Z : Hyp K h mg) : Mt (GG K) P w K mg base 4 "ProductCount" "far_pairs" F_ProductCount_far_pairs := by
  obtain ⟨fd, F⟩ := Z.2.2.1.def_ 64 (d := d_ProductCount_far_pairs) rfl
  have o_factors_in := (ok_factors_in (P := P) (w := w) (base := base) Z).mono (k := 3) (by decide)
  refine ⟨_, fd, ["self"], He.meth_ok (Z.2.2.1.fact 130 (f := .meth "ProductCount" "far_pairs") rfl), fn_pop F sc_ProductCount_far_pairs rfl rfl (fun cdv A outer s H E hr => ?_), F.bindsN fun _ _ _ _ _ _ us hl => match us, hl with | [_], _ => rfl⟩
  have c : Ct (GG K) (cxOf (L2.CX P w) P w K mg base _ "ProductCount.far_pairs" (defScope s_ProductCount_far_pairs) _ cdv A outer s H E) 3 := ⟨rfl, hr, rfl, sc_ProductCount_far_pairs.nd⟩
  exact (ss_cons (ss_st 1 c (se_lstM sa_nil))
    (ss_cons (ss_for (vs := [0, 1, 2]) cx_passes c.hc (si_sq c (se_cbL (call_sortS c) (fun _ => lsim_sortS) rfl (m_sorted Z) PyProof.Rows.boot_sorted (sa_cons (se_fld c.hK (cf_ProductCount Z) rfl (sv 0) rfl) sa_nil))) (gv 2 c)
    (ss_one (ss_if (st_cmp (op_neS c.hu) (fun _ => sim_ne) (sv 2) se_int (nomark _))
    (ss_one (ss_expr (se_mt c.hK PySem.F.slot_list_extend PySem.F.type_list_extend mt_extend (fun _ => msim_extend) nox_extend (sv 1) (sa_cons (se_call o_factors_in c.hr rfl cx_takes (sa_cons (se_fld c.hK (cf_ProductCount Z) rfl (sv 0) rfl) (sa_cons (sv 2) sa_nil))) sa_nil))))
    ss_nil)))
    (ss_one (ss_ret (sv 1)))))
theorem sc_ProductCount_ones_with : FnScope ["self", "row", "marked", "half", "place"] ["self", "row", "marked"] (defScope s_ProductCount_ones_with) := ⟨rfl, rfl, rfl, by decide +kernel, rfl, by decide +kernel, by decide +kernel⟩
theorem ok_ProductCount_ones_with (Z : Hyp K h mg) : Mt (GG K) P w K mg base 2 "ProductCount" "ones_with" F_ProductCount_ones_with := by
  obtain ⟨fd, F⟩ := Z.2.2.1.def_ 62 (d := d_ProductCount_ones_with) rfl
  have o_odd := (ok_odd (P := P) (w := w) (base := base) Z).mono (k := 1) (by decide)
  refine ⟨_, fd, ["self", "row", "marked"], He.meth_ok (Z.2.2.1.fact 128 (f := .meth "ProductCount" "ones_with") rfl), fn_pop F sc_ProductCount_ones_with rfl rfl (fun cdv A outer s H E hr => ?_), F.bindsN fun _ _ _ _ _ _ us hl => match us, hl with | [_, _, _], _ => rfl⟩
  have c : Ct (GG K) (cxOf (L2.CX P w) P w K mg base _ "ProductCount.ones_with" (defScope s_ProductCount_ones_with) _ cdv A outer s H E) 1 := ⟨rfl, hr, rfl, sc_ProductCount_ones_with.nd⟩
  exact (ss_cons (ss_st 3 c (se_if (st_cmp (op_neS c.hu) (fun _ => sim_ne) (sv 1) se_int (nomark _)) (se_op op_shlW (fun _ => sim_shl) se_int (se_op op_sub (fun _ => sim_sub) (se_fld c.hK (cf_ProductCount Z) rfl (sv 0) rfl) se_int)) se_int))
    (ss_cons (ss_if (st_cmp (op_eqS c.hu) (fun _ => sim_eq) (sv 2) se_int (nomark _))
    (ss_one (ss_ret (sv 3)))
    ss_nil)
    (ss_one (ss_ret (se_op op_catS (fun _ => sim_cat) (sv 3) (se_cb (call_sumS c.hc) (fun _ => csim_sum) rfl (m_sum Z) PyProof.Rows.boot_sum (sa_cons (se_lc c.hc c.hN (own := [("place", 4)]) (si_sq c (se_ix c.hu c.hK (se_fld c.hK (cf_ProductCount Z) rfl (sv 0) rfl) se_int (fun _ _ => rfl))) (blkOk_by (by rfl)) (fun _ _ _ _ _ => (gv 4 c.blk)) (fun _ _ _ _ _ => sts_nil) (fun _ _ _ _ _ => (se_op op_sub (fun _ => sim_sub) se_int (se_op op_mulS (fun _ => sim_mul) se_int (se_call o_odd c.blk.hr rfl takes0 (sa_cons (se_op op_and (fun _ => sim_and) (sv 1) (sv 4)) sa_nil)))))) sa_nil)))))))
theorem sc_Ladder_init : FnScope ["self"] ["self"] (defScope s_Ladder_init) := ⟨rfl, rfl, rfl, by decide +kernel, rfl, by decide +kernel, by decide +kernel⟩
theorem ok_Ladder_init (Z : Hyp K h mg) : Mkr (GG K) P w K mg base 1 "Ladder" "Ladder" F_Ladder_init := by
  obtain ⟨fd, F⟩ := Z.2.2.1.def_ 35 (d := d_Ladder_init) rfl
  refine ⟨_, fd, ["self"], He.mkr_ok (Z.2.2.1.fact 110 (f := .mkr "Ladder") rfl), fn_keep F sc_Ladder_init rfl rfl (fun cdv A outer s H E hr => ?_), g_Ladder Z, F.bindsN fun _ _ _ _ _ _ us hl => match us, hl with | [_], _ => rfl⟩
  have c : Ct (GG K) (cxOf (L2.CX P w) P w K mg base _ "Ladder.__init__" (defScope s_Ladder_init) _ cdv A outer s H E) 0 := ⟨rfl, hr, rfl, sc_Ladder_init.nd⟩
  exact (ss_one (ss_asg (vs := [0]) (se_tup (sa_cons se_dK (sa_cons (se_lstM sa_nil) (sa_cons se_int sa_nil)))) (sg_tup c.hK c.hc (sgs_cons (sg_fld (W := WB E) c.hK (cf_Ladder Z) (by decide) rfl (sv 0)) (sgs_cons (sg_fld (W := WB E) c.hK (cf_Ladder Z) (by decide) rfl (sv 0)) (sgs_cons (sg_fld (W := WB E) c.hK (cf_Ladder Z) (by decide) rfl (sv 0)) sgs_nil))))))
theorem sc_Ladder_lowered : FnScope ["self", "row", "marks", "other", "more"] ["self", "row", "marks"] (defScope s_Ladder_lowered) := ⟨rfl, rfl, rfl, by decide +kernel, rfl, by decide +kernel, by decide +kernel⟩
theorem ok_Ladder_lowered (Z : Hyp K h mg) : Mt (GG K) P w K mg base 1 "Ladder" "lowered" F_Ladder_lowered := by
  obtain ⟨fd, F⟩ := Z.2.2.1.def_ 36 (d := d_Ladder_lowered) rfl
  refine ⟨_, fd, ["self", "row", "marks"], He.meth_ok (Z.2.2.1.fact 114 (f := .meth "Ladder" "lowered") rfl), fn_pop F sc_Ladder_lowered rfl rfl (fun cdv A outer s H E hr => ?_), F.bindsN fun _ _ _ _ _ _ us hl => match us, hl with | [_, _, _], _ => rfl⟩
  have c : Ct (GG K) (cxOf (L2.CX P w) P w K mg base _ "Ladder.lowered" (defScope s_Ladder_lowered) _ cdv A outer s H E) 0 := ⟨rfl, hr, rfl, sc_Ladder_lowered.nd⟩
  exact (ss_cons (ss_while cx_passes (st_w (sw_and (st_cmp op_gt (fun _ => sim_gt) (sv 1) se_int (nomark _)) (sw_and1 (st_cmp (op_inS c.hu) (fun _ => sim_in) (se_bits (sv 1)) (se_fld c.hK (cf_Ladder Z) rfl (sv 0) rfl) (by with_unfolding_all rfl)))))
    (ss_cons (ss_asg (vs := [0, 1, 2, 3, 4]) (se_ix c.hu c.hK (se_fld c.hK (cf_Ladder Z) rfl (sv 0) rfl) (se_bits (sv 1)) (fun _ _ => rfl)) (sg_tup c.hK c.hc (sgs_cons (gv 3 c) (sgs_cons (gv 4 c) sgs_nil))))
    (ss_one (ss_p2 1 2 c (sa_cons (se_op op_xor (fun _ => sim_xor) (sv 1) (sv 3)) (sa_cons (se_op op_xor (fun _ => sim_xor) (sv 2) (sv 4)) sa_nil))))))
    (ss_one (ss_ret (se_tup (sa_cons (sv 1) (sa_cons (sv 2) sa_nil))))))
theorem sc_Ladder_put : FnScope ["self", "row", "left", "marks"] ["self", "row"] (defScope s_Ladder_put) := ⟨rfl, rfl, rfl, by decide +kernel, rfl, by decide +kernel, by decide +kernel⟩
theorem ok_Ladder_put (Z : Hyp K h mg) : Mt (GG K) P w K mg base 2 "Ladder" "put" F_Ladder_put := by
  obtain ⟨fd, F⟩ := Z.2.2.1.def_ 37 (d := d_Ladder_put) rfl
  have o_Ladder_lowered := (ok_Ladder_lowered (P := P) (w := w) (base := base) Z).mono (k := 1) (by decide)
  refine ⟨_, fd, ["self", "row"], He.meth_ok (Z.2.2.1.fact 115 (f := .meth "Ladder" "put") rfl), fn_pop F sc_Ladder_put rfl rfl (fun cdv A outer s H E hr => ?_), F.bindsN fun _ _ _ _ _ _ us hl => match us, hl with | [_, _], _ => rfl⟩
  have c : Ct (GG K) (cxOf (L2.CX P w) P w K mg base _ "Ladder.put" (defScope s_Ladder_put) _ cdv A outer s H E) 1 := ⟨rfl, hr, rfl, sc_Ladder_put.nd⟩
  exact (ss_cons (ss_asg (vs := [0, 1, 2, 3]) (se_meth c.hK (cf_Ladder Z) (by decide) o_Ladder_lowered c.hr (sv 0) (sa_cons (sv 1) (sa_cons (se_op op_shlW (fun _ => sim_shl) se_int (se_fld c.hK (cf_Ladder Z) rfl (sv 0) rfl)) sa_nil))) (sg_tup c.hK c.hc (sgs_cons (gv 2 c) (sgs_cons (gv 3 c) sgs_nil))))
    (ss_cons (ss_augF c.hK (cf_Ladder Z) (by decide) rfl (sv 0) iop_add (fun _ => sim_add) se_int)
    (ss_one (ss_if (st_cmp op_gt (fun _ => sim_gt) (sv 2) se_int (nomark _))
    (ss_one (ss_asg (vs := [0, 1, 2, 3]) (se_tup (sa_cons (sv 2) (sa_cons (sv 3) sa_nil))) (sg_sub (W := WB E) c.hu (se_fld c.hK (cf_Ladder Z) rfl (sv 0) rfl) (se_bits (sv 2)))))
    (ss_one (ss_expr (se_mt c.hK PySem.F.slot_list_append PySem.F.type_list_append mt_append (fun _ => msim_append) nox_append (se_fld c.hK (cf_Ladder Z) rfl (sv 0) rfl) (sa_cons (sv 3) sa_nil))))))))
theorem sc_ladder_of : FnScope ["rows", "found", "row"] ["rows"] (defScope s_ladder_of) := ⟨rfl, rfl, rfl, by decide +kernel, rfl, by decide +kernel, by decide +kernel⟩
theorem ok_ladder_of (Z : Hyp K h mg) : Fk (GG K) P w K mg base 3 "ladder_of" F_ladder_of := by
  obtain ⟨fd, F⟩ := Z.2.2.1.def_ 38 (d := d_ladder_of) rfl
  have o_Ladder_init := (ok_Ladder_init (P := P) (w := w) (base := base) Z).mono (k := 2 - 1) (by decide)
  have o_Ladder_put := (ok_Ladder_put (P := P) (w := w) (base := base) Z).mono (k := 2) (by decide)
  refine ⟨_, fd, ["rows"], fn_keep F sc_ladder_of rfl rfl (fun cdv A outer s H E hr => ?_), g_ladder_of Z, F.kp, F.bindsN fun _ _ _ _ _ _ us hl => match us, hl with | [_], _ => rfl⟩
  have c : Ct (GG K) (cxOf (L2.CX P w) P w K mg base _ "ladder_of" (defScope s_ladder_of) _ cdv A outer s H E) 2 := ⟨rfl, hr, rfl, sc_ladder_of.nd⟩
  exact (ss_cons (ss_st 1 c (se_make0 c.hK (cf_Ladder Z) rfl (by decide) o_Ladder_init c.hr rfl))
    (ss_cons (ss_for (vs := [0, 1, 2]) cx_passes c.hc (si_sq c (sv 0)) (gv 2 c)
    (ss_one (ss_expr (se_meth c.hK (cf_Ladder Z) (by decide) o_Ladder_put c.hr (sv 1) (sa_cons (sv 2) sa_nil)))))
    (ss_one (ss_ret (sv 1)))))
theorem sc_places_of : FnScope ["marks", "found", "place"] ["marks"] (defScope s_places_of) := ⟨rfl, rfl, rfl, by decide +kernel, rfl, by decide +kernel, by decide +kernel⟩
theorem ok_places_of (Z : Hyp K h mg) : Fk (GG K) P w K mg base 1 "places_of" F_places_of := by
  obtain ⟨fd, F⟩ := Z.2.2.1.def_ 40 (d := d_places_of) rfl
  refine ⟨_, fd, ["marks"], fn_pop F sc_places_of rfl rfl (fun cdv A outer s H E hr => ?_), g_places_of Z, F.kp, F.bindsN fun _ _ _ _ _ _ us hl => match us, hl with | [_], _ => rfl⟩
  have c : Ct (GG K) (cxOf (L2.CX P w) P w K mg base _ "places_of" (defScope s_places_of) _ cdv A outer s H E) 0 := ⟨rfl, hr, rfl, sc_places_of.nd⟩
  exact (ss_cons (ss_p2 1 2 c (sa_cons (se_lstM sa_nil) (sa_cons se_int sa_nil)))
    (ss_cons (ss_while cx_passes (st_cmp op_gt (fun _ => sim_gt) (sv 0) se_int (nomark _))
    (ss_cons (ss_if (st_cmp (op_eqS c.hu) (fun _ => sim_eq) (se_op op_and (fun _ => sim_and) (sv 0) se_int) se_int (nomark _))
    (ss_one (ss_expr (se_mt c.hK PySem.F.slot_list_append PySem.F.type_list_append mt_append (fun _ => msim_append) nox_append (sv 1) (sa_cons (sv 2) sa_nil))))
    ss_nil)
    (ss_one (ss_p2 0 2 c (sa_cons (se_op op_shr (fun _ => sim_shr) (sv 0) se_int) (sa_cons (se_op op_catS (fun _ => sim_cat) (sv 2) se_int) sa_nil))))))
    (ss_one (ss_ret (se_ct call_tuple_of (fun _ => csim_tup) rfl (m_tuple Z) PyProof.Rows.boot_tuple (sa_cons (sv 1) sa_nil))))))
theorem sc_square_times : FnScope ["rows", "number", "found", "place"] ["rows", "number"] (defScope s_square_times) := ⟨rfl, rfl, rfl, by decide +kernel, rfl, by decide +kernel, by decide +kernel⟩
theorem ok_square_times (Z : Hyp K h mg) : Fk (GG K) P w K mg base 2 "square_times" F_square_times := by
  obtain ⟨fd, F⟩ := Z.2.2.1.def_ 57 (d := d_square_times) rfl
  have o_places_of := (ok_places_of (P := P) (w := w) (base := base) Z).mono (k := 1) (by decide)
  refine ⟨_, fd, ["rows", "number"], fn_pop F sc_square_times rfl rfl (fun cdv A outer s H E hr => ?_), g_square_times Z, F.kp, F.bindsN fun _ _ _ _ _ _ us hl => match us, hl with | [_, _], _ => rfl⟩
  have c : Ct (GG K) (cxOf (L2.CX P w) P w K mg base _ "square_times" (defScope s_square_times) _ cdv A outer s H E) 1 := ⟨rfl, hr, rfl, sc_square_times.nd⟩
  exact (ss_cons (ss_st 2 c se_int)
    (ss_cons (ss_for (vs := [0, 1, 2, 3]) cx_passes c.hc (si_sq c (se_call o_places_of c.hr rfl cx_takes (sa_cons (sv 1) sa_nil))) (gv 3 c)
    (ss_one (ss_au 2 c iop_xor (fun _ => sim_xor) (se_ix c.hu c.hK (sv 0) (sv 3) (fun _ _ => rfl)))))
    (ss_one (ss_ret (sv 2)))))
theorem sc_ProductCount_many_differing : FnScope ["self", "turned", "rank", "found", "place", "row", "size", "own", "plain", "bit"] ["self"] (defScope s_ProductCount_many_differing) := ⟨rfl, rfl, rfl, by decide +kernel, rfl, by decide +kernel, by decide +kernel⟩
theorem ok_ProductCount_many_differing (Z : Hyp K h mg) : Mt (GG K) P w K mg base 4 "ProductCount" "many_differing" F_ProductCount_many_differing := by
  obtain ⟨fd, F⟩ := Z.2.2.1.def_ 63 (d := d_ProductCount_many_differing) rfl
  have o_ProductCount_ones_with := (ok_ProductCount_ones_with (P := P) (w := w) (base := base) Z).mono (k := 3) (by decide)
  have o_ladder_of := (ok_ladder_of (P := P) (w := w) (base := base) Z).mono (k := 3) (by decide)
  have o_odd := (ok_odd (P := P) (w := w) (base := base) Z).mono (k := 3) (by decide)
  have o_square_times := (ok_square_times (P := P) (w := w) (base := base) Z).mono (k := 3) (by decide)
  refine ⟨_, fd, ["self"], He.meth_ok (Z.2.2.1.fact 129 (f := .meth "ProductCount" "many_differing") rfl), fn_pop F sc_ProductCount_many_differing rfl rfl (fun cdv A outer s H E hr => ?_), F.bindsN fun _ _ _ _ _ _ us hl => match us, hl with | [_], _ => rfl⟩
  have c : Ct (GG K) (cxOf (L2.CX P w) P w K mg base _ "ProductCount.many_differing" (defScope s_ProductCount_many_differing) _ cdv A outer s H E) 3 := ⟨rfl, hr, rfl, sc_ProductCount_many_differing.nd⟩
  exact (ss_cons (ss_asg (vs := [0, 1, 2, 3, 4, 5, 6, 7, 8, 9]) (se_tup (sa_cons (se_ix c.hu c.hK (se_fld c.hK (cf_ProductCount Z) rfl (sv 0) rfl) se_int (fun _ _ => rfl)) (sa_cons (se_op op_shlW (fun _ => sim_shl) se_int (se_fld c.hK (cf_ProductCount Z) rfl (sv 0) rfl)) sa_nil))) (sg_tup c.hK c.hc (sgs_cons (gv 5 c) (sgs_cons (gv 6 c) sgs_nil))))
    (ss_cons (ss_lc 1 c (own := [("place", 4), ("own", 7)]) (si_enum c.hK rfl (m_enumerate Z) (sa_cons (se_fld c.hK (cf_ProductCount Z) rfl (sv 0) rfl) sa_nil)) (blkOk_by (by rfl)) (fun _ _ _ _ _ => (sg_tup c.blk.hK c.blk.hc (sgs_cons (gv 4 c.blk) (sgs_cons (gv 7 c.blk) sgs_nil)))) (fun _ _ _ _ _ => sts_nil) (fun _ _ _ _ _ => (se_op op_xor (fun _ => sim_xor) (sv 7) (se_if (st_cmp (op_eqS c.blk.hu) (fun _ => sim_eq) (se_op op_and (fun _ => sim_and) (se_op op_shr (fun _ => sim_shr) (sv 5) (sv 4)) se_int) se_int (nomark _)) (sv 5) se_int))))
    (ss_cons (ss_st 2 c (se_cb call_lenS (fun _ => csim_len) rfl (m_len Z) boot_len (sa_cons (se_fld c.hK (cf_Ladder Z) rfl (se_call o_ladder_of c.hr rfl cx_takes (sa_cons (sv 1) sa_nil)) rfl) sa_nil)))
    (ss_cons (ss_st 3 c (se_op op_mulS (fun _ => sim_mul) (se_op op_shr (fun _ => sim_shr) (sv 6) se_int) (se_op op_sub (fun _ => sim_sub) (sv 6) (se_op op_shr (fun _ => sim_shr) (sv 6) (sv 2)))))
    (ss_cons (ss_for (vs := [0, 1, 2, 3, 4, 5, 6, 7, 8, 9]) cx_passes c.hc (si_sq c (se_ix c.hu c.hK (se_fld c.hK (cf_ProductCount Z) rfl (sv 0) rfl) se_int (fun _ _ => rfl))) (gv 4 c)
    (ss_cons (ss_st 7 c (se_call o_square_times c.hr rfl cx_takes (sa_cons (sv 1) (sa_cons (sv 4) sa_nil))))
    (ss_one (ss_au 3 c iop_add (fun _ => sim_add) (se_op op_mulS (fun _ => sim_mul) (se_op op_shr (fun _ => sim_shr) (sv 6) se_int) (se_op op_sub (fun _ => sim_sub) (se_ct call_int1 (fun _ => csim_int) rfl (m_int Z) PyProof.Rows.boot_int (sa_cons (se_cmp (op_eqS c.hu) (fun _ => sim_eq) (sv 7) se_int (nomark _)) sa_nil)) (se_ct call_int1 (fun _ => csim_int) rfl (m_int Z) PyProof.Rows.boot_int (sa_cons (se_cmp (op_eqS c.hu) (fun _ => sim_eq) (sv 7) (sv 5) (nomark _)) sa_nil))))))))
    (ss_cons (ss_for (vs := [0, 1, 2, 3, 4, 5, 6, 7, 8, 9]) cx_passes c.hc (si_sq c (se_ix c.hu c.hK (se_fld c.hK (cf_ProductCount Z) rfl (sv 0) rfl) se_int (fun _ _ => rfl))) (gv 4 c)
    (ss_cons (ss_st 8 c (se_call o_square_times c.hr rfl cx_takes (sa_cons (se_fld c.hK (cf_ProductCount Z) rfl (sv 0) rfl) (sa_cons (sv 4) sa_nil))))
    (ss_cons (ss_st 9 c (se_call o_odd c.hr rfl cx_takes (sa_cons (se_op op_and (fun _ => sim_and) (sv 5) (sv 4)) sa_nil)))
    (ss_cons (ss_au 3 c iop_sub (fun _ => sim_sub) (se_meth c.hK (cf_ProductCount Z) (by decide) o_ProductCount_ones_with c.hr (sv 0) (sa_cons (se_op op_xor (fun _ => sim_xor) (sv 8) (se_if (st_cmp (op_eqS c.hu) (fun _ => sim_eq) (sv 9) se_int (nomark _)) (sv 5) se_int)) (sa_cons (sv 9) sa_nil))))
    (ss_one (ss_au 3 c iop_add (fun _ => sim_add) (se_meth c.hK (cf_ProductCount Z) (by decide) o_ProductCount_ones_with c.hr (sv 0) (sa_cons (se_op op_xor (fun _ => sim_xor) (sv 8) (se_if (st_cmp (op_eqS c.hu) (fun _ => sim_eq) (sv 9) se_int (nomark _)) (sv 5) se_int)) (sa_cons (se_op op_sub (fun _ => sim_sub) se_int (sv 9)) sa_nil)))))))))
    (ss_one (ss_ret (sv 3)))))))))
theorem sc_ones_in : FnScope ["table", "straight", "place"] ["table"] (defScope s_ones_in) := ⟨rfl, rfl, rfl, by decide +kernel, rfl, by decide +kernel, by decide +kernel⟩
theorem ok_ones_in (Z : Hyp K h mg) : Fk (GG K) P w K mg base 2 "ones_in" F_ones_in := by
  obtain ⟨fd, F⟩ := Z.2.2.1.def_ 32 (d := d_ones_in) rfl
  have o_odd := (ok_odd (P := P) (w := w) (base := base) Z).mono (k := 1) (by decide)
  refine ⟨_, fd, ["table"], fn_pop F sc_ones_in rfl rfl (fun cdv A outer s H E hr => ?_), g_ones_in Z, F.kp, F.bindsN fun _ _ _ _ _ _ us hl => match us, hl with | [_], _ => rfl⟩
  have c : Ct (GG K) (cxOf (L2.CX P w) P w K mg base _ "ones_in" (defScope s_ones_in) _ cdv A outer s H E) 1 := ⟨rfl, hr, rfl, sc_ones_in.nd⟩
  exact (ss_cons (ss_st 1 c (se_if (st_cmp (op_neS c.hu) (fun _ => sim_ne) (se_ix c.hu c.hK (sv 0) se_int (fun _ _ => rfl)) se_int (nomark _)) (se_op op_shlW (fun _ => sim_shl) se_int (se_op op_sub (fun _ => sim_sub) (se_ix c.hu c.hK (sv 0) se_int (fun _ _ => rfl)) se_int)) se_int))
    (ss_one (ss_ret (se_op op_catS (fun _ => sim_cat) (sv 1) (se_cb (call_sumS c.hc) (fun _ => csim_sum) rfl (m_sum Z) PyProof.Rows.boot_sum (sa_cons (se_lc c.hc c.hN (own := [("place", 2)]) (si_sq c (se_ix c.hu c.hK (sv 0) se_int (fun _ _ => rfl))) (blkOk_by (by rfl)) (fun _ _ _ _ _ => (gv 2 c.blk)) (fun _ _ _ _ _ => sts_nil) (fun _ _ _ _ _ => (se_op op_sub (fun _ => sim_sub) se_int (se_op op_mulS (fun _ => sim_mul) se_int (se_call o_odd c.blk.hr rfl takes0 (sa_cons (se_op op_and (fun _ => sim_and) (se_ix c.blk.hu c.blk.hK (sv 0) se_int (fun _ _ => rfl)) (sv 2)) sa_nil)))))) sa_nil))))))
theorem sc_ProductCount_still : FnScope ["self", "pairs"] ["self"] (defScope s_ProductCount_still) := ⟨rfl, rfl, rfl, by decide +kernel, rfl, by decide +kernel, by decide +kernel⟩
theorem ok_ProductCount_still (Z : Hyp K h mg) : Mt (GG K) P w K mg base 3 "ProductCount" "still" F_ProductCount_still := by
  obtain ⟨fd, F⟩ := Z.2.2.1.def_ 65 (d := d_ProductCount_still) rfl
  have o_bit_in := (ok_bit_in (P := P) (w := w) (base := base) Z).mono (k := 2) (by decide)
  have o_ones_in := (ok_ones_in (P := P) (w := w) (base := base) Z).mono (k := 2) (by decide)
  refine ⟨_, fd, ["self"], He.meth_ok (Z.2.2.1.fact 131 (f := .meth "ProductCount" "still") rfl), fn_pop F sc_ProductCount_still rfl rfl (fun cdv A outer s H E hr => ?_), F.bindsN fun _ _ _ _ _ _ us hl => match us, hl with | [_], _ => rfl⟩
  have c : Ct (GG K) (cxOf (L2.CX P w) P w K mg base _ "ProductCount.still" (defScope s_ProductCount_still) _ cdv A outer s H E) 2 := ⟨rfl, hr, rfl, sc_ProductCount_still.nd⟩
  exact (ss_cons (ss_st 1 c (se_op op_sub (fun _ => sim_sub) (se_op op_shlW (fun _ => sim_shl) se_int (se_fld c.hK (cf_ProductCount Z) rfl (sv 0) rfl)) se_int))
    (ss_cons (ss_if (st_cmp (op_eqS c.hu) (fun _ => sim_eq) (se_call o_bit_in c.hr rfl cx_takes (sa_cons (se_fld c.hK (cf_ProductCount Z) rfl (sv 0) rfl) (sa_cons se_int sa_nil))) se_int (nomark _))
    (ss_one (ss_ret (sv 1)))
    ss_nil)
    (ss_one (ss_ret (se_op op_sub (fun _ => sim_sub) (sv 1) (se_op op_mulS (fun _ => sim_mul) se_int (se_op op_sub (fun _ => sim_sub) (se_op op_mulS (fun _ => sim_mul) se_int (se_call o_ones_in c.hr rfl cx_takes (sa_cons (se_fld c.hK (cf_ProductCount Z) rfl (sv 0) rfl) sa_nil))) se_int)))))))
theorem sc_ProductCount_fails : FnScope ["self", "found", "differing", "changes", "one", "other", "own"] ["self"] (defScope s_ProductCount_fails) := ⟨rfl, rfl, rfl, by decide +kernel, rfl, by decide +kernel, by decide +kernel⟩
theorem ok_ProductCount_fails (Z : Hyp K h mg) : Mt (GG K) P w K mg base 5 "ProductCount" "fails" F_ProductCount_fails := by
  obtain ⟨fd, F⟩ := Z.2.2.1.def_ 66 (d := d_ProductCount_fails) rfl
  have o_ProductCount_differs := (ok_ProductCount_differs (P := P) (w := w) (base := base) Z).mono (k := 4) (by decide)
  have o_ProductCount_far_pairs := (ok_ProductCount_far_pairs (P := P) (w := w) (base := base) Z).mono (k := 4) (by decide)
  have o_ProductCount_many_differing := (ok_ProductCount_many_differing (P := P) (w := w) (base := base) Z).mono (k := 4) (by decide)
  have o_ProductCount_still := (ok_ProductCount_still (P := P) (w := w) (base := base) Z).mono (k := 4) (by decide)
  have o_product_in := (ok_product_in (P := P) (w := w) (base := base) Z).mono (k := 4) (by decide)
  refine ⟨_, fd, ["self"], He.meth_ok (Z.2.2.1.fact 132 (f := .meth "ProductCount" "fails") rfl), fn_pop F sc_ProductCount_fails rfl rfl (fun cdv A outer s H E hr => ?_), F.bindsN fun _ _ _ _ _ _ us hl => match us, hl with | [_], _ => rfl⟩
  have c : Ct (GG K) (cxOf (L2.CX P w) P w K mg base _ "ProductCount.fails" (defScope s_ProductCount_fails) _ cdv A outer s H E) 4 := ⟨rfl, hr, rfl, sc_ProductCount_fails.nd⟩
  exact (ss_cons (ss_p2 2 3 c (sa_cons (se_meth0 c.hK (cf_ProductCount Z) (by decide) o_ProductCount_many_differing c.hr (sv 0)) (sa_cons (se_cb call_lenS (fun _ => csim_len) rfl (m_len Z) boot_len (sa_cons (se_ix c.hu c.hK (se_fld c.hK (cf_ProductCount Z) rfl (sv 0) rfl) se_int (fun _ _ => rfl)) sa_nil)) sa_nil)))
    (ss_cons (ss_st 1 c (se_op op_catS (fun _ => sim_cat) (se_op op_mulS (fun _ => sim_mul) (se_fld c.hK (cf_ProductCount Z) rfl (sv 0) rfl) (sv 2)) (se_op op_mulS (fun _ => sim_mul) (se_op op_mulS (fun _ => sim_mul) se_int (sv 3)) (se_op op_sub (fun _ => sim_sub) (se_op op_shlW (fun _ => sim_shl) se_int (se_op op_mulS (fun _ => sim_mul) se_int (se_fld c.hK (cf_ProductCount Z) rfl (sv 0) rfl))) (se_op op_mulS (fun _ => sim_mul) se_int (sv 2))))))
    (ss_cons (ss_au 1 c iop_sub (fun _ => sim_sub) (se_op op_mulS (fun _ => sim_mul) (se_op op_mulS (fun _ => sim_mul) se_int (sv 3)) (se_meth0 c.hK (cf_ProductCount Z) (by decide) o_ProductCount_still c.hr (sv 0))))
    (ss_cons (ss_for (vs := [0, 1, 2, 3, 4, 5, 6]) cx_passes c.hc (si_sq c (se_meth0 c.hK (cf_ProductCount Z) (by decide) o_ProductCount_far_pairs c.hr (sv 0))) (sg_tup c.hK c.hc (sgs_cons (gv 4 c) (sgs_cons (gv 5 c) sgs_nil)))
    (ss_cons (ss_st 6 c (se_op op_sub (fun _ => sim_sub) se_int (se_op op_mulS (fun _ => sim_mul) se_int (se_meth c.hK (cf_ProductCount Z) (by decide) o_ProductCount_differs c.hr (sv 0) (sa_cons (sv 4) (sa_cons (sv 5) sa_nil))))))
    (ss_one (ss_au 1 c iop_sub (fun _ => sim_sub) (se_op op_mulS (fun _ => sim_mul) (se_op op_mulS (fun _ => sim_mul) se_int (se_ix c.hu c.hK (se_fld c.hK (cf_ProductCount Z) rfl (sv 0) rfl) (se_call o_product_in c.hr rfl cx_takes (sa_cons (se_fld c.hK (cf_ProductCount Z) rfl (sv 0) rfl) (sa_cons (sv 4) (sa_cons (sv 5) sa_nil)))) (fun _ _ => rfl))) (sv 6))))))
    (ss_one (ss_ret (sv 1)))))))
theorem sc_mirror_rows : FnScope ["many", "row", "found", "one", "other"] ["many", "row"] (defScope s_mirror_rows) := ⟨rfl, rfl, rfl, by decide +kernel, rfl, by decide +kernel, by decide +kernel⟩
theorem ok_mirror_rows (Z : Hyp K h mg) : Fk (GG K) P w K mg base 2 "mirror_rows" F_mirror_rows := by
  obtain ⟨fd, F⟩ := Z.2.2.1.def_ 56 (d := d_mirror_rows) rfl
  have o_pair_number := (ok_pair_number (P := P) (w := w) (base := base) Z).mono (k := 1) (by decide)
  refine ⟨_, fd, ["many", "row"], fn_pop F sc_mirror_rows rfl rfl (fun cdv A outer s H E hr => ?_), g_mirror_rows Z, F.kp, F.bindsN fun _ _ _ _ _ _ us hl => match us, hl with | [_, _], _ => rfl⟩
  have c : Ct (GG K) (cxOf (L2.CX P w) P w K mg base _ "mirror_rows" (defScope s_mirror_rows) _ cdv A outer s H E) 1 := ⟨rfl, hr, rfl, sc_mirror_rows.nd⟩
  exact (ss_cons (ss_st 2 c (se_repM (se_lst (sa_cons se_int sa_nil)) (sv 0)))
    (ss_cons (ss_for (vs := [0, 1, 2, 3, 4]) cx_passes c.hc (si_range1 rfl (m_range Z) (sa_cons (sv 0) sa_nil)) (gv 3 c)
    (ss_one (ss_for (vs := [0, 1, 2, 3, 4]) cx_passes c.hc (si_range2 rfl (m_range Z) (sa_cons (sv 3) (sa_cons (sv 0) sa_nil))) (gv 4 c)
    (ss_one (ss_if (st_cmp (op_eqS c.hu) (fun _ => sim_eq) (se_op op_and (fun _ => sim_and) (se_op op_shr (fun _ => sim_shr) (sv 1) (se_call o_pair_number c.hr rfl cx_takes (sa_cons (sv 0) (sa_cons (sv 3) (sa_cons (sv 4) sa_nil))))) se_int) se_int (nomark _))
    (ss_cons (ss_augL c.hu (sv 2) (sv 3) iop_or (fun _ => sim_or) (se_op op_shlW (fun _ => sim_shl) se_int (sv 4)))
    (ss_one (ss_augL c.hu (sv 2) (sv 4) iop_or (fun _ => sim_or) (se_op op_shlW (fun _ => sim_shl) se_int (sv 3)))))
    ss_nil)))))
    (ss_one (ss_ret (sv 2)))))
theorem sc_ProductCount_init : FnScope ["self", "equations", "proof", "near", "far"] ["self", "equations", "proof"] (defScope s_ProductCount_init) := ⟨rfl, rfl, rfl, by decide +kernel, rfl, by decide +kernel, by decide +kernel⟩
theorem ok_ProductCount_init (Z : Hyp K h mg) : Mkr (GG K) P w K mg base 3 "ProductCount" "ProductCount" F_ProductCount_init := by
  obtain ⟨fd, F⟩ := Z.2.2.1.def_ 58 (d := d_ProductCount_init) rfl
  have o_mirror_rows := (ok_mirror_rows (P := P) (w := w) (base := base) Z).mono (k := 2) (by decide)
  refine ⟨_, fd, ["self", "equations", "proof"], He.mkr_ok (Z.2.2.1.fact 118 (f := .mkr "ProductCount") rfl), fn_keep F sc_ProductCount_init rfl rfl (fun cdv A outer s H E hr => ?_), g_ProductCount Z, F.bindsN fun _ _ _ _ _ _ us hl => match us, hl with | [_, _, _], _ => rfl⟩
  have c : Ct (GG K) (cxOf (L2.CX P w) P w K mg base _ "ProductCount.__init__" (defScope s_ProductCount_init) _ cdv A outer s H E) 2 := ⟨rfl, hr, rfl, sc_ProductCount_init.nd⟩
  exact (ss_cons (ss_asg (vs := [0, 1, 2, 3, 4]) (se_tup (sa_cons (se_ix c.hu c.hK (sv 1) se_int (fun _ _ => rfl)) (sa_cons (sv 2) sa_nil))) (sg_tup c.hK c.hc (sgs_cons (sg_fld (W := WB E) c.hK (cf_ProductCount Z) (by decide) rfl (sv 0)) (sgs_cons (sg_tup c.hK c.hc (sgs_cons (sg_fld (W := WB E) c.hK (cf_ProductCount Z) (by decide) rfl (sv 0)) (sgs_cons (sg_fld (W := WB E) c.hK (cf_ProductCount Z) (by decide) rfl (sv 0)) sgs_nil))) sgs_nil))))
    (ss_cons (ss_asg (vs := [0, 1, 2, 3, 4]) (se_op op_shlW (fun _ => sim_shl) se_int (se_ix c.hu c.hK (se_fld c.hK (cf_ProductCount Z) rfl (sv 0) rfl) se_int (fun _ _ => rfl))) (sg_fld (W := WB E) c.hK (cf_ProductCount Z) (by decide) rfl (sv 0)))
    (ss_cons (ss_asg (vs := [0, 1, 2, 3, 4]) (se_call o_mirror_rows c.hr rfl cx_takes (sa_cons (se_fld c.hK (cf_ProductCount Z) rfl (sv 0) rfl) (sa_cons (se_ix c.hu c.hK (se_fld c.hK (cf_ProductCount Z) rfl (sv 0) rfl) se_int (fun _ _ => rfl)) sa_nil))) (sg_fld (W := WB E) c.hK (cf_ProductCount Z) (by decide) rfl (sv 0)))
    (ss_cons (ss_asg (vs := [0, 1, 2, 3, 4]) se_dK (sg_fld (W := WB E) c.hK (cf_ProductCount Z) (by decide) rfl (sv 0)))
    (ss_one (ss_for (vs := [0, 1, 2, 3, 4]) cx_passes c.hc (si_sq c (se_ix c.hu c.hK (se_fld c.hK (cf_ProductCount Z) rfl (sv 0) rfl) se_int (fun _ _ => rfl))) (gv 3 c)
    (ss_one (ss_for (vs := [0, 1, 2, 3, 4]) cx_passes c.hc (si_sq c (se_ix c.hu c.hK (se_fld c.hK (cf_ProductCount Z) rfl (sv 0) rfl) se_int (fun _ _ => rfl))) (gv 4 c)
    (ss_one (ss_asg (vs := [0, 1, 2, 3, 4]) (se_op op_catS (fun _ => sim_cat) (se_get2 c.hu (se_fld c.hK (cf_ProductCount Z) rfl (sv 0) rfl) (se_op op_xor (fun _ => sim_xor) (sv 3) (sv 4)) se_int ⟨rfl, rfl, rfl, rfl⟩) se_int) (sg_sub (W := WB E) c.hu (se_fld c.hK (cf_ProductCount Z) rfl (sv 0) rfl) (se_op op_xor (fun _ => sim_xor) (sv 3) (sv 4)))))))))))))
theorem sc_meetings : FnScope ["table", "shift", "known", "place"] ["table", "shift"] (defScope s_meetings) := ⟨rfl, rfl, rfl, by decide +kernel, rfl, by decide +kernel, by decide +kernel⟩
theorem ok_meetings (Z : Hyp K h mg) : Fk (GG K) P w K mg base 1 "meetings" F_meetings := by
  obtain ⟨fd, F⟩ := Z.2.2.1.def_ 24 (d := d_meetings) rfl
  refine ⟨_, fd, ["table", "shift"], fn_pop F sc_meetings rfl rfl (fun cdv A outer s H E hr => ?_), g_meetings Z, F.kp, F.bindsN fun _ _ _ _ _ _ us hl => match us, hl with | [_, _], _ => rfl⟩
  have c : Ct (GG K) (cxOf (L2.CX P w) P w K mg base _ "meetings" (defScope s_meetings) _ cdv A outer s H E) 0 := ⟨rfl, hr, rfl, sc_meetings.nd⟩
  exact (ss_cons (ss_st 2 c (se_dc c.hc c.hN (own := [("place", 3)]) (si_sq c (se_ix c.hu c.hK (sv 0) se_int (fun _ _ => rfl))) (blkOk_by (by rfl)) (fun _ _ _ _ _ => (gv 3 c.blk)) (fun _ _ _ _ _ => sts_nil) (fun _ _ _ _ _ => (sv 3)) (fun _ _ _ _ _ => se_bl)))
    (ss_one (ss_ret (se_cb call_lenS (fun _ => csim_len) rfl (m_len Z) boot_len (sa_cons (se_lc c.hc c.hN (own := [("place", 3)]) (si_sq c (se_ix c.hu c.hK (sv 0) se_int (fun _ _ => rfl))) (blkOk_by (by rfl)) (fun _ _ _ _ _ => (gv 3 c.blk)) (fun _ _ _ _ _ => (sts_one (st_cmp (op_inS c.blk.hu) (fun _ => sim_in) (se_op op_xor (fun _ => sim_xor) (sv 3) (sv 1)) (sv 2) (by with_unfolding_all rfl)))) (fun _ _ _ _ _ => (sv 3))) sa_nil)))))
theorem sc_triples_in : FnScope ["table", "place"] ["table"] (defScope s_triples_in) := ⟨rfl, rfl, rfl, by decide +kernel, rfl, by decide +kernel, by decide +kernel⟩
theorem ok_triples_in (Z : Hyp K h mg) : Fk (GG K) P w K mg base 2 "triples_in" F_triples_in := by
  obtain ⟨fd, F⟩ := Z.2.2.1.def_ 29 (d := d_triples_in) rfl
  have o_meetings := (ok_meetings (P := P) (w := w) (base := base) Z).mono (k := 1) (by decide)
  refine ⟨_, fd, ["table"], fn_pop F sc_triples_in rfl rfl (fun cdv A outer s H E hr => ?_), g_triples_in Z, F.kp, F.bindsN fun _ _ _ _ _ _ us hl => match us, hl with | [_], _ => rfl⟩
  have c : Ct (GG K) (cxOf (L2.CX P w) P w K mg base _ "triples_in" (defScope s_triples_in) _ cdv A outer s H E) 1 := ⟨rfl, hr, rfl, sc_triples_in.nd⟩
  exact (ss_one (ss_ret (se_cb (call_sumS c.hc) (fun _ => csim_sum) rfl (m_sum Z) PyProof.Rows.boot_sum (sa_cons (se_lc c.hc c.hN (own := [("place", 1)]) (si_sq c (se_ix c.hu c.hK (sv 0) se_int (fun _ _ => rfl))) (blkOk_by (by rfl)) (fun _ _ _ _ _ => (gv 1 c.blk)) (fun _ _ _ _ _ => sts_nil) (fun _ _ _ _ _ => (se_call o_meetings c.blk.hr rfl takes0 (sa_cons (sv 0) (sa_cons (sv 1) sa_nil))))) sa_nil))))
theorem sc_line_fails_in : FnScope ["table", "wide", "many"] ["table"] (defScope s_line_fails_in) := ⟨rfl, rfl, rfl, by decide +kernel, rfl, by decide +kernel, by decide +kernel⟩
theorem ok_line_fails_in (Z : Hyp K h mg) : Fk (GG K) P w K mg base 3 "line_fails_in" F_line_fails_in := by
  obtain ⟨fd, F⟩ := Z.2.2.1.def_ 30 (d := d_line_fails_in) rfl
  have o_triples_in := (ok_triples_in (P := P) (w := w) (base := base) Z).mono (k := 2) (by decide)
  refine ⟨_, fd, ["table"], fn_pop F sc_line_fails_in rfl rfl (fun cdv A outer s H E hr => ?_), g_line_fails_in Z, F.kp, F.bindsN fun _ _ _ _ _ _ us hl => match us, hl with | [_], _ => rfl⟩
  have c : Ct (GG K) (cxOf (L2.CX P w) P w K mg base _ "line_fails_in" (defScope s_line_fails_in) _ cdv A outer s H E) 2 := ⟨rfl, hr, rfl, sc_line_fails_in.nd⟩
  exact (ss_cons (ss_p2 1 2 c (sa_cons (se_op op_shlW (fun _ => sim_shl) se_int (se_ix c.hu c.hK (sv 0) se_int (fun _ _ => rfl))) (sa_cons (se_cb call_lenS (fun _ => csim_len) rfl (m_len Z) boot_len (sa_cons (se_ix c.hu c.hK (sv 0) se_int (fun _ _ => rfl)) sa_nil)) sa_nil)))
    (ss_one (ss_ret (se_op op_catS (fun _ => sim_cat) (se_op op_sub (fun _ => sim_sub) (se_op op_mulS (fun _ => sim_mul) (se_op op_mulS (fun _ => sim_mul) se_int (sv 2)) (sv 1)) (se_op op_mulS (fun _ => sim_mul) (se_op op_mulS (fun _ => sim_mul) se_int (sv 2)) (sv 2))) (se_op op_mulS (fun _ => sim_mul) se_int (se_call o_triples_in c.hr rfl cx_takes (sa_cons (sv 0) sa_nil)))))))
theorem sc_made_of : FnScope ["rows", "goal", "left", "marks"] ["rows", "goal"] (defScope s_made_of) := ⟨rfl, rfl, rfl, by decide +kernel, rfl, by decide +kernel, by decide +kernel⟩
theorem ok_made_of (Z : Hyp K h mg) : Fk (GG K) P w K mg base 4 "made_of" F_made_of := by
  obtain ⟨fd, F⟩ := Z.2.2.1.def_ 39 (d := d_made_of) rfl
  have o_Ladder_lowered := (ok_Ladder_lowered (P := P) (w := w) (base := base) Z).mono (k := 3) (by decide)
  have o_ladder_of := (ok_ladder_of (P := P) (w := w) (base := base) Z).mono (k := 3) (by decide)
  refine ⟨_, fd, ["rows", "goal"], fn_pop F sc_made_of rfl rfl (fun cdv A outer s H E hr => ?_), g_made_of Z, F.kp, F.bindsN fun _ _ _ _ _ _ us hl => match us, hl with | [_, _], _ => rfl⟩
  have c : Ct (GG K) (cxOf (L2.CX P w) P w K mg base _ "made_of" (defScope s_made_of) _ cdv A outer s H E) 3 := ⟨rfl, hr, rfl, sc_made_of.nd⟩
  exact (ss_cons (ss_asg (vs := [0, 1, 2, 3]) (se_meth c.hK (cf_Ladder Z) (by decide) o_Ladder_lowered c.hr (se_call o_ladder_of c.hr rfl cx_takes (sa_cons (sv 0) sa_nil)) (sa_cons (sv 1) (sa_cons se_int sa_nil))) (sg_tup c.hK c.hc (sgs_cons (gv 2 c) (sgs_cons (gv 3 c) sgs_nil))))
    (ss_one (ss_ret (se_if (st_cmp (op_eqS c.hu) (fun _ => sim_eq) (sv 2) se_int (nomark _)) (sv 3) se_non))))
theorem sc_missed_by : FnScope ["errors", "marks", "place"] ["errors", "marks"] (defScope s_missed_by) := ⟨rfl, rfl, rfl, by decide +kernel, rfl, by decide +kernel, by decide +kernel⟩
theorem ok_missed_by (Z : Hyp K h mg) : Fk (GG K) P w K mg base 2 "missed_by" F_missed_by := by
  obtain ⟨fd, F⟩ := Z.2.2.1.def_ 70 (d := d_missed_by) rfl
  have o_places_of := (ok_places_of (P := P) (w := w) (base := base) Z).mono (k := 1) (by decide)
  refine ⟨_, fd, ["errors", "marks"], fn_pop F sc_missed_by rfl rfl (fun cdv A outer s H E hr => ?_), g_missed_by Z, F.kp, F.bindsN fun _ _ _ _ _ _ us hl => match us, hl with | [_, _], _ => rfl⟩
  have c : Ct (GG K) (cxOf (L2.CX P w) P w K mg base _ "missed_by" (defScope s_missed_by) _ cdv A outer s H E) 1 := ⟨rfl, hr, rfl, sc_missed_by.nd⟩
  exact (ss_one (ss_ret (se_op op_mod (fun _ => sim_mod) (se_cb (call_sumS c.hc) (fun _ => csim_sum) rfl (m_sum Z) PyProof.Rows.boot_sum (sa_cons (se_lc c.hc c.hN (own := [("place", 2)]) (si_sq c (se_call o_places_of c.hr rfl cx_takes (sa_cons (sv 1) sa_nil))) (blkOk_by (by rfl)) (fun _ _ _ _ _ => (gv 2 c.blk)) (fun _ _ _ _ _ => sts_nil) (fun _ _ _ _ _ => (se_ix c.blk.hu c.blk.hK (sv 0) (sv 2) (fun _ _ => rfl)))) sa_nil)) se_int)))
theorem sc_row_place : FnScope ["many", "row", "found", "one", "other"] ["many", "row"] (defScope s_row_place) := ⟨rfl, rfl, rfl, by decide +kernel, rfl, by decide +kernel, by decide +kernel⟩
theorem ok_row_place (Z : Hyp K h mg) : Fk (GG K) P w K mg base 2 "row_place" F_row_place := by
  obtain ⟨fd, F⟩ := Z.2.2.1.def_ 49 (d := d_row_place) rfl
  have o_pair_number := (ok_pair_number (P := P) (w := w) (base := base) Z).mono (k := 1) (by decide)
  refine ⟨_, fd, ["many", "row"], fn_pop F sc_row_place rfl rfl (fun cdv A outer s H E hr => ?_), g_row_place Z, F.kp, F.bindsN fun _ _ _ _ _ _ us hl => match us, hl with | [_, _], _ => rfl⟩
  have c : Ct (GG K) (cxOf (L2.CX P w) P w K mg base _ "row_place" (defScope s_row_place) _ cdv A outer s H E) 1 := ⟨rfl, hr, rfl, sc_row_place.nd⟩
  exact (ss_cons (ss_st 2 c se_int)
    (ss_cons (ss_for (vs := [0, 1, 2, 3, 4]) cx_passes c.hc (si_sq c (se_ix c.hu c.hK (sv 1) se_int (fun _ _ => rfl))) (sg_tup c.hK c.hc (sgs_cons (gv 3 c) (sgs_cons (gv 4 c) sgs_nil)))
    (ss_one (ss_au 2 c iop_xor (fun _ => sim_xor) (se_op op_shlW (fun _ => sim_shl) se_int (se_call o_pair_number c.hr rfl cx_takes (sa_cons (sv 0) (sa_cons (sv 3) (sa_cons (sv 4) sa_nil))))))))
    (ss_one (ss_ret (sv 2)))))
theorem sc_row_fails_in : FnScope ["equations", "proof", "places", "errors", "missed", "found", "ladder", "kernel_odd", "gaps", "near", "gap", "second", "many", "wide", "changes", "far", "marks", "row", "often", "place"] ["equations", "proof"] (defScope s_row_fails_in) := ⟨rfl, rfl, rfl, by decide +kernel, rfl, by decide +kernel, by decide +kernel⟩
theorem ok_row_fails_in (Z : Hyp K h mg) : Fk (GG K) P w K mg base 5 "row_fails_in" F_row_fails_in := by
  obtain ⟨fd, F⟩ := Z.2.2.1.def_ 69 (d := d_row_fails_in) rfl
  have o_ladder_of := (ok_ladder_of (P := P) (w := w) (base := base) Z).mono (k := 4) (by decide)
  have o_made_of := (ok_made_of (P := P) (w := w) (base := base) Z).mono (k := 4) (by decide)
  have o_meetings := (ok_meetings (P := P) (w := w) (base := base) Z).mono (k := 4) (by decide)
  have o_missed_by := (ok_missed_by (P := P) (w := w) (base := base) Z).mono (k := 4) (by decide)
  have o_odd := (ok_odd (P := P) (w := w) (base := base) Z).mono (k := 4) (by decide)
  have o_row_place := (ok_row_place (P := P) (w := w) (base := base) Z).mono (k := 4) (by decide)
  refine ⟨_, fd, ["equations", "proof"], fn_pop F sc_row_fails_in rfl rfl (fun cdv A outer s H E hr => ?_), g_row_fails_in Z, F.kp, F.bindsN fun _ _ _ _ _ _ us hl => match us, hl with | [_, _], _ => rfl⟩
  have c : Ct (GG K) (cxOf (L2.CX P w) P w K mg base _ "row_fails_in" (defScope s_row_fails_in) _ cdv A outer s H E) 4 := ⟨rfl, hr, rfl, sc_row_fails_in.nd⟩
  exact (ss_cons (ss_asg (vs := [0, 1, 2, 3, 4, 5, 6, 7, 8, 9, 10, 11, 12, 13, 14, 15, 16, 17, 18, 19]) (se_tup (sa_cons (se_ix c.hu c.hK (sv 1) se_int (fun _ _ => rfl)) (sa_cons (se_cb call_lenS (fun _ => csim_len) rfl (m_len Z) boot_len (sa_cons (se_ix c.hu c.hK (sv 0) se_int (fun _ _ => rfl)) sa_nil)) sa_nil))) (sg_tup c.hK c.hc (sgs_cons (gv 11 c) (sgs_cons (gv 12 c) sgs_nil))))
    (ss_cons (ss_lc 2 c (own := [("row", 17)]) (si_sq c (se_ix c.hu c.hK (sv 0) se_int (fun _ _ => rfl))) (blkOk_by (by rfl)) (fun _ _ _ _ _ => (gv 17 c.blk)) (fun _ _ _ _ _ => sts_nil) (fun _ _ _ _ _ => (se_call o_row_place c.blk.hr rfl takes0 (sa_cons (se_ix c.blk.hu c.blk.hK (sv 0) se_int (fun _ _ => rfl)) (sa_cons (sv 17) sa_nil)))))
    (ss_cons (ss_st 3 c (se_lc c.hc c.hN (own := [("place", 19), ("row", 17)]) (si_zz c.hK rfl (m_zip Z) (sa_cons (sv 2) (sa_cons (se_ix c.hu c.hK (sv 0) se_int (fun _ _ => rfl)) sa_nil))) (blkOk_by (by rfl)) (fun _ _ _ _ _ => (sg_tup c.blk.hK c.blk.hc (sgs_cons (gv 19 c.blk) (sgs_cons (gv 17 c.blk) sgs_nil)))) (fun _ _ _ _ _ => sts_nil) (fun _ _ _ _ _ => (se_op op_xor (fun _ => sim_xor) (se_call o_odd c.blk.hr rfl takes0 (sa_cons (se_op op_and (fun _ => sim_and) (se_ix c.blk.hu c.blk.hK (sv 11) se_int (fun _ _ => rfl)) (sv 19)) sa_nil)) (se_ix c.blk.hu c.blk.hK (sv 17) se_int (fun _ _ => rfl))))))
    (ss_cons (ss_p2 13 14 c (sa_cons (se_op op_shlW (fun _ => sim_shl) se_int (se_ix c.hu c.hK (sv 11) se_int (fun _ _ => rfl))) (sa_cons (se_cb call_lenS (fun _ => csim_len) rfl (m_len Z) boot_len (sa_cons (se_ix c.hu c.hK (sv 11) se_int (fun _ _ => rfl)) sa_nil)) sa_nil)))
    (ss_cons (ss_st 4 c (se_if (st_cmp (op_inS c.hu) (fun _ => sim_in) se_int (sv 3) (by with_unfolding_all rfl)) (se_op op_shlW (fun _ => sim_shl) se_int (se_op op_sub (fun _ => sim_sub) (sv 12) se_int)) se_int))
    (ss_cons (ss_st 5 c (se_op op_catS (fun _ => sim_cat) (se_op op_mulS (fun _ => sim_mul) (sv 13) (sv 4)) (se_op op_mulS (fun _ => sim_mul) (se_op op_mulS (fun _ => sim_mul) se_int (sv 14)) (se_op op_sub (fun _ => sim_sub) (se_op op_shlW (fun _ => sim_shl) se_int (sv 12)) (se_op op_mulS (fun _ => sim_mul) se_int (sv 4))))))
    (ss_cons (ss_st 6 c (se_call o_ladder_of c.hr rfl cx_takes (sa_cons (sv 2) sa_nil)))
    (ss_cons (ss_st 7 c (se_cb (cr_any c.hc) (fun _ => csim_any) rfl (m_any Z) PyProof.Rows.boot_any (sa_cons (se_lc c.hc c.hN (own := [("marks", 16)]) (si_sq c (se_fld c.hK (cf_Ladder Z) rfl (sv 6) rfl)) (blkOk_by (by rfl)) (fun _ _ _ _ _ => (gv 16 c.blk)) (fun _ _ _ _ _ => sts_nil) (fun _ _ _ _ _ => (se_cmp (op_eqS c.blk.hu) (fun _ => sim_eq) (se_call o_missed_by c.blk.hr rfl takes0 (sa_cons (sv 3) (sa_cons (sv 16) sa_nil))) se_int (nomark _)))) sa_nil)))
    (ss_cons (ss_st 8 c se_dK)
    (ss_cons (ss_for (vs := [0, 1, 2, 3, 4, 5, 6, 7, 8, 9, 10, 11, 12, 13, 14, 15, 16, 17, 18, 19]) cx_passes c.hc (si_sq c (se_ix c.hu c.hK (sv 11) se_int (fun _ _ => rfl))) (gv 9 c)
    (ss_one (ss_for (vs := [0, 1, 2, 3, 4, 5, 6, 7, 8, 9, 10, 11, 12, 13, 14, 15, 16, 17, 18, 19]) cx_passes c.hc (si_sq c (se_ix c.hu c.hK (sv 11) se_int (fun _ _ => rfl))) (gv 15 c)
    (ss_one (ss_asg (vs := [0, 1, 2, 3, 4, 5, 6, 7, 8, 9, 10, 11, 12, 13, 14, 15, 16, 17, 18, 19]) se_bl (sg_sub (W := WB E) c.hu (sv 8) (se_op op_xor (fun _ => sim_xor) (sv 9) (sv 15))))))))
    (ss_cons (ss_for (vs := [0, 1, 2, 3, 4, 5, 6, 7, 8, 9, 10, 11, 12, 13, 14, 15, 16, 17, 18, 19]) cx_passes c.hc (si_sq c (se_cbL (call_sortS c) (fun _ => lsim_sortS) rfl (m_sorted Z) PyProof.Rows.boot_sorted (sa_cons (sv 8) sa_nil))) (gv 10 c)
    (ss_cons (ss_st 16 c (se_call o_made_of c.hr rfl cx_takes (sa_cons (sv 2) (sa_cons (sv 10) sa_nil))))
    (ss_one (ss_if (st_w (sw_and (st_cmp op_notN (fun _ => sim_notN) (sv 16) se_non (nomark _)) (sw_and1 (st_not (st_tru c.hK (sv 7) (fun _ => rfl))))))
    (ss_cons (ss_st 18 c (se_op op_shlW (fun _ => sim_shl) se_int (se_cb call_lenS (fun _ => csim_len) rfl (m_len Z) boot_len (sa_cons (se_fld c.hK (cf_Ladder Z) rfl (sv 6) rfl) sa_nil))))
    (ss_one (ss_au 5 c iop_sub (fun _ => sim_sub) (se_op op_mulS (fun _ => sim_mul) (se_op op_mulS (fun _ => sim_mul) (se_op op_mulS (fun _ => sim_mul) se_int (se_call o_meetings c.hr rfl cx_takes (sa_cons (sv 11) (sa_cons (sv 10) sa_nil)))) (sv 18)) (se_op op_sub (fun _ => sim_sub) se_int (se_op op_mulS (fun _ => sim_mul) se_int (se_call o_missed_by c.hr rfl cx_takes (sa_cons (sv 3) (sa_cons (sv 16) sa_nil)))))))))
    ss_nil))))
    (ss_one (ss_ret (sv 5))))))))))))))
theorem sc_fails_in : FnScope ["equations", "proof", "product"] ["equations", "proof"] (defScope s_fails_in) := ⟨rfl, rfl, rfl, by decide +kernel, rfl, by decide +kernel, by decide +kernel⟩
theorem ok_fails_in (Z : Hyp K h mg) : Fk (GG K) P w K mg base 6 "fails_in" F_fails_in := by
  obtain ⟨fd, F⟩ := Z.2.2.1.def_ 71 (d := d_fails_in) rfl
  have o_ProductCount_fails := (ok_ProductCount_fails (P := P) (w := w) (base := base) Z).mono (k := 5) (by decide)
  have o_ProductCount_init := (ok_ProductCount_init (P := P) (w := w) (base := base) Z).mono (k := 5 - 1) (by decide)
  have o_line_fails_in := (ok_line_fails_in (P := P) (w := w) (base := base) Z).mono (k := 5) (by decide)
  have o_row_fails_in := (ok_row_fails_in (P := P) (w := w) (base := base) Z).mono (k := 5) (by decide)
  refine ⟨_, fd, ["equations", "proof"], fn_pop F sc_fails_in rfl rfl (fun cdv A outer s H E hr => ?_), g_fails_in Z, F.kp, F.bindsN fun _ _ _ _ _ _ us hl => match us, hl with | [_, _], _ => rfl⟩
  have c : Ct (GG K) (cxOf (L2.CX P w) P w K mg base _ "fails_in" (defScope s_fails_in) _ cdv A outer s H E) 5 := ⟨rfl, hr, rfl, sc_fails_in.nd⟩
  exact (ss_cons (ss_st 2 c (se_meth0 c.hK (cf_ProductCount Z) (by decide) o_ProductCount_fails c.hr (se_make c.hK (cf_ProductCount Z) rfl (by decide) o_ProductCount_init c.hr rfl (sa_cons (sv 0) (sa_cons (sv 1) sa_nil)))))
    (ss_one (ss_ret (se_tup (sa_cons (se_call o_line_fails_in c.hr rfl cx_takes (sa_cons (se_ix c.hu c.hK (sv 1) se_int (fun _ _ => rfl)) sa_nil)) (sa_cons (se_call o_line_fails_in c.hr rfl cx_takes (sa_cons (se_ix c.hu c.hK (sv 1) se_int (fun _ _ => rfl)) sa_nil)) (sa_cons (sv 2) (sa_cons (se_call o_row_fails_in c.hr rfl cx_takes (sa_cons (sv 0) (sa_cons (sv 1) sa_nil))) sa_nil))))))))
theorem sc_is_bit : FnScope ["thing"] ["thing"] (defScope s_is_bit) := ⟨rfl, rfl, rfl, by decide +kernel, rfl, by decide +kernel, by decide +kernel⟩
theorem ok_is_bit (Z : Hyp K h mg) : Fk (GG K) P w K mg base 3 "is_bit" F_is_bit := by
  obtain ⟨fd, F⟩ := Z.2.2.1.def_ 8 (d := d_is_bit) rfl
  have o_is_within := (ok_is_within (P := P) (w := w) (base := base) Z).mono (k := 2) (by decide)
  refine ⟨_, fd, ["thing"], fn_pop F sc_is_bit rfl rfl (fun cdv A outer s H E hr => ?_), g_is_bit Z, F.kp, F.bindsN fun _ _ _ _ _ _ us hl => match us, hl with | [_], _ => rfl⟩
  have c : Ct (GG K) (cxOf (L2.CX P w) P w K mg base _ "is_bit" (defScope s_is_bit) _ cdv A outer s H E) 2 := ⟨rfl, hr, rfl, sc_is_bit.nd⟩
  exact (ss_one (ss_ret (se_call o_is_within c.hr rfl cx_takes (sa_cons (sv 0) (sa_cons se_int (sa_cons se_int sa_nil))))))
theorem sc_ascends_pairs : FnScope ["thing", "own"] ["thing"] (defScope s_ascends_pairs) := ⟨rfl, rfl, rfl, by decide +kernel, rfl, by decide +kernel, by decide +kernel⟩
theorem ok_ascends_pairs (Z : Hyp K h mg) : Fk (GG K) P w K mg base 3 "ascends_pairs" F_ascends_pairs := by
  obtain ⟨fd, F⟩ := Z.2.2.1.def_ 42 (d := d_ascends_pairs) rfl
  have o_ascends := (ok_ascends (P := P) (w := w) (base := base) Z).mono (k := 2) (by decide)
  have o_is_long := (ok_is_long (P := P) (w := w) (base := base) Z).mono (k := 2) (by decide)
  have o_is_within := (ok_is_within (P := P) (w := w) (base := base) Z).mono (k := 2) (by decide)
  refine ⟨_, fd, ["thing"], fn_pop F sc_ascends_pairs rfl rfl (fun cdv A outer s H E hr => ?_), g_ascends_pairs Z, F.kp, F.bindsN fun _ _ _ _ _ _ us hl => match us, hl with | [_], _ => rfl⟩
  have c : Ct (GG K) (cxOf (L2.CX P w) P w K mg base _ "ascends_pairs" (defScope s_ascends_pairs) _ cdv A outer s H E) 2 := ⟨rfl, hr, rfl, sc_ascends_pairs.nd⟩
  exact (ss_cons (ss_if (st_not (st_tru c.hK (se_cb (cr_all c.hc) (fun _ => csim_all) rfl (m_all Z) PyProof.Rows.boot_all (sa_cons (se_lc c.hc c.hN (own := [("own", 1)]) (si_sq c (sv 0)) (blkOk_by (by rfl)) (fun _ _ _ _ _ => (gv 1 c.blk)) (fun _ _ _ _ _ => sts_nil) (fun _ _ _ _ _ => (se_and c.blk.hK (se_call o_is_long c.blk.hr rfl takes0 (sa_cons (sv 1) (sa_cons se_int sa_nil))) (se_one (se_call o_is_within c.blk.hr rfl takes0 (sa_cons (se_ix c.blk.hu c.blk.hK (sv 1) se_int (fun _ _ => rfl)) (sa_cons se_int (sa_cons (se_gint rfl (k_MOST_UNKNOWNS Z)) sa_nil)))))))) sa_nil)) (fun _ => rfl)))
    (ss_one (ss_ret se_bl))
    ss_nil)
    (ss_one (ss_ret (se_and c.hK (se_cb (cr_all c.hc) (fun _ => csim_all) rfl (m_all Z) PyProof.Rows.boot_all (sa_cons (se_lc c.hc c.hN (own := [("own", 1)]) (si_sq c (sv 0)) (blkOk_by (by rfl)) (fun _ _ _ _ _ => (gv 1 c.blk)) (fun _ _ _ _ _ => sts_nil) (fun _ _ _ _ _ => (se_call o_is_within c.blk.hr rfl takes0 (sa_cons (se_ix c.blk.hu c.blk.hK (sv 1) se_int (fun _ _ => rfl)) (sa_cons se_int (sa_cons (se_gint rfl (k_MOST_UNKNOWNS Z)) sa_nil)))))) sa_nil)) (se_one (se_call o_ascends c.hr rfl cx_takes (sa_cons (sv 0) sa_nil)))))))
theorem sc_is_pair_row : FnScope ["thing", "many", "own"] ["thing", "many"] (defScope s_is_pair_row) := ⟨rfl, rfl, rfl, by decide +kernel, rfl, by decide +kernel, by decide +kernel⟩
theorem ok_is_pair_row (Z : Hyp K h mg) : Fk (GG K) P w K mg base 4 "is_pair_row" F_is_pair_row := by
  obtain ⟨fd, F⟩ := Z.2.2.1.def_ 41 (d := d_is_pair_row) rfl
  have o_ascends_pairs := (ok_ascends_pairs (P := P) (w := w) (base := base) Z).mono (k := 3) (by decide)
  have o_is_within := (ok_is_within (P := P) (w := w) (base := base) Z).mono (k := 3) (by decide)
  refine ⟨_, fd, ["thing", "many"], fn_pop F sc_is_pair_row rfl rfl (fun cdv A outer s H E hr => ?_), g_is_pair_row Z, F.kp, F.bindsN fun _ _ _ _ _ _ us hl => match us, hl with | [_, _], _ => rfl⟩
  have c : Ct (GG K) (cxOf (L2.CX P w) P w K mg base _ "is_pair_row" (defScope s_is_pair_row) _ cdv A outer s H E) 3 := ⟨rfl, hr, rfl, sc_is_pair_row.nd⟩
  exact (ss_cons (ss_if (st_w (sw_or (st_not (st_tru c.hK (se_isi1 .tup c.hK rfl (m_isinstance Z) (sv 0) (pe_bltn rfl (m_tuple Z) PyProof.Rows.boot_tuple rfl)) (fun _ => rfl))) (sw_or1 (st_not (st_tru c.hK (se_call o_ascends_pairs c.hr rfl cx_takes (sa_cons (sv 0) sa_nil)) (fun _ => rfl))))))
    (ss_one (ss_ret se_bl))
    ss_nil)
    (ss_one (ss_ret (se_cb (cr_all c.hc) (fun _ => csim_all) rfl (m_all Z) PyProof.Rows.boot_all (sa_cons (se_lc c.hc c.hN (own := [("own", 2)]) (si_sq c (sv 0)) (blkOk_by (by rfl)) (fun _ _ _ _ _ => (gv 2 c.blk)) (fun _ _ _ _ _ => sts_nil) (fun _ _ _ _ _ => (se_and c.blk.hK (se_call o_is_within c.blk.hr rfl takes0 (sa_cons (se_ix c.blk.hu c.blk.hK (sv 2) se_int (fun _ _ => rfl)) (sa_cons se_int (sa_cons (se_op op_sub (fun _ => sim_sub) (sv 1) se_int) sa_nil)))) (se_one (se_call o_is_within c.blk.hr rfl takes0 (sa_cons (se_ix c.blk.hu c.blk.hK (sv 2) se_int (fun _ _ => rfl)) (sa_cons (se_ix c.blk.hu c.blk.hK (sv 2) se_int (fun _ _ => rfl)) (sa_cons (se_op op_sub (fun _ => sim_sub) (sv 1) se_int) sa_nil)))))))) sa_nil)))))
theorem sc_is_row : FnScope ["thing", "many"] ["thing", "many"] (defScope s_is_row) := ⟨rfl, rfl, rfl, by decide +kernel, rfl, by decide +kernel, by decide +kernel⟩
theorem ok_is_row (Z : Hyp K h mg) : Fk (GG K) P w K mg base 5 "is_row" F_is_row := by
  obtain ⟨fd, F⟩ := Z.2.2.1.def_ 43 (d := d_is_row) rfl
  have o_is_bit := (ok_is_bit (P := P) (w := w) (base := base) Z).mono (k := 4) (by decide)
  have o_is_long := (ok_is_long (P := P) (w := w) (base := base) Z).mono (k := 4) (by decide)
  have o_is_pair_row := (ok_is_pair_row (P := P) (w := w) (base := base) Z).mono (k := 4) (by decide)
  refine ⟨_, fd, ["thing", "many"], fn_pop F sc_is_row rfl rfl (fun cdv A outer s H E hr => ?_), g_is_row Z, F.kp, F.bindsN fun _ _ _ _ _ _ us hl => match us, hl with | [_, _], _ => rfl⟩
  have c : Ct (GG K) (cxOf (L2.CX P w) P w K mg base _ "is_row" (defScope s_is_row) _ cdv A outer s H E) 4 := ⟨rfl, hr, rfl, sc_is_row.nd⟩
  exact (ss_one (ss_ret (se_and c.hK (se_call o_is_long c.hr rfl cx_takes (sa_cons (sv 0) (sa_cons se_int sa_nil))) (se_and c.hK (se_call o_is_pair_row c.hr rfl cx_takes (sa_cons (se_ix c.hu c.hK (sv 0) se_int (fun _ _ => rfl)) (sa_cons (sv 1) sa_nil))) (se_one (se_call o_is_bit c.hr rfl cx_takes (sa_cons (se_ix c.hu c.hK (sv 0) se_int (fun _ _ => rfl)) sa_nil)))))))
theorem sc_is_equations : FnScope ["thing", "own"] ["thing"] (defScope s_is_equations) := ⟨rfl, rfl, rfl, by decide +kernel, rfl, by decide +kernel, by decide +kernel⟩
theorem ok_is_equations (Z : Hyp K h mg) : Fk (GG K) P w K mg base 6 "is_equations" F_is_equations := by
  obtain ⟨fd, F⟩ := Z.2.2.1.def_ 44 (d := d_is_equations) rfl
  have o_is_long := (ok_is_long (P := P) (w := w) (base := base) Z).mono (k := 5) (by decide)
  have o_is_row := (ok_is_row (P := P) (w := w) (base := base) Z).mono (k := 5) (by decide)
  have o_is_within := (ok_is_within (P := P) (w := w) (base := base) Z).mono (k := 5) (by decide)
  refine ⟨_, fd, ["thing"], fn_pop F sc_is_equations rfl rfl (fun cdv A outer s H E hr => ?_), g_is_equations Z, F.kp, F.bindsN fun _ _ _ _ _ _ us hl => match us, hl with | [_], _ => rfl⟩
  have c : Ct (GG K) (cxOf (L2.CX P w) P w K mg base _ "is_equations" (defScope s_is_equations) _ cdv A outer s H E) 5 := ⟨rfl, hr, rfl, sc_is_equations.nd⟩
  exact (ss_cons (ss_if (st_w (sw_or (st_not (st_tru c.hK (se_call o_is_long c.hr rfl cx_takes (sa_cons (sv 0) (sa_cons se_int sa_nil))) (fun _ => rfl))) (sw_or (st_not (st_tru c.hK (se_call o_is_within c.hr rfl cx_takes (sa_cons (se_ix c.hu c.hK (sv 0) se_int (fun _ _ => rfl)) (sa_cons se_int (sa_cons (se_gint rfl (k_MOST_UNKNOWNS Z)) sa_nil)))) (fun _ => rfl))) (sw_or1 (st_not (st_tru c.hK (se_isi1 .tup c.hK rfl (m_isinstance Z) (se_ix c.hu c.hK (sv 0) se_int (fun _ _ => rfl)) (pe_bltn rfl (m_tuple Z) PyProof.Rows.boot_tuple rfl)) (fun _ => rfl)))))))
    (ss_one (ss_ret se_bl))
    ss_nil)
    (ss_one (ss_ret (se_and c.hK (se_cmp op_le (fun _ => sim_le) (se_cb call_lenS (fun _ => csim_len) rfl (m_len Z) boot_len (sa_cons (se_ix c.hu c.hK (sv 0) se_int (fun _ _ => rfl)) sa_nil)) (se_gint rfl (k_MOST_ROWS Z)) (nomark _)) (se_one (se_cb (cr_all c.hc) (fun _ => csim_all) rfl (m_all Z) PyProof.Rows.boot_all (sa_cons (se_lc c.hc c.hN (own := [("own", 1)]) (si_sq c (se_ix c.hu c.hK (sv 0) se_int (fun _ _ => rfl))) (blkOk_by (by rfl)) (fun _ _ _ _ _ => (gv 1 c.blk)) (fun _ _ _ _ _ => sts_nil) (fun _ _ _ _ _ => (se_call o_is_row c.blk.hr rfl takes0 (sa_cons (sv 1) (sa_cons (se_ix c.blk.hu c.blk.hK (sv 0) se_int (fun _ _ => rfl)) sa_nil))))) sa_nil)))))))
theorem sc_sure_equations : FnScope ["value", "own"] ["value"] (defScope s_sure_equations) := ⟨rfl, rfl, rfl, by decide +kernel, rfl, by decide +kernel, by decide +kernel⟩
theorem ok_sure_equations (Z : Hyp K h mg) : Fk (GG K) P w K mg base 11 "sure_equations" F_sure_equations := by
  obtain ⟨fd, F⟩ := Z.2.2.1.def_ 45 (d := d_sure_equations) rfl
  have o_is_equations := (ok_is_equations (P := P) (w := w) (base := base) Z).mono (k := 10) (by decide)
  have o_tupled := (ok_tupled (P := P) (w := w) (base := base) Z 9).mono (k := 10) (by decide)
  refine ⟨_, fd, ["value"], fn_pop F sc_sure_equations rfl rfl (fun cdv A outer s H E hr => ?_), g_sure_equations Z, F.kp, F.bindsN fun _ _ _ _ _ _ us hl => match us, hl with | [_], _ => rfl⟩
  have c : Ct (GG K) (cxOf (L2.CX P w) P w K mg base _ "sure_equations" (defScope s_sure_equations) _ cdv A outer s H E) 10 := ⟨rfl, hr, rfl, sc_sure_equations.nd⟩
  exact (ss_cons (ss_st 1 c (se_call o_tupled c.hr rfl cx_takes (sa_cons (sv 0) sa_nil)))
    (ss_cons (ss_if (st_not (st_tru c.hK (se_call o_is_equations c.hr rfl cx_takes (sa_cons (sv 1) sa_nil)) (fun _ => rfl)))
    (ss_one (ss_raise c.hK c.hc cx_takes (xf_Unfit Z) rfl))
    ss_nil)
    (ss_one (ss_ret (sv 1)))))
theorem sc_wide_of : FnScope ["many"] ["many"] (defScope s_wide_of) := ⟨rfl, rfl, rfl, by decide +kernel, rfl, by decide +kernel, by decide +kernel⟩
theorem ok_wide_of (Z : Hyp K h mg) : Fk (GG K) P w K mg base 1 "wide_of" F_wide_of := by
  obtain ⟨fd, F⟩ := Z.2.2.1.def_ 46 (d := d_wide_of) rfl
  refine ⟨_, fd, ["many"], fn_pop F sc_wide_of rfl rfl (fun cdv A outer s H E hr => ?_), g_wide_of Z, F.kp, F.bindsN fun _ _ _ _ _ _ us hl => match us, hl with | [_], _ => rfl⟩
  have c : Ct (GG K) (cxOf (L2.CX P w) P w K mg base _ "wide_of" (defScope s_wide_of) _ cdv A outer s H E) 0 := ⟨rfl, hr, rfl, sc_wide_of.nd⟩
  exact (ss_one (ss_ret (se_op op_fdivW (fun _ => sim_div) (se_op op_mulS (fun _ => sim_mul) (sv 0) (se_op op_catS (fun _ => sim_cat) (sv 0) se_int)) se_int)))
theorem sc_is_proof_in : FnScope ["many", "thing"] ["many", "thing"] (defScope s_is_proof_in) := ⟨rfl, rfl, rfl, by decide +kernel, rfl, by decide +kernel, by decide +kernel⟩
theorem ok_is_proof_in (Z : Hyp K h mg) : Fk (GG K) P w K mg base 4 "is_proof_in" F_is_proof_in := by
  obtain ⟨fd, F⟩ := Z.2.2.1.def_ 50 (d := d_is_proof_in) rfl
  have o_is_long := (ok_is_long (P := P) (w := w) (base := base) Z).mono (k := 3) (by decide)
  have o_is_told := (ok_is_told (P := P) (w := w) (base := base) Z).mono (k := 3) (by decide)
  have o_wide_of := (ok_wide_of (P := P) (w := w) (base := base) Z).mono (k := 3) (by decide)
  refine ⟨_, fd, ["many", "thing"], fn_pop F sc_is_proof_in rfl rfl (fun cdv A outer s H E hr => ?_), g_is_proof_in Z, F.kp, F.bindsN fun _ _ _ _ _ _ us hl => match us, hl with | [_, _], _ => rfl⟩
  have c : Ct (GG K) (cxOf (L2.CX P w) P w K mg base _ "is_proof_in" (defScope s_is_proof_in) _ cdv A outer s H E) 3 := ⟨rfl, hr, rfl, sc_is_proof_in.nd⟩
  exact (ss_cons (ss_if (st_w (sw_or (st_not (st_tru c.hK (se_call o_is_long c.hr rfl cx_takes (sa_cons (sv 1) (sa_cons se_int sa_nil))) (fun _ => rfl))) (sw_or (st_not (st_tru c.hK (se_call o_is_told c.hr rfl cx_takes (sa_cons (se_ix c.hu c.hK (sv 1) se_int (fun _ _ => rfl)) sa_nil)) (fun _ => rfl))) (sw_or1 (st_not (st_tru c.hK (se_call o_is_told c.hr rfl cx_takes (sa_cons (se_ix c.hu c.hK (sv 1) se_int (fun _ _ => rfl)) sa_nil)) (fun _ => rfl)))))))
    (ss_one (ss_ret se_bl))
    ss_nil)
    (ss_one (ss_ret (se_and c.hK (se_cmp (op_eqS c.hu) (fun _ => sim_eq) (se_ix c.hu c.hK (se_ix c.hu c.hK (sv 1) se_int (fun _ _ => rfl)) se_int (fun _ _ => rfl)) (sv 0) (nomark _)) (se_one (se_cmp (op_eqS c.hu) (fun _ => sim_eq) (se_ix c.hu c.hK (se_ix c.hu c.hK (sv 1) se_int (fun _ _ => rfl)) se_int (fun _ _ => rfl)) (se_call o_wide_of c.hr rfl cx_takes (sa_cons (sv 0) sa_nil)) (nomark _)))))))
theorem sc_sure_proof : FnScope ["equations", "value", "own"] ["equations", "value"] (defScope s_sure_proof) := ⟨rfl, rfl, rfl, by decide +kernel, rfl, by decide +kernel, by decide +kernel⟩
theorem ok_sure_proof (Z : Hyp K h mg) : Fk (GG K) P w K mg base 11 "sure_proof" F_sure_proof := by
  obtain ⟨fd, F⟩ := Z.2.2.1.def_ 52 (d := d_sure_proof) rfl
  have o_is_proof_in := (ok_is_proof_in (P := P) (w := w) (base := base) Z).mono (k := 10) (by decide)
  have o_tupled := (ok_tupled (P := P) (w := w) (base := base) Z 9).mono (k := 10) (by decide)
  refine ⟨_, fd, ["equations", "value"], fn_pop F sc_sure_proof rfl rfl (fun cdv A outer s H E hr => ?_), g_sure_proof Z, F.kp, F.bindsN fun _ _ _ _ _ _ us hl => match us, hl with | [_, _], _ => rfl⟩
  have c : Ct (GG K) (cxOf (L2.CX P w) P w K mg base _ "sure_proof" (defScope s_sure_proof) _ cdv A outer s H E) 10 := ⟨rfl, hr, rfl, sc_sure_proof.nd⟩
  exact (ss_cons (ss_st 2 c (se_call o_tupled c.hr rfl cx_takes (sa_cons (sv 1) sa_nil)))
    (ss_cons (ss_if (st_not (st_tru c.hK (se_call o_is_proof_in c.hr rfl cx_takes (sa_cons (se_ix c.hu c.hK (sv 0) se_int (fun _ _ => rfl)) (sa_cons (sv 2) sa_nil))) (fun _ => rfl)))
    (ss_one (ss_raise c.hK c.hc cx_takes (xf_Unfit Z) rfl))
    ss_nil)
    (ss_one (ss_ret (sv 2)))))
theorem sc_fail_counts : FnScope ["equations", "proof", "own"] ["equations", "proof"] (defScope s_fail_counts) := ⟨rfl, rfl, rfl, by decide +kernel, rfl, by decide +kernel, by decide +kernel⟩
theorem ok_fail_counts (Z : Hyp K h mg) : Fk (GG K) P w K mg base 12 "fail_counts" F_fail_counts := by
  obtain ⟨fd, F⟩ := Z.2.2.1.def_ 72 (d := d_fail_counts) rfl
  have o_fails_in := (ok_fails_in (P := P) (w := w) (base := base) Z).mono (k := 11) (by decide)
  have o_sure_equations := (ok_sure_equations (P := P) (w := w) (base := base) Z).mono (k := 11) (by decide)
  have o_sure_proof := (ok_sure_proof (P := P) (w := w) (base := base) Z).mono (k := 11) (by decide)
  refine ⟨_, fd, ["equations", "proof"], fn_pop F sc_fail_counts rfl rfl (fun cdv A outer s H E hr => ?_), g_fail_counts Z, F.kp, F.bindsN fun _ _ _ _ _ _ us hl => match us, hl with | [_, _], _ => rfl⟩
  have c : Ct (GG K) (cxOf (L2.CX P w) P w K mg base _ "fail_counts" (defScope s_fail_counts) _ cdv A outer s H E) 11 := ⟨rfl, hr, rfl, sc_fail_counts.nd⟩
  exact (ss_cons (ss_st 2 c (se_call o_sure_equations c.hr rfl cx_takes (sa_cons (sv 0) sa_nil)))
    (ss_one (ss_ret (se_call o_fails_in c.hr rfl cx_takes (sa_cons (sv 2) (sa_cons (se_call o_sure_proof c.hr rfl cx_takes (sa_cons (sv 2) (sa_cons (sv 1) sa_nil))) sa_nil))))))
theorem sc_is_proof : FnScope ["equations", "thing"] ["equations", "thing"] (defScope s_is_proof) := ⟨rfl, rfl, rfl, by decide +kernel, rfl, by decide +kernel, by decide +kernel⟩
theorem ok_is_proof (Z : Hyp K h mg) : Fk (GG K) P w K mg base 12 "is_proof" F_is_proof := by
  obtain ⟨fd, F⟩ := Z.2.2.1.def_ 51 (d := d_is_proof) rfl
  have o_is_proof_in := (ok_is_proof_in (P := P) (w := w) (base := base) Z).mono (k := 11) (by decide)
  have o_sure_equations := (ok_sure_equations (P := P) (w := w) (base := base) Z).mono (k := 11) (by decide)
  refine ⟨_, fd, ["equations", "thing"], fn_pop F sc_is_proof rfl rfl (fun cdv A outer s H E hr => ?_), g_is_proof Z, F.kp, F.bindsN fun _ _ _ _ _ _ us hl => match us, hl with | [_, _], _ => rfl⟩
  have c : Ct (GG K) (cxOf (L2.CX P w) P w K mg base _ "is_proof" (defScope s_is_proof) _ cdv A outer s H E) 11 := ⟨rfl, hr, rfl, sc_is_proof.nd⟩
  exact (ss_one (ss_ret (se_call o_is_proof_in c.hr rfl cx_takes (sa_cons (se_ix c.hu c.hK (se_call o_sure_equations c.hr rfl cx_takes (sa_cons (sv 0) sa_nil)) se_int (fun _ _ => rfl)) (sa_cons (sv 1) sa_nil)))))
theorem sc_line_fails : FnScope ["table"] ["table"] (defScope s_line_fails) := ⟨rfl, rfl, rfl, by decide +kernel, rfl, by decide +kernel, by decide +kernel⟩
theorem ok_line_fails (Z : Hyp K h mg) : Fk (GG K) P w K mg base 12 "line_fails" F_line_fails := by
  obtain ⟨fd, F⟩ := Z.2.2.1.def_ 31 (d := d_line_fails) rfl
  have o_line_fails_in := (ok_line_fails_in (P := P) (w := w) (base := base) Z).mono (k := 11) (by decide)
  have o_sure_told_table := (ok_sure_told_table (P := P) (w := w) (base := base) Z).mono (k := 11) (by decide)
  refine ⟨_, fd, ["table"], fn_pop F sc_line_fails rfl rfl (fun cdv A outer s H E hr => ?_), g_line_fails Z, F.kp, F.bindsN fun _ _ _ _ _ _ us hl => match us, hl with | [_], _ => rfl⟩
  have c : Ct (GG K) (cxOf (L2.CX P w) P w K mg base _ "line_fails" (defScope s_line_fails) _ cdv A outer s H E) 11 := ⟨rfl, hr, rfl, sc_line_fails.nd⟩
  exact (ss_one (ss_ret (se_call o_line_fails_in c.hr rfl cx_takes (sa_cons (se_call o_sure_told_table c.hr rfl cx_takes (sa_cons (sv 0) sa_nil)) sa_nil))))
theorem sc_draw_sizes : FnScope ["equations", "kind", "many"] ["equations", "kind"] (defScope s_draw_sizes) := ⟨rfl, rfl, rfl, by decide +kernel, rfl, by decide +kernel, by decide +kernel⟩
theorem ok_draw_sizes (Z : Hyp K h mg) : Fk (GG K) P w K mg base 2 "draw_sizes" F_draw_sizes := by
  obtain ⟨fd, F⟩ := Z.2.2.1.def_ 53 (d := d_draw_sizes) rfl
  have o_wide_of := (ok_wide_of (P := P) (w := w) (base := base) Z).mono (k := 1) (by decide)
  refine ⟨_, fd, ["equations", "kind"], fn_pop F sc_draw_sizes rfl rfl (fun cdv A outer s H E hr => ?_), g_draw_sizes Z, F.kp, F.bindsN fun _ _ _ _ _ _ us hl => match us, hl with | [_, _], _ => rfl⟩
  have c : Ct (GG K) (cxOf (L2.CX P w) P w K mg base _ "draw_sizes" (defScope s_draw_sizes) _ cdv A outer s H E) 1 := ⟨rfl, hr, rfl, sc_draw_sizes.nd⟩
  exact (ss_cons (ss_st 2 c (se_ix c.hu c.hK (sv 0) se_int (fun _ _ => rfl)))
    (ss_cons (ss_if (st_cmp (op_eqS c.hu) (fun _ => sim_eq) (sv 1) se_str (nomark _))
    (ss_one (ss_ret (se_tup (sa_cons (sv 2) (sa_cons (sv 2) sa_nil)))))
    ss_nil)
    (ss_cons (ss_if (st_cmp (op_eqS c.hu) (fun _ => sim_eq) (sv 1) se_str (nomark _))
    (ss_one (ss_ret (se_tup (sa_cons (se_call o_wide_of c.hr rfl cx_takes (sa_cons (sv 2) sa_nil)) (sa_cons (se_call o_wide_of c.hr rfl cx_takes (sa_cons (sv 2) sa_nil)) sa_nil)))))
    ss_nil)
    (ss_one (ss_ret (se_if (st_cmp (op_eqS c.hu) (fun _ => sim_eq) (sv 1) se_str (nomark _)) (se_tup (sa_cons (sv 2) (sa_cons (sv 2) (sa_cons (se_call o_wide_of c.hr rfl cx_takes (sa_cons (sv 2) sa_nil)) sa_nil)))) (se_tup (sa_cons (se_cb call_lenS (fun _ => csim_len) rfl (m_len Z) boot_len (sa_cons (se_ix c.hu c.hK (sv 0) se_int (fun _ _ => rfl)) sa_nil)) (sa_cons (se_call o_wide_of c.hr rfl cx_takes (sa_cons (sv 2) sa_nil)) sa_nil)))))))))
theorem sc_many_draws_in : FnScope ["equations", "kind"] ["equations", "kind"] (defScope s_many_draws_in) := ⟨rfl, rfl, rfl, by decide +kernel, rfl, by decide +kernel, by decide +kernel⟩
theorem ok_many_draws_in (Z : Hyp K h mg) : Fk (GG K) P w K mg base 3 "many_draws_in" F_many_draws_in := by
  obtain ⟨fd, F⟩ := Z.2.2.1.def_ 54 (d := d_many_draws_in) rfl
  have o_draw_sizes := (ok_draw_sizes (P := P) (w := w) (base := base) Z).mono (k := 2) (by decide)
  refine ⟨_, fd, ["equations", "kind"], fn_pop F sc_many_draws_in rfl rfl (fun cdv A outer s H E hr => ?_), g_many_draws_in Z, F.kp, F.bindsN fun _ _ _ _ _ _ us hl => match us, hl with | [_, _], _ => rfl⟩
  have c : Ct (GG K) (cxOf (L2.CX P w) P w K mg base _ "many_draws_in" (defScope s_many_draws_in) _ cdv A outer s H E) 2 := ⟨rfl, hr, rfl, sc_many_draws_in.nd⟩
  exact (ss_one (ss_ret (se_op op_shlW (fun _ => sim_shl) se_int (se_cb (call_sumS c.hc) (fun _ => csim_sum) rfl (m_sum Z) PyProof.Rows.boot_sum (sa_cons (se_call o_draw_sizes c.hr rfl cx_takes (sa_cons (sv 0) (sa_cons (sv 1) sa_nil))) sa_nil)))))
theorem sc_many_draws : FnScope ["equations", "own", "kind"] ["equations"] (defScope s_many_draws) := ⟨rfl, rfl, rfl, by decide +kernel, rfl, by decide +kernel, by decide +kernel⟩
theorem ok_many_draws (Z : Hyp K h mg) : Fk (GG K) P w K mg base 12 "many_draws" F_many_draws := by
  obtain ⟨fd, F⟩ := Z.2.2.1.def_ 55 (d := d_many_draws) rfl
  have o_many_draws_in := (ok_many_draws_in (P := P) (w := w) (base := base) Z).mono (k := 11) (by decide)
  have o_sure_equations := (ok_sure_equations (P := P) (w := w) (base := base) Z).mono (k := 11) (by decide)
  refine ⟨_, fd, ["equations"], fn_pop F sc_many_draws rfl rfl (fun cdv A outer s H E hr => ?_), g_many_draws Z, F.kp, F.bindsN fun _ _ _ _ _ _ us hl => match us, hl with | [_], _ => rfl⟩
  have c : Ct (GG K) (cxOf (L2.CX P w) P w K mg base _ "many_draws" (defScope s_many_draws) _ cdv A outer s H E) 11 := ⟨rfl, hr, rfl, sc_many_draws.nd⟩
  exact (ss_cons (ss_st 1 c (se_call o_sure_equations c.hr rfl cx_takes (sa_cons (sv 0) sa_nil)))
    (ss_one (ss_ret (se_ct call_tuple_of (fun _ => csim_tup) rfl (m_tuple Z) PyProof.Rows.boot_tuple (sa_cons (se_lc c.hc c.hN (own := [("kind", 2)]) (si_sq c (se_gcst rfl (kc_KINDS Z))) (blkOk_by (by rfl)) (fun _ _ _ _ _ => (gv 2 c.blk)) (fun _ _ _ _ _ => sts_nil) (fun _ _ _ _ _ => (se_call o_many_draws_in c.blk.hr rfl takes0 (sa_cons (sv 1) (sa_cons (sv 2) sa_nil))))) sa_nil)))))
theorem sc_many_ones : FnScope ["table"] ["table"] (defScope s_many_ones) := ⟨rfl, rfl, rfl, by decide +kernel, rfl, by decide +kernel, by decide +kernel⟩
theorem ok_many_ones (Z : Hyp K h mg) : Fk (GG K) P w K mg base 12 "many_ones" F_many_ones := by
  obtain ⟨fd, F⟩ := Z.2.2.1.def_ 33 (d := d_many_ones) rfl
  have o_ones_in := (ok_ones_in (P := P) (w := w) (base := base) Z).mono (k := 11) (by decide)
  have o_sure_told_table := (ok_sure_told_table (P := P) (w := w) (base := base) Z).mono (k := 11) (by decide)
  refine ⟨_, fd, ["table"], fn_pop F sc_many_ones rfl rfl (fun cdv A outer s H E hr => ?_), g_many_ones Z, F.kp, F.bindsN fun _ _ _ _ _ _ us hl => match us, hl with | [_], _ => rfl⟩
  have c : Ct (GG K) (cxOf (L2.CX P w) P w K mg base _ "many_ones" (defScope s_many_ones) _ cdv A outer s H E) 11 := ⟨rfl, hr, rfl, sc_many_ones.nd⟩
  exact (ss_one (ss_ret (se_call o_ones_in c.hr rfl cx_takes (sa_cons (se_call o_sure_told_table c.hr rfl cx_takes (sa_cons (sv 0) sa_nil)) sa_nil))))
theorem sc_straight_in : FnScope ["many", "row", "place"] ["many", "row"] (defScope s_straight_in) := ⟨rfl, rfl, rfl, by decide +kernel, rfl, by decide +kernel, by decide +kernel⟩
theorem ok_straight_in (Z : Hyp K h mg) : Fk (GG K) P w K mg base 2 "straight_in" F_straight_in := by
  obtain ⟨fd, F⟩ := Z.2.2.1.def_ 13 (d := d_straight_in) rfl
  have o_odd := (ok_odd (P := P) (w := w) (base := base) Z).mono (k := 1) (by decide)
  refine ⟨_, fd, ["many", "row"], fn_pop F sc_straight_in rfl rfl (fun cdv A outer s H E hr => ?_), g_straight_in Z, F.kp, F.bindsN fun _ _ _ _ _ _ us hl => match us, hl with | [_, _], _ => rfl⟩
  have c : Ct (GG K) (cxOf (L2.CX P w) P w K mg base _ "straight_in" (defScope s_straight_in) _ cdv A outer s H E) 1 := ⟨rfl, hr, rfl, sc_straight_in.nd⟩
  exact (ss_one (ss_ret (se_ct call_tuple_of (fun _ => csim_tup) rfl (m_tuple Z) PyProof.Rows.boot_tuple (sa_cons (se_lc c.hc c.hN (own := [("place", 2)]) (si_range1 rfl (m_range Z) (sa_cons (se_op op_shlW (fun _ => sim_shl) se_int (sv 0)) sa_nil)) (blkOk_by (by rfl)) (fun _ _ _ _ _ => (gv 2 c.blk)) (fun _ _ _ _ _ => sts_nil) (fun _ _ _ _ _ => (se_call o_odd c.blk.hr rfl takes0 (sa_cons (se_op op_and (fun _ => sim_and) (sv 2) (sv 1)) sa_nil)))) sa_nil))))
theorem sc_full_in : FnScope ["table", "rows", "place"] ["table"] (defScope s_full_in) := ⟨rfl, rfl, rfl, by decide +kernel, rfl, by decide +kernel, by decide +kernel⟩
theorem ok_full_in (Z : Hyp K h mg) : Fk (GG K) P w K mg base 3 "full_in" F_full_in := by
  obtain ⟨fd, F⟩ := Z.2.2.1.def_ 21 (d := d_full_in) rfl
  have o_straight_in := (ok_straight_in (P := P) (w := w) (base := base) Z).mono (k := 2) (by decide)
  refine ⟨_, fd, ["table"], fn_pop F sc_full_in rfl rfl (fun cdv A outer s H E hr => ?_), g_full_in Z, F.kp, F.bindsN fun _ _ _ _ _ _ us hl => match us, hl with | [_], _ => rfl⟩
  have c : Ct (GG K) (cxOf (L2.CX P w) P w K mg base _ "full_in" (defScope s_full_in) _ cdv A outer s H E) 2 := ⟨rfl, hr, rfl, sc_full_in.nd⟩
  exact (ss_cons (ss_st 1 c (se_ctM call_list_of (fun _ => lsim_list) rfl (m_list Z) PyProof.Rows.boot_list (sa_cons (se_call o_straight_in c.hr rfl cx_takes (sa_cons (se_ix c.hu c.hK (sv 0) se_int (fun _ _ => rfl)) (sa_cons (se_ix c.hu c.hK (sv 0) se_int (fun _ _ => rfl)) sa_nil))) sa_nil)))
    (ss_cons (ss_for (vs := [0, 1, 2]) cx_passes c.hc (si_sq c (se_ix c.hu c.hK (sv 0) se_int (fun _ _ => rfl))) (gv 2 c)
    (ss_one (ss_asg (vs := [0, 1, 2]) (se_op op_sub (fun _ => sim_sub) se_int (se_ix c.hu c.hK (sv 1) (sv 2) (fun _ _ => rfl))) (sg_sub (W := WB E) c.hu (sv 1) (sv 2)))))
    (ss_one (ss_ret (se_ct call_tuple_of (fun _ => csim_tup) rfl (m_tuple Z) PyProof.Rows.boot_tuple (sa_cons (sv 1) sa_nil))))))
theorem sc_sums_in : FnScope ["table", "found", "wide", "first", "place", "own", "near", "far"] ["table"] (defScope s_sums_in) := ⟨rfl, rfl, rfl, by decide +kernel, rfl, by decide +kernel, by decide +kernel⟩
theorem ok_sums_in (Z : Hyp K h mg) : Fk (GG K) P w K mg base 1 "sums_in" F_sums_in := by
  obtain ⟨fd, F⟩ := Z.2.2.1.def_ 12 (d := d_sums_in) rfl
  refine ⟨_, fd, ["table"], fn_pop F sc_sums_in rfl rfl (fun cdv A outer s H E hr => ?_), g_sums_in Z, F.kp, F.bindsN fun _ _ _ _ _ _ us hl => match us, hl with | [_], _ => rfl⟩
  have c : Ct (GG K) (cxOf (L2.CX P w) P w K mg base _ "sums_in" (defScope s_sums_in) _ cdv A outer s H E) 0 := ⟨rfl, hr, rfl, sc_sums_in.nd⟩
  exact (ss_cons (ss_p2 1 2 c (sa_cons (se_lcM c.hc c.hN (own := [("own", 5)]) (si_sq c (sv 0)) (blkOk_by (by rfl)) (fun _ _ _ _ _ => (gv 5 c.blk)) (fun _ _ _ _ _ => sts_nil) (fun _ _ _ _ _ => (se_op op_sub (fun _ => sim_sub) se_int (se_op op_mulS (fun _ => sim_mul) se_int (sv 5))))) (sa_cons se_int sa_nil)))
    (ss_cons (ss_while cx_passes (st_cmp (op_ltS c.hu) (fun _ => sim_ltS) (sv 2) (se_cb call_lenS (fun _ => csim_len) rfl (m_len Z) boot_len (sa_cons (sv 1) sa_nil)) (nomark _))
    (ss_cons (ss_for (vs := [0, 1, 2, 3, 4, 5, 6, 7]) cx_passes c.hc (si_range3 rfl (m_range Z) (sa_cons se_int (sa_cons (se_cb call_lenS (fun _ => csim_len) rfl (m_len Z) boot_len (sa_cons (sv 1) sa_nil)) (sa_cons (se_op op_mulS (fun _ => sim_mul) se_int (sv 2)) sa_nil)))) (gv 3 c)
    (ss_one (ss_for (vs := [0, 1, 2, 3, 4, 5, 6, 7]) cx_passes c.hc (si_range2 rfl (m_range Z) (sa_cons (sv 3) (sa_cons (se_op op_catS (fun _ => sim_cat) (sv 3) (sv 2)) sa_nil))) (gv 4 c)
    (ss_cons (ss_p2 6 7 c (sa_cons (se_ix c.hu c.hK (sv 1) (sv 4) (fun _ _ => rfl)) (sa_cons (se_ix c.hu c.hK (sv 1) (se_op op_catS (fun _ => sim_cat) (sv 4) (sv 2)) (fun _ _ => rfl)) sa_nil)))
    (ss_one (ss_asg (vs := [0, 1, 2, 3, 4, 5, 6, 7]) (se_tup (sa_cons (se_op op_catS (fun _ => sim_cat) (sv 6) (sv 7)) (sa_cons (se_op op_sub (fun _ => sim_sub) (sv 6) (sv 7)) sa_nil))) (sg_tup c.hK c.hc (sgs_cons (sg_sub (W := WB E) c.hu (sv 1) (sv 4)) (sgs_cons (sg_sub (W := WB E) c.hu (sv 1) (se_op op_catS (fun _ => sim_cat) (sv 4) (sv 2))) sgs_nil)))))))))
    (ss_one (ss_au 2 c iop_mulS (fun _ => sim_mul) se_int))))
    (ss_one (ss_ret (sv 1)))))
theorem sc_nearest_in : FnScope ["table", "sums", "best"] ["table"] (defScope s_nearest_in) := ⟨rfl, rfl, rfl, by decide +kernel, rfl, by decide +kernel, by decide +kernel⟩
theorem ok_nearest_in (Z : Hyp K h mg) : Fk (GG K) P w K mg base 2 "nearest_in" F_nearest_in := by
  obtain ⟨fd, F⟩ := Z.2.2.1.def_ 14 (d := d_nearest_in) rfl
  have o_sums_in := (ok_sums_in (P := P) (w := w) (base := base) Z).mono (k := 1) (by decide)
  refine ⟨_, fd, ["table"], fn_pop F sc_nearest_in rfl rfl (fun cdv A outer s H E hr => ?_), g_nearest_in Z, F.kp, F.bindsN fun _ _ _ _ _ _ us hl => match us, hl with | [_], _ => rfl⟩
  have c : Ct (GG K) (cxOf (L2.CX P w) P w K mg base _ "nearest_in" (defScope s_nearest_in) _ cdv A outer s H E) 1 := ⟨rfl, hr, rfl, sc_nearest_in.nd⟩
  exact (ss_cons (ss_st 1 c (se_call o_sums_in c.hr rfl cx_takes (sa_cons (sv 0) sa_nil)))
    (ss_cons (ss_st 2 c (se_cb (cr_max c.hc) (fun _ => csim_maxL) rfl (m_max Z) PyProof.Rows.boot_max (sa_cons (sv 1) sa_nil)))
    (ss_one (ss_ret (se_tup (sa_cons (se_mt c.hK PySem.F.slot_list_index PySem.F.type_list_index mt_index (fun _ => msim_index) nox_index (sv 1) (sa_cons (sv 2) sa_nil)) (sa_cons (se_op op_fdivW (fun _ => sim_div) (se_op op_sub (fun _ => sim_sub) (se_cb call_lenS (fun _ => csim_len) rfl (m_len Z) boot_len (sa_cons (sv 0) sa_nil)) (sv 2)) se_int) sa_nil)))))))
theorem sc_nearest_told : FnScope ["table"] ["table"] (defScope s_nearest_told) := ⟨rfl, rfl, rfl, by decide +kernel, rfl, by decide +kernel, by decide +kernel⟩
theorem ok_nearest_told (Z : Hyp K h mg) : Fk (GG K) P w K mg base 4 "nearest_told" F_nearest_told := by
  obtain ⟨fd, F⟩ := Z.2.2.1.def_ 22 (d := d_nearest_told) rfl
  have o_full_in := (ok_full_in (P := P) (w := w) (base := base) Z).mono (k := 3) (by decide)
  have o_nearest_in := (ok_nearest_in (P := P) (w := w) (base := base) Z).mono (k := 3) (by decide)
  refine ⟨_, fd, ["table"], fn_pop F sc_nearest_told rfl rfl (fun cdv A outer s H E hr => ?_), g_nearest_told Z, F.kp, F.bindsN fun _ _ _ _ _ _ us hl => match us, hl with | [_], _ => rfl⟩
  have c : Ct (GG K) (cxOf (L2.CX P w) P w K mg base _ "nearest_told" (defScope s_nearest_told) _ cdv A outer s H E) 3 := ⟨rfl, hr, rfl, sc_nearest_told.nd⟩
  exact (ss_cons (ss_if (st_cmp (op_ltS c.hu) (fun _ => sim_ltS) (se_op op_shlW (fun _ => sim_shl) (se_cb call_lenS (fun _ => csim_len) rfl (m_len Z) boot_len (sa_cons (se_ix c.hu c.hK (sv 0) se_int (fun _ _ => rfl)) sa_nil)) se_int) (se_op op_shlW (fun _ => sim_shl) se_int (se_ix c.hu c.hK (sv 0) se_int (fun _ _ => rfl))) (nomark _))
    (ss_one (ss_ret (se_ix c.hu c.hK (sv 0) se_int (fun _ _ => rfl))))
    ss_nil)
    (ss_one (ss_ret (se_ix c.hu c.hK (se_call o_nearest_in c.hr rfl cx_takes (sa_cons (se_call o_full_in c.hr rfl cx_takes (sa_cons (sv 0) sa_nil)) sa_nil)) se_int (fun _ _ => rfl)))))
theorem sc_nearest_row : FnScope ["table"] ["table"] (defScope s_nearest_row) := ⟨rfl, rfl, rfl, by decide +kernel, rfl, by decide +kernel, by decide +kernel⟩
theorem ok_nearest_row (Z : Hyp K h mg) : Fk (GG K) P w K mg base 12 "nearest_row" F_nearest_row := by
  obtain ⟨fd, F⟩ := Z.2.2.1.def_ 23 (d := d_nearest_row) rfl
  have o_nearest_told := (ok_nearest_told (P := P) (w := w) (base := base) Z).mono (k := 11) (by decide)
  have o_sure_told_table := (ok_sure_told_table (P := P) (w := w) (base := base) Z).mono (k := 11) (by decide)
  refine ⟨_, fd, ["table"], fn_pop F sc_nearest_row rfl rfl (fun cdv A outer s H E hr => ?_), g_nearest_row Z, F.kp, F.bindsN fun _ _ _ _ _ _ us hl => match us, hl with | [_], _ => rfl⟩
  have c : Ct (GG K) (cxOf (L2.CX P w) P w K mg base _ "nearest_row" (defScope s_nearest_row) _ cdv A outer s H E) 11 := ⟨rfl, hr, rfl, sc_nearest_row.nd⟩
  exact (ss_one (ss_ret (se_call o_nearest_told c.hr rfl cx_takes (sa_cons (se_call o_sure_told_table c.hr rfl cx_takes (sa_cons (sv 0) sa_nil)) sa_nil))))
theorem sc_common : FnScope ["one", "other", "near", "far"] ["one", "other"] (defScope s_common) := ⟨rfl, rfl, rfl, by decide +kernel, rfl, by decide +kernel, by decide +kernel⟩
theorem ok_common (Z : Hyp K h mg) : Fk (GG K) P w K mg base 1 "common" F_common := by
  obtain ⟨fd, F⟩ := Z.2.2.1.def_ 10 (d := d_common) rfl
  refine ⟨_, fd, ["one", "other"], fn_pop F sc_common rfl rfl (fun cdv A outer s H E hr => ?_), g_common Z, F.kp, F.bindsN fun _ _ _ _ _ _ us hl => match us, hl with | [_, _], _ => rfl⟩
  have c : Ct (GG K) (cxOf (L2.CX P w) P w K mg base _ "common" (defScope s_common) _ cdv A outer s H E) 0 := ⟨rfl, hr, rfl, sc_common.nd⟩
  exact (ss_cons (ss_p2 2 3 c (sa_cons (sv 0) (sa_cons (sv 1) sa_nil)))
    (ss_cons (ss_while cx_passes (st_cmp op_gt (fun _ => sim_gt) (sv 3) se_int (nomark _))
    (ss_one (ss_p2 2 3 c (sa_cons (sv 3) (sa_cons (se_op op_mod (fun _ => sim_mod) (sv 2) (sv 3)) sa_nil)))))
    (ss_one (ss_ret (sv 2)))))
theorem sc_fraction : FnScope ["above", "below", "own"] ["above", "below"] (defScope s_fraction) := ⟨rfl, rfl, rfl, by decide +kernel, rfl, by decide +kernel, by decide +kernel⟩
theorem ok_fraction (Z : Hyp K h mg) : Fk (GG K) P w K mg base 2 "fraction" F_fraction := by
  obtain ⟨fd, F⟩ := Z.2.2.1.def_ 11 (d := d_fraction) rfl
  have o_common := (ok_common (P := P) (w := w) (base := base) Z).mono (k := 1) (by decide)
  refine ⟨_, fd, ["above", "below"], fn_pop F sc_fraction rfl rfl (fun cdv A outer s H E hr => ?_), g_fraction Z, F.kp, F.bindsN fun _ _ _ _ _ _ us hl => match us, hl with | [_, _], _ => rfl⟩
  have c : Ct (GG K) (cxOf (L2.CX P w) P w K mg base _ "fraction" (defScope s_fraction) _ cdv A outer s H E) 1 := ⟨rfl, hr, rfl, sc_fraction.nd⟩
  exact (ss_cons (ss_st 2 c (se_call o_common c.hr rfl cx_takes (sa_cons (sv 0) (sa_cons (sv 1) sa_nil))))
    (ss_one (ss_ret (se_tup (sa_cons (se_op op_fdivW (fun _ => sim_div) (sv 0) (sv 2)) (sa_cons (se_op op_fdivW (fun _ => sim_div) (sv 1) (sv 2)) sa_nil))))))
theorem sc_unlike_far_in : FnScope ["table", "shift"] ["table", "shift"] (defScope s_unlike_far_in) := ⟨rfl, rfl, rfl, by decide +kernel, rfl, by decide +kernel, by decide +kernel⟩
theorem ok_unlike_far_in (Z : Hyp K h mg) : Fk (GG K) P w K mg base 2 "unlike_far_in" F_unlike_far_in := by
  obtain ⟨fd, F⟩ := Z.2.2.1.def_ 25 (d := d_unlike_far_in) rfl
  have o_meetings := (ok_meetings (P := P) (w := w) (base := base) Z).mono (k := 1) (by decide)
  refine ⟨_, fd, ["table", "shift"], fn_pop F sc_unlike_far_in rfl rfl (fun cdv A outer s H E hr => ?_), g_unlike_far_in Z, F.kp, F.bindsN fun _ _ _ _ _ _ us hl => match us, hl with | [_, _], _ => rfl⟩
  have c : Ct (GG K) (cxOf (L2.CX P w) P w K mg base _ "unlike_far_in" (defScope s_unlike_far_in) _ cdv A outer s H E) 1 := ⟨rfl, hr, rfl, sc_unlike_far_in.nd⟩
  exact (ss_one (ss_ret (se_op op_sub (fun _ => sim_sub) (se_op op_mulS (fun _ => sim_mul) se_int (se_cb call_lenS (fun _ => csim_len) rfl (m_len Z) boot_len (sa_cons (se_ix c.hu c.hK (sv 0) se_int (fun _ _ => rfl)) sa_nil))) (se_op op_mulS (fun _ => sim_mul) se_int (se_call o_meetings c.hr rfl cx_takes (sa_cons (sv 0) (sa_cons (sv 1) sa_nil)))))))
theorem sc_right_share : FnScope ["table", "place", "own", "spot"] ["table", "place"] (defScope s_right_share) := ⟨rfl, rfl, rfl, by decide +kernel, rfl, by decide +kernel, by decide +kernel⟩
theorem ok_right_share (Z : Hyp K h mg) : Fk (GG K) P w K mg base 12 "right_share" F_right_share := by
  obtain ⟨fd, F⟩ := Z.2.2.1.def_ 28 (d := d_right_share) rfl
  have o_fraction := (ok_fraction (P := P) (w := w) (base := base) Z).mono (k := 11) (by decide)
  have o_sure_place_of := (ok_sure_place_of (P := P) (w := w) (base := base) Z).mono (k := 11) (by decide)
  have o_sure_told_table := (ok_sure_told_table (P := P) (w := w) (base := base) Z).mono (k := 11) (by decide)
  have o_unlike_far_in := (ok_unlike_far_in (P := P) (w := w) (base := base) Z).mono (k := 11) (by decide)
  refine ⟨_, fd, ["table", "place"], fn_pop F sc_right_share rfl rfl (fun cdv A outer s H E hr => ?_), g_right_share Z, F.kp, F.bindsN fun _ _ _ _ _ _ us hl => match us, hl with | [_, _], _ => rfl⟩
  have c : Ct (GG K) (cxOf (L2.CX P w) P w K mg base _ "right_share" (defScope s_right_share) _ cdv A outer s H E) 11 := ⟨rfl, hr, rfl, sc_right_share.nd⟩
  exact (ss_cons (ss_st 2 c (se_call o_sure_told_table c.hr rfl cx_takes (sa_cons (sv 0) sa_nil)))
    (ss_cons (ss_st 3 c (se_call o_sure_place_of c.hr rfl cx_takes (sa_cons (sv 2) (sa_cons (sv 1) sa_nil))))
    (ss_one (ss_ret (se_call o_fraction c.hr rfl cx_takes (sa_cons (se_op op_sub (fun _ => sim_sub) (se_op op_shlW (fun _ => sim_shl) se_int (se_ix c.hu c.hK (sv 2) se_int (fun _ _ => rfl))) (se_call o_unlike_far_in c.hr rfl cx_takes (sa_cons (sv 2) (sa_cons (sv 3) sa_nil)))) (sa_cons (se_op op_shlW (fun _ => sim_shl) se_int (se_ix c.hu c.hK (sv 2) se_int (fun _ _ => rfl))) sa_nil)))))))
theorem sc_sure_from : FnScope ["value", "least"] ["value", "least"] (defScope s_sure_from) := ⟨rfl, rfl, rfl, by decide +kernel, rfl, by decide +kernel, by decide +kernel⟩
theorem ok_sure_from (Z : Hyp K h mg) : Fk (GG K) P w K mg base 3 "sure_from" F_sure_from := by
  obtain ⟨fd, F⟩ := Z.2.2.1.def_ 7 (d := d_sure_from) rfl
  have o_is_from := (ok_is_from (P := P) (w := w) (base := base) Z).mono (k := 2) (by decide)
  refine ⟨_, fd, ["value", "least"], fn_pop F sc_sure_from rfl rfl (fun cdv A outer s H E hr => ?_), g_sure_from Z, F.kp, F.bindsN fun _ _ _ _ _ _ us hl => match us, hl with | [_, _], _ => rfl⟩
  have c : Ct (GG K) (cxOf (L2.CX P w) P w K mg base _ "sure_from" (defScope s_sure_from) _ cdv A outer s H E) 2 := ⟨rfl, hr, rfl, sc_sure_from.nd⟩
  exact (ss_cons (ss_if (st_not (st_tru c.hK (se_call o_is_from c.hr rfl cx_takes (sa_cons (sv 0) (sa_cons (sv 1) sa_nil))) (fun _ => rfl)))
    (ss_one (ss_raise c.hK c.hc cx_takes (xf_Unfit Z) rfl))
    ss_nil)
    (ss_one (ss_ret (sv 0))))
theorem sc_straight_told : FnScope ["many", "row", "wide", "own"] ["many", "row"] (defScope s_straight_told) := ⟨rfl, rfl, rfl, by decide +kernel, rfl, by decide +kernel, by decide +kernel⟩
theorem ok_straight_told (Z : Hyp K h mg) : Fk (GG K) P w K mg base 4 "straight_told" F_straight_told := by
  obtain ⟨fd, F⟩ := Z.2.2.1.def_ 34 (d := d_straight_told) rfl
  have o_sure_from := (ok_sure_from (P := P) (w := w) (base := base) Z).mono (k := 3) (by decide)
  refine ⟨_, fd, ["many", "row"], fn_pop F sc_straight_told rfl rfl (fun cdv A outer s H E hr => ?_), g_straight_told Z, F.kp, F.bindsN fun _ _ _ _ _ _ us hl => match us, hl with | [_, _], _ => rfl⟩
  have c : Ct (GG K) (cxOf (L2.CX P w) P w K mg base _ "straight_told" (defScope s_straight_told) _ cdv A outer s H E) 3 := ⟨rfl, hr, rfl, sc_straight_told.nd⟩
  exact (ss_cons (ss_p2 2 3 c (sa_cons (se_call o_sure_from c.hr rfl cx_takes (sa_cons (sv 0) (sa_cons se_int sa_nil))) (sa_cons (se_call o_sure_from c.hr rfl cx_takes (sa_cons (sv 1) (sa_cons se_int sa_nil))) sa_nil)))
    (ss_cons (ss_if (st_w (sw_or (st_cmp op_gt (fun _ => sim_gt) (sv 2) (se_gint rfl (k_MOST_LONG Z)) (nomark _)) (sw_or1 (st_cmp op_ge (fun _ => sim_ge) (sv 3) (se_op op_shlW (fun _ => sim_shl) se_int (sv 2)) (nomark _)))))
    (ss_one (ss_raise c.hK c.hc cx_takes (xf_Unfit Z) rfl))
    ss_nil)
    (ss_one (ss_ret (se_tup (sa_cons (sv 2) (sa_cons (sv 3) (sa_cons (se_tup sa_nil) sa_nil))))))))
theorem sc_unlike_far : FnScope ["table", "place", "own"] ["table", "place"] (defScope s_unlike_far) := ⟨rfl, rfl, rfl, by decide +kernel, rfl, by decide +kernel, by decide +kernel⟩
theorem ok_unlike_far (Z : Hyp K h mg) : Fk (GG K) P w K mg base 12 "unlike_far" F_unlike_far := by
  obtain ⟨fd, F⟩ := Z.2.2.1.def_ 26 (d := d_unlike_far) rfl
  have o_sure_place_of := (ok_sure_place_of (P := P) (w := w) (base := base) Z).mono (k := 11) (by decide)
  have o_sure_told_table := (ok_sure_told_table (P := P) (w := w) (base := base) Z).mono (k := 11) (by decide)
  have o_unlike_far_in := (ok_unlike_far_in (P := P) (w := w) (base := base) Z).mono (k := 11) (by decide)
  refine ⟨_, fd, ["table", "place"], fn_pop F sc_unlike_far rfl rfl (fun cdv A outer s H E hr => ?_), g_unlike_far Z, F.kp, F.bindsN fun _ _ _ _ _ _ us hl => match us, hl with | [_, _], _ => rfl⟩
  have c : Ct (GG K) (cxOf (L2.CX P w) P w K mg base _ "unlike_far" (defScope s_unlike_far) _ cdv A outer s H E) 11 := ⟨rfl, hr, rfl, sc_unlike_far.nd⟩
  exact (ss_cons (ss_st 2 c (se_call o_sure_told_table c.hr rfl cx_takes (sa_cons (sv 0) sa_nil)))
    (ss_one (ss_ret (se_call o_unlike_far_in c.hr rfl cx_takes (sa_cons (sv 2) (sa_cons (se_call o_sure_place_of c.hr rfl cx_takes (sa_cons (sv 2) (sa_cons (sv 1) sa_nil))) sa_nil))))))
theorem sc_law : FnScope ["script", "tin", "lap", "many_so", "row_so", "table_so", "spots_so", "turn", "own", "got", "unknowns_so", "due", "later_so", "whole", "few", "place_so", "meets_so", "lost_so", "draw_so", "told_so", "fine", "equations_so", "proof_so", "its"] ["script"] (defScope s_law) := ⟨rfl, rfl, rfl, by decide +kernel, rfl, by decide +kernel, by decide +kernel⟩
theorem ok_law (Z : Hyp K h mg) {fd : FuncData} (F : FunD K "law" "law" (defArgs s_law) (defBody s_law) (defScope s_law) [] [] (He.ga K "law") fd) : FnOk P w K mg base (L2.CX P w) 14 (He.ga K "law") fd ["script"] (spF (GG K) F_law) := by
  have o__law_bit := (ok__law_bit (P := P) (w := w) (base := base) Z).mono (k := 13) (by decide)
  have o__law_box := (ok__law_box (P := P) (w := w) (base := base) Z).mono (k := 13) (by decide)
  have o__law_cells := (ok__law_cells (P := P) (w := w) (base := base) Z).mono (k := 13) (by decide)
  have o__law_heard := (ok__law_heard (P := P) (w := w) (base := base) Z).mono (k := 13) (by decide)
  have o__law_lined := (ok__law_lined (P := P) (w := w) (base := base) Z).mono (k := 13) (by decide)
  have o__law_mixed := (ok__law_mixed (P := P) (w := w) (base := base) Z 9).mono (k := 13) (by decide)
  have o__law_odd := (ok__law_odd (P := P) (w := w) (base := base) Z).mono (k := 13) (by decide)
  have o__law_of := (ok__law_of (P := P) (w := w) (base := base) Z).mono (k := 13) (by decide)
  have o__law_ones := (ok__law_ones (P := P) (w := w) (base := base) Z).mono (k := 13) (by decide)
  have o__law_pick := (ok__law_pick (P := P) (w := w) (base := base) Z).mono (k := 13) (by decide)
  have o__law_same := (ok__law_same (P := P) (w := w) (base := base) Z 9).mono (k := 13) (by decide)
  have o__law_share := (ok__law_share (P := P) (w := w) (base := base) Z).mono (k := 13) (by decide)
  have o__law_some_equations := (ok__law_some_equations (P := P) (w := w) (base := base) Z).mono (k := 13) (by decide)
  have o__law_some_told := (ok__law_some_told (P := P) (w := w) (base := base) Z).mono (k := 13) (by decide)
  have o__law_take := (ok__law_take (P := P) (w := w) (base := base) Z).mono (k := 13) (by decide)
  have o__law_wide := (ok__law_wide (P := P) (w := w) (base := base) Z).mono (k := 13) (by decide)
  have o_bit_at := (ok_bit_at (P := P) (w := w) (base := base) Z).mono (k := 13) (by decide)
  have o_corrected := (ok_corrected (P := P) (w := w) (base := base) Z).mono (k := 13) (by decide)
  have o_fail_counts := (ok_fail_counts (P := P) (w := w) (base := base) Z).mono (k := 13) (by decide)
  have o_is_proof := (ok_is_proof (P := P) (w := w) (base := base) Z).mono (k := 13) (by decide)
  have o_is_told := (ok_is_told (P := P) (w := w) (base := base) Z).mono (k := 13) (by decide)
  have o_line_fails := (ok_line_fails (P := P) (w := w) (base := base) Z).mono (k := 13) (by decide)
  have o_many_draws := (ok_many_draws (P := P) (w := w) (base := base) Z).mono (k := 13) (by decide)
  have o_many_ones := (ok_many_ones (P := P) (w := w) (base := base) Z).mono (k := 13) (by decide)
  have o_nearest_row := (ok_nearest_row (P := P) (w := w) (base := base) Z).mono (k := 13) (by decide)
  have o_right_share := (ok_right_share (P := P) (w := w) (base := base) Z).mono (k := 13) (by decide)
  have o_straight_told := (ok_straight_told (P := P) (w := w) (base := base) Z).mono (k := 13) (by decide)
  have o_unlike_far := (ok_unlike_far (P := P) (w := w) (base := base) Z).mono (k := 13) (by decide)
  refine fn_pop F sc_law rfl rfl (fun cdv A outer s H E hr => ?_)
  have c : Ct (GG K) (cxOf (L2.CX P w) P w K mg base _ "law" (defScope s_law) _ cdv A outer s H E) 13 := ⟨rfl, hr, rfl, sc_law.nd⟩
  exact (ss_cons (ss_st 1 c (se_call o__law_box c.hr rfl cx_takes (sa_cons (se_call o__law_cells c.hr rfl cx_takes (sa_cons (sv 0) (sa_cons se_int sa_nil))) (sa_cons se_int sa_nil))))
    (ss_cons (ss_for (vs := [0, 1, 2, 3, 4, 5, 6, 7, 8, 9, 10, 11, 12, 13, 14, 15, 16, 17, 18, 19, 20, 21, 22, 23]) cx_passes c.hc (si_range1 rfl (m_range Z) (sa_cons se_int sa_nil)) (gv 2 c)
    (ss_cons (ss_st 3 c (se_call o__law_of c.hr rfl cx_takes (sa_cons (sv 1) (sa_cons (se_lst (sa_cons se_int (sa_cons se_int (sa_cons se_int (sa_cons se_int (sa_cons se_int (sa_cons se_int (sa_cons se_int sa_nil)))))))) sa_nil))))
    (ss_cons (ss_st 4 c (se_call o__law_wide c.hr rfl cx_takes (sa_cons (sv 1) (sa_cons (sv 3) sa_nil))))
    (ss_cons (ss_st 5 c (se_call o_straight_told c.hr rfl cx_takes (sa_cons (sv 3) (sa_cons (sv 4) sa_nil))))
    (ss_cons (ss_if (st_not (st_tru c.hK (se_call o__law_same c.hr rfl cx_takes (sa_cons (sv 5) (sa_cons (se_tup (sa_cons (sv 3) (sa_cons (sv 4) (sa_cons (se_tup sa_nil) sa_nil)))) sa_nil))) (fun _ => rfl)))
    (ss_one (ss_ret se_bl))
    ss_nil)
    (ss_cons (ss_st 6 c (se_lstM (sa_cons se_int (sa_cons (se_op op_sub (fun _ => sim_sub) (se_op op_shlW (fun _ => sim_shl) se_int (sv 3)) se_int) (sa_cons se_int (sa_cons se_int (sa_cons se_int sa_nil)))))))
    (ss_cons (ss_for (vs := [0, 1, 2, 3, 4, 5, 6, 7, 8, 9, 10, 11, 12, 13, 14, 15, 16, 17, 18, 19, 20, 21, 22, 23]) cx_passes c.hc (si_range1 rfl (m_range Z) (sa_cons (se_call o__law_take c.hr rfl cx_takes (sa_cons (sv 1) (sa_cons se_int sa_nil))) sa_nil)) (gv 7 c)
    (ss_cons (ss_st 8 c (se_if (st_cmp op_gt (fun _ => sim_gt) (se_call o__law_take c.hr rfl cx_takes (sa_cons (sv 1) (sa_cons se_int sa_nil))) se_int (nomark _)) (se_call o__law_wide c.hr rfl cx_takes (sa_cons (sv 1) (sa_cons (sv 3) sa_nil))) (se_op op_xor (fun _ => sim_xor) (se_call o__law_of c.hr rfl cx_takes (sa_cons (sv 1) (sa_cons (sv 6) sa_nil))) (se_call o__law_of c.hr rfl cx_takes (sa_cons (sv 1) (sa_cons (sv 6) sa_nil))))))
    (ss_one (ss_expr (se_mt c.hK PySem.F.slot_list_append PySem.F.type_list_append mt_append (fun _ => msim_append) nox_append (sv 6) (sa_cons (sv 8) sa_nil))))))
    (ss_cons (ss_for (vs := [0, 1, 2, 3, 4, 5, 6, 7, 8, 9, 10, 11, 12, 13, 14, 15, 16, 17, 18, 19, 20, 21, 22, 23]) cx_passes c.hc (si_sq c (se_call o__law_pick c.hr rfl cx_takes (sa_cons (sv 1) (sa_cons (sv 6) (sa_cons (se_op op_catS (fun _ => sim_cat) se_int (se_call o__law_take c.hr rfl cx_takes (sa_cons (sv 1) (sa_cons (se_cb call_lenS (fun _ => csim_len) rfl (m_len Z) boot_len (sa_cons (sv 6) sa_nil)) sa_nil)))) sa_nil))))) (gv 8 c)
    (ss_cons (ss_st 11 c (se_if (st_cmp (op_notInS c.hu) (fun _ => sim_notIn) (sv 8) (se_ix c.hu c.hK (sv 5) se_int (fun _ _ => rfl)) (by with_unfolding_all rfl)) (se_op op_catS (fun _ => sim_cat) (se_ix c.hu c.hK (sv 5) se_int (fun _ _ => rfl)) (se_tup (sa_cons (sv 8) sa_nil))) (se_ct call_tuple_of (fun _ => csim_tup) rfl (m_tuple Z) PyProof.Rows.boot_tuple (sa_cons (se_lc c.hc c.hN (own := [("its", 23)]) (si_sq c (se_ix c.hu c.hK (sv 5) se_int (fun _ _ => rfl))) (blkOk_by (by rfl)) (fun _ _ _ _ _ => (gv 23 c.blk)) (fun _ _ _ _ _ => (sts_one (st_cmp (op_neS c.blk.hu) (fun _ => sim_ne) (sv 23) (sv 8) (nomark _)))) (fun _ _ _ _ _ => (sv 23))) sa_nil))))
    (ss_cons (ss_st 12 c (se_call o__law_heard c.hr rfl cx_takes (sa_cons (sv 5) (sa_cons (sv 8) sa_nil))))
    (ss_cons (ss_if (st_cmp op_gt (fun _ => sim_gt) (se_cb call_lenS (fun _ => csim_len) rfl (m_len Z) boot_len (sa_cons (sv 11) sa_nil)) se_int (nomark _))
    (ss_cons (ss_if (st_cmp (op_neS c.hu) (fun _ => sim_ne) (sv 12) (se_lst (sa_cons se_str (sa_cons se_bl sa_nil))) (nomark _))
    (ss_one (ss_ret se_bl))
    ss_nil)
    (ss_one ss_continue))
    ss_nil)
    (ss_cons (ss_if (st_not (st_tru c.hK (se_call o__law_same c.hr rfl cx_takes (sa_cons (se_lst (sa_cons (sv 12) (sa_cons (se_call o_bit_at c.hr rfl cx_takes (sa_cons (sv 12) (sa_cons (sv 8) sa_nil))) (sa_cons (se_call o_bit_at c.hr rfl cx_takes (sa_cons (sv 5) (sa_cons (sv 8) sa_nil))) sa_nil)))) (sa_cons (se_lst (sa_cons (se_tup (sa_cons (sv 3) (sa_cons (sv 4) (sa_cons (se_ct call_tuple_of (fun _ => csim_tup) rfl (m_tuple Z) PyProof.Rows.boot_tuple (sa_cons (se_cbL (call_sortS c) (fun _ => lsim_sortS) rfl (m_sorted Z) PyProof.Rows.boot_sorted (sa_cons (sv 11) sa_nil)) sa_nil)) sa_nil)))) (sa_cons (se_call o__law_bit c.hr rfl cx_takes (sa_cons (sv 12) (sa_cons (sv 8) sa_nil))) (sa_cons (se_op op_sub (fun _ => sim_sub) se_int (se_call o__law_bit c.hr rfl cx_takes (sa_cons (sv 12) (sa_cons (sv 8) sa_nil)))) sa_nil)))) sa_nil))) (fun _ => rfl)))
    (ss_one (ss_ret se_bl))
    ss_nil)
    (ss_one (ss_st 5 c (sv 12))))))))
    (ss_cons (ss_p2 13 14 c (sa_cons (se_op op_shlW (fun _ => sim_shl) se_int (sv 3)) (sa_cons (se_cb call_lenS (fun _ => csim_len) rfl (m_len Z) boot_len (sa_cons (se_ix c.hu c.hK (sv 5) se_int (fun _ _ => rfl)) sa_nil)) sa_nil)))
    (ss_cons (ss_st 9 c (se_lst (sa_cons (se_call o_is_told c.hr rfl cx_takes (sa_cons (sv 5) sa_nil)) (sa_cons (se_call o_line_fails c.hr rfl cx_takes (sa_cons (se_call o__law_mixed c.hr rfl cx_takes (sa_cons (sv 1) (sa_cons (sv 5) sa_nil))) sa_nil)) (sa_cons (se_call o_many_ones c.hr rfl cx_takes (sa_cons (sv 5) sa_nil)) (sa_cons (se_ix c.hu c.hK (se_call o_straight_told c.hr rfl cx_takes (sa_cons (sv 3) (sa_cons (se_ix c.hu c.hK (sv 5) se_int (fun _ _ => rfl)) sa_nil))) se_int (fun _ _ => rfl)) sa_nil))))))
    (ss_cons (ss_if (st_not (st_tru c.hK (se_call o__law_same c.hr rfl cx_takes (sa_cons (sv 9) (sa_cons (se_lst (sa_cons se_bl (sa_cons (se_call o__law_lined c.hr rfl cx_takes (sa_cons (sv 5) sa_nil)) (sa_cons (se_call o__law_ones c.hr rfl cx_takes (sa_cons (sv 5) sa_nil)) (sa_cons (sv 4) sa_nil))))) sa_nil))) (fun _ => rfl)))
    (ss_one (ss_ret se_bl))
    ss_nil)
    (ss_cons (ss_if (st_w (sw_and (st_cmp (op_ltS c.hu) (fun _ => sim_ltS) (se_op op_mulS (fun _ => sim_mul) se_int (sv 14)) (sv 13) (nomark _)) (sw_and1 (st_not (st_tru c.hK (se_call o__law_same c.hr rfl cx_takes (sa_cons (se_call o_nearest_row c.hr rfl cx_takes (sa_cons (sv 5) sa_nil)) (sa_cons (sv 4) sa_nil))) (fun _ => rfl))))))
    (ss_one (ss_ret se_bl))
    ss_nil)
    (ss_cons (ss_for (vs := [0, 1, 2, 3, 4, 5, 6, 7, 8, 9, 10, 11, 12, 13, 14, 15, 16, 17, 18, 19, 20, 21, 22, 23]) cx_passes c.hc (si_range1 rfl (m_range Z) (sa_cons se_int sa_nil)) (gv 7 c)
    (ss_cons (ss_st 15 c (se_call o__law_of c.hr rfl cx_takes (sa_cons (sv 1) (sa_cons (se_lst (sa_cons se_int (sa_cons se_int (sa_cons (se_op op_xor (fun _ => sim_xor) (se_call o__law_of c.hr rfl cx_takes (sa_cons (sv 1) (sa_cons (sv 6) sa_nil))) (se_call o__law_of c.hr rfl cx_takes (sa_cons (sv 1) (sa_cons (sv 6) sa_nil)))) (sa_cons (se_call o__law_wide c.hr rfl cx_takes (sa_cons (sv 1) (sa_cons (sv 3) sa_nil))) sa_nil))))) sa_nil))))
    (ss_cons (ss_st 16 c (se_cb call_lenS (fun _ => csim_len) rfl (m_len Z) boot_len (sa_cons (se_lc c.hc c.hN (own := [("own", 8)]) (si_sq c (se_ix c.hu c.hK (sv 5) se_int (fun _ _ => rfl))) (blkOk_by (by rfl)) (fun _ _ _ _ _ => (gv 8 c.blk)) (fun _ _ _ _ _ => (sts_one (st_cmp (op_inS c.blk.hu) (fun _ => sim_in) (se_op op_xor (fun _ => sim_xor) (sv 8) (sv 15)) (se_ix c.blk.hu c.blk.hK (sv 5) se_int (fun _ _ => rfl)) (by with_unfolding_all rfl)))) (fun _ _ _ _ _ => se_int)) sa_nil)))
    (ss_cons (ss_st 17 c (se_op op_mulS (fun _ => sim_mul) se_int (se_op op_sub (fun _ => sim_sub) (sv 14) (sv 16))))
    (ss_cons (ss_if (st_not (st_tru c.hK (se_call o__law_same c.hr rfl cx_takes (sa_cons (se_lst (sa_cons (se_call o_unlike_far c.hr rfl cx_takes (sa_cons (sv 5) (sa_cons (sv 15) sa_nil))) (sa_cons (se_call o_right_share c.hr rfl cx_takes (sa_cons (sv 5) (sa_cons (sv 15) sa_nil))) sa_nil))) (sa_cons (se_lst (sa_cons (sv 17) (sa_cons (se_call o__law_share c.hr rfl cx_takes (sa_cons (se_op op_sub (fun _ => sim_sub) (sv 13) (sv 17)) (sa_cons (sv 13) sa_nil))) sa_nil))) sa_nil))) (fun _ => rfl)))
    (ss_one (ss_ret se_bl))
    ss_nil)
    (ss_cons (ss_st 18 c (se_call o__law_of c.hr rfl cx_takes (sa_cons (sv 1) (sa_cons (se_lst (sa_cons (se_call o__law_wide c.hr rfl cx_takes (sa_cons (sv 1) (sa_cons (sv 3) sa_nil))) (sa_cons (se_call o__law_of c.hr rfl cx_takes (sa_cons (sv 1) (sa_cons (sv 6) sa_nil))) sa_nil))) sa_nil))))
    (ss_cons (ss_st 19 c (se_op op_xor (fun _ => sim_xor) (se_call o__law_bit c.hr rfl cx_takes (sa_cons (sv 5) (sa_cons (sv 18) sa_nil))) (se_call o__law_bit c.hr rfl cx_takes (sa_cons (sv 5) (sa_cons (se_op op_xor (fun _ => sim_xor) (sv 18) (sv 15)) sa_nil)))))
    (ss_cons (ss_st 20 c (se_cmp (op_eqS c.hu) (fun _ => sim_eq) (se_cmp (op_inS c.hu) (fun _ => sim_in) (sv 18) (se_ix c.hu c.hK (sv 5) se_int (fun _ _ => rfl)) (by with_unfolding_all rfl)) (se_cmp (op_inS c.hu) (fun _ => sim_in) (se_op op_xor (fun _ => sim_xor) (sv 18) (sv 15)) (se_ix c.hu c.hK (sv 5) se_int (fun _ _ => rfl)) (by with_unfolding_all rfl)) (nomark _)))
    (ss_one (ss_if (st_w (sw_or (st_not (st_tru c.hK (se_call o__law_same c.hr rfl cx_takes (sa_cons (se_call o_corrected c.hr rfl cx_takes (sa_cons (sv 5) (sa_cons (sv 15) (sa_cons (sv 18) sa_nil)))) (sa_cons (sv 19) sa_nil))) (fun _ => rfl))) (sw_or1 (st_cmp (op_neS c.hu) (fun _ => sim_ne) (se_cmp (op_eqS c.hu) (fun _ => sim_eq) (sv 19) (se_call o__law_odd c.hr rfl cx_takes (sa_cons (se_op op_and (fun _ => sim_and) (sv 4) (sv 15)) sa_nil)) (nomark _)) (sv 20) (nomark _)))))
    (ss_one (ss_ret se_bl))
    ss_nil))))))))))
    (ss_cons (ss_st 10 c (se_get1 c.hu (se_disp [(.inl 6, .int 3), (.inl 28, .int 7), (.inl 300, .int 24), (.inl 820, .int 40)] (pps_cons pe_int pe_int (pps_cons pe_int pe_int (pps_cons pe_int pe_int (pps_cons pe_int pe_int pps_nil))))) (sv 3) ⟨rfl, rfl, rfl, rfl⟩))
    (ss_one (ss_if (st_cmp op_notN (fun _ => sim_notN) (sv 10) se_non (nomark _))
    (ss_cons (ss_st 21 c (se_call o__law_some_equations c.hr rfl cx_takes (sa_cons (sv 1) (sa_cons (sv 10) (sa_cons se_int sa_nil)))))
    (ss_cons (ss_st 22 c (se_tup (sa_cons (se_call o__law_some_told c.hr rfl cx_takes (sa_cons (sv 1) (sa_cons (sv 10) (sa_cons se_int sa_nil)))) (sa_cons (sv 5) sa_nil))))
    (ss_cons (ss_st 9 c (se_lst (sa_cons (se_call o_is_proof c.hr rfl cx_takes (sa_cons (sv 21) (sa_cons (sv 22) sa_nil))) (sa_cons (se_slice c.hK (se_call o_fail_counts c.hr rfl cx_takes (sa_cons (sv 21) (sa_cons (sv 22) sa_nil))) so_no (so_yes se_int)) (sa_cons (se_ix c.hu c.hK (se_call o_many_draws c.hr rfl cx_takes (sa_cons (sv 21) sa_nil)) se_int (fun _ _ => rfl)) sa_nil)))))
    (ss_one (ss_if (st_not (st_tru c.hK (se_call o__law_same c.hr rfl cx_takes (sa_cons (sv 9) (sa_cons (se_lst (sa_cons se_bl (sa_cons (se_tup (sa_cons (se_call o__law_lined c.hr rfl cx_takes (sa_cons (se_ix c.hu c.hK (sv 22) se_int (fun _ _ => rfl)) sa_nil)) (sa_cons (se_call o__law_lined c.hr rfl cx_takes (sa_cons (sv 5) sa_nil)) sa_nil))) (sa_cons (se_op op_mulS (fun _ => sim_mul) (sv 13) (sv 13)) sa_nil)))) sa_nil))) (fun _ => rfl)))
    (ss_one (ss_ret se_bl))
    ss_nil)))))
    (ss_one (ss_if (st_cmp (op_ltS c.hu) (fun _ => sim_ltS) (sv 3) se_int (nomark _))
    (ss_cons (ss_st 21 c (se_tup (sa_cons (sv 3) (sa_cons (se_tup sa_nil) sa_nil))))
    (ss_cons (ss_st 22 c (se_tup (sa_cons (sv 5) (sa_cons (se_tup (sa_cons (se_op op_fdivW (fun _ => sim_div) (se_op op_mulS (fun _ => sim_mul) (sv 3) (se_op op_catS (fun _ => sim_cat) (sv 3) se_int)) se_int) (sa_cons se_int (sa_cons (se_tup sa_nil) sa_nil)))) sa_nil))))
    (ss_one (ss_if (st_not (st_tru c.hK (se_call o__law_same c.hr rfl cx_takes (sa_cons (se_lst (sa_cons (se_call o_is_proof c.hr rfl cx_takes (sa_cons (sv 21) (sa_cons (sv 22) sa_nil))) (sa_cons (se_slice c.hK (se_call o_fail_counts c.hr rfl cx_takes (sa_cons (sv 21) (sa_cons (sv 22) sa_nil))) so_no (so_yes se_int)) sa_nil))) (sa_cons (se_lst (sa_cons se_bl (sa_cons (se_tup (sa_cons (se_call o__law_lined c.hr rfl cx_takes (sa_cons (sv 5) sa_nil)) (sa_cons se_int sa_nil))) sa_nil))) sa_nil))) (fun _ => rfl)))
    (ss_one (ss_ret se_bl))
    ss_nil))))
    ss_nil))))))))))))))))))
    (ss_one (ss_ret se_bl))))
end
end Q
set_option linter.all false
namespace Sh
open PySem
theorem xor_half (a b : Nat) : a ^^^ b = 2 * ((a / 2) ^^^ (b / 2)) + ((a + b) % 2) := by
  have h1 : (a ^^^ b) / 2 = (a / 2) ^^^ (b / 2) := Nat.xor_div_two
  have h2 : (a ^^^ b) % 2 = (a + b) % 2 := by
    have := @Nat.xor_mod_two_eq_one a b
    by_cases h : (a ^^^ b) % 2 = 1
    · rw [h]; have := this.mp h; omega
    · have := fun q => h (this.mpr q); omega
  omega
theorem and_half (a b : Nat) : a &&& b = 2 * ((a / 2) &&& (b / 2)) + (a % 2) * (b % 2) := by
  have h1 : (a &&& b) / 2 = (a / 2) &&& (b / 2) := Nat.and_div_two
  have h2 : (a &&& b) % 2 = (a % 2) * (b % 2) := by
    have := @Nat.and_mod_two_eq_one a b
    rcases Nat.mod_two_eq_zero_or_one a with h | h <;> rcases Nat.mod_two_eq_zero_or_one b with k | k <;> rcases Nat.mod_two_eq_zero_or_one (a &&& b) with j | j <;> simp [h, k, j] at this ⊢
  omega
theorem or_half (a b : Nat) : a ||| b = 2 * ((a / 2) ||| (b / 2)) + (a % 2 + b % 2 - (a % 2) * (b % 2)) := by
  have h1 : (a ||| b) / 2 = (a / 2) ||| (b / 2) := Nat.or_div_two
  have h2 : (a ||| b) % 2 = (a % 2 + b % 2 - (a % 2) * (b % 2)) := by
    have := @Nat.or_mod_two_eq_one a b
    rcases Nat.mod_two_eq_zero_or_one a with h | h <;> rcases Nat.mod_two_eq_zero_or_one b with k | k <;> rcases Nat.mod_two_eq_zero_or_one (a ||| b) with j | j <;> simp [h, k, j] at this ⊢
  omega
theorem or_and (a : Nat) : ∀ b, (a ||| b) + (a &&& b) = a + b := by
  induction a using Nat.strongRecOn with
  | ind a ih =>
    intro b
    by_cases h : a = 0
    · subst h; simp
    · have := ih (a / 2) (by omega) (b / 2)
      rw [or_half, and_half]
      rcases Nat.mod_two_eq_zero_or_one a with h | h <;> rcases Nat.mod_two_eq_zero_or_one b with k | k <;> simp only [h, k] <;> omega
theorem xor_and (a : Nat) : ∀ b, (a ^^^ b) + 2 * (a &&& b) = a + b := by
  induction a using Nat.strongRecOn with
  | ind a ih =>
    intro b
    by_cases h : a = 0
    · subst h; simp
    · have := ih (a / 2) (by omega) (b / 2)
      rw [xor_half, and_half]
      rcases Nat.mod_two_eq_zero_or_one a with h | h <;> rcases Nat.mod_two_eq_zero_or_one b with k | k <;> simp only [h, k] <;> omega
theorem bAnd_nat (a b : Nat) : Builtin.bitAnd (a : Int) (b : Int) = ((a &&& b : Nat) : Int) := by
  simp [Builtin.bitAnd]
theorem bOr_nat (a b : Nat) : Builtin.bitOr (a : Int) (b : Int) = ((a ||| b : Nat) : Int) := by
  have h1 : ¬ (0 ≤ (-(a : Int) - 1)) := by omega
  have h2 : ¬ (0 ≤ (-(b : Int) - 1)) := by omega
  have e1 : (-(-(a : Int) - 1) - 1).toNat = a := by omega
  have e2 : (-(-(b : Int) - 1) - 1).toNat = b := by omega
  have d1 : decide (0 ≤ (-(a : Int) - 1)) = false := decide_eq_false h1
  have d2 : decide (0 ≤ (-(b : Int) - 1)) = false := decide_eq_false h2
  unfold Builtin.bitOr Builtin.bitAnd Builtin.bitNot
  rw [d1, d2]
  show -(-((((-(-(a : Int) - 1) - 1).toNat ||| (-(-(b : Int) - 1) - 1).toNat : Nat) : Int)) - 1) - 1 = _
  rw [e1, e2]
  omega
theorem bXor_nat (a b : Nat) : Builtin.bitXor (a : Int) (b : Int) = ((a ^^^ b : Nat) : Int) := by
  rw [Builtin.bitXor, bOr_nat, bAnd_nat]
  have := or_and a b
  have := xor_and a b
  omega
/-- how many ones are there, by two -/
def par (n : Nat) : Nat := if h : n = 0 then 0 else (n % 2 + par (n / 2)) % 2
decreasing_by omega
theorem par_zero : par 0 = 0 := by unfold par; rfl
theorem par_step (n : Nat) : par n = (n % 2 + par (n / 2)) % 2 := by
  by_cases h : n = 0
  · subst h; simp [par_zero]
  · rw [par, dif_neg h]
theorem par_two (n : Nat) : par n = 0 ∨ par n = 1 := by rw [par_step]; omega
theorem par_lt (n : Nat) : par n < 2 := by rcases par_two n with h | h <;> omega
theorem par_xor (a : Nat) : ∀ b, par (a ^^^ b) = (par a + par b) % 2 := by
  induction a using Nat.strongRecOn with
  | ind a ih =>
    intro b
    by_cases h : a = 0
    · subst h; simp only [Nat.zero_xor, par_zero]; have := par_lt b; omega
    · have e := ih (a / 2) (by omega) (b / 2)
      rw [par_step (a ^^^ b), par_step a, par_step b, Nat.xor_div_two, e, xor_half]
      omega
theorem par_xor' (a b : Nat) : par (a ^^^ b) = par a ^^^ par b := by
  rw [par_xor]
  rcases par_two a with h | h <;> rcases par_two b with k | k <;> rw [h, k] <;> rfl
theorem par_cat (k : Nat) : ∀ a b, a < 2 ^ k → par (a + 2 ^ k * b) = (par a + par b) % 2 := by
  induction k with
  | zero => intro a b h; have : a = 0 := by simpa using h
            subst this; simp [par_zero]; have := par_lt b; omega
  | succ k ih =>
    intro a b h
    have e := ih (a / 2) b (by rw [Nat.pow_succ] at h; omega)
    rw [par_step (a + _), par_step a]
    have h1 : (a + 2 ^ (k + 1) * b) / 2 = a / 2 + 2 ^ k * b := by
      rw [Nat.pow_succ, Nat.mul_right_comm]; omega
    have h2 : (a + 2 ^ (k + 1) * b) % 2 = a % 2 := by
      rw [Nat.pow_succ, Nat.mul_right_comm]; omega
    rw [h1, h2, e]; omega
theorem par_fold (k y : Nat) : par ((y ^^^ (y >>> k)) % 2 ^ k) = par (y % 2 ^ (k + k)) := by
  rw [Nat.xor_mod_two_pow, par_xor, Nat.shiftRight_eq_div_pow, Nat.pow_add, Nat.mod_mul, par_cat k _ _ (Nat.mod_lt _ (Nat.two_pow_pos k))]
theorem par_one (y : Nat) : par (y % 2 ^ 1) = y &&& 1 := by
  rw [Nat.and_one_is_mod]
  rcases Nat.mod_two_eq_zero_or_one y with h | h <;> simp [h, par_zero]
  rw [par_step]; simp [par_zero]
theorem par_all {n : Nat} (h : n < 2 ^ 1024) : n % 2 ^ (512 + 512) = n := Nat.mod_eq_of_lt h
/-- how many turns are left -/
def gm (x y : Nat) : Nat := if y = 0 then 0 else (x * y).log2 + (if x < y then 2 else 1)
theorem gm_step {x y : Nat} (hy : ¬ y = 0) : gm y (x % y) < gm x y := by
  have hl := Nat.mod_lt x (show 0 < y by omega)
  unfold gm
  rw [if_neg hy]
  by_cases h : x % y = 0
  · rw [if_pos h]; split <;> omega
  · rw [if_neg h, if_neg (by omega)]
    by_cases hx : x < y
    · rw [if_pos hx, Nat.mod_eq_of_lt hx, Nat.mul_comm]; omega
    · rw [if_neg hx]
      have h1 : 2 * (x % y) ≤ x := by
        have := Nat.div_add_mod x y
        have h2 : 1 ≤ x / y := (Nat.le_div_iff_mul_le (by omega)).mpr (by omega)
        have h3 : y * 1 ≤ y * (x / y) := Nat.mul_le_mul_left _ h2
        omega
      have h2 : 2 * (y * (x % y)) ≤ x * y := by
        calc 2 * (y * (x % y)) = y * (2 * (x % y)) := by rw [Nat.mul_left_comm]
          _ ≤ y * x := Nat.mul_le_mul_left _ h1
          _ = x * y := Nat.mul_comm _ _
      have h4 : y * (x % y) ≠ 0 := Nat.mul_ne_zero hy h
      have h5 : x * y ≠ 0 := by omega
      have h6 : 2 ^ ((y * (x % y)).log2 + 1) ≤ x * y := by
        have := Nat.log2_self_le h4
        rw [Nat.pow_succ]; omega
      have := (Nat.le_log2 h5).mpr h6
      omega
theorem gm_le {x y n : Nat} (hx : x < 2 ^ n) (hy : y < 2 ^ n) : gm x y ≤ 2 * n + 2 := by
  unfold gm
  split
  · omega
  · by_cases h : x * y = 0
    · rw [h]; simp; split <;> omega
    · have : (x * y).log2 < 2 * n := (Nat.log2_lt h).mpr (by
        rw [Nat.two_mul, Nat.pow_add]
        exact Nat.mul_lt_mul'' hx hy)
      split <;> omega
theorem gm_zero {x y : Nat} (h : gm x y = 0) : y = 0 := by
  unfold gm at h
  split at h
  · assumption
  · split at h <;> omega
end Sh
set_option Elab.async false
set_option linter.all false
set_option maxRecDepth 100000
set_option maxHeartbeats 4000000
/-! Pl0: how the plain functions are run by simp. -/
namespace Sh
open PySem PySem.Spec PyProof.Rows L2
/-- a number from 0 -/
def N (n : Nat) : D := .int n
theorem N_inj {a b : Nat} : N a = N b ↔ a = b := by
  constructor
  · intro h; unfold N at h; injection h with h; omega
  · rintro rfl; rfl
section
variable {bd : Nat} {e : Env} {M : Mem}
/-! values -/
@[simp] theorem eC_lit {n : Nat} : eC (.int (no_index (OfNat.ofNat n))) bd e M = .ok (N (OfNat.ofNat n)) M := id rfl
@[simp] theorem eC_bl {b : Bool} : eC (.bl b) bd e M = .ok (.bl b) M := id rfl
@[simp] theorem eC_non : eC .non bd e M = .ok .non M := id rfl
@[simp] theorem eC_str {x : Str} : eC (.str x) bd e M = .ok (.str x) M := id rfl
@[simp] theorem eC_cst {x : List D} : eC (.cst x) bd e M = .ok (.cst x) M := id rfl
def getV (M : Mem) : Option (Option D) → R D
  | some (some d) => .ok d M
  | _ => .stuck
@[simp] theorem eV_eq {i : Nat} : eV i bd e M = getV M e[i]? := id rfl
@[simp] theorem getV_some {d : D} : getV M (some (some d)) = .ok d M := id rfl
/-! arguments -/
@[simp] theorem aNil_eq : aNil bd e M = .ok [] M := id rfl
def aK1 (t : AF) (bd : Nat) (e : Env) (d : D) (M1 : Mem) : R (List D) := (t bd e M1).bind fun ds M2 => .ok (d :: ds) M2
def aK2 (d : D) (ds : List D) (M2 : Mem) : R (List D) := .ok (d :: ds) M2
@[simp] theorem aCons_eq {f : EF} {t : AF} : aCons f t bd e M = (f bd e M).bind (aK1 t bd e) := id rfl
@[simp] theorem aK1_eq {t : AF} {d : D} : aK1 t bd e d M = (t bd e M).bind (aK2 d) := id rfl
@[simp] theorem aK2_eq {d : D} {ds : List D} : aK2 d ds M = .ok (d :: ds) M := id rfl
/-! tuples, lists -/
def tupK (ds : List D) (M : Mem) : R D := if big ds.length = true then .ok (.tup ds) M else .stuck
def lstK (ds : List D) (M : Mem) : R D := if big ds.length = true then .ok (.lst ds) M else .stuck
def lstMK (ds : List D) (M : Mem) : R D := if big ds.length = true then mNew (.lst ds) M else .stuck
@[simp] theorem eTup_eq {t : AF} : eTup t bd e M = (t bd e M).bind tupK := id rfl
@[simp] theorem eLst_eq {t : AF} : eLst t bd e M = (t bd e M).bind lstK := id rfl
@[simp] theorem eLstM_eq {t : AF} : eLstM t bd e M = (t bd e M).bind lstMK := id rfl
@[simp] theorem tupK_eq {ds : List D} (h : ds.length ≤ 16777216) : tupK ds M = .ok (.tup ds) M := by unfold tupK big; rw [if_pos (decide_eq_true h)]
@[simp] theorem lstK_eq {ds : List D} (h : ds.length ≤ 16777216) : lstK ds M = .ok (.lst ds) M := by unfold lstK big; rw [if_pos (decide_eq_true h)]
@[simp] theorem lstMK_eq {ds : List D} (h : ds.length ≤ 16777216) : lstMK ds M = .ok (.ref M.length) (M ++ [.lst ds]) := by unfold lstMK big; rw [if_pos (decide_eq_true h)]; rfl
/-! operators -/
def opK1 (op : O2) (g : EF) (bd : Nat) (e : Env) (x : D) (M1 : Mem) : R D := (g bd e M1).bind fun y M2 => lft (op M2 x y) M2
def opK2 (op : O2) (x y : D) (M2 : Mem) : R D := lft (op M2 x y) M2
@[simp] theorem eOp_eq {op : O2} {f g : EF} : eOp op f g bd e M = (f bd e M).bind (opK1 op g bd e) := id rfl
@[simp] theorem opK1_eq {op : O2} {g : EF} {x : D} : opK1 op g bd e x M = (g bd e M).bind (opK2 op x) := id rfl
@[simp] theorem opK2_eq {op : O2} {x y : D} : opK2 op x y M = lft (op M x y) M := id rfl
def unK (op : D → Option D) (x : D) (M1 : Mem) : R D := lft (op x) M1
@[simp] theorem eUn_eq {op : D → Option D} {f : EF} : eUn op f bd e M = (f bd e M).bind (unK op) := id rfl
@[simp] theorem unK_eq {op : D → Option D} {x : D} : unK op x M = lft (op x) M := id rfl
theorem oBits_N {n : Nat} : oBits (N n) = some (N (Builtin.Int.intBits n)) := id rfl
section ops
variable {a b : Nat} {x y : Int}
@[simp] theorem oAnd_N : oAnd M (N a) (N b) = some (N (a &&& b)) := by show some (D.int _) = some (D.int _); rw [bAnd_nat]
@[simp] theorem oOr_N : oOr M (N a) (N b) = some (N (a ||| b)) := by show some (D.int _) = some (D.int _); rw [bOr_nat]
@[simp] theorem oXor_N : oXor M (N a) (N b) = some (N (a ^^^ b)) := by show some (D.int _) = some (D.int _); rw [bXor_nat]
@[simp] theorem oAdd_N : oAdd M (N a) (N b) = some (N (a + b)) := id rfl
@[simp] theorem oCat_N : oCat M (N a) (N b) = some (N (a + b)) := id rfl
@[simp] theorem oCat_tup {xs ys : List D} (h : xs.length + ys.length ≤ 16777216) : oCat M (.tup xs) (.tup ys) = some (.tup (xs ++ ys)) := if_pos h
theorem oSub_N : oSub M (N a) (N b) = some (.int (a - b)) := rfl
@[simp] theorem oSub_le (h : b ≤ a) : oSub M (N a) (N b) = some (N (a - b)) := by show some (D.int _) = some (D.int _); congr 2; omega
theorem oMul_N (h : cMul a b = true) : oMul M (N a) (N b) = some (N (a * b)) := by
  show (if cMul a b = true then some (D.int _) else none) = some (D.int _)
  rw [if_pos h, Int.natCast_mul]
@[simp] theorem oMul_l (h : a < 18446744073709551616) : oMul M (N a) (N b) = some (N (a * b)) := oMul_N (by unfold cMul; simp; omega)
@[simp] theorem oMul_r (h : b < 18446744073709551616) : oMul M (N a) (N b) = some (N (a * b)) := oMul_N (by unfold cMul; simp; omega)
@[simp] theorem oMul_g (h : a.log2 + b.log2 < 1000000) : oMul M (N a) (N b) = some (N (a * b)) := oMul_N (by unfold cMul; simp; omega)
@[simp] theorem oDiv_N (h : 0 < b) (h2 : b.log2 < 9000) : oDiv M (N a) (N b) = some (N (a / b)) := by
  show (if cDiv a b = true then some (D.int _) else none) = some (D.int _)
  rw [if_pos (by unfold cDiv; simp; omega), Int.natCast_ediv]
theorem log2_s {b : Nat} (h : b < 18446744073709551616) : b.log2 < 64 := by
  by_cases q : b = 0
  · subst q; decide
  · exact (Nat.log2_lt q).mpr h
@[simp] theorem oDiv_s (h : 0 < b) (h2 : b < 18446744073709551616) : oDiv M (N a) (N b) = some (N (a / b)) := oDiv_N h (by have := log2_s h2; omega)
@[simp] theorem oMod_N (h : 0 < b) : oMod M (N a) (N b) = some (N (a % b)) := by
  show (if decide (0 < (b : Int)) = true then some (D.int _) else none) = some (D.int _)
  rw [if_pos (by simp; omega), Int.natCast_emod]
@[simp] theorem oShl_1 (h : b ≤ 100000) : oShl M (N 1) (N b) = some (N (2 ^ b)) := by
  show (if cShl 1 b = true then some (D.int _) else none) = some (D.int _)
  rw [if_pos (by unfold cShl; simp; exact ⟨by omega, by decide⟩)]
  simp
@[simp] theorem oShl_N (h : b ≤ 100000) (h2 : a.log2 < 1000000) : oShl M (N a) (N b) = some (N (a * 2 ^ b)) := by
  show (if cShl a b = true then some (D.int _) else none) = some (D.int _)
  rw [if_pos (by unfold cShl; simp; omega)]
  simp
@[simp] theorem oShl_s (h : b ≤ 100000) (h2 : a < 18446744073709551616) : oShl M (N a) (N b) = some (N (a * 2 ^ b)) := oShl_N h (by have := log2_s h2; omega)
@[simp] theorem oShr_N : oShr M (N a) (N b) = some (N (a / 2 ^ b)) := by
  show (if decide (0 ≤ (b : Int)) = true then some (D.int _) else none) = some (D.int _)
  rw [if_pos (by simp)]
  simp
@[simp] theorem oLtS_N : oLtS M (N a) (N b) = some (.bl (decide (a < b))) := by show some (D.bl (decide ((a : Int) < b))) = _; simp only [Int.ofNat_lt]
@[simp] theorem oLt_N : oLt M (N a) (N b) = some (.bl (decide (a < b))) := by show some (D.bl _) = _; simp
@[simp] theorem oLe_N : oLe M (N a) (N b) = some (.bl (decide (a ≤ b))) := by show some (D.bl _) = _; simp
@[simp] theorem oGt_N : oGt M (N a) (N b) = some (.bl (decide (b < a))) := by show some (D.bl _) = _; simp
@[simp] theorem oGe_N : oGe M (N a) (N b) = some (.bl (decide (b ≤ a))) := by show some (D.bl _) = _; simp
@[simp] theorem oEq_N : oEq M (N a) (N b) = some (.bl (decide (a = b))) := by show some (D.bl (decide ((a : Int) = b))) = _; simp only [Int.natCast_inj]
@[simp] theorem oNe_N : oNe M (N a) (N b) = some (.bl (!decide (a = b))) := by show some (D.bl (!decide ((a : Int) = b))) = _; simp only [Int.natCast_inj]
@[simp] theorem oEq_bl {p q : Bool} : oEq M (.bl p) (.bl q) = some (.bl (decide (p = q))) := id rfl
@[simp] theorem oNe_bl {p q : Bool} : oNe M (.bl p) (.bl q) = some (.bl (!decide (p = q))) := id rfl
@[simp] theorem oEq_str {p q : Str} : oEq M (.str p) (.str q) = some (.bl (decide (p = q))) := id rfl
@[simp] theorem oIsN_N : oIsN M (N a) .non = some (.bl false) := id rfl
@[simp] theorem oIsN_lst {ds : List D} : oIsN M (.lst ds) .non = some (.bl false) := id rfl
@[simp] theorem oIsN_tup {ds : List D} : oIsN M (.tup ds) .non = some (.bl false) := id rfl
@[simp] theorem oIsN_bl {b : Bool} : oIsN M (.bl b) .non = some (.bl false) := id rfl
@[simp] theorem oIsN_int {b : Int} : oIsN M (.int b) .non = some (.bl false) := id rfl
@[simp] theorem oIsN_str {b : Str} : oIsN M (.str b) .non = some (.bl false) := id rfl
@[simp] theorem oIsN_non : oIsN M .non .non = some (.bl true) := id rfl
@[simp] theorem oNotN_N : oNotN M (N a) .non = some (.bl true) := id rfl
@[simp] theorem oNotN_non : oNotN M .non .non = some (.bl false) := id rfl
theorem atI_N {ds : List D} : atI ds (a : Int) = ds[a]? := by
  unfold atI ixN
  by_cases h : a < ds.length
  · simp [h]
  · simp [h]
@[simp] theorem oIx_tup {ds : List D} : oIx M (.tup ds) (N a) = ds[a]? := atI_N
@[simp] theorem oIx_cst {ds : List D} : oIx M (.cst ds) (N a) = ds[a]? := atI_N
@[simp] theorem oIx_lst {ds : List D} : oIx M (.lst ds) (N a) = ds[a]? := atI_N
@[simp] theorem oIx_scr {ds : List D} : oIx M (.scr ds) (N a) = ds[a]? := atI_N
@[simp] theorem oIx_ref {n : Nat} {ds : List D} (h : M[n]? = some (.lst ds)) : oIx M (.ref n) (N a) = ds[a]? := by
  show (match seqOf M (.ref n) with
    | some ds => atI ds (a : Int)
    | none => _) = _
  have : seqOf M (.ref n) = some ds := by show (match M[n]? with | some (.lst ds) => some ds | _ => none) = _; rw [h]
  rw [this]; exact atI_N
end ops
/-! built-in functions -/
def cbK (op : C1) (ds : List D) (M1 : Mem) : R D := lft (op M1 ds) M1
def clK (op : CL) (ds : List D) (M1 : Mem) : R D := lftL (op M1 ds) M1
def cmK (op : CL) (ds : List D) (M1 : Mem) : R D := lftM (op M1 ds) M1
@[simp] theorem eCB_eq {op : C1} {t : AF} : eCB op t bd e M = (t bd e M).bind (cbK op) := id rfl
@[simp] theorem eCL_eq {op : CL} {t : AF} : eCL op t bd e M = (t bd e M).bind (clK op) := id rfl
@[simp] theorem eCM_eq {op : CL} {t : AF} : eCM op t bd e M = (t bd e M).bind (cmK op) := id rfl
@[simp] theorem cbK_eq {op : C1} {ds : List D} : cbK op ds M = lft (op M ds) M := id rfl
@[simp] theorem clK_eq {op : CL} {ds : List D} : clK op ds M = lftL (op M ds) M := id rfl
@[simp] theorem cmK_eq {op : CL} {ds : List D} : cmK op ds M = lftM (op M ds) M := id rfl
@[simp] theorem lftL_ok {ds : List D} : lftL (some ds) M = .ok (.lst ds) M := id rfl
@[simp] theorem lftM_ok {ds : List D} : lftM (some ds) M = .ok (.ref M.length) (M ++ [.lst ds]) := id rfl
@[simp] theorem cLen_tup {ds : List D} : cLen M [.tup ds] = some (N ds.length) := id rfl
@[simp] theorem cLen_cst {ds : List D} : cLen M [.cst ds] = some (N ds.length) := id rfl
@[simp] theorem cLen_lst {ds : List D} : cLen M [.lst ds] = some (N ds.length) := id rfl
@[simp] theorem cLen_scr {ds : List D} : cLen M [.scr ds] = some (N ds.length) := id rfl
theorem seqOf_ref {n : Nat} {ds : List D} (h : M[n]? = some (.lst ds)) : seqOf M (.ref n) = some ds := by
  show (match M[n]? with | some (.lst ds) => some ds | _ => none) = _; rw [h]
@[simp] theorem lstOf_ref {n : Nat} {ds : List D} (h : M[n]? = some (.lst ds)) : lstOf M (.ref n) = some ds := by
  show (match M[n]? with | some (.lst ds) => some ds | _ => none) = _; rw [h]
@[simp] theorem lstH_ref {n : Nat} {ds : List D} (h : M[n]? = some (.lst ds)) : lstH M (.ref n) = some ds := by
  show (match M[n]? with | some (.lst ds) => some ds | _ => none) = _; rw [h]
@[simp] theorem lstOf_lst {ds : List D} : lstOf M (.lst ds) = some ds := id rfl
@[simp] theorem lstOf_scr {ds : List D} : lstOf M (.scr ds) = some ds := id rfl
@[simp] theorem lstH_lst {ds : List D} : lstH M (.lst ds) = some ds := id rfl
@[simp] theorem seqOf_lst {ds : List D} : seqOf M (.lst ds) = some ds := id rfl
@[simp] theorem seqOf_tup {ds : List D} : seqOf M (.tup ds) = some ds := id rfl
@[simp] theorem cLen_ref {n : Nat} {ds : List D} (h : M[n]? = some (.lst ds)) : cLen M [.ref n] = some (N ds.length) := by
  show (match seqOf M (.ref n) with | some es => some (D.int es.length) | none => _) = _; rw [seqOf_ref h]; rfl
@[simp] theorem cLen_dK {n : Nat} {kvs : List (Key × D)} (h : M[n]? = some (.dK kvs)) : cLen M [.ref n] = some (N kvs.length) := by
  have : seqOf M (.ref n) = none := by show (match M[n]? with | some (.lst ds) => some ds | _ => none) = _; rw [h]
  show (match seqOf M (.ref n) with | some es => some (D.int es.length) | none => (match M[n]? with | some (.dK kvs) => some (D.int kvs.length) | some (.dT kvs) => some (D.int kvs.length) | _ => none)) = _
  rw [this, h]; rfl
@[simp] theorem cInt_N {a : Nat} : cInt M [N a] = some (N a) := id rfl
@[simp] theorem cInt_bl {b : Bool} : cInt M [.bl b] = some (N (if b = true then 1 else 0)) := by cases b <;> rfl
@[simp] theorem cAbs_N {a : Nat} : cAbs M [N a] = some (N a) := by
  show some (D.int (if (a : Int) < 0 then _ else _)) = _
  rw [if_neg (by omega)]; rfl
@[simp] theorem cMin2_N {a b : Nat} : cMin2 M [N a, N b] = some (N (min a b)) := by
  show some (D.int (if (b : Int) < a then _ else _)) = some (D.int _)
  by_cases h : b < a
  · rw [if_pos (by omega)]; congr 2; omega
  · rw [if_neg (by omega)]; congr 2; omega
@[simp] theorem cTup_tup {ds : List D} : cTup M [.tup ds] = some (.tup ds) := id rfl
@[simp] theorem cTup_lst {ds : List D} : cTup M [.lst ds] = some (.tup ds) := id rfl
@[simp] theorem cTup_ref {n : Nat} {ds : List D} (h : M[n]? = some (.lst ds)) : cTup M [.ref n] = some (.tup ds) := by
  show (lstOf M (.ref n)).map D.tup = _; rw [lstOf_ref h]; rfl
@[simp] theorem lSeq_tup {ds : List D} : lSeq M [.tup ds] = some ds := id rfl
@[simp] theorem lSeq_lst {ds : List D} : lSeq M [.lst ds] = some ds := id rfl
@[simp] theorem lSeq_ref {n : Nat} {ds : List D} (h : M[n]? = some (.lst ds)) : lSeq M [.ref n] = some ds := seqOf_ref h
theorem intsOf_I (ns : List Int) : intsOf (ns.map D.int) = some ns := by
  induction ns with
  | nil => rfl
  | cons n ns ih => show (intsOf (ns.map D.int)).map (n :: ·) = _; rw [ih]; rfl
theorem map_N (ns : List Nat) : ns.map N = (ns.map Int.ofNat).map D.int := by rw [List.map_map]; rfl
@[simp] theorem intsOf_N (ns : List Nat) : intsOf (ns.map N) = some (ns.map Int.ofNat) := by rw [map_N, intsOf_I]
theorem sum_ofNat (ns : List Nat) : (ns.map Int.ofNat).sum = (ns.sum : Nat) := by
  induction ns with
  | nil => rfl
  | cons n ns ih => simp only [List.map_cons, List.sum_cons, ih]; show (n : Int) + _ = _; omega
@[simp] theorem cSum_N {ns : List Nat} : cSum M [.lst (ns.map N)] = some (N ns.sum) := by
  show ((some (ns.map N)).bind intsOf).map (fun ns => D.int ns.sum) = _
  rw [Option.bind_some, intsOf_N, Option.map_some, sum_ofNat]; rfl
@[simp] theorem cSum_I {ns : List Int} : cSum M [.lst (ns.map D.int)] = some (.int ns.sum) := by
  show ((some (ns.map D.int)).bind intsOf).map (fun ns => D.int ns.sum) = _
  rw [Option.bind_some, intsOf_I, Option.map_some]
theorem blsOf_B {bs : List Bool} : blsOf (bs.map D.bl) = some bs := by
  induction bs with
  | nil => rfl
  | cons n ns ih => show (blsOf (ns.map D.bl)).map (n :: ·) = _; rw [ih]; rfl
@[simp] theorem cAll_map {bs : List Bool} : cAll M [.lst (bs.map D.bl)] = some (.bl (bs.all id)) := by
  show ((some (bs.map D.bl)).bind blsOf).map _ = _
  rw [Option.bind_some, blsOf_B]; rfl
@[simp] theorem cAny_map {bs : List Bool} : cAny M [.lst (bs.map D.bl)] = some (.bl (bs.any id)) := by
  show ((some (bs.map D.bl)).bind blsOf).map _ = _
  rw [Option.bind_some, blsOf_B]; rfl
/-! in -/
@[simp] theorem scl_N (a : Nat) : scl (N a) = true := id rfl
@[simp] theorem scl_allN (ns : List Nat) : (ns.map N).all scl = true := by simp [scl_N]
@[simp] theorem eqS_N (a b : Nat) : eqS (N a) (N b) = decide (a = b) := by
  show ((a : Int) == (b : Int)) = _
  by_cases h : a = b <;> simp [h]
  omega
theorem any_N (ns : List Nat) (a : Nat) : ((ns.map N).any fun z => eqS z (N a)) = decide (a ∈ ns) := by
  induction ns with
  | nil => simp
  | cons n ns ih => simp only [List.map_cons, List.any_cons, ih, eqS_N, List.mem_cons]; by_cases h : n = a <;> by_cases k : a ∈ ns <;> simp [h, k, eq_comm]; exact fun q => h q.symm
theorem inB_N {d : D} {ns : List Nat} {a : Nat} (h : seqOf M d = some (ns.map N)) : inB M (N a) d = some (decide (a ∈ ns)) := by
  unfold inB
  rw [h]
  simp only [scl_N, scl_allN, Bool.and_self, if_true, any_N]
theorem oIn_N {d : D} {ns : List Nat} {a : Nat} (h : seqOf M d = some (ns.map N)) : oIn M (N a) d = some (.bl (decide (a ∈ ns))) := by unfold oIn; rw [inB_N h]; rfl
theorem oNotIn_N {d : D} {ns : List Nat} {a : Nat} (h : seqOf M d = some (ns.map N)) : oNotIn M (N a) d = some (.bl (!decide (a ∈ ns))) := by unfold oNotIn; rw [inB_N h]; rfl
@[simp] theorem oIn_T {ns : List Nat} {a : Nat} : oIn M (N a) (.tup (ns.map N)) = some (.bl (decide (a ∈ ns))) := oIn_N rfl
@[simp] theorem oIn_L {ns : List Nat} {a : Nat} : oIn M (N a) (.lst (ns.map N)) = some (.bl (decide (a ∈ ns))) := oIn_N rfl
@[simp] theorem oNotIn_T {ns : List Nat} {a : Nat} : oNotIn M (N a) (.tup (ns.map N)) = some (.bl (!decide (a ∈ ns))) := oNotIn_N rfl
/-! tests -/
def tK (d : D) (M1 : Mem) : R Bool := lftB (tru M1 d) M1
def vK (d : D) (M1 : Mem) : R Bool := match d with
  | .bl k => .ok k M1
  | _ => .stuck
@[simp] theorem bT_eq {f : EF} : bT f bd e M = (f bd e M).bind tK := id rfl
@[simp] theorem bV_eq {f : EF} : bV f bd e M = (f bd e M).bind vK := id rfl
@[simp] theorem vK_bl {b : Bool} : vK (.bl b) M = .ok b M := id rfl
@[simp] theorem tK_eq {d : D} : tK d M = lftB (tru M d) M := id rfl
@[simp] theorem lftB_ok {b : Bool} : lftB (some b) M = .ok b M := id rfl
@[simp] theorem tru_bl {b : Bool} : tru M (.bl b) = some b := id rfl
@[simp] theorem tru_N {a : Nat} : tru M (N a) = some (!decide (a = 0)) := by
  show some ((a : Int) != 0) = _
  by_cases h : a = 0 <;> simp [h]
@[simp] theorem tru_tup {ds : List D} : tru M (.tup ds) = some (!ds.isEmpty) := id rfl
@[simp] theorem tru_lst {ds : List D} : tru M (.lst ds) = some (!ds.isEmpty) := id rfl
def andK (g : BF) (bd : Nat) (e : Env) (k : Bool) (M1 : Mem) : R Bool := match k with | true => g bd e M1 | false => .ok false M1
def orK (g : BF) (bd : Nat) (e : Env) (k : Bool) (M1 : Mem) : R Bool := match k with | true => .ok true M1 | false => g bd e M1
def notK (k : Bool) (M1 : Mem) : R Bool := .ok (!k) M1
@[simp] theorem bAnd_eq {f g : BF} : bAnd f g bd e M = (f bd e M).bind (andK g bd e) := by unfold bAnd; congr 1; funext k M1; cases k <;> rfl
@[simp] theorem bOr_eq {f g : BF} : bOr f g bd e M = (f bd e M).bind (orK g bd e) := by unfold bOr; congr 1; funext k M1; cases k <;> rfl
@[simp] theorem bNot_eq {f : BF} : bNot f bd e M = (f bd e M).bind notK := id rfl
@[simp] theorem andK_t {g : BF} : andK g bd e true M = g bd e M := id rfl
@[simp] theorem andK_f {g : BF} : andK g bd e false M = .ok false M := id rfl
@[simp] theorem orK_t {g : BF} : orK g bd e true M = .ok true M := id rfl
@[simp] theorem orK_f {g : BF} : orK g bd e false M = g bd e M := id rfl
@[simp] theorem notK_eq {b : Bool} : notK b M = .ok (!b) M := id rfl
@[simp] theorem bYes_eq : bYes bd e M = .ok true M := id rfl
def eaK2 (g : EF) (bd : Nat) (e : Env) (d : D) (k : Bool) (M2 : Mem) : R D := match k with | true => g bd e M2 | false => .ok d M2
def eoK2 (g : EF) (bd : Nat) (e : Env) (d : D) (k : Bool) (M2 : Mem) : R D := match k with | true => .ok d M2 | false => g bd e M2
def eaK (g : EF) (bd : Nat) (e : Env) (d : D) (M1 : Mem) : R D := (lftB (tru M1 d) M1).bind (eaK2 g bd e d)
def eoK (g : EF) (bd : Nat) (e : Env) (d : D) (M1 : Mem) : R D := (lftB (tru M1 d) M1).bind (eoK2 g bd e d)
@[simp] theorem eAnd_eq {f g : EF} : eAnd f g bd e M = (f bd e M).bind (eaK g bd e) := by
  unfold eAnd eaK; congr 1; funext d M1; congr 1; funext k M2; cases k <;> rfl
@[simp] theorem eOr_eq {f g : EF} : eOr f g bd e M = (f bd e M).bind (eoK g bd e) := by
  unfold eOr eoK; congr 1; funext d M1; congr 1; funext k M2; cases k <;> rfl
@[simp] theorem eaK_eq {g : EF} {d : D} : eaK g bd e d M = (lftB (tru M d) M).bind (eaK2 g bd e d) := id rfl
@[simp] theorem eoK_eq {g : EF} {d : D} : eoK g bd e d M = (lftB (tru M d) M).bind (eoK2 g bd e d) := id rfl
@[simp] theorem eaK2_t {g : EF} {d : D} : eaK2 g bd e d true M = g bd e M := id rfl
@[simp] theorem eaK2_f {g : EF} {d : D} : eaK2 g bd e d false M = .ok d M := id rfl
@[simp] theorem eoK2_t {g : EF} {d : D} : eoK2 g bd e d true M = .ok d M := id rfl
@[simp] theorem eoK2_f {g : EF} {d : D} : eoK2 g bd e d false M = g bd e M := id rfl
def enK2 (k : Bool) (M2 : Mem) : R D := .ok (.bl (!k)) M2
def enK (d : D) (M1 : Mem) : R D := (lftB (tru M1 d) M1).bind enK2
@[simp] theorem eNot_eq {f : EF} : eNot f bd e M = (f bd e M).bind enK := id rfl
@[simp] theorem enK_eq {d : D} : enK d M = (lftB (tru M d) M).bind enK2 := id rfl
@[simp] theorem enK2_eq {b : Bool} : enK2 b M = .ok (.bl (!b)) M := id rfl
def ifK (f g : EF) (bd : Nat) (e : Env) (k : Bool) (M1 : Mem) : R D := match k with | true => f bd e M1 | false => g bd e M1
@[simp] theorem eIf_eq {c : BF} {f g : EF} : eIf c f g bd e M = (c bd e M).bind (ifK f g bd e) := by unfold eIf; congr 1; funext k M1; cases k <;> rfl
@[simp] theorem ifK_t {f g : EF} : ifK f g bd e true M = f bd e M := id rfl
@[simp] theorem ifK_f {f g : EF} : ifK f g bd e false M = g bd e M := id rfl
def chK3 (o2 : O2) (y w : D) (M4 : Mem) : R D := lft (o2 M4 y w) M4
def chK2 (o2 : O2) (h : EF) (bd : Nat) (e : Env) (y : D) (z : D) (M3 : Mem) : R D := match z with
  | .bl true => (h bd e M3).bind (chK3 o2 y)
  | .bl false => .ok (.bl false) M3
  | _ => .stuck
def chK1 (o1 o2 : O2) (h : EF) (bd : Nat) (e : Env) (x y : D) (M2 : Mem) : R D := (lft (o1 M2 x y) M2).bind (chK2 o2 h bd e y)
def chK0 (o1 o2 : O2) (g h : EF) (bd : Nat) (e : Env) (x : D) (M1 : Mem) : R D := (g bd e M1).bind (chK1 o1 o2 h bd e x)
@[simp] theorem eChain_eq {o1 o2 : O2} {f g h : EF} : eChain o1 o2 f g h bd e M = (f bd e M).bind (chK0 o1 o2 g h bd e) := by
  rfl
@[simp] theorem chK0_eq {o1 o2 : O2} {g h : EF} {x : D} : chK0 o1 o2 g h bd e x M = (g bd e M).bind (chK1 o1 o2 h bd e x) := id rfl
@[simp] theorem chK1_eq {o1 o2 : O2} {h : EF} {x y : D} : chK1 o1 o2 h bd e x y M = (lft (o1 M x y) M).bind (chK2 o2 h bd e y) := id rfl
@[simp] theorem chK2_t {o2 : O2} {h : EF} {y : D} : chK2 o2 h bd e y (.bl true) M = (h bd e M).bind (chK3 o2 y) := id rfl
@[simp] theorem chK2_f {o2 : O2} {h : EF} {y : D} : chK2 o2 h bd e y (.bl false) M = .ok (.bl false) M := id rfl
@[simp] theorem chK3_eq {o2 : O2} {y w : D} : chK3 o2 y w M = lft (o2 M y w) M := id rfl
/-! kinds -/
def isiK (ts : List Ty) (d : D) (M1 : Mem) : R D := lft ((kindOf M1 d).map fun k => .bl (ts.any (isT k))) M1
@[simp] theorem eIsi_eq {ts : List Ty} {f : EF} : eIsi ts f bd e M = (f bd e M).bind (isiK ts) := id rfl
@[simp] theorem isi_N {ts : List Ty} {a : Nat} : isiK ts (N a) M = .ok (.bl (ts.any (isT .int))) M := id rfl
@[simp] theorem isi_int {ts : List Ty} {a : Int} : isiK ts (.int a) M = .ok (.bl (ts.any (isT .int))) M := id rfl
@[simp] theorem isi_bl {ts : List Ty} {a : Bool} : isiK ts (.bl a) M = .ok (.bl (ts.any (isT .bool))) M := id rfl
@[simp] theorem isi_str {ts : List Ty} {a : Str} : isiK ts (.str a) M = .ok (.bl (ts.any (isT .str))) M := id rfl
@[simp] theorem isi_non {ts : List Ty} : isiK ts .non M = .ok (.bl (ts.any (isT .non))) M := id rfl
@[simp] theorem isi_tup {ts : List Ty} {a : List D} : isiK ts (.tup a) M = .ok (.bl (ts.any (isT .tup))) M := id rfl
@[simp] theorem isi_lst {ts : List Ty} {a : List D} : isiK ts (.lst a) M = .ok (.bl (ts.any (isT .lst))) M := id rfl
@[simp] theorem isi_scr {ts : List Ty} {a : List D} : isiK ts (.scr a) M = .ok (.bl (ts.any (isT .lst))) M := id rfl
@[simp] theorem isi_ref {ts : List Ty} {n : Nat} {ds : List D} (h : M[n]? = some (.lst ds)) : isiK ts (.ref n) M = .ok (.bl (ts.any (isT .lst))) M := by
  unfold isiK
  have : kindOf M (.ref n) = some .lst := by show (match M[n]? with | some (.lst _) => some Ty.lst | some (.dK _) => some Ty.dct | some (.dT _) => some Ty.dct | _ => none) = _; rw [h]
  rw [this]; rfl
/-! calls -/
def callK (F : Fn) (bd : Nat) (ds : List D) (M1 : Mem) : R D := F bd ds M1
@[simp] theorem eCall_eq {F : Fn} {t : AF} : eCall F t bd e M = (t bd e M).bind (F bd) := id rfl
def seqK (k : Env → Mem → Out) : Out → Out
  | .nx e' M' => k e' M'
  | r => r
@[simp] theorem sSeq_eq {f g : SF} : sSeq f g bd e M = seqK (g bd) (f bd e M) := by unfold sSeq seqK; rfl
@[simp] theorem seqK_nx {k : Env → Mem → Out} : seqK k (.nx e M) = k e M := id rfl
@[simp] theorem seqK_rt {k : Env → Mem → Out} {d : D} : seqK k (.rt d M) = .rt d M := id rfl
@[simp] theorem seqK_bk {k : Env → Mem → Out} : seqK k (.bk e M) = .bk e M := id rfl
@[simp] theorem seqK_ct {k : Env → Mem → Out} : seqK k (.ct e M) = .ct e M := id rfl
@[simp] theorem seqK_exc {k : Env → Mem → Out} {c : Str} : seqK k (.exc c e M) = .exc c e M := id rfl
@[simp] theorem sNil_eq : sNil bd e M = .nx e M := id rfl
@[simp] theorem sBk_eq : sBk bd e M = .bk e M := id rfl
@[simp] theorem sCt_eq : sCt bd e M = .ct e M := id rfl
@[simp] theorem out_ok {α : Type} {a : α} {k : α → Mem → Out} : (R.ok a M).out e k = k a M := id rfl
@[simp] theorem out_exc {α : Type} {c : Str} {k : α → Mem → Out} : (R.exc (α := α) c M).out e k = .exc c e M := id rfl
def dropK (e : Env) (_ : D) (M1 : Mem) : Out := .nx e M1
def retK (d : D) (M1 : Mem) : Out := .rt d M1
def setK (i : Nat) (e : Env) (d : D) (M1 : Mem) : Out := .nx (e.set i (some d)) M1
def set2K (i j : Nat) (e : Env) (ds : List D) (M1 : Mem) : Out := match ds with
  | [d, d2] => .nx ((e.set i (some d)).set j (some d2)) M1
  | _ => .stuck
def sifK (f g : SF) (bd : Nat) (e : Env) (k : Bool) (M1 : Mem) : Out := match k with | true => f bd e M1 | false => g bd e M1
def asgK (g : GF) (bd : Nat) (e : Env) (d : D) (M1 : Mem) : Out := gOut (g bd d e M1)
@[simp] theorem sDrop_eq {f : EF} : sDrop f bd e M = (f bd e M).out e (dropK e) := id rfl
@[simp] theorem sRet_eq {f : EF} : sRet f bd e M = (f bd e M).out e retK := id rfl
@[simp] theorem sSet_eq {i : Nat} {f : EF} : sSet i f bd e M = (f bd e M).out e (setK i e) := id rfl
@[simp] theorem sSet2_eq {i j : Nat} {t : AF} : sSet2 i j t bd e M = (t bd e M).out e (set2K i j e) := id rfl
@[simp] theorem sIf_eq {c : BF} {f g : SF} : sIf c f g bd e M = (c bd e M).out e (sifK f g bd e) := by unfold sIf; congr 1; funext k M1; cases k <;> rfl
@[simp] theorem sAsg_eq {f : EF} {g : GF} : sAsg f g bd e M = (f bd e M).out e (asgK g bd e) := id rfl
@[simp] theorem sRaise_eq {c : Str} : sRaise c bd e M = .exc c e M := id rfl
@[simp] theorem sRetN_eq : sRetN bd e M = .rt .non M := id rfl
@[simp] theorem dropK_eq {d : D} : dropK e d M = .nx e M := id rfl
@[simp] theorem retK_eq {d : D} : retK d M = .rt d M := id rfl
@[simp] theorem setK_eq {i : Nat} {d : D} : setK i e d M = .nx (e.set i (some d)) M := id rfl
@[simp] theorem set2K_eq {i j : Nat} {d d2 : D} : set2K i j e [d, d2] M = .nx ((e.set i (some d)).set j (some d2)) M := id rfl
@[simp] theorem sifK_t {f g : SF} : sifK f g bd e true M = f bd e M := id rfl
@[simp] theorem sifK_f {f g : SF} : sifK f g bd e false M = g bd e M := id rfl
@[simp] theorem asgK_eq {g : GF} {d : D} : asgK g bd e d M = gOut (g bd d e M) := id rfl
@[simp] theorem gOut_ok : gOut (.ok e M) = .nx e M := id rfl
@[simp] theorem gNm_eq {i : Nat} {d : D} : gNm i bd d e M = .ok (e.set i (some d)) M := id rfl
@[simp] theorem gTp_tup {n : Nat} {t : GFs} {ds : List D} (h : ds.length = n) : gTp n t bd (.tup ds) e M = t bd ds e M := if_pos h
@[simp] theorem gsNil_eq : gsNil bd [] e M = .ok e M := id rfl
def gsK (t : GFs) (bd : Nat) (r : List D) (e : Env) (M : Mem) : R Env := t bd r e M
@[simp] theorem gsCons_eq {f : GF} {t : GFs} {d : D} {r : List D} : gsCons f t bd (d :: r) e M = (f bd d e M).bind (gsK t bd r) := id rfl
@[simp] theorem gsK_eq {t : GFs} {r : List D} : gsK t bd r e M = t bd r e M := id rfl
def augK (i : Nat) (op : O2) (e : Env) (x y : D) (M1 : Mem) : Out := match op M1 x y with
  | some d => .nx (e.set i (some d)) M1
  | none => .stuck
def augX (i : Nat) (op : O2) (f : EF) (bd : Nat) (e : Env) (M : Mem) : Option (Option D) → Out
  | some (some x) => (f bd e M).out e (augK i op e x)
  | _ => .stuck
@[simp] theorem sAug_eq {i : Nat} {op : O2} {f : EF} : sAug i op f bd e M = augX i op f bd e M e[i]? := by
  unfold sAug augX
  cases e[i]? with
  | none => rfl
  | some o => cases o <;> rfl
@[simp] theorem augX_some {i : Nat} {op : O2} {f : EF} {x : D} : augX i op f bd e M (some (some x)) = (f bd e M).out e (augK i op e x) := id rfl
def augR (i : Nat) (e : Env) (M : Mem) : Option D → Out
  | some d => .nx (e.set i (some d)) M
  | none => .stuck
@[simp] theorem augK_eq {i : Nat} {op : O2} {x y : D} : augK i op e x y M = augR i e M (op M x y) := by unfold augK augR; cases op M x y <;> rfl
@[simp] theorem augR_some {i : Nat} {d : D} : augR i e M (some d) = .nx (e.set i (some d)) M := id rfl
/-! functions -/
def popF (M M' : Mem) : Option D → R D
  | some d => .ok d (M'.take M.length)
  | none => .stuck
def popK (M : Mem) : Out → R D
  | .nx _ M' => .ok .non (M'.take M.length)
  | .rt d M' => popF M M' (frz 40 M.length M' d)
  | .exc c _ M' => .exc c (M'.take M.length)
  | _ => .stuck
@[simp] theorem fnPop_eq {np nN : Nat} {B : SF} {ds : List D} (h : ds.length = np) : fnPop np nN B bd ds M = popK M (B M.length (startE nN ds) M) := by
  unfold fnPop
  rw [if_pos h]
  rfl
@[simp] theorem popK_rt {M' : Mem} {d : D} : popK M (.rt d M') = popF M M' (frz 40 M.length M' d) := id rfl
@[simp] theorem popK_nx {M' : Mem} : popK M (.nx e M') = .ok .non (M'.take M.length) := id rfl
@[simp] theorem popK_exc {M' : Mem} {c : Str} : popK M (.exc c e M') = .exc c (M'.take M.length) := id rfl
@[simp] theorem popF_some {M' : Mem} {d : D} : popF M M' (some d) = .ok d (M'.take M.length) := id rfl
def keepK : Out → R D
  | .nx _ M' => .ok .non M'
  | .rt d M' => .ok d M'
  | .exc c _ M' => .exc c M'
  | _ => .stuck
@[simp] theorem fnKeep_eq {np nN : Nat} {B : SF} {ds : List D} (h : ds.length = np) : fnKeep np nN B bd ds M = keepK (B bd (startE nN ds) M) := by
  unfold fnKeep
  rw [if_pos h]
  rfl
@[simp] theorem keepK_rt {d : D} : keepK (.rt d M) = .ok d M := id rfl
@[simp] theorem keepK_nx : keepK (.nx e M) = .ok .non M := id rfl
theorem frz_flat {n k : Nat} {d : D} (h : d.flat = true) : frz n k M d = some d := by
  have := flat_ub k h
  cases n <;> (unfold frz; rw [if_pos this])
@[simp] theorem flat_N (a : Nat) : (N a).flat = true := id rfl
@[simp] theorem flatL_N (ns : List Nat) : flatL (ns.map N) = true := by
  induction ns with
  | nil => rfl
  | cons n ns ih => show ((N n).flat && flatL (ns.map N)) = true; rw [ih]; rfl
theorem flatL_map {α : Type} {f : α → D} {xs : List α} (h : ∀ x ∈ xs, (f x).flat = true) : flatL (xs.map f) = true := by
  induction xs with
  | nil => rfl
  | cons n ns ih => show ((f n).flat && flatL (ns.map f)) = true; rw [ih fun x hx => h x (List.mem_cons_of_mem _ hx), h n (List.mem_cons_self ..)]; rfl
theorem flatL_all {ds : List D} (h : ∀ x ∈ ds, x.flat = true) : flatL ds = true := by
  induction ds with
  | nil => rfl
  | cons n ns ih => show (n.flat && flatL ns) = true; rw [ih fun x hx => h x (List.mem_cons_of_mem _ hx), h n (List.mem_cons_self ..)]; rfl
@[simp] theorem flat_bl {b : Bool} : (D.bl b).flat = true := id rfl
@[simp] theorem flat_int {b : Int} : (D.int b).flat = true := id rfl
@[simp] theorem flat_str {b : Str} : (D.str b).flat = true := id rfl
@[simp] theorem flat_non : D.non.flat = true := id rfl
@[simp] theorem flat_tup {ds : List D} : (D.tup ds).flat = flatL ds := id rfl
@[simp] theorem flat_lst {ds : List D} : (D.lst ds).flat = flatL ds := id rfl
@[simp] theorem flat_cst {ds : List D} : (D.cst ds).flat = flatL ds := id rfl
@[simp] theorem flat_scr {ds : List D} : (D.scr ds).flat = flatL ds := id rfl
@[simp] theorem flatL_nil : flatL [] = true := id rfl
@[simp] theorem flatL_cons {d : D} {ds : List D} : flatL (d :: ds) = (d.flat && flatL ds) := id rfl
@[simp] theorem startE_eq {n : Nat} {ds : List D} : startE n ds = ds.map some ++ List.replicate (n - ds.length) none := id rfl
@[simp] theorem frz_f {n k : Nat} {d : D} (h : d.flat = true) : frz n k M d = some d := frz_flat h
end
end Sh
set_option Elab.async false
set_option linter.all false
set_option maxRecDepth 100000
set_option maxHeartbeats 4000000
/-! Pl1: loops, comprehensions. -/
namespace Sh
open PySem PySem.Spec PyProof.Rows L2
section
variable {bd : Nat} {e : Env} {M : Mem}
/-! iterators -/
def sqK (d : D) (M1 : Mem) : R Src := match tupOf d with
  | some ds => .ok (fun _ => some ds) M1
  | none => if (lstOf M1 d).isSome = true then .ok (fun M => lstOf M d) M1 else .stuck
@[simp] theorem iSq_eq {f : EF} : iSq f bd e M = (f bd e M).bind sqK := id rfl
@[simp] theorem sqK_tup {ds : List D} : sqK (.tup ds) M = .ok (fun _ => some ds) M := id rfl
@[simp] theorem sqK_cst {ds : List D} : sqK (.cst ds) M = .ok (fun _ => some ds) M := id rfl
@[simp] theorem sqK_lst {ds : List D} : sqK (.lst ds) M = .ok (fun _ => some ds) M := id rfl
@[simp] theorem sqK_scr {ds : List D} : sqK (.scr ds) M = .ok (fun _ => some ds) M := id rfl
theorem sqK_ref {n : Nat} {ds : List D} (h : M[n]? = some (.lst ds)) : sqK (.ref n) M = .ok (fun M => lstOf M (.ref n)) M := by
  show (if (lstOf M (.ref n)).isSome = true then _ else _) = _
  rw [lstOf_ref h]; rfl
theorem ups_0 (n : Nat) : ups 0 n = (List.range n).map N := by
  unfold ups; refine List.map_congr_left fun i _ => ?_
  show D.int (0 + (i : Int)) = D.int i
  rw [Int.zero_add]
theorem ups_N (a n : Nat) : ups (a : Int) n = (List.range' a n).map N := by
  unfold ups
  rw [List.range'_eq_map_range, List.map_map]
  refine List.map_congr_left fun i _ => ?_
  show D.int ((a : Int) + (i : Int)) = D.int ((a + i : Nat) : Int)
  rw [Int.natCast_add]
def rg1K (ds : List D) (M1 : Mem) : R Src := match ds with
  | [.int j] => if small j = true then .ok (fun _ => some (ups 0 j.toNat)) M1 else .stuck
  | _ => .stuck
def rg2K (ds : List D) (M1 : Mem) : R Src := match ds with
  | [.int i, .int j] => if (small i && small j) = true then .ok (fun _ => some (ups i (j - i).toNat)) M1 else .stuck
  | _ => .stuck
@[simp] theorem iRg1_eq {t : AF} : iRg1 t bd e M = (t bd e M).bind rg1K := id rfl
@[simp] theorem iRg2_eq {t : AF} : iRg2 t bd e M = (t bd e M).bind rg2K := id rfl
theorem small_N {n : Nat} (h : n < 4611686018427387904) : small (n : Int) = true := by unfold small; simp; omega
@[simp] theorem rg1K_N {n : Nat} (h : n < 4611686018427387904) : rg1K [N n] M = .ok (fun _ => some ((List.range n).map N)) M := by
  unfold rg1K
  conv => lhs; unfold N
  simp only
  rw [if_pos (small_N h), Int.toNat_natCast, ups_0]
@[simp] theorem rg2K_N {a n : Nat} (h : a < 4611686018427387904) (h2 : n < 4611686018427387904) : rg2K [N a, N n] M = .ok (fun _ => some ((List.range' a (n - a)).map N)) M := by
  unfold rg2K
  conv => lhs; unfold N
  simp only
  rw [if_pos (by rw [small_N h, small_N h2]; rfl), ← ups_N]
  have : ((n : Int) - a).toNat = n - a := by omega
  rw [this]
def enuK (ds : List D) (M1 : Mem) : R Src := match ds with
  | [d] => if (lstOf M1 d).isSome = true then .ok (fun M => (lstOf M d).map enumD) M1 else .stuck
  | _ => .stuck
@[simp] theorem iEnu_eq {t : AF} : iEnu t bd e M = (t bd e M).bind enuK := id rfl
@[simp] theorem enuK_lst {ds : List D} : enuK [.lst ds] M = .ok (fun _ => some (enumD ds)) M := id rfl
@[simp] theorem enuK_scr {ds : List D} : enuK [.scr ds] M = .ok (fun _ => some (enumD ds)) M := id rfl
@[simp] theorem iZz_ll {t : AF} {xs ys : List D} {M' : Mem} (h : t bd e M = .ok [.lst xs, .lst ys] M') : iZz t bd e M = .ok (fun _ => some (zipD xs ys)) M' := by
  unfold iZz iZp
  rw [h]; rfl
@[simp] theorem iZz_tt {t : AF} {xs ys : List D} {M' : Mem} (h : t bd e M = .ok [.tup xs, .tup ys] M') : iZz t bd e M = .ok (fun _ => some (zipD xs ys)) M' := by
  unfold iZz iZp
  rw [h]; rfl
theorem iZz_lt {t : AF} {xs ys : List D} {M' : Mem} (h : t bd e M = .ok [.lst xs, .tup ys] M') : iZz t bd e M = .ok (fun _ => some (zipD xs ys)) M' := by
  unfold iZz iZp
  rw [h]
  show iZq t bd e M = _
  unfold iZq
  rw [h]; rfl
/-! comprehensions -/
def lcE (acc : List D) (M2 : Mem) : R D := .ok (.lst acc) M2
def lcK (vs : List Nat) (tg : GF) (c : BF) (f : EF) (bd : Nat) (e : Env) (src : Src) (M1 : Mem) : R D := (hush (runS (lcBody bd (wipeE e vs) tg c f) src [] M1)).bind lcE
@[simp] theorem eLc_eq {it : IF} {vs : List Nat} {tg : GF} {c : BF} {f : EF} : eLc it vs tg c f bd e M = (it bd e M).bind (lcK vs tg c f bd e) := id rfl
@[simp] theorem lcK_eq {vs : List Nat} {tg : GF} {c : BF} {f : EF} {src : Src} : lcK vs tg c f bd e src M = (hush (runS (lcBody bd (wipeE e vs) tg c f) src [] M)).bind lcE := id rfl
@[simp] theorem lcE_eq {acc : List D} : lcE acc M = .ok (.lst acc) M := id rfl
@[simp] theorem hush_ok {α : Type} {a : α} : hush (.ok a M) = .ok a M := id rfl
@[simp] theorem wipeE_nil : wipeE e [] = e := id rfl
@[simp] theorem wipeE_cons {v : Nat} {vs : List Nat} : wipeE e (v :: vs) = (wipeE e vs).set v none := id rfl
/-- one turn of a comprehension that leaves the memory -/
structure TurnP (tg : GF) (c : BF) (f : EF) (bd : Nat) (e0 : Env) (M : Mem) (d : D) (p : Bool) (y : D) : Prop where
  go : ∃ e2, tg bd d e0 M = .ok e2 M ∧ c bd e2 M = .ok p M ∧ (p = true → f bd e2 M = .ok y M)
theorem goS_lc {α : Type} {tg : GF} {c : BF} {f : EF} {e0 : Env} {φ : α → D} {p : α → Bool} {h : α → D} (xs : List α)
    (hb : ∀ x ∈ xs, TurnP tg c f bd e0 M (φ x) (p x) (h x)) (hl : xs.length ≤ 16777216) : ∀ (n i : Nat) (acc : List D), n = xs.length - i + 1 → acc = ((xs.take i).filter p).map h → i ≤ xs.length →
    goS (lcBody bd e0 tg c f) (fun _ => some (xs.map φ)) n i acc M = .ok ((xs.filter p).map h) M := by
  intro n
  induction n with
  | zero => intro i acc e1; omega
  | succ n ih =>
    intro i acc e1 e2 hi
    unfold goS
    simp only
    by_cases hx : i < xs.length
    · have hg : (xs.map φ)[i]? = some (φ xs[i]) := by simp [hx]
      rw [hg]
      simp only
      obtain ⟨e3, t1, t2, t3⟩ := (hb xs[i] (List.getElem_mem hx)).go
      have ht : xs.take (i + 1) = xs.take i ++ [xs[i]] := by rw [List.take_succ]; simp [hx]
      unfold lcBody turnB
      rw [t1, R.bind_ok, t2, R.bind_ok]
      cases q : p xs[i] with
      | false =>
        simp only [Bool.false_eq_true, if_false, R.bind_ok]
        refine ih (i + 1) acc (by omega) ?_ (by omega)
        rw [ht, List.filter_append, e2]
        simp [q]
      | true =>
        simp only [if_true]
        rw [t3 q, R.bind_ok, if_pos, R.bind_ok]
        · refine ih (i + 1) _ (by omega) ?_ (by omega)
          rw [ht, List.filter_append, e2]
          simp [q]
        · rw [e2, List.length_map]
          have := List.length_filter_le p (xs.take i)
          rw [List.length_take] at this
          omega
    · have hg : (xs.map φ)[i]? = none := by simp; omega
      rw [hg]
      simp only
      rw [e2, List.take_of_length_le (by omega)]
theorem run_lc {α : Type} {tg : GF} {c : BF} {f : EF} {e0 : Env} {φ : α → D} (xs : List α) (p : α → Bool) (h : α → D) (hl : xs.length ≤ 16777216)
    (hb : ∀ x ∈ xs, TurnP tg c f bd e0 M (φ x) (p x) (h x)) :
    runS (lcBody bd e0 tg c f) (fun _ => some (xs.map φ)) [] M = .ok ((xs.filter p).map h) M := by
  unfold runS
  simp only
  exact goS_lc xs hb hl _ 0 [] (by simp) rfl (by omega)
theorem run_map {α : Type} {tg : GF} {f : EF} {e0 : Env} {φ : α → D} (xs : List α) (h : α → D) (hl : xs.length ≤ 16777216)
    (hb : ∀ x ∈ xs, TurnP tg bYes f bd e0 M (φ x) true (h x)) :
    runS (lcBody bd e0 tg bYes f) (fun _ => some (xs.map φ)) [] M = .ok (xs.map h) M := by
  rw [run_lc xs (fun _ => true) h hl hb]
  congr 2
  exact List.filter_eq_self.mpr fun _ _ => rfl
theorem run_ix {tg : GF} {f : EF} {e0 : Env} (ds ys : List D) (hn : ds.length = ys.length) (hl : ds.length ≤ 16777216)
    (hb : ∀ (i : Nat) (d y : D), ds[i]? = some d → ys[i]? = some y → TurnP tg bYes f bd e0 M d true y) :
    runS (lcBody bd e0 tg bYes f) (fun _ => some ds) [] M = .ok ys M := by
  have h := run_map (bd := bd) (M := M) (tg := tg) (f := f) (e0 := e0) (φ := Prod.fst) (ds.zip ys) Prod.snd (by rw [List.length_zip]; omega) (fun x hx => by
    obtain ⟨i, hi, rfl⟩ := List.mem_iff_getElem.mp hx
    rw [List.getElem_zip]
    rw [List.length_zip] at hi
    exact hb i _ _ (List.getElem?_eq_getElem (by omega)) (List.getElem?_eq_getElem (by omega)))
  rw [List.map_fst_zip (by omega), List.map_snd_zip (by omega)] at h
  exact h
@[simp] theorem cAll_rep {n : Nat} : cAll M [.lst (List.replicate n (.bl true))] = some (.bl true) := by
  have : List.replicate n (D.bl true) = (List.replicate n true).map D.bl := by simp
  rw [this, cAll_map]; simp
@[simp] theorem cAll_one {α : Type} {xs : List α} : cAll M [.lst (xs.map fun _ => .bl true)] = some (.bl true) := by
  rw [List.map_const']; exact cAll_rep
theorem rg1_sub {a : Nat} (h : a ≤ 16777216) : rg1K [.int ((a : Int) - 1)] M = .ok (fun _ => some ((List.range (a - 1)).map N)) M := by
  unfold rg1K
  simp only
  rw [if_pos (by unfold small; simp; omega), ← ups_0]
  have : ((a : Int) - 1).toNat = a - 1 := by omega
  rw [this]
/-! for -/
def forG (tg : GF) (body : SF) (bd : Nat) (e : Env) (src : Src) (M1 : Mem) : Option (List D) → Out
  | none => .stuck
  | some ds => loopF tg body src (ds.length + 1) 0 bd e M1
def forK (tg : GF) (body : SF) (bd : Nat) (e : Env) (src : Src) (M1 : Mem) : Out := forG tg body bd e src M1 (src M1)
@[simp] theorem sFor_eq {it : IF} {tg : GF} {body : SF} : sFor it tg body bd e M = (it bd e M).out e (forK tg body bd e) := by
  unfold sFor; congr 1
@[simp] theorem forK_eq {tg : GF} {body : SF} {src : Src} : forK tg body bd e src M = forG tg body bd e src M (src M) := id rfl
@[simp] theorem forG_some {tg : GF} {body : SF} {src : Src} {ds : List D} : forG tg body bd e src M (some ds) = loopF tg body src (ds.length + 1) 0 bd e M := id rfl
theorem loop_sat {tg : GF} {body : SF} {ds : List D} {I : Nat → KE} {nx b c : KE} {r : D → Mem → Prop} {x : Str → KE}
    (hs : ∀ i d e M, ds[i]? = some d → I i e M → ∃ e2 M2, tg bd d e M = .ok e2 M2 ∧ SatO (body bd e2 M2) (I (i + 1)) r nx (I (i + 1)) x)
    (hn : ∀ e M, I ds.length e M → nx e M) : ∀ (n i : Nat) (e : Env) (M : Mem), n = ds.length - i + 1 → i ≤ ds.length → I i e M → SatO (loopF tg body (fun _ => some ds) n i bd e M) nx r b c x := by
  intro n
  induction n with
  | zero => intro i e M e1; omega
  | succ n ih =>
    intro i e M e1 hi hI
    unfold loopF
    simp only
    by_cases hx : i < ds.length
    · rw [List.getElem?_eq_getElem hx]
      simp only
      obtain ⟨e2, M2, t1, t2⟩ := hs i _ e M (List.getElem?_eq_getElem hx) hI
      rw [t1]
      simp only
      revert t2
      cases body bd e2 M2 with
      | nx e3 M3 => exact fun t2 => ih (i + 1) e3 M3 (by omega) (by omega) t2
      | ct e3 M3 => exact fun t2 => ih (i + 1) e3 M3 (by omega) (by omega) t2
      | bk e3 M3 => exact fun t2 => t2
      | rt d M3 => exact fun t2 => t2
      | exc c e3 M3 => exact fun t2 => t2
      | stuck => exact fun t2 => t2
    · rw [List.getElem?_eq_none (by omega)]
      simp only
      have : i = ds.length := by omega
      subst this
      exact hn e M hI
def no2 : KE := fun _ _ => False
def noD : D → Mem → Prop := fun _ _ => False
def noX : Str → KE := fun _ _ _ => False
theorem SatO.nx_ {o : Out} {n : KE} (h : SatO o n noD no2 no2 noX) : ∃ e M, o = .nx e M ∧ n e M := by
  cases o with
  | nx e M => exact ⟨e, M, rfl, h⟩
  | _ => exact h.elim
theorem SatO.rt_ {o : Out} {r : D → Mem → Prop} (h : SatO o no2 r no2 no2 noX) : ∃ d M, o = .rt d M ∧ r d M := by
  cases o with
  | rt e M => exact ⟨e, M, rfl, h⟩
  | _ => exact h.elim
theorem SatO.of_nx {o : Out} {n b c : KE} {r : D → Mem → Prop} {x : Str → KE} {e : Env} {M : Mem} (h : o = .nx e M) (k : n e M) : SatO o n r b c x := by rw [h]; exact k
theorem SatO.of_bk {o : Out} {n b c : KE} {r : D → Mem → Prop} {x : Str → KE} {e : Env} {M : Mem} (h : o = .bk e M) (k : b e M) : SatO o n r b c x := by rw [h]; exact k
theorem SatO.of_ct {o : Out} {n b c : KE} {r : D → Mem → Prop} {x : Str → KE} {e : Env} {M : Mem} (h : o = .ct e M) (k : c e M) : SatO o n r b c x := by rw [h]; exact k
/-- for x in xs, by a relation that each turn keeps -/
theorem for_xs {α : Type} {tg : GF} {body : SF} {φ : α → D} (xs : List α) (I : Nat → KE) (h0 : I 0 e M)
    (hs : ∀ i x e M, xs[i]? = some x → I i e M → ∃ e2 M2 e3 M3, tg bd (φ x) e M = .ok e2 M2 ∧ body bd e2 M2 = .nx e3 M3 ∧ I (i + 1) e3 M3) :
    ∃ e' M', loopF tg body (fun _ => some (xs.map φ)) (xs.length + 1) 0 bd e M = .nx e' M' ∧ I xs.length e' M' := by
  have := loop_sat (tg := tg) (body := body) (bd := bd) (ds := xs.map φ) (I := I) (nx := I xs.length) (b := no2) (c := no2) (r := noD) (x := noX)
    (fun i d e M hd hI => by
      rw [List.getElem?_map] at hd
      obtain ⟨x, hx, rfl⟩ := Option.map_eq_some_iff.mp hd
      obtain ⟨e2, M2, e3, M3, h1, h2, h3⟩ := hs i x e M hx hI
      exact ⟨e2, M2, h1, SatO.of_nx h2 h3⟩) (fun e M h => by rw [List.length_map] at h; exact h) (xs.length + 1) 0 e M (by rw [List.length_map]; omega) (by omega) h0
  exact this.nx_
theorem for_range {tg : GF} {body : SF} (n : Nat) (I : Nat → KE) (h0 : I 0 e M)
    (hs : ∀ i e M, i < n → I i e M → ∃ e2 M2 e3 M3, tg bd (N i) e M = .ok e2 M2 ∧ body bd e2 M2 = .nx e3 M3 ∧ I (i + 1) e3 M3) :
    ∃ e' M', loopF tg body (fun _ => some ((List.range n).map N)) (n + 1) 0 bd e M = .nx e' M' ∧ I n e' M' := by
  have := for_xs (tg := tg) (body := body) (φ := N) (List.range n) I h0 (fun i x e M hx hI => by
    obtain ⟨hl, hx⟩ := List.getElem?_eq_some_iff.mp hx
    rw [List.getElem_range] at hx
    subst hx
    exact hs _ e M (by simpa using hl) hI)
  rw [List.length_range] at this
  exact this
/-- with break -/
theorem for_rangeB {tg : GF} {body : SF} (n : Nat) (I : Nat → KE) (Z : KE) (h0 : I 0 e M)
    (hs : ∀ i e M, i < n → I i e M → ∃ e2 M2, tg bd (N i) e M = .ok e2 M2 ∧ ((∃ e3 M3, body bd e2 M2 = .nx e3 M3 ∧ I (i + 1) e3 M3) ∨ ∃ e3 M3, body bd e2 M2 = .bk e3 M3 ∧ Z e3 M3)) (hn : ∀ e M, I n e M → Z e M) :
    ∃ e' M', loopF tg body (fun _ => some ((List.range n).map N)) (n + 1) 0 bd e M = .nx e' M' ∧ Z e' M' := by
  have := loop_sat (tg := tg) (body := body) (bd := bd) (ds := (List.range n).map N) (I := I) (nx := Z) (b := no2) (c := no2) (r := noD) (x := noX)
    (fun i d e M hd hI => by
      rw [List.getElem?_map] at hd
      obtain ⟨x, hx, rfl⟩ := Option.map_eq_some_iff.mp hd
      obtain ⟨hl, hx⟩ := List.getElem?_eq_some_iff.mp hx
      rw [List.getElem_range] at hx
      subst hx
      obtain ⟨e2, M2, h1, h2⟩ := hs _ e M (by simpa using hl) hI
      refine ⟨e2, M2, h1, ?_⟩
      rcases h2 with ⟨e3, M3, h2, h3⟩ | ⟨e3, M3, h2, h3⟩
      · exact SatO.of_nx h2 h3
      · exact SatO.of_bk h2 h3) (fun e M h => hn e M (by simpa using h)) (n + 1) 0 e M (by simp) (by omega) h0
  exact this.nx_
/-! while -/
@[simp] theorem sWhile_eq {c : BF} {body : SF} : sWhile c body bd e M = loopW c body turns bd e M := id rfl
theorem while_eq {c : BF} {body : SF} (I : Nat → KE) (Z : KE)
    (hs : ∀ k e M, I k e M → (c bd e M = .ok false M ∧ Z e M) ∨ (c bd e M = .ok true M ∧ ∃ e2 M2 k', body bd e M = .nx e2 M2 ∧ k' < k ∧ I k' e2 M2)) :
    ∀ (k n : Nat) (e : Env) (M : Mem), k < n → I k e M → ∃ e' M', loopW c body n bd e M = .nx e' M' ∧ Z e' M' := by
  intro k
  induction k using Nat.strongRecOn with
  | ind k ih =>
    intro n e M hn hI
    cases n with
    | zero => omega
    | succ n =>
      unfold loopW
      rcases hs k e M hI with ⟨h1, h2⟩ | ⟨h1, e2, M2, k', h2, h3, h4⟩
      · rw [h1]
        exact ⟨e, M, rfl, h2⟩
      · rw [h1]
        simp only [R.out, if_true]
        rw [h2]
        exact ih k' h3 n e2 M2 (by omega) h4
end
end Sh
set_option Elab.async false
set_option linter.all false
set_option maxRecDepth 100000
set_option maxHeartbeats 4000000
/-! Pl2: sorting, dicts. -/
namespace Sh
open PySem PySem.Spec PyProof.Rows L2
def insN (x : Nat) : List Nat → List Nat
  | [] => [x]
  | y :: r => if x ≤ y then x :: y :: r else y :: insN x r
def srtN : List Nat → List Nat
  | [] => []
  | x :: r => insN x (srtN r)
theorem insI_N (x : Nat) : ∀ l : List Nat, insI (Int.ofNat x) (l.map Int.ofNat) = (insN x l).map Int.ofNat
  | [] => rfl
  | y :: r => by
    show (if Int.ofNat x ≤ Int.ofNat y then _ else _) = List.map Int.ofNat (if x ≤ y then _ else _)
    by_cases h : x ≤ y
    · rw [if_pos h, if_pos (show Int.ofNat x ≤ Int.ofNat y from Int.ofNat_le.mpr h)]; rfl
    · rw [if_neg h, if_neg (show ¬ Int.ofNat x ≤ Int.ofNat y from fun q => h (Int.ofNat_le.mp q)), insI_N x r]; rfl
theorem srtI_N : ∀ l : List Nat, srtI (l.map Int.ofNat) = (srtN l).map Int.ofNat
  | [] => rfl
  | x :: r => by show insI (Int.ofNat x) (srtI (r.map Int.ofNat)) = _; rw [srtI_N r, insI_N]; rfl
theorem insN_perm (x : Nat) : ∀ l, (insN x l).Perm (x :: l)
  | [] => .refl _
  | y :: r => by
    unfold insN
    by_cases h : x ≤ y
    · rw [if_pos h]
    · rw [if_neg h]; exact ((insN_perm x r).cons y).trans (.swap x y r)
theorem srtN_perm : ∀ l, (srtN l).Perm l
  | [] => .refl _
  | x :: r => (insN_perm x _).trans ((srtN_perm r).cons x)
theorem insN_sorted {x : Nat} : ∀ {l : List Nat}, l.Pairwise (· ≤ ·) → (insN x l).Pairwise (· ≤ ·)
  | [], _ => by simp [insN]
  | y :: r, h => by
    unfold insN
    have h1 := List.pairwise_cons.mp h
    by_cases q : x ≤ y
    · rw [if_pos q]
      refine List.pairwise_cons.mpr ⟨fun z hz => ?_, h⟩
      rcases List.mem_cons.mp hz with rfl | hz
      · exact q
      · exact Nat.le_trans q (h1.1 z hz)
    · rw [if_neg q]
      refine List.pairwise_cons.mpr ⟨fun z hz => ?_, insN_sorted h1.2⟩
      rcases List.mem_cons.mp ((insN_perm x r).mem_iff.mp hz) with rfl | hz
      · omega
      · exact h1.1 z hz
theorem srtN_sorted : ∀ l, (srtN l).Pairwise (· ≤ ·)
  | [] => .nil
  | x :: r => insN_sorted (srtN_sorted r)
theorem insN_min {x : Nat} {l : List Nat} (h : ∀ y ∈ l, x ≤ y) : insN x l = x :: l := by
  cases l with
  | nil => rfl
  | cons y r => unfold insN; rw [if_pos (h y (List.mem_cons_self ..))]
theorem srtN_self : ∀ {l : List Nat}, l.Pairwise (· ≤ ·) → srtN l = l
  | [], _ => rfl
  | x :: r, h => by
    have h1 := List.pairwise_cons.mp h
    unfold srtN; rw [srtN_self h1.2]; exact insN_min h1.1
theorem srtN_asc {l : List Nat} (h : l.Nodup) : (srtN l).Pairwise (· < ·) := by
  have h1 := srtN_sorted l
  have h2 : (srtN l).Nodup := (srtN_perm l).nodup_iff.mpr h
  exact List.pairwise_iff_getElem.mpr fun i j hi hj hij => by
    have a := List.pairwise_iff_getElem.mp h1 i j hi hj hij
    have b := List.pairwise_iff_getElem.mp h2 i j hi hj hij
    omega
section
variable {bd : Nat} {e : Env} {M : Mem}
theorem lSort_N {d : D} {xs : List Nat} (h : seqOf M d = some (xs.map N)) : lSort M [d] = some ((srtN xs).map N) := by
  unfold lSort
  simp only
  rw [h]
  simp only
  rw [intsOf_N]
  simp only
  rw [srtI_N, map_N]
@[simp] theorem lSort_T {xs : List Nat} : lSort M [.tup (xs.map N)] = some ((srtN xs).map N) := lSort_N rfl
@[simp] theorem lSort_L {xs : List Nat} : lSort M [.lst (xs.map N)] = some ((srtN xs).map N) := lSort_N rfl
theorem keysI_N : ∀ {kvs : List (Key × D)} {ks : List Nat}, kvs.map (·.1) = ks.map (fun k => Sum.inl ((k : Nat) : Int)) → keysI kvs = some (ks.map Int.ofNat)
  | [], [], _ => rfl
  | [], _ :: _, h => by cases h
  | _ :: _, [], h => by cases h
  | (k, v) :: r, x :: ks, h => by
    simp only [List.map_cons, List.cons.injEq] at h
    obtain ⟨h1, h2⟩ := h
    subst h1
    show (keysI r).map (fun l => Int.ofNat x :: l) = _
    rw [keysI_N h2]; rfl
theorem lSort_dK {n : Nat} {kvs : List (Key × D)} {ks : List Nat} (h : M[n]? = some (.dK kvs)) (hk : kvs.map (·.1) = ks.map (fun k => Sum.inl ((k : Nat) : Int))) (hl : kvs.length ≤ 16777216) :
    lSort M [.ref n] = some ((srtN ks).map N) := by
  have h0 : seqOf M (.ref n) = none := by show (match M[n]? with | some (.lst ds) => some ds | _ => none) = _; rw [h]
  unfold lSort
  simp only
  rw [h0]
  simp only
  rw [h]
  simp only
  rw [if_pos hl, keysI_N hk, Option.map_some, srtI_N, map_N]
/-! dicts -/
@[simp] theorem kOf_N {a : Nat} : kOf (N a) = some (.inl (a : Int)) := id rfl
theorem dGet_dK {n : Nat} {kvs : List (Key × D)} {a : Nat} (h : M[n]? = some (.dK kvs)) : dGet M n (N a) = some (getK kvs (.inl (a : Int))) := by
  unfold dGet; rw [h]; rfl
theorem inB_dK {n : Nat} {kvs : List (Key × D)} {a : Nat} (h : M[n]? = some (.dK kvs)) : oIn M (N a) (.ref n) = some (.bl (getK kvs (.inl (a : Int))).isSome) := by
  have h0 : seqOf M (.ref n) = none := by show (match M[n]? with | some (.lst ds) => some ds | _ => none) = _; rw [h]
  unfold oIn inB
  rw [h0]
  simp only
  rw [dGet_dK h]; rfl
theorem oIx_dK {n : Nat} {kvs : List (Key × D)} {a : Nat} (h : M[n]? = some (.dK kvs)) : oIx M (.ref n) (N a) = getK kvs (.inl (a : Int)) := by
  have h0 : seqOf M (.ref n) = none := by show (match M[n]? with | some (.lst ds) => some ds | _ => none) = _; rw [h]
  show (match seqOf M (.ref n) with
    | some ds => atI ds (a : Int)
    | none => (dGet M n (N a)).bind id) = _
  rw [h0]
  simp only
  rw [dGet_dK h]; rfl
theorem getK_nil {k : Key} : getK ([] : List (Key × D)) k = none := rfl
theorem getK_put (kvs : List (Key × D)) (k j : Key) (v : D) : getK (putD kvs k v) j = if k = j then some v else getK kvs j := by
  unfold putD
  by_cases h : (kvs.any fun kv => decide (kv.1 = k)) = true
  · rw [if_pos h]
    have hm : ∃ x ∈ kvs, x.1 = k := by simpa using h
    clear h
    induction kvs with
    | nil => simp at hm
    | cons p r ih =>
      unfold getK
      rw [List.map_cons]
      by_cases q : p.1 = k
      · rw [if_pos q]
        by_cases kj : k = j
        · subst kj; rw [List.find?_cons_of_pos (by simp [q]), if_pos rfl]; rfl
        · rw [List.find?_cons_of_neg (by simp [q, kj]), List.find?_cons_of_neg (by simp [q, kj]), if_neg kj]
          by_cases hr : ∃ x ∈ r, x.1 = k
          · have := ih hr; rw [if_neg kj] at this; exact this
          · congr 2
            conv => rhs; rw [← List.map_id r]
            refine List.map_congr_left fun x hx => ?_
            rw [if_neg (fun q => hr ⟨x, hx, q⟩)]; rfl
      · rw [if_neg q]
        have hr : ∃ x ∈ r, x.1 = k := by
          obtain ⟨x, hx, e⟩ := hm
          rcases List.mem_cons.mp hx with rfl | hx
          · exact absurd e q
          · exact ⟨x, hx, e⟩
        by_cases pj : p.1 = j
        · have kj : ¬ k = j := fun z => q (pj.trans z.symm)
          rw [List.find?_cons_of_pos (by simp [pj]), List.find?_cons_of_pos (by simp [pj]), if_neg kj]
        · rw [List.find?_cons_of_neg (by simp [pj]), List.find?_cons_of_neg (by simp [pj])]
          exact ih hr
  · rw [if_neg h]
    have hm : ∀ x ∈ kvs, ¬ x.1 = k := fun x hx q => h (List.any_eq_true.mpr ⟨x, hx, decide_eq_true q⟩)
    unfold getK
    rw [List.find?_append]
    by_cases kj : k = j
    · subst kj
      rw [if_pos rfl, List.find?_eq_none.mpr (by simpa using hm)]
      simp
    · rw [if_neg kj]
      simp [kj]
theorem putD_len (kvs : List (Key × D)) (k : Key) (v : D) : (putD kvs k v).length ≤ kvs.length + 1 := by
  unfold putD
  split
  · simp
  · simp
theorem putD_old (kvs : List (Key × D)) (k : Key) (v : D) (h : k ∈ kvs.map (·.1)) : (putD kvs k v).map (·.1) = kvs.map (·.1) := by
  unfold putD
  obtain ⟨x, hx, q⟩ := List.mem_map.mp h
  rw [if_pos (List.any_eq_true.mpr ⟨x, hx, decide_eq_true q⟩), List.map_map]
  refine List.map_congr_left fun x _ => ?_
  show (if x.1 = k then (x.1, v) else x).1 = x.1
  split <;> rfl
theorem putD_new (kvs : List (Key × D)) (k : Key) (v : D) (h : k ∉ kvs.map (·.1)) : putD kvs k v = kvs ++ [(k, v)] := by
  unfold putD
  rw [if_neg fun q => ?_]
  obtain ⟨x, hx, q⟩ := List.any_eq_true.mp q
  exact h (List.mem_map.mpr ⟨x, hx, of_decide_eq_true q⟩)
/-- the keys put one by one -/
def putL (v : D) (kvs : List (Key × D)) (xs : List Nat) : List (Key × D) := xs.foldl (fun acc (x : Nat) => putD acc (.inl (x : Int)) v) kvs
theorem getK_putL (v : D) (a : Nat) : ∀ (xs : List Nat) (kvs : List (Key × D)), (getK (putL v kvs xs) (.inl (a : Int))).isSome = (decide (a ∈ xs) || (getK kvs (.inl (a : Int))).isSome)
  | [], kvs => by simp [putL]
  | x :: xs, kvs => by
    show (getK (putL v (putD kvs _ v) xs) _).isSome = _
    rw [getK_putL v a xs, getK_put]
    by_cases h : x = a
    · subst h; simp
    · have h2 : ¬ (Sum.inl (x : Int) : Key) = .inl (a : Int) := fun q => h (by injection q with q; exact Int.ofNat.inj q)
      rw [if_neg h2]
      have h3 : ¬ a = x := fun q => h q.symm
      simp [h3]
theorem putL_len (v : D) : ∀ (xs : List Nat) (kvs : List (Key × D)), (putL v kvs xs).length ≤ kvs.length + xs.length
  | [], _ => Nat.le_refl _
  | x :: xs, kvs => by
    have h1 := putL_len v xs (putD kvs (.inl (x : Int)) v)
    have h2 := putD_len kvs (.inl (x : Int)) v
    show (putL v (putD kvs (.inl (x : Int)) v) xs).length ≤ kvs.length + (xs.length + 1)
    omega
def dcE (n : Nat) (_ : Unit) (M2 : Mem) : R D := .ok (.ref n) M2
def dcK (vs : List Nat) (tg : GF) (c : BF) (f g : EF) (bd : Nat) (e : Env) (src : Src) (M1 : Mem) : R D := (hush (runS (dcBody bd (wipeE e vs) tg c f g M1.length) src () (M1 ++ [.dK []]))).bind (dcE M1.length)
@[simp] theorem eDc_eq {it : IF} {vs : List Nat} {tg : GF} {c : BF} {f g : EF} : eDc it vs tg c f g bd e M = (it bd e M).bind (dcK vs tg c f g bd e) := id rfl
@[simp] theorem dcK_eq {vs : List Nat} {tg : GF} {c : BF} {f g : EF} {src : Src} : dcK vs tg c f g bd e src M = (hush (runS (dcBody bd (wipeE e vs) tg c f g M.length) src () (M ++ [.dK []]))).bind (dcE M.length) := id rfl
@[simp] theorem dcE_eq {n : Nat} {u : Unit} : dcE n u M = .ok (.ref n) M := id rfl
theorem getA {M : Mem} {o : MO} : (M ++ [o])[M.length]? = some o := by simp
theorem setA {M : Mem} {o o' : MO} : (M ++ [o]).set M.length o' = M ++ [o'] := by simp
theorem run_dcN {i : Nat} {e0 : Env} (hi : i < e0.length) (v : D) (hv : ∀ bd e M, eC v bd e M = .ok v M) (xs : List Nat) (hl : xs.length < 16777216) :
    runS (dcBody bd e0 (gNm i) bYes (eV i) (eC v) M.length) (fun _ => some (xs.map N)) () (M ++ [.dK []]) = .ok () (M ++ [.dK (putL v [] xs)]) := by
  have go : ∀ (n j : Nat) (kvs : List (Key × D)), n = xs.length - j + 1 → kvs = putL v [] (xs.take j) → j ≤ xs.length →
      goS (dcBody bd e0 (gNm i) bYes (eV i) (eC v) M.length) (fun _ => some (xs.map N)) n j () (M ++ [.dK kvs]) = .ok () (M ++ [.dK (putL v [] xs)]) := by
    intro n
    induction n with
    | zero => intro j kvs e1; omega
    | succ n ih =>
      intro j kvs e1 e2 hj
      unfold goS
      simp only
      by_cases hx : j < xs.length
      · have hg : (xs.map N)[j]? = some (N xs[j]) := by simp [hx]
        rw [hg]
        simp only
        have hk : kvs.length < 16777216 := by
          rw [e2]
          have := putL_len v (xs.take j) []
          rw [List.length_take, List.length_nil] at this
          omega
        have : dcBody bd e0 (gNm i) bYes (eV i) (eC v) M.length (N xs[j]) () (M ++ [.dK kvs]) = .ok () (M ++ [.dK (putD kvs (.inl ((xs[j] : Nat) : Int)) v)]) := by
          unfold dcBody turnB
          simp [hi, hv]
          unfold putM
          rw [getA, kOf_N]
          simp only
          rw [if_pos hk, setA]
        rw [this, R.bind_ok]
        refine ih (j + 1) _ (by omega) ?_ (by omega)
        rw [e2]
        have ht : xs.take (j + 1) = xs.take j ++ [xs[j]] := by rw [List.take_succ]; simp [hx]
        rw [ht]
        unfold putL
        rw [List.foldl_append]; rfl
      · have hg : (xs.map N)[j]? = none := by rw [List.getElem?_map, List.getElem?_eq_none (by omega)]; rfl
        rw [hg]
        simp only
        rw [e2, List.take_of_length_le (by omega)]
  exact go _ 0 [] (by simp) rfl (by omega)
end
end Sh
set_option Elab.async false
set_option linter.all false
set_option maxRecDepth 100000
set_option maxHeartbeats 4000000
/-! Pl3: things of the memory. -/
namespace Sh
open PySem PySem.Spec PyProof.Rows L2
section
variable {bd : Nat} {e : Env} {M : Mem}
@[simp] theorem okS_eq {n : Nat} {d : D} : okS bd n d = (decide (bd ≤ n) || d.flat) := id rfl
@[simp] theorem mNew_eq {o : MO} : mNew o M = .ok (.ref M.length) (M ++ [o]) := id rfl
def lsM : Option MO → Option (List D)
  | some (.lst ds) => some ds
  | _ => none
@[simp] theorem lsM_lst {ds : List D} : lsM (some (.lst ds)) = some ds := id rfl
@[simp] theorem lstOf_rE {n : Nat} : lstOf M (.ref n) = lsM M[n]? := id rfl
@[simp] theorem lstH_rE {n : Nat} : lstH M (.ref n) = lsM M[n]? := id rfl
@[simp] theorem seqOf_rE {n : Nat} : seqOf M (.ref n) = lsM M[n]? := id rfl
def ixM (a : Nat) : Option MO → Option D
  | some (.lst ds) => ds[a]?
  | some (.dK kvs) => getK kvs (.inl (a : Int))
  | _ => none
@[simp] theorem ixM_lst {a : Nat} {ds : List D} : ixM a (some (.lst ds)) = ds[a]? := id rfl
@[simp] theorem ixM_dK {a : Nat} {kvs : List (Key × D)} : ixM a (some (.dK kvs)) = getK kvs (.inl (a : Int)) := id rfl
theorem oIx_rE {n a : Nat} (h : (∃ ds, M[n]? = some (.lst ds)) ∨ ∃ kvs, M[n]? = some (.dK kvs)) : oIx M (.ref n) (N a) = ixM a M[n]? := by
  rcases h with ⟨ds, h⟩ | ⟨kvs, h⟩
  · rw [oIx_ref h, h]; rfl
  · rw [oIx_dK h, h]; rfl
def ixR (M : Mem) (n a : Nat) : Option D := oIx M (.ref n) (N a)
@[simp] theorem oIx_rL {n a : Nat} : oIx M (.ref n) (N a) = ixR M n a := id rfl
theorem ixR_lst {n a : Nat} {ds : List D} (h : M[n]? = some (.lst ds)) : ixR M n a = ds[a]? := oIx_ref h
theorem ixR_dK {n a : Nat} {kvs : List (Key × D)} (h : M[n]? = some (.dK kvs)) : ixR M n a = getK kvs (.inl (a : Int)) := oIx_dK h
/-- as a step of a walk: what is at n is looked up first -/
def ixQ (M : Mem) (n a : Nat) : Option MO → Option D
  | some (.lst ds) => ds[a]?
  | some (.dK kvs) => getK kvs (.inl (a : Int))
  | _ => ixR M n a
@[simp] theorem ixR_eq {n a : Nat} : ixR M n a = ixQ M n a M[n]? := by
  unfold ixQ
  split
  · rename_i h; exact ixR_lst h
  · rename_i h; exact ixR_dK h
  · rfl
@[simp] theorem ixQ_lst {n a : Nat} {ds : List D} : ixQ M n a (some (.lst ds)) = ds[a]? := id rfl
@[simp] theorem ixQ_dK {n a : Nat} {kvs : List (Key × D)} : ixQ M n a (some (.dK kvs)) = getK kvs (.inl (a : Int)) := id rfl
def inQ (M : Mem) (n a : Nat) : Option MO → Option D
  | some (.dK kvs) => some (.bl (getK kvs (.inl (a : Int))).isSome)
  | _ => oIn M (N a) (.ref n)
theorem oIn_rE {n a : Nat} : oIn M (N a) (.ref n) = inQ M n a M[n]? := by
  unfold inQ
  split
  · rename_i h; exact inB_dK h
  · rfl
@[simp] theorem inQ_dK {n a : Nat} {kvs : List (Key × D)} : inQ M n a (some (.dK kvs)) = some (.bl (getK kvs (.inl (a : Int))).isSome) := id rfl
def lnM : Option MO → Option D
  | some (.lst ds) => some (N ds.length)
  | some (.dK kvs) => some (N kvs.length)
  | some (.dT kvs) => some (N kvs.length)
  | _ => none
@[simp] theorem cLen_rE {n : Nat} : cLen M [.ref n] = lnM M[n]? := by
  show (match lsM M[n]? with | some es => some (D.int es.length) | none => (match M[n]? with | some (.dK kvs) => some (D.int kvs.length) | some (.dT kvs) => some (D.int kvs.length) | _ => none)) = _
  cases M[n]? with
  | none => rfl
  | some o => cases o <;> rfl
@[simp] theorem lnM_lst {ds : List D} : lnM (some (.lst ds)) = some (N ds.length) := id rfl
@[simp] theorem lnM_dK {kvs : List (Key × D)} : lnM (some (.dK kvs)) = some (N kvs.length) := id rfl
@[simp] theorem cTup_rE {n : Nat} : cTup M [.ref n] = (lsM M[n]?).map .tup := id rfl
@[simp] theorem lSeq_rE {n : Nat} : lSeq M [.ref n] = lsM M[n]? := id rfl
@[simp] theorem sqK_rE {n : Nat} : sqK (.ref n) M = if (lsM M[n]?).isSome = true then .ok (fun M => lsM M[n]?) M else .stuck := id rfl
/-! a list's or a dict's item is set -/
def stM (bd n : Nat) (M : Mem) (k : Nat) (d : D) : Option MO → Option Mem
  | some (.lst es) => (match ixN es.length (k : Int) with
        | some j => if okS bd n d = true then some (M.set n (.lst (es.set j d))) else none
        | none => none)
  | some (.dK kvs) => if (okS bd n d && decide (kvs.length < 16777216)) = true then some (M.set n (.dK (putD kvs (.inl (k : Int)) d))) else none
  | _ => none
@[simp] theorem setM_rE {n k : Nat} {d : D} : setM bd (.ref n) (N k) d M = stM bd n M k d M[n]? := by
  show (match M[n]? with | some (.lst es) => _ | some (.dK kvs) => _ | some (.dT kvs) => _ | _ => none) = _
  cases M[n]? with
  | none => rfl
  | some o => cases o <;> rfl
theorem ixN_N {n k : Nat} (h : k < n) : ixN n (k : Int) = some k := by unfold ixN; simp [h]
@[simp] theorem stM_lst {n k : Nat} {es : List D} {d : D} (hk : k < es.length) (ho : okS bd n d = true) : stM bd n M k d (some (.lst es)) = some (M.set n (.lst (es.set k d))) := by
  unfold stM; simp only; rw [ixN_N hk]; simp only; rw [if_pos ho]
@[simp] theorem stM_dK {n k : Nat} {kvs : List (Key × D)} {d : D} (hk : kvs.length < 16777216) (ho : okS bd n d = true) : stM bd n M k d (some (.dK kvs)) = some (M.set n (.dK (putD kvs (.inl (k : Int)) d))) := by
  unfold stM; simp only; rw [if_pos (by rw [ho, decide_eq_true hk]; rfl)]
def sb1 (g : EF) (bd : Nat) (d : D) (e : Env) (x : D) (M1 : Mem) : R Env := (g bd e M1).bind fun y M2 => optM (setM bd x y d M2) e
def sb2 (bd : Nat) (d : D) (e : Env) (x y : D) (M2 : Mem) : R Env := optM (setM bd x y d M2) e
@[simp] theorem gSb_eq {f g : EF} {d : D} : gSb f g bd d e M = hush ((f bd e M).bind (sb1 g bd d e)) := id rfl
@[simp] theorem sb1_eq {g : EF} {d x : D} : sb1 g bd d e x M = (g bd e M).bind (sb2 bd d e x) := id rfl
@[simp] theorem sb2_eq {d x y : D} : sb2 bd d e x y M = optM (setM bd x y d M) e := id rfl
@[simp] theorem optM_ok {M' : Mem} : optM (some M') e = .ok e M' := id rfl
/-! fields -/
def fldK (c i : Nat) (x : D) (M1 : Mem) : R D := match x with
  | .ref n => (match M1[n]? with
    | some (.ins c' fs) => if c' = c then (match fs[i]? with
      | some (some d) => .ok d M1
      | _ => .stuck) else .stuck
    | _ => .stuck)
  | _ => .stuck
def fdM (c i : Nat) (M : Mem) : Option MO → R D
  | some (.ins c' fs) => if c' = c then getV M fs[i]? else .stuck
  | _ => .stuck
@[simp] theorem eFld_eq {c i : Nat} {f : EF} : eFld c i f bd e M = (f bd e M).bind (fldK c i) := id rfl
@[simp] theorem fldK_rE {c i n : Nat} : fldK c i (.ref n) M = fdM c i M M[n]? := by
  unfold fldK fdM
  first
    | rfl
    | (simp only; rcases M[n]? with _ | o <;> first | rfl | (cases o <;> rfl))
@[simp] theorem fdM_ins {c i : Nat} {fs : List (Option D)} : fdM c i M (some (.ins c fs)) = getV M fs[i]? := if_pos rfl
def fd1 (bd c i : Nat) (d : D) (e : Env) (x : D) (M1 : Mem) : R Env := optM (fldM bd c i x d M1) e
@[simp] theorem gFd_eq {c i : Nat} {f : EF} {d : D} : gFd c i f bd d e M = hush ((f bd e M).bind (fd1 bd c i d e)) := id rfl
@[simp] theorem fd1_eq {c i : Nat} {d x : D} : fd1 bd c i d e x M = optM (fldM bd c i x d M) e := id rfl
def fmM (bd c i n : Nat) (d : D) (M : Mem) : Option MO → Option Mem
  | some (.ins c' fs) => if (decide (c' = c) && okS bd n d) = true then some (M.set n (.ins c (fs.set i (some d)))) else none
  | _ => none
@[simp] theorem fldM_rE {c i n : Nat} {d : D} : fldM bd c i (.ref n) d M = fmM bd c i n d M M[n]? := by
  unfold fldM fmM
  first
    | rfl
    | (simp only; rcases M[n]? with _ | o <;> first | rfl | (cases o <;> rfl))
@[simp] theorem fmM_ins {c i n : Nat} {d : D} {fs : List (Option D)} (ho : okS bd n d = true) : fmM bd c i n d M (some (.ins c fs)) = some (M.set n (.ins c (fs.set i (some d)))) := by
  unfold fmM; simp only; rw [if_pos (by rw [ho]; simp)]
/-! methods of lists -/
def mtX (op : MF) (t : AF) (bd : Nat) (e : Env) (x : D) (M1 : Mem) : Bool → R D
  | true => (t bd e M1).bind fun ds M2 => op bd M2 x ds
  | false => .stuck
def mtK (op : MF) (t : AF) (bd : Nat) (e : Env) (x : D) (M1 : Mem) : R D := mtX op t bd e x M1 (lstOf M1 x).isSome
def mtO (op : MF) (bd : Nat) (x : D) (ds : List D) (M2 : Mem) : R D := op bd M2 x ds
@[simp] theorem eMt_eq {op : MF} {f : EF} {t : AF} : eMt op f t bd e M = (f bd e M).bind (mtK op t bd e) := by
  unfold eMt; congr 1; funext x M1; unfold mtK mtX; cases (lstOf M1 x).isSome <;> rfl
@[simp] theorem mtK_eq {op : MF} {t : AF} {x : D} : mtK op t bd e x M = mtX op t bd e x M (lstOf M x).isSome := id rfl
@[simp] theorem mtX_t {op : MF} {t : AF} {x : D} : mtX op t bd e x M true = (t bd e M).bind (mtO op bd x) := id rfl
@[simp] theorem mtO_eq {op : MF} {x : D} {ds : List D} : mtO op bd x ds M = op bd M x ds := id rfl
def apM (bd n : Nat) (y : D) (M : Mem) : Option MO → R D
  | some (.lst es) => if (okS bd n y && decide (es.length < 16777216)) = true then .ok .non (M.set n (.lst (es ++ [y]))) else .stuck
  | _ => .stuck
@[simp] theorem mAppend_rE {n : Nat} {y : D} : mAppend bd M (.ref n) [y] = apM bd n y M M[n]? := by
  unfold mAppend apM
  first
    | rfl
    | (simp only; rcases M[n]? with _ | o <;> first | rfl | (cases o <;> rfl))
@[simp] theorem apM_lst {n : Nat} {y : D} {es : List D} (ho : okS bd n y = true) (hl : es.length < 16777216) : apM bd n y M (some (.lst es)) = .ok .non (M.set n (.lst (es ++ [y]))) := by
  unfold apM; simp only; rw [if_pos (by rw [ho, decide_eq_true hl]; rfl)]
def exM (bd n : Nat) (M : Mem) (zs : Option (List D)) : Option MO → R D
  | some (.lst es) => (match zs with
    | some zs => if (zs.all (okS bd n) && decide (es.length + zs.length ≤ 16777216)) = true then .ok .non (M.set n (.lst (es ++ zs))) else .stuck
    | none => .stuck)
  | _ => .stuck
@[simp] theorem mExtend_rE {n : Nat} {y : D} : mExtend bd M (.ref n) [y] = exM bd n M (lstH M y) M[n]? := by
  unfold mExtend exM
  simp only
  cases M[n]? with
  | none => cases lstH M y <;> rfl
  | some o => cases o <;> cases lstH M y <;> rfl
theorem exM_lst {n : Nat} {zs es : List D} (ho : zs.all (okS bd n) = true) (hl : es.length + zs.length ≤ 16777216) : exM bd n M (some zs) (some (.lst es)) = .ok .non (M.set n (.lst (es ++ zs))) := by
  unfold exM; simp only; rw [if_pos (by rw [ho, decide_eq_true hl]; rfl)]
def ppM (i n : Nat) (M : Mem) : Option MO → R D
  | some (.lst es) => if (i : Int) < 2 ^ 62 then (match es[i]? with
      | some d => .ok d (M.set n (.lst (es.eraseIdx i)))
      | none => .stuck) else .stuck
  | _ => .stuck
@[simp] theorem mPopAt_rE {n i : Nat} : mPopAt bd M (.ref n) [N i] = ppM i n M M[n]? := by
  unfold mPopAt ppM
  conv => lhs; unfold N
  simp only
  cases M[n]? with
  | none => rfl
  | some o =>
    cases o with
    | lst es =>
      simp only [Int.toNat_natCast]
      by_cases h : (i : Int) < 2 ^ 62
      · rw [if_pos ⟨by omega, h⟩, if_pos h] <;> (cases es[i]? <;> rfl)
      · rw [if_neg (fun q => h q.2), if_neg h]
    | _ => rfl
theorem ppM_lst {n i : Nat} {es : List D} (h : i < es.length) (h2 : i < 4611686018427387904) : ppM i n M (some (.lst es)) = .ok es[i] (M.set n (.lst (es.eraseIdx i))) := by
  unfold ppM; simp only; rw [if_pos (by omega), List.getElem?_eq_getElem h]
/-! gets -/
def dgK1 (g : EF) (bd : Nat) (e : Env) (n : Nat) (M1 : Mem) : Bool → R D
  | true => (g bd e M1).bind fun y M2 => lft ((dGet M2 n y).map fun o => o.getD .non) M2
  | false => .stuck
def dgK (g : EF) (bd : Nat) (e : Env) (x : D) (M1 : Mem) : R D := match x with
  | .ref n => dgK1 g bd e n M1 (isDct M1 n)
  | _ => .stuck
def dgL (n : Nat) (y : D) (M2 : Mem) : R D := lft ((dGet M2 n y).map fun o => o.getD .non) M2
@[simp] theorem eGet1_eq {f g : EF} : eGet1 f g bd e M = (f bd e M).bind (dgK g bd e) := by
  unfold eGet1; congr 1; funext x M1; unfold dgK dgK1; cases x <;> try rfl
  rename_i n; simp only; cases isDct M1 n <;> rfl
@[simp] theorem dgK_rE {g : EF} {n : Nat} : dgK g bd e (.ref n) M = dgK1 g bd e n M (isDct M n) := id rfl
@[simp] theorem dgK1_t {g : EF} {n : Nat} : dgK1 g bd e n M true = (g bd e M).bind (dgL n) := id rfl
def dcM : Option MO → Bool
  | some (.dK _) => true
  | some (.dT _) => true
  | _ => false
@[simp] theorem isDct_rE {n : Nat} : isDct M n = dcM M[n]? := by
  unfold isDct dcM
  cases M[n]? with
  | none => rfl
  | some o => cases o <;> rfl
@[simp] theorem dcM_dK {kvs : List (Key × D)} : dcM (some (.dK kvs)) = true := id rfl
def dgM (a : Nat) (M : Mem) : Option MO → Option (Option D)
  | some (.dK kvs) => some (getK kvs (.inl (a : Int)))
  | _ => none
@[simp] theorem dGet_rE {n a : Nat} : dGet M n (N a) = dgM a M M[n]? := by
  show (match M[n]? with | some (.dK kvs) => _ | some (.dT kvs) => _ | _ => none) = _
  cases M[n]? with
  | none => rfl
  | some o => cases o <;> rfl
@[simp] theorem dgM_dK {a : Nat} {kvs : List (Key × D)} : dgM a M (some (.dK kvs)) = some (getK kvs (.inl (a : Int))) := id rfl
@[simp] theorem dgL_eq {n : Nat} {y : D} : dgL n y M = lft ((dGet M n y).map fun o => o.getD .non) M := id rfl
def d2X (g h : EF) (bd : Nat) (e : Env) (n : Nat) (M1 : Mem) : Bool → R D
  | true => (g bd e M1).bind fun y M2 => (h bd e M2).bind fun z M3 => lft ((dGet M3 n y).map fun o => o.getD z) M3
  | false => .stuck
def d2K (g h : EF) (bd : Nat) (e : Env) (x : D) (M1 : Mem) : R D := match x with
  | .ref n => d2X g h bd e n M1 (isDct M1 n)
  | _ => .stuck
def d2L (h : EF) (bd : Nat) (e : Env) (n : Nat) (y : D) (M2 : Mem) : R D := (h bd e M2).bind fun z M3 => lft ((dGet M3 n y).map fun o => o.getD z) M3
def d2Z (n : Nat) (y z : D) (M3 : Mem) : R D := lft ((dGet M3 n y).map fun o => o.getD z) M3
@[simp] theorem eGet2_eq {f g h : EF} : eGet2 f g h bd e M = (f bd e M).bind (d2K g h bd e) := by
  unfold eGet2; congr 1; funext x M1; unfold d2K d2X; cases x <;> try rfl
  rename_i n; simp only; cases isDct M1 n <;> rfl
@[simp] theorem d2K_rE {g h : EF} {n : Nat} : d2K g h bd e (.ref n) M = d2X g h bd e n M (isDct M n) := id rfl
@[simp] theorem d2X_t {g h : EF} {n : Nat} : d2X g h bd e n M true = (g bd e M).bind (d2L h bd e n) := id rfl
@[simp] theorem d2L_eq {h : EF} {n : Nat} {y : D} : d2L h bd e n y M = (h bd e M).bind (d2Z n y) := id rfl
@[simp] theorem d2Z_eq {n : Nat} {y z : D} : d2Z n y z M = lft ((dGet M n y).map fun o => o.getD z) M := id rfl
@[simp] theorem eDK_eq : eDK bd e M = .ok (.ref M.length) (M ++ [.dK []]) := id rfl
/-! methods and makers -/
def mhX (F : Fn) (t : AF) (bd : Nat) (e : Env) (n : Nat) (M1 : Mem) : Bool → R D
  | true => (t bd e M1).bind fun ds M2 => calm (F bd (.ref n :: ds) M2)
  | false => .stuck
def mhK (c : Nat) (F : Fn) (t : AF) (bd : Nat) (e : Env) (x : D) (M1 : Mem) : R D := match x with
  | .ref n => mhX F t bd e n M1 (isIns M1 n c)
  | _ => .stuck
def mhL (F : Fn) (bd n : Nat) (ds : List D) (M2 : Mem) : R D := calm (F bd (.ref n :: ds) M2)
@[simp] theorem eMeth_eq {c : Nat} {F : Fn} {f : EF} {t : AF} : eMeth c F f t bd e M = (f bd e M).bind (mhK c F t bd e) := by
  unfold eMeth; congr 1; funext x M1; unfold mhK mhX; cases x <;> try rfl
  rename_i n; simp only; cases isIns M1 n c <;> rfl
@[simp] theorem mhK_rE {c : Nat} {F : Fn} {t : AF} {n : Nat} : mhK c F t bd e (.ref n) M = mhX F t bd e n M (isIns M n c) := id rfl
@[simp] theorem mhX_t {F : Fn} {t : AF} {n : Nat} : mhX F t bd e n M true = (t bd e M).bind (mhL F bd n) := id rfl
@[simp] theorem mhL_eq {F : Fn} {n : Nat} {ds : List D} : mhL F bd n ds M = calm (F bd (.ref n :: ds) M) := id rfl
@[simp] theorem calm_ok {d : D} : calm (.ok d M) = .ok d M := id rfl
def inM (c : Nat) : Option MO → Bool
  | some (.ins c' _) => decide (c' = c)
  | _ => false
@[simp] theorem isIns_rE {n c : Nat} : isIns M n c = inM c M[n]? := by
  unfold isIns inM
  cases M[n]? with
  | none => rfl
  | some o => cases o <;> rfl
@[simp] theorem inM_ins {c : Nat} {fs : List (Option D)} : inM c (some (.ins c fs)) = true := decide_eq_true rfl
def mkZ (n : Nat) (d : D) (M2 : Mem) : R D := match d with
  | .non => .ok (.ref n) M2
  | _ => .stuck
def mkK (c nf : Nat) (F : Fn) (bd : Nat) (ds : List D) (M1 : Mem) : R D := (calm (F bd (.ref M1.length :: ds) (M1 ++ [.ins c (List.replicate nf none)]))).bind (mkZ M1.length)
@[simp] theorem eMake_eq {c nf : Nat} {F : Fn} {t : AF} : eMake c nf F t bd e M = (t bd e M).bind (mkK c nf F bd) := id rfl
@[simp] theorem mkK_eq {c nf : Nat} {F : Fn} {ds : List D} : mkK c nf F bd ds M = (calm (F bd (.ref M.length :: ds) (M ++ [.ins c (List.replicate nf none)]))).bind (mkZ M.length) := id rfl
@[simp] theorem mkZ_eq {n : Nat} : mkZ n .non M = .ok (.ref n) M := id rfl
/-! changed in place -/
def agE (e : Env) : Option Mem → Out
  | some M => .nx e M
  | none => .stuck
@[simp] theorem agE_some : agE e (some M) = .nx e M := id rfl
def al4 (bd : Nat) (e : Env) (x y : D) (M3 : Mem) : Option D → Out
  | some d => agE e (setM bd x y d M3)
  | none => .stuck
@[simp] theorem al4_some {x y d : D} : al4 bd e x y M (some d) = agE e (setM bd x y d M) := id rfl
def al3 (op : O2) (bd : Nat) (e : Env) (x y z : D) (w : D) (M3 : Mem) : Out := al4 bd e x y M3 (op M3 z w)
@[simp] theorem al3_eq {op : O2} {x y z w : D} : al3 op bd e x y z w M = al4 bd e x y M (op M z w) := id rfl
def al2 (op : O2) (h : EF) (bd : Nat) (e : Env) (x y : D) (M2 : Mem) : Option D → Out
  | some z => (h bd e M2).out e (al3 op bd e x y z)
  | none => .stuck
@[simp] theorem al2_some {op : O2} {h : EF} {x y z : D} : al2 op h bd e x y M (some z) = (h bd e M).out e (al3 op bd e x y z) := id rfl
def al1 (op : O2) (h : EF) (bd : Nat) (e : Env) (n : Nat) (k : Int) (M2 : Mem) : Option MO → Out
  | some (.lst es) => if 0 ≤ k then al2 op h bd e (.ref n) (.int k) M2 es[k.toNat]? else .stuck
  | _ => .stuck
@[simp] theorem al1_lst {op : O2} {h : EF} {n k : Nat} {es : List D} : al1 op h bd e n (k : Int) M (some (.lst es)) = al2 op h bd e (.ref n) (N k) M es[k]? := by
  unfold al1; simp only; rw [if_pos (by omega), Int.toNat_natCast]; rfl
def al0 (op : O2) (h : EF) (bd : Nat) (e : Env) (x y : D) (M2 : Mem) : Out := match x, y with
  | .ref n, .int k => al1 op h bd e n k M2 M2[n]?
  | _, _ => .stuck
@[simp] theorem al0_rN {op : O2} {h : EF} {n k : Nat} : al0 op h bd e (.ref n) (N k) M = al1 op h bd e n (k : Int) M M[n]? := id rfl
def alZ (g : EF) (op : O2) (h : EF) (bd : Nat) (e : Env) (x : D) (M1 : Mem) : Out := (g bd e M1).out e (al0 op h bd e x)
@[simp] theorem alZ_eq {g h : EF} {op : O2} {x : D} : alZ g op h bd e x M = (g bd e M).out e (al0 op h bd e x) := id rfl
@[simp] theorem sAugL_eq {f g h : EF} {op : O2} : sAugL f g op h bd e M = (f bd e M).out e (alZ g op h bd e) := by
  unfold sAugL
  congr 1
  funext x M1
  unfold alZ
  congr 1
  funext y M2
  unfold al0
  cases x <;> try rfl
  cases y <;> try rfl
def af4 (c i : Nat) (bd : Nat) (e : Env) (n : Nat) (M2 : Mem) : Option D → Out
  | some d => agE e (fldM bd c i (.ref n) d M2)
  | none => .stuck
@[simp] theorem af4_some {c i n : Nat} {d : D} : af4 c i bd e n M (some d) = agE e (fldM bd c i (.ref n) d M) := id rfl
def af3 (c i : Nat) (op : O2) (bd : Nat) (e : Env) (n : Nat) (z w : D) (M2 : Mem) : Out := af4 c i bd e n M2 (op M2 z w)
@[simp] theorem af3_eq {c i n : Nat} {op : O2} {z w : D} : af3 c i op bd e n z w M = af4 c i bd e n M (op M z w) := id rfl
def af2 (c i : Nat) (op : O2) (g : EF) (bd : Nat) (e : Env) (n : Nat) (M1 : Mem) : Option (Option D) → Out
  | some (some z) => (g bd e M1).out e (af3 c i op bd e n z)
  | _ => .stuck
@[simp] theorem af2_some {c i n : Nat} {op : O2} {g : EF} {z : D} : af2 c i op g bd e n M (some (some z)) = (g bd e M).out e (af3 c i op bd e n z) := id rfl
def af1 (c i : Nat) (op : O2) (g : EF) (bd : Nat) (e : Env) (n : Nat) (M1 : Mem) : Option MO → Out
  | some (.ins c' fs) => if c' = c then af2 c i op g bd e n M1 fs[i]? else .stuck
  | _ => .stuck
@[simp] theorem af1_ins {c i n : Nat} {op : O2} {g : EF} {fs : List (Option D)} : af1 c i op g bd e n M (some (.ins c fs)) = af2 c i op g bd e n M fs[i]? := if_pos rfl
def af0 (c i : Nat) (op : O2) (g : EF) (bd : Nat) (e : Env) (x : D) (M1 : Mem) : Out := match x with
  | .ref n => af1 c i op g bd e n M1 M1[n]?
  | _ => .stuck
@[simp] theorem af0_ref {c i n : Nat} {op : O2} {g : EF} : af0 c i op g bd e (.ref n) M = af1 c i op g bd e n M M[n]? := id rfl
@[simp] theorem sAugF_eq {c i : Nat} {f g : EF} {op : O2} : sAugF c i f op g bd e M = (f bd e M).out e (af0 c i op g bd e) := by
  unfold sAugF
  congr 1
  funext x M1
  unfold af0
  cases x <;> try rfl
@[simp] theorem takeL {l : Mem} {n : Nat} (h : l.length ≤ n) : List.take n l = l := List.take_of_length_le h
@[simp] theorem takeA {l l' : Mem} {n : Nat} (h : n = l.length) : List.take n (l ++ l') = l := by subst h; exact List.take_left
theorem mapM_frz {n k : Nat} : ∀ {es : List D}, (∀ x ∈ es, x.flat = true) → es.mapM (frz n k M) = some es
  | [], _ => rfl
  | x :: es, h => by
    rw [List.mapM_cons, frz_flat (h x (List.mem_cons_self ..))]
    simp only [Option.bind_eq_bind, Option.bind_some]
    rw [mapM_frz fun y hy => h y (List.mem_cons_of_mem _ hy)]; rfl
theorem frz_ref {n k j : Nat} {es : List D} (hk : k ≤ j) (hM : M[j]? = some (.lst es)) (hf : ∀ x ∈ es, x.flat = true) : frz (n + 1) k M (.ref j) = some (.lst es) := by
  unfold frz
  rw [if_neg (by show ¬ decide (j < k) = true; simp; exact hk)]
  simp only
  rw [hM]
  simp only
  rw [mapM_frz hf]; rfl
theorem frz_low {n k j : Nat} (hk : j < k) : frz n k M (.ref j) = some (.ref j) := by
  have : (D.ref j).ub k = true := decide_eq_true hk
  cases n <;> (unfold frz; rw [if_pos this])
def trM : Option MO → Option Bool
  | some (.lst ds) => some (!ds.isEmpty)
  | some (.dK kvs) => some (!kvs.isEmpty)
  | _ => none
@[simp] theorem tru_rE {n : Nat} : tru M (.ref n) = trM M[n]? := by
  unfold tru trM
  first
    | rfl
    | (simp only; rcases M[n]? with _ | o <;> first | rfl | (cases o <;> rfl))
@[simp] theorem trM_lst {ds : List D} : trM (some (.lst ds)) = some (!ds.isEmpty) := id rfl
/-! slices -/
def slK2 (x : D) (l u : Option Int) (M3 : Mem) : R D := lft (slD M3 x l u) M3
def slK1 (hi : OF) (bd : Nat) (e : Env) (x : D) (l : Option Int) (M2 : Mem) : R D := (hi bd e M2).bind (slK2 x l)
def slK0 (lo hi : OF) (bd : Nat) (e : Env) (x : D) (M1 : Mem) : R D := (lo bd e M1).bind (slK1 hi bd e x)
@[simp] theorem eSl_eq {f : EF} {lo hi : OF} : eSl f lo hi bd e M = (f bd e M).bind (slK0 lo hi bd e) := id rfl
@[simp] theorem slK0_eq {lo hi : OF} {x : D} : slK0 lo hi bd e x M = (lo bd e M).bind (slK1 hi bd e x) := id rfl
@[simp] theorem slK1_eq {hi : OF} {x : D} {l : Option Int} : slK1 hi bd e x l M = (hi bd e M).bind (slK2 x l) := id rfl
@[simp] theorem slK2_eq {x : D} {l u : Option Int} : slK2 x l u M = lft (slD M x l u) M := id rfl
def yesK (d : D) (M1 : Mem) : R (Option Int) := match d with
  | .int i => .ok (some i) M1
  | _ => .stuck
@[simp] theorem oNo_eq : oNo bd e M = .ok none M := id rfl
@[simp] theorem oYes_eq {f : EF} : oYes f bd e M = (f bd e M).bind yesK := id rfl
@[simp] theorem yesK_N {k : Nat} : yesK (N k) M = .ok (some (k : Int)) M := id rfl
@[simp] theorem slD_scr {ds : List D} {lo hi : Option Int} : slD M (.scr ds) lo hi = some (.lst (cutD ds lo hi)) := id rfl
@[simp] theorem slD_lst {ds : List D} {lo hi : Option Int} : slD M (.lst ds) lo hi = some (.lst (cutD ds lo hi)) := id rfl
@[simp] theorem slD_tup {ds : List D} {lo hi : Option Int} : slD M (.tup ds) lo hi = some (.tup (cutD ds lo hi)) := id rfl
theorem cut_to (ds : List D) (k : Nat) : cutD ds none (some (k : Int)) = ds.take k := by
  unfold cutD
  rw [HT.sIx_none, HT.sIx_nat, List.drop_zero, Nat.sub_zero]
  rw [List.take_eq_take_iff]; omega
theorem cut_sub (ds : List D) (lo hi : Option Int) : ∀ x ∈ cutD ds lo hi, x ∈ ds := fun x hx => List.mem_of_mem_drop (List.mem_of_mem_take hx)
theorem cut_len (ds : List D) (lo hi : Option Int) : (cutD ds lo hi).length ≤ ds.length := by
  unfold cutD; rw [List.length_take, List.length_drop]; omega
/-! ints of any sign -/
@[simp] theorem cAbs_int {z : Int} : cAbs M [.int z] = some (N z.natAbs) := by
  show some (D.int (if z < 0 then -z else z)) = some (D.int _)
  congr 2
  split <;> omega
@[simp] theorem cInt_int {z : Int} : cInt M [.int z] = some (.int z) := id rfl
@[simp] theorem oMod_iN {z : Int} {k : Nat} (h : 0 < k) : oMod M (.int z) (N k) = some (N (z % k).toNat) := by
  show (if decide (0 < (k : Int)) = true then some (D.int (z % (k : Int))) else none) = some (D.int _)
  rw [if_pos (by simp; omega)]
  congr 2
  have := Int.emod_nonneg z (show (k : Int) ≠ 0 by omega)
  omega
@[simp] theorem oMul_iN {z : Int} {k : Nat} (h : k < 18446744073709551616) : oMul M (.int z) (N k) = some (.int (z * k)) := by
  show (if cMul z (k : Int) = true then some (D.int (z * k)) else none) = some (D.int _)
  rw [if_pos (by unfold cMul; simp; omega)]
@[simp] theorem oMul_Ni {z : Int} {k : Nat} (h : k < 18446744073709551616) : oMul M (N k) (.int z) = some (.int (k * z)) := by
  show (if cMul (k : Int) z = true then some (D.int (k * z)) else none) = some (D.int _)
  rw [if_pos (by unfold cMul; simp; omega)]
@[simp] theorem oCat_ii {z w : Int} : oCat M (.int z) (.int w) = some (.int (z + w)) := id rfl
@[simp] theorem oAdd_ii {z w : Int} : oAdd M (.int z) (.int w) = some (.int (z + w)) := id rfl
@[simp] theorem oSub_ii {z w : Int} : oSub M (.int z) (.int w) = some (.int (z - w)) := id rfl
@[simp] theorem oDiv_iN {z : Int} {k : Nat} (h : 0 < k) (h2 : k < 18446744073709551616) : oDiv M (.int z) (N k) = some (.int (z / k)) := by
  show (if cDiv z (k : Int) = true then some (D.int (z / k)) else none) = some (D.int _)
  rw [if_pos (by unfold cDiv; simp; have := log2_s h2; omega)]
theorem oMul_ii {z w : Int} (h : z.natAbs.log2 + w.natAbs.log2 < 1000000) : oMul M (.int z) (.int w) = some (.int (z * w)) := by
  show (if cMul z w = true then some (D.int (z * w)) else none) = some (D.int _)
  rw [if_pos (by unfold cMul; simp; omega)]
@[simp] theorem oSub_iN2 {z : Int} {k : Nat} : oSub M (.int z) (N k) = some (.int (z - k)) := id rfl
@[simp] theorem oSub_Ni2 {z : Int} {k : Nat} : oSub M (N k) (.int z) = some (.int (k - z)) := id rfl
@[simp] theorem oAdd_iN2 {z : Int} {k : Nat} : oAdd M (.int z) (N k) = some (.int (z + k)) := id rfl
@[simp] theorem oAdd_Ni2 {z : Int} {k : Nat} : oAdd M (N k) (.int z) = some (.int (k + z)) := id rfl
@[simp] theorem oCat_iN2 {z : Int} {k : Nat} : oCat M (.int z) (N k) = some (.int (z + k)) := id rfl
@[simp] theorem oCat_Ni2 {z : Int} {k : Nat} : oCat M (N k) (.int z) = some (.int (k + z)) := id rfl
@[simp] theorem oPow_N {a b : Nat} (h : b ≤ 1000000) (h2 : a < 18446744073709551616) : oPow M (N a) (N b) = some (N (a ^ b)) := by
  show (if cPow (a : Int) (b : Int) = true then some (D.int ((a : Int) ^ (b : Int).toNat)) else none) = some (D.int _)
  rw [if_pos (by unfold cPow; simp; omega), Int.toNat_natCast, Int.natCast_pow]
end
end Sh
set_option Elab.async false
set_option linter.all false
set_option maxRecDepth 100000
set_option maxHeartbeats 4000000
namespace Q
open Sh PySem
@[simp] theorem f_is_number (bd : Nat) (a : Nat) (M : Mem) : F_is_number bd [N a] M = .ok (.bl true) M := by
  simp [F_is_number, B_is_number, isT]
@[simp] theorem f_is_from (bd : Nat) (a k : Nat) (M : Mem) : F_is_from bd [N a, N k] M = .ok (.bl (decide (k ≤ a))) M := by
  simp [F_is_from, B_is_from]
@[simp] theorem f_is_within (bd : Nat) (a k l : Nat) (M : Mem) : F_is_within bd [N a, N k, N l] M = .ok (.bl (decide (k ≤ a ∧ a ≤ l))) M := by
  by_cases h : k ≤ a <;> simp [F_is_within, B_is_within, h]
@[simp] theorem f_is_long (bd : Nat) (ds : List D) (k : Nat) (M : Mem) : F_is_long bd [.tup ds, N k] M = .ok (.bl (decide (ds.length = k))) M := by
  simp [F_is_long, B_is_long, isT]
theorem f_sure_place_of (bd : Nat) (n p : Nat) (x y : D) (hn : n ≤ 100000) (h : p < 2 ^ n) (M : Mem) : F_sure_place_of bd [.tup [N n, x, y], N p] M = .ok (N p) M := by
  simp [F_sure_place_of, B_sure_place_of, hn, Nat.not_le.mpr h]
theorem f_odd (bd n : Nat) (h : n < 2 ^ 1024) (M : Mem) : F_odd bd [N n] M = .ok (N (par n)) M := by
  obtain ⟨e', M', h1, h2⟩ := for_xs (bd := M.length) (M := M) (tg := gNm 2) (body := sAug 1 oXor (eOp oShr (eV 1) (eV 2))) (e := [some (N n), some (N n), none]) (φ := N) [512, 256, 128, 64, 32, 16, 8, 4, 2, 1]
    (fun i e M' => ∃ y z, e = [some (N n), some (N y), z] ∧ M' = M ∧ par (y % 2 ^ [1024, 512, 256, 128, 64, 32, 16, 8, 4, 2, 1].getD i 1) = par n) ⟨n, none, rfl, rfl, by rw [show [1024, 512, 256, 128, 64, 32, 16, 8, 4, 2, 1].getD 0 1 = 1024 from rfl, Nat.mod_eq_of_lt h]⟩ (fun i x e M' hx ⟨y, z, he, hM, hp⟩ => by
      subst he; subst hM
      have hi : i < 10 := (List.getElem?_eq_some_iff.mp hx).1
      refine ⟨_, _, [some (N n), some (N (y ^^^ (y >>> x))), some (N x)], M', rfl, by simp [Nat.shiftRight_eq_div_pow], _, _, rfl, rfl, ?_⟩
      rw [← hp]
      have key : [1024, 512, 256, 128, 64, 32, 16, 8, 4, 2, 1].getD i 1 = x + x ∧ [1024, 512, 256, 128, 64, 32, 16, 8, 4, 2, 1].getD (i + 1) 1 = x := by
        rcases i with _ | _ | _ | _ | _ | _ | _ | _ | _ | _ | i <;> simp at hx <;> try (subst hx; exact ⟨rfl, rfl⟩)
      rw [key.1, key.2, par_fold])
  obtain ⟨y, z, rfl, rfl, hp⟩ := h2
  simp [F_odd, B_odd]
  simp at h1
  rw [h1]
  simp
  rw [← hp]
  show N (y % 2) = N (par (y % 2 ^ 1))
  rw [par_one, Nat.and_one_is_mod]
theorem and_lt {a b n : Nat} (h : a < 2 ^ n) (hn : n ≤ 1024) : a &&& b < 2 ^ 1024 := Nat.lt_of_le_of_lt Nat.and_le_left (Nat.lt_of_lt_of_le h (Nat.pow_le_pow_right (by decide) hn))
/-- the bit of a told table -/
def tbit (r : Nat) (cs : List Nat) (p : Nat) : Nat := par (r &&& p) ^^^ (if p ∈ cs then 1 else 0)
theorem f_bit_in (bd n r : Nat) (cs : List Nat) (p : Nat) (M : Mem) (h : r < 2 ^ 820) : F_bit_in bd [.tup [N n, N r, .tup (cs.map N)], N p] M = .ok (N (tbit r cs p)) M := by
  simp [F_bit_in, B_bit_in, f_odd _ _ (and_lt h (by decide)), tbit]
/-- strictly ascending -/
abbrev Asc (cs : List Nat) : Prop := cs.Pairwise (· < ·)
theorem f_ascends (bd : Nat) (cs : List Nat) (M : Mem) (h : Asc cs) (hl : cs.length ≤ 16777216) : F_ascends bd [.tup (cs.map N)] M = .ok (.bl true) M := by
  simp [F_ascends, B_ascends, oSub_N, rg1_sub hl]
  rw [run_map (List.range (cs.length - 1)) (fun _ => D.bl true) (by simp; omega)]
  · simp
  · intro x hx
    refine ⟨_, rfl, rfl, fun _ => ?_⟩
    have hx' := List.mem_range.mp hx
    have h1 : x < cs.length := by omega
    have h2 : x + 1 < cs.length := by omega
    simp [h1, h2]
    exact List.pairwise_iff_getElem.mp h _ _ _ _ (by omega)
structure TT (n r : Nat) (cs : List Nat) : Prop where
  hn : n ≤ 820
  hr : r < 2 ^ n
  hl : cs.length ≤ 24
  hb : ∀ c ∈ cs, c < 2 ^ n
  ha : Asc cs
abbrev tT (n r : Nat) (cs : List Nat) : D := .tup [N n, N r, .tup (cs.map N)]
theorem TT.r' {n r : Nat} {cs : List Nat} (h : TT n r cs) : r < 2 ^ 820 := Nat.lt_of_lt_of_le h.hr (Nat.pow_le_pow_right (by decide) h.hn)
theorem f_is_told (bd n r : Nat) (cs : List Nat) (M : Mem) (h : TT n r cs) : F_is_told bd [tT n r cs] M = .ok (.bl true) M := by
  have h1 := h.hn
  have h2 := h.hr
  have h3 := h.hl
  have h4 : n ≤ 100000 := by omega
  simp [F_is_told, B_is_told, tT, h1, Nat.not_le.mpr h2, h4, isT, Nat.not_lt.mpr h3]
  rw [run_map cs (fun _ => D.bl true) (by omega)]
  · simp [f_ascends _ _ _ h.ha (by omega)]
  · intro x hx
    refine ⟨_, rfl, rfl, fun _ => ?_⟩
    have := h.hb x hx
    simp [h4, this]
/-- a thing of tuples (or lists) that stands for one of tuples -/
def mx : Nat → D → D → Prop
  | _, d', .int i => d' = .int i
  | _, d', .bl i => d' = .bl i
  | n + 1, d', .tup ds => ∃ ds', (d' = .tup ds' ∨ d' = .lst ds') ∧ ds'.length = ds.length ∧ ds.length ≤ 16777216 ∧ ∀ (i : Nat) (x' x : D), ds'[i]? = some x' → ds[i]? = some x → mx n x' x
  | _, _, _ => False
theorem mx_flat {n : Nat} {d d' : D} (h : mx n d' d) : d.flat = true := by
  induction n generalizing d d' with
  | zero => cases d <;> first | rfl | exact h.elim
  | succ n ih =>
    cases d with
    | tup ds =>
      obtain ⟨ds', _, h2, _, h3⟩ := h
      exact flatL_all fun x hx => by
        obtain ⟨i, hi, e⟩ := List.mem_iff_getElem.mp hx
        exact ih (h3 i ds'[i] x (List.getElem?_eq_getElem (by omega)) (by rw [List.getElem?_eq_getElem hi, e]))
    | int i => rfl
    | bl i => rfl
    | _ => exact h.elim
theorem f_tupled {n : Nat} : ∀ (bd : Nat) (d' d : D) (M : Mem), mx n d' d → F_tupled (n + 1) bd [d'] M = .ok d M := by
  induction n with
  | zero =>
    intro bd d' d M h
    cases d with
    | int i => have h : d' = _ := h; subst h; simp [F_tupled, B_tupled, isT]
    | bl i => have h : d' = _ := h; subst h; simp [F_tupled, B_tupled, isT]
    | _ => exact h.elim
  | succ n ih =>
    intro bd d' d M h
    cases d with
    | int i => have h : d' = _ := h; subst h; rw [F_tupled]; simp [B_tupled, isT]
    | bl i => have h : d' = _ := h; subst h; rw [F_tupled]; simp [B_tupled, isT]
    | tup ds =>
      have hf : flatL ds = true := mx_flat h
      obtain ⟨ds', h1, h2, h3, h4⟩ := h
      have hr : ∀ d0 : D, runS (lcBody M.length [some d0, none] (gNm 1) bYes (eCall (F_tupled (n + 1)) (aCons (eV 1) aNil))) (fun _ => some ds') [] M = .ok ds M   := fun d0 => run_ix ds' ds h2 (by omega) fun i x' x hx' hx => ⟨_, rfl, rfl, fun _ => by
          simp [ih _ _ _ _ (h4 i x' x hx' hx)]⟩
      rw [F_tupled]
      rcases h1 with rfl | rfl
      · simp [B_tupled, isT, hr, hf]
      · simp [B_tupled, isT, hr, hf]
    | _ => exact h.elim
theorem mx_ints (n : Nat) (cs : List Nat) (h : cs.length ≤ 16777216) : mx (n + 1) (.tup (cs.map N)) (.tup (cs.map N)) := ⟨_, .inl rfl, rfl, by rw [List.length_map]; exact h, fun i x' x hx' hx => by
  rw [hx] at hx'; cases hx'
  rw [List.getElem?_map] at hx
  obtain ⟨c, _, rfl⟩ := Option.map_eq_some_iff.mp hx
  cases n <;> exact rfl⟩
theorem mx_N (n k : Nat) : mx n (N k) (N k) := by cases n <;> exact rfl
theorem mx_three {n : Nat} {a b c a' b' c' : D} (h1 : mx n a' a) (h2 : mx n b' b) (h3 : mx n c' c) : mx (n + 1) (.tup [a', b', c']) (.tup [a, b, c]) := ⟨_, .inl rfl, rfl, by simp, fun i x' x hx' hx => by
  rcases i with _ | _ | _ | i <;> simp at hx hx' <;> subst hx <;> subst hx' <;> assumption⟩
theorem mx_two {n : Nat} {a b a' b' : D} (h1 : mx n a' a) (h2 : mx n b' b) : mx (n + 1) (.tup [a', b']) (.tup [a, b]) := ⟨_, .inl rfl, rfl, by simp, fun i x' x hx' hx => by
  rcases i with _ | _ | i <;> simp at hx hx' <;> subst hx <;> subst hx' <;> assumption⟩
theorem mx_T {n r : Nat} {cs : List Nat} (k : Nat) (h : TT n r cs) : mx (k + 2) (tT n r cs) (tT n r cs) := mx_three (mx_N _ _) (mx_N _ _) (mx_ints _ _ (by have := h.hl; omega))
theorem f_sure_told (bd n r : Nat) (cs : List Nat) (d' : D) (M : Mem) (h : TT n r cs) (h2 : mx 8 d' (tT n r cs)) : F_sure_told_table bd [d'] M = .ok (tT n r cs) M := by
  have hf : (tT n r cs).flat = true := mx_flat h2
  simp [F_sure_told_table, B_sure_told_table, f_tupled (n := 8) _ _ _ _ h2, f_is_told _ _ _ _ _ h, hf]
theorem f_sure_told' (bd n r : Nat) (cs : List Nat) (M : Mem) (h : TT n r cs) : F_sure_told_table bd [tT n r cs] M = .ok (tT n r cs) M := f_sure_told bd n r cs _ M h (mx_T 6 h)
theorem f_bit_at (bd n r : Nat) (cs : List Nat) (p : Nat) (M : Mem) (h : TT n r cs) (hp : p < 2 ^ n) : F_bit_at bd [tT n r cs, N p] M = .ok (N (tbit r cs p)) M := by
  simp [F_bit_at, B_bit_at, f_sure_told' _ _ _ _ _ h, f_sure_place_of _ n p _ _ (by have := h.hn; omega) hp, f_bit_in _ _ _ _ _ _ h.r']
theorem f_corrected (bd n r : Nat) (cs : List Nat) (p q : Nat) (M : Mem) (h : TT n r cs) (hp : p < 2 ^ n) (hq : q < 2 ^ n) : F_corrected bd [tT n r cs, N p, N q] M = .ok (N (tbit r cs (p ^^^ q) ^^^ tbit r cs q)) M := by
  have hn : n ≤ 100000 := by have := h.hn; omega
  simp [F_corrected, B_corrected, f_sure_told' _ _ _ _ _ h, f_sure_place_of _ n p _ _ hn hp, f_sure_place_of _ n q _ _ hn hq, f_bit_in _ _ _ _ _ _ h.r']
theorem f_straight_told (bd n r : Nat) (M : Mem) (hn : n ≤ 820) (hr : r < 2 ^ n) : F_straight_told bd [N n, N r] M = .ok (.tup [N n, N r, .tup []]) M := by
  have h4 : n ≤ 100000 := by omega
  simp [F_straight_told, B_straight_told, F_sure_from, B_sure_from, Nat.not_lt.mpr hn, h4, Nat.not_le.mpr hr]
/-- the changed places, turned at one -/
def tog (cs : List Nat) (p : Nat) : List Nat := if p ∈ cs then cs.filter (fun c => !decide (c = p)) else cs ++ [p]
def srt (cs : List Nat) : List Nat := (srtI (cs.map Int.ofNat)).map Int.toNat
end Q
set_option Elab.async false
set_option linter.all false
set_option maxRecDepth 100000
set_option maxHeartbeats 4000000
namespace Q
open Sh PySem
/-- how many places of cs are that far on in cs, too -/
def mt (cs : List Nat) (s : Nat) : Nat := (cs.filter fun c => decide (c ^^^ s ∈ cs)).length
theorem mt_le (cs : List Nat) (s : Nat) : mt cs s ≤ cs.length := List.length_filter_le _ _
theorem f_meetings (bd : Nat) (a b : D) (cs : List Nat) (s : Nat) (M : Mem) (hl : cs.length < 16777216) : F_meetings bd [.tup [a, b, .tup (cs.map N)], N s] M = .ok (N (mt cs s)) M := by
  have h1 := run_dcN (bd := M.length) (M := M) (i := 3) (e0 := [some (.tup [a, b, .tup (cs.map N)]), some (N s), none, none]) (by simp) (.bl true) (fun _ _ _ => rfl) cs hl
  simp [F_meetings, B_meetings, h1]
  rw [run_lc cs (fun c => decide (c ^^^ s ∈ cs)) N (by omega)]
  · simp [mt]
  · intro x hx
    refine ⟨_, rfl, ?_, fun _ => ?_⟩
    · simp [inB_dK (M := M ++ [.dK (putL (.bl true) [] cs)]) (n := M.length) getA, getK_putL, getK_nil]
    · simp
theorem f_unlike_far_in (bd : Nat) (a b : D) (cs : List Nat) (s : Nat) (M : Mem) (hl : cs.length < 16777216) : F_unlike_far_in bd [.tup [a, b, .tup (cs.map N)], N s] M = .ok (N (2 * cs.length - 2 * mt cs s)) M := by
  have := mt_le cs s
  simp [F_unlike_far_in, B_unlike_far_in, f_meetings _ _ _ _ _ _ hl, oSub_le (show 2 * mt cs s ≤ 2 * cs.length by omega)]
theorem f_unlike_far (bd n r : Nat) (cs : List Nat) (s : Nat) (M : Mem) (h : TT n r cs) (hs : s < 2 ^ n) : F_unlike_far bd [tT n r cs, N s] M = .ok (N (2 * cs.length - 2 * mt cs s)) M := by
  have := h.hl
  have := h.hn
  simp [F_unlike_far, B_unlike_far, f_sure_told' _ _ _ _ _ h, f_sure_place_of _ n s _ _ (by omega) hs, f_unlike_far_in _ _ _ _ _ _ (show cs.length < 16777216 by omega)]
/-! shares -/
theorem f_common (bd a b : Nat) (M : Mem) (ha : a < 2 ^ 1000) (hb : b < 2 ^ 1000) : F_common bd [N a, N b] M = .ok (N (Nat.gcd a b)) M := by
  obtain ⟨e', M', h1, h2⟩ := while_eq (bd := M.length) (c := bV (eOp oGt (eV 3) (eC (.int 0)))) (body := sSet2 2 3 (aCons (eV 3) (aCons (eOp oMod (eV 2) (eV 3)) aNil)))
    (fun k e M' => ∃ x y, e = [some (N a), some (N b), some (N x), some (N y)] ∧ M' = M ∧ Nat.gcd x y = Nat.gcd a b ∧ gm x y = k)
    (fun e M' => ∃ y, e = [some (N a), some (N b), some (N (Nat.gcd a b)), y] ∧ M' = M)
    (fun k e M' ⟨x, y, he, hM, hg, hk⟩ => by
      subst he; subst hM
      by_cases hy : y = 0
      · subst hy; exact .inl ⟨by simp, by simp [← hg]⟩
      · refine .inr ⟨by simp [Nat.pos_of_ne_zero hy], [some (N a), some (N b), some (N y), some (N (x % y))], M', gm y (x % y), by simp [show 0 < y by omega], ?_, y, x % y, rfl, rfl, ?_, rfl⟩
        · rw [← hk]; exact gm_step hy
        · rw [← hg, Nat.gcd_comm x y, Nat.gcd_rec y x, Nat.gcd_comm])
    (gm a b) turns [some (N a), some (N b), some (N a), some (N b)] M (by have := gm_le ha hb; unfold turns; omega) ⟨a, b, rfl, rfl, rfl, rfl⟩
  obtain ⟨y, rfl, rfl⟩ := h2
  simp [F_common, B_common, h1]
theorem f_law_gcd (bd a b : Nat) (M : Mem) (ha : a < 2 ^ 1000) (hb : b < 2 ^ 1000) : F__law_gcd bd [N a, N b] M = .ok (N (Nat.gcd a b)) M := by
  obtain ⟨e', M', h1, h2⟩ := for_rangeB (bd := M.length) (M := M) (e := [some (N a), some (N b), none]) (tg := gNm 2) (body := (sSeq (sIf (bV (eOp oEq (eV 1) (eC (.int 0))))
  sBk
  sNil)
  (sSet2 0 1 (aCons (eV 1) (aCons (eOp oMod (eCB cInt (aCons (eV 0) aNil)) (eV 1)) aNil))))) 9000
    (fun i e M' => ∃ x y z, e = [some (N x), some (N y), z] ∧ M' = M ∧ Nat.gcd x y = Nat.gcd a b ∧ gm x y + i ≤ 2002)
    (fun e M' => ∃ y z, e = [some (N (Nat.gcd a b)), y, z] ∧ M' = M)
    ⟨a, b, none, rfl, rfl, rfl, gm_le ha hb⟩
    (fun i e M' hi ⟨x, y, z, he, hM, hg, hk⟩ => by
      subst he; subst hM
      refine ⟨_, _, rfl, ?_⟩
      by_cases hy : y = 0
      · subst hy
        refine .inr ⟨[some (N x), some (N 0), some (N i)], M', by simp, some (N 0), some (N i), by simp [← hg], rfl⟩
      · refine .inl ⟨[some (N y), some (N (x % y)), some (N i)], M', by simp [hy, show 0 < y by omega], y, x % y, _, rfl, rfl, ?_, ?_⟩
        · rw [← hg, Nat.gcd_comm x y, Nat.gcd_rec y x, Nat.gcd_comm]
        · have := gm_step (x := x) hy; omega)
    (fun e M' ⟨x, y, z, _, _, _, h⟩ => by omega)
  obtain ⟨y, z, rfl, rfl⟩ := h2
  simp [F__law_gcd, B__law_gcd]
  simp at h1
  rw [h1]; simp
theorem f_fraction (bd a b : Nat) (M : Mem) (ha : a < 2 ^ 1000) (hb : b < 2 ^ 1000) (h0 : 0 < b) : F_fraction bd [N a, N b] M = .ok (.tup [N (a / Nat.gcd a b), N (b / Nat.gcd a b)]) M := by
  have h1 := Nat.gcd_pos_of_pos_right a h0
  have h2 : (Nat.gcd a b).log2 < 9000 := by
    have : Nat.gcd a b < 2 ^ 1000 := Nat.lt_of_le_of_lt (Nat.gcd_le_right a h0) hb
    have := (Nat.log2_lt (by omega)).mpr this
    omega
  simp [F_fraction, B_fraction, f_common _ _ _ _ ha hb, h1, h2]
theorem f_law_share (bd a b : Nat) (M : Mem) (ha : a < 2 ^ 1000) (hb : b < 2 ^ 1000) (h0 : 0 < b) : F__law_share bd [N a, N b] M = .ok (.tup [N (a / Nat.gcd a b), N (b / Nat.gcd a b)]) M := by
  have h1 := Nat.gcd_pos_of_pos_right a h0
  have h2 : (Nat.gcd a b).log2 < 9000 := by
    have : Nat.gcd a b < 2 ^ 1000 := Nat.lt_of_le_of_lt (Nat.gcd_le_right a h0) hb
    have := (Nat.log2_lt (by omega)).mpr this
    omega
  simp [F__law_share, B__law_share, f_law_gcd _ _ _ _ ha hb, h1, h2]
end Q
set_option Elab.async false
set_option linter.all false
set_option maxRecDepth 100000
set_option maxHeartbeats 4000000
set_option exponentiation.threshold 5000
namespace Q
open Sh PySem
theorem pow_big {n : Nat} (h : n ≤ 820) : 2 ^ n < 2 ^ 1000 := Nat.pow_lt_pow_right (by decide) (by omega)
theorem f_right_share (bd n r : Nat) (cs : List Nat) (s : Nat) (M : Mem) (h : TT n r cs) (hs : s < 2 ^ n) (hw : 2 * cs.length ≤ 2 ^ n) :
    F_right_share bd [tT n r cs, N s] M = .ok (.tup [N ((2 ^ n - (2 * cs.length - 2 * mt cs s)) / Nat.gcd (2 ^ n - (2 * cs.length - 2 * mt cs s)) (2 ^ n)), N (2 ^ n / Nat.gcd (2 ^ n - (2 * cs.length - 2 * mt cs s)) (2 ^ n))]) M := by
  have h1 := h.hl
  have h2 := h.hn
  have h3 := mt_le cs s
  have h4 : n ≤ 100000 := by omega
  have h5 := pow_big h2
  simp [F_right_share, B_right_share, f_sure_told' _ _ _ _ _ h, f_sure_place_of _ n s _ _ h4 hs, f_unlike_far_in _ _ _ _ _ _ (show cs.length < 16777216 by omega), h4,
    oSub_le (show 2 * cs.length - 2 * mt cs s ≤ 2 ^ n by omega), f_fraction _ _ _ _ (show 2 ^ n - (2 * cs.length - 2 * mt cs s) < 2 ^ 1000 by omega) h5 (Nat.two_pow_pos n)]
def tri (cs : List Nat) : Nat := (cs.map (mt cs)).sum
theorem f_triples_in (bd : Nat) (a b : D) (cs : List Nat) (M : Mem) (hl : cs.length < 16777216) : F_triples_in bd [.tup [a, b, .tup (cs.map N)]] M = .ok (N (tri cs)) M := by
  simp [F_triples_in, B_triples_in]
  rw [run_map cs (fun c => N (mt cs c)) (by omega)]
  · have : cs.map (fun c => N (mt cs c)) = (cs.map (mt cs)).map N := by rw [List.map_map]; rfl
    simp only [this, hush_ok, R.bind_ok, lcE_eq, aK1_eq, aNil_eq, aK2_eq, cbK_eq, cSum_N]
    simp [tri]
  · intro x hx
    exact ⟨_, rfl, rfl, fun _ => by simp [f_meetings _ _ _ _ _ _ hl]⟩
/-- at how many pairs of places a straight look fails -/
def lf (n : Nat) (cs : List Nat) : Int := 3 * cs.length * 2 ^ n - 6 * cs.length * cs.length + 4 * tri cs
theorem oSub_int {M : Mem} {a b : Nat} : oSub M (N a) (N b) = some (.int (a - b)) := rfl
theorem oCat_iN {M : Mem} {x : Int} {b : Nat} : oCat M (.int x) (N b) = some (.int (x + b)) := rfl
theorem oCat_Ni {M : Mem} {x : Int} {b : Nat} : oCat M (N b) (.int x) = some (.int (b + x)) := rfl
theorem f_line_fails_in (bd n r : Nat) (cs : List Nat) (M : Mem) (h : TT n r cs) : F_line_fails_in bd [tT n r cs] M = .ok (.int (lf n cs)) M := by
  have h1 := h.hl
  have h2 := h.hn
  have h4 : n ≤ 100000 := by omega
  simp [F_line_fails_in, B_line_fails_in, h4, oMul_l (show 3 * cs.length < 18446744073709551616 by omega), oMul_l (show 6 * cs.length < 18446744073709551616 by omega), f_triples_in _ _ _ _ _ (show cs.length < 16777216 by omega), oSub_int, oCat_iN, lf]
theorem f_line_fails (bd n r : Nat) (cs : List Nat) (d' : D) (M : Mem) (h : TT n r cs) (h2 : mx 8 d' (tT n r cs)) : F_line_fails bd [d'] M = .ok (.int (lf n cs)) M := by
  simp [F_line_fails, B_line_fails, f_sure_told _ _ _ _ _ _ h h2, f_line_fails_in _ _ _ _ _ h]
/-- ones -/
def on (n r : Nat) (cs : List Nat) : Int := (if r = 0 then 0 else 2 ^ (n - 1)) + (cs.map fun c => (1 : Int) - 2 * par (r &&& c)).sum
theorem oSub_1 {M : Mem} {b : Nat} : oSub M (N 1) (N b) = some (.int (1 - b)) := rfl
theorem cSum_f {M : Mem} {α : Type} {cs : List α} (f : α → Int) : cSum M [.lst (cs.map fun c => D.int (f c))] = some (.int (cs.map f).sum) := by
  have : (cs.map fun c => D.int (f c)) = (cs.map f).map D.int := by rw [List.map_map]; rfl
  rw [this, cSum_I]
theorem f_ones_in (bd n r : Nat) (cs : List Nat) (M : Mem) (h : TT n r cs) (hn : 0 < n) : F_ones_in bd [tT n r cs] M = .ok (.int (on n r cs)) M := by
  have h1 := h.hl
  have h2 := h.hn
  have h4 : n - 1 ≤ 100000 := by omega
  have hr : ∀ d1, runS (lcBody M.length [some (tT n r cs), some d1, none] (gNm 2) bYes (eOp oSub (eC (.int 1)) (eOp oMul (eC (.int 2)) (eCall F_odd (aCons (eOp oAnd (eOp oIx (eV 0) (eC (.int 1))) (eV 2)) aNil))))) (fun _ => some (cs.map N)) [] M = .ok (cs.map fun c => D.int ((1 : Int) - ((2 * par (r &&& c) : Nat) : Int))) M := by
    intro d1
    refine run_map cs _ (by omega) fun x hx => ⟨_, rfl, rfl, fun _ => ?_⟩
    simp [f_odd _ _ (and_lt h.r' (by decide)), oSub_1]
  by_cases h0 : r = 0
  · subst h0
    simp [F_ones_in, B_ones_in, hr]
    rw [cSum_f]
    simp [oCat_Ni, on]
  · simp [F_ones_in, B_ones_in, h0, oSub_le (show 1 ≤ n from hn), h4, hr]
    rw [cSum_f]
    simp [oCat_Ni, on, h0]
theorem f_many_ones (bd n r : Nat) (cs : List Nat) (M : Mem) (h : TT n r cs) (hn : 0 < n) : F_many_ones bd [tT n r cs] M = .ok (.int (on n r cs)) M := by
  simp [F_many_ones, B_many_ones, f_sure_told' _ _ _ _ _ h, f_ones_in _ _ _ _ _ h hn]
/-- the changes behind a turn at a place -/
def chg (cs : List Nat) (p : Nat) : List Nat := if p ∈ cs then cs.filter (fun c => !decide (c = p)) else srtN (cs ++ [p])
theorem TT.chg {n r : Nat} {cs : List Nat} (h : TT n r cs) {p : Nat} (hp : p < 2 ^ n) (hl : p ∉ cs → cs.length < 24) : TT n r (chg cs p) := by
  unfold Q.chg
  by_cases q : p ∈ cs
  · rw [if_pos q]
    exact ⟨h.hn, h.hr, Nat.le_trans (List.length_filter_le _ _) h.hl, fun c hc => h.hb c (List.mem_filter.mp hc).1, h.ha.filter _⟩
  · rw [if_neg q]
    have hnd : (cs ++ [p]).Nodup := by
      rw [List.nodup_append]
      refine ⟨h.ha.imp (fun z => by omega), by simp, fun a ha b hb => ?_⟩
      rw [List.mem_singleton.mp hb]
      rintro rfl
      exact q ha
    refine ⟨h.hn, h.hr, ?_, fun c hc => ?_, srtN_asc hnd⟩
    · rw [(srtN_perm _).length_eq]; simp; have := hl q; omega
    · rcases List.mem_append.mp ((srtN_perm _).mem_iff.mp hc) with hc | hc
      · exact h.hb c hc
      · rw [List.mem_singleton.mp hc]; exact hp
theorem filter_ne_len {cs : List Nat} {p : Nat} : (cs.filter (fun c => !decide (c = p))).length = cs.length ↔ p ∉ cs := by
  rw [List.length_filter_eq_length_iff]
  constructor
  · intro h q; have := h p q; simp at this
  · intro h c hc; simp; rintro rfl; exact h hc
theorem filter_ne_id {cs : List Nat} {p : Nat} (h : p ∉ cs) : cs.filter (fun c => !decide (c = p)) = cs := List.filter_eq_self.mpr fun c hc => by simp; rintro rfl; exact h hc
theorem f_changed (bd n r : Nat) (cs : List Nat) (p : Nat) (M : Mem) (h : TT n r cs) (hp : p < 2 ^ n) (hl : p ∉ cs → cs.length < 24) : F_changed bd [tT n r cs, N p] M = .ok (tT n r (chg cs p)) M := by
  have h1 := h.hl
  have h2 := h.hn
  have h4 : n ≤ 100000 := by omega
  simp [F_changed, B_changed, f_sure_told' _ _ _ _ _ h, f_sure_place_of _ n p _ _ h4 hp]
  rw [run_lc cs (fun c => !decide (c = p)) N (by omega)]
  · by_cases q : p ∈ cs
    · have q' : ¬ (∀ (a : Nat), a ∈ cs → ¬a = p) := fun z => z p q rfl
      simp [q', chg, q]
    · have := hl q
      have e := filter_ne_id q
      simp [e, chg, q, show ¬ cs.length = 24 by omega, oCat_tup (show (cs.map N).length + [N p].length ≤ 16777216 by simp; omega)]
      have e2 : cs.map N ++ [N p] = (cs ++ [p]).map N := by simp
      have e3 : lSort M [.tup (cs.map N ++ [N p])] = some ((srtN (cs ++ [p])).map N) := by rw [e2]; exact lSort_T
      simp [e3]
  · intro x hx
    refine ⟨_, rfl, ?_, fun _ => ?_⟩ <;> simp
theorem f_changed_no (bd n r : Nat) (cs : List Nat) (p : Nat) (M : Mem) (h : TT n r cs) (hp : p < 2 ^ n) (hl : p ∉ cs) (hl2 : cs.length = 24) : F_changed bd [tT n r cs, N p] M = .exc "CanNot" M := by
  have h1 := h.hl
  have h2 := h.hn
  have h4 : n ≤ 100000 := by omega
  simp [F_changed, B_changed, f_sure_told' _ _ _ _ _ h, f_sure_place_of _ n p _ _ h4 hp]
  rw [run_lc cs (fun c => !decide (c = p)) N (by omega)]
  · have e := filter_ne_id hl
    simp [e, hl2]
  · intro x hx
    refine ⟨_, rfl, ?_, fun _ => ?_⟩ <;> simp
theorem mt_c : mt_CanNot (Str.ofString "CanNot") = some true := by decide
theorem is_c : is_ValueError (Str.ofString "CanNot") = some true := by decide
theorem f_heard (bd n r : Nat) (cs : List Nat) (p : Nat) (M : Mem) (h : TT n r cs) (hp : p < 2 ^ n) (hl : p ∉ cs → cs.length < 24) : F__law_heard bd [tT n r cs, N p] M = .ok (tT n r (chg cs p)) M := by
  simp [F__law_heard, B__law_heard, sTryI, f_changed _ _ _ _ _ _ h hp hl]
theorem f_heard_no (bd n r : Nat) (cs : List Nat) (p : Nat) (M : Mem) (h : TT n r cs) (hp : p < 2 ^ n) (hl : p ∉ cs) (hl2 : cs.length = 24) : F__law_heard bd [tT n r cs, N p] M = .ok (.lst [.str "cannot", .bl true]) M := by
  simp [F__law_heard, B__law_heard, sTryI, f_changed_no _ _ _ _ _ _ h hp hl hl2, mt_c, is_c]
theorem f_nearest_row (bd n r : Nat) (cs : List Nat) (M : Mem) (h : TT n r cs) (hw : 4 * cs.length < 2 ^ n) : F_nearest_row bd [tT n r cs] M = .ok (N r) M := by
  have h1 := h.hl
  have h2 := h.hn
  have h4 : n ≤ 100000 := by omega
  have h5 : cs.length.log2 < 1000000 := Nat.lt_of_le_of_lt (Nat.log2_le_self _) (by omega)
  simp [F_nearest_row, B_nearest_row, f_sure_told' _ _ _ _ _ h, F_nearest_told, B_nearest_told, h4, oShl_N (show 2 ≤ 100000 by decide) h5, show cs.length * 4 < 2 ^ n by omega]
/-! the law's own -/
theorem f_law_odd (bd n : Nat) (h : n < 2 ^ 820) (M : Mem) : F__law_odd bd [N n] M = .ok (N (par n)) M := by
  obtain ⟨e', M', h1, h2⟩ := for_rangeB (bd := M.length) (M := M) (e := [some (N n), some (N 0), none]) (tg := gNm 2) (body := (sSeq (sIf (bV (eOp oEq (eV 0) (eC (.int 0))))
  sBk
  sNil)
  (sSet2 1 0 (aCons (eOp oCat (eV 1) (eOp oMod (eCB cInt (aCons (eV 0) aNil)) (eC (.int 2)))) (aCons (eOp oDiv (eV 0) (eC (.int 2))) aNil))))) 900
    (fun i e M' => ∃ x y z, e = [some (N x), some (N y), z] ∧ M' = M ∧ (y + par x) % 2 = par n ∧ x < 2 ^ (820 - i))
    (fun e M' => ∃ x y z, e = [x, some (N y), z] ∧ M' = M ∧ y % 2 = par n)
    ⟨n, 0, none, rfl, rfl, by have := par_lt n; omega, h⟩
    (fun i e M' hi ⟨x, y, z, he, hM, hg, hk⟩ => by
      subst he; subst hM
      refine ⟨_, _, rfl, ?_⟩
      by_cases hx : x = 0
      · subst hx
        refine .inr ⟨[some (N 0), some (N y), some (N i)], M', by simp, some (N 0), y, some (N i), rfl, rfl, ?_⟩
        rw [par_zero] at hg; omega
      · refine .inl ⟨[some (N (x / 2)), some (N (y + x % 2)), some (N i)], M', by simp [hx], x / 2, y + x % 2, _, rfl, rfl, ?_, ?_⟩
        · rw [← hg, par_step x]; omega
        · by_cases q : i < 820
          · have : 820 - i = (820 - (i + 1)) + 1 := by omega
            rw [this, Nat.pow_succ] at hk; omega
          · rw [show 820 - i = 0 by omega] at hk; simp at hk; exact absurd hk hx)
    (fun e M' ⟨x, y, z, he, hM, hg, hk⟩ => ⟨_, y, z, he, hM, by
      rw [show 820 - 900 = 0 by omega] at hk; simp at hk; subst hk; rw [par_zero] at hg; omega⟩)
  obtain ⟨x, y, z, rfl, rfl, hy⟩ := h2
  simp [F__law_odd, B__law_odd]
  simp at h1
  rw [h1]; simp [hy]
theorem f_law_bit (bd n r : Nat) (cs : List Nat) (p : Nat) (M : Mem) (h : r < 2 ^ 820) : F__law_bit bd [.tup [N n, N r, .tup (cs.map N)], N p] M = .ok (N (tbit r cs p)) M := by
  simp [F__law_bit, B__law_bit, f_law_odd _ _ (Nat.lt_of_le_of_lt Nat.and_le_left h), tbit]
theorem f_law_lined (bd n r : Nat) (cs : List Nat) (M : Mem) (h : TT n r cs) : F__law_lined bd [tT n r cs] M = .ok (.int (lf n cs)) M := by
  have h1 := h.hl
  have h2 := h.hn
  have h4 : n ≤ 100000 := by omega
  simp [F__law_lined, B__law_lined]
  rw [run_map cs (fun c => N (mt cs c)) (by omega)]
  · have : cs.map (fun c => N (mt cs c)) = (cs.map (mt cs)).map N := by rw [List.map_map]; rfl
    simp only [this, hush_ok, R.bind_ok, lcE_eq, aK1_eq, aNil_eq, aK2_eq, cbK_eq, cSum_N]
    simp [h4, oMul_l (show 3 * cs.length < 18446744073709551616 by omega), oMul_l (show 6 * cs.length < 18446744073709551616 by omega), oSub_int, oCat_iN, lf, tri]
  · intro x hx
    refine ⟨_, rfl, rfl, fun _ => ?_⟩
    simp
    rw [run_lc cs (fun c => decide (x ^^^ c ∈ cs)) (fun _ => N 1) (by omega)]
    · simp [mt, Nat.xor_comm]
    · intro y hy
      refine ⟨_, rfl, ?_, fun _ => ?_⟩ <;> simp
theorem f_law_ones (bd n r : Nat) (cs : List Nat) (M : Mem) (h : TT n r cs) (hn : 0 < n) : F__law_ones bd [tT n r cs] M = .ok (.int (on n r cs)) M := by
  have h1 := h.hl
  have h2 := h.hn
  have h4 : n ≤ 100000 := by omega
  have hr : ∀ d0 d1 d2 d3 : D, runS (lcBody M.length [some d0, some d1, some d2, some (N r), some d3, none] (gNm 5) bYes (eOp oSub (eC (.int 1)) (eOp oMul (eC (.int 2)) (eCall F__law_odd (aCons (eOp oAnd (eV 3) (eV 5)) aNil))))) (fun _ => some (cs.map N)) [] M = .ok (cs.map fun c => D.int ((1 : Int) - ((2 * par (r &&& c) : Nat) : Int))) M := by
    intro d0 d1 d2 d3
    refine run_map cs _ (by omega) fun x hx => ⟨_, rfl, rfl, fun _ => ?_⟩
    simp [f_law_odd _ _ (Nat.lt_of_le_of_lt Nat.and_le_left h.r'), oSub_1]
  by_cases h0 : r = 0
  · subst h0
    simp [F__law_ones, B__law_ones, hr]
    rw [cSum_f]
    simp [oCat_Ni, on]
  · have e : 2 ^ n / 2 = 2 ^ (n - 1) := by
      have : n = (n - 1) + 1 := by omega
      rw [this, Nat.pow_succ]; simp
    simp [F__law_ones, B__law_ones, Nat.pos_of_ne_zero h0, h4, hr, e]
    rw [cSum_f]
    simp [oCat_Ni, on, h0]
end Q
set_option Elab.async false
set_option linter.all false
set_option maxRecDepth 100000
set_option maxHeartbeats 4000000
set_option exponentiation.threshold 5000
namespace Q
open Sh PySem
def sm : Nat → D → Prop
  | _, .int _ => True
  | _, .bl _ => True
  | n + 1, .tup ds => ds.length ≤ 16777216 ∧ ∀ x ∈ ds, sm n x
  | n + 1, .lst ds => ds.length ≤ 16777216 ∧ ∀ x ∈ ds, sm n x
  | _, _ => False
theorem oEq_int {M : Mem} {a b : Int} : oEq M (.int a) (.int b) = some (.bl (decide (a = b))) := rfl
theorem zipD_self (ds : List D) : zipD ds ds = ds.map fun x => .tup [x, x] := by
  unfold zipD
  induction ds with
  | nil => rfl
  | cons d ds ih => rw [List.zipWith_cons_cons, ih]; rfl
theorem f_same : ∀ (n : Nat) (bd : Nat) (d : D) (M : Mem), sm n d → F__law_same (n + 1) bd [d, d] M = .ok (.bl true) M := by
  intro n
  induction n with
  | zero =>
    intro bd d M h
    cases d with
    | int i => rw [F__law_same]; simp [B__law_same, isT, oEq_int]
    | bl i => rw [F__law_same]; simp [B__law_same, isT]
    | _ => exact h.elim
  | succ n ih =>
    intro bd d M h
    cases d with
    | int i => rw [F__law_same]; simp [B__law_same, isT, oEq_int]
    | bl i => rw [F__law_same]; simp [B__law_same, isT]
    | tup ds =>
      obtain ⟨hl, h⟩ := h
      have hz : iZz (aCons (eV 0) (aCons (eV 1) aNil)) M.length [some (.tup ds), some (.tup ds), none, none] M = .ok (fun _ => some (ds.map fun x => .tup [x, x])) M := by rw [← zipD_self]; exact iZz_tt (by simp)
      have hr : runS (lcBody M.length [some (.tup ds), some (.tup ds), none, none] (gTp 2 (gsCons (gNm 2) (gsCons (gNm 3) gsNil))) bYes (eCall (F__law_same (n + 1)) (aCons (eV 2) (aCons (eV 3) aNil)))) (fun _ => some (ds.map fun x => .tup [x, x])) [] M = .ok (ds.map fun _ => D.bl true) M := run_map ds _ hl fun x hx => ⟨[some (.tup ds), some (.tup ds), some x, some x], by simp, rfl, fun _ => by simp [ih _ _ _ (h x hx)]⟩
      rw [F__law_same]
      simp only [List.map_const'] at hr
      simp [B__law_same, isT, hz, hr]
    | lst ds =>
      obtain ⟨hl, h⟩ := h
      have hz : iZz (aCons (eV 0) (aCons (eV 1) aNil)) M.length [some (.lst ds), some (.lst ds), none, none] M = .ok (fun _ => some (ds.map fun x => .tup [x, x])) M := by rw [← zipD_self]; exact iZz_ll (by simp)
      have hr : runS (lcBody M.length [some (.lst ds), some (.lst ds), none, none] (gTp 2 (gsCons (gNm 2) (gsCons (gNm 3) gsNil))) bYes (eCall (F__law_same (n + 1)) (aCons (eV 2) (aCons (eV 3) aNil)))) (fun _ => some (ds.map fun x => .tup [x, x])) [] M = .ok (ds.map fun _ => D.bl true) M := run_map ds _ hl fun x hx => ⟨[some (.lst ds), some (.lst ds), some x, some x], by simp, rfl, fun _ => by simp [ih _ _ _ (h x hx)]⟩
      rw [F__law_same]
      simp only [List.map_const'] at hr
      simp [B__law_same, isT, hz, hr]
    | _ => exact h.elim
theorem f_same9 (bd : Nat) (d : D) (M : Mem) (h : sm 8 d) : F__law_same 9 bd [d, d] M = .ok (.bl true) M := f_same 8 bd d M h
theorem sm_N (n k : Nat) : sm n (N k) := by cases n <;> exact trivial
theorem sm_int (n : Nat) (k : Int) : sm n (.int k) := by cases n <;> exact trivial
theorem sm_bl (n : Nat) (k : Bool) : sm n (.bl k) := by cases n <;> exact trivial
theorem sm_ints (n : Nat) (cs : List Nat) (h : cs.length ≤ 16777216) : sm (n + 1) (.tup (cs.map N)) := ⟨by simpa using h, fun x hx => by
  obtain ⟨c, _, rfl⟩ := List.mem_map.mp hx
  exact sm_N _ _⟩
theorem sm_T (k n r : Nat) (cs : List Nat) (h : cs.length ≤ 16777216) : sm (k + 2) (tT n r cs) := ⟨by simp, fun x hx => by
  simp at hx
  rcases hx with rfl | rfl | rfl
  · exact sm_N _ _
  · exact sm_N _ _
  · exact sm_ints _ _ h⟩
/-! the source of draws -/
structure Bx (M : Mem) (r c : Nat) : Prop where
  ex : ∃ x y z : Nat, M[r]? = some (.lst [N x, N y, N z]) ∧ y < 2 ^ 62 ∧ z ≤ c
theorem Bx.mono {M : Mem} {r c c' : Nat} (h : Bx M r c) (l : c ≤ c') : Bx M r c' := let ⟨x, y, z, a, b, d⟩ := h.ex; ⟨x, y, z, a, b, by omega⟩
theorem Bx.lt {M : Mem} {r c : Nat} (h : Bx M r c) : r < M.length := by
  obtain ⟨x, y, z, a, _⟩ := h.ex
  exact (List.getElem?_eq_some_iff.mp a).1
/-- only the source has changed -/
structure Tk (r c : Nat) (M M' : Mem) : Prop where
  b : Bx M' r c
  s : ∃ o, M' = M.set r o
theorem Tk.len {r c : Nat} {M M' : Mem} (t : Tk r c M M') : M'.length = M.length := by obtain ⟨o, rfl⟩ := t.s; simp
theorem Tk.ne {r c : Nat} {M M' : Mem} (t : Tk r c M M') {k : Nat} (h : k ≠ r) : M'[k]? = M[k]? := by
  obtain ⟨o, rfl⟩ := t.s
  exact List.getElem?_set_ne (fun q => h q.symm)
theorem Tk.refl {r c : Nat} {M : Mem} (h : Bx M r c) : Tk r c M M := ⟨h, by
  obtain ⟨x, y, z, a, _⟩ := h.ex
  have := (List.getElem?_eq_some_iff.mp a)
  obtain ⟨h1, h2⟩ := this
  exact ⟨M[r], by simp⟩⟩
theorem Tk.trans {r c c' : Nat} {M M' M'' : Mem} (t : Tk r c M M') (u : Tk r c' M' M'') : Tk r c' M M'' := ⟨u.b, by
  obtain ⟨o, rfl⟩ := t.s
  obtain ⟨o', rfl⟩ := u.s
  exact ⟨o', by rw [List.set_set]⟩⟩
theorem Tk.mono {r c c' : Nat} {M M' : Mem} (t : Tk r c M M') (l : c ≤ c') : Tk r c' M M' := ⟨t.b.mono l, t.s⟩
/-- local things behind the memory -/
theorem Tk.app {r c : Nat} {M M' L : Mem} (t : Tk r c (M ++ L) M') (h : r < M.length) : ∃ M2, M' = M2 ++ L ∧ Tk r c M M2 := by
  obtain ⟨o, rfl⟩ := t.s
  refine ⟨M.set r o, by rw [List.set_append_left _ _ h], ?_, o, rfl⟩
  have := t.b
  rw [List.set_append_left _ _ h] at this
  obtain ⟨x, y, z, a, b⟩ := this.ex
  rw [List.getElem?_append_left (by simpa using h)] at a
  exact ⟨x, y, z, a, b⟩
theorem Bx.app {M L : Mem} {r c : Nat} (h : Bx M r c) : Bx (M ++ L) r c := by
  obtain ⟨x, y, z, a, b⟩ := h.ex
  exact ⟨x, y, z, by rw [List.getElem?_append_left h.lt]; exact a, b⟩
def tk1 (y z : Nat) : Nat := ((y + 48271 * z) * (39373 + z)) % 2147483647
def tk2 (y z : Nat) : Nat := ((tk1 y z + z + y / 1000003) * (tk1 y z % 40009 + 7)) % 2147483629
def tk3 (y z k : Nat) : Nat := ((tk2 y z * 48271 + tk1 y z) % 2147483587 / 64) % k
theorem f_take (bd r c k : Nat) (M : Mem) (h : Bx M r c) (hc : c < 2 ^ 40) (hk : 0 < k) (hk2 : k < 2 ^ 1000) : ∃ v M', v < k ∧ F__law_take bd [.ref r, N k] M = .ok (N v) M' ∧ Tk r (c + 1) M M' := by
  have hl := h.lt
  obtain ⟨x, y, z, hx, hy, hz⟩ := h.ex
  have hk3 : k.log2 < 9000 := by
    have := (Nat.log2_lt (by omega)).mpr hk2
    omega
  have hx2 := (List.getElem?_eq_some_iff.mp hx).2
  have hc' : c < 1099511627776 := hc
  have hy' : y < 4611686018427387904 := hy
  by_cases h0 : 0 < x
  · refine ⟨x % k, M.set r (.lst [N (x / k), N y, N z]), Nat.mod_lt _ hk, ?_, ⟨x / k, y, z, by simp [hl], hy, by omega⟩, _, rfl⟩
    simp [F__law_take, B__law_take, hx2, h0, hk, oDiv_N hk hk3, hl]
  · have h0' : x = 0 := by omega
    subst h0'
    refine ⟨tk3 y (z + 1) k, M.set r (.lst [N 0, N y, N (z + 1)]), Nat.mod_lt _ hk, ?_, ⟨0, y, z + 1, by simp [hl], hy, by omega⟩, _, rfl⟩
    have m1 : ∀ M', oMul M' (N (y + 48271 * (z + 1))) (N (39373 + (z + 1))) = some (N ((y + 48271 * (z + 1)) * (39373 + (z + 1)))) := fun M' => oMul_l (by omega)
    have m2 : ∀ M' a b, oMul M' (N a) (N (b % 40009 + 7)) = some (N (a * (b % 40009 + 7))) := fun M' a b => oMul_r (by omega)
    simp [F__law_take, B__law_take, hx2, hl, m1, m2, tk3, tk2, tk1, hk]
end Q
set_option Elab.async false
set_option linter.all false
set_option maxRecDepth 100000
set_option maxHeartbeats 4000000
set_option exponentiation.threshold 5000
namespace Q
open Sh PySem
theorem lt_1000 {k : Nat} (h : k < 18446744073709551616) : k < 2 ^ 1000 := Nat.lt_trans (show k < 2 ^ 64 from h) (Nat.pow_lt_pow_right (by omega) (by omega))
theorem f_of_lst (bd r c : Nat) (ds : List D) (M : Mem) (h : Bx M r c) (hc : c < 2 ^ 40) (h0 : 0 < ds.length) (h1 : ds.length < 2 ^ 1000) (hf : ∀ x ∈ ds, x.flat = true) :
    ∃ x M', x ∈ ds ∧ F__law_of bd [.ref r, .lst ds] M = .ok x M' ∧ Tk r (c + 1) M M' := by
  obtain ⟨v, M', hv, e, t⟩ := f_take M.length r c ds.length M h hc h0 h1
  have hx := List.getElem_mem hv
  refine ⟨ds[v], M', hx, ?_, t⟩
  simp [F__law_of, B__law_of, e, hv, hf _ hx, t.len]
theorem f_of_ref (bd r c s : Nat) (ds : List D) (M : Mem) (h : Bx M r c) (hc : c < 2 ^ 40) (hs : M[s]? = some (.lst ds)) (hsr : s ≠ r) (h0 : 0 < ds.length) (h1 : ds.length < 2 ^ 1000) (hf : ∀ x ∈ ds, x.flat = true) :
    ∃ x M', x ∈ ds ∧ F__law_of bd [.ref r, .ref s] M = .ok x M' ∧ Tk r (c + 1) M M' := by
  obtain ⟨v, M', hv, e, t⟩ := f_take M.length r c ds.length M h hc h0 h1
  have hx := List.getElem_mem hv
  refine ⟨ds[v], M', hx, ?_, t⟩
  have hs' := t.ne hsr
  rw [hs] at hs'
  simp [F__law_of, B__law_of, e, hv, hs, hs', hf _ hx, t.len]
theorem f_wide (bd r c n : Nat) (M : Mem) (h : Bx M r c) (hc : c + n + 1 < 2 ^ 40) (hn : n ≤ 820) :
    ∃ v M', v < 2 ^ n ∧ F__law_wide bd [.ref r, N n] M = .ok (N v) M' ∧ Tk r (c + n + 1) M M' := by
  have hn4 : n ≤ 100000 := by omega
  obtain ⟨e', M', h1, h2⟩ := for_range (bd := M.length) (M := M) (e := [some (.ref r), some (N n), some (N 0), none]) (tg := gNm 3)
    (body := (sSet 2 (eOp oCat (eOp oMul (eV 2) (eC (.int 1048576))) (eCall F__law_take (aCons (eV 0) (aCons (eC (.int 1048576)) aNil))))))
    (n / 20 + 1) (fun i e M' => ∃ x z, e = [some (.ref r), some (N n), some (N x), z] ∧ Tk r (c + i) M M')
    ⟨0, none, rfl, Tk.refl h⟩
    (fun i e M' hi ⟨x, z, he, t⟩ => by
      subst he
      obtain ⟨v, M2, hv, e2, t2⟩ := f_take M.length r (c + i) 1048576 M' t.b (by omega) (by omega) (lt_1000 (by omega))
      refine ⟨_, _, [some (.ref r), some (N n), some (N (x * 1048576 + v)), some (N i)], M2, rfl, ?_, _, _, rfl, t.trans t2⟩
      simp [e2])
  obtain ⟨x, z, rfl, t⟩ := h2
  refine ⟨x &&& (2 ^ n - 1), M', ?_, ?_, t.mono (by omega)⟩
  · have := Nat.two_pow_pos n
    exact Nat.lt_of_le_of_lt Nat.and_le_right (by omega)
  · simp [F__law_wide, B__law_wide, show n / 20 + 1 < 4611686018427387904 by omega]
    rw [h1]
    simp [hn4, oSub_le (show 1 ≤ 2 ^ n from Nat.two_pow_pos n), t.len]
theorem eraseIdx_perm {α : Type} : ∀ {l : List α} {i : Nat} (h : i < l.length), (l[i] :: l.eraseIdx i).Perm l
  | x :: l, 0, _ => .refl _
  | x :: l, i + 1, h => by
    simp only [List.getElem_cons_succ, List.eraseIdx_cons_succ]
    exact (List.Perm.swap _ _ _).trans ((eraseIdx_perm (l := l) (i := i) (by simpa using h)).cons x)
theorem f_pick (bd r c cnt : Nat) (d : D) (gs : List D) (M : Mem) (h : Bx M r c) (hc : c + cnt < 2 ^ 40) (hd : seqOf M d = some gs) (hg : gs.length < 100000) (hf : ∀ x ∈ gs, x.flat = true) :
    ∃ es rest M', (es ++ rest).Perm gs ∧ es.length = min cnt gs.length ∧ F__law_pick bd [.ref r, d, N cnt] M = .ok (.lst es) M' ∧ Tk r (c + cnt) M M' := by
  have hl := h.lt
  have hd' : lSeq M [d] = some gs := hd
  obtain ⟨e', M', h1, h2⟩ := for_range (bd := M.length) (M := M ++ [.lst gs, .lst []]) (e := [some (.ref r), some d, some (N cnt), none, some (.ref M.length), some (.ref (M.length + 1))]) (tg := gNm 3)
    (body := (sDrop (eMt mAppend (eV 5) (aCons (eMt mPopAt (eV 4) (aCons (eCall F__law_take (aCons (eV 0) (aCons (eCB cLen (aCons (eV 4) aNil)) aNil))) aNil)) aNil))))
    (min cnt gs.length) (fun i e M' => ∃ z M1 es rest, e = [some (.ref r), some d, some (N cnt), z, some (.ref M.length), some (.ref (M.length + 1))] ∧ M' = M1 ++ [.lst rest, .lst es] ∧ Tk r (c + i) M M1 ∧ (es ++ rest).Perm gs ∧ es.length = i)
    ⟨none, M, [], gs, rfl, rfl, Tk.refl h, .refl _, rfl⟩
    (fun i e M' hi ⟨z, M1, es, rest, he, hM, t, hp, hn⟩ => by
      subst he; subst hM
      have hlen := hp.length_eq
      rw [List.length_append] at hlen
      have tl := t.len
      obtain ⟨v, M2, hv, e2, t2⟩ := f_take M.length r (c + i) rest.length (M1 ++ [.lst rest, .lst es]) t.b.app (by omega) (by omega) (lt_1000 (by omega))
      obtain ⟨M3, rfl, t3⟩ := t2.app (by omega)
      have tl3 := t3.len
      have hfx : rest[v].flat = true := hf _ (hp.mem_iff.mp (List.mem_append_right _ (List.getElem_mem hv)))
      refine ⟨_, _, [some (.ref r), some d, some (N cnt), some (N i), some (.ref M.length), some (.ref (M.length + 1))], M3 ++ [.lst (rest.eraseIdx v), .lst (es ++ [rest[v]])], rfl, ?_, _, M3, _, _, rfl, rfl, (t.trans t3), ?_, ?_⟩
      · simp [tl, tl3, e2, ppM_lst hv (by omega), hfx, show es.length < 16777216 by omega]
      · rw [List.append_assoc]
        exact ((List.Perm.refl es).append (eraseIdx_perm hv)).trans hp
      · simp [hn])
  obtain ⟨z, M1, es, rest, rfl, rfl, t, hp, hn⟩ := h2
  refine ⟨es, rest, M1, hp, hn, ?_, t.mono (by omega)⟩
  simp [F__law_pick, B__law_pick, hd', show min cnt gs.length < 4611686018427387904 by omega]
  rw [h1]
  simp
  have hes : ∀ x ∈ es, x.flat = true := fun x hx => hf x (hp.mem_iff.mp (List.mem_append_left _ hx))
  have tl := t.len
  rw [frz_ref (j := M.length + 1) (es := es) (by omega) (by simp [tl]) hes]
  simp [tl]
theorem lsM_lt {M : Mem} : True := trivial
/-! mixed -/
theorem f_mixed_N (n bd r k : Nat) (M : Mem) : F__law_mixed (n + 1) bd [.ref r, N k] M = .ok (N k) M := by
  rw [F__law_mixed]; simp [B__law_mixed, isT]
theorem f_mixed_ints (n bd r c : Nat) (cs : List Nat) (M : Mem) (h : Bx M r c) (hc : c < 2 ^ 40) (hl : cs.length ≤ 16777216) :
    ∃ d' M', mx (n + 1) d' (.tup (cs.map N)) ∧ F__law_mixed (n + 2) bd [.ref r, .tup (cs.map N)] M = .ok d' M' ∧ Tk r (c + 1) M M' := by
  obtain ⟨v, M', hv, e, t⟩ := f_take M.length r c 2 M h hc (by omega) (lt_1000 (by omega))
  have hr : runS (lcBody M.length [some (.ref r), some (.tup (cs.map N)), none, none] (gNm 3) bYes (eCall (F__law_mixed (n + 1)) (aCons (eV 0) (aCons (eV 3) aNil)))) (fun _ => some (cs.map N)) [] M = .ok (cs.map N) M :=
    run_map cs N hl fun x hx => ⟨_, rfl, rfl, fun _ => by simp [f_mixed_N]⟩
  have hm : ∀ d', (d' = .tup (cs.map N) ∨ d' = .lst (cs.map N)) → mx (n + 1) d' (.tup (cs.map N)) := fun d' q => by
    obtain ⟨ds', h1, h2, h3, h4⟩ := mx_ints n cs hl
    rcases h1 with h1 | h1 <;> cases h1
    exact ⟨_, q, h2, h3, h4⟩
  by_cases hv0 : v = 0
  · subst hv0
    refine ⟨_, M', hm _ (.inr rfl), ?_, t⟩
    rw [F__law_mixed]; simp [B__law_mixed, isT, hr, e, t.len]
  · refine ⟨_, M', hm _ (.inl rfl), ?_, t⟩
    rw [F__law_mixed]; simp [B__law_mixed, isT, hr, e, t.len, hv0]
theorem f_mixed_T (n bd r c m w : Nat) (cs : List Nat) (M : Mem) (h : Bx M r c) (hc : c + 1 < 2 ^ 40) (hl : cs.length ≤ 16777216) :
    ∃ d' M', mx (n + 2) d' (tT m w cs) ∧ F__law_mixed (n + 3) bd [.ref r, tT m w cs] M = .ok d' M' ∧ Tk r (c + 2) M M' := by
  obtain ⟨d1, M1, hm1, e1, t1⟩ := f_mixed_ints n M.length r c cs M h (by omega) hl
  obtain ⟨v, M', hv, e, t⟩ := f_take M.length r (c + 1) 2 M1 t1.b (by omega) (by omega) (lt_1000 (by omega))
  have hr : runS (lcBody M.length [some (.ref r), some (tT m w cs), none, none] (gNm 3) bYes (eCall (F__law_mixed (n + 2)) (aCons (eV 0) (aCons (eV 3) aNil)))) (fun _ => some [N m, N w, .tup (cs.map N)]) [] M = .ok [N m, N w, d1] M1 := by
    simp [runS, goS, lcBody, turnB, f_mixed_N, e1]
  have hf1 : d1.flat = true := by
    obtain ⟨ds', h1, h2, h3, h4⟩ := hm1
    have : flatL ds' = true := flatL_all fun x hx => by
      obtain ⟨i, hi, ei⟩ := List.mem_iff_getElem.mp hx
      have hi' : i < cs.length := by rw [List.length_map] at h2; omega
      have h5 := h4 i x (N cs[i]) (by rw [List.getElem?_eq_getElem hi, ei]) (by rw [List.getElem?_map, List.getElem?_eq_getElem]; rfl)
      have : x = N cs[i] := by cases n <;> exact h5
      rw [this]; rfl
    rcases h1 with rfl | rfl <;> exact this
  have hm : ∀ d', (d' = .tup [N m, N w, d1] ∨ d' = .lst [N m, N w, d1]) → mx (n + 2) d' (tT m w cs) := fun d' q => by
    obtain ⟨ds', h1, h2, h3, h4⟩ := mx_three (n := n + 1) (mx_N _ m) (mx_N _ w) hm1
    rcases h1 with h1 | h1 <;> cases h1
    exact ⟨_, q, h2, h3, h4⟩
  have tt := (t1.trans t)
  by_cases hv0 : v = 0
  · subst hv0
    refine ⟨_, M', hm _ (.inr rfl), ?_, tt⟩
    rw [F__law_mixed]; simp [B__law_mixed, isT, hr, e, tt.len, hf1]
  · refine ⟨_, M', hm _ (.inl rfl), ?_, tt⟩
    rw [F__law_mixed]; simp [B__law_mixed, isT, hr, e, tt.len, hv0, hf1]
/-! pairs -/
def pD (p : Nat × Nat) : D := .tup [N p.1, N p.2]
def prs (m i : Nat) : List (Nat × Nat) := (List.range i).flatMap fun i => (List.range' i (m - i)).map fun j => (i, j)
theorem flat_pD (p : Nat × Nat) : (pD p).flat = true := rfl
theorem prs_len (m i : Nat) : (prs m i).length ≤ m * i := by
  induction i with
  | zero => simp [prs]
  | succ i ih =>
    unfold prs at ih ⊢
    rw [List.range_succ, List.flatMap_append, List.length_append, Nat.mul_succ]
    simp at ih ⊢
    omega
theorem f_pairs (bd m : Nat) (M : Mem) (hm : m ≤ 1000) : F__law_pairs bd [N m] M = .ok (.lst ((prs m m).map pD)) M := by
  obtain ⟨e', M', h1, h2⟩ := for_range (bd := M.length) (M := M ++ [.lst []]) (e := [some (N m), some (.ref M.length), none, none]) (tg := gNm 2)
    (body := (sDrop (eMt mExtend (eV 1) (aCons (eLc (iRg2 (aCons (eV 2) (aCons (eV 0) aNil))) [3] (gNm 3) bYes (eTup (aCons (eV 2) (aCons (eV 3) aNil)))) aNil))))
    m (fun i e M' => ∃ z, e = [some (N m), some (.ref M.length), z, none] ∧ M' = M ++ [.lst ((prs m i).map pD)])
    ⟨none, rfl, rfl⟩
    (fun i e M' hi ⟨z, he, hM⟩ => by
      subst he; subst hM
      refine ⟨_, _, [some (N m), some (.ref M.length), some (N i), none], M ++ [.lst ((prs m (i + 1)).map pD)], rfl, ?_, _, rfl, rfl⟩
      have hr : runS (lcBody M.length [some (N m), some (.ref M.length), some (N i), none] (gNm 3) bYes (eTup (aCons (eV 2) (aCons (eV 3) aNil)))) (fun _ => some ((List.range' i (m - i)).map N)) [] (M ++ [.lst ((prs m i).map pD)]) = .ok ((List.range' i (m - i)).map fun j => pD (i, j)) (M ++ [.lst ((prs m i).map pD)]) :=
        run_map _ _ (by simp; omega) fun x hx => ⟨_, rfl, rfl, fun _ => by simp [pD]⟩
      have hp : (prs m (i + 1)).map pD = (prs m i).map pD ++ (List.range' i (m - i)).map fun j => pD (i, j) := by
        unfold prs
        rw [List.range_succ, List.flatMap_append, List.map_append]
        simp [Function.comp_def]
      have hll := prs_len m i
      have hll2 : m * i ≤ 1000 * 1000 := Nat.mul_le_mul hm (by omega)
      simp [hr, show i < 4611686018427387904 by omega, show m < 4611686018427387904 by omega]
      rw [exM_lst]
      · simp [hp]
      · simp [pD]
      · simp; omega)
  obtain ⟨z, rfl, rfl⟩ := h2
  simp [F__law_pairs, B__law_pairs, show m < 4611686018427387904 by omega]
  rw [h1]
  simp
  rw [frz_ref (j := M.length) (es := (prs m m).map pD) (by omega) (by simp) (fun x hx => by obtain ⟨p, _, rfl⟩ := List.mem_map.mp hx; rfl)]
  simp
end Q
set_option Elab.async false
set_option linter.all false
set_option maxRecDepth 100000
set_option maxHeartbeats 4000000
set_option exponentiation.threshold 5000
namespace Q
open Sh PySem
theorem cells_loop (bd : Nat) (d : D) (M0 : Mem) (hb : bd ≤ M0.length) (xs : List Int) (hl : xs.length ≤ 63) (z : Int) :
    ∃ e' z', loopF (gTp 2 (gsCons (gNm 3) (gsCons (gNm 4) gsNil))) (sSeq (sSet 5 (eOp oMod (eCB cInt (aCons (eV 3) aNil)) (eV 1)))
  (sAsg (eOp oCat (eOp oIx (eV 2) (eV 5)) (eOp oMul (eV 4) (eOp oCat (eV 3) (eC (.int 2))))) (gSb (eV 2) (eV 5)))) (fun _ => some (xs.zipIdx.map fun p => D.tup [N p.2, D.int p.1])) (xs.zipIdx.length + 1) 0 bd [some d, some (N 1), some (.ref M0.length), none, none, none] (M0 ++ [.lst [.int z]]) = .nx e' (M0 ++ [.lst [.int z']]) ∧ e'[2]? = some (some (.ref M0.length)) := by
  obtain ⟨e', M', h1, h2⟩ := for_xs (bd := bd) (M := M0 ++ [.lst [.int z]]) (e := [some d, some (N 1), some (.ref M0.length), none, none, none]) (tg := gTp 2 (gsCons (gNm 3) (gsCons (gNm 4) gsNil))) (body := sSeq (sSet 5 (eOp oMod (eCB cInt (aCons (eV 3) aNil)) (eV 1)))
  (sAsg (eOp oCat (eOp oIx (eV 2) (eV 5)) (eOp oMul (eV 4) (eOp oCat (eV 3) (eC (.int 2))))) (gSb (eV 2) (eV 5)))) (φ := fun p : Int × Nat => D.tup [N p.2, D.int p.1]) xs.zipIdx
    (fun i e M' => ∃ a b c w, e = [some d, some (N 1), some (.ref M0.length), a, b, c] ∧ M' = M0 ++ [.lst [.int w]]) ⟨_, _, _, _, rfl, rfl⟩
    (fun i x e M' hx ⟨a, b, c, w, he, hM⟩ => by
      subst he; subst hM
      obtain ⟨x1, k⟩ := x
      have hk : k < 63 := by
        have := List.mem_zipIdx (List.mem_of_getElem? hx)
        simp at this
        omega
      refine ⟨[some d, some (N 1), some (.ref M0.length), some (N k), some (.int x1), c], _, [some d, some (N 1), some (.ref M0.length), some (N k), some (.int x1), some (N 0)], M0 ++ [.lst [.int (w + x1 * (k + 2 : Nat))]], by simp; rfl, ?_, _, _, _, _, rfl, rfl⟩
      simp [show k + 2 < 18446744073709551616 by omega, Nat.mod_one])
  obtain ⟨a, b, c, w, rfl, rfl⟩ := h2
  exact ⟨_, w, h1, rfl⟩
theorem enum_ints (xs : List Int) : enumD (xs.map D.int) = xs.zipIdx.map fun p => D.tup [N p.2, D.int p.1] := by
  unfold enumD
  rw [List.zipIdx_map, List.map_map]
  rfl
theorem cut_map (ns : List Int) (lo hi : Option Int) : ∃ xs : List Int, cutD (ns.map D.int) lo hi = xs.map D.int ∧ xs.length ≤ ns.length :=
  ⟨(ns.drop _).take _, by unfold cutD; rw [List.map_take, List.map_drop], by rw [List.length_take, List.length_drop]; omega⟩
theorem f_cells (bd : Nat) (ns : List Int) (M : Mem) (hl : ns.length ≤ 63) : ∃ z : Int, F__law_cells bd [.scr (ns.map D.int), N 1] M = .ok (.lst [.int z]) M := by
  obtain ⟨xs, hx, hxl⟩ := cut_map ns (some ((1 : Nat) : Int)) (some ((63 : Nat) : Int))
  have h0 := cut_to (ns.map D.int) 1
  cases ns with
  | nil =>
    obtain ⟨e', z', h1, h2⟩ := cells_loop M.length (.scr []) (M ++ [.lst []]) (by simp) xs (Nat.le_trans hxl hl) 0
    refine ⟨z', ?_⟩
    simp at h0 h1 h2 hx
    have e0 : D.int 0 = N 0 := rfl
    rw [e0] at h1
    simp [F__law_cells, B__law_cells, h0, hx, enum_ints]
    rw [h1]
    simp [h2]
    rw [frz_ref (j := M.length + 1) (es := [.int z']) (by omega) (by simp) (by simp)]
    simp
  | cons b r =>
    obtain ⟨e', z', h1, h2⟩ := cells_loop M.length (.scr ((b :: r).map D.int)) M (by simp) xs (Nat.le_trans hxl hl) b
    refine ⟨z', ?_⟩
    simp at h0 h1 h2 hx
    simp [F__law_cells, B__law_cells, h0, hx, enum_ints]
    rw [h1]
    simp [h2]
    rw [frz_ref (j := M.length) (es := [.int z']) (by omega) (by simp) (by simp)]
    simp
theorem f_box (z : Int) : ∃ x y : Nat, F__law_box 0 [.lst [.int z], N 0] [] = .ok (.ref 0) [.lst [N x, N y, N 0]] ∧ y < 2 ^ 62 := by
  have h1 : (z % 2305843009213693951).toNat + 8900000 < 2 ^ 62 := by omega
  by_cases h : 10 ^ 18 ≤ z.natAbs
  · refine ⟨z.natAbs * 1, _, ?_, h1⟩
    simp [F__law_box, B__law_box, h]
  · refine ⟨0, _, ?_, h1⟩
    simp [F__law_box, B__law_box, h]
end Q
set_option Elab.async false
set_option linter.all false
set_option maxRecDepth 100000
set_option maxHeartbeats 4000000
set_option exponentiation.threshold 5000
namespace Q
open Sh PySem
/-! sorted(set(...)) -/
def ddN : List Nat → List Nat
  | [] => []
  | x :: r => x :: (ddN r).filter (fun y => !decide (y = x))
theorem ddup_N : ∀ l : List Nat, ddup (l.map Int.ofNat) = (ddN l).map Int.ofNat
  | [] => rfl
  | x :: r => by
    show Int.ofNat x :: (ddup (r.map Int.ofNat)).filter _ = Int.ofNat x :: ((ddN r).filter _).map Int.ofNat
    rw [ddup_N r, List.filter_map]
    congr 2
    refine List.filter_congr fun y _ => ?_
    show (!decide (Int.ofNat y = Int.ofNat x)) = !decide (y = x)
    by_cases h : y = x
    · subst h; simp
    · have : ¬ Int.ofNat y = Int.ofNat x := fun q => h (Int.ofNat.inj q)
      rw [decide_eq_false h, decide_eq_false this]
theorem ddN_mem {a : Nat} : ∀ {l : List Nat}, a ∈ ddN l → a ∈ l
  | x :: r, h => by
    rcases List.mem_cons.mp h with rfl | h
    · exact List.mem_cons_self ..
    · exact List.mem_cons_of_mem _ (ddN_mem (List.mem_filter.mp h).1)
theorem ddN_nd : ∀ l : List Nat, (ddN l).Nodup
  | [] => .nil
  | x :: r => List.nodup_cons.mpr ⟨fun h => by have := (List.mem_filter.mp h).2; simp at this, (ddN_nd r).filter _⟩
theorem ddN_len : ∀ l : List Nat, (ddN l).length ≤ l.length
  | [] => Nat.le_refl _
  | x :: r => by
    have h1 := List.length_filter_le (fun y => !decide (y = x)) (ddN r)
    have h2 := ddN_len r
    show ((ddN r).filter _).length + 1 ≤ r.length + 1
    omega
def ssK (d : D) (M1 : Mem) : R D := lftL (lSortSet M1 d) M1
@[simp] theorem eSortSet_eq {bd : Nat} {e : Sh.Env} {M : Mem} {f : EF} : eSortSet f bd e M = (f bd e M).bind ssK := id rfl
@[simp] theorem ssK_eq {M : Mem} {d : D} : ssK d M = lftL (lSortSet M d) M := id rfl
theorem lSortSet_N {M : Mem} {n : Nat} {l : List Nat} (h : M[n]? = some (.lst (l.map N))) (hl : l.length < 64) : lSortSet M (.ref n) = some ((srtN (ddN l)).map N) := by
  unfold lSortSet
  rw [lstOf_ref h, Option.bind_some, intsOf_N]
  simp only
  rw [List.length_map, if_pos hl, ddup_N, srtI_N, map_N]
theorem pow_40 {m : Nat} (h : m ≤ 820) : 2 ^ m < 2 ^ 1000 := pow_big h
theorem f_some_told (bd r c m : Nat) (M : Mem) (h : Bx M r c) (hc : c + 100 < 2 ^ 40) (hm : m ≤ 820) :
    ∃ w cs M', TT m w cs ∧ F__law_some_told bd [.ref r, N m, N 4] M = .ok (tT m w cs) M' ∧ Tk r (c + 100) M M' := by
  have hl := h.lt
  have hm4 : m ≤ 100000 := by omega
  have hp := Nat.two_pow_pos m
  obtain ⟨v, M1, hv, e1, t1⟩ := f_take M.length r c 5 (M ++ [.lst []]) h.app (by omega) (by omega) (lt_1000 (by omega))
  obtain ⟨M1, rfl, u1⟩ := t1.app hl
  have tl1 := u1.len
  obtain ⟨e', M', h1, h2⟩ := for_range (bd := M.length) (M := M1 ++ [.lst []]) (e := [some (.ref r), some (N m), some (N 4), some (.ref M.length), none]) (tg := gNm 4)
    (body := (sDrop (eMt mAppend (eV 3) (aCons (eCall F__law_of (aCons (eV 0) (aCons (eLst (aCons (eC (.int 0)) (aCons (eOp oSub (eOp oShl (eC (.int 1)) (eV 1)) (eC (.int 1))) (aCons (eCall F__law_take (aCons (eV 0) (aCons (eOp oShl (eC (.int 1)) (eV 1)) aNil))) (aCons (eCall F__law_take (aCons (eV 0) (aCons (eOp oShl (eC (.int 1)) (eCB cMin2 (aCons (eV 1) (aCons (eC (.int 4)) aNil)))) aNil))) aNil))))) aNil))) aNil))))
    v (fun i e M' => ∃ z M2 l, e = [some (.ref r), some (N m), some (N 4), some (.ref M.length), z] ∧ M' = M2 ++ [.lst (l.map N)] ∧ Tk r (c + 1 + 3 * i) M M2 ∧ l.length = i ∧ ∀ x ∈ l, x < 2 ^ m)
    ⟨none, M1, [], rfl, rfl, u1, rfl, by simp⟩
    (fun i e M' hi ⟨z, M2, l, he, hM, t, hn, hb⟩ => by
      subst he; subst hM
      have tl := t.len
      obtain ⟨a, M3, ha, e2, t2⟩ := f_take M.length r (c + 1 + 3 * i) (2 ^ m) (M2 ++ [.lst (l.map N)]) t.b.app (by omega) hp (pow_40 hm)
      obtain ⟨M3, rfl, u2⟩ := t2.app (by omega)
      have tl2 := u2.len
      obtain ⟨b, M4, hb4, e3, t3⟩ := f_take M.length r (c + 1 + 3 * i + 1) (2 ^ min m 4) (M3 ++ [.lst (l.map N)]) u2.b.app (by omega) (Nat.two_pow_pos _) (pow_40 (by omega))
      obtain ⟨M4, rfl, u3⟩ := t3.app (by omega)
      have tl3 := u3.len
      obtain ⟨x, M5, hx, e4, t4⟩ := f_of_lst M.length r (c + 1 + 3 * i + 1 + 1) [N 0, N (2 ^ m - 1), N a, N b] (M4 ++ [.lst (l.map N)]) u3.b.app (by omega) (by simp) (lt_1000 (by simp)) (by simp)
      obtain ⟨M5, rfl, u4⟩ := t4.app (by omega)
      have tl4 := u4.len
      have hxk : ∃ k, x = N k ∧ k < 2 ^ m := by
        simp at hx
        rcases hx with rfl | rfl | rfl | rfl
        · exact ⟨_, rfl, hp⟩
        · exact ⟨_, rfl, by omega⟩
        · exact ⟨_, rfl, ha⟩
        · exact ⟨_, rfl, Nat.lt_of_lt_of_le hb4 (Nat.pow_le_pow_right (by omega) (by omega))⟩
      obtain ⟨k, rfl, hk⟩ := hxk
      refine ⟨_, _, [some (.ref r), some (N m), some (N 4), some (.ref M.length), some (N i)], M5 ++ [.lst ((l ++ [k]).map N)], rfl, ?_, _, M5, l ++ [k], rfl, rfl, (((t.trans u2).trans u3).trans u4).mono (by omega), by simp [hn], fun y hy => ?_⟩
      · simp [hm4, show min m 4 ≤ 100000 by omega, e2, oSub_le (show 1 ≤ 2 ^ m from hp), e3, e4, tl, tl2, tl3, tl4, show l.length < 16777216 by omega]
      · rcases List.mem_append.mp hy with hy | hy
        · exact hb y hy
        · rw [List.mem_singleton.mp hy]; exact hk)
  obtain ⟨z, M2, l, rfl, rfl, t, hn, hb⟩ := h2
  have tl := t.len
  obtain ⟨w, M3, hw, e3, t3⟩ := f_take M.length r (c + 1 + 3 * v) (2 ^ m) (M2 ++ [.lst (l.map N)]) t.b.app (by omega) hp (pow_40 hm)
  obtain ⟨M3, rfl, u3⟩ := t3.app (by omega)
  have tl3 := u3.len
  refine ⟨w, srtN (ddN l), M3, ⟨hm, hw, ?_, fun x hx => hb x (ddN_mem ((srtN_perm _).mem_iff.mp hx)), srtN_asc (ddN_nd l)⟩, ?_, (t.trans u3).mono (by omega)⟩
  · rw [(srtN_perm _).length_eq]; have := ddN_len l; omega
  · have hs : lSortSet (M3 ++ [.lst (l.map N)]) (.ref M.length) = some ((srtN (ddN l)).map N) := lSortSet_N (by simp [tl, tl3]) (by omega)
    simp [F__law_some_told, B__law_some_told, e1, show v < 4611686018427387904 by omega]
    rw [h1]
    simp [hm4, e3, hs, tl3, tl]
end Q
set_option Elab.async false
set_option linter.all false
set_option maxRecDepth 100000
set_option maxHeartbeats 4000000
set_option exponentiation.threshold 5000
namespace Q
open Sh PySem
/-! sorted pairs -/
def fI (p : Nat × Nat) : Int × Int := ((p.1 : Int), (p.2 : Int))
def gI (p : Int × Int) : Nat × Nat := (p.1.toNat, p.2.toNat)
theorem gf (p : Nat × Nat) : gI (fI p) = p := by simp [gI, fI]
theorem prsOf_pD : ∀ ps : List (Nat × Nat), prsOf (ps.map pD) = some (ps.map fI)
  | [] => rfl
  | p :: ps => by
    show (prsOf (ps.map pD)).map (fun l => fI p :: l) = _
    rw [prsOf_pD ps]; rfl
def ltP (p q : Nat × Nat) : Prop := lexI (fI p) (fI q) = true
theorem lexI_f (p q : Nat × Nat) : lexI (fI p) (fI q) = if p.1 = q.1 then decide (p.2 < q.2) else decide (p.1 < q.1) := by
  show (if (p.1 : Int) = q.1 then decide ((p.2 : Int) < q.2) else decide ((p.1 : Int) < q.1)) = _
  by_cases h : p.1 = q.1
  · rw [if_pos h, if_pos (by omega)]; simp
  · rw [if_neg h, if_neg (by omega)]; simp
theorem sort_pairs (ps : List (Nat × Nat)) (hn : ps.Nodup) : ∃ qs : List (Nat × Nat), qs.Perm ps ∧ qs.Pairwise ltP ∧ ∀ M, lSort M [.lst (ps.map pD)] = some (qs.map pD) := by
  have hp := srtP_perm (ps.map fI)
  have hs := srtP_sorted (ps.map fI)
  have hfg : ∀ x ∈ srtP (ps.map fI), fI (gI x) = x := fun x hx => by
    obtain ⟨p, _, rfl⟩ := List.mem_map.mp (hp.mem_iff.mp hx)
    rw [gf]
  have hq : ((srtP (ps.map fI)).map gI).Perm ps := by
    have := hp.map gI
    rw [List.map_map] at this
    have e : ps.map (gI ∘ fI) = ps := by
      conv => rhs; rw [← List.map_id ps]
      exact List.map_congr_left fun p _ => gf p
    rw [e] at this
    exact this
  have hqf : ((srtP (ps.map fI)).map gI).map fI = srtP (ps.map fI) := by
    rw [List.map_map]
    conv => rhs; rw [← List.map_id (srtP (ps.map fI))]
    exact List.map_congr_left hfg
  refine ⟨(srtP (ps.map fI)).map gI, hq, ?_, fun M => ?_⟩
  · have hnd : ((srtP (ps.map fI)).map gI).Nodup := hq.nodup_iff.mpr hn
    generalize hQ : (srtP (ps.map fI)).map gI = qs at *
    rw [← hqf] at hs
    refine List.pairwise_iff_getElem.mpr fun i j hi hj hij => ?_
    have a := List.pairwise_iff_getElem.mp hs i j (by simpa using hi) (by simpa using hj) hij
    have b := List.pairwise_iff_getElem.mp hnd i j hi hj hij
    simp only [List.getElem_map] at a
    unfold leP at a
    unfold ltP
    rw [lexI_f] at a ⊢
    have hne : ¬ (qs[i].1 = qs[j].1 ∧ qs[i].2 = qs[j].2) := fun q => b (Prod.ext q.1 q.2)
    by_cases h1 : qs[i].1 = qs[j].1
    · rw [if_pos h1.symm] at a
      rw [if_pos h1]
      simp at a ⊢
      omega
    · rw [if_neg (fun q => h1 q.symm)] at a
      rw [if_neg h1]
      simp at a ⊢
      omega
  · have e2 : (srtP (ps.map fI)).map (fun p => D.tup [.int p.1, .int p.2]) = ((srtP (ps.map fI)).map gI).map pD := by
      rw [List.map_map]
      refine List.map_congr_left fun x hx => ?_
      have := hfg x hx
      show D.tup [.int x.1, .int x.2] = D.tup [.int (fI (gI x)).1, .int (fI (gI x)).2]
      rw [this]
    cases ps with
    | nil => rfl
    | cons p r =>
      rw [← e2]
      unfold lSort
      simp only [seqOf_lst]
      have : intsOf ((p :: r).map pD) = none := rfl
      rw [this]
      simp only [lstOf_lst]
      rw [prsOf_pD]
theorem oLtS_pD {M : Mem} (p q : Nat × Nat) : oLtS M (pD p) (pD q) = some (.bl (lexI (fI p) (fI q))) := by
  show some (D.bl (HT.lexLt [(p.1 : Int), (p.2 : Int)] [(q.1 : Int), (q.2 : Int)])) = _
  unfold lexI fI
  rw [HT.lexLt_cons, HT.lexLt_cons, HT.lexLt_nil_nil]
  simp only
  by_cases h1 : (p.1 : Int) = q.1
  · rw [if_pos h1, if_pos h1]
    by_cases h2 : (p.2 : Int) = q.2
    · rw [if_pos h2]; simp; omega
    · rw [if_neg h2]
  · rw [if_neg h1, if_neg h1]
/-! equations -/
abbrev Row := List (Nat × Nat) × Nat
def rD (r : Row) : D := .tup [.tup (r.1.map pD), N r.2]
abbrev eD (m : Nat) (rows : List Row) : D := .tup [N m, .tup (rows.map rD)]
structure RowOk (m : Nat) (r : Row) : Prop where
  asc : r.1.Pairwise ltP
  inn : ∀ p ∈ r.1, p.1 ≤ p.2 ∧ p.2 < m
  len : r.1.length ≤ 100
  bit : r.2 < 2
structure EqOk (m : Nat) (rows : List Row) : Prop where
  lo : 1 ≤ m
  hi : m ≤ 40
  len : rows.length ≤ 50
  row : ∀ r ∈ rows, RowOk m r
theorem prs_mem {m i : Nat} {p : Nat × Nat} (h : p ∈ prs m i) : p.1 ≤ p.2 ∧ p.2 < m := by
  unfold prs at h
  obtain ⟨a, ha, h⟩ := List.mem_flatMap.mp h
  obtain ⟨b, hb, rfl⟩ := List.mem_map.mp h
  have := List.mem_range'_1.mp hb
  simp only
  omega
theorem prs_nd (m : Nat) : ∀ i, (prs m i).Nodup := by
  intro i
  induction i with
  | zero => exact .nil
  | succ i ih =>
    unfold prs at ih ⊢
    rw [List.range_succ, List.flatMap_append, List.nodup_append]
    refine ⟨ih, ?_, ?_⟩
    · simp
      rw [List.Nodup, List.pairwise_map]
      exact (List.nodup_range' (s := i) (n := m - i)).imp fun h q => h (by simpa using q)
    · intro a ha b hb
      obtain ⟨x, hx, ha⟩ := List.mem_flatMap.mp ha
      obtain ⟨y, _, rfl⟩ := List.mem_map.mp ha
      simp at hb
      obtain ⟨z, hz, rfl⟩ := hb
      have := List.mem_range.mp hx
      intro q
      have := congrArg Prod.fst q
      simp at this
      omega
end Q
set_option Elab.async false
set_option linter.all false
set_option maxRecDepth 100000
set_option maxHeartbeats 4000000
set_option exponentiation.threshold 5000
namespace Q
open Sh PySem
theorem flat_rD (r : Row) : (rD r).flat = true := by
  show (flatL (r.1.map pD) && (true && true)) = true
  rw [flatL_map fun p _ => flat_pD p]; rfl
theorem f_some_eq (bd r c m : Nat) (M : Mem) (h : Bx M r c) (hc : c + 100 < 2 ^ 40) (hm1 : 1 ≤ m) (hm : m ≤ 40) :
    ∃ rows M', EqOk m rows ∧ F__law_some_equations bd [.ref r, N m, N 4] M = .ok (eD m rows) M' ∧ Tk r (c + 100) M M' := by
  have hl := h.lt
  have hpl := prs_len m m
  have hpl2 : m * m ≤ 40 * 40 := Nat.mul_le_mul hm hm
  obtain ⟨v, M1, hv, e1, t1⟩ := f_take M.length r c 5 (M ++ [.lst []]) h.app (by omega) (by omega) (lt_1000 (by omega))
  obtain ⟨M1, rfl, u1⟩ := t1.app hl
  have tl1 := u1.len
  obtain ⟨e', M', h1, h2⟩ := for_range (bd := M.length) (M := M1 ++ [.lst []]) (e := [some (.ref r), some (N m), some (N 4), some (.lst ((prs m m).map pD)), some (.ref M.length), none]) (tg := gNm 5)
    (body := (sDrop (eMt mAppend (eV 4) (aCons (eTup (aCons (eCB cTup (aCons (eCL lSort (aCons (eCall F__law_pick (aCons (eV 0) (aCons (eV 3) (aCons (eCall F__law_take (aCons (eV 0) (aCons (eC (.int 4)) aNil))) aNil)))) aNil)) aNil)) (aCons (eCall F__law_take (aCons (eV 0) (aCons (eC (.int 2)) aNil))) aNil))) aNil))))
    v (fun i e M' => ∃ z M2 l, e = [some (.ref r), some (N m), some (N 4), some (.lst ((prs m m).map pD)), some (.ref M.length), z] ∧ M' = M2 ++ [.lst (l.map rD)] ∧ Tk r (c + 1 + 6 * i) M M2 ∧ l.length = i ∧ ∀ x ∈ l, RowOk m x)
    ⟨none, M1, [], rfl, rfl, u1, rfl, by simp⟩
    (fun i e M' hi ⟨z, M2, l, he, hM, t, hn, hb⟩ => by
      subst he; subst hM
      have tl := t.len
      obtain ⟨a, M3, ha, e2, t2⟩ := f_take M.length r (c + 1 + 6 * i) 4 (M2 ++ [.lst (l.map rD)]) t.b.app (by omega) (by omega) (lt_1000 (by omega))
      obtain ⟨M3, rfl, u2⟩ := t2.app (by omega)
      have tl2 := u2.len
      obtain ⟨es, rest, M4, hp, hlen, e3, t3⟩ := f_pick M.length r (c + 1 + 6 * i + 1) a (.lst ((prs m m).map pD)) ((prs m m).map pD) (M3 ++ [.lst (l.map rD)]) u2.b.app (by omega) rfl (by simp; omega) (fun x hx => by
        obtain ⟨p, _, rfl⟩ := List.mem_map.mp hx; rfl)
      obtain ⟨M4, rfl, u3⟩ := t3.app (by omega)
      have tl3 := u3.len
      obtain ⟨b, M5, hb2, e4, t4⟩ := f_take M.length r (c + 1 + 6 * i + 1 + a) 2 (M4 ++ [.lst (l.map rD)]) u3.b.app (by omega) (by omega) (lt_1000 (by omega))
      obtain ⟨M5, rfl, u4⟩ := t4.app (by omega)
      have tl4 := u4.len
      have hes : ∃ ps : List (Nat × Nat), es = ps.map pD ∧ ps.Nodup ∧ ∀ p ∈ ps, p ∈ prs m m := by
        have hg : ∃ g : D → Nat × Nat, ∀ p, g (pD p) = p := ⟨fun d => match d with
          | .tup [.int a, .int b] => (a.toNat, b.toNat)
          | _ => (0, 0), fun p => by simp [pD, N]⟩
        obtain ⟨g, hg⟩ := hg
        have hmem : ∀ x ∈ es, ∃ p ∈ prs m m, pD p = x := fun x hx => by
          obtain ⟨p, hp1, hp2⟩ := List.mem_map.mp (hp.mem_iff.mp (List.mem_append_left _ hx))
          exact ⟨p, hp1, hp2⟩
        refine ⟨es.map g, ?_, ?_, fun p hpm => ?_⟩
        · rw [List.map_map]
          conv => lhs; rw [← List.map_id es]
          refine List.map_congr_left fun x hx => ?_
          obtain ⟨p, _, rfl⟩ := hmem x hx
          show pD p = pD (g (pD p))
          rw [hg]
        · have h3 := hp.map g
          rw [List.map_append, List.map_map] at h3
          have e : (prs m m).map (g ∘ pD) = prs m m := by
            conv => rhs; rw [← List.map_id (prs m m)]
            exact List.map_congr_left fun p _ => hg p
          rw [e] at h3
          exact (List.nodup_append.mp (h3.nodup_iff.mpr (prs_nd m m))).1
        · obtain ⟨x, hx, rfl⟩ := List.mem_map.mp hpm
          obtain ⟨p, hp1, rfl⟩ := hmem x hx
          rw [hg]; exact hp1
      obtain ⟨ps, rfl, hnd, hps⟩ := hes
      obtain ⟨qs, hqp, hqs, hsort⟩ := sort_pairs ps hnd
      have hql := hqp.length_eq
      rw [List.length_map] at hlen
      refine ⟨_, _, [some (.ref r), some (N m), some (N 4), some (.lst ((prs m m).map pD)), some (.ref M.length), some (N i)], M5 ++ [.lst ((l ++ [(qs, b)]).map rD)], rfl, ?_, _, M5, l ++ [(qs, b)], rfl, rfl, (((t.trans u2).trans u3).trans u4).mono (by omega), by simp [hn], fun y hy => ?_⟩
      · have hf := flatL_map (f := pD) (xs := qs) fun p _ => flat_pD p
        simp [e2, e3, hsort, e4, tl, tl2, tl3, tl4, hf, show l.length < 16777216 by omega, rD]
      · rcases List.mem_append.mp hy with hy | hy
        · exact hb y hy
        · rw [List.mem_singleton.mp hy]
          exact ⟨hqs, fun p hp => prs_mem (hps p (hqp.mem_iff.mp hp)), by simp; omega, hb2⟩)
  obtain ⟨z, M2, l, rfl, rfl, t, hn, hb⟩ := h2
  have tl := t.len
  refine ⟨l, M2, ⟨hm1, hm, by omega, hb⟩, ?_, t.mono (by omega)⟩
  have hf := flatL_map (f := rD) (xs := l) fun p _ => flat_rD p
  simp [F__law_some_equations, B__law_some_equations, f_pairs _ m _ (by omega), e1, show v < 4611686018427387904 by omega]
  rw [h1]
  simp [tl, hf]
end Q
set_option Elab.async false
set_option linter.all false
set_option maxRecDepth 100000
set_option maxHeartbeats 4000000
set_option exponentiation.threshold 5000
namespace Q
open Sh PySem
theorem oSub_m1 {M : Mem} {m : Nat} (h : 1 ≤ m) : oSub M (N m) (N 1) = some (N (m - 1)) := oSub_le h
theorem f_ascends_p (bd : Nat) (ps : List (Nat × Nat)) (M : Mem) (h : ps.Pairwise ltP) (hl : ps.length ≤ 16777216) : F_ascends bd [.tup (ps.map pD)] M = .ok (.bl true) M := by
  simp [F_ascends, B_ascends, oSub_N, rg1_sub hl]
  rw [run_map (List.range (ps.length - 1)) (fun _ => D.bl true) (by simp; omega)]
  · simp
  · intro x hx
    refine ⟨_, rfl, rfl, fun _ => ?_⟩
    have hx' := List.mem_range.mp hx
    have h1 : x < ps.length := by omega
    have h2 : x + 1 < ps.length := by omega
    have := List.pairwise_iff_getElem.mp h x (x + 1) h1 h2 (by omega)
    unfold ltP at this
    simp [h1, h2, oLtS_pD, this]
theorem f_ascends_pairs (bd : Nat) (ps : List (Nat × Nat)) (M : Mem) (h : ps.Pairwise ltP) (hl : ps.length ≤ 100) (hb : ∀ p ∈ ps, p.1 ≤ 40 ∧ p.2 ≤ 40) : F_ascends_pairs bd [.tup (ps.map pD)] M = .ok (.bl true) M := by
  have h1 : ∀ e1 : Option D, runS (lcBody M.length [some (.tup (ps.map pD)), none] (gNm 1) bYes (eAnd (eCall F_is_long (aCons (eV 1) (aCons (eC (.int 2)) aNil))) (eCall F_is_within (aCons (eOp oIx (eV 1) (eC (.int 0))) (aCons (eC (.int 0)) (aCons (eC (.int 40)) aNil)))))) (fun _ => some (ps.map pD)) [] M = .ok (ps.map fun _ => .bl true) M := fun _ =>
    run_map ps _ (by omega) fun p hp => ⟨_, rfl, rfl, fun _ => by simp [pD, hb p hp]⟩
  have h2 : ∀ e1 : Option D, runS (lcBody M.length [some (.tup (ps.map pD)), none] (gNm 1) bYes (eCall F_is_within (aCons (eOp oIx (eV 1) (eC (.int 1))) (aCons (eC (.int 0)) (aCons (eC (.int 40)) aNil))))) (fun _ => some (ps.map pD)) [] M = .ok (ps.map fun _ => .bl true) M := fun _ =>
    run_map ps _ (by omega) fun p hp => ⟨_, rfl, rfl, fun _ => by simp [pD, hb p hp]⟩
  simp at h1 h2
  simp [F_ascends_pairs, B_ascends_pairs, h1, h2, f_ascends_p _ _ _ h (by omega)]
theorem f_is_pair_row (bd m : Nat) (r : Row) (M : Mem) (h : RowOk m r) (hm : m ≤ 40) (hm1 : 1 ≤ m) : F_is_pair_row bd [.tup (r.1.map pD), N m] M = .ok (.bl true) M := by
  have hl := h.len
  simp [F_is_pair_row, B_is_pair_row, isT, f_ascends_pairs _ _ _ h.asc h.len (fun p hp => by have := h.inn p hp; omega)]
  rw [run_map r.1 (fun _ => D.bl true) (by omega)]
  · simp
  · intro p hp
    have := h.inn p hp
    refine ⟨_, rfl, rfl, fun _ => ?_⟩
    simp [pD, oSub_m1 hm1, show p.1 ≤ m - 1 by omega, show p.1 ≤ p.2 by omega, show p.2 ≤ m - 1 by omega]
theorem f_is_row (bd m : Nat) (r : Row) (M : Mem) (h : RowOk m r) (hm : m ≤ 40) (hm1 : 1 ≤ m) : F_is_row bd [rD r, N m] M = .ok (.bl true) M := by
  have := h.bit
  simp [F_is_row, B_is_row, rD, f_is_pair_row _ _ _ _ h hm hm1, F_is_bit, B_is_bit, show r.2 ≤ 1 by omega]
theorem f_is_equations (bd m : Nat) (rows : List Row) (M : Mem) (h : EqOk m rows) : F_is_equations bd [eD m rows] M = .ok (.bl true) M := by
  have h1 := h.lo
  have h2 := h.hi
  have h3 : rows.length ≤ 60 := by have := h.len; omega
  simp [F_is_equations, B_is_equations, isT, h1, h2, h3]
  rw [run_map rows (fun _ => D.bl true) (by omega)]
  · simp
  · intro r hr
    exact ⟨_, rfl, rfl, fun _ => by simp [f_is_row _ _ _ _ (h.row r hr) h2 h1]⟩
theorem mx_map {α : Type} {n : Nat} {f : α → D} {xs : List α} (hl : xs.length ≤ 16777216) (h : ∀ x ∈ xs, mx n (f x) (f x)) : mx (n + 1) (.tup (xs.map f)) (.tup (xs.map f)) := ⟨_, .inl rfl, rfl, by simpa using hl, fun i x' x hx' hx => by
  rw [hx] at hx'; cases hx'
  rw [List.getElem?_map] at hx
  obtain ⟨c, hc, rfl⟩ := Option.map_eq_some_iff.mp hx
  exact h c (List.mem_of_getElem? hc)⟩
theorem mx_eD {m : Nat} {rows : List Row} (h : EqOk m rows) : mx 8 (eD m rows) (eD m rows) :=
  mx_two (mx_N _ _) (mx_map (by have := h.len; omega) fun r hr => mx_two (mx_map (by have := (h.row r hr).len; omega) fun p _ => mx_two (mx_N _ _) (mx_N _ _)) (mx_N _ _))
theorem f_sure_equations (bd m : Nat) (rows : List Row) (M : Mem) (h : EqOk m rows) : F_sure_equations bd [eD m rows] M = .ok (eD m rows) M := by
  have hf : (eD m rows).flat = true := mx_flat (mx_eD h)
  simp [F_sure_equations, B_sure_equations, f_tupled (n := 8) _ _ _ _ (mx_eD h), f_is_equations _ _ _ _ h, hf]
/-! proofs -/
def wd (m : Nat) : Nat := m * (m + 1) / 2
theorem f_wide_of (bd m : Nat) (M : Mem) (h : m < 18446744073709551616) : F_wide_of bd [N m] M = .ok (N (wd m)) M := by
  simp [F_wide_of, B_wide_of, h, wd]
abbrev pfD (a b : D) : D := .tup [a, b]
structure PfOk (m w : Nat) (cs : List Nat) (v : Nat) (ds : List Nat) : Prop where
  a : TT m w cs
  b : TT (wd m) v ds
theorem f_is_proof_in (bd m w v : Nat) (cs ds : List Nat) (M : Mem) (h : PfOk m w cs v ds) : F_is_proof_in bd [N m, pfD (tT m w cs) (tT (wd m) v ds)] M = .ok (.bl true) M := by
  have := h.a.hn
  simp [F_is_proof_in, B_is_proof_in, f_is_told _ _ _ _ _ h.a, f_is_told _ _ _ _ _ h.b, f_wide_of _ _ _ (show m < 18446744073709551616 by omega)]
theorem f_is_proof (bd m w v : Nat) (rows : List Row) (cs ds : List Nat) (M : Mem) (he : EqOk m rows) (h : PfOk m w cs v ds) : F_is_proof bd [eD m rows, pfD (tT m w cs) (tT (wd m) v ds)] M = .ok (.bl true) M := by
  simp [F_is_proof, B_is_proof, f_sure_equations _ _ _ _ he, f_is_proof_in _ _ _ _ _ _ _ h]
theorem f_sure_proof (bd m w v : Nat) (rows : List Row) (cs ds : List Nat) (M : Mem) (h : PfOk m w cs v ds) : F_sure_proof bd [eD m rows, pfD (tT m w cs) (tT (wd m) v ds)] M = .ok (pfD (tT m w cs) (tT (wd m) v ds)) M := by
  have hm : mx 8 (pfD (tT m w cs) (tT (wd m) v ds)) (pfD (tT m w cs) (tT (wd m) v ds)) := mx_two (mx_T 5 h.a) (mx_T 5 h.b)
  have hf : (pfD (tT m w cs) (tT (wd m) v ds)).flat = true := mx_flat hm
  simp [F_sure_proof, B_sure_proof, f_tupled (n := 8) _ _ _ _ hm, f_is_proof_in _ _ _ _ _ _ _ h, hf]
/-! draws -/
theorem f_many_draws (bd m : Nat) (rows : List Row) (M : Mem) (h : EqOk m rows) : ∃ a b c, F_many_draws bd [eD m rows] M = .ok (.tup [N a, N (2 ^ (wd m + wd m)), N b, N c]) M := by
  have h1 := h.hi
  have h3 := h.len
  have hw : wd m ≤ 40 * 41 := by
    have : m * (m + 1) ≤ 40 * 41 := Nat.mul_le_mul h1 (by omega)
    unfold wd; omega
  have hm := show m < 18446744073709551616 by omega
  have s2 : ∀ (M : Mem) a b, cSum M [.tup [N a, N b]] = some (N (a + b)) := fun M a b => by
    show some (D.int ((a : Int) + ((b : Int) + 0))) = _
    rw [Int.add_zero]; rfl
  have s3 : ∀ (M : Mem) a b c, cSum M [.tup [N a, N b, N c]] = some (N (a + (b + c))) := fun M a b c => by
    show some (D.int ((a : Int) + ((b : Int) + ((c : Int) + 0)))) = _
    rw [Int.add_zero]; rfl
  have e21 : ¬ (Str.ofString "second" = Str.ofString "first") := by decide
  have e31 : ¬ (Str.ofString "product" = Str.ofString "first") := by decide
  have e32 : ¬ (Str.ofString "product" = Str.ofString "second") := by decide
  have e41 : ¬ (Str.ofString "rows" = Str.ofString "first") := by decide
  have e42 : ¬ (Str.ofString "rows" = Str.ofString "second") := by decide
  have e43 : ¬ (Str.ofString "rows" = Str.ofString "product") := by decide
  have k1 : ∀ bd, F_many_draws_in bd [eD m rows, .str (Str.ofString "first")] M = .ok (N (2 ^ (m + m))) M := fun bd => by
    simp [F_many_draws_in, B_many_draws_in, F_draw_sizes, B_draw_sizes, s2, show m + m ≤ 100000 by omega]
  have k2 : ∀ bd, F_many_draws_in bd [eD m rows, .str (Str.ofString "second")] M = .ok (N (2 ^ (wd m + wd m))) M := fun bd => by
    simp [F_many_draws_in, B_many_draws_in, F_draw_sizes, B_draw_sizes, s2, e21, f_wide_of _ _ _ hm, show wd m + wd m ≤ 100000 by omega]
  have k3 : ∀ bd, F_many_draws_in bd [eD m rows, .str (Str.ofString "product")] M = .ok (N (2 ^ (m + (m + wd m)))) M := fun bd => by
    simp [F_many_draws_in, B_many_draws_in, F_draw_sizes, B_draw_sizes, s3, e31, e32, f_wide_of _ _ _ hm, show m + (m + wd m) ≤ 100000 by omega]
  have k4 : ∀ bd, F_many_draws_in bd [eD m rows, .str (Str.ofString "rows")] M = .ok (N (2 ^ (rows.length + wd m))) M := fun bd => by
    simp [F_many_draws_in, B_many_draws_in, F_draw_sizes, B_draw_sizes, s2, e41, e42, e43, f_wide_of _ _ _ hm, show rows.length + wd m ≤ 100000 by omega]
  refine ⟨2 ^ (m + m), 2 ^ (m + (m + wd m)), 2 ^ (rows.length + wd m), ?_⟩
  have hr : runS (lcBody M.length [some (eD m rows), some (eD m rows), none] (gNm 2) bYes (eCall F_many_draws_in (aCons (eV 1) (aCons (eV 2) aNil)))) (fun _ => some [.str (Str.ofString "first"), .str (Str.ofString "second"), .str (Str.ofString "product"), .str (Str.ofString "rows")]) [] M = .ok [N (2 ^ (m + m)), N (2 ^ (wd m + wd m)), N (2 ^ (m + (m + wd m))), N (2 ^ (rows.length + wd m))] M := by
    simp [runS, goS, lcBody, turnB, k1, k2, k3, k4]
  simp [F_many_draws, B_many_draws, f_sure_equations _ _ _ _ h, k_KINDS, hr]
end Q
set_option Elab.async false
set_option linter.all false
set_option maxRecDepth 100000
set_option maxHeartbeats 4000000
set_option exponentiation.threshold 5000
namespace Q
open Sh PySem
/-! bits -/
def ib (n : Nat) : Nat := Builtin.Int.intBits (n : Int)
theorem ib_le {n m : Nat} : ib n ≤ m ↔ n < 2 ^ m := by
  unfold ib
  have := @intBits_le_iff m (n : Int)
  simpa using this
@[simp] theorem oBits_ib {n : Nat} : oBits (N n) = some (N (ib n)) := id rfl
theorem ib_xor {x o : Nat} (hx : 0 < x) (h : ib x = ib o) : ib (x ^^^ o) < ib x := by
  have h1 : 1 ≤ ib x := by
    by_cases q : ib x ≤ 0
    · have := ib_le.mp q; simp at this; omega
    · omega
  have hlt : x < 2 ^ ib x := ib_le.mp (Nat.le_refl _)
  have hlo : o < 2 ^ ib x := ib_le.mp (by omega)
  have hge : ¬ x < 2 ^ (ib x - 1) := fun q => by have := ib_le.mpr q; omega
  have hgo : ¬ o < 2 ^ (ib x - 1) := fun q => by have := ib_le.mpr q; omega
  obtain ⟨k, hk⟩ : ∃ k, ib x = k + 1 := ⟨ib x - 1, by omega⟩
  rw [hk] at hlt hlo hge hgo
  simp only [Nat.add_sub_cancel] at hge hgo
  have hp := Nat.two_pow_pos k
  have dx : x / 2 ^ k = 1 := by
    rw [Nat.pow_succ] at hlt
    exact Nat.div_eq_of_lt_le (by omega) (by omega)
  have dn : o / 2 ^ k = 1 := by
    rw [Nat.pow_succ] at hlo
    exact Nat.div_eq_of_lt_le (by omega) (by omega)
  have : (x ^^^ o) / 2 ^ k = 0 := by rw [Nat.xor_div_two_pow, dx, dn]; rfl
  have h2 : x ^^^ o < 2 ^ k := by
    rcases Nat.div_eq_zero_iff.mp this with h | h
    · omega
    · exact h
  have := ib_le.mpr h2
  omega
/-! the ladder -/
structure RungsOk (kvs : List (L2.Key × D)) (K B : Nat) : Prop where
  ok : ∀ (b : Nat) (v : D), getK kvs (.inl (b : Int)) = some v → ∃ o mk, v = .tup [N o, N mk] ∧ ib o = b ∧ mk < 2 ^ K ∧ o < 2 ^ B
theorem f_lowered (bd n n1 K B : Nat) (md kd : D) (kvs : List (L2.Key × D)) (row marks : Nat) (M : Mem) (h1 : M[n]? = some (.ins 0 [some md, some (.ref n1), some kd])) (h2 : M[n1]? = some (.dK kvs)) (hR : RungsOk kvs K B) (hr : row < 2 ^ B) (hB : B ≤ 10000) (hm : marks < 2 ^ K) :
    ∃ l mk, F_Ladder_lowered bd [.ref n, N row, N marks] M = .ok (.tup [N l, N mk]) M ∧ l < 2 ^ B ∧ mk < 2 ^ K := by
  obtain ⟨e', M', w1, w2⟩ := while_eq (bd := M.length) (c := bAnd (bV (eOp oGt (eV 1) (eC (.int 0)))) (bV (eOp oIn (eUn oBits (eV 1)) (eFld 0 1 (eV 0))))) (body := (sSeq (sAsg (eOp oIx (eFld 0 1 (eV 0)) (eUn oBits (eV 1))) (gTp 2 (gsCons (gNm 3) (gsCons (gNm 4) gsNil))))
  (sSet2 1 2 (aCons (eOp oXor (eV 1) (eV 3)) (aCons (eOp oXor (eV 2) (eV 4)) aNil)))))
    (fun k e M' => ∃ x y a b, e = [some (.ref n), some (N x), some (N y), a, b] ∧ M' = M ∧ k = ib x ∧ x < 2 ^ B ∧ y < 2 ^ K)
    (fun e M' => ∃ x y a b, e = [some (.ref n), some (N x), some (N y), a, b] ∧ M' = M ∧ x < 2 ^ B ∧ y < 2 ^ K)
    (fun k e M' ⟨x, y, a, b, he, hM, hk, hx, hy⟩ => by
      subst he; subst hM; subst hk
      by_cases h0 : 0 < x
      · cases hg : getK kvs (.inl (ib x : Int)) with
        | none => exact .inl ⟨by simp [h0, h1, h2, oIn_rE, hg], _, _, _, _, rfl, rfl, hx, hy⟩
        | some v =>
          obtain ⟨o, mk, rfl, ho, hmk, hob⟩ := hR.ok _ _ hg
          refine .inr ⟨by simp [h0, h1, h2, oIn_rE, hg], [some (.ref n), some (N (x ^^^ o)), some (N (y ^^^ mk)), some (N o), some (N mk)], M', ib (x ^^^ o), by simp [h1, h2, hg], ib_xor h0 ho.symm, _, _, _, _, rfl, rfl, rfl, Nat.xor_lt_two_pow hx hob, Nat.xor_lt_two_pow hy hmk⟩
      · exact .inl ⟨by simp [h0], _, _, _, _, rfl, rfl, hx, hy⟩)
    (ib row) turns [some (.ref n), some (N row), some (N marks), none, none] M (by
      have := ib_le.mpr hr
      unfold turns; omega) ⟨row, marks, none, none, rfl, rfl, rfl, hr, hm⟩
  obtain ⟨x, y, a, b, rfl, rfl, hx, hy⟩ := w2
  refine ⟨x, y, ?_, hx, hy⟩
  simp [F_Ladder_lowered, B_Ladder_lowered, w1]
/-- a ladder in the memory, n its place -/
structure Lad (M : Mem) (n K B : Nat) : Prop where
  ex : ∃ (kvs : List (L2.Key × D)) (ker : List Nat), M[n]? = some (.ins 0 [some (N K), some (.ref (n + 1)), some (.ref (n + 2))]) ∧ M[n + 1]? = some (.dK kvs) ∧ M[n + 2]? = some (.lst (ker.map N)) ∧ RungsOk kvs K B ∧ kvs.length ≤ K ∧ ker.length ≤ K ∧ ∀ x ∈ ker, x < 2 ^ K
theorem RungsOk.mono {kvs : List (L2.Key × D)} {K B : Nat} (h : RungsOk kvs K B) : RungsOk kvs (K + 1) B := ⟨fun b v e => by
  obtain ⟨o, mk, h1, h2, h3, h4⟩ := h.ok b v e
  exact ⟨o, mk, h1, h2, Nat.lt_trans h3 (Nat.pow_lt_pow_right (by omega) (by omega)), h4⟩⟩
theorem f_put (bd n K B row : Nat) (M0 : Mem) (kvs : List (L2.Key × D)) (ker : List Nat) (hn : n = M0.length) (hR : RungsOk kvs K B) (hB : B ≤ 10000) (hK : K ≤ 10000) (hr : row < 2 ^ B) (hk1 : kvs.length ≤ K) (hk2 : ker.length ≤ K) (hk : ∀ x ∈ ker, x < 2 ^ K) :
    ∃ (kvs' : List (L2.Key × D)) (ker' : List Nat), F_Ladder_put bd [.ref n, N row] (M0 ++ [.ins 0 [some (N K), some (.ref (n + 1)), some (.ref (n + 2))], .dK kvs, .lst (ker.map N)]) = .ok .non (M0 ++ [.ins 0 [some (N (K + 1)), some (.ref (n + 1)), some (.ref (n + 2))], .dK kvs', .lst (ker'.map N)]) ∧
      RungsOk kvs' (K + 1) B ∧ kvs'.length ≤ K + 1 ∧ ker'.length ≤ K + 1 ∧ ∀ x ∈ ker', x < 2 ^ (K + 1) := by
  subst hn
  obtain ⟨l, mk, e1, hl, hmk⟩ := f_lowered (M0.length + 3) M0.length (M0.length + 1) (K + 1) B (N K) (.ref (M0.length + 2)) kvs row (2 ^ K) (M0 ++ [.ins 0 [some (N K), some (.ref (M0.length + 1)), some (.ref (M0.length + 2))], .dK kvs, .lst (ker.map N)]) (by simp) (by simp) hR.mono hr hB (Nat.pow_lt_pow_right (by omega) (by omega))
  by_cases h0 : 0 < l
  · refine ⟨putD kvs (.inl (ib l : Int)) (.tup [N l, N mk]), ker, ?_, ⟨fun b v hg => ?_⟩, by have := putD_len kvs (.inl (ib l : Int)) (.tup [N l, N mk]); omega, by omega, fun x hx => Nat.lt_trans (hk x hx) (Nat.pow_lt_pow_right (by omega) (by omega))⟩
    · simp [F_Ladder_put, B_Ladder_put, show K ≤ 100000 by omega, e1, h0, show kvs.length < 16777216 by omega]
    · rw [getK_put] at hg
      by_cases q : (Sum.inl (ib l : Int) : L2.Key) = .inl (b : Int)
      · rw [if_pos q] at hg
        injection hg with hg
        injection q with q
        exact ⟨l, mk, hg.symm, Int.ofNat.inj q, hmk, hl⟩
      · rw [if_neg q] at hg
        exact hR.mono.ok b v hg
  · refine ⟨kvs, ker ++ [mk], ?_, hR.mono, by omega, by simp; omega, fun x hx => ?_⟩
    · simp [F_Ladder_put, B_Ladder_put, show K ≤ 100000 by omega, e1, h0, show ker.length < 16777216 by omega]
    · rcases List.mem_append.mp hx with hx | hx
      · exact Nat.lt_trans (hk x hx) (Nat.pow_lt_pow_right (by omega) (by omega))
      · rw [List.mem_singleton.mp hx]; exact hmk
theorem f_ladder_of (bd B : Nat) (xs : List Nat) (M : Mem) (hbd : bd ≤ M.length) (hB : B ≤ 10000) (hx : ∀ x ∈ xs, x < 2 ^ B) (hl : xs.length ≤ 5000) :
    ∃ (kvs : List (L2.Key × D)) (ker : List Nat), F_ladder_of bd [.lst (xs.map N)] M = .ok (.ref M.length) (M ++ [.ins 0 [some (N xs.length), some (.ref (M.length + 1)), some (.ref (M.length + 2))], .dK kvs, .lst (ker.map N)]) ∧
      RungsOk kvs xs.length B ∧ kvs.length ≤ xs.length ∧ ker.length ≤ xs.length ∧ ∀ x ∈ ker, x < 2 ^ xs.length := by
  obtain ⟨e', M', h1, h2⟩ := for_xs (bd := bd) (M := M ++ [.ins 0 [some (N 0), some (.ref (M.length + 1)), some (.ref (M.length + 2))], .dK [], .lst []]) (e := [some (.lst (xs.map N)), some (.ref M.length), none]) (tg := gNm 2)
    (body := (sDrop (eMeth 0 F_Ladder_put (eV 1) (aCons (eV 2) aNil)))) (φ := N) xs
    (fun i e M' => ∃ (z : Option D) (kvs : List (L2.Key × D)) (ker : List Nat), e = [some (.lst (xs.map N)), some (.ref M.length), z] ∧ M' = M ++ [.ins 0 [some (N i), some (.ref (M.length + 1)), some (.ref (M.length + 2))], .dK kvs, .lst (ker.map N)] ∧
      RungsOk kvs i B ∧ kvs.length ≤ i ∧ ker.length ≤ i ∧ ∀ x ∈ ker, x < 2 ^ i)
    ⟨none, [], [], rfl, rfl, ⟨fun b v h => by cases h⟩, by simp, by simp, by simp⟩
    (fun i x e M' hi ⟨z, kvs, ker, he, hM, hR, hk1, hk2, hk⟩ => by
      subst he; subst hM
      have hil : i < xs.length := (List.getElem?_eq_some_iff.mp hi).1
      obtain ⟨kvs', ker', e1, a1, a2, a3, a4⟩ := f_put bd M.length i B x M kvs ker rfl hR hB (by omega) (hx x (List.mem_of_getElem? hi)) hk1 hk2 hk
      exact ⟨_, _, [some (.lst (xs.map N)), some (.ref M.length), some (N x)], _, rfl, by simp [e1], _, kvs', ker', rfl, rfl, a1, a2, a3, a4⟩)
  obtain ⟨z, kvs, ker, rfl, rfl, a⟩ := h2
  refine ⟨kvs, ker, ?_, a⟩
  have hi : F_Ladder_init bd [.ref M.length] (M ++ [.ins 0 [none, none, none]]) = .ok .non (M ++ [.ins 0 [some (N 0), some (.ref (M.length + 1)), some (.ref (M.length + 2))], .dK [], .lst []]) := by
    simp [F_Ladder_init, B_Ladder_init, hbd]
  simp [F_ladder_of, B_ladder_of, hi]
  rw [h1]
  simp
end Q
set_option Elab.async false
set_option linter.all false
set_option maxRecDepth 100000
set_option maxHeartbeats 4000000
set_option exponentiation.threshold 5000
namespace Q
open Sh PySem
/-! the numbers of pairs -/
def fs (m i : Nat) : Nat := i * m - i * (i - 1) / 2
def pn (m i j : Nat) : Nat := fs m i + (j - i)
theorem half_step (i : Nat) : (i + 1) * (i + 1 - 1) / 2 = i * (i - 1) / 2 + i := by
  have h1 : (i + 1) * i = i * i + i := by rw [Nat.succ_mul]
  have h2 : i * (i - 1) = i * i - i := by rw [Nat.mul_sub_one]
  have h3 : i ≤ i * i := Nat.le_mul_self i
  rw [Nat.add_sub_cancel, h1, h2]
  omega
theorem half_le {m i : Nat} (h : i ≤ m) : i * (i - 1) / 2 ≤ i * m := by
  have h2 : i * (i - 1) ≤ i * m := Nat.mul_le_mul_left _ (by omega)
  omega
theorem fs_0 (m : Nat) : fs m 0 = 0 := by simp [fs]
theorem fs_step {m i : Nat} (h : i < m) : fs m (i + 1) = fs m i + (m - i) := by
  unfold fs
  rw [half_step, Nat.succ_mul]
  have h1 := half_le (m := m) (i := i) (by omega)
  have h2 : i ≤ i * m ∨ i = 0 := by
    by_cases q : i = 0
    · exact .inr q
    · exact .inl (Nat.le_mul_of_pos_right _ (by omega))
  omega
theorem fs_all (m : Nat) : fs m m = wd m := by
  unfold fs wd
  have h1 : m * (m - 1) = m * m - m := by rw [Nat.mul_sub_one]
  have h2 : m * (m + 1) = m * m + m := by rw [Nat.mul_succ]
  have h3 : m ≤ m * m := Nat.le_mul_self m
  have h4 : (m * m - m) + (m * m + m) = 2 * (m * m) := by omega
  rw [h1, h2]
  have : m * m % 2 = m % 2 := by
    rcases Nat.mod_two_eq_zero_or_one m with q | q <;> simp [Nat.mul_mod, q]
  omega
theorem fs_mono {m : Nat} : ∀ {i j : Nat}, i ≤ j → j ≤ m → fs m i ≤ fs m j := by
  intro i j h
  induction j with
  | zero => intro _; have : i = 0 := by omega
            subst this; exact Nat.le_refl _
  | succ j ih =>
    intro hj
    by_cases q : i = j + 1
    · subst q; exact Nat.le_refl _
    · have := ih (by omega) (by omega)
      rw [fs_step (by omega)]; omega
theorem pn_lt {m i j : Nat} (h : i ≤ j) (hj : j < m) : pn m i j < wd m := by
  have h1 := fs_step (m := m) (i := i) (by omega)
  have h2 := fs_mono (m := m) (i := i + 1) (j := m) (by omega) (Nat.le_refl _)
  rw [fs_all] at h2
  unfold pn; omega
theorem wd_le {m : Nat} (h : m ≤ 40) : wd m ≤ 820 := by
  have : m * (m + 1) ≤ 40 * 41 := Nat.mul_le_mul h (by omega)
  unfold wd; omega
theorem f_pair_number (bd m i j : Nat) (M : Mem) (h : i ≤ j) (hj : j < m) (hm : m ≤ 40) : F_pair_number bd [N m, N i, N j] M = .ok (N (pn m i j)) M := by
  have h1 := half_le (m := m) (i := i) (by omega)
  have hi : i < 18446744073709551616 := by omega
  by_cases q : i = 0
  · subst q
    simp [F_pair_number, B_pair_number, oSub_N, pn, fs]
    rfl
  · have h3 : oSub M (N i) (N 1) = some (N (i - 1)) := oSub_le (by omega)
    have h4 : oSub M (N (i * m)) (N (i * (i - 1) / 2)) = some (N (i * m - i * (i - 1) / 2)) := oSub_le h1
    have h2 : i ≤ i * m - i * (i - 1) / 2 + j := by omega
    have h5 : oSub M (N (i * m - i * (i - 1) / 2 + j)) (N i) = some (N (pn m i j)) := by
      rw [oSub_le h2]; unfold pn fs; congr 2; omega
    simp [F_pair_number, B_pair_number, hi, h3, h4, h5]
/-! a bit put into a list of rows -/
def orAt (l : List Nat) (i k : Nat) : List Nat := l.set i (l.getD i 0 ||| 2 ^ k)
theorem s_orA (bd i j : Nat) (a b : Option D) (M : Mem) (l : List Nat) (hi : i < l.length) (hj : j ≤ 100000) :
    sAugL (eV 2) (eV 3) oOr (eOp oShl (eC (.int 1)) (eV 4)) bd [a, b, some (.ref M.length), some (N i), some (N j)] (M ++ [.lst (l.map N)]) = .nx [a, b, some (.ref M.length), some (N i), some (N j)] (M ++ [.lst ((orAt l i j).map N)]) := by
  simp [hi, hj, orAt, List.map_set]
theorem s_orB (bd i j : Nat) (a b : Option D) (M : Mem) (l : List Nat) (hi : j < l.length) (hj : i ≤ 100000) :
    sAugL (eV 2) (eV 4) oOr (eOp oShl (eC (.int 1)) (eV 3)) bd [a, b, some (.ref M.length), some (N i), some (N j)] (M ++ [.lst (l.map N)]) = .nx [a, b, some (.ref M.length), some (N i), some (N j)] (M ++ [.lst ((orAt l j i).map N)]) := by
  simp [hi, hj, orAt, List.map_set]
theorem orAt_len (l : List Nat) (i k : Nat) : (orAt l i k).length = l.length := by simp [orAt]
theorem orAt_get {l : List Nat} {i k a : Nat} (ha : a < l.length) : (orAt l i k)[a]'(by rw [orAt_len]; exact ha) = if i = a then l[a] ||| 2 ^ k else l[a] := by
  unfold orAt
  rw [List.getElem_set]
  by_cases h : i = a
  · subst h; rw [if_pos rfl, if_pos rfl]; simp [ha]
  · rw [if_neg h, if_neg h]
theorem orAt_lt {l : List Nat} {i k m : Nat} (h : ∀ x ∈ l, x < 2 ^ m) (hk : k < m) : ∀ x ∈ orAt l i k, x < 2 ^ m := fun x hx => by
  obtain ⟨a, ha, rfl⟩ := List.mem_iff_getElem.mp hx
  rw [orAt_len] at ha
  rw [orAt_get ha]
  have h1 := h _ (List.getElem_mem ha)
  split
  · exact Nat.or_lt_two_pow h1 (Nat.pow_lt_pow_right (by decide) hk)
  · exact h1
theorem test_bit {p k : Nat} : decide (p / 2 ^ k &&& 1 = 1) = p.testBit k := by
  rw [Nat.and_one_is_mod, Nat.testBit_eq_decide_div_mod_eq]
/-- one turn of both loops -/
def turnR (m p : Nat) (l : List Nat) (i j : Nat) : List Nat := if p.testBit (pn m i j) = true then orAt (orAt l i j) j i else l
theorem turn_ok (bd m p i j : Nat) (M : Mem) (l : List Nat) (hl : l.length = m) (h : i ≤ j) (hj : j < m) (hm : m ≤ 40) :
    (sIf (bV (eOp oEq (eOp oAnd (eOp oShr (eV 1) (eCall F_pair_number (aCons (eV 0) (aCons (eV 3) (aCons (eV 4) aNil))))) (eC (.int 1))) (eC (.int 1))))
  (sSeq (sAugL (eV 2) (eV 3) oOr (eOp oShl (eC (.int 1)) (eV 4)))
  (sAugL (eV 2) (eV 4) oOr (eOp oShl (eC (.int 1)) (eV 3))))
  sNil) bd [some (N m), some (N p), some (.ref M.length), some (N i), some (N j)] (M ++ [.lst (l.map N)]) = .nx [some (N m), some (N p), some (.ref M.length), some (N i), some (N j)] (M ++ [.lst ((turnR m p l i j).map N)]) := by
  have e1 := s_orA bd i j (some (N m)) (some (N p)) M l (by omega) (by omega)
  have e2 := s_orB bd i j (some (N m)) (some (N p)) M (orAt l i j) (by rw [orAt_len]; omega) (by omega)
  have ht := @test_bit p (pn m i j)
  unfold turnR
  cases hb : p.testBit (pn m i j) with
  | true =>
    rw [hb] at ht
    have ht := of_decide_eq_true ht
    rw [if_pos rfl]
    rw [sIf_eq]
    simp only [bV_eq, eOp_eq, eV_eq, List.getElem?_cons_succ, List.getElem?_cons_zero, getV_some, R.bind_ok, opK1_eq, eCall_eq, aCons_eq, aK1_eq, aNil_eq, aK2_eq, f_pair_number _ _ _ _ _ h hj hm, opK2_eq, oShr_N, lft_some, eC_lit, oAnd_N, oEq_N, vK_bl, out_ok, ht, decide_true, sifK_t, sSeq_eq, e1, seqK_nx, e2]
  | false =>
    rw [hb] at ht
    have ht := of_decide_eq_false ht
    rw [if_neg (by simp)]
    rw [sIf_eq]
    simp only [bV_eq, eOp_eq, eV_eq, List.getElem?_cons_succ, List.getElem?_cons_zero, getV_some, R.bind_ok, opK1_eq, eCall_eq, aCons_eq, aK1_eq, aNil_eq, aK2_eq, f_pair_number _ _ _ _ _ h hj hm, opK2_eq, oShr_N, lft_some, eC_lit, oAnd_N, oEq_N, vK_bl, out_ok, ht, decide_false, sifK_f, sNil_eq]
/-- what both loops keep -/
structure Rws (m p i j : Nat) (dg : Bool) (l : List Nat) : Prop where
  len : l.length = m
  lt : ∀ x ∈ l, x < 2 ^ m
  sym : ∀ a b (ha : a < l.length) (hb : b < l.length), (l[a]).testBit b = (l[b]).testBit a
  dia : dg = false → ∀ a (ha : a < l.length), (l[a]).testBit a = false
  got : ∀ a b, a < b → b < m → (a < i ∨ (a = i ∧ b < j)) → p.testBit (pn m a b) = true → ∀ ha : a < l.length, (l[a]).testBit b = true
theorem Rws.zero (m p : Nat) (dg : Bool) : Rws m p 0 0 dg (List.replicate m 0) :=
  ⟨by simp, by simp; intro; exact Nat.two_pow_pos m, by simp, by simp, fun a b h1 h2 h3 => by omega⟩
theorem tb_or {x k b : Nat} : (x ||| 2 ^ k).testBit b = (x.testBit b || decide (k = b)) := by
  rw [Nat.testBit_or, Nat.testBit_two_pow]
theorem Rws.turn {m p i j : Nat} {dg : Bool} {l : List Nat} (h : Rws m p i j dg l) (hij : i ≤ j) (hj : j < m) (hd : dg = false → i < j) : Rws m p i (j + 1) dg (turnR m p l i j) := by
  have hl := h.len
  unfold turnR
  cases hb : p.testBit (pn m i j) with
  | false =>
    rw [if_neg (by simp)]
    refine ⟨h.len, h.lt, h.sym, h.dia, fun a b h1 h2 h3 h4 => h.got a b h1 h2 ?_ h4⟩
    rcases h3 with h3 | ⟨h3, h5⟩
    · exact .inl h3
    · by_cases q : b = j
      · subst q; subst h3; rw [hb] at h4; cases h4
      · exact .inr ⟨h3, by omega⟩
  | true =>
    rw [if_pos rfl]
    have g : ∀ a (ha : a < l.length), (orAt (orAt l i j) j i)[a]'(by rw [orAt_len, orAt_len]; exact ha) = (if j = a then (if i = a then l[a] ||| 2 ^ j else l[a]) ||| 2 ^ i else (if i = a then l[a] ||| 2 ^ j else l[a])) := fun a ha => by
      rw [orAt_get (by rw [orAt_len]; exact ha), orAt_get ha]
    have gt : ∀ a b (ha : a < l.length), ((orAt (orAt l i j) j i)[a]'(by rw [orAt_len, orAt_len]; exact ha)).testBit b = ((l[a]).testBit b || (decide (i = a ∧ j = b) || decide (j = a ∧ i = b))) := fun a b ha => by
      rw [g a ha]
      by_cases q1 : j = a <;> by_cases q2 : i = a <;> simp [q1, q2, tb_or, Nat.testBit_two_pow] <;> cases (l[a]).testBit b <;> simp
    refine ⟨by rw [orAt_len, orAt_len]; exact hl, orAt_lt (orAt_lt h.lt hj) (by omega), ?_, ?_, ?_⟩
    · intro a b ha hb2
      rw [orAt_len, orAt_len] at ha hb2
      rw [gt a b ha, gt b a hb2, h.sym a b ha hb2]
      congr 1
      rw [Bool.or_comm]
      congr 1 <;> (apply decide_eq_decide.mpr; constructor <;> (rintro ⟨x, y⟩; exact ⟨y, x⟩))
    · intro hdg a ha
      rw [orAt_len, orAt_len] at ha
      have := hd hdg
      rw [gt a a ha, h.dia hdg a ha]
      simp; omega
    · intro a b h1 h2 h3 h4 ha
      rw [orAt_len, orAt_len] at ha
      rw [gt a b ha]
      rcases h3 with h3 | ⟨h3, h5⟩
      · rw [h.got a b h1 h2 (.inl h3) h4 ha]; rfl
      · by_cases q : b = j
        · subst q; subst h3; simp
        · rw [h.got a b h1 h2 (.inr ⟨h3, by omega⟩) h4 ha]; rfl
theorem Rws.next {m p i : Nat} {dg : Bool} {l : List Nat} (h : Rws m p i m dg l) : Rws m p (i + 1) 0 dg l :=
  ⟨h.len, h.lt, h.sym, h.dia, fun a b h1 h2 h3 h4 => h.got a b h1 h2 (by
    rcases h3 with h3 | ⟨h3, h5⟩
    · by_cases q : a = i
      · exact .inr ⟨q, h2⟩
      · exact .inl (by omega)
    · omega) h4⟩
theorem Rws.start {m p i j : Nat} {dg : Bool} {l : List Nat} (h : Rws m p i 0 dg l) (hj : j ≤ i + 1) : Rws m p i j dg l :=
  ⟨h.len, h.lt, h.sym, h.dia, fun a b h1 h2 h3 h4 => h.got a b h1 h2 (by
    rcases h3 with h3 | ⟨h3, h5⟩
    · exact .inl h3
    · omega) h4⟩
theorem rep_flat (m : Nat) (d : D) : (List.replicate m [d]).flatten = List.replicate m d := by
  induction m with
  | zero => rfl
  | succ m ih => rw [List.replicate_succ, List.flatten_cons, ih]; rfl
theorem repD_N {M : Mem} {m : Nat} (h : m ≤ 40) : repD M (.lst [N 0]) (N m) = some (List.replicate m (N 0)) := by
  have e : repD M (.lst [N 0]) (N m) = if (m : Int) < 2 ^ 62 ∧ -(2 ^ 62) ≤ (m : Int) ∧ [N 0].length * (m : Int).toNat ≤ 16777216 then some (List.replicate (m : Int).toNat [N 0]).flatten else none := by
    unfold repD
    conv => lhs; rw [show N m = D.int (m : Int) from rfl]
    rfl
  rw [e, if_pos ⟨by omega, by omega, by simp; omega⟩, Int.toNat_natCast, rep_flat]
def rpK2 (x y : D) (M2 : Mem) : R D := lftM (repD M2 x y) M2
def rpK1 (g : EF) (bd : Nat) (e : Sh.Env) (x : D) (M1 : Mem) : R D := (g bd e M1).bind (rpK2 x)
@[simp] theorem eRepM_eq {bd : Nat} {e : Sh.Env} {M : Mem} {f g : EF} : eRepM f g bd e M = (f bd e M).bind (rpK1 g bd e) := id rfl
@[simp] theorem rpK1_eq {bd : Nat} {e : Sh.Env} {M : Mem} {g : EF} {x : D} : rpK1 g bd e x M = (g bd e M).bind (rpK2 x) := id rfl
@[simp] theorem rpK2_eq {M : Mem} {x y : D} : rpK2 x y M = lftM (repD M x y) M := id rfl
theorem f_mirror_rows (bd m p : Nat) (M : Mem) (hm : m ≤ 40) : ∃ l : List Nat, F_mirror_rows bd [N m, N p] M = .ok (.lst (l.map N)) M ∧ l.length = m ∧ ∀ x ∈ l, x < 2 ^ m := by
  obtain ⟨e', M', h1, h2⟩ := for_range (bd := M.length) (M := M ++ [.lst ((List.replicate m 0).map N)]) (e := [some (N m), some (N p), some (.ref M.length), none, none]) (tg := gNm 3)
    (body := (sFor (iRg2 (aCons (eV 3) (aCons (eV 0) aNil))) (gNm 4)
  (sIf (bV (eOp oEq (eOp oAnd (eOp oShr (eV 1) (eCall F_pair_number (aCons (eV 0) (aCons (eV 3) (aCons (eV 4) aNil))))) (eC (.int 1))) (eC (.int 1))))
  (sSeq (sAugL (eV 2) (eV 3) oOr (eOp oShl (eC (.int 1)) (eV 4)))
  (sAugL (eV 2) (eV 4) oOr (eOp oShl (eC (.int 1)) (eV 3))))
  sNil)))
    m (fun i e M' => ∃ (a b : Option D) (l : List Nat), e = [some (N m), some (N p), some (.ref M.length), a, b] ∧ M' = M ++ [.lst (l.map N)] ∧ Rws m p i 0 true l)
    ⟨none, none, _, rfl, rfl, Rws.zero m p true⟩
    (fun i e M' hi ⟨a, b, l, he, hM, hR⟩ => by
      subst he; subst hM
      obtain ⟨e2, M2, k1, k2⟩ := for_xs (bd := M.length) (M := M ++ [.lst (l.map N)]) (e := [some (N m), some (N p), some (.ref M.length), some (N i), b]) (tg := gNm 4)
        (body := (sIf (bV (eOp oEq (eOp oAnd (eOp oShr (eV 1) (eCall F_pair_number (aCons (eV 0) (aCons (eV 3) (aCons (eV 4) aNil))))) (eC (.int 1))) (eC (.int 1))))
  (sSeq (sAugL (eV 2) (eV 3) oOr (eOp oShl (eC (.int 1)) (eV 4)))
  (sAugL (eV 2) (eV 4) oOr (eOp oShl (eC (.int 1)) (eV 3))))
  sNil)) (φ := N) (List.range' i (m - i))
        (fun k e M' => ∃ (b : Option D) (l : List Nat), e = [some (N m), some (N p), some (.ref M.length), some (N i), b] ∧ M' = M ++ [.lst (l.map N)] ∧ Rws m p i (i + k) true l)
        ⟨b, l, rfl, rfl, hR.start (by omega)⟩
        (fun k x e M' hx ⟨b, l, he, hM, hR⟩ => by
          subst he; subst hM
          obtain ⟨hk, hx⟩ := List.getElem?_eq_some_iff.mp hx
          simp at hk hx
          subst hx
          refine ⟨_, _, _, _, rfl, turn_ok M.length m p i (i + k) M l hR.len (by omega) (by omega) hm, some (N (i + k)), _, rfl, rfl, ?_⟩
          exact hR.turn (by omega) (by omega) (by simp))
      obtain ⟨b2, l2, rfl, rfl, hR2⟩ := k2
      simp only [List.length_range'] at k1 hR2
      refine ⟨_, _, _, _, rfl, ?_, some (N i), b2, l2, rfl, rfl, ?_⟩
      · simp [show i < 4611686018427387904 by omega, show m < 4611686018427387904 by omega]
        exact k1
      · rw [show i + (m - i) = m by omega] at hR2
        exact hR2.next)
  obtain ⟨a, b, l, rfl, rfl, hR⟩ := h2
  refine ⟨l, ?_, hR.len, hR.lt⟩
  simp [F_mirror_rows, B_mirror_rows, repD_N hm, show m < 4611686018427387904 by omega]
  simp at h1
  rw [h1]
  simp
  rw [frz_ref (j := M.length) (es := l.map N) (by omega) (by simp) (fun x hx => by obtain ⟨p, _, rfl⟩ := List.mem_map.mp hx; rfl)]
  simp
end Q
set_option Elab.async false
set_option linter.all false
set_option maxRecDepth 100000
set_option maxHeartbeats 4000000
set_option exponentiation.threshold 5000
namespace Q
open Sh PySem
theorem f_rows_by_pairs (bd m p : Nat) (M : Mem) (hm : m ≤ 40) : ∃ l : List Nat, F_rows_by_pairs bd [N m, N p] M = .ok (.lst (l.map N)) M ∧ Rws m p m 0 false l := by
  obtain ⟨e', M', h1, h2⟩ := for_range (bd := M.length) (M := M ++ [.lst ((List.replicate m 0).map N)]) (e := [some (N m), some (N p), some (.ref M.length), none, none]) (tg := gNm 3)
    (body := (sFor (iRg2 (aCons (eOp oCat (eV 3) (eC (.int 1))) (aCons (eV 0) aNil))) (gNm 4)
  (sIf (bV (eOp oEq (eOp oAnd (eOp oShr (eV 1) (eCall F_pair_number (aCons (eV 0) (aCons (eV 3) (aCons (eV 4) aNil))))) (eC (.int 1))) (eC (.int 1))))
  (sSeq (sAugL (eV 2) (eV 3) oOr (eOp oShl (eC (.int 1)) (eV 4)))
  (sAugL (eV 2) (eV 4) oOr (eOp oShl (eC (.int 1)) (eV 3))))
  sNil)))
    m (fun i e M' => ∃ (a b : Option D) (l : List Nat), e = [some (N m), some (N p), some (.ref M.length), a, b] ∧ M' = M ++ [.lst (l.map N)] ∧ Rws m p i 0 false l)
    ⟨none, none, _, rfl, rfl, Rws.zero m p false⟩
    (fun i e M' hi ⟨a, b, l, he, hM, hR⟩ => by
      subst he; subst hM
      obtain ⟨e2, M2, k1, k2⟩ := for_xs (bd := M.length) (M := M ++ [.lst (l.map N)]) (e := [some (N m), some (N p), some (.ref M.length), some (N i), b]) (tg := gNm 4)
        (body := (sIf (bV (eOp oEq (eOp oAnd (eOp oShr (eV 1) (eCall F_pair_number (aCons (eV 0) (aCons (eV 3) (aCons (eV 4) aNil))))) (eC (.int 1))) (eC (.int 1))))
  (sSeq (sAugL (eV 2) (eV 3) oOr (eOp oShl (eC (.int 1)) (eV 4)))
  (sAugL (eV 2) (eV 4) oOr (eOp oShl (eC (.int 1)) (eV 3))))
  sNil)) (φ := N) (List.range' (i + 1) (m - (i + 1)))
        (fun k e M' => ∃ (b : Option D) (l : List Nat), e = [some (N m), some (N p), some (.ref M.length), some (N i), b] ∧ M' = M ++ [.lst (l.map N)] ∧ Rws m p i (i + 1 + k) false l)
        ⟨b, l, rfl, rfl, hR.start (by omega)⟩
        (fun k x e M' hx ⟨b, l, he, hM, hR⟩ => by
          subst he; subst hM
          obtain ⟨hk, hx⟩ := List.getElem?_eq_some_iff.mp hx
          simp at hk hx
          subst hx
          refine ⟨_, _, _, _, rfl, turn_ok M.length m p i (i + 1 + k) M l hR.len (by omega) (by omega) hm, some (N (i + 1 + k)), _, rfl, rfl, ?_⟩
          exact hR.turn (by omega) (by omega) (by intro; omega))
      obtain ⟨b2, l2, rfl, rfl, hR2⟩ := k2
      simp only [List.length_range'] at k1 hR2
      refine ⟨_, _, _, _, rfl, ?_, some (N i), b2, l2, rfl, rfl, ?_⟩
      · simp [show i + 1 < 4611686018427387904 by omega, show m < 4611686018427387904 by omega]
        exact k1
      · rw [show i + 1 + (m - (i + 1)) = m by omega] at hR2
        exact hR2.next)
  obtain ⟨a, b, l, rfl, rfl, hR⟩ := h2
  refine ⟨l, ?_, hR⟩
  simp [F_rows_by_pairs, B_rows_by_pairs, repD_N hm, show m < 4611686018427387904 by omega]
  simp at h1
  rw [h1]
  simp
  rw [frz_ref (j := M.length) (es := l.map N) (by omega) (by simp) (fun x hx => by obtain ⟨p, _, rfl⟩ := List.mem_map.mp hx; rfl)]
  simp
/-! products of sums -/
def rowp (a b p : Nat) : Nat := (if a / 2 ^ p % 2 = 0 then 0 else b / 2 ^ p) ^^^ (if b / 2 ^ p % 2 = 0 then 0 else (a / 2 ^ p) ^^^ (a / 2 ^ p % 2))
def prodN (m a b : Nat) : Nat → Nat
  | 0 => 0
  | p + 1 => prodN m a b p ^^^ (rowp a b p * 2 ^ fs m p)
theorem rowp_lt {a b p n : Nat} (ha : a < 2 ^ n) (hb : b < 2 ^ n) : rowp a b p < 2 ^ n := by
  have h1 : a / 2 ^ p < 2 ^ n := Nat.lt_of_le_of_lt (Nat.div_le_self _ _) ha
  have h2 : b / 2 ^ p < 2 ^ n := Nat.lt_of_le_of_lt (Nat.div_le_self _ _) hb
  have h0 := Nat.two_pow_pos n
  have h3 : (a / 2 ^ p) ^^^ (a / 2 ^ p % 2) < 2 ^ n := Nat.xor_lt_two_pow h1 (Nat.lt_of_le_of_lt (Nat.mod_le _ _) h1)
  unfold rowp
  refine Nat.xor_lt_two_pow ?_ ?_
  · split <;> assumption
  · split <;> assumption
theorem f_product_in (bd m a b : Nat) (M : Mem) (hm : m ≤ 40) (ha : a < 2 ^ 820) (hb : b < 2 ^ 820) : F_product_in bd [N m, N a, N b] M = .ok (N (prodN m a b m)) M := by
  obtain ⟨e', M', h1, h2⟩ := for_range (bd := M.length) (M := M) (e := [some (N m), some (N a), some (N b), none, some (N 0), some (N 0), none, none, none, none]) (tg := gNm 3)
    (body := (sSeq (sSet 6 (eOp oSub (eV 0) (eV 3)))
  (sSeq (sSet2 8 9 (aCons (eOp oShr (eV 1) (eV 3)) (aCons (eOp oShr (eV 2) (eV 3)) aNil)))
  (sSeq (sSet 7 (eOp oXor (eIf (bT (eOp oAnd (eV 8) (eC (.int 1)))) (eV 9) (eC (.int 0))) (eIf (bT (eOp oAnd (eV 9) (eC (.int 1)))) (eOp oXor (eV 8) (eOp oAnd (eV 8) (eC (.int 1)))) (eC (.int 0)))))
  (sSeq (sAug 4 oXor (eOp oShl (eV 7) (eV 5)))
  (sAug 5 oAdd (eV 6)))))))
    m (fun i e M' => ∃ z6 z7 z8 z9 z3, e = [some (N m), some (N a), some (N b), z3, some (N (prodN m a b i)), some (N (fs m i)), z6, z7, z8, z9] ∧ M' = M)
    ⟨none, none, none, none, none, by rw [fs_0]; rfl, rfl⟩
    (fun i e M' hi ⟨z6, z7, z8, z9, z3, he, hM⟩ => by
      subst he; subst hM
      have hf := fs_mono (m := m) (i := i) (j := m) (by omega) (Nat.le_refl _)
      rw [fs_all] at hf
      have hw := wd_le hm
      have hlog : (rowp a b i).log2 < 1000000 := by
        by_cases q : rowp a b i = 0
        · rw [q]; simp
        · have := (Nat.log2_lt q).mpr (rowp_lt (p := i) ha hb); omega
      have hs : ∀ M', oShl M' (N (rowp a b i)) (N (fs m i)) = some (N (rowp a b i * 2 ^ fs m i)) := fun M' => oShl_N (by omega) hlog
      refine ⟨_, _, [some (N m), some (N a), some (N b), some (N i), some (N (prodN m a b (i + 1))), some (N (fs m (i + 1))), some (N (m - i)), some (N (rowp a b i)), some (N (a / 2 ^ i)), some (N (b / 2 ^ i))], M', rfl, ?_, _, _, _, _, _, rfl, rfl⟩
      have ho : oSub M' (N m) (N i) = some (N (m - i)) := oSub_le (by omega)
      rw [fs_step hi]
      by_cases q1 : a / 2 ^ i % 2 = 0 <;> by_cases q2 : b / 2 ^ i % 2 = 0
      · have e : rowp a b i = 0 := by unfold rowp; rw [if_pos q1, if_pos q2]; rfl
        rw [e] at hs
        simp [ho, q1, q2, prodN, e, hs]
      · have e : rowp a b i = a / 2 ^ i := by unfold rowp; rw [if_pos q1, if_neg q2, q1]; simp
        rw [e] at hs
        have q2' : b / 2 ^ i % 2 = 1 := by omega
        simp [ho, q1, q2', prodN, e, hs]
      · have e : rowp a b i = b / 2 ^ i := by unfold rowp; rw [if_neg q1, if_pos q2]; simp
        rw [e] at hs
        have q1' : a / 2 ^ i % 2 = 1 := by omega
        simp [ho, q1', q2, prodN, e, hs]
      · have q1' : a / 2 ^ i % 2 = 1 := by omega
        have q2' : b / 2 ^ i % 2 = 1 := by omega
        have e : rowp a b i = b / 2 ^ i ^^^ (a / 2 ^ i ^^^ 1) := by unfold rowp; rw [if_neg q1, if_neg q2, q1']
        rw [e] at hs
        simp [ho, q1', q2', prodN, e, hs])
  obtain ⟨z6, z7, z8, z9, z3, rfl, rfl⟩ := h2
  simp [F_product_in, B_product_in, show m < 4611686018427387904 by omega]
  rw [h1]
  simp
/-- a product of a sum with itself -/
theorem rowp_self (a p : Nat) : rowp a a p = a / 2 ^ p % 2 := by
  unfold rowp
  by_cases q : a / 2 ^ p % 2 = 0
  · rw [if_pos q, if_pos q, q]; rfl
  · rw [if_neg q, if_neg q, ← Nat.xor_assoc, Nat.xor_self, Nat.zero_xor]
theorem xor_add {x k y : Nat} (h : x < 2 ^ k) : x ^^^ (y * 2 ^ k) = x + y * 2 ^ k := by
  have h1 : x &&& (y * 2 ^ k) = 0 := by
    refine Nat.eq_of_testBit_eq fun i => ?_
    rw [Nat.testBit_and, Nat.zero_testBit, Nat.mul_comm, Nat.testBit_two_pow_mul]
    by_cases q : k ≤ i
    · have : x.testBit i = false := Nat.testBit_lt_two_pow (Nat.lt_of_lt_of_le h (Nat.pow_le_pow_right (by decide) q))
      rw [this]; rfl
    · simp [q]
  have := xor_and x (y * 2 ^ k)
  rw [h1] at this
  omega
/-- a place with no unlike pairs, and the sum of its unknowns -/
theorem prod_self {m p own : Nat} (hp : p < 2 ^ wd m) (hoff : ∀ i j, i < j → j < m → p.testBit (pn m i j) = false) (hown : ∀ i, i < m → own.testBit i = p.testBit (fs m i)) : prodN m own own m = p := by
  have go : ∀ i, i ≤ m → prodN m own own i = p % 2 ^ fs m i := by
    intro i
    induction i with
    | zero => intro _; rw [fs_0]; simp [prodN, Nat.mod_one]
    | succ i ih =>
      intro hi
      rw [prodN, ih (by omega), rowp_self, xor_add (Nat.mod_lt _ (Nat.two_pow_pos _)), fs_step (by omega), Nat.pow_add, Nat.mod_mul]
      congr 1
      rw [Nat.mul_comm]
      congr 1
      have h1 := hown i (by omega)
      rw [Nat.testBit_eq_decide_div_mod_eq, Nat.testBit_eq_decide_div_mod_eq] at h1
      have h1 := decide_eq_decide.mp h1
      obtain ⟨d, hd⟩ : ∃ d, m - i = d + 1 := ⟨m - i - 1, by omega⟩
      have h2 : p / 2 ^ fs m i % 2 ^ (m - i) = p / 2 ^ fs m i % 2 := by
        refine Nat.eq_of_testBit_eq fun j => ?_
        rw [Nat.testBit_mod_two_pow]
        have h3 : (p / 2 ^ fs m i % 2).testBit j = (decide (j < 1) && (p / 2 ^ fs m i).testBit j) := by
          have := @Nat.testBit_mod_two_pow (p / 2 ^ fs m i) 1 j
          rw [Nat.pow_one] at this
          exact this
        rw [h3]
        by_cases q0 : j = 0
        · subst q0; simp; omega
        · by_cases q1 : j < m - i
          · have h4 := hoff i (i + j) (by omega) (by omega)
            have h5 : (p / 2 ^ fs m i).testBit j = false := by
              rw [Nat.testBit_div_two_pow]
              unfold pn at h4
              rw [show fs m i + (i + j - i) = j + fs m i by omega] at h4
              exact h4
            rw [h5]; simp
          · simp [q1]; omega
      rw [h2]
      rcases Nat.mod_two_eq_zero_or_one (own / 2 ^ i) with q | q <;> rcases Nat.mod_two_eq_zero_or_one (p / 2 ^ fs m i) with r | r <;> omega
  have := go m (Nat.le_refl _)
  rw [this, fs_all]
  exact Nat.mod_eq_of_lt hp
end Q
set_option Elab.async false
set_option linter.all false
set_option maxRecDepth 100000
set_option maxHeartbeats 4000000
set_option exponentiation.threshold 5000
namespace Q
open Sh PySem
theorem py_ints (rs : List Nat) : PyData.canLayAll0 (pyL (rs.map N)) = true ∧ PyData.depthAll (pyL (rs.map N)) = 0 := by
  induction rs with
  | nil => exact ⟨rfl, rfl⟩
  | cons x rs ih =>
    refine ⟨?_, ?_⟩
    · show (PyData.canLay0 (.int x) && PyData.canLayAll0 (pyL (rs.map N))) = true
      rw [ih.1]; rfl
    · show max 0 (PyData.depthAll (pyL (rs.map N))) = 0
      rw [ih.2]; rfl
theorem oEq_nil {M : Mem} (rs : List Nat) : oEq M (.lst (rs.map N)) (.lst []) = some (.bl rs.isEmpty) := by
  have h1 : SeqAt.shaped (D.lst (rs.map N)).py = true := by
    show (PyData.canLayAll0 (pyL (rs.map N)) && decide (PyData.depthAll (pyL (rs.map N)) + 1 ≤ 64)) = true
    rw [(py_ints rs).1, (py_ints rs).2]; rfl
  show (eqDeep M (.lst (rs.map N)) (.lst [])).map D.bl = _
  unfold eqDeep
  have h2 : (D.lst (rs.map N)).flat = true := flatL_N rs
  show (if ((D.lst (rs.map N)).flat && true && SeqAt.shaped (D.lst (rs.map N)).py && SeqAt.shaped (.list [])) = true then some (PyData.eqvAll (pyL (rs.map N)) []) else none).map D.bl = _
  rw [if_pos (by rw [h1, h2]; rfl)]
  cases rs <;> rfl
theorem f_factors_in (bd m p : Nat) (M : Mem) (hm1 : 1 ≤ m) (hm : m ≤ 40) (hp : p < 2 ^ wd m) :
    ∃ fl : List (Nat × Nat), F_factors_in bd [N m, N p] M = .ok (.lst (fl.map pD)) M ∧ fl.length ≤ 9 ∧ ∀ q ∈ fl, q.1 < 2 ^ m ∧ q.2 < 2 ^ m ∧ prodN m q.1 q.2 m = p := by
  obtain ⟨l, e1, hR⟩ := f_rows_by_pairs M.length m p M hm
  have hll := hR.len
  have hrun : ∀ a b c d e f g h i : Option D, runS (lcBody M.length [some (N m), some (N p), a, b, c, d, e, f, g, h, i, none] (gNm 11) (bV (eOp oNe (eV 11) (eC (.int 0)))) (eV 11)) (fun _ => some (l.map N)) [] M = .ok ((l.filter fun x => !decide (x = 0)).map N) M := fun a b c d e f g h i =>
    run_lc l _ _ (by omega) fun x hx => ⟨_, rfl, by simp, fun _ => by simp⟩
  by_cases h0 : (l.filter fun x => !decide (x = 0)) = []
  · have hz : ∀ x ∈ l, x = 0 := fun x hx => by
      have := List.filter_eq_nil_iff.mp h0 x hx
      simpa using this
    have hoff : ∀ i j, i < j → j < m → p.testBit (pn m i j) = false := fun i j hij hj => by
      cases q : p.testBit (pn m i j) with
      | false => rfl
      | true =>
        have := hR.got i j hij hj (.inl (by omega)) q (by omega)
        rw [hz _ (List.getElem_mem _)] at this
        simp at this
    obtain ⟨e', M', h1, h2⟩ := for_range (bd := M.length) (M := M) (e := [some (N m), some (N p), some (.lst []), none, none, none, none, none, some (N 0), none, none, none]) (tg := gNm 9)
      (body := (sAug 8 oOr (eOp oShl (eOp oAnd (eOp oShr (eV 1) (eCall F_pair_number (aCons (eV 0) (aCons (eV 9) (aCons (eV 9) aNil))))) (eC (.int 1))) (eV 9))))
      m (fun i e M' => ∃ own z, e = [some (N m), some (N p), some (.lst []), none, none, none, none, none, some (N own), z, none, none] ∧ M' = M ∧ own < 2 ^ m ∧ ∀ j, own.testBit j = (decide (j < i) && p.testBit (fs m j)))
      ⟨0, none, rfl, rfl, Nat.two_pow_pos m, by simp⟩
      (fun i e M' hi ⟨own, z, he, hM, ho, hb⟩ => by
        subst he; subst hM
        have hs : ∀ M', oShl M' (N (p / 2 ^ fs m i % 2)) (N i) = some (N (p / 2 ^ fs m i % 2 * 2 ^ i)) := fun M' => oShl_s (by omega) (by omega)
        have hpn : pn m i i = fs m i := by unfold pn; omega
        refine ⟨_, _, [some (N m), some (N p), some (.lst []), none, none, none, none, none, some (N (own ||| p / 2 ^ fs m i % 2 * 2 ^ i)), some (N i), none, none], M', rfl, by simp [f_pair_number _ m i i _ (Nat.le_refl _) hi hm, hpn, hs], _, _, rfl, rfl, ?_, fun j => ?_⟩
        · refine Nat.or_lt_two_pow ho ?_
          have h2 : p / 2 ^ fs m i % 2 * 2 ^ i ≤ 1 * 2 ^ i := Nat.mul_le_mul_right _ (by omega)
          have := Nat.pow_lt_pow_right (show 1 < 2 by decide) hi
          omega
        · rw [Nat.testBit_or, hb j, Nat.mul_comm, Nat.testBit_two_pow_mul, ]
          by_cases q1 : j < i
          · simp [q1, show ¬ i ≤ j by omega, show j < i + 1 by omega]
          · by_cases q2 : j = i
            · subst q2
              simp [Nat.testBit_eq_decide_div_mod_eq]
            · have : (p / 2 ^ fs m i % 2).testBit (j - i) = false := Nat.testBit_lt_two_pow (Nat.lt_of_lt_of_le (show p / 2 ^ fs m i % 2 < 2 ^ 1 by omega) (Nat.pow_le_pow_right (by decide) (by omega)))
              simp [q1, this, show ¬ j < i + 1 by omega])
    obtain ⟨own, z, rfl, rfl, ho, hb⟩ := h2
    have hps : prodN m own own m = p := prod_self hp hoff fun i hi => by rw [hb i]; simp [hi]
    by_cases q : own = 0
    · refine ⟨[], ?_, by simp, by simp⟩
      have hE : ∀ M, oEq M (.lst []) (.lst []) = some (.bl true) := fun M => oEq_nil []
      simp [F_factors_in, B_factors_in, e1, hrun, h0, hE, show m < 4611686018427387904 by omega]
      rw [h1]
      simp [q]
    · refine ⟨[(own, own)], ?_, by simp, by simp; exact ⟨ho, hps⟩⟩
      have hE : ∀ M, oEq M (.lst []) (.lst []) = some (.bl true) := fun M => oEq_nil []
      simp [F_factors_in, B_factors_in, e1, hrun, h0, hE, show m < 4611686018427387904 by omega]
      rw [h1]
      simp [q, pD]
  · obtain ⟨near, r', hnr⟩ : ∃ near r', (l.filter fun x => !decide (x = 0)) = near :: r' := by
      cases hh : (l.filter fun x => !decide (x = 0)) with
      | nil => exact absurd hh h0
      | cons a b => exact ⟨a, b, rfl⟩
    have hmem : ∀ x ∈ near :: r', x ∈ l ∧ ¬ x = 0 := fun x hx => by
      rw [← hnr] at hx
      have := List.mem_filter.mp hx
      simpa using this
    obtain ⟨hnl, hn0⟩ := hmem near (List.mem_cons_self ..)
    obtain ⟨a, ha, hae⟩ := List.mem_iff_getElem.mp hnl
    obtain ⟨b, hb⟩ := Nat.exists_testBit_of_ne_zero hn0
    have hbm : b < m := by
      by_cases q : b < m
      · exact q
      · have := Nat.testBit_lt_two_pow (Nat.lt_of_lt_of_le (hR.lt near hnl) (Nat.pow_le_pow_right (by decide) (show m ≤ b by omega)))
        rw [this] at hb; cases hb
    have hba : (l[b]'(by omega)).testBit a = true := by
      rw [← hR.sym a b ha (by omega), hae]; exact hb
    have haa : near.testBit a = false := by rw [← hae]; exact hR.dia rfl a ha
    have hbn : ¬ l[b]'(by omega) = near := fun q => by rw [q, haa] at hba; cases hba
    have hb0 : ¬ l[b]'(by omega) = 0 := fun q => by rw [q] at hba; simp at hba
    have hbr : l[b]'(by omega) ∈ near :: r' := by
      rw [← hnr]
      exact List.mem_filter.mpr ⟨List.getElem_mem _, by simp [hb0]⟩
    obtain ⟨o0, r2, hor⟩ : ∃ o0 r2, ((near :: r').filter fun x => !decide (x = near)) = o0 :: r2 := by
      cases hh : ((near :: r').filter fun x => !decide (x = near)) with
      | nil =>
        have := List.filter_eq_nil_iff.mp hh _ hbr
        simp at this
        exact absurd this hbn
      | cons a b => exact ⟨a, b, rfl⟩
    have ho0 : o0 ∈ l := by
      have : o0 ∈ (near :: r').filter fun x => !decide (x = near) := by rw [hor]; exact List.mem_cons_self ..
      exact (hmem o0 (List.mem_filter.mp this).1).1
    have hrl : (near :: r').length ≤ 40 := by
      rw [← hnr]
      have := List.length_filter_le (fun x => !decide (x = 0)) l
      omega
    have hrun2 : ∀ b c d e f g h i : Option D, runS (lcBody M.length [some (N m), some (N p), some (.lst ((near :: r').map N)), some (N near), b, c, d, e, f, g, h, none] (gNm 11) (bV (eOp oNe (eV 11) (eV 3))) (eV 11)) (fun _ => some ((near :: r').map N)) [] M = .ok ((o0 :: r2).map N) M := fun b c d e f g h i => by
      rw [← hor]
      exact run_lc (near :: r') _ _ (by omega) fun x hx => ⟨_, rfl, by simp, fun _ => by simp⟩
    have hsp : ∀ x ∈ [near, o0, near ^^^ o0], x < 2 ^ m := fun x hx => by
      have h1 := hR.lt near hnl
      have h2 := hR.lt o0 ho0
      simp at hx
      rcases hx with rfl | rfl | rfl
      · exact h1
      · exact h2
      · exact Nat.xor_lt_two_pow h1 h2
    have hpow : 2 ^ m < 2 ^ 820 := Nat.pow_lt_pow_right (by decide) (by omega)
    have inner : ∀ (x : Nat), x ∈ [near, o0, near ^^^ o0] → ∀ (fl : List (Nat × Nat)) (z : Option D) (k : Nat), fl.length ≤ 3 * k → k < 3 → (∀ q ∈ fl, q.1 < 2 ^ m ∧ q.2 < 2 ^ m ∧ prodN m q.1 q.2 m = p) →
        ∃ (e2 : Sh.Env) (fl2 : List (Nat × Nat)), loopF (gNm 10) (sIf (bAnd (bV (eOp oNe (eV 7) (eV 10))) (bV (eOp oEq (eCall F_product_in (aCons (eV 0) (aCons (eV 7) (aCons (eV 10) aNil)))) (eV 1))))
  (sDrop (eMt mAppend (eV 6) (aCons (eTup (aCons (eV 7) (aCons (eV 10) aNil))) aNil)))
  sNil) (fun _ => some ([near, o0, near ^^^ o0].map N)) ([near, o0, near ^^^ o0].length + 1) 0 M.length [some (N m), some (N p), some (.lst ((near :: r').map N)), some (N near), some (.lst ((o0 :: r2).map N)), some (.lst ([near, o0, near ^^^ o0].map N)), some (.ref M.length), some (N x), none, none, z, none] (M ++ [.lst (fl.map pD)]) = .nx e2 (M ++ [.lst (fl2.map pD)]) ∧ (∃ z, e2 = [some (N m), some (N p), some (.lst ((near :: r').map N)), some (N near), some (.lst ((o0 :: r2).map N)), some (.lst ([near, o0, near ^^^ o0].map N)), some (.ref M.length), some (N x), none, none, z, none]) ∧ fl2.length ≤ 3 * (k + 1) ∧ (∀ q ∈ fl2, q.1 < 2 ^ m ∧ q.2 < 2 ^ m ∧ prodN m q.1 q.2 m = p) := by
      intro x hx fl z k hfl hk hq
      obtain ⟨e', M', h1, h2⟩ := for_xs (bd := M.length) (M := M ++ [.lst (fl.map pD)]) (e := [some (N m), some (N p), some (.lst ((near :: r').map N)), some (N near), some (.lst ((o0 :: r2).map N)), some (.lst ([near, o0, near ^^^ o0].map N)), some (.ref M.length), some (N x), none, none, z, none]) (tg := gNm 10)
        (body := (sIf (bAnd (bV (eOp oNe (eV 7) (eV 10))) (bV (eOp oEq (eCall F_product_in (aCons (eV 0) (aCons (eV 7) (aCons (eV 10) aNil)))) (eV 1))))
  (sDrop (eMt mAppend (eV 6) (aCons (eTup (aCons (eV 7) (aCons (eV 10) aNil))) aNil)))
  sNil)) (φ := N) [near, o0, near ^^^ o0]
        (fun i e M' => ∃ (z : Option D) (fl2 : List (Nat × Nat)), e = [some (N m), some (N p), some (.lst ((near :: r').map N)), some (N near), some (.lst ((o0 :: r2).map N)), some (.lst ([near, o0, near ^^^ o0].map N)), some (.ref M.length), some (N x), none, none, z, none] ∧ M' = M ++ [.lst (fl2.map pD)] ∧ fl2.length ≤ 3 * k + i ∧ (∀ q ∈ fl2, q.1 < 2 ^ m ∧ q.2 < 2 ^ m ∧ prodN m q.1 q.2 m = p))
        ⟨z, fl, rfl, rfl, hfl, hq⟩
        (fun i y e M' hy ⟨z, fl2, he, hM, hlen, hq⟩ => by
          subst he; subst hM
          have hi : i < 3 := (List.getElem?_eq_some_iff.mp hy).1
          have hyl := hsp y (List.mem_of_getElem? hy)
          have hxl := hsp x hx
          have hpi := fun bd M => f_product_in bd m x y M hm (by omega) (by omega)
          by_cases q1 : x = y
          · exact ⟨_, _, [some (N m), some (N p), some (.lst ((near :: r').map N)), some (N near), some (.lst ((o0 :: r2).map N)), some (.lst ([near, o0, near ^^^ o0].map N)), some (.ref M.length), some (N x), none, none, some (N y), none], M ++ [.lst (fl2.map pD)], rfl, by simp [q1], _, fl2, rfl, rfl, by omega, hq⟩
          · by_cases q2 : prodN m x y m = p
            · refine ⟨_, _, [some (N m), some (N p), some (.lst ((near :: r').map N)), some (N near), some (.lst ((o0 :: r2).map N)), some (.lst ([near, o0, near ^^^ o0].map N)), some (.ref M.length), some (N x), none, none, some (N y), none], M ++ [.lst ((fl2 ++ [(x, y)]).map pD)], rfl, by simp [q1, hpi, q2, show fl2.length < 16777216 by omega, pD], _, fl2 ++ [(x, y)], rfl, rfl, by simp; omega, fun q hqm => ?_⟩
              rcases List.mem_append.mp hqm with hqm | hqm
              · exact hq q hqm
              · rw [List.mem_singleton.mp hqm]; exact ⟨hxl, hyl, q2⟩
            · exact ⟨_, _, [some (N m), some (N p), some (.lst ((near :: r').map N)), some (N near), some (.lst ((o0 :: r2).map N)), some (.lst ([near, o0, near ^^^ o0].map N)), some (.ref M.length), some (N x), none, none, some (N y), none], M ++ [.lst (fl2.map pD)], rfl, by simp [q1, hpi, q2], _, fl2, rfl, rfl, by omega, hq⟩)
      obtain ⟨z2, fl2, rfl, rfl, hlen, hq2⟩ := h2
      exact ⟨_, fl2, h1, ⟨z2, rfl⟩, by simp at hlen; omega, hq2⟩
    obtain ⟨e', M', h1, h2⟩ := for_xs (bd := M.length) (M := M ++ [.lst []]) (e := [some (N m), some (N p), some (.lst ((near :: r').map N)), some (N near), some (.lst ((o0 :: r2).map N)), some (.lst ([near, o0, near ^^^ o0].map N)), some (.ref M.length), none, none, none, none, none]) (tg := gNm 7)
      (body := (sFor (iSq (eV 5)) (gNm 10)
  (sIf (bAnd (bV (eOp oNe (eV 7) (eV 10))) (bV (eOp oEq (eCall F_product_in (aCons (eV 0) (aCons (eV 7) (aCons (eV 10) aNil)))) (eV 1))))
  (sDrop (eMt mAppend (eV 6) (aCons (eTup (aCons (eV 7) (aCons (eV 10) aNil))) aNil)))
  sNil))) (φ := N) [near, o0, near ^^^ o0]
      (fun i e M' => ∃ (y z : Option D) (fl : List (Nat × Nat)), e = [some (N m), some (N p), some (.lst ((near :: r').map N)), some (N near), some (.lst ((o0 :: r2).map N)), some (.lst ([near, o0, near ^^^ o0].map N)), some (.ref M.length), y, none, none, z, none] ∧ M' = M ++ [.lst (fl.map pD)] ∧ fl.length ≤ 3 * i ∧ (∀ q ∈ fl, q.1 < 2 ^ m ∧ q.2 < 2 ^ m ∧ prodN m q.1 q.2 m = p))
      ⟨none, none, [], rfl, rfl, by simp, by simp⟩
      (fun i x e M' hx ⟨y, z, fl, he, hM, hlen, hq⟩ => by
        subst he; subst hM
        have hi : i < 3 := (List.getElem?_eq_some_iff.mp hx).1
        obtain ⟨e2, fl2, k1, ⟨z2, rfl⟩, k2, k3⟩ := inner x (List.mem_of_getElem? hx) fl z i hlen hi hq
        refine ⟨_, _, _, _, rfl, ?_, some (N x), z2, fl2, rfl, rfl, k2, k3⟩
        simp at k1 ⊢
        exact k1)
    obtain ⟨y, z, fl, rfl, rfl, hlen, hq⟩ := h2
    refine ⟨fl, ?_, by simp at hlen; omega, hq⟩
    have hE : ∀ M, oEq M (.lst ((near :: r').map N)) (.lst []) = some (.bl false) := fun M => oEq_nil (near :: r')
    simp at h1 hE hrun2
    simp [F_factors_in, B_factors_in, e1, hrun, hnr, hE, hrun2]
    rw [h1]
    simp
    rw [frz_ref (j := M.length) (es := fl.map pD) (by omega) (by simp) (fun x hx => by obtain ⟨p, _, rfl⟩ := List.mem_map.mp hx; rfl)]
    simp
end Q
set_option Elab.async false
set_option linter.all false
set_option maxRecDepth 100000
set_option maxHeartbeats 4000000
set_option exponentiation.threshold 5000
namespace Q
open Sh PySem
theorem f_places_of (bd n k : Nat) (M : Mem) (hn : n < 2 ^ k) (hk : k ≤ 10000) : ∃ ps : List Nat, F_places_of bd [N n] M = .ok (.tup (ps.map N)) M ∧ ps.length ≤ k ∧ ∀ x ∈ ps, x < k := by
  obtain ⟨e', M', w1, w2⟩ := while_eq (bd := M.length) (c := bV (eOp oGt (eV 0) (eC (.int 0)))) (body := (sSeq (sIf (bV (eOp oEq (eOp oAnd (eV 0) (eC (.int 1))) (eC (.int 1))))
  (sDrop (eMt mAppend (eV 1) (aCons (eV 2) aNil)))
  sNil)
  (sSet2 0 2 (aCons (eOp oShr (eV 0) (eC (.int 1))) (aCons (eOp oCat (eV 2) (eC (.int 1))) aNil)))))
    (fun j e M' => ∃ (x p : Nat) (ps : List Nat), e = [some (N x), some (.ref M.length), some (N p)] ∧ M' = M ++ [.lst (ps.map N)] ∧ j = k - p ∧ x < 2 ^ (k - p) ∧ ps.length ≤ p ∧ p ≤ k ∧ ∀ y ∈ ps, y < k)
    (fun e M' => ∃ (x p : D) (ps : List Nat), e = [some x, some (.ref M.length), some p] ∧ M' = M ++ [.lst (ps.map N)] ∧ ps.length ≤ k ∧ ∀ y ∈ ps, y < k)
    (fun j e M' ⟨x, p, ps, he, hM, hj, hx, hl, hpk, hy⟩ => by
      subst he; subst hM; subst hj
      by_cases h0 : 0 < x
      · have hp : p < k := by
          by_cases q : p < k
          · exact q
          · rw [show k - p = 0 by omega] at hx; simp at hx; omega
        have hx2 : x / 2 < 2 ^ (k - (p + 1)) := by
          rw [show k - p = (k - (p + 1)) + 1 by omega, Nat.pow_succ] at hx; omega
        by_cases q : x % 2 = 1
        · refine .inr ⟨by simp [h0], [some (N (x / 2)), some (.ref M.length), some (N (p + 1))], M ++ [.lst ((ps ++ [p]).map N)], k - (p + 1), by simp [q, show ps.length < 16777216 by omega], by omega, _, _, _, rfl, rfl, rfl, hx2, by simp; omega, by omega, fun y hyy => ?_⟩
          rcases List.mem_append.mp hyy with hyy | hyy
          · exact hy y hyy
          · rw [List.mem_singleton.mp hyy]; exact hp
        · refine .inr ⟨by simp [h0], [some (N (x / 2)), some (.ref M.length), some (N (p + 1))], M ++ [.lst (ps.map N)], k - (p + 1), by simp [q], by omega, _, _, _, rfl, rfl, rfl, hx2, by omega, by omega, hy⟩
      · exact .inl ⟨by simp [h0], _, _, ps, rfl, rfl, by omega, hy⟩)
    k turns [some (N n), some (.ref M.length), some (N 0)] (M ++ [.lst []]) (by unfold turns; omega) ⟨n, 0, [], rfl, rfl, by omega, hn, by simp, by omega, by simp⟩
  obtain ⟨x, p, ps, rfl, rfl, hl, hy⟩ := w2
  refine ⟨ps, ?_, hl, hy⟩
  simp [F_places_of, B_places_of]
  rw [w1]
  simp
theorem f_square_times (bd n k B : Nat) (l : List Nat) (M : Mem) (hn : n < 2 ^ k) (hk : k ≤ 10000) (hl : k ≤ l.length) (hb : ∀ x ∈ l, x < 2 ^ B) : ∃ x, F_square_times bd [.lst (l.map N), N n] M = .ok (N x) M ∧ x < 2 ^ B := by
  obtain ⟨ps, e1, hpl, hps⟩ := f_places_of M.length n k M hn hk
  obtain ⟨e', M', h1, h2⟩ := for_xs (bd := M.length) (M := M) (e := [some (.lst (l.map N)), some (N n), some (N 0), none]) (tg := gNm 3) (body := sAug 2 oXor (eOp oIx (eV 0) (eV 3))) (φ := N) ps
    (fun i e M' => ∃ x z, e = [some (.lst (l.map N)), some (N n), some (N x), z] ∧ M' = M ∧ x < 2 ^ B) ⟨0, none, rfl, rfl, Nat.two_pow_pos B⟩
    (fun i y e M' hy ⟨x, z, he, hM, hx⟩ => by
      subst he; subst hM
      have hyk := hps y (List.mem_of_getElem? hy)
      have hyl : y < l.length := by omega
      exact ⟨_, _, [some (.lst (l.map N)), some (N n), some (N (x ^^^ l[y])), some (N y)], M', rfl, by simp [hyl], _, _, rfl, rfl, Nat.xor_lt_two_pow hx (hb _ (List.getElem_mem hyl))⟩)
  obtain ⟨x, z, rfl, rfl, hx⟩ := h2
  refine ⟨x, ?_, hx⟩
  simp [F_square_times, B_square_times, e1]
  rw [h1]
  simp
theorem f_missed_by (bd n : Nat) (es : List Nat) (M : Mem) (hn : n < 2 ^ es.length) (hl : es.length ≤ 10000) : ∃ x, F_missed_by bd [.lst (es.map N), N n] M = .ok (N x) M ∧ x < 2 := by
  obtain ⟨ps, e1, hpl, hps⟩ := f_places_of M.length n es.length M hn hl
  have hr : runS (lcBody M.length [some (.lst (es.map N)), some (N n), none] (gNm 2) bYes (eOp oIx (eV 0) (eV 2))) (fun _ => some (ps.map N)) [] M = .ok ((ps.map fun y => es.getD y 0).map N) M := by
    rw [List.map_map]
    refine run_map ps _ (by omega) fun y hy => ⟨_, rfl, rfl, fun _ => ?_⟩
    have := hps y hy
    simp [this]
  refine ⟨(ps.map fun y => es.getD y 0).sum % 2, ?_, Nat.mod_lt _ (by omega)⟩
  simp [F_missed_by, B_missed_by, e1]
  rw [hr]
  simp only [hush_ok, R.bind_ok, lcE_eq, aK1_eq, aNil_eq, aK2_eq, cbK_eq, cSum_N]
  simp
/-! the counting of products -/
structure PCs (M : Mem) (n m w v : Nat) (cs ds sq ks : List Nat) : Prop where
  ex : ∃ n2 kvs, M[n]? = some (.ins 1 [some (N (2 ^ wd m)), some (.lst (sq.map N)), some (.ref n2), some (N m), some (tT m w cs), some (tT (wd m) v ds)]) ∧ M[n2]? = some (.dK kvs) ∧
    kvs.map (·.1) = ks.map (fun k => Sum.inl ((k : Nat) : Int)) ∧ (∀ k ∈ ks, ∃ c, getK kvs (.inl (k : Int)) = some (N c) ∧ c ≤ 1000) ∧ kvs.length ≤ 1000
  pf : PfOk m w cs v ds
  m1 : 1 ≤ m
  m2 : m ≤ 40
  sql : sq.length = m
  sqb : ∀ x ∈ sq, x < 2 ^ m
  ksb : ∀ x ∈ ks, x < 2 ^ wd m
theorem tbit_lt (r : Nat) (cs : List Nat) (p : Nat) : tbit r cs p < 2 ^ 1 := by
  unfold tbit
  refine Nat.xor_lt_two_pow (par_lt _) ?_
  split <;> omega
section
variable {M : Mem} {n m w v : Nat} {cs ds sq ks : List Nat}
theorem f_differs (h : PCs M n m w v cs ds sq ks) (bd a b : Nat) (ha : a < 2 ^ m) (hb : b < 2 ^ m) : ∃ x, F_ProductCount_differs bd [.ref n, N a, N b] M = .ok (N x) M ∧ x < 2 := by
  obtain ⟨n2, kvs, h1, _⟩ := h.ex
  have h2 := h.m2
  have hpow : 2 ^ m < 2 ^ 820 := Nat.pow_lt_pow_right (by decide) (by omega)
  refine ⟨(tbit w cs a &&& tbit w cs b) ^^^ par (v &&& prodN m a b m), ?_, ?_⟩
  · simp [F_ProductCount_differs, B_ProductCount_differs, h1, f_bit_in _ _ _ _ _ _ h.pf.a.r', f_product_in _ m a b _ h2 (by omega) (by omega), f_odd _ _ (and_lt h.pf.b.r' (by decide))]
  · have h3 := tbit_lt w cs a
    have h4 : tbit w cs a &&& tbit w cs b < 2 ^ 1 := Nat.lt_of_le_of_lt Nat.and_le_left h3
    exact Nat.xor_lt_two_pow (n := 1) h4 (par_lt _)
theorem sum_bd {α : Type} {f : α → Int} : ∀ {l : List α}, (∀ x ∈ l, -1 ≤ f x ∧ f x ≤ 1) → -(l.length : Int) ≤ (l.map f).sum ∧ (l.map f).sum ≤ l.length
  | [], _ => by simp
  | x :: l, h => by
    have h1 := h x (List.mem_cons_self ..)
    have h2 := sum_bd fun y hy => h y (List.mem_cons_of_mem x hy)
    simp only [List.map_cons, List.sum_cons, List.length_cons]
    omega
theorem f_ones_with (h : PCs M n m w v cs ds sq ks) (bd row mk : Nat) (hr : row < 2 ^ m) : ∃ z : Int, F_ProductCount_ones_with bd [.ref n, N row, N mk] M = .ok (.int z) M ∧ -1099511627800 ≤ z ∧ z ≤ 1099511627800 := by
  obtain ⟨n2, kvs, h1, _⟩ := h.ex
  have h2 := h.m2
  have h3 := h.m1
  have hc := h.pf.a.hl
  have hpow : 2 ^ m < 2 ^ 820 := Nat.pow_lt_pow_right (by decide) (by omega)
  have hp1 : 2 ^ (m - 1) ≤ 2 ^ 40 := Nat.pow_le_pow_right (by decide) (by omega)
  have hr4 : ∀ d : D, runS (lcBody M.length [some (.ref n), some (N row), some (N mk), some d, none] (gNm 4) bYes (eOp oSub (eC (.int 1)) (eOp oMul (eC (.int 2)) (eCall F_odd (aCons (eOp oAnd (eV 1) (eV 4)) aNil))))) (fun _ => some (cs.map N)) [] M = .ok (cs.map fun c => D.int ((1 : Int) - ((2 * par (row &&& c) : Nat) : Int))) M := fun d =>
    run_map cs _ (by omega) fun x hx => ⟨_, rfl, rfl, fun _ => by simp [f_odd _ _ (and_lt (show row < 2 ^ 820 by omega) (by decide)), oSub_1]⟩
  have hs := sum_bd (f := fun c => (1 : Int) - ((2 * par (row &&& c) : Nat) : Int)) (l := cs) fun x _ => by
    have := par_lt (row &&& x); omega
  have h4 : m - 1 ≤ 100000 := by omega
  have hsub : oSub M (N m) (N 1) = some (N (m - 1)) := oSub_le h3
  obtain ⟨S, hS⟩ : ∃ S : Int, S = (cs.map fun c => (1 : Int) - ((2 * par (row &&& c) : Nat) : Int)).sum := ⟨_, rfl⟩
  obtain ⟨H, hH⟩ : ∃ H : Nat, H = 2 ^ (m - 1) := ⟨_, rfl⟩
  rw [← hS] at hs
  have hcS : ∀ M, cSum M [.lst (cs.map fun c => D.int ((1 : Int) - ((2 * par (row &&& c) : Nat) : Int)))] = some (.int S) := fun M => by rw [hS, cSum_f]
  simp at hcS
  have hoS : ∀ M, oShl M (N 1) (N (m - 1)) = some (N H) := fun M => by rw [hH]; exact oShl_1 h4
  rw [← hH] at hp1
  by_cases q2 : mk = 0
  · by_cases q1 : row = 0
    · refine ⟨((0 : Nat) : Int), ?_, by omega, by omega⟩
      simp [F_ProductCount_ones_with, B_ProductCount_ones_with, h1, q1, q2]
      rfl
    · refine ⟨((H : Nat) : Int), ?_, by omega, by omega⟩
      simp [F_ProductCount_ones_with, B_ProductCount_ones_with, h1, q1, q2, hsub, hoS]
      rfl
  · by_cases q1 : row = 0
    · refine ⟨((0 : Nat) : Int) + S, ?_, by omega, by omega⟩
      subst q1
      simp at hr4 hcS
      simp [F_ProductCount_ones_with, B_ProductCount_ones_with, h1, q2, hr4, hcS]
    · refine ⟨((H : Nat) : Int) + S, ?_, by omega, by omega⟩
      simp at hr4
      simp [F_ProductCount_ones_with, B_ProductCount_ones_with, h1, q1, q2, hsub, hoS, hr4, hcS]
theorem f_still (h : PCs M n m w v cs ds sq ks) (bd : Nat) : ∃ z : Int, F_ProductCount_still bd [.ref n] M = .ok (.int z) M := by
  obtain ⟨n2, kvs, h1, _⟩ := h.ex
  have h2 := h.m2
  have h3 := h.m1
  have ho := fun bd => f_ones_in bd m w cs M h.pf.a (by omega)
  have hs : ∀ M, oShl M (N 2) (N m) = some (N (2 * 2 ^ m)) := fun M => oShl_s (by omega) (by omega)
  by_cases q : tbit w cs 0 = 0
  · refine ⟨((2 * 2 ^ m : Nat) : Int) - 1, ?_⟩
    simp [F_ProductCount_still, B_ProductCount_still, h1, f_bit_in _ _ _ _ _ _ h.pf.a.r', q, hs, oSub_N]
  · refine ⟨((2 * 2 ^ m : Nat) : Int) - 1 - ((2 : Nat) : Int) * (((2 : Nat) : Int) * on m w cs - 1), ?_⟩
    simp [F_ProductCount_still, B_ProductCount_still, h1, f_bit_in _ _ _ _ _ _ h.pf.a.r', q, hs, oSub_N, ho]
theorem f_far_pairs (h : PCs M n m w v cs ds sq ks) (bd : Nat) : ∃ fl : List (Nat × Nat), F_ProductCount_far_pairs bd [.ref n] M = .ok (.lst (fl.map pD)) M ∧ ∀ q ∈ fl, q.1 < 2 ^ m ∧ q.2 < 2 ^ m ∧ prodN m q.1 q.2 m ∈ ks := by
  obtain ⟨n2, kvs, h1, h2, h3, h4, h5⟩ := h.ex
  have hkl : ks.length = kvs.length := by have := congrArg List.length h3; simpa using this.symm
  have hs : lSort (M ++ [.lst []]) [.ref n2] = some ((srtN ks).map N) := lSort_dK (kvs := kvs) (by rw [List.getElem?_append_left (List.getElem?_eq_some_iff.mp h2).1]; exact h2) h3 (by omega)
  have hn1 : (M ++ [.lst []])[n]? = some (.ins 1 [some (N (2 ^ wd m)), some (.lst (sq.map N)), some (.ref n2), some (N m), some (tT m w cs), some (tT (wd m) v ds)]) := by rw [List.getElem?_append_left (List.getElem?_eq_some_iff.mp h1).1]; exact h1
  have hlt := (List.getElem?_eq_some_iff.mp h1).1
  obtain ⟨e', M', w1, w2⟩ := for_xs (bd := M.length) (M := M ++ [.lst []]) (e := [some (.ref n), some (.ref M.length), none]) (tg := gNm 2) (body := (sIf (bV (eOp oNe (eV 2) (eC (.int 0))))
  (sDrop (eMt mExtend (eV 1) (aCons (eCall F_factors_in (aCons (eFld 1 3 (eV 0)) (aCons (eV 2) aNil))) aNil)))
  sNil)) (φ := N) (srtN ks)
    (fun i e M' => ∃ (z : Option D) (fl : List (Nat × Nat)), e = [some (.ref n), some (.ref M.length), z] ∧ M' = M ++ [.lst (fl.map pD)] ∧ fl.length ≤ 9 * i ∧ ∀ q ∈ fl, q.1 < 2 ^ m ∧ q.2 < 2 ^ m ∧ prodN m q.1 q.2 m ∈ ks)
    ⟨none, [], rfl, rfl, by simp, by simp⟩
    (fun i x e M' hx ⟨z, fl, he, hM, hl, hq⟩ => by
      subst he; subst hM
      have hi := (List.getElem?_eq_some_iff.mp hx).1
      have hsl := (srtN_perm ks).length_eq
      have hxk : x ∈ ks := (srtN_perm ks).mem_iff.mp (List.mem_of_getElem? hx)
      by_cases q0 : x = 0
      · exact ⟨_, _, [some (.ref n), some (.ref M.length), some (N x)], M ++ [.lst (fl.map pD)], rfl, by simp [q0], _, fl, rfl, rfl, by omega, hq⟩
      · obtain ⟨f2, e1, e2, e3⟩ := f_factors_in M.length m x (M ++ [.lst (fl.map pD)]) h.m1 h.m2 (h.ksb x hxk)
        have hn2 : (M ++ [.lst (fl.map pD)])[n]? = some (.ins 1 [some (N (2 ^ wd m)), some (.lst (sq.map N)), some (.ref n2), some (N m), some (tT m w cs), some (tT (wd m) v ds)]) := by rw [List.getElem?_append_left hlt]; exact h1
        have hex : ∀ M' : Mem, exM M.length M.length M' (some (f2.map pD)) (some (MO.lst (fl.map pD))) = .ok .non (M'.set M.length (MO.lst (fl.map pD ++ f2.map pD))) := fun M' => exM_lst (by simp) (by rw [List.length_map, List.length_map]; omega)
        refine ⟨_, _, [some (.ref n), some (.ref M.length), some (N x)], M ++ [.lst ((fl ++ f2).map pD)], rfl, by simp [q0, hn2, e1, hex], _, fl ++ f2, rfl, rfl, by simp; omega, fun q hqm => ?_⟩
        rcases List.mem_append.mp hqm with hqm | hqm
        · exact hq q hqm
        · obtain ⟨a1, a2, a3⟩ := e3 q hqm
          exact ⟨a1, a2, by rw [a3]; exact hxk⟩)
  obtain ⟨z, fl, rfl, rfl, hl, hq⟩ := w2
  refine ⟨fl, ?_, hq⟩
  simp [F_ProductCount_far_pairs, B_ProductCount_far_pairs, hn1, hs]
  rw [w1]
  simp
  rw [frz_ref (j := M.length) (es := fl.map pD) (by omega) (by simp) (fun x hx => by obtain ⟨p, _, rfl⟩ := List.mem_map.mp hx; rfl)]
  simp
end
end Q
set_option Elab.async false
set_option linter.all false
set_option maxRecDepth 100000
set_option maxHeartbeats 4000000
set_option exponentiation.threshold 5000
namespace Q
open Sh PySem
theorem PCs.app {M : Mem} {n m w v : Nat} {cs ds sq ks : List Nat} (h : PCs M n m w v cs ds sq ks) (L : Mem) : PCs (M ++ L) n m w v cs ds sq ks := ⟨by
  obtain ⟨n2, kvs, h1, h2, h3⟩ := h.ex
  exact ⟨n2, kvs, by rw [List.getElem?_append_left (List.getElem?_eq_some_iff.mp h1).1]; exact h1, by rw [List.getElem?_append_left (List.getElem?_eq_some_iff.mp h2).1]; exact h2, h3⟩, h.pf, h.m1, h.m2, h.sql, h.sqb, h.ksb⟩
section
variable {M : Mem} {n m w v : Nat} {cs ds sq ks : List Nat}
theorem f_many_differing (h : PCs M n m w v cs ds sq ks) (bd : Nat) : ∃ z : Int, F_ProductCount_many_differing bd [.ref n] M = .ok (.int z) M ∧ -(2 ^ 90) ≤ z ∧ z ≤ 2 ^ 90 := by
  obtain ⟨n2, kvs, h1, _⟩ := h.ex
  have hm := h.m2
  have hm1 := h.m1
  have hc := h.pf.a.hl
  have hw := h.pf.a.hr
  have hsl := h.sql
  have hsb := h.sqb
  have hlt := (List.getElem?_eq_some_iff.mp h1).1
  obtain ⟨S, hS⟩ : ∃ S : Nat, S = 2 ^ m := ⟨_, rfl⟩
  have hS40 : S ≤ 1099511627776 := by rw [hS]; exact Nat.pow_le_pow_right (by decide) hm
  let tf : Nat × Nat → Nat := fun p => p.1 ^^^ (if w / 2 ^ p.2 % 2 = 1 then w else 0)
  have htl : (sq.zipIdx.map tf).length = m := by simp [hsl]
  have htb : ∀ x ∈ sq.zipIdx.map tf, x < 2 ^ m := fun x hx => by
    obtain ⟨p, hp, rfl⟩ := List.mem_map.mp hx
    have := hsb p.1 (List.fst_mem_of_mem_zipIdx hp)
    show p.1 ^^^ _ < 2 ^ m
    refine Nat.xor_lt_two_pow this ?_
    split
    · exact hw
    · exact Nat.two_pow_pos m
  obtain ⟨tl, htl0⟩ : ∃ tl : List Nat, tl = sq.zipIdx.map tf := ⟨_, rfl⟩
  rw [← htl0] at htl htb
  obtain ⟨kv, ker, e1, e2, e3, _⟩ := f_ladder_of M.length m tl M (Nat.le_refl _) (by omega) htb (by omega)
  have hturn : ∀ a b c d e f : Option D, runS (lcBody M.length [some (.ref n), a, b, c, none, some (N w), some (N S), none, e, f] (gTp 2 (gsCons (gNm 4) (gsCons (gNm 7) gsNil))) bYes (eOp oXor (eV 7) (eIf (bV (eOp oEq (eOp oAnd (eOp oShr (eV 5) (eV 4)) (eC (.int 1))) (eC (.int 1)))) (eV 5) (eC (.int 0))))) (fun _ => some (enumD (sq.map N))) [] M = .ok (tl.map N) M := fun a b c d e f => by
    have he : enumD (sq.map N) = sq.zipIdx.map fun p => D.tup [N p.2, N p.1] := by
      unfold enumD; rw [List.zipIdx_map, List.map_map]; rfl
    rw [he, htl0, List.map_map]
    refine run_map sq.zipIdx _ (by simp; omega) fun p hp => ⟨[some (.ref n), a, b, c, some (N p.2), some (N w), some (N S), some (N p.1), e, f], by simp, rfl, fun _ => ?_⟩
    by_cases q : w / 2 ^ p.2 % 2 = 1 <;> simp [q, tf]
  obtain ⟨L, hL⟩ : ∃ L : Mem, L = [.ins 0 [some (N tl.length), some (.ref (M.length + 1)), some (.ref (M.length + 2))], .dK kv, .lst (ker.map N)] := ⟨_, rfl⟩
  have hL1 : (M ++ L)[M.length]? = some (.ins 0 [some (N tl.length), some (.ref (M.length + 1)), some (.ref (M.length + 2))]) := by rw [hL]; simp
  have hL2 : (M ++ L)[M.length + 1]? = some (.dK kv) := by rw [hL]; simp
  rw [← hL] at e1
  have hn1 : (M ++ L)[n]? = some (.ins 1 [some (N (2 ^ wd m)), some (.lst (sq.map N)), some (.ref n2), some (N m), some (tT m w cs), some (tT (wd m) v ds)]) := by rw [List.getElem?_append_left hlt]; exact h1
  have hP2 := h.app L
  obtain ⟨A, hA⟩ : ∃ A : Nat, A = S / 2 ^ 1 * (S - S / 2 ^ kv.length) := ⟨_, rfl⟩
  have hA2 : A ≤ 2 ^ 80 := by
    have h1 : S / 2 ^ 1 ≤ 2 ^ 40 := by omega
    have h2 : S - S / 2 ^ kv.length ≤ 2 ^ 40 := Nat.le_trans (Nat.sub_le _ _) hS40
    rw [hA]
    have := Nat.mul_le_mul h1 h2
    omega
  obtain ⟨tv, htv⟩ : ∃ tv : D, tv = .lst (tl.map N) := ⟨_, rfl⟩
  -- the first loop
  obtain ⟨ea, Ma, u1, u2⟩ := for_xs (bd := M.length) (M := M ++ L) (e := [some (.ref n), some tv, some (N kv.length), some (N A), none, some (N w), some (N S), none, none, none]) (tg := gNm 4)
    (body := (sSeq (sSet 7 (eCall F_square_times (aCons (eV 1) (aCons (eV 4) aNil))))
  (sAug 3 oAdd (eOp oMul (eOp oShr (eV 6) (eC (.int 1))) (eOp oSub (eCB cInt (aCons (eOp oEq (eV 7) (eC (.int 0))) aNil)) (eCB cInt (aCons (eOp oEq (eV 7) (eV 5)) aNil))))))) (φ := N) cs
    (fun i e M' => ∃ (z : Int) (a b : Option D), e = [some (.ref n), some tv, some (N kv.length), some (.int z), a, some (N w), some (N S), b, none, none] ∧ M' = M ++ L ∧ -(2 ^ 80 + i * 2 ^ 42) ≤ z ∧ z ≤ 2 ^ 80 + i * 2 ^ 42)
    ⟨(A : Int), none, none, rfl, rfl, by omega, by omega⟩
    (fun i c e M' hx ⟨z, a, b, he, hM, hz1, hz2⟩ => by
      subst he; subst hM
      have hcb := h.pf.a.hb c (List.mem_of_getElem? hx)
      obtain ⟨x, k1, k2⟩ := f_square_times M.length c m m tl (M ++ L) hcb (by omega) (by omega) htb
      rw [← htv] at k1
      by_cases q1 : x = 0 <;> by_cases q2 : x = w
      · refine ⟨_, _, [some (.ref n), some tv, some (N kv.length), some (.int (z + ((S / 2 : Nat) : Int) * (((1 : Nat) : Int) - ((1 : Nat) : Int)))), some (N c), some (N w), some (N S), some (N x), none, none], M ++ L, rfl, ?_, _, _, _, rfl, rfl, by omega, by omega⟩
        simp [k1, q1, show w = 0 by omega, oSub_N, show S / 2 < 18446744073709551616 by omega]
      · refine ⟨_, _, [some (.ref n), some tv, some (N kv.length), some (.int (z + ((S / 2 : Nat) : Int) * (((1 : Nat) : Int) - ((0 : Nat) : Int)))), some (N c), some (N w), some (N S), some (N x), none, none], M ++ L, rfl, ?_, _, _, _, rfl, rfl, by omega, by omega⟩
        simp [k1, q1, q2, show ¬ (0 : Nat) = w by omega, oSub_N, show S / 2 < 18446744073709551616 by omega]
      · refine ⟨_, _, [some (.ref n), some tv, some (N kv.length), some (.int (z + ((S / 2 : Nat) : Int) * (((0 : Nat) : Int) - ((1 : Nat) : Int)))), some (N c), some (N w), some (N S), some (N x), none, none], M ++ L, rfl, ?_, _, _, _, rfl, rfl, by omega, by omega⟩
        simp [k1, q1, q2, show ¬ w = 0 by omega, oSub_N, show S / 2 < 18446744073709551616 by omega]
      · refine ⟨_, _, [some (.ref n), some tv, some (N kv.length), some (.int (z + ((S / 2 : Nat) : Int) * (((0 : Nat) : Int) - ((0 : Nat) : Int)))), some (N c), some (N w), some (N S), some (N x), none, none], M ++ L, rfl, ?_, _, _, _, rfl, rfl, by omega, by omega⟩
        simp [k1, q1, q2, q2, oSub_N, show S / 2 < 18446744073709551616 by omega])
  obtain ⟨za, aa, ab, rfl, rfl, zb1, zb2⟩ := u2
  -- the second loop
  obtain ⟨eb, Mb, v1, v2⟩ := for_xs (bd := M.length) (M := M ++ L) (e := [some (.ref n), some tv, some (N kv.length), some (.int za), aa, some (N w), some (N S), ab, none, none]) (tg := gNm 4)
    (body := (sSeq (sSet 8 (eCall F_square_times (aCons (eFld 1 1 (eV 0)) (aCons (eV 4) aNil))))
  (sSeq (sSet 9 (eCall F_odd (aCons (eOp oAnd (eV 5) (eV 4)) aNil)))
  (sSeq (sAug 3 oSub (eMeth 1 F_ProductCount_ones_with (eV 0) (aCons (eOp oXor (eV 8) (eIf (bV (eOp oEq (eV 9) (eC (.int 1)))) (eV 5) (eC (.int 0)))) (aCons (eV 9) aNil))))
  (sAug 3 oAdd (eMeth 1 F_ProductCount_ones_with (eV 0) (aCons (eOp oXor (eV 8) (eIf (bV (eOp oEq (eV 9) (eC (.int 0)))) (eV 5) (eC (.int 0)))) (aCons (eOp oSub (eC (.int 1)) (eV 9)) aNil)))))))) (φ := N) cs
    (fun i e M' => ∃ (z : Int) (a b c d : Option D), e = [some (.ref n), some tv, some (N kv.length), some (.int z), a, some (N w), some (N S), b, c, d] ∧ M' = M ++ L ∧ -(2 ^ 80 + 24 * 2 ^ 42 + i * 2 ^ 43) ≤ z ∧ z ≤ 2 ^ 80 + 24 * 2 ^ 42 + i * 2 ^ 43)
    ⟨za, aa, ab, none, none, rfl, rfl, by omega, by omega⟩
    (fun i c e M' hx ⟨z, a, b, c8, d9, he, hM, hz1, hz2⟩ => by
      subst he; subst hM
      have hcb := h.pf.a.hb c (List.mem_of_getElem? hx)
      have hmlen : m ≤ sq.length := by omega
      obtain ⟨x, k1, k2⟩ := f_square_times M.length c m m sq (M ++ L) hcb (by omega) hmlen hsb
      have ko := fun bd => f_odd bd (w &&& c) (and_lt h.pf.a.r' (by decide)) (M ++ L)
      have kx : x ^^^ w < 2 ^ m := Nat.xor_lt_two_pow k2 hw
      rcases par_two (w &&& c) with q | q
      · obtain ⟨z1, p1, p2, p3⟩ := f_ones_with hP2 M.length x 0 k2
        obtain ⟨z2, r1, r2, r3⟩ := f_ones_with hP2 M.length (x ^^^ w) 1 kx
        refine ⟨_, _, [some (.ref n), some tv, some (N kv.length), some (.int (z - z1 + z2)), some (N c), some (N w), some (N S), b, some (N x), some (N 0)], M ++ L, rfl, ?_, _, _, _, _, _, rfl, rfl, by omega, by omega⟩
        simp [hn1, k1, ko, q, p1, r1, oSub_m1]
      · obtain ⟨z1, p1, p2, p3⟩ := f_ones_with hP2 M.length (x ^^^ w) 1 kx
        obtain ⟨z2, r1, r2, r3⟩ := f_ones_with hP2 M.length x 0 k2
        refine ⟨_, _, [some (.ref n), some tv, some (N kv.length), some (.int (z - z1 + z2)), some (N c), some (N w), some (N S), b, some (N x), some (N 1)], M ++ L, rfl, ?_, _, _, _, _, _, rfl, rfl, by omega, by omega⟩
        simp [hn1, k1, ko, q, p1, r1, oSub_m1])
  obtain ⟨z, a, b, c8, d9, rfl, rfl, hz1, hz2⟩ := v2
  refine ⟨z, ?_, by omega, by omega⟩
  have hshl : ∀ M, oShl M (N 1) (N m) = some (N S) := fun M => by rw [hS]; exact oShl_1 (by omega)
  have hmul : ∀ M, oMul M (N (S / 2 ^ 1)) (N (S - S / 2 ^ kv.length)) = some (N A) := fun M => by rw [hA]; exact oMul_l (by omega)
  have hsub : ∀ M, oSub M (N S) (N (S / 2 ^ kv.length)) = some (N (S - S / 2 ^ kv.length)) := fun M => oSub_le (Nat.div_le_self _ _)
  simp at hmul
  simp [F_ProductCount_many_differing, B_ProductCount_many_differing, h1, hshl, hturn none none none none none none, e1, hL1, hL2, hsub, hmul, hn1]
  rw [htv] at u1 v1
  rw [u1]
  simp [hn1]
  rw [v1]
  simp
end
end Q
set_option Elab.async false
set_option linter.all false
set_option maxRecDepth 100000
set_option maxHeartbeats 4000000
set_option exponentiation.threshold 5000
namespace Q
open Sh PySem
theorem log2_le {n k : Nat} (h : n < 2 ^ k) : n.log2 ≤ k := by
  by_cases q : n = 0
  · subst q; simp
  · have := (Nat.log2_lt q).mpr h; omega
section
variable {M : Mem} {n m w v : Nat} {cs ds sq ks : List Nat}
theorem f_fails (h : PCs M n m w v cs ds sq ks) (bd : Nat) : ∃ z : Int, F_ProductCount_fails bd [.ref n] M = .ok (.int z) M := by
  obtain ⟨n2, kvs, h1, h2, h3, h4, h5⟩ := h.ex
  have hm := h.m2
  have hd := h.pf.b.hl
  obtain ⟨zd, e1, b1, b2⟩ := f_many_differing h M.length
  obtain ⟨zs, e2⟩ := f_still h M.length
  obtain ⟨fl, e3, hfl⟩ := f_far_pairs h M.length
  have hpow : 2 ^ m < 2 ^ 820 := Nat.pow_lt_pow_right (by decide) (by omega)
  have hW : ∀ M, oMul M (N (2 ^ wd m)) (.int zd) = some (.int (((2 ^ wd m : Nat) : Int) * zd)) := fun M => oMul_ii (by
    have l1 : (2 ^ wd m).log2 ≤ 821 := log2_le (Nat.pow_lt_pow_right (by decide) (by have := wd_le hm; omega))
    have l2 : zd.natAbs.log2 ≤ 91 := log2_le (by omega)
    simp only [Int.natAbs_natCast]
    omega)
  have hd2 : 2 * ds.length < 18446744073709551616 := by omega
  have hsh : ∀ M, oShl M (N 1) (N (2 * m)) = some (N (2 ^ (2 * m))) := fun M => oShl_1 (by omega)
  obtain ⟨z0, hz0⟩ : ∃ z0 : Int, z0 = ((2 ^ wd m : Nat) : Int) * zd + ((2 * ds.length : Nat) : Int) * (((2 ^ (2 * m) : Nat) : Int) - ((2 : Nat) : Int) * zd) - ((2 * ds.length : Nat) : Int) * zs := ⟨_, rfl⟩
  obtain ⟨e', M', w1, w2⟩ := for_xs (bd := M.length) (M := M) (e := [some (.ref n), some (.int z0), some (.int zd), some (N ds.length), none, none, none]) (tg := (gTp 2 (gsCons (gNm 4) (gsCons (gNm 5) gsNil)))) (body := (sSeq (sSet 6 (eOp oSub (eC (.int 1)) (eOp oMul (eC (.int 2)) (eMeth 1 F_ProductCount_differs (eV 0) (aCons (eV 4) (aCons (eV 5) aNil))))))
  (sAug 1 oSub (eOp oMul (eOp oMul (eC (.int 2)) (eOp oIx (eFld 1 2 (eV 0)) (eCall F_product_in (aCons (eFld 1 3 (eV 0)) (aCons (eV 4) (aCons (eV 5) aNil)))))) (eV 6))))) (φ := pD) fl
    (fun i e M' => ∃ (z : Int) (a b c : Option D), e = [some (.ref n), some (.int z), some (.int zd), some (N ds.length), a, b, c] ∧ M' = M)
    ⟨z0, none, none, none, rfl, rfl⟩
    (fun i q e M' hx ⟨z, a, b, c, he, hM⟩ => by
      subst he; subst hM
      obtain ⟨q1, q2⟩ := q
      obtain ⟨t1, t2, t3⟩ := hfl _ (List.mem_of_getElem? hx)
      simp only at t1 t2 t3
      obtain ⟨x, k1, k2⟩ := f_differs h M'.length q1 q2 t1 t2
      obtain ⟨c0, g1, g2⟩ := h4 _ t3
      refine ⟨[some (.ref n), some (.int z), some (.int zd), some (N ds.length), some (N q1), some (N q2), c], _, [some (.ref n), some (.int (z - ((2 * c0 : Nat) : Int) * (((1 : Nat) : Int) - ((2 * x : Nat) : Int)))), some (.int zd), some (N ds.length), some (N q1), some (N q2), some (.int (((1 : Nat) : Int) - ((2 * x : Nat) : Int)))], M', by simp [pD]; rfl, ?_, _, _, _, _, rfl, rfl⟩
      simp [h1, h2, k1, oSub_N, f_product_in _ m q1 q2 _ hm (by omega) (by omega), g1, show 2 * c0 < 18446744073709551616 by omega])
  obtain ⟨z, a, b, c, rfl, rfl⟩ := w2
  refine ⟨z, ?_⟩
  simp at hz0
  rw [hz0] at w1
  simp [F_ProductCount_fails, B_ProductCount_fails, h1, e1, e2, e3, hW, hsh, hd2, show 2 * m < 18446744073709551616 by omega]
  rw [w1]
  simp
/-- the counting of gaps -/
structure MK (kvs : List (L2.Key × D)) (ks : List Nat) (B cnt : Nat) : Prop where
  keys : kvs.map (·.1) = ks.map (fun k => Sum.inl ((k : Nat) : Int))
  val : ∀ k ∈ ks, ∃ c, getK kvs (.inl (k : Int)) = some (N c) ∧ c ≤ cnt
  len : kvs.length ≤ cnt
  bd : ∀ k ∈ ks, k < 2 ^ B
theorem key_inj {a b : Nat} : ((Sum.inl (a : Int) : L2.Key) = .inl (b : Int)) ↔ a = b := by
  constructor
  · intro h; injection h with h; exact Int.ofNat.inj h
  · rintro rfl; rfl
theorem MK.put {kvs : List (L2.Key × D)} {ks : List Nat} {B cnt x : Nat} (h : MK kvs ks B cnt) (hx : x < 2 ^ B) (v : D) (hv : ∃ c, v = N c ∧ c ≤ cnt + 1) : ∃ ks', MK (putD kvs (.inl (x : Int)) v) ks' B (cnt + 1) ∧ (∀ k, k ∈ ks' ↔ k = x ∨ k ∈ ks) := by
  have hmem : (Sum.inl (x : Int) : L2.Key) ∈ kvs.map (·.1) ↔ x ∈ ks := by
    rw [h.keys]
    constructor
    · intro q
      obtain ⟨y, hy, e⟩ := List.mem_map.mp q
      rw [key_inj.mp e] at hy; exact hy
    · intro q; exact List.mem_map.mpr ⟨x, q, rfl⟩
  have hval : ∀ k, (k = x ∨ k ∈ ks) → ∃ c, getK (putD kvs (.inl (x : Int)) v) (.inl (k : Int)) = some (N c) ∧ c ≤ cnt + 1 := fun k hk => by
    rw [getK_put]
    by_cases q : x = k
    · subst q
      obtain ⟨c, rfl, hc⟩ := hv
      exact ⟨c, by rw [if_pos rfl], hc⟩
    · rw [if_neg (fun z => q (key_inj.mp z))]
      rcases hk with rfl | hk
      · exact absurd rfl q
      · obtain ⟨c, h1, h2⟩ := h.val k hk
        exact ⟨c, h1, by omega⟩
  by_cases q : x ∈ ks
  · refine ⟨ks, ⟨by rw [putD_old _ _ _ (hmem.mpr q)]; exact h.keys, fun k hk => hval k (.inr hk), ?_, h.bd⟩, fun k => ⟨.inr, fun z => ?_⟩⟩
    · have := congrArg List.length (putD_old kvs _ v (hmem.mpr q))
      rw [List.length_map, List.length_map] at this
      have := h.len; omega
    · rcases z with rfl | z
      · exact q
      · exact z
  · refine ⟨ks ++ [x], ⟨?_, fun k hk => hval k (by simp at hk; rcases hk with hk | hk; exact .inr hk; exact .inl hk), ?_, fun k hk => ?_⟩, fun k => by simp; exact Or.comm⟩
    · rw [putD_new _ _ _ (fun z => q (hmem.mp z)), List.map_append, List.map_append, h.keys]; rfl
    · have := putD_len kvs (.inl (x : Int)) v
      have := h.len; omega
    · simp at hk
      rcases hk with hk | hk
      · exact h.bd k hk
      · rw [hk]; exact hx
end
end Q
set_option Elab.async false
set_option linter.all false
set_option maxRecDepth 100000
set_option maxHeartbeats 4000000
set_option exponentiation.threshold 5000
namespace Q
open Sh PySem
theorem f_init (bd m w v : Nat) (cs ds : List Nat) (rows : List Row) (M : Mem) (hbd : bd ≤ M.length) (h : PfOk m w cs v ds) (hm1 : 1 ≤ m) (hm : m ≤ 40) :
    ∃ M2 sq ks, F_ProductCount_init bd [.ref M.length, eD m rows, pfD (tT m w cs) (tT (wd m) v ds)] (M ++ [.ins 1 [none, none, none, none, none, none]]) = .ok .non (M ++ M2) ∧ PCs (M ++ M2) M.length m w v cs ds sq ks := by
  have hwl := wd_le hm
  have hdl := h.b.hl
  obtain ⟨sq, e1, e2, e3⟩ := f_mirror_rows bd m v (M ++ [.ins 1 [some (N (2 ^ wd m)), none, none, some (N m), some (tT m w cs), some (tT (wd m) v ds)]]) hm
  obtain ⟨I, hI⟩ : ∃ I : MO, I = .ins 1 [some (N (2 ^ wd m)), some (.lst (sq.map N)), some (.ref (M.length + 1)), some (N m), some (tT m w cs), some (tT (wd m) v ds)] := ⟨_, rfl⟩
  have hself : ∀ kvs : List (L2.Key × D), (M ++ [I, .dK kvs])[M.length]? = some (.ins 1 [some (N (2 ^ wd m)), some (.lst (sq.map N)), some (.ref (M.length + 1)), some (N m), some (tT m w cs), some (tT (wd m) v ds)]) := fun kvs => by simp [hI]
  have hdict : ∀ kvs : List (L2.Key × D), (M ++ [I, .dK kvs])[M.length + 1]? = some (.dK kvs) := fun kvs => by simp
  have hset : ∀ (kvs kvs' : List (L2.Key × D)), (M ++ [I, .dK kvs]).set (M.length + 1) (.dK kvs') = M ++ [I, .dK kvs'] := fun kvs kvs' => by simp
  obtain ⟨e', M', w1, w2⟩ := for_xs (bd := bd) (M := M ++ [I, .dK []]) (e := [some (.ref M.length), some (eD m rows), some (pfD (tT m w cs) (tT (wd m) v ds)), none, none]) (tg := gNm 3) (body := (sFor (iSq (eOp oIx (eFld 1 5 (eV 0)) (eC (.int 2)))) (gNm 4)
  (sAsg (eOp oCat (eGet2 (eFld 1 2 (eV 0)) (eOp oXor (eV 3) (eV 4)) (eC (.int 0))) (eC (.int 1))) (gSb (eFld 1 2 (eV 0)) (eOp oXor (eV 3) (eV 4)))))) (φ := N) ds
    (fun i e M' => ∃ (a b : Option D) (kvs : List (L2.Key × D)) (ks : List Nat), e = [some (.ref M.length), some (eD m rows), some (pfD (tT m w cs) (tT (wd m) v ds)), a, b] ∧ M' = M ++ [I, .dK kvs] ∧ MK kvs ks (wd m) (ds.length * i))
    ⟨none, none, [], [], rfl, rfl, ⟨rfl, by simp, by simp, by simp⟩⟩
    (fun i x e M' hx ⟨a, b, kvs, ks, he, hM, hK⟩ => by
      subst he; subst hM
      have hxb := h.b.hb x (List.mem_of_getElem? hx)
      have hi : i < ds.length := (List.getElem?_eq_some_iff.mp hx).1
      have hii : ds.length * i ≤ 24 * 24 := Nat.mul_le_mul hdl (by omega)
      obtain ⟨e2, M2, v1, v2⟩ := for_xs (bd := bd) (M := M ++ [I, .dK kvs]) (e := [some (.ref M.length), some (eD m rows), some (pfD (tT m w cs) (tT (wd m) v ds)), some (N x), b]) (tg := gNm 4)
        (body := (sAsg (eOp oCat (eGet2 (eFld 1 2 (eV 0)) (eOp oXor (eV 3) (eV 4)) (eC (.int 0))) (eC (.int 1))) (gSb (eFld 1 2 (eV 0)) (eOp oXor (eV 3) (eV 4))))) (φ := N) ds
        (fun j e M' => ∃ (b : Option D) (kvs : List (L2.Key × D)) (ks : List Nat), e = [some (.ref M.length), some (eD m rows), some (pfD (tT m w cs) (tT (wd m) v ds)), some (N x), b] ∧ M' = M ++ [I, .dK kvs] ∧ MK kvs ks (wd m) (ds.length * i + j))
        ⟨b, kvs, ks, rfl, rfl, hK⟩
        (fun j y e M' hy ⟨b, kvs, ks, he, hM, hK⟩ => by
          subst he; subst hM
          have hyb := h.b.hb y (List.mem_of_getElem? hy)
          have hj : j < ds.length := (List.getElem?_eq_some_iff.mp hy).1
          have hxy := Nat.xor_lt_two_pow hxb hyb
          have hkl := hK.len
          have hget : ∃ c, (getK kvs (.inl ((x ^^^ y : Nat) : Int))).getD (N 0) = N c ∧ c ≤ ds.length * i + j := by
            cases q : getK kvs (.inl ((x ^^^ y : Nat) : Int)) with
            | none => exact ⟨0, rfl, by omega⟩
            | some z =>
              have hin : x ^^^ y ∈ ks := by
                have hmk : (Sum.inl ((x ^^^ y : Nat) : Int) : L2.Key) ∈ kvs.map (·.1) := by
                  unfold getK at q
                  obtain ⟨p, hp, _⟩ := Option.map_eq_some_iff.mp q
                  have h1 := List.find?_some hp
                  have h2 := List.mem_of_find?_eq_some hp
                  exact List.mem_map.mpr ⟨p, h2, by simpa using h1⟩
                rw [hK.keys] at hmk
                obtain ⟨k, hk, ek⟩ := List.mem_map.mp hmk
                rw [← key_inj.mp ek]; exact hk
              obtain ⟨c, h1, h2⟩ := hK.val _ hin
              rw [q] at h1
              cases h1
              exact ⟨c, rfl, h2⟩
          obtain ⟨c, hc1, hc2⟩ := hget
          obtain ⟨ks2, hK2, _⟩ := hK.put hxy (N (c + 1)) ⟨c + 1, rfl, by omega⟩
          refine ⟨_, _, [some (.ref M.length), some (eD m rows), some (pfD (tT m w cs) (tT (wd m) v ds)), some (N x), some (N y)], M ++ [I, .dK (putD kvs (.inl ((x ^^^ y : Nat) : Int)) (N (c + 1)))], rfl, ?_, _, _, ks2, rfl, rfl, hK2⟩
          simp only [sAsg_eq, eOp_eq, eGet2_eq, eFld_eq, eV_eq, List.getElem?_cons_succ, List.getElem?_cons_zero, getV_some, R.bind_ok, fldK_rE, hself, fdM_ins, d2K_rE, isDct_rE, hdict, dcM_dK, d2X_t, opK1_eq, opK2_eq, oXor_N, lft_some, d2L_eq, eC_lit, d2Z_eq, dGet_rE, dgM_dK, Option.map_some, hc1, oCat_N, out_ok, asgK_eq, gSb_eq, sb1_eq, sb2_eq, setM_rE, List.set_cons_succ, List.set_cons_zero]
          rw [stM_dK (by omega) (by simp)]
          rw [hset]; rfl)
      obtain ⟨b2, kvs2, ks2, rfl, rfl, hK2⟩ := v2
      refine ⟨_, _, [some (.ref M.length), some (eD m rows), some (pfD (tT m w cs) (tT (wd m) v ds)), some (N x), b2], M ++ [I, .dK kvs2], rfl, ?_, _, _, _, ks2, rfl, rfl, ?_⟩
      · simp only [sFor_eq, iSq_eq, eOp_eq, eFld_eq, eV_eq, List.getElem?_cons_succ, List.getElem?_cons_zero, getV_some, R.bind_ok, fldK_rE, hself, fdM_ins, opK1_eq, eC_lit, opK2_eq, oIx_tup, lft_some, sqK_tup, out_ok, forK_eq, forG_some, List.length_map, List.set_cons_succ, List.set_cons_zero]
        exact v1
      · rw [Nat.mul_succ]; exact hK2)
  obtain ⟨a, b, kvs, ks, rfl, rfl, hK⟩ := w2
  have hcnt : ds.length * ds.length ≤ 24 * 24 := Nat.mul_le_mul hdl hdl
  refine ⟨[I, .dK kvs], sq, ks, ?_, ⟨M.length + 1, kvs, hself kvs, hdict kvs, hK.keys, fun k hk => ?_, by have := hK.len; omega⟩, h, hm1, hm, e2, e3, hK.bd⟩
  · simp [F_ProductCount_init, B_ProductCount_init, hbd, show wd m ≤ 100000 by omega, e1]
    rw [← hI, w1]
    simp
  · obtain ⟨c, h1, h2⟩ := hK.val k hk
    exact ⟨c, h1, by omega⟩
/-! the look at rows -/
def rpl (m : Nat) (ps : List (Nat × Nat)) : Nat := ps.foldl (fun acc p => acc ^^^ 2 ^ pn m p.1 p.2) 0
theorem rpl_lt {m : Nat} : ∀ (ps : List (Nat × Nat)) (a : Nat), a < 2 ^ wd m → (∀ p ∈ ps, p.1 ≤ p.2 ∧ p.2 < m) → ps.foldl (fun acc p => acc ^^^ 2 ^ pn m p.1 p.2) a < 2 ^ wd m
  | [], a, ha, _ => ha
  | p :: ps, a, ha, h => by
    have hp := h p (List.mem_cons_self ..)
    exact rpl_lt ps _ (Nat.xor_lt_two_pow ha (Nat.pow_lt_pow_right (by decide) (pn_lt hp.1 hp.2))) fun q hq => h q (List.mem_cons_of_mem _ hq)
theorem f_row_place (bd m : Nat) (r : Row) (M : Mem) (h : RowOk m r) (hm : m ≤ 40) : F_row_place bd [N m, rD r] M = .ok (N (rpl m r.1)) M := by
  have hwl := wd_le hm
  obtain ⟨e', M', w1, w2⟩ := for_xs (bd := M.length) (M := M) (e := [some (N m), some (rD r), some (N 0), none, none]) (tg := (gTp 2 (gsCons (gNm 3) (gsCons (gNm 4) gsNil)))) (body := (sAug 2 oXor (eOp oShl (eC (.int 1)) (eCall F_pair_number (aCons (eV 0) (aCons (eV 3) (aCons (eV 4) aNil))))))) (φ := pD) r.1
    (fun i e M' => ∃ a b, e = [some (N m), some (rD r), some (N ((r.1.take i).foldl (fun acc p => acc ^^^ 2 ^ pn m p.1 p.2) 0)), a, b] ∧ M' = M)
    ⟨none, none, rfl, rfl⟩
    (fun i q e M' hx ⟨a, b, he, hM⟩ => by
      subst he; subst hM
      have hq := h.inn q (List.mem_of_getElem? hx)
      have hlt := pn_lt hq.1 hq.2
      have ht : r.1.take (i + 1) = r.1.take i ++ [q] := by rw [List.take_succ, hx]; rfl
      refine ⟨[some (N m), some (rD r), some (N ((r.1.take i).foldl (fun acc p => acc ^^^ 2 ^ pn m p.1 p.2) 0)), some (N q.1), some (N q.2)], _, [some (N m), some (rD r), some (N ((r.1.take (i + 1)).foldl (fun acc p => acc ^^^ 2 ^ pn m p.1 p.2) 0)), some (N q.1), some (N q.2)], M', by simp [pD]; rfl, ?_, _, _, rfl, rfl⟩
      rw [ht, List.foldl_append]
      simp [f_pair_number _ m q.1 q.2 _ hq.1 hq.2 hm, show pn m q.1 q.2 ≤ 100000 by omega])
  obtain ⟨a, b, rfl, rfl⟩ := w2
  rw [List.take_length] at w1
  simp [F_row_place, B_row_place, rD]
  unfold rD at w1
  rw [w1]
  simp [rpl]
theorem f_made_of (bd B g : Nat) (xs : List Nat) (M : Mem) (hB : B ≤ 10000) (hx : ∀ x ∈ xs, x < 2 ^ B) (hl : xs.length ≤ 5000) (hg : g < 2 ^ B) :
    F_made_of bd [.lst (xs.map N), N g] M = .ok .non M ∨ ∃ mk, F_made_of bd [.lst (xs.map N), N g] M = .ok (N mk) M ∧ mk < 2 ^ xs.length := by
  obtain ⟨kvs, ker, e1, e2, _⟩ := f_ladder_of M.length B xs M (Nat.le_refl _) hB hx hl
  obtain ⟨l, mk, k1, k2, k3⟩ := f_lowered M.length M.length (M.length + 1) xs.length B (N xs.length) (.ref (M.length + 2)) kvs g 0 (M ++ [.ins 0 [some (N xs.length), some (.ref (M.length + 1)), some (.ref (M.length + 2))], .dK kvs, .lst (ker.map N)]) (by simp) (by simp) e2 hg hB (Nat.two_pow_pos _)
  by_cases q : l = 0
  · exact .inr ⟨mk, by simp [F_made_of, B_made_of, e1, k1, q], k3⟩
  · exact .inl (by simp [F_made_of, B_made_of, e1, k1, q])
end Q
set_option Elab.async false
set_option linter.all false
set_option maxRecDepth 100000
set_option maxHeartbeats 4000000
set_option exponentiation.threshold 5000
namespace Q
open Sh PySem
/-- a source that is read again at each turn, the memory left as it is -/
theorem run_src {α : Type} {bd : Nat} {M : Mem} {tg : GF} {c : BF} {f : EF} {e0 : Sh.Env} {φ : α → D} {src : Src} (xs : List α) (p : α → Bool) (h : α → D) (hs : src M = some (xs.map φ)) (hl : xs.length ≤ 16777216)
    (hb : ∀ x ∈ xs, TurnP tg c f bd e0 M (φ x) (p x) (h x)) : runS (lcBody bd e0 tg c f) src [] M = .ok ((xs.filter p).map h) M := by
  rw [← run_lc xs p h hl hb]
  unfold runS
  rw [hs]
  simp only
  have go : ∀ (n i : Nat) (acc : List D), goS (lcBody bd e0 tg c f) src n i acc M = goS (lcBody bd e0 tg c f) (fun _ => some (xs.map φ)) n i acc M := by
    intro n
    induction n with
    | zero => intro i acc; rfl
    | succ n ih =>
      intro i acc
      unfold goS
      rw [hs]
      simp only
      cases hi : (xs.map φ)[i]? with
      | none => rfl
      | some d =>
        simp only
        rw [List.getElem?_map] at hi
        obtain ⟨x, hx, rfl⟩ := Option.map_eq_some_iff.mp hi
        obtain ⟨e2, t1, t2, t3⟩ := (hb x (List.mem_of_getElem? hx)).go
        unfold lcBody turnB
        rw [t1, R.bind_ok, t2, R.bind_ok]
        cases q : p x with
        | false => simp only [Bool.false_eq_true, if_false, R.bind_ok]; exact ih _ _
        | true =>
          simp only [if_true]
          rw [t3 q, R.bind_ok]
          by_cases hh : acc.length < 16777216
          · rw [if_pos hh, R.bind_ok, R.bind_ok]; exact ih _ _
          · rw [if_neg hh]; rfl
  exact go _ _ _
structure KK (kvs : List (L2.Key × D)) (ks : List Nat) (B cnt : Nat) : Prop where
  keys : kvs.map (·.1) = ks.map (fun k => Sum.inl ((k : Nat) : Int))
  len : kvs.length ≤ cnt
  bd : ∀ k ∈ ks, k < 2 ^ B
theorem KK.put {kvs : List (L2.Key × D)} {ks : List Nat} {B cnt x : Nat} (h : KK kvs ks B cnt) (hx : x < 2 ^ B) (v : D) : ∃ ks', KK (putD kvs (.inl (x : Int)) v) ks' B (cnt + 1) := by
  have hmem : (Sum.inl (x : Int) : L2.Key) ∈ kvs.map (·.1) ↔ x ∈ ks := by
    rw [h.keys]
    constructor
    · intro q
      obtain ⟨y, hy, e⟩ := List.mem_map.mp q
      rw [key_inj.mp e] at hy; exact hy
    · intro q; exact List.mem_map.mpr ⟨x, q, rfl⟩
  have hpl := putD_len kvs (.inl (x : Int)) v
  have hl := h.len
  by_cases q : x ∈ ks
  · exact ⟨ks, by rw [putD_old _ _ _ (hmem.mpr q)]; exact h.keys, by omega, h.bd⟩
  · refine ⟨ks ++ [x], ?_, by omega, fun k hk => ?_⟩
    · rw [putD_new _ _ _ (fun z => q (hmem.mp z)), List.map_append, List.map_append, h.keys]; rfl
    · simp at hk
      rcases hk with hk | hk
      · exact h.bd k hk
      · rw [hk]; exact hx
theorem gaps_loop (bd a B : Nat) (ds : List Nat) (M0 : Mem) (n : Nat) (hn : n = M0.length) (hb : ∀ x ∈ ds, x < 2 ^ B) (hdl : ds.length ≤ 24) (W V : D) (E : Option D → Option D → Sh.Env) (hE5 : ∀ p q, (E p q)[11]? = some (some (.tup [W, V, .tup (ds.map N)]))) (hE8 : ∀ p q, (E p q)[8]? = some (some (.ref n)))
    (hE9 : ∀ p q, (E p q)[9]? = some p) (hE15 : ∀ p q, (E p q)[15]? = some q) (hS9 : ∀ p q r, (E p q).set 9 r = E r q) (hS15 : ∀ p q r, (E p q).set 15 r = E p r) :
    ∃ p q kvs ks, loopF (gNm 9) (sFor (iSq (eOp oIx (eV 11) (eC (.int 2)))) (gNm 15)
  (sAsg (eC (.bl true)) (gSb (eV 8) (eOp oXor (eV 9) (eV 15))))) (fun _ => some (ds.map N)) (ds.length + 1) 0 bd (E none none) (M0 ++ [.dK []]) = .nx (E p q) (M0 ++ [.dK kvs]) ∧ KK kvs ks B 576 := by
  subst hn
  obtain ⟨e', M', w1, w2⟩ := for_xs (bd := bd) (M := M0 ++ [.dK []]) (e := E none none) (tg := gNm 9) (body := (sFor (iSq (eOp oIx (eV 11) (eC (.int 2)))) (gNm 15)
  (sAsg (eC (.bl true)) (gSb (eV 8) (eOp oXor (eV 9) (eV 15)))))) (φ := N) ds
    (fun i e M' => ∃ (p q : Option D) (kvs : List (L2.Key × D)) (ks : List Nat), e = E p q ∧ M' = M0 ++ [.dK kvs] ∧ KK kvs ks B (ds.length * i))
    ⟨none, none, [], [], rfl, rfl, ⟨rfl, by simp, by simp⟩⟩
    (fun i x e M' hx ⟨p, q, kvs, ks, he, hM, hK⟩ => by
      subst he; subst hM
      have hxb := hb x (List.mem_of_getElem? hx)
      have hi : i < ds.length := (List.getElem?_eq_some_iff.mp hx).1
      have hii : ds.length * i ≤ 24 * 24 := Nat.mul_le_mul hdl (by omega)
      obtain ⟨e2, M2, v1, v2⟩ := for_xs (bd := bd) (M := M0 ++ [.dK kvs]) (e := E (some (N x)) q) (tg := gNm 15)
        (body := (sAsg (eC (.bl true)) (gSb (eV 8) (eOp oXor (eV 9) (eV 15))))) (φ := N) ds
        (fun j e M' => ∃ (q : Option D) (kvs : List (L2.Key × D)) (ks : List Nat), e = E (some (N x)) q ∧ M' = M0 ++ [.dK kvs] ∧ KK kvs ks B (ds.length * i + j))
        ⟨q, kvs, ks, rfl, rfl, hK⟩
        (fun j y e M' hy ⟨q, kvs, ks, he, hM, hK⟩ => by
          subst he; subst hM
          have hyb := hb y (List.mem_of_getElem? hy)
          have hj : j < ds.length := (List.getElem?_eq_some_iff.mp hy).1
          have hkl := hK.len
          obtain ⟨ks2, hK2⟩ := hK.put (Nat.xor_lt_two_pow hxb hyb) (.bl true)
          refine ⟨_, _, E (some (N x)) (some (N y)), M0 ++ [.dK (putD kvs (.inl ((x ^^^ y : Nat) : Int)) (.bl true))], by simp only [gNm_eq, hS15]; exact rfl, ?_, _, _, ks2, rfl, rfl, hK2⟩
          simp [hE8, hE9, hE15, show kvs.length < 16777216 by omega])
      obtain ⟨q2, kvs2, ks2, rfl, rfl, hK2⟩ := v2
      refine ⟨_, _, E (some (N x)) q2, M0 ++ [.dK kvs2], by simp only [gNm_eq, hS9]; exact rfl, ?_, _, _, _, ks2, rfl, rfl, by rw [Nat.mul_succ]; exact hK2⟩
      simp [hE5]
      exact v1)
  obtain ⟨p, q, kvs, ks, rfl, rfl, hK⟩ := w2
  have hcnt : ds.length * ds.length ≤ 24 * 24 := Nat.mul_le_mul hdl hdl
  exact ⟨p, q, kvs, ks, w1, hK.keys, by have := hK.len; omega, hK.bd⟩
end Q
set_option Elab.async false
set_option linter.all false
set_option maxRecDepth 100000
set_option maxHeartbeats 4000000
set_option exponentiation.threshold 5000
namespace Q
open Sh PySem
theorem zipD_map {α : Type} (f g : α → D) : ∀ l : List α, zipD (l.map f) (l.map g) = l.map fun r => D.tup [f r, g r]
  | [] => rfl
  | x :: l => by
    have := zipD_map f g l
    unfold zipD at this ⊢
    rw [List.map_cons, List.map_cons, List.zipWith_cons_cons, this]; rfl
theorem pick_fn {P : Nat → Prop} {Q : Nat → Nat → Prop} (h : ∀ n, P n → ∃ x, Q n x) : ∃ g : Nat → Nat, ∀ n, P n → Q n (g n) := by
  classical
  exact ⟨fun n => if hn : P n then Classical.choose (h n hn) else 0, fun n hn => by simp only [dif_pos hn]; exact Classical.choose_spec (h n hn)⟩
theorem f_row_fails_in (bd m w v : Nat) (cs ds : List Nat) (rows : List Row) (M : Mem) (he : EqOk m rows) (h : PfOk m w cs v ds) :
    ∃ z : Int, F_row_fails_in bd [eD m rows, pfD (tT m w cs) (tT (wd m) v ds)] M = .ok (.int z) M := by
  have hm := he.hi
  have hwl := wd_le hm
  have hdl := h.b.hl
  have hR := he.len
  obtain ⟨pl, hpl⟩ : ∃ pl : List Nat, pl = rows.map fun r => rpl m r.1 := ⟨_, rfl⟩
  have hpll : pl.length = rows.length := by rw [hpl, List.length_map]
  have hplb : ∀ x ∈ pl, x < 2 ^ wd m := fun x hx => by
    rw [hpl] at hx
    obtain ⟨r, hr, rfl⟩ := List.mem_map.mp hx
    exact rpl_lt _ 0 (Nat.two_pow_pos _) (he.row r hr).inn
  obtain ⟨es, hes⟩ : ∃ es : List Nat, es = rows.map fun r => par (v &&& rpl m r.1) ^^^ r.2 := ⟨_, rfl⟩
  have hesl : es.length = rows.length := by rw [hes, List.length_map]
  obtain ⟨e, heD⟩ : ∃ e : D, e = eD m rows := ⟨_, rfl⟩
  obtain ⟨pf, hpf⟩ : ∃ pf : D, pf = pfD (tT m w cs) (tT (wd m) v ds) := ⟨_, rfl⟩
  have r1 : runS (lcBody M.length [some (eD m rows), some (pfD (tT m w cs) (tT (wd m) v ds)), none, none, none, none, none, none, none, none, none, some (tT (wd m) v ds), some (N rows.length), none, none, none, none, none, none, none] (gNm 17) bYes (eCall F_row_place (aCons (eOp oIx (eV 0) (eC (.int 0))) (aCons (eV 17) aNil)))) (fun _ => some (rows.map rD)) [] M = .ok (pl.map N) M := by
    rw [hpl, List.map_map]
    exact run_map rows _ (by omega) fun r hr => ⟨_, rfl, rfl, fun _ => by simp [f_row_place _ _ _ _ (he.row r hr) hm]⟩
  have hz : zipD (pl.map N) (rows.map rD) = rows.map fun r => D.tup [N (rpl m r.1), rD r] := by
    rw [hpl, List.map_map]
    exact zipD_map _ _ rows
  have r2 : runS (lcBody M.length [some (eD m rows), some (pfD (tT m w cs) (tT (wd m) v ds)), some (.lst (pl.map N)), none, none, none, none, none, none, none, none, some (tT (wd m) v ds), some (N rows.length), none, none, none, none, none, none, none] (gTp 2 (gsCons (gNm 19) (gsCons (gNm 17) gsNil))) bYes (eOp oXor (eCall F_odd (aCons (eOp oAnd (eOp oIx (eV 11) (eC (.int 1))) (eV 19)) aNil)) (eOp oIx (eV 17) (eC (.int 1))))) (fun _ => some (rows.map fun r => D.tup [N (rpl m r.1), rD r])) [] M = .ok (es.map N) M := by
    rw [hes, List.map_map]
    exact run_map rows _ (by omega) fun r hr => ⟨[some (eD m rows), some (pfD (tT m w cs) (tT (wd m) v ds)), some (.lst (pl.map N)), none, none, none, none, none, none, none, none, some (tT (wd m) v ds), some (N rows.length), none, none, none, none, some (rD r), none, some (N (rpl m r.1))], by simp, rfl, fun _ => by simp [rD, f_odd _ _ (and_lt h.b.r' (by decide))]⟩
  obtain ⟨kvs, ker, l1, l2, l3, l4, l5⟩ := f_ladder_of M.length (wd m) pl M (Nat.le_refl _) (by omega) hplb (by omega)
  obtain ⟨L, hL⟩ : ∃ L : Mem, L = [.ins 0 [some (N pl.length), some (.ref (M.length + 1)), some (.ref (M.length + 2))], .dK kvs, .lst (ker.map N)] := ⟨_, rfl⟩
  have hL0 : ∀ L2 : Mem, (M ++ L ++ L2)[M.length]? = some (.ins 0 [some (N pl.length), some (.ref (M.length + 1)), some (.ref (M.length + 2))]) := fun L2 => by rw [hL]; simp
  have hL2 : ∀ L2 : Mem, (M ++ L ++ L2)[M.length + 2]? = some (.lst (ker.map N)) := fun L2 => by rw [hL]; simp
  have hLl : (M ++ L).length = M.length + 3 := by rw [hL]; simp
  have hL0' := hL0 []
  have hL2' := hL2 []
  rw [List.append_nil] at hL0' hL2'
  rw [← hL] at l1
  obtain ⟨M4, hM4⟩ : ∃ M4 : Mem, M4 = M ++ L := ⟨_, rfl⟩
  rw [← hM4] at l1 hL0' hL2' hLl
  obtain ⟨g, hg⟩ := pick_fn fun n (hn : n < 2 ^ es.length) => f_missed_by M.length n es M4 hn (by omega)
  obtain ⟨ms, hms⟩ : ∃ ms : Nat, ms = if 1 ∈ es then 2 ^ (rows.length - 1) else 0 := ⟨_, rfl⟩
  have hmsb : ms < 18446744073709551616 := by
    have : 2 ^ (rows.length - 1) < 2 ^ 64 := Nat.pow_lt_pow_right (by decide) (by omega)
    rw [hms]; split <;> omega
  obtain ⟨A, hA⟩ : ∃ A : Nat, A = 2 ^ wd m * ms := ⟨_, rfl⟩
  obtain ⟨P, hP⟩ : ∃ P : Nat, P = 2 ^ rows.length := ⟨_, rfl⟩
  obtain ⟨X0, hX⟩ : ∃ X0 : Int, X0 = (P : Int) - ((2 * ms : Nat) : Int) := ⟨_, rfl⟩
  obtain ⟨Y, hY⟩ : ∃ Y : Int, Y = ((2 * ds.length : Nat) : Int) * X0 := ⟨_, rfl⟩
  obtain ⟨z0, hz0⟩ : ∃ z0 : Int, z0 = (A : Int) + Y := ⟨_, rfl⟩
  have oA : ∀ M, oMul M (N (2 ^ wd m)) (N ms) = some (N A) := fun M => by rw [hA]; exact oMul_r hmsb
  have oP : ∀ M, oShl M (N 1) (N rows.length) = some (N P) := fun M => by rw [hP]; exact oShl_1 (by omega)
  have oX : ∀ M, oSub M (N P) (N (2 * ms)) = some (.int X0) := fun M => by rw [hX]; exact oSub_N
  have oY : ∀ M, oMul M (N (2 * ds.length)) (.int X0) = some (.int Y) := fun M => by rw [hY]; exact oMul_Ni (by omega)
  have oZ : ∀ M, oCat M (N A) (.int Y) = some (.int z0) := fun M => by rw [hz0]; rfl
  have r3 : runS (lcBody M.length [some (eD m rows), some (pfD (tT m w cs) (tT (wd m) v ds)), some (.lst (pl.map N)), some (.lst (es.map N)), some (N ms), some (.int z0), some (.ref M.length), none, none, none, none, some (tT (wd m) v ds), some (N rows.length), some (N (2 ^ wd m)), some (N ds.length), none, none, none, none, none] (gNm 16) bYes (eOp oEq (eCall F_missed_by (aCons (eV 3) (aCons (eV 16) aNil))) (eC (.int 1)))) (fun M' => lsM M'[M.length + 2]?) [] M4 = .ok ((ker.map fun k => decide (g k = 1)).map D.bl) M4 := by
    rw [List.map_map]
    have := run_src (bd := M.length) (M := M4) (tg := gNm 16) (c := bYes) (f := eOp oEq (eCall F_missed_by (aCons (eV 3) (aCons (eV 16) aNil))) (eC (.int 1))) (e0 := [some (eD m rows), some (pfD (tT m w cs) (tT (wd m) v ds)), some (.lst (pl.map N)), some (.lst (es.map N)), some (N ms), some (.int z0), some (.ref M.length), none, none, none, none, some (tT (wd m) v ds), some (N rows.length), some (N (2 ^ wd m)), some (N ds.length), none, none, none, none, none]) (φ := N) (src := fun M' => lsM M'[M.length + 2]?) ker (fun _ => true) (D.bl ∘ fun k => decide (g k = 1)) (by rw [hL2']; rfl) (by omega) fun k hk => ⟨_, rfl, rfl, fun _ => by
      have hk5 := l5 k hk
      rw [hpll, ← hesl] at hk5
      simp [(hg k hk5).1]⟩
    rw [this]
    congr 2
    exact List.filter_eq_self.mpr fun _ _ => rfl
  obtain ⟨kb, hkb⟩ : ∃ kb : Bool, kb = (ker.map fun k => decide (g k = 1)).any id := ⟨_, rfl⟩
  obtain ⟨p9, p15, kv2, ks, g1, g2⟩ := gaps_loop M.length 0 (wd m) ds M4 (M.length + 3) (by omega) h.b.hb hdl (N (wd m)) (N v) (fun p q => [some (eD m rows), some (pfD (tT m w cs) (tT (wd m) v ds)), some (.lst (pl.map N)), some (.lst (es.map N)), some (N ms), some (.int z0), some (.ref M.length), some (.bl kb), some (.ref (M.length + 3)), p, none, some (tT (wd m) v ds), some (N rows.length), some (N (2 ^ wd m)), some (N ds.length), q, none, none, none, none]) (fun _ _ => rfl) (fun _ _ => rfl) (fun _ _ => rfl) (fun _ _ => rfl) (fun _ _ _ => rfl) (fun _ _ _ => rfl)
  have hg3 : (M4 ++ [.dK kv2])[M.length + 3]? = some (.dK kv2) := by rw [← hLl]; simp
  have hsort : lSort (M4 ++ [.dK kv2]) [.ref (M.length + 3)] = some ((srtN ks).map N) := lSort_dK hg3 g2.keys (by have := g2.len; omega)
  obtain ⟨M3, hM3⟩ : ∃ M3 : Mem, M3 = M4 ++ [.dK kv2] := ⟨_, rfl⟩
  have hl2 : M3[M.length + 2]? = some (.lst (ker.map N)) := by rw [hM3, hM4]; exact hL2 [.dK kv2]
  have hl0 : M3[M.length]? = some (.ins 0 [some (N pl.length), some (.ref (M.length + 1)), some (.ref (M.length + 2))]) := by rw [hM3, hM4]; exact hL0 [.dK kv2]
  have htk : M3.take M.length = M := by rw [hM3, hM4]; simp
  rw [← hM3] at hg3 hsort g1
  obtain ⟨e', M', w1, w2⟩ := for_xs (bd := M.length) (M := M3) (e := [some (eD m rows), some (pfD (tT m w cs) (tT (wd m) v ds)), some (.lst (pl.map N)), some (.lst (es.map N)), some (N ms), some (.int z0), some (.ref M.length), some (.bl kb), some (.ref (M.length + 3)), p9, none, some (tT (wd m) v ds), some (N rows.length), some (N (2 ^ wd m)), some (N ds.length), p15, none, none, none, none]) (tg := gNm 10) (body := (sSeq (sSet 16 (eCall F_made_of (aCons (eV 2) (aCons (eV 10) aNil))))
  (sIf (bAnd (bV (eOp oNotN (eV 16) (eC .non))) (bNot (bT (eV 7))))
  (sSeq (sSet 18 (eOp oShl (eC (.int 1)) (eCB cLen (aCons (eFld 0 2 (eV 6)) aNil))))
  (sAug 5 oSub (eOp oMul (eOp oMul (eOp oMul (eC (.int 2)) (eCall F_meetings (aCons (eV 11) (aCons (eV 10) aNil)))) (eV 18)) (eOp oSub (eC (.int 1)) (eOp oMul (eC (.int 2)) (eCall F_missed_by (aCons (eV 3) (aCons (eV 16) aNil))))))))
  sNil))) (φ := N) (srtN ks)
    (fun i e M' => ∃ (z : Int) (a10 a16 a18 : Option D), e = [some (eD m rows), some (pfD (tT m w cs) (tT (wd m) v ds)), some (.lst (pl.map N)), some (.lst (es.map N)), some (N ms), some (.int z), some (.ref M.length), some (.bl kb), some (.ref (M.length + 3)), p9, a10, some (tT (wd m) v ds), some (N rows.length), some (N (2 ^ wd m)), some (N ds.length), p15, a16, none, a18, none] ∧ M' = M3)
    ⟨z0, none, none, none, rfl, rfl⟩
    (fun i x e M' hx ⟨z, a10, a16, a18, he', hM⟩ => by
      subst he'
      rw [hM]
      have hxk : x < 2 ^ wd m := g2.bd x ((srtN_perm ks).mem_iff.mp (List.mem_of_getElem? hx))
      rcases f_made_of M.length (wd m) x pl (M3) (by omega) hplb (by omega) hxk with k1 | ⟨mk, k1, k2⟩
      · exact ⟨_, _, [some (eD m rows), some (pfD (tT m w cs) (tT (wd m) v ds)), some (.lst (pl.map N)), some (.lst (es.map N)), some (N ms), some (.int z), some (.ref M.length), some (.bl kb), some (.ref (M.length + 3)), p9, some (N x), some (tT (wd m) v ds), some (N rows.length), some (N (2 ^ wd m)), some (N ds.length), p15, some .non, none, a18, none], M3, rfl, by simp [k1], _, _, _, _, rfl, rfl⟩
      · cases kb with
        | true => exact ⟨_, _, [some (eD m rows), some (pfD (tT m w cs) (tT (wd m) v ds)), some (.lst (pl.map N)), some (.lst (es.map N)), some (N ms), some (.int z), some (.ref M.length), some (.bl true), some (.ref (M.length + 3)), p9, some (N x), some (tT (wd m) v ds), some (N rows.length), some (N (2 ^ wd m)), some (N ds.length), p15, some (N mk), none, a18, none], M3, rfl, by simp [k1], _, _, _, _, rfl, rfl⟩
        | false =>
          rw [hpll, ← hesl] at k2
          obtain ⟨y, t1, t2⟩ := f_missed_by M.length mk es (M3) k2 (by omega)
          have hmt := mt_le ds x
          have hkl : ker.length ≤ 50 := by omega
          have hpk : 2 ^ ker.length ≤ 2 ^ 50 := Nat.pow_le_pow_right (by decide) hkl
          have hmm : 2 * mt ds x * 2 ^ ker.length < 18446744073709551616 := by
            have := Nat.mul_le_mul (show 2 * mt ds x ≤ 48 by omega) hpk
            omega
          have hmul : ∀ M, oMul M (N (2 * mt ds x)) (N (2 ^ ker.length)) = some (N (2 * mt ds x * 2 ^ ker.length)) := fun M => oMul_l (by omega)
          obtain ⟨Z, hZ⟩ : ∃ Z : Nat, Z = 2 * mt ds x * 2 ^ ker.length := ⟨_, rfl⟩
          rw [← hZ] at hmul hmm
          exact ⟨_, _, [some (eD m rows), some (pfD (tT m w cs) (tT (wd m) v ds)), some (.lst (pl.map N)), some (.lst (es.map N)), some (N ms), some (.int (z - ((Z : Nat) : Int) * (((1 : Nat) : Int) - ((2 * y : Nat) : Int)))), some (.ref M.length), some (.bl false), some (.ref (M.length + 3)), p9, some (N x), some (tT (wd m) v ds), some (N rows.length), some (N (2 ^ wd m)), some (N ds.length), p15, some (N mk), none, some (N (2 ^ ker.length)), none], M3, rfl, by simp [k1, hl0, hl2, show ker.length ≤ 100000 by omega, f_meetings _ _ _ _ _ _ (show ds.length < 16777216 by omega), hmul, t1, oSub_N, hmm], _, _, _, _, rfl, rfl⟩)
  obtain ⟨z, a10, a16, a18, rfl, rfl⟩ := w2
  refine ⟨z, ?_⟩
  have hzip : iZz (aCons (eV 2) (aCons (eOp oIx (eV 0) (eC (.int 1))) aNil)) M.length [some (eD m rows), some (pfD (tT m w cs) (tT (wd m) v ds)), some (.lst (pl.map N)), none, none, none, none, none, none, none, none, some (tT (wd m) v ds), some (N rows.length), none, none, none, none, none, none, none] M = .ok (fun _ => some (rows.map fun r => D.tup [N (rpl m r.1), rD r])) M := by
    rw [← hz]; exact iZz_lt (by simp)
  have hwd : wd m ≤ 100000 := by omega
  have hms2 : (1 ∈ es ∧ ms = 2 ^ (rows.length - 1) ∧ 1 ≤ rows.length) ∨ (1 ∉ es ∧ ms = 0) := by
    by_cases q : 1 ∈ es
    · refine .inl ⟨q, by rw [hms, if_pos q], ?_⟩
      rw [← hesl]
      exact List.length_pos_iff.mpr (List.ne_nil_of_mem q)
    · exact .inr ⟨q, by rw [hms, if_neg q]⟩
  have hmiss : ∀ (E : Sh.Env) (bd : Nat) (M : Mem), E[3]? = some (some (.lst (es.map N))) → E[12]? = some (some (N rows.length)) → (eIf (bV (eOp oIn (eC (.int 1)) (eV 3))) (eOp oShl (eC (.int 1)) (eOp oSub (eV 12) (eC (.int 1)))) (eC (.int 0))) bd E M = .ok (N ms) M := fun E bd M h3 h12 => by
    rcases hms2 with ⟨q, h1, h2⟩ | ⟨q, h1⟩
    · simp [h3, h12, q, oSub_m1 h2, show rows.length - 1 ≤ 100000 by omega, h1]
    · simp [h3, h12, q, h1]
  have hmiss2 := hmiss [some (eD m rows), some (pfD (tT m w cs) (tT (wd m) v ds)), some (.lst (pl.map N)), some (.lst (es.map N)), none, none, none, none, none, none, none, some (tT (wd m) v ds), some (N rows.length), some (N (2 ^ wd m)), some (N ds.length), none, none, none, none, none] M.length M rfl rfl
  clear hmiss
  simp at hmiss2
  subst hz0
  simp at r3 g1 w1
  have hany : ∀ M, cAny M [.lst (ker.map (D.bl ∘ fun k => decide (g k = 1)))] = some (.bl kb) := fun M => by rw [← List.map_map, cAny_map, hkb]
  simp [F_row_fails_in, B_row_fails_in, r1, hzip, r2, hwd, hmiss2, oA, oP, oX, oY, l1, hL0', hL2', r3, hany]
  simp only [hLl]
  rw [g1]
  simp [hsort]
  rw [w1]
  simp [htk]
end Q
set_option Elab.async false
set_option linter.all false
set_option maxRecDepth 100000
set_option maxHeartbeats 4000000
set_option exponentiation.threshold 5000
namespace Q
open Sh PySem
theorem f_fails_in (bd m w v : Nat) (cs ds : List Nat) (rows : List Row) (M : Mem) (he : EqOk m rows) (h : PfOk m w cs v ds) :
    ∃ a b : Int, F_fails_in bd [eD m rows, pfD (tT m w cs) (tT (wd m) v ds)] M = .ok (.tup [.int (lf m cs), .int (lf (wd m) ds), .int a, .int b]) M := by
  obtain ⟨M2, sq, ks, e1, hP⟩ := f_init M.length m w v cs ds rows M (Nat.le_refl _) h he.lo he.hi
  obtain ⟨z, e2⟩ := f_fails hP M.length
  obtain ⟨y, e3⟩ := f_row_fails_in M.length m w v cs ds rows (M ++ M2) he h
  have k1 := fun bd => f_line_fails_in bd _ _ _ (M ++ M2) h.a
  have k2 := fun bd => f_line_fails_in bd _ _ _ (M ++ M2) h.b
  obtain ⟨n2, kvs, h1, _⟩ := hP.ex
  refine ⟨z, y, ?_⟩
  simp [F_fails_in, B_fails_in, e1, h1, e2, k1, k2, e3]
theorem f_fail_counts (bd m w v : Nat) (cs ds : List Nat) (rows : List Row) (M : Mem) (he : EqOk m rows) (h : PfOk m w cs v ds) :
    ∃ a b : Int, F_fail_counts bd [eD m rows, pfD (tT m w cs) (tT (wd m) v ds)] M = .ok (.tup [.int (lf m cs), .int (lf (wd m) ds), .int a, .int b]) M := by
  obtain ⟨a, b, e1⟩ := f_fails_in M.length m w v cs ds rows M he h
  have hf : (eD m rows).flat = true := mx_flat (mx_eD he)
  refine ⟨a, b, ?_⟩
  simp [F_fail_counts, B_fail_counts, f_sure_equations _ _ _ _ he, f_sure_proof _ _ _ _ rows _ _ _ h, e1]
end Q
set_option Elab.async false
set_option linter.all false
set_option maxRecDepth 100000
set_option maxHeartbeats 4000000
set_option exponentiation.threshold 5000
namespace Q
open Sh PySem
def g5b : SF := (sSeq (sSet 8 (eIf (bV (eOp oGt (eCall F__law_take (aCons (eV 1) (aCons (eC (.int 3)) aNil))) (eC (.int 0)))) (eCall F__law_wide (aCons (eV 1) (aCons (eV 3) aNil))) (eOp oXor (eCall F__law_of (aCons (eV 1) (aCons (eV 6) aNil))) (eCall F__law_of (aCons (eV 1) (aCons (eV 6) aNil)))))) (sDrop (eMt mAppend (eV 6) (aCons (eV 8) aNil))))
def own5 : EF := (eIf (bV (eOp oGt (eCall F__law_take (aCons (eV 1) (aCons (eC (.int 3)) aNil))) (eC (.int 0)))) (eCall F__law_wide (aCons (eV 1) (aCons (eV 3) aNil))) (eOp oXor (eCall F__law_of (aCons (eV 1) (aCons (eV 6) aNil))) (eCall F__law_of (aCons (eV 1) (aCons (eV 6) aNil)))))
def g6b : SF := (sSeq (sSet 11 (eIf (bV (eOp oNotIn (eV 8) (eOp oIx (eV 5) (eC (.int 2))))) (eOp oCat (eOp oIx (eV 5) (eC (.int 2))) (eTup (aCons (eV 8) aNil))) (eCB cTup (aCons (eLc (iSq (eOp oIx (eV 5) (eC (.int 2)))) [23] (gNm 23) (bV (eOp oNe (eV 23) (eV 8))) (eV 23)) aNil)))) (sSeq (sSet 12 (eCall F__law_heard (aCons (eV 5) (aCons (eV 8) aNil)))) (sSeq (sIf (bV (eOp oGt (eCB cLen (aCons (eV 11) aNil)) (eC (.int 24)))) (sSeq (sIf (bV (eOp oNe (eV 12) (eLst (aCons (eC (.str "cannot")) (aCons (eC (.bl true)) aNil))))) (sRet (eC (.bl false))) sNil) sCt) sNil) (sSeq (sIf (bNot (bT (eCall (F__law_same 9) (aCons (eLst (aCons (eV 12) (aCons (eCall F_bit_at (aCons (eV 12) (aCons (eV 8) aNil))) (aCons (eCall F_bit_at (aCons (eV 5) (aCons (eV 8) aNil))) aNil)))) (aCons (eLst (aCons (eTup (aCons (eV 3) (aCons (eV 4) (aCons (eCB cTup (aCons (eCL lSort (aCons (eV 11) aNil)) aNil)) aNil)))) (aCons (eCall F__law_bit (aCons (eV 12) (aCons (eV 8) aNil))) (aCons (eOp oSub (eC (.int 1)) (eCall F__law_bit (aCons (eV 12) (aCons (eV 8) aNil)))) aNil)))) aNil))))) (sRet (eC (.bl false))) sNil) (sSet 5 (eV 12))))))
def g6_0 : SF := (sSet 11 (eIf (bV (eOp oNotIn (eV 8) (eOp oIx (eV 5) (eC (.int 2))))) (eOp oCat (eOp oIx (eV 5) (eC (.int 2))) (eTup (aCons (eV 8) aNil))) (eCB cTup (aCons (eLc (iSq (eOp oIx (eV 5) (eC (.int 2)))) [23] (gNm 23) (bV (eOp oNe (eV 23) (eV 8))) (eV 23)) aNil))))
def g6_1 : SF := (sSet 12 (eCall F__law_heard (aCons (eV 5) (aCons (eV 8) aNil))))
def g6_2 : SF := (sIf (bV (eOp oGt (eCB cLen (aCons (eV 11) aNil)) (eC (.int 24)))) (sSeq (sIf (bV (eOp oNe (eV 12) (eLst (aCons (eC (.str "cannot")) (aCons (eC (.bl true)) aNil))))) (sRet (eC (.bl false))) sNil) sCt) sNil)
def g6_3 : SF := (sIf (bNot (bT (eCall (F__law_same 9) (aCons (eLst (aCons (eV 12) (aCons (eCall F_bit_at (aCons (eV 12) (aCons (eV 8) aNil))) (aCons (eCall F_bit_at (aCons (eV 5) (aCons (eV 8) aNil))) aNil)))) (aCons (eLst (aCons (eTup (aCons (eV 3) (aCons (eV 4) (aCons (eCB cTup (aCons (eCL lSort (aCons (eV 11) aNil)) aNil)) aNil)))) (aCons (eCall F__law_bit (aCons (eV 12) (aCons (eV 8) aNil))) (aCons (eOp oSub (eC (.int 1)) (eCall F__law_bit (aCons (eV 12) (aCons (eV 8) aNil)))) aNil)))) aNil))))) (sRet (eC (.bl false))) sNil)
def g6_4 : SF := (sSet 5 (eV 12))
def g11b : SF := (sSeq (sSet 15 (eCall F__law_of (aCons (eV 1) (aCons (eLst (aCons (eC (.int 0)) (aCons (eC (.int 1)) (aCons (eOp oXor (eCall F__law_of (aCons (eV 1) (aCons (eV 6) aNil))) (eCall F__law_of (aCons (eV 1) (aCons (eV 6) aNil)))) (aCons (eCall F__law_wide (aCons (eV 1) (aCons (eV 3) aNil))) aNil))))) aNil)))) (sSeq (sSet 16 (eCB cLen (aCons (eLc (iSq (eOp oIx (eV 5) (eC (.int 2)))) [8] (gNm 8) (bV (eOp oIn (eOp oXor (eV 8) (eV 15)) (eOp oIx (eV 5) (eC (.int 2))))) (eC (.int 1))) aNil))) (sSeq (sSet 17 (eOp oMul (eC (.int 2)) (eOp oSub (eV 14) (eV 16)))) (sSeq (sIf (bNot (bT (eCall (F__law_same 9) (aCons (eLst (aCons (eCall F_unlike_far (aCons (eV 5) (aCons (eV 15) aNil))) (aCons (eCall F_right_share (aCons (eV 5) (aCons (eV 15) aNil))) aNil))) (aCons (eLst (aCons (eV 17) (aCons (eCall F__law_share (aCons (eOp oSub (eV 13) (eV 17)) (aCons (eV 13) aNil))) aNil))) aNil))))) (sRet (eC (.bl false))) sNil) (sSeq (sSet 18 (eCall F__law_of (aCons (eV 1) (aCons (eLst (aCons (eCall F__law_wide (aCons (eV 1) (aCons (eV 3) aNil))) (aCons (eCall F__law_of (aCons (eV 1) (aCons (eV 6) aNil))) aNil))) aNil)))) (sSeq (sSet 19 (eOp oXor (eCall F__law_bit (aCons (eV 5) (aCons (eV 18) aNil))) (eCall F__law_bit (aCons (eV 5) (aCons (eOp oXor (eV 18) (eV 15)) aNil))))) (sSeq (sSet 20 (eOp oEq (eOp oIn (eV 18) (eOp oIx (eV 5) (eC (.int 2)))) (eOp oIn (eOp oXor (eV 18) (eV 15)) (eOp oIx (eV 5) (eC (.int 2)))))) (sIf (bOr (bNot (bT (eCall (F__law_same 9) (aCons (eCall F_corrected (aCons (eV 5) (aCons (eV 15) (aCons (eV 18) aNil)))) (aCons (eV 19) aNil))))) (bV (eOp oNe (eOp oEq (eV 19) (eCall F__law_odd (aCons (eOp oAnd (eV 4) (eV 15)) aNil))) (eV 20)))) (sRet (eC (.bl false))) sNil))))))))
def g11_0 : SF := (sSet 15 (eCall F__law_of (aCons (eV 1) (aCons (eLst (aCons (eC (.int 0)) (aCons (eC (.int 1)) (aCons (eOp oXor (eCall F__law_of (aCons (eV 1) (aCons (eV 6) aNil))) (eCall F__law_of (aCons (eV 1) (aCons (eV 6) aNil)))) (aCons (eCall F__law_wide (aCons (eV 1) (aCons (eV 3) aNil))) aNil))))) aNil))))
def g11_1 : SF := (sSet 16 (eCB cLen (aCons (eLc (iSq (eOp oIx (eV 5) (eC (.int 2)))) [8] (gNm 8) (bV (eOp oIn (eOp oXor (eV 8) (eV 15)) (eOp oIx (eV 5) (eC (.int 2))))) (eC (.int 1))) aNil)))
def g11_2 : SF := (sSet 17 (eOp oMul (eC (.int 2)) (eOp oSub (eV 14) (eV 16))))
def g11_3 : SF := (sIf (bNot (bT (eCall (F__law_same 9) (aCons (eLst (aCons (eCall F_unlike_far (aCons (eV 5) (aCons (eV 15) aNil))) (aCons (eCall F_right_share (aCons (eV 5) (aCons (eV 15) aNil))) aNil))) (aCons (eLst (aCons (eV 17) (aCons (eCall F__law_share (aCons (eOp oSub (eV 13) (eV 17)) (aCons (eV 13) aNil))) aNil))) aNil))))) (sRet (eC (.bl false))) sNil)
def g11_4 : SF := (sSet 18 (eCall F__law_of (aCons (eV 1) (aCons (eLst (aCons (eCall F__law_wide (aCons (eV 1) (aCons (eV 3) aNil))) (aCons (eCall F__law_of (aCons (eV 1) (aCons (eV 6) aNil))) aNil))) aNil))))
def g11_5 : SF := (sSet 19 (eOp oXor (eCall F__law_bit (aCons (eV 5) (aCons (eV 18) aNil))) (eCall F__law_bit (aCons (eV 5) (aCons (eOp oXor (eV 18) (eV 15)) aNil)))))
def g11_6 : SF := (sSet 20 (eOp oEq (eOp oIn (eV 18) (eOp oIx (eV 5) (eC (.int 2)))) (eOp oIn (eOp oXor (eV 18) (eV 15)) (eOp oIx (eV 5) (eC (.int 2))))))
def g11_7 : SF := (sIf (bOr (bNot (bT (eCall (F__law_same 9) (aCons (eCall F_corrected (aCons (eV 5) (aCons (eV 15) (aCons (eV 18) aNil)))) (aCons (eV 19) aNil))))) (bV (eOp oNe (eOp oEq (eV 19) (eCall F__law_odd (aCons (eOp oAnd (eV 4) (eV 15)) aNil))) (eV 20)))) (sRet (eC (.bl false))) sNil)
def lp0 : SF := (sSet 3 (eCall F__law_of (aCons (eV 1) (aCons (eLst (aCons (eC (.int 6)) (aCons (eC (.int 8)) (aCons (eC (.int 11)) (aCons (eC (.int 28)) (aCons (eC (.int 40)) (aCons (eC (.int 300)) (aCons (eC (.int 820)) aNil)))))))) aNil))))
def lp1 : SF := (sSet 4 (eCall F__law_wide (aCons (eV 1) (aCons (eV 3) aNil))))
def lp2 : SF := (sSet 5 (eCall F_straight_told (aCons (eV 3) (aCons (eV 4) aNil))))
def lp3 : SF := (sIf (bNot (bT (eCall (F__law_same 9) (aCons (eV 5) (aCons (eTup (aCons (eV 3) (aCons (eV 4) (aCons (eTup aNil) aNil)))) aNil))))) (sRet (eC (.bl false))) sNil)
def lp4 : SF := (sSet 6 (eLstM (aCons (eC (.int 0)) (aCons (eOp oSub (eOp oShl (eC (.int 1)) (eV 3)) (eC (.int 1))) (aCons (eC (.int 1)) (aCons (eC (.int 2)) (aCons (eC (.int 3)) aNil)))))))
def lp5 : SF := (sFor (iRg1 (aCons (eCall F__law_take (aCons (eV 1) (aCons (eC (.int 24)) aNil))) aNil)) (gNm 7) (sSeq (sSet 8 (eIf (bV (eOp oGt (eCall F__law_take (aCons (eV 1) (aCons (eC (.int 3)) aNil))) (eC (.int 0)))) (eCall F__law_wide (aCons (eV 1) (aCons (eV 3) aNil))) (eOp oXor (eCall F__law_of (aCons (eV 1) (aCons (eV 6) aNil))) (eCall F__law_of (aCons (eV 1) (aCons (eV 6) aNil)))))) (sDrop (eMt mAppend (eV 6) (aCons (eV 8) aNil)))))
def lp6 : SF := (sFor (iSq (eCall F__law_pick (aCons (eV 1) (aCons (eV 6) (aCons (eOp oCat (eC (.int 1)) (eCall F__law_take (aCons (eV 1) (aCons (eCB cLen (aCons (eV 6) aNil)) aNil)))) aNil))))) (gNm 8) (sSeq (sSet 11 (eIf (bV (eOp oNotIn (eV 8) (eOp oIx (eV 5) (eC (.int 2))))) (eOp oCat (eOp oIx (eV 5) (eC (.int 2))) (eTup (aCons (eV 8) aNil))) (eCB cTup (aCons (eLc (iSq (eOp oIx (eV 5) (eC (.int 2)))) [23] (gNm 23) (bV (eOp oNe (eV 23) (eV 8))) (eV 23)) aNil)))) (sSeq (sSet 12 (eCall F__law_heard (aCons (eV 5) (aCons (eV 8) aNil)))) (sSeq (sIf (bV (eOp oGt (eCB cLen (aCons (eV 11) aNil)) (eC (.int 24)))) (sSeq (sIf (bV (eOp oNe (eV 12) (eLst (aCons (eC (.str "cannot")) (aCons (eC (.bl true)) aNil))))) (sRet (eC (.bl false))) sNil) sCt) sNil) (sSeq (sIf (bNot (bT (eCall (F__law_same 9) (aCons (eLst (aCons (eV 12) (aCons (eCall F_bit_at (aCons (eV 12) (aCons (eV 8) aNil))) (aCons (eCall F_bit_at (aCons (eV 5) (aCons (eV 8) aNil))) aNil)))) (aCons (eLst (aCons (eTup (aCons (eV 3) (aCons (eV 4) (aCons (eCB cTup (aCons (eCL lSort (aCons (eV 11) aNil)) aNil)) aNil)))) (aCons (eCall F__law_bit (aCons (eV 12) (aCons (eV 8) aNil))) (aCons (eOp oSub (eC (.int 1)) (eCall F__law_bit (aCons (eV 12) (aCons (eV 8) aNil)))) aNil)))) aNil))))) (sRet (eC (.bl false))) sNil) (sSet 5 (eV 12)))))))
def lp7 : SF := (sSet2 13 14 (aCons (eOp oShl (eC (.int 1)) (eV 3)) (aCons (eCB cLen (aCons (eOp oIx (eV 5) (eC (.int 2))) aNil)) aNil)))
def lp8 : SF := (sSet 9 (eLst (aCons (eCall F_is_told (aCons (eV 5) aNil)) (aCons (eCall F_line_fails (aCons (eCall (F__law_mixed 9) (aCons (eV 1) (aCons (eV 5) aNil))) aNil)) (aCons (eCall F_many_ones (aCons (eV 5) aNil)) (aCons (eOp oIx (eCall F_straight_told (aCons (eV 3) (aCons (eOp oIx (eV 5) (eC (.int 1))) aNil))) (eC (.int 1))) aNil))))))
def lp9 : SF := (sIf (bNot (bT (eCall (F__law_same 9) (aCons (eV 9) (aCons (eLst (aCons (eC (.bl true)) (aCons (eCall F__law_lined (aCons (eV 5) aNil)) (aCons (eCall F__law_ones (aCons (eV 5) aNil)) (aCons (eV 4) aNil))))) aNil))))) (sRet (eC (.bl false))) sNil)
def lp10 : SF := (sIf (bAnd (bV (eOp oLtS (eOp oMul (eC (.int 4)) (eV 14)) (eV 13))) (bNot (bT (eCall (F__law_same 9) (aCons (eCall F_nearest_row (aCons (eV 5) aNil)) (aCons (eV 4) aNil)))))) (sRet (eC (.bl false))) sNil)
def lp11 : SF := (sFor (iRg1 (aCons (eC (.int 5)) aNil)) (gNm 7) (sSeq (sSet 15 (eCall F__law_of (aCons (eV 1) (aCons (eLst (aCons (eC (.int 0)) (aCons (eC (.int 1)) (aCons (eOp oXor (eCall F__law_of (aCons (eV 1) (aCons (eV 6) aNil))) (eCall F__law_of (aCons (eV 1) (aCons (eV 6) aNil)))) (aCons (eCall F__law_wide (aCons (eV 1) (aCons (eV 3) aNil))) aNil))))) aNil)))) (sSeq (sSet 16 (eCB cLen (aCons (eLc (iSq (eOp oIx (eV 5) (eC (.int 2)))) [8] (gNm 8) (bV (eOp oIn (eOp oXor (eV 8) (eV 15)) (eOp oIx (eV 5) (eC (.int 2))))) (eC (.int 1))) aNil))) (sSeq (sSet 17 (eOp oMul (eC (.int 2)) (eOp oSub (eV 14) (eV 16)))) (sSeq (sIf (bNot (bT (eCall (F__law_same 9) (aCons (eLst (aCons (eCall F_unlike_far (aCons (eV 5) (aCons (eV 15) aNil))) (aCons (eCall F_right_share (aCons (eV 5) (aCons (eV 15) aNil))) aNil))) (aCons (eLst (aCons (eV 17) (aCons (eCall F__law_share (aCons (eOp oSub (eV 13) (eV 17)) (aCons (eV 13) aNil))) aNil))) aNil))))) (sRet (eC (.bl false))) sNil) (sSeq (sSet 18 (eCall F__law_of (aCons (eV 1) (aCons (eLst (aCons (eCall F__law_wide (aCons (eV 1) (aCons (eV 3) aNil))) (aCons (eCall F__law_of (aCons (eV 1) (aCons (eV 6) aNil))) aNil))) aNil)))) (sSeq (sSet 19 (eOp oXor (eCall F__law_bit (aCons (eV 5) (aCons (eV 18) aNil))) (eCall F__law_bit (aCons (eV 5) (aCons (eOp oXor (eV 18) (eV 15)) aNil))))) (sSeq (sSet 20 (eOp oEq (eOp oIn (eV 18) (eOp oIx (eV 5) (eC (.int 2)))) (eOp oIn (eOp oXor (eV 18) (eV 15)) (eOp oIx (eV 5) (eC (.int 2)))))) (sIf (bOr (bNot (bT (eCall (F__law_same 9) (aCons (eCall F_corrected (aCons (eV 5) (aCons (eV 15) (aCons (eV 18) aNil)))) (aCons (eV 19) aNil))))) (bV (eOp oNe (eOp oEq (eV 19) (eCall F__law_odd (aCons (eOp oAnd (eV 4) (eV 15)) aNil))) (eV 20)))) (sRet (eC (.bl false))) sNil)))))))))
def lp12 : SF := (sSet 10 (eGet1 (eDisp [(.inl 6, .int 3), (.inl 28, .int 7), (.inl 300, .int 24), (.inl 820, .int 40)]) (eV 3)))
def lp13 : SF := (sIf (bV (eOp oNotN (eV 10) (eC .non))) (sSeq (sSet 21 (eCall F__law_some_equations (aCons (eV 1) (aCons (eV 10) (aCons (eC (.int 4)) aNil))))) (sSeq (sSet 22 (eTup (aCons (eCall F__law_some_told (aCons (eV 1) (aCons (eV 10) (aCons (eC (.int 4)) aNil)))) (aCons (eV 5) aNil)))) (sSeq (sSet 9 (eLst (aCons (eCall F_is_proof (aCons (eV 21) (aCons (eV 22) aNil))) (aCons (eSl (eCall F_fail_counts (aCons (eV 21) (aCons (eV 22) aNil))) oNo (oYes (eC (.int 2)))) (aCons (eOp oIx (eCall F_many_draws (aCons (eV 21) aNil)) (eC (.int 1))) aNil))))) (sIf (bNot (bT (eCall (F__law_same 9) (aCons (eV 9) (aCons (eLst (aCons (eC (.bl true)) (aCons (eTup (aCons (eCall F__law_lined (aCons (eOp oIx (eV 22) (eC (.int 0))) aNil)) (aCons (eCall F__law_lined (aCons (eV 5) aNil)) aNil))) (aCons (eOp oMul (eV 13) (eV 13)) aNil)))) aNil))))) (sRet (eC (.bl false))) sNil)))) (sIf (bV (eOp oLtS (eV 3) (eC (.int 41)))) (sSeq (sSet 21 (eTup (aCons (eV 3) (aCons (eTup aNil) aNil)))) (sSeq (sSet 22 (eTup (aCons (eV 5) (aCons (eTup (aCons (eOp oDiv (eOp oMul (eV 3) (eOp oCat (eV 3) (eC (.int 1)))) (eC (.int 2))) (aCons (eC (.int 0)) (aCons (eTup aNil) aNil)))) aNil)))) (sIf (bNot (bT (eCall (F__law_same 9) (aCons (eLst (aCons (eCall F_is_proof (aCons (eV 21) (aCons (eV 22) aNil))) (aCons (eSl (eCall F_fail_counts (aCons (eV 21) (aCons (eV 22) aNil))) oNo (oYes (eC (.int 2)))) aNil))) (aCons (eLst (aCons (eC (.bl true)) (aCons (eTup (aCons (eCall F__law_lined (aCons (eV 5) aNil)) (aCons (eC (.int 0)) aNil))) aNil))) aNil))))) (sRet (eC (.bl false))) sNil))) sNil))
def lapB : SF := (sSeq (sSet 3 (eCall F__law_of (aCons (eV 1) (aCons (eLst (aCons (eC (.int 6)) (aCons (eC (.int 8)) (aCons (eC (.int 11)) (aCons (eC (.int 28)) (aCons (eC (.int 40)) (aCons (eC (.int 300)) (aCons (eC (.int 820)) aNil)))))))) aNil)))) (sSeq (sSet 4 (eCall F__law_wide (aCons (eV 1) (aCons (eV 3) aNil)))) (sSeq (sSet 5 (eCall F_straight_told (aCons (eV 3) (aCons (eV 4) aNil)))) (sSeq (sIf (bNot (bT (eCall (F__law_same 9) (aCons (eV 5) (aCons (eTup (aCons (eV 3) (aCons (eV 4) (aCons (eTup aNil) aNil)))) aNil))))) (sRet (eC (.bl false))) sNil) (sSeq (sSet 6 (eLstM (aCons (eC (.int 0)) (aCons (eOp oSub (eOp oShl (eC (.int 1)) (eV 3)) (eC (.int 1))) (aCons (eC (.int 1)) (aCons (eC (.int 2)) (aCons (eC (.int 3)) aNil))))))) (sSeq (sFor (iRg1 (aCons (eCall F__law_take (aCons (eV 1) (aCons (eC (.int 24)) aNil))) aNil)) (gNm 7) (sSeq (sSet 8 (eIf (bV (eOp oGt (eCall F__law_take (aCons (eV 1) (aCons (eC (.int 3)) aNil))) (eC (.int 0)))) (eCall F__law_wide (aCons (eV 1) (aCons (eV 3) aNil))) (eOp oXor (eCall F__law_of (aCons (eV 1) (aCons (eV 6) aNil))) (eCall F__law_of (aCons (eV 1) (aCons (eV 6) aNil)))))) (sDrop (eMt mAppend (eV 6) (aCons (eV 8) aNil))))) (sSeq (sFor (iSq (eCall F__law_pick (aCons (eV 1) (aCons (eV 6) (aCons (eOp oCat (eC (.int 1)) (eCall F__law_take (aCons (eV 1) (aCons (eCB cLen (aCons (eV 6) aNil)) aNil)))) aNil))))) (gNm 8) (sSeq (sSet 11 (eIf (bV (eOp oNotIn (eV 8) (eOp oIx (eV 5) (eC (.int 2))))) (eOp oCat (eOp oIx (eV 5) (eC (.int 2))) (eTup (aCons (eV 8) aNil))) (eCB cTup (aCons (eLc (iSq (eOp oIx (eV 5) (eC (.int 2)))) [23] (gNm 23) (bV (eOp oNe (eV 23) (eV 8))) (eV 23)) aNil)))) (sSeq (sSet 12 (eCall F__law_heard (aCons (eV 5) (aCons (eV 8) aNil)))) (sSeq (sIf (bV (eOp oGt (eCB cLen (aCons (eV 11) aNil)) (eC (.int 24)))) (sSeq (sIf (bV (eOp oNe (eV 12) (eLst (aCons (eC (.str "cannot")) (aCons (eC (.bl true)) aNil))))) (sRet (eC (.bl false))) sNil) sCt) sNil) (sSeq (sIf (bNot (bT (eCall (F__law_same 9) (aCons (eLst (aCons (eV 12) (aCons (eCall F_bit_at (aCons (eV 12) (aCons (eV 8) aNil))) (aCons (eCall F_bit_at (aCons (eV 5) (aCons (eV 8) aNil))) aNil)))) (aCons (eLst (aCons (eTup (aCons (eV 3) (aCons (eV 4) (aCons (eCB cTup (aCons (eCL lSort (aCons (eV 11) aNil)) aNil)) aNil)))) (aCons (eCall F__law_bit (aCons (eV 12) (aCons (eV 8) aNil))) (aCons (eOp oSub (eC (.int 1)) (eCall F__law_bit (aCons (eV 12) (aCons (eV 8) aNil)))) aNil)))) aNil))))) (sRet (eC (.bl false))) sNil) (sSet 5 (eV 12))))))) (sSeq (sSet2 13 14 (aCons (eOp oShl (eC (.int 1)) (eV 3)) (aCons (eCB cLen (aCons (eOp oIx (eV 5) (eC (.int 2))) aNil)) aNil))) (sSeq (sSet 9 (eLst (aCons (eCall F_is_told (aCons (eV 5) aNil)) (aCons (eCall F_line_fails (aCons (eCall (F__law_mixed 9) (aCons (eV 1) (aCons (eV 5) aNil))) aNil)) (aCons (eCall F_many_ones (aCons (eV 5) aNil)) (aCons (eOp oIx (eCall F_straight_told (aCons (eV 3) (aCons (eOp oIx (eV 5) (eC (.int 1))) aNil))) (eC (.int 1))) aNil)))))) (sSeq (sIf (bNot (bT (eCall (F__law_same 9) (aCons (eV 9) (aCons (eLst (aCons (eC (.bl true)) (aCons (eCall F__law_lined (aCons (eV 5) aNil)) (aCons (eCall F__law_ones (aCons (eV 5) aNil)) (aCons (eV 4) aNil))))) aNil))))) (sRet (eC (.bl false))) sNil) (sSeq (sIf (bAnd (bV (eOp oLtS (eOp oMul (eC (.int 4)) (eV 14)) (eV 13))) (bNot (bT (eCall (F__law_same 9) (aCons (eCall F_nearest_row (aCons (eV 5) aNil)) (aCons (eV 4) aNil)))))) (sRet (eC (.bl false))) sNil) (sSeq (sFor (iRg1 (aCons (eC (.int 5)) aNil)) (gNm 7) (sSeq (sSet 15 (eCall F__law_of (aCons (eV 1) (aCons (eLst (aCons (eC (.int 0)) (aCons (eC (.int 1)) (aCons (eOp oXor (eCall F__law_of (aCons (eV 1) (aCons (eV 6) aNil))) (eCall F__law_of (aCons (eV 1) (aCons (eV 6) aNil)))) (aCons (eCall F__law_wide (aCons (eV 1) (aCons (eV 3) aNil))) aNil))))) aNil)))) (sSeq (sSet 16 (eCB cLen (aCons (eLc (iSq (eOp oIx (eV 5) (eC (.int 2)))) [8] (gNm 8) (bV (eOp oIn (eOp oXor (eV 8) (eV 15)) (eOp oIx (eV 5) (eC (.int 2))))) (eC (.int 1))) aNil))) (sSeq (sSet 17 (eOp oMul (eC (.int 2)) (eOp oSub (eV 14) (eV 16)))) (sSeq (sIf (bNot (bT (eCall (F__law_same 9) (aCons (eLst (aCons (eCall F_unlike_far (aCons (eV 5) (aCons (eV 15) aNil))) (aCons (eCall F_right_share (aCons (eV 5) (aCons (eV 15) aNil))) aNil))) (aCons (eLst (aCons (eV 17) (aCons (eCall F__law_share (aCons (eOp oSub (eV 13) (eV 17)) (aCons (eV 13) aNil))) aNil))) aNil))))) (sRet (eC (.bl false))) sNil) (sSeq (sSet 18 (eCall F__law_of (aCons (eV 1) (aCons (eLst (aCons (eCall F__law_wide (aCons (eV 1) (aCons (eV 3) aNil))) (aCons (eCall F__law_of (aCons (eV 1) (aCons (eV 6) aNil))) aNil))) aNil)))) (sSeq (sSet 19 (eOp oXor (eCall F__law_bit (aCons (eV 5) (aCons (eV 18) aNil))) (eCall F__law_bit (aCons (eV 5) (aCons (eOp oXor (eV 18) (eV 15)) aNil))))) (sSeq (sSet 20 (eOp oEq (eOp oIn (eV 18) (eOp oIx (eV 5) (eC (.int 2)))) (eOp oIn (eOp oXor (eV 18) (eV 15)) (eOp oIx (eV 5) (eC (.int 2)))))) (sIf (bOr (bNot (bT (eCall (F__law_same 9) (aCons (eCall F_corrected (aCons (eV 5) (aCons (eV 15) (aCons (eV 18) aNil)))) (aCons (eV 19) aNil))))) (bV (eOp oNe (eOp oEq (eV 19) (eCall F__law_odd (aCons (eOp oAnd (eV 4) (eV 15)) aNil))) (eV 20)))) (sRet (eC (.bl false))) sNil))))))))) (sSeq (sSet 10 (eGet1 (eDisp [(.inl 6, .int 3), (.inl 28, .int 7), (.inl 300, .int 24), (.inl 820, .int 40)]) (eV 3))) (sIf (bV (eOp oNotN (eV 10) (eC .non))) (sSeq (sSet 21 (eCall F__law_some_equations (aCons (eV 1) (aCons (eV 10) (aCons (eC (.int 4)) aNil))))) (sSeq (sSet 22 (eTup (aCons (eCall F__law_some_told (aCons (eV 1) (aCons (eV 10) (aCons (eC (.int 4)) aNil)))) (aCons (eV 5) aNil)))) (sSeq (sSet 9 (eLst (aCons (eCall F_is_proof (aCons (eV 21) (aCons (eV 22) aNil))) (aCons (eSl (eCall F_fail_counts (aCons (eV 21) (aCons (eV 22) aNil))) oNo (oYes (eC (.int 2)))) (aCons (eOp oIx (eCall F_many_draws (aCons (eV 21) aNil)) (eC (.int 1))) aNil))))) (sIf (bNot (bT (eCall (F__law_same 9) (aCons (eV 9) (aCons (eLst (aCons (eC (.bl true)) (aCons (eTup (aCons (eCall F__law_lined (aCons (eOp oIx (eV 22) (eC (.int 0))) aNil)) (aCons (eCall F__law_lined (aCons (eV 5) aNil)) aNil))) (aCons (eOp oMul (eV 13) (eV 13)) aNil)))) aNil))))) (sRet (eC (.bl false))) sNil)))) (sIf (bV (eOp oLtS (eV 3) (eC (.int 41)))) (sSeq (sSet 21 (eTup (aCons (eV 3) (aCons (eTup aNil) aNil)))) (sSeq (sSet 22 (eTup (aCons (eV 5) (aCons (eTup (aCons (eOp oDiv (eOp oMul (eV 3) (eOp oCat (eV 3) (eC (.int 1)))) (eC (.int 2))) (aCons (eC (.int 0)) (aCons (eTup aNil) aNil)))) aNil)))) (sIf (bNot (bT (eCall (F__law_same 9) (aCons (eLst (aCons (eCall F_is_proof (aCons (eV 21) (aCons (eV 22) aNil))) (aCons (eSl (eCall F_fail_counts (aCons (eV 21) (aCons (eV 22) aNil))) oNo (oYes (eC (.int 2)))) aNil))) (aCons (eLst (aCons (eC (.bl true)) (aCons (eTup (aCons (eCall F__law_lined (aCons (eV 5) aNil)) (aCons (eC (.int 0)) aNil))) aNil))) aNil))))) (sRet (eC (.bl false))) sNil))) sNil)))))))))))))))
structure LE (e : Sh.Env) (n r sp : Nat) (t : D) : Prop where
  len : e.length = 24
  e1 : e[1]? = some (some (.ref 0))
  e3 : e[3]? = some (some (N n))
  e4 : e[4]? = some (some (N r))
  e5 : e[5]? = some (some t)
  e6 : e[6]? = some (some (.ref sp))
theorem LE.set {e : Sh.Env} {n r sp : Nat} {t : D} (h : LE e n r sp t) (k : Nat) (hk : k ≠ 1 ∧ k ≠ 3 ∧ k ≠ 4 ∧ k ≠ 5 ∧ k ≠ 6) (v : Option D) : LE (e.set k v) n r sp t :=
  ⟨by rw [List.length_set]; exact h.len, by rw [List.getElem?_set_ne hk.1]; exact h.e1, by rw [List.getElem?_set_ne hk.2.1]; exact h.e3, by rw [List.getElem?_set_ne hk.2.2.1]; exact h.e4,
   by rw [List.getElem?_set_ne hk.2.2.2.1]; exact h.e5, by rw [List.getElem?_set_ne hk.2.2.2.2]; exact h.e6⟩
theorem LE.set5 {e : Sh.Env} {n r sp : Nat} {t : D} (h : LE e n r sp t) (t' : D) : LE (e.set 5 (some t')) n r sp t' :=
  ⟨by rw [List.length_set]; exact h.len, by rw [List.getElem?_set_ne (by decide)]; exact h.e1, by rw [List.getElem?_set_ne (by decide)]; exact h.e3, by rw [List.getElem?_set_ne (by decide)]; exact h.e4,
   List.getElem?_set_self (by rw [h.len]; decide), by rw [List.getElem?_set_ne (by decide)]; exact h.e6⟩
theorem of_spots (sp c n : Nat) (l : List Nat) (M : Mem) (h : Bx M 0 c) (hc : c < 2 ^ 40) (hs : M[sp]? = some (.lst (l.map N))) (hsp : sp ≠ 0) (h0 : 0 < l.length) (h1 : l.length < 1000) (hb : ∀ x ∈ l, x < 2 ^ n) :
    ∃ p M', p < 2 ^ n ∧ (∀ bd, F__law_of bd [.ref 0, .ref sp] M = .ok (N p) M') ∧ Tk 0 (c + 1) M M' := by
  obtain ⟨x, M', hx, e1, t⟩ := f_of_ref 0 0 c sp (l.map N) M h hc hs hsp (by simpa using h0) (lt_1000 (by rw [List.length_map]; omega)) (fun x hx => by obtain ⟨p, _, rfl⟩ := List.mem_map.mp hx; rfl)
  obtain ⟨p, hp, rfl⟩ := List.mem_map.mp hx
  refine ⟨p, M', hb p hp, fun bd => ?_, t⟩
  rw [← e1]; rfl
theorem take_any {r c k : Nat} {M M' : Mem} {v : D} {bd : Nat} (h : F__law_take bd [.ref r, N k] M = .ok v M') (bd2 : Nat) : F__law_take bd2 [.ref r, N k] M = .ok v M' := by rw [← h]; rfl
theorem own5_ok (e : Sh.Env) (n r sp c : Nat) (t : D) (l : List Nat) (M : Mem) (hE : LE e n r sp t) (h : Bx M 0 c) (hc : c + 2000 < 2 ^ 40) (hn : n ≤ 820) (hs : M[sp]? = some (.lst (l.map N))) (hsp : sp ≠ 0) (h0 : 0 < l.length) (h1 : l.length < 1000) (hb : ∀ x ∈ l, x < 2 ^ n) :
    ∃ p M', p < 2 ^ n ∧ own5 0 e M = .ok (N p) M' ∧ Tk 0 (c + 1000) M M' := by
  obtain ⟨k, M1, hk, e1, t1⟩ := f_take 0 0 c 3 M h (by omega) (by omega) (lt_1000 (by omega))
  have h1' := hE.e1
  have h3' := hE.e3
  have h6' := hE.e6
  have hs1 : M1[sp]? = some (.lst (l.map N)) := by rw [t1.ne hsp]; exact hs
  by_cases q : 0 < k
  · obtain ⟨p, M2, hp, e2, t2⟩ := f_wide 0 0 (c + 1) n M1 t1.b (by omega) hn
    exact ⟨p, M2, hp, by simp [own5, h1', h3', e1, q, e2], (t1.trans t2).mono (by omega)⟩
  · obtain ⟨p, M2, hp, e2, t2⟩ := of_spots sp (c + 1) n l M1 t1.b (by omega) hs1 hsp h0 h1 hb
    obtain ⟨p2, M3, hp2, e3, t3⟩ := of_spots sp (c + 1 + 1) n l M2 t2.b (by omega) (by rw [t2.ne hsp]; exact hs1) hsp h0 h1 hb
    exact ⟨p ^^^ p2, M3, Nat.xor_lt_two_pow hp hp2, by simp [own5, h1', h6', e1, q, e2, e3], ((t1.trans t2).trans t3).mono (by omega)⟩
theorem g5b_eq : g5b = sSeq (sSet 8 own5) (sDrop (eMt mAppend (eV 6) (aCons (eV 8) aNil))) := rfl
theorem lp5_ok (e : Sh.Env) (n r c : Nat) (t : D) (l : List Nat) (M1 : Mem) (hE : LE e n r M1.length t) (h : Bx M1 0 c) (hc : c + 100000 < 2 ^ 40) (hn : n ≤ 820) (hl : l.length = 5) (hb : ∀ x ∈ l, x < 2 ^ n) :
    ∃ (e' : Sh.Env) (M2 : Mem) (l2 : List Nat), lp5 0 e (M1 ++ [.lst (l.map N)]) = .nx e' (M2 ++ [.lst (l2.map N)]) ∧ LE e' n r M2.length t ∧ Bx M2 0 (c + 30000) ∧ 5 ≤ l2.length ∧ l2.length ≤ 40 ∧ (∀ x ∈ l2, x < 2 ^ n) := by
  have hl0 := h.lt
  obtain ⟨k, Ma, hk, e1, t1⟩ := f_take 0 0 c 24 (M1 ++ [.lst (l.map N)]) h.app (by omega) (by omega) (lt_1000 (by omega))
  obtain ⟨Ma, rfl, u1⟩ := t1.app h.lt
  have tl := u1.len
  rw [← tl] at hE
  obtain ⟨e', M', w1, w2⟩ := for_range (bd := 0) (M := Ma ++ [.lst (l.map N)]) (e := e) (tg := gNm 7) (body := g5b) k
    (fun i e M' => ∃ (M2 : Mem) (l2 : List Nat), LE e n r M2.length t ∧ M' = M2 ++ [.lst (l2.map N)] ∧ Bx M2 0 (c + 1 + 1000 * i) ∧ l2.length = 5 + i ∧ (∀ x ∈ l2, x < 2 ^ n))
    ⟨Ma, l, hE, rfl, u1.b, by omega, hb⟩
    (fun i e M' hi ⟨M2, l2, hE, hM, hB, hl2, hb2⟩ => by
      subst hM
      have hlt := hB.lt
      have hE7 := hE.set 7 (by decide) (some (N i))
      obtain ⟨p, M3, hp, k1, t3⟩ := own5_ok (e.set 7 (some (N i))) n r M2.length (c + 1 + 1000 * i) t l2 (M2 ++ [.lst (l2.map N)]) hE7 hB.app (by omega) hn (by simp) (by omega) (by omega) (by omega) hb2
      obtain ⟨M3, rfl, u3⟩ := t3.app hlt
      have tl3 := u3.len
      have hE8 := hE7.set 8 (by decide) (some (N p))
      have h6 := hE8.e6
      have hlen := hE7.len
      refine ⟨_, _, (e.set 7 (some (N i))).set 8 (some (N p)), M3 ++ [.lst ((l2 ++ [p]).map N)], rfl, ?_, M3, l2 ++ [p], by rw [tl3]; exact hE8, rfl, u3.b.mono (by omega), by simp; omega, fun x hx => ?_⟩
      · rw [g5b_eq]
        have h8 : ((e.set 7 (some (N i))).set 8 (some (N p)))[8]? = some (some (N p)) := List.getElem?_set_self (by rw [hlen]; decide)
        rw [sSeq_eq, sSet_eq, k1, out_ok, setK_eq, seqK_nx, sDrop_eq, eMt_eq, eV_eq, h6, getV_some, R.bind_ok]
        rw [mtK_eq, lstOf_rE, show (M3 ++ [MO.lst (l2.map N)])[M2.length]? = some (MO.lst (l2.map N)) by simp [tl3], lsM_lst, Option.isSome_some, mtX_t, aCons_eq, eV_eq, h8, getV_some, R.bind_ok]
        simp [tl3, show l2.length < 16777216 by omega]
      · rcases List.mem_append.mp hx with hx | hx
        · exact hb2 x hx
        · rw [List.mem_singleton.mp hx]; exact hp)
  obtain ⟨M2, l2, hE2, rfl, hB, hl2, hb2⟩ := w2
  refine ⟨e', M2, l2, ?_, hE2, hB.mono (by omega), by omega, by omega, hb2⟩
  have h1' := hE.e1
  have e : lp5 = sFor (iRg1 (aCons (eCall F__law_take (aCons (eV 1) (aCons (eC (.int 24)) aNil))) aNil)) (gNm 7) g5b := rfl
  rw [e]
  simp [h1', e1, show k < 4611686018427387904 by omega]
  exact w1
end Q
set_option Elab.async false
set_option linter.all false
set_option maxRecDepth 100000
set_option maxHeartbeats 4000000
set_option exponentiation.threshold 5000
namespace Q
open Sh PySem
theorem srt_self {cs : List Nat} (h : Asc cs) : srtN cs = cs := srtN_self (h.imp fun z => by omega)
/-- what the law makes of the changes -/
def due (cs : List Nat) (p : Nat) : List Nat := if p ∈ cs then cs.filter (fun c => !decide (c = p)) else cs ++ [p]
theorem srt_due {cs : List Nat} {p : Nat} (h : Asc cs) : srtN (due cs p) = chg cs p := by
  unfold due chg
  by_cases q : p ∈ cs
  · rw [if_pos q, if_pos q]; exact srt_self (h.filter _)
  · rw [if_neg q, if_neg q]
theorem mem_chg {cs : List Nat} {p : Nat} : p ∈ chg cs p ↔ p ∉ cs := by
  unfold chg
  by_cases q : p ∈ cs
  · rw [if_pos q]; simp [q]
  · rw [if_neg q]; simp [q, (srtN_perm _).mem_iff]
theorem tbit_chg (r : Nat) (cs : List Nat) (p : Nat) : tbit r cs p = 1 - tbit r (chg cs p) p := by
  unfold tbit
  have := @mem_chg cs p
  by_cases q : p ∈ cs
  · have q2 : p ∉ chg cs p := fun z => (this.mp z) q
    rw [if_pos q, if_neg q2]
    rcases par_two (r &&& p) with h | h <;> rw [h] <;> rfl
  · have q2 : p ∈ chg cs p := this.mpr q
    rw [if_neg q, if_pos q2]
    rcases par_two (r &&& p) with h | h <;> rw [h] <;> rfl
theorem tbit_le (r : Nat) (cs : List Nat) (p : Nat) : tbit r cs p ≤ 1 := by
  have := tbit_lt r cs p; omega
theorem ok_cannot : PyData.strOk (Str.ofString "cannot") = true := by with_unfolding_all rfl
theorem sh_cannot : SeqAt.shaped (.list [.str (Str.ofString "cannot"), .bool true]) = true := by
  simp [SeqAt.shaped, PyData.canLay0, PyData.canLayAll0, PyData.depth, PyData.depthAll, ok_cannot]
theorem eq_cannot : PyData.eqv (.list [.str (Str.ofString "cannot"), .bool true]) (.list [.str (Str.ofString "cannot"), .bool true]) = true := by
  simp [PyData.eqv, PyData.eqvAll]
theorem oNe_cannot {M : Mem} : oNe M (.lst [.str "cannot", .bl true]) (.lst [.str "cannot", .bl true]) = some (.bl false) := by
  show (eqDeep M (.lst [.str "cannot", .bl true]) (.lst [.str "cannot", .bl true])).map (fun b => D.bl (!b)) = _
  unfold eqDeep
  show (if (true && true && SeqAt.shaped (.list [.str (Str.ofString "cannot"), .bool true]) && SeqAt.shaped (.list [.str (Str.ofString "cannot"), .bool true])) = true then some (PyData.eqv (.list [.str (Str.ofString "cannot"), .bool true]) (.list [.str (Str.ofString "cannot"), .bool true])) else none).map (fun b => D.bl (!b)) = _
  rw [sh_cannot]; simp [eq_cannot]
theorem g6b_ok (e : Sh.Env) (n r sp p : Nat) (cs : List Nat) (M : Mem) (hE : LE e n r sp (tT n r cs)) (hT : TT n r cs) (hp : p < 2 ^ n) (h8 : e[8]? = some (some (N p))) :
    ∃ e' cs', (g6b 0 e M = .nx e' M ∨ g6b 0 e M = .ct e' M) ∧ LE e' n r sp (tT n r cs') ∧ TT n r cs' := by
  have hlen := hE.len
  have h1 := hE.e1
  have h3 := hE.e3
  have h4 := hE.e4
  have h5 := hE.e5
  have hcl := hT.hl
  have hn := hT.hn
  have eq6 : g6b = sSeq g6_0 (sSeq g6_1 (sSeq g6_2 (sSeq g6_3 g6_4))) := rfl
  -- due
  have k0 : g6_0 0 e M = .nx (e.set 11 (some (.tup ((due cs p).map N)))) M := by
    unfold g6_0 due
    by_cases q : p ∈ cs
    · have hr := run_lc (bd := 0) (M := M) (tg := gNm 23) (c := bV (eOp oNe (eV 23) (eV 8))) (f := eV 23) (e0 := e.set 23 none) (φ := N) cs (fun c => !decide (c = p)) N (by omega) (fun x hx => by
        have a8 : ((e.set 23 none).set 23 (some (N x)))[8]? = some (some (N p)) := by rw [List.getElem?_set_ne (by decide), List.getElem?_set_ne (by decide)]; exact h8
        have a23 : ((e.set 23 none).set 23 (some (N x)))[23]? = some (some (N x)) := List.getElem?_set_self (by rw [List.length_set, hlen]; decide)
        refine ⟨(e.set 23 none).set 23 (some (N x)), rfl, ?_, fun _ => ?_⟩
        · rw [bV_eq, eOp_eq, eV_eq, a23, getV_some, R.bind_ok, opK1_eq, eV_eq, a8, getV_some, R.bind_ok, opK2_eq, oNe_N, lft_some, R.bind_ok, vK_bl]
        · rw [eV_eq, a23, getV_some])
      simp [h5, h8, q, hr]
    · simp [h5, h8, q, oCat_tup (show (cs.map N).length + [N p].length ≤ 16777216 by simp; omega)]
  obtain ⟨e2, he2⟩ : ∃ e2, e2 = e.set 11 (some (.tup ((due cs p).map N))) := ⟨_, rfl⟩
  have hE2 : LE e2 n r sp (tT n r cs) := by rw [he2]; exact hE.set 11 (by decide) _
  have h8b : e2[8]? = some (some (N p)) := by rw [he2, List.getElem?_set_ne (by decide)]; exact h8
  have h11 : e2[11]? = some (some (.tup ((due cs p).map N))) := by rw [he2]; exact List.getElem?_set_self (by rw [hlen]; decide)
  rw [← he2] at k0
  have hlen2 := hE2.len
  by_cases hfull : p ∉ cs ∧ cs.length = 24
  · obtain ⟨hpn, hl24⟩ := hfull
    have k1 : g6_1 0 e2 M = .nx (e2.set 12 (some (.lst [.str "cannot", .bl true]))) M := by
      have := f_heard_no 0 n r cs p M hT hp hpn hl24
      unfold g6_1
      simp [hE2.e5, h8b, this]
    have hdl : (due cs p).length = 25 := by unfold due; rw [if_neg hpn]; simp [hl24]
    refine ⟨e2.set 12 (some (.lst [.str "cannot", .bl true])), cs, .inr ?_, hE2.set 12 (by decide) _, hT⟩
    have k2 : g6_2 0 (e2.set 12 (some (.lst [.str "cannot", .bl true]))) M = .ct (e2.set 12 (some (.lst [.str "cannot", .bl true]))) M := by
      unfold g6_2
      have h11' : (e2.set 12 (some (.lst [.str "cannot", .bl true])))[11]? = some (some (.tup ((due cs p).map N))) := by rw [List.getElem?_set_ne (by decide)]; exact h11
      have h12' : (e2.set 12 (some (.lst [.str "cannot", .bl true])))[12]? = some (some (.lst [.str "cannot", .bl true])) := List.getElem?_set_self (by rw [hlen2]; decide)
      simp [h11', h12', hdl, oNe_cannot]
    rw [eq6, sSeq_eq, k0, seqK_nx, sSeq_eq, k1, seqK_nx, sSeq_eq, k2, seqK_ct]
  · have hl' : p ∉ cs → cs.length < 24 := fun z => by
      by_cases q : cs.length = 24
      · exact absurd ⟨z, q⟩ hfull
      · omega
    have hT2 := hT.chg hp hl'
    have hcl2 := hT2.hl
    have hperm : (due cs p).length = (chg cs p).length := by rw [← srt_due hT.ha]; exact (srtN_perm _).length_eq.symm
    have k1 : g6_1 0 e2 M = .nx (e2.set 12 (some (tT n r (chg cs p)))) M := by
      have := f_heard 0 n r cs p M hT hp hl'
      unfold g6_1
      simp [hE2.e5, h8b, this]
    obtain ⟨e3, he3⟩ : ∃ e3, e3 = e2.set 12 (some (tT n r (chg cs p))) := ⟨_, rfl⟩
    have hE3 : LE e3 n r sp (tT n r cs) := by rw [he3]; exact hE2.set 12 (by decide) _
    have h8c : e3[8]? = some (some (N p)) := by rw [he3, List.getElem?_set_ne (by decide)]; exact h8b
    have h11c : e3[11]? = some (some (.tup ((due cs p).map N))) := by rw [he3, List.getElem?_set_ne (by decide)]; exact h11
    have h12c : e3[12]? = some (some (tT n r (chg cs p))) := by rw [he3]; exact List.getElem?_set_self (by rw [hlen2]; decide)
    rw [← he3] at k1
    have k2 : g6_2 0 e3 M = .nx e3 M := by
      unfold g6_2
      simp [h11c, show ¬ 24 < (due cs p).length by omega]
    have k3 : g6_3 0 e3 M = .nx e3 M := by
      unfold g6_3
      have b1 := f_bit_at 0 n r (chg cs p) p M hT2 hp
      have b2 := f_bit_at 0 n r cs p M hT hp
      have b3 := f_law_bit 0 n r (chg cs p) p M hT2.r'
      have hsm := f_same9 0 (.lst [tT n r (chg cs p), N (tbit r (chg cs p) p), N (1 - tbit r (chg cs p) p)]) M ⟨by simp, fun x hx => by
        simp at hx
        rcases hx with rfl | rfl | rfl
        · exact sm_T 5 _ _ _ (by omega)
        · exact sm_N _ _
        · exact sm_N _ _⟩
      rw [tbit_chg] at b2
      simp [h12c, h8c, hE3.e5, hE3.e3, hE3.e4, h11c, b1, b2, b3, srt_due hT.ha, oSub_le (tbit_le r (chg cs p) p), hsm]
    have k4 : g6_4 0 e3 M = .nx (e3.set 5 (some (tT n r (chg cs p)))) M := by
      unfold g6_4
      simp [h12c]
    exact ⟨_, chg cs p, .inl (by rw [eq6, sSeq_eq, k0, seqK_nx, sSeq_eq, k1, seqK_nx, sSeq_eq, k2, seqK_nx, sSeq_eq, k3, seqK_nx, k4]), hE3.set5 _, hT2⟩
theorem nums_of {B : Nat} : ∀ {es : List D}, (∀ x ∈ es, ∃ k, x = N k ∧ k < B) → ∃ ps : List Nat, es = ps.map N ∧ ∀ p ∈ ps, p < B
  | [], _ => ⟨[], rfl, by simp⟩
  | x :: es, h => by
    obtain ⟨k, rfl, hk⟩ := h x (List.mem_cons_self ..)
    obtain ⟨ps, rfl, hp⟩ := nums_of fun y hy => h y (List.mem_cons_of_mem _ hy)
    exact ⟨k :: ps, rfl, fun p hpm => by
      rcases List.mem_cons.mp hpm with rfl | hpm
      · exact hk
      · exact hp p hpm⟩
theorem for_xsC {α : Type} {bd : Nat} {e : Sh.Env} {M : Mem} {tg : GF} {body : SF} {φ : α → D} (xs : List α) (I : Nat → KE) (h0 : I 0 e M)
    (hs : ∀ i x e M, xs[i]? = some x → I i e M → ∃ e2 M2 e3 M3, tg bd (φ x) e M = .ok e2 M2 ∧ (body bd e2 M2 = .nx e3 M3 ∨ body bd e2 M2 = .ct e3 M3) ∧ I (i + 1) e3 M3) :
    ∃ e' M', loopF tg body (fun _ => some (xs.map φ)) (xs.length + 1) 0 bd e M = .nx e' M' ∧ I xs.length e' M' := by
  have := loop_sat (tg := tg) (body := body) (bd := bd) (ds := xs.map φ) (I := I) (nx := I xs.length) (b := no2) (c := no2) (r := noD) (x := noX)
    (fun i d e M hd hI => by
      rw [List.getElem?_map] at hd
      obtain ⟨x, hx, rfl⟩ := Option.map_eq_some_iff.mp hd
      obtain ⟨e2, M2, e3, M3, h1, h2, h3⟩ := hs i x e M hx hI
      refine ⟨e2, M2, h1, ?_⟩
      rcases h2 with h2 | h2
      · exact SatO.of_nx h2 h3
      · exact SatO.of_ct h2 h3) (fun e M h => by rw [List.length_map] at h; exact h) (xs.length + 1) 0 e M (by rw [List.length_map]; omega) (by omega) h0
  exact this.nx_
theorem lp6_ok (e : Sh.Env) (n r c : Nat) (l : List Nat) (M1 : Mem) (hE : LE e n r M1.length (tT n r [])) (h : Bx M1 0 c) (hc : c + 100000 < 2 ^ 40) (hT : TT n r []) (hl : 5 ≤ l.length) (hl2 : l.length ≤ 40) (hb : ∀ x ∈ l, x < 2 ^ n) :
    ∃ (e' : Sh.Env) (M2 : Mem) (cs : List Nat), lp6 0 e (M1 ++ [.lst (l.map N)]) = .nx e' (M2 ++ [.lst (l.map N)]) ∧ LE e' n r M2.length (tT n r cs) ∧ TT n r cs ∧ Bx M2 0 (c + 1000) := by
  have hlt := h.lt
  obtain ⟨k, Ma, hk, e1, t1⟩ := f_take 0 0 c l.length (M1 ++ [.lst (l.map N)]) h.app (by omega) (by omega) (lt_1000 (by omega))
  obtain ⟨Ma, rfl, u1⟩ := t1.app h.lt
  have tl := u1.len
  obtain ⟨es, rest, Mb, hp, hlen, e2, t2⟩ := f_pick 0 0 (c + 1) (1 + k) (.ref M1.length) (l.map N) (Ma ++ [.lst (l.map N)]) u1.b.app (by omega) (by simp [tl]) (by simp; omega) (fun x hx => by obtain ⟨p, _, rfl⟩ := List.mem_map.mp hx; rfl)
  obtain ⟨Mb, rfl, u2⟩ := t2.app (by omega)
  have tl2 := u2.len
  obtain ⟨ps, rfl, hps⟩ := nums_of (B := 2 ^ n) (es := es) fun x hx => by
    obtain ⟨p, hp1, rfl⟩ := List.mem_map.mp (hp.mem_iff.mp (List.mem_append_left _ hx))
    exact ⟨p, rfl, hb p hp1⟩
  have hE' : LE e n r Mb.length (tT n r []) := by rw [tl2, tl]; exact hE
  obtain ⟨e', M', w1, w2⟩ := for_xsC (bd := 0) (M := Mb ++ [.lst (l.map N)]) (e := e) (tg := gNm 8) (body := g6b) (φ := N) ps
    (fun i e M' => ∃ cs : List Nat, LE e n r Mb.length (tT n r cs) ∧ TT n r cs ∧ M' = Mb ++ [.lst (l.map N)])
    ⟨[], hE', hT, rfl⟩
    (fun i p e M' hx ⟨cs, hE, hT, hM⟩ => by
      rw [hM]
      have hE8 := hE.set 8 (by decide) (some (N p))
      obtain ⟨e3, cs3, k1, k2, k3⟩ := g6b_ok (e.set 8 (some (N p))) n r Mb.length p cs (Mb ++ [.lst (l.map N)]) hE8 hT (hps p (List.mem_of_getElem? hx)) (List.getElem?_set_self (by rw [hE.len]; decide))
      exact ⟨_, _, e3, _, rfl, k1, cs3, k2, k3, rfl⟩)
  obtain ⟨cs, hE2, hT2, rfl⟩ := w2
  refine ⟨e', Mb, cs, ?_, hE2, hT2, u2.b.mono (by omega)⟩
  have h1' := hE.e1
  have h6' := hE.e6
  have e : lp6 = sFor (iSq (eCall F__law_pick (aCons (eV 1) (aCons (eV 6) (aCons (eOp oCat (eC (.int 1)) (eCall F__law_take (aCons (eV 1) (aCons (eCB cLen (aCons (eV 6) aNil)) aNil)))) aNil))))) (gNm 8) g6b := rfl
  rw [e]
  simp [h1', h6', e1, e2]
  exact w1
end Q
set_option Elab.async false
set_option linter.all false
set_option maxRecDepth 100000
set_option maxHeartbeats 4000000
set_option exponentiation.threshold 5000
namespace Q
open Sh PySem
structure LF (e : Sh.Env) (n r sp : Nat) (cs : List Nat) : Prop where
  le : LE e n r sp (tT n r cs)
  e13 : e[13]? = some (some (N (2 ^ n)))
  e14 : e[14]? = some (some (N cs.length))
theorem LF.set {e : Sh.Env} {n r sp : Nat} {cs : List Nat} (h : LF e n r sp cs) (k : Nat) (hk : k ≠ 1 ∧ k ≠ 3 ∧ k ≠ 4 ∧ k ≠ 5 ∧ k ≠ 6) (hk2 : k ≠ 13 ∧ k ≠ 14) (v : Option D) : LF (e.set k v) n r sp cs :=
  ⟨h.le.set k hk v, by rw [List.getElem?_set_ne hk2.1]; exact h.e13, by rw [List.getElem?_set_ne hk2.2]; exact h.e14⟩
theorem gSet {e : Sh.Env} {k : Nat} {v : Option D} (h : e.length = 24) (hk : k < 24) : (e.set k v)[k]? = some v := List.getElem?_set_self (by rw [h]; exact hk)
theorem gNe {e : Sh.Env} {k j : Nat} {v : Option D} (hk : k ≠ j) : (e.set k v)[j]? = e[j]? := List.getElem?_set_ne hk
section
variable {e : Sh.Env} {n r sp : Nat} {cs : List Nat} {M : Mem}
theorem lp7_ok (hE : LE e n r sp (tT n r cs)) (hT : TT n r cs) : ∃ e', lp7 0 e M = .nx e' M ∧ LF e' n r sp cs := by
  have h3 := hE.e3
  have h5 := hE.e5
  have hn := hT.hn
  refine ⟨(e.set 13 (some (N (2 ^ n)))).set 14 (some (N cs.length)), ?_, (hE.set 13 (by decide) _).set 14 (by decide) _, ?_, ?_⟩
  · unfold lp7
    simp [h3, h5, show n ≤ 100000 by omega]
  · rw [gNe (by decide)]; exact gSet hE.len (by decide)
  · exact gSet (by rw [List.length_set]; exact hE.len) (by decide)
theorem lp8_ok {c : Nat} (hE : LF e n r sp cs) (hT : TT n r cs) (h : Bx M 0 c) (hc : c + 100 < 2 ^ 40) (hn0 : 0 < n) : ∃ M', lp8 0 e M = .nx (e.set 9 (some (.lst [.bl true, .int (lf n cs), .int (on n r cs), N r]))) M' ∧ Tk 0 (c + 2) M M' := by
  have h1 := hE.le.e1
  have h3 := hE.le.e3
  have h5 := hE.le.e5
  have hcl := hT.hl
  obtain ⟨d', M', k1, k2, k3⟩ := f_mixed_T 6 0 0 c n r cs M h (by omega) (by omega)
  refine ⟨M', ?_, k3⟩
  have k4 := f_is_told 0 n r cs M hT
  have k5 := f_line_fails 0 n r cs d' M' hT k1
  have k6 := f_many_ones 0 n r cs M' hT hn0
  have k7 := f_straight_told 0 n r M' hT.hn hT.hr
  unfold lp8
  simp [h1, h3, h5, k2, k4, k5, k6, k7]
theorem lp9_ok (hE : LF e n r sp cs) (hT : TT n r cs) (hn0 : 0 < n) (h9 : e[9]? = some (some (.lst [.bl true, .int (lf n cs), .int (on n r cs), N r]))) : lp9 0 e M = .nx e M := by
  have h4 := hE.le.e4
  have h5 := hE.le.e5
  have k1 := f_law_lined 0 n r cs M hT
  have k2 := f_law_ones 0 n r cs M hT hn0
  have hsm := f_same9 0 (.lst [.bl true, .int (lf n cs), .int (on n r cs), N r]) M ⟨by simp, fun x hx => by
    simp at hx
    rcases hx with rfl | rfl | rfl | rfl
    · exact sm_bl _ _
    · exact sm_int _ _
    · exact sm_int _ _
    · exact sm_N _ _⟩
  unfold lp9
  simp [h9, h4, h5, k1, k2, hsm]
theorem lp10_ok (hE : LF e n r sp cs) (hT : TT n r cs) : lp10 0 e M = .nx e M := by
  have h4 := hE.le.e4
  have h5 := hE.le.e5
  have h13 := hE.e13
  have h14 := hE.e14
  have hcl := hT.hl
  unfold lp10
  by_cases q : 4 * cs.length < 2 ^ n
  · have k1 := f_nearest_row 0 n r cs M hT q
    have hsm := f_same9 0 (N r) M (sm_N _ _)
    simp [h4, h5, h13, h14, q, k1, hsm]
  · simp [h4, h5, h13, h14, q]
theorem told_fine (r : Nat) (cs : List Nat) (p d : Nat) : decide (tbit r cs d ^^^ tbit r cs (d ^^^ p) = par (r &&& p)) = decide (decide (d ∈ cs) = decide (d ^^^ p ∈ cs)) := by
  unfold tbit
  rw [Nat.and_xor_distrib_left, par_xor']
  rcases par_two (r &&& p) with h | h <;> rcases par_two (r &&& d) with h2 | h2 <;> by_cases q1 : d ∈ cs <;> by_cases q2 : d ^^^ p ∈ cs <;> simp [h, h2, q1, q2]
theorem g11b_ok {c : Nat} {l : List Nat} (hE : LF e n r sp cs) (hT : TT n r cs) (h : Bx M 0 c) (hc : c + 10000 < 2 ^ 40) (hn6 : 6 ≤ n) (hs : M[sp]? = some (.lst (l.map N))) (hsp : sp ≠ 0) (h0 : 0 < l.length) (h1 : l.length < 1000) (hb : ∀ x ∈ l, x < 2 ^ n) :
    ∃ e' M', g11b 0 e M = .nx e' M' ∧ LF e' n r sp cs ∧ Tk 0 (c + 5000) M M' := by
  have hn := hT.hn
  have hcl := hT.hl
  have hlen := hE.le.len
  have e1 := hE.le.e1
  have e3 := hE.le.e3
  have e6 := hE.le.e6
  have eq : g11b = sSeq g11_0 (sSeq g11_1 (sSeq g11_2 (sSeq g11_3 (sSeq g11_4 (sSeq g11_5 (sSeq g11_6 g11_7)))))) := rfl
  have hp64 : 2 ^ 6 ≤ 2 ^ n := Nat.pow_le_pow_right (by decide) hn6
  obtain ⟨a, M1, ha, k1, t1⟩ := of_spots sp c n l M h (by omega) hs hsp h0 h1 hb
  obtain ⟨b, M2, hb2, k2, t2⟩ := of_spots sp (c + 1) n l M1 t1.b (by omega) (by rw [t1.ne hsp]; exact hs) hsp h0 h1 hb
  obtain ⟨x, M3, hx, k3, t3⟩ := f_wide 0 0 (c + 1 + 1) n M2 t2.b (by omega) hn
  have hax := Nat.xor_lt_two_pow ha hb2
  obtain ⟨pd, M4, hpd, k4, t4⟩ := f_of_lst 0 0 (c + 1 + 1 + n + 1) [N 0, N 1, N (a ^^^ b), N x] M3 t3.b (by omega) (by simp) (lt_1000 (by simp)) (by simp)
  obtain ⟨p, rfl, hp⟩ : ∃ p, pd = N p ∧ p < 2 ^ n := by
    simp at hpd
    rcases hpd with rfl | rfl | rfl | rfl
    · exact ⟨_, rfl, by omega⟩
    · exact ⟨_, rfl, by omega⟩
    · exact ⟨_, rfl, hax⟩
    · exact ⟨_, rfl, hx⟩
  have tA := ((t1.trans t2).trans t3).trans t4
  have s0 : g11_0 0 e M = .nx (e.set 15 (some (N p))) M4 := by
    unfold g11_0
    simp [e1, e3, e6, k1, k2, k3, k4]
  obtain ⟨f0, hf0⟩ : ∃ f0, f0 = e.set 15 (some (N p)) := ⟨_, rfl⟩
  have F0 : LF f0 n r sp cs := by rw [hf0]; exact hE.set 15 (by decide) (by decide) _
  have a15 : f0[15]? = some (some (N p)) := by rw [hf0]; exact gSet hlen (by decide)
  rw [← hf0] at s0
  have s1 : g11_1 0 f0 M4 = .nx (f0.set 16 (some (N (mt cs p)))) M4 := by
    have hr : runS (lcBody 0 (f0.set 8 none) (gNm 8) (bV (eOp oIn (eOp oXor (eV 8) (eV 15)) (eOp oIx (eV 5) (eC (.int 2))))) (eC (.int 1))) (fun _ => some (cs.map N)) [] M4 = .ok ((cs.filter fun y => decide (y ^^^ p ∈ cs)).map fun _ => N 1) M4 := run_lc cs _ _ (by omega) fun y hy => by
      have b8 : ((f0.set 8 none).set 8 (some (N y)))[8]? = some (some (N y)) := gSet (by rw [List.length_set]; exact F0.le.len) (by decide)
      have b15 : ((f0.set 8 none).set 8 (some (N y)))[15]? = some (some (N p)) := by rw [gNe (by decide), gNe (by decide)]; exact a15
      have b5 : ((f0.set 8 none).set 8 (some (N y)))[5]? = some (some (tT n r cs)) := by rw [gNe (by decide), gNe (by decide)]; exact F0.le.e5
      refine ⟨(f0.set 8 none).set 8 (some (N y)), rfl, ?_, fun _ => by simp⟩
      rw [bV_eq, eOp_eq, eOp_eq, eV_eq, b8, getV_some, R.bind_ok, opK1_eq, eV_eq, b15, getV_some, R.bind_ok, opK2_eq, oXor_N, lft_some, R.bind_ok, opK1_eq, eOp_eq, eV_eq, b5, getV_some, R.bind_ok, opK1_eq]
      simp
    unfold g11_1
    simp only [List.map_const'] at hr
    simp [F0.le.e5, hr, mt]
  obtain ⟨f1, hf1⟩ : ∃ f1, f1 = f0.set 16 (some (N (mt cs p))) := ⟨_, rfl⟩
  have F1 : LF f1 n r sp cs := by rw [hf1]; exact F0.set 16 (by decide) (by decide) _
  have b15 : f1[15]? = some (some (N p)) := by rw [hf1, gNe (by decide)]; exact a15
  have b16 : f1[16]? = some (some (N (mt cs p))) := by rw [hf1]; exact gSet F0.le.len (by decide)
  rw [← hf1] at s1
  have hmt := mt_le cs p
  obtain ⟨lo, hlo⟩ : ∃ lo, lo = 2 * (cs.length - mt cs p) := ⟨_, rfl⟩
  have hlo2 : 2 * cs.length - 2 * mt cs p = lo := by omega
  have s2 : g11_2 0 f1 M4 = .nx (f1.set 17 (some (N lo))) M4 := by
    unfold g11_2
    simp [F1.e14, b16, oSub_le hmt, hlo]
  obtain ⟨f2, hf2⟩ : ∃ f2, f2 = f1.set 17 (some (N lo)) := ⟨_, rfl⟩
  have F2 : LF f2 n r sp cs := by rw [hf2]; exact F1.set 17 (by decide) (by decide) _
  have c15 : f2[15]? = some (some (N p)) := by rw [hf2, gNe (by decide)]; exact b15
  have c17 : f2[17]? = some (some (N lo)) := by rw [hf2]; exact gSet F1.le.len (by decide)
  rw [← hf2] at s2
  have s3 : g11_3 0 f2 M4 = .nx f2 M4 := by
    have j1 := f_unlike_far 0 n r cs p M4 hT hp
    have j2 := f_right_share 0 n r cs p M4 hT hp (by omega)
    have j3 := f_law_share 0 (2 ^ n - lo) (2 ^ n) M4 (by have := pow_big hn; omega) (pow_big hn) (Nat.two_pow_pos n)
    rw [hlo2] at j1 j2
    have hsm := f_same9 0 (.lst [N lo, .tup [N ((2 ^ n - lo) / Nat.gcd (2 ^ n - lo) (2 ^ n)), N (2 ^ n / Nat.gcd (2 ^ n - lo) (2 ^ n))]]) M4 ⟨by simp, fun y hy => by
      simp at hy
      rcases hy with rfl | rfl
      · exact sm_N _ _
      · refine ⟨by simp, fun z hz => ?_⟩
        simp at hz
        rcases hz with rfl | rfl
        · exact sm_N _ _
        · exact sm_N _ _⟩
    have hsub : ∀ M, oSub M (N (2 ^ n)) (N lo) = some (N (2 ^ n - lo)) := fun M => oSub_le (by omega)
    unfold g11_3
    simp [F2.le.e5, c15, c17, F2.e13, j1, j2, j3, hsub, hsm]
  have e1b := F2.le.e1
  have e3b := F2.le.e3
  have e6b := F2.le.e6
  obtain ⟨x5, M5, hx5, m1, t5⟩ := f_wide 0 0 (c + 1 + 1 + n + 1 + 1) n M4 t4.b (by omega) hn
  have hs5 : M5[sp]? = some (.lst (l.map N)) := by rw [t5.ne hsp, tA.ne hsp]; exact hs
  obtain ⟨y5, M6, hy5, m2, t6⟩ := of_spots sp (c + 1 + 1 + n + 1 + 1 + n + 1) n l M5 t5.b (by omega) hs5 hsp h0 h1 hb
  obtain ⟨dd, M7, hdd, m3, t7⟩ := f_of_lst 0 0 (c + 1 + 1 + n + 1 + 1 + n + 1 + 1) [N x5, N y5] M6 t6.b (by omega) (by simp) (lt_1000 (by simp)) (by simp)
  obtain ⟨d, rfl, hd⟩ : ∃ d, dd = N d ∧ d < 2 ^ n := by
    simp at hdd
    rcases hdd with rfl | rfl
    · exact ⟨_, rfl, hx5⟩
    · exact ⟨_, rfl, hy5⟩
  have tB := ((tA.trans t5).trans t6).trans t7
  have s4 : g11_4 0 f2 M4 = .nx (f2.set 18 (some (N d))) M7 := by
    unfold g11_4
    simp [e1b, e3b, e6b, m1, m2, m3]
  obtain ⟨f3, hf3⟩ : ∃ f3, f3 = f2.set 18 (some (N d)) := ⟨_, rfl⟩
  have F3 : LF f3 n r sp cs := by rw [hf3]; exact F2.set 18 (by decide) (by decide) _
  have d15 : f3[15]? = some (some (N p)) := by rw [hf3, gNe (by decide)]; exact c15
  have d18 : f3[18]? = some (some (N d)) := by rw [hf3]; exact gSet F2.le.len (by decide)
  rw [← hf3] at s4
  have lb := fun q => f_law_bit 0 n r cs q M7 hT.r'
  have s5 : g11_5 0 f3 M7 = .nx (f3.set 19 (some (N (tbit r cs d ^^^ tbit r cs (d ^^^ p))))) M7 := by
    unfold g11_5
    simp [F3.le.e5, d15, d18, lb]
  obtain ⟨f4, hf4⟩ : ∃ f4, f4 = f3.set 19 (some (N (tbit r cs d ^^^ tbit r cs (d ^^^ p)))) := ⟨_, rfl⟩
  have F4 : LF f4 n r sp cs := by rw [hf4]; exact F3.set 19 (by decide) (by decide) _
  have g15 : f4[15]? = some (some (N p)) := by rw [hf4, gNe (by decide)]; exact d15
  have g18 : f4[18]? = some (some (N d)) := by rw [hf4, gNe (by decide)]; exact d18
  have g19 : f4[19]? = some (some (N (tbit r cs d ^^^ tbit r cs (d ^^^ p)))) := by rw [hf4]; exact gSet F3.le.len (by decide)
  rw [← hf4] at s5
  have s6 : g11_6 0 f4 M7 = .nx (f4.set 20 (some (.bl (decide (decide (d ∈ cs) = decide (d ^^^ p ∈ cs)))))) M7 := by
    unfold g11_6
    simp only [sSet_eq, eOp_eq, eV_eq, g18, getV_some, R.bind_ok, opK1_eq, F4.le.e5, eC_lit, opK2_eq, oIx_tup, List.getElem?_cons_succ, List.getElem?_cons_zero, lft_some, oIn_T, g15, oXor_N, oEq_bl, out_ok, setK_eq]
  obtain ⟨f5, hf5⟩ : ∃ f5, f5 = f4.set 20 (some (.bl (decide (decide (d ∈ cs) = decide (d ^^^ p ∈ cs))))) := ⟨_, rfl⟩
  have F5 : LF f5 n r sp cs := by rw [hf5]; exact F4.set 20 (by decide) (by decide) _
  have i15 : f5[15]? = some (some (N p)) := by rw [hf5, gNe (by decide)]; exact g15
  have i18 : f5[18]? = some (some (N d)) := by rw [hf5, gNe (by decide)]; exact g18
  have i19 : f5[19]? = some (some (N (tbit r cs d ^^^ tbit r cs (d ^^^ p)))) := by rw [hf5, gNe (by decide)]; exact g19
  have i20 : f5[20]? = some (some (.bl (decide (decide (d ∈ cs) = decide (d ^^^ p ∈ cs))))) := by rw [hf5]; exact gSet F4.le.len (by decide)
  rw [← hf5] at s6
  have s7 : g11_7 0 f5 M7 = .nx f5 M7 := by
    have j1 := f_corrected 0 n r cs p d M7 hT hp hd
    have j2 := f_law_odd 0 (r &&& p) (Nat.lt_of_le_of_lt Nat.and_le_left hT.r') M7
    rw [Nat.xor_comm p d, Nat.xor_comm (tbit r cs (d ^^^ p))] at j1
    have hsm := f_same9 0 (N (tbit r cs d ^^^ tbit r cs (d ^^^ p))) M7 (sm_N _ _)
    have hne : ∀ M, oNe M (.bl (decide (tbit r cs d ^^^ tbit r cs (d ^^^ p) = par (r &&& p)))) (.bl (decide (decide (d ∈ cs) = decide (d ^^^ p ∈ cs)))) = some (.bl false) := fun M => by rw [oNe_bl, told_fine]; simp
    unfold g11_7
    simp only [sIf_eq, bOr_eq, bNot_eq, bT_eq, eCall_eq, aCons_eq, eV_eq, F5.le.e5, getV_some, R.bind_ok, aK1_eq, i15, i18, i19, aNil_eq, aK2_eq, j1, hsm, tK_eq, tru_bl, lftB_ok, notK_eq, Bool.not_true, orK_f, bV_eq, eOp_eq, opK1_eq, F5.le.e4, opK2_eq, oAnd_N, lft_some, j2, oEq_N, i20, hne, vK_bl, out_ok, sifK_f, sNil_eq]
  refine ⟨f5, M7, ?_, F5, tB.mono (by omega)⟩
  rw [eq, sSeq_eq, s0, seqK_nx, sSeq_eq, s1, seqK_nx, sSeq_eq, s2, seqK_nx, sSeq_eq, s3, seqK_nx, sSeq_eq, s4, seqK_nx, sSeq_eq, s5, seqK_nx, sSeq_eq, s6, seqK_nx, s7]
end
end Q
set_option Elab.async false
set_option linter.all false
set_option maxRecDepth 100000
set_option maxHeartbeats 4000000
set_option exponentiation.threshold 5000
namespace Q
open Sh PySem
section
variable {n r : Nat} {cs : List Nat}
theorem lp11_ok {e : Sh.Env} {c : Nat} {l : List Nat} {M1 : Mem} (hE : LF e n r M1.length cs) (hT : TT n r cs) (h : Bx M1 0 c) (hc : c + 100000 < 2 ^ 40) (hn6 : 6 ≤ n) (h0 : 0 < l.length) (h1 : l.length < 1000) (hb : ∀ x ∈ l, x < 2 ^ n) :
    ∃ (e' : Sh.Env) (M2 : Mem), lp11 0 e (M1 ++ [.lst (l.map N)]) = .nx e' (M2 ++ [.lst (l.map N)]) ∧ LF e' n r M2.length cs ∧ Bx M2 0 (c + 25000) := by
  obtain ⟨e', M', w1, w2⟩ := for_range (bd := 0) (M := M1 ++ [.lst (l.map N)]) (e := e) (tg := gNm 7) (body := g11b) 5
    (fun i e M' => ∃ M2 : Mem, LF e n r M2.length cs ∧ M' = M2 ++ [.lst (l.map N)] ∧ Bx M2 0 (c + 5000 * i))
    ⟨M1, hE, rfl, h⟩
    (fun i e M' hi ⟨M2, hE, hM, hB⟩ => by
      rw [hM]
      have hlt := hB.lt
      have hE7 := hE.set 7 (by decide) (by decide) (some (N i))
      obtain ⟨e3, M3, k1, k2, k3⟩ := g11b_ok (e := e.set 7 (some (N i))) (sp := M2.length) (M := M2 ++ [.lst (l.map N)]) (l := l) hE7 hT hB.app (by omega) hn6 (by simp) (by omega) h0 h1 hb
      obtain ⟨M3, rfl, u3⟩ := k3.app hlt
      exact ⟨_, _, e3, _, rfl, k1, M3, by rw [u3.len]; exact k2, rfl, u3.b.mono (by omega)⟩)
  obtain ⟨M2, hE2, rfl, hB⟩ := w2
  refine ⟨e', M2, ?_, hE2, hB.mono (by omega)⟩
  have e : lp11 = sFor (iRg1 (aCons (eC (.int 5)) aNil)) (gNm 7) g11b := rfl
  rw [e]
  simp
  exact w1
/-- the unknowns of a size, none of some -/
def unk (n : Nat) : D := if n = 6 then N 3 else if n = 28 then N 7 else if n = 300 then N 24 else if n = 820 then N 40 else .non
theorem lp12_ok {e : Sh.Env} {sp : Nat} {M : Mem} (hE : LF e n r sp cs) : ∃ o, lp12 0 e M = .nx (e.set 10 (some (unk n))) (M ++ [o]) := by
  have h3 := hE.le.e3
  refine ⟨.dK (putAll [] [(.inl 6, .int 3), (.inl 28, .int 7), (.inl 300, .int 24), (.inl 820, .int 40)]), ?_⟩
  have hd : eDisp [(.inl 6, .int 3), (.inl 28, .int 7), (.inl 300, .int 24), (.inl 820, .int 40)] 0 e M = .ok (.ref M.length) (M ++ [.dK (putAll [] [(.inl 6, .int 3), (.inl 28, .int 7), (.inl 300, .int 24), (.inl 820, .int 40)])]) := rfl
  have hg : (getK (putAll [] [(.inl 6, .int 3), (.inl 28, .int 7), (.inl 300, .int 24), (.inl 820, .int 40)]) (.inl (n : Int))).getD .non = unk n := by
    unfold putAll
    simp only [List.foldl_cons, List.foldl_nil]
    rw [getK_put, getK_put, getK_put, getK_put]
    unfold unk
    have e1 : ((Sum.inl 820 : L2.Key) = .inl (n : Int)) ↔ n = 820 := by constructor; (intro q; injection q with q; omega); (rintro rfl; rfl)
    have e2 : ((Sum.inl 300 : L2.Key) = .inl (n : Int)) ↔ n = 300 := by constructor; (intro q; injection q with q; omega); (rintro rfl; rfl)
    have e3 : ((Sum.inl 28 : L2.Key) = .inl (n : Int)) ↔ n = 28 := by constructor; (intro q; injection q with q; omega); (rintro rfl; rfl)
    have e4 : ((Sum.inl 6 : L2.Key) = .inl (n : Int)) ↔ n = 6 := by constructor; (intro q; injection q with q; omega); (rintro rfl; rfl)
    simp only [e1, e2, e3, e4]
    by_cases q1 : n = 6
    · subst q1; rfl
    · by_cases q2 : n = 28
      · subst q2; rfl
      · by_cases q3 : n = 300
        · subst q3; rfl
        · by_cases q4 : n = 820
          · subst q4; rfl
          · simp [q1, q2, q3, q4, getK_nil]
  unfold lp12
  rw [sSet_eq, eGet1_eq, hd, R.bind_ok]
  simp [h3, hg]
theorem lf_nil (m : Nat) : lf m [] = 0 := by simp [lf, tri]
theorem log2_pow (n : Nat) : (2 ^ n).log2 ≤ n + 1 := log2_le (Nat.pow_lt_pow_right (by decide) (by omega))
theorem lp13_yes {e : Sh.Env} {sp c m : Nat} {M : Mem} (hE : LF e n r sp cs) (hT : TT n r cs) (h : Bx M 0 c) (hc : c + 1000 < 2 ^ 40) (h10 : e[10]? = some (some (N m))) (hm1 : 1 ≤ m) (hm : m ≤ 40) (hw : wd m = n) :
    ∃ e' M', lp13 0 e M = .nx e' M' ∧ e'.length = 24 ∧ e'[1]? = some (some (.ref 0)) ∧ e'[0]? = e[0]? ∧ Bx M' 0 (c + 200) := by
  subst hw
  obtain ⟨rows, Ma, hEq, k1, t1⟩ := f_some_eq 0 0 c m M h (by omega) hm1 hm
  obtain ⟨w, cs1, Mb, hT1, k2, t2⟩ := f_some_told 0 0 (c + 100) m Ma t1.b (by omega) (by omega)
  have hP : PfOk m w cs1 r cs := ⟨hT1, hT⟩
  have j1 := f_is_proof 0 m w r rows cs1 cs Mb hEq hP
  obtain ⟨za, zb, j2⟩ := f_fail_counts 0 m w r cs1 cs rows Mb hEq hP
  obtain ⟨a, b, c', j3⟩ := f_many_draws 0 m rows Mb hEq
  have j4 := f_law_lined 0 m w cs1 Mb hT1
  have j5 := f_law_lined 0 (wd m) r cs Mb hT
  have hlen := hE.le.len
  have h1 := hE.le.e1
  have h5 := hE.le.e5
  have h13 := hE.e13
  have hcut : cutD [D.int (lf m cs1), D.int (lf (wd m) cs), D.int za, D.int zb] none (some ((2 : Nat) : Int)) = [D.int (lf m cs1), D.int (lf (wd m) cs)] := by rw [cut_to]; rfl
  simp at hcut
  have hmul : ∀ M, oMul M (N (2 ^ wd m)) (N (2 ^ wd m)) = some (N (2 ^ (wd m + wd m))) := fun M => by
    rw [Nat.pow_add]; exact oMul_g (by have := log2_pow (wd m); have := wd_le hm; omega)
  have hsm := f_same9 0 (.lst [.bl true, .tup [.int (lf m cs1), .int (lf (wd m) cs)], N (2 ^ (wd m + wd m))]) Mb ⟨by simp, fun x hx => by
    simp at hx
    rcases hx with rfl | rfl | rfl
    · exact sm_bl _ _
    · refine ⟨by simp, fun z hz => ?_⟩
      simp at hz
      rcases hz with rfl | rfl <;> exact sm_int _ _
    · exact sm_N _ _⟩
  let e1 := e.set 21 (some (eD m rows))
  let e2 := e1.set 22 (some (pfD (tT m w cs1) (tT (wd m) r cs)))
  let e3 := e2.set 9 (some (.lst [.bl true, .tup [.int (lf m cs1), .int (lf (wd m) cs)], N (2 ^ (wd m + wd m))]))
  have a1 : (e.set 21 (some (eD m rows)))[1]? = some (some (.ref 0)) := by rw [gNe (by decide)]; exact h1
  have a10 : (e.set 21 (some (eD m rows)))[10]? = some (some (N m)) := by rw [gNe (by decide)]; exact h10
  have a5 : (e.set 21 (some (eD m rows)))[5]? = some (some (tT (wd m) r cs)) := by rw [gNe (by decide)]; exact h5
  have b21 : ((e.set 21 (some (eD m rows))).set 22 (some (pfD (tT m w cs1) (tT (wd m) r cs))))[21]? = some (some (eD m rows)) := by rw [gNe (by decide)]; exact gSet hlen (by decide)
  have b22 : ((e.set 21 (some (eD m rows))).set 22 (some (pfD (tT m w cs1) (tT (wd m) r cs))))[22]? = some (some (pfD (tT m w cs1) (tT (wd m) r cs))) := gSet (by rw [List.length_set]; exact hlen) (by decide)
  have hset1 : ∀ E : Sh.Env, E = (e.set 21 (some (eD m rows))).set 22 (some (pfD (tT m w cs1) (tT (wd m) r cs))) → True := fun _ _ => trivial
  refine ⟨((e.set 21 (some (eD m rows))).set 22 (some (pfD (tT m w cs1) (tT (wd m) r cs)))).set 9 (some (.lst [.bl true, .tup [.int (lf m cs1), .int (lf (wd m) cs)], N (2 ^ (wd m + wd m))])), Mb, ?_, by simp only [List.length_set]; exact hlen, by rw [gNe (by decide), gNe (by decide)]; exact a1, by rw [gNe (by decide), gNe (by decide), gNe (by decide)], t2.b.mono (by omega)⟩
  obtain ⟨E2, hE2⟩ : ∃ E2 : Sh.Env, E2 = (e.set 21 (some (eD m rows))).set 22 (some (pfD (tT m w cs1) (tT (wd m) r cs))) := ⟨_, rfl⟩
  have hl2 : E2.length = 24 := by rw [hE2, List.length_set, List.length_set]; exact hlen
  obtain ⟨E3, hE3⟩ : ∃ E3 : Sh.Env, E3 = E2.set 9 (some (.lst [.bl true, .tup [.int (lf m cs1), .int (lf (wd m) cs)], N (2 ^ (wd m + wd m))])) := ⟨_, rfl⟩
  have c9 : E3[9]? = some (some (.lst [.bl true, .tup [.int (lf m cs1), .int (lf (wd m) cs)], N (2 ^ (wd m + wd m))])) := by rw [hE3]; exact gSet hl2 (by decide)
  have c22 : E3[22]? = some (some (pfD (tT m w cs1) (tT (wd m) r cs))) := by rw [hE3, gNe (by decide), hE2]; exact b22
  have c5 : E3[5]? = some (some (tT (wd m) r cs)) := by rw [hE3, gNe (by decide), hE2, gNe (by decide)]; exact a5
  have c13 : E3[13]? = some (some (N (2 ^ wd m))) := by rw [hE3, gNe (by decide), hE2, gNe (by decide), gNe (by decide)]; exact h13
  have g21 : (e.set 21 (some (eD m rows)))[21]? = some (some (eD m rows)) := gSet hlen (by decide)
  rw [← hE2, ← hE3]
  unfold lp13
  simp [h10, h1, k1, a10, a1, a5, k2, g21, b22, j1, j2, j3, hcut]
  rw [← hE2, ← hE3]
  simp [c9, c22, c5, c13, j4, j5, hmul, hsm]
theorem lp13_no {e : Sh.Env} {sp c : Nat} {M : Mem} (hE : LF e n r sp cs) (hT : TT n r cs) (h : Bx M 0 c) (h10 : e[10]? = some (some .non)) (hn1 : 1 ≤ n) (hn : n ≤ 40) :
    ∃ e' M', lp13 0 e M = .nx e' M' ∧ e'.length = 24 ∧ e'[1]? = some (some (.ref 0)) ∧ e'[0]? = e[0]? ∧ Bx M' 0 (c + 200) := by
  have hEq : EqOk n [] := ⟨hn1, hn, by simp, by simp⟩
  have hT0 : TT (wd n) 0 [] := ⟨wd_le hn, Nat.two_pow_pos _, by simp, by simp, .nil⟩
  have hP : PfOk n r cs 0 [] := ⟨hT, hT0⟩
  have j1 := f_is_proof 0 n r 0 [] cs [] M hEq hP
  obtain ⟨za, zb, j2⟩ := f_fail_counts 0 n r 0 cs [] [] M hEq hP
  have j5 := f_law_lined 0 n r cs M hT
  rw [lf_nil] at j2
  have hlen := hE.le.len
  have h1 := hE.le.e1
  have h3 := hE.le.e3
  have h5 := hE.le.e5
  have hcut : cutD [D.int (lf n cs), D.int 0, D.int za, D.int zb] none (some ((2 : Nat) : Int)) = [D.int (lf n cs), N 0] := by rw [cut_to]; rfl
  simp at hcut
  have hsm := f_same9 0 (.lst [.bl true, .tup [.int (lf n cs), N 0]]) M ⟨by simp, fun x hx => by
    simp at hx
    rcases hx with rfl | rfl
    · exact sm_bl _ _
    · refine ⟨by simp, fun z hz => ?_⟩
      simp at hz
      rcases hz with rfl | rfl
      · exact sm_int _ _
      · exact sm_N _ _⟩
  have hwm : ∀ M, oMul M (N n) (N (n + 1)) = some (N (n * (n + 1))) := fun M => oMul_l (by omega)
  have hwd : n * (n + 1) / 2 = wd n := rfl
  have a21 : (e.set 21 (some (eD n [])))[21]? = some (some (eD n [])) := gSet hlen (by decide)
  have a3 : (e.set 21 (some (eD n [])))[3]? = some (some (N n)) := by rw [gNe (by decide)]; exact h3
  have a5 : (e.set 21 (some (eD n [])))[5]? = some (some (tT n r cs)) := by rw [gNe (by decide)]; exact h5
  have b21 : ((e.set 21 (some (eD n []))).set 22 (some (pfD (tT n r cs) (tT (wd n) 0 []))))[21]? = some (some (eD n [])) := by rw [gNe (by decide)]; exact a21
  have b22 : ((e.set 21 (some (eD n []))).set 22 (some (pfD (tT n r cs) (tT (wd n) 0 []))))[22]? = some (some (pfD (tT n r cs) (tT (wd n) 0 []))) := gSet (by rw [List.length_set]; exact hlen) (by decide)
  have b5 : ((e.set 21 (some (eD n []))).set 22 (some (pfD (tT n r cs) (tT (wd n) 0 []))))[5]? = some (some (tT n r cs)) := by rw [gNe (by decide)]; exact a5
  refine ⟨(e.set 21 (some (eD n []))).set 22 (some (pfD (tT n r cs) (tT (wd n) 0 []))), M, ?_, by simp only [List.length_set]; exact hlen, by rw [gNe (by decide), gNe (by decide)]; exact h1, by rw [gNe (by decide), gNe (by decide)], h.mono (by omega)⟩
  obtain ⟨E1, hE1⟩ : ∃ E1 : Sh.Env, E1 = e.set 21 (some (eD n [])) := ⟨_, rfl⟩
  rw [← hE1] at a21 a3 a5 b21 b22 b5 ⊢
  obtain ⟨E2, hE2⟩ : ∃ E2 : Sh.Env, E2 = E1.set 22 (some (pfD (tT n r cs) (tT (wd n) 0 []))) := ⟨_, rfl⟩
  rw [← hE2] at b21 b22 b5 ⊢
  unfold lp13
  have g21 : (e.set 21 (some (D.tup [N n, D.tup []])))[21]? = some (some (eD n [])) := gSet hlen (by decide)
  have g22 : ((e.set 21 (some (D.tup [N n, D.tup []]))).set 22 (some (D.tup [tT n r cs, D.tup [N (wd n), N 0, D.tup []]])))[22]? = some (some (pfD (tT n r cs) (tT (wd n) 0 []))) := gSet (by rw [List.length_set]; exact hlen) (by decide)
  simp [h10, h3, h5, show n < 41 by omega, hwm, hwd, g21, g22, j1, j2, hcut, j5, hsm]
  rw [hE2, hE1]
  rfl
/-- a lap -/
theorem lap_ok {e : Sh.Env} {c : Nat} {M : Mem} (hlen : e.length = 24) (h1 : e[1]? = some (some (.ref 0))) (h : Bx M 0 c) (hc : c + 300000 < 2 ^ 40) :
    ∃ e' M', lapB 0 e M = .nx e' M' ∧ e'.length = 24 ∧ e'[1]? = some (some (.ref 0)) ∧ Bx M' 0 (c + 200000) := by
  have eq : lapB = sSeq lp0 (sSeq lp1 (sSeq lp2 (sSeq lp3 (sSeq lp4 (sSeq lp5 (sSeq lp6 (sSeq lp7 (sSeq lp8 (sSeq lp9 (sSeq lp10 (sSeq lp11 (sSeq lp12 lp13)))))))))))) := rfl
  have hlt := h.lt
  -- how many bits
  obtain ⟨x, M1, hx, k1, t1⟩ := f_of_lst 0 0 c [N 6, N 8, N 11, N 28, N 40, N 300, N 820] M h (by omega) (by simp) (lt_1000 (by simp)) (by simp)
  obtain ⟨n, rfl, hn⟩ : ∃ n, x = N n ∧ (n = 6 ∨ n = 8 ∨ n = 11 ∨ n = 28 ∨ n = 40 ∨ n = 300 ∨ n = 820) := by
    simp at hx
    rcases hx with rfl | rfl | rfl | rfl | rfl | rfl | rfl <;> exact ⟨_, rfl, by omega⟩
  have hn6 : 6 ≤ n := by omega
  have hn8 : n ≤ 820 := by omega
  have hp64 : 2 ^ 6 ≤ 2 ^ n := Nat.pow_le_pow_right (by decide) hn6
  have s0 : lp0 0 e M = .nx (e.set 3 (some (N n))) M1 := by
    unfold lp0
    simp [h1, k1]
  obtain ⟨f0, hf0⟩ : ∃ f0, f0 = e.set 3 (some (N n)) := ⟨_, rfl⟩
  have l0 : f0.length = 24 := by rw [hf0, List.length_set]; exact hlen
  have a1 : f0[1]? = some (some (.ref 0)) := by rw [hf0, gNe (by decide)]; exact h1
  have a3 : f0[3]? = some (some (N n)) := by rw [hf0]; exact gSet hlen (by decide)
  rw [← hf0] at s0
  obtain ⟨r, M2, hr, k2, t2⟩ := f_wide 0 0 (c + 1) n M1 t1.b (by omega) hn8
  have s1 : lp1 0 f0 M1 = .nx (f0.set 4 (some (N r))) M2 := by
    unfold lp1
    simp [a1, a3, k2]
  obtain ⟨f1, hf1⟩ : ∃ f1, f1 = f0.set 4 (some (N r)) := ⟨_, rfl⟩
  have l1 : f1.length = 24 := by rw [hf1, List.length_set]; exact l0
  have b1 : f1[1]? = some (some (.ref 0)) := by rw [hf1, gNe (by decide)]; exact a1
  have b3 : f1[3]? = some (some (N n)) := by rw [hf1, gNe (by decide)]; exact a3
  have b4 : f1[4]? = some (some (N r)) := by rw [hf1]; exact gSet l0 (by decide)
  rw [← hf1] at s1
  have k3 := f_straight_told 0 n r M2 hn8 hr
  have s2 : lp2 0 f1 M2 = .nx (f1.set 5 (some (tT n r []))) M2 := by
    unfold lp2
    simp [b3, b4, k3]
    rfl
  obtain ⟨f2, hf2⟩ : ∃ f2, f2 = f1.set 5 (some (tT n r [])) := ⟨_, rfl⟩
  have l2 : f2.length = 24 := by rw [hf2, List.length_set]; exact l1
  have c1 : f2[1]? = some (some (.ref 0)) := by rw [hf2, gNe (by decide)]; exact b1
  have c3 : f2[3]? = some (some (N n)) := by rw [hf2, gNe (by decide)]; exact b3
  have c4 : f2[4]? = some (some (N r)) := by rw [hf2, gNe (by decide)]; exact b4
  have c5 : f2[5]? = some (some (tT n r [])) := by rw [hf2]; exact gSet l1 (by decide)
  rw [← hf2] at s2
  have s3 : lp3 0 f2 M2 = .nx f2 M2 := by
    have hsm := f_same9 0 (tT n r []) M2 (sm_T 6 _ _ _ (by simp))
    have hsm2 : F__law_same 9 0 [tT n r [], D.tup [N n, N r, D.tup []]] M2 = .ok (.bl true) M2 := hsm
    unfold lp3
    simp [c3, c4, c5, hsm2]
  have s4 : lp4 0 f2 M2 = .nx (f2.set 6 (some (.ref M2.length))) (M2 ++ [.lst ([0, 2 ^ n - 1, 1, 2, 3].map N)]) := by
    unfold lp4
    simp [c3, show n ≤ 100000 by omega, oSub_le (show 1 ≤ 2 ^ n by omega)]
  obtain ⟨f3, hf3⟩ : ∃ f3, f3 = f2.set 6 (some (.ref M2.length)) := ⟨_, rfl⟩
  rw [← hf3] at s4
  have hE : LE f3 n r M2.length (tT n r []) := by
    rw [hf3]
    exact ⟨by rw [List.length_set]; exact l2, by rw [gNe (by decide)]; exact c1, by rw [gNe (by decide)]; exact c3, by rw [gNe (by decide)]; exact c4, by rw [gNe (by decide)]; exact c5, gSet l2 (by decide)⟩
  have hT0 : TT n r [] := ⟨hn8, hr, by simp, by simp, .nil⟩
  have tt := t1.trans t2
  obtain ⟨f4, M3, l, s5, hE4, hB3, hl1, hl2, hlb⟩ := lp5_ok f3 n r (c + 1 + n + 1) (tT n r []) [0, 2 ^ n - 1, 1, 2, 3] M2 hE tt.b (by omega) hn8 rfl (fun y hy => by
    simp at hy
    omega)
  obtain ⟨f5, M4, cs, s6, hE5, hT, hB4⟩ := lp6_ok f4 n r (c + 1 + n + 1 + 30000) l M3 hE4 hB3 (by omega) hT0 hl1 hl2 hlb
  obtain ⟨f6, s7, hF6⟩ := lp7_ok (M := M4 ++ [.lst (l.map N)]) hE5 hT
  obtain ⟨M5, s8, t8⟩ := lp8_ok (M := M4 ++ [.lst (l.map N)]) hF6 hT hB4.app (by omega) (by omega)
  obtain ⟨M5, rfl, u8⟩ := t8.app hB4.lt
  have hF7 := hF6.set 9 (by decide) (by decide) (some (.lst [.bl true, .int (lf n cs), .int (on n r cs), N r]))
  have s9 := lp9_ok (M := M5 ++ [.lst (l.map N)]) hF7 hT (by omega) (gSet hF6.le.len (by decide))
  have s10 := lp10_ok (M := M5 ++ [.lst (l.map N)]) hF7 hT
  rw [← u8.len] at hF7
  obtain ⟨f8, M6, s11, hF8, hB6⟩ := lp11_ok hF7 hT u8.b (by omega) hn6 (by omega) (by omega) hlb
  obtain ⟨o, s12⟩ := lp12_ok (M := M6 ++ [.lst (l.map N)]) hF8
  have hF9 := hF8.set 10 (by decide) (by decide) (some (unk n))
  have g10 : (f8.set 10 (some (unk n)))[10]? = some (some (unk n)) := gSet hF8.le.len (by decide)
  have fin : ∃ e' M', lp13 0 (f8.set 10 (some (unk n))) (M6 ++ [.lst (l.map N)] ++ [o]) = .nx e' M' ∧ e'.length = 24 ∧ e'[1]? = some (some (.ref 0)) ∧ e'[0]? = (f8.set 10 (some (unk n)))[0]? ∧ Bx M' 0 (c + 1 + n + 1 + 30000 + 1000 + 2 + 25000 + 200) := by
    have hBx : Bx (M6 ++ [.lst (l.map N)] ++ [o]) 0 (c + 1 + n + 1 + 30000 + 1000 + 2 + 25000) := hB6.app.app
    rcases hn with rfl | rfl | rfl | rfl | rfl | rfl | rfl
    · exact lp13_yes (m := 3) hF9 hT hBx (by omega) g10 (by omega) (by omega) rfl
    · exact lp13_no hF9 hT hBx g10 (by omega) (by omega)
    · exact lp13_no hF9 hT hBx g10 (by omega) (by omega)
    · exact lp13_yes (m := 7) hF9 hT hBx (by omega) g10 (by omega) (by omega) rfl
    · exact lp13_no hF9 hT hBx g10 (by omega) (by omega)
    · exact lp13_yes (m := 24) hF9 hT hBx (by omega) g10 (by omega) (by omega) rfl
    · exact lp13_yes (m := 40) hF9 hT hBx (by omega) g10 (by omega) (by omega) rfl
  obtain ⟨e', M', s13, z1, z2, _, z3⟩ := fin
  refine ⟨e', M', ?_, z1, z2, z3.mono (by omega)⟩
  rw [eq, sSeq_eq, s0, seqK_nx, sSeq_eq, s1, seqK_nx, sSeq_eq, s2, seqK_nx, sSeq_eq, s3, seqK_nx, sSeq_eq, s4, seqK_nx, sSeq_eq, s5, seqK_nx, sSeq_eq, s6, seqK_nx, sSeq_eq, s7, seqK_nx, sSeq_eq, s8, seqK_nx, sSeq_eq, s9, seqK_nx, sSeq_eq, s10, seqK_nx, sSeq_eq, s11, seqK_nx, sSeq_eq, s12, seqK_nx, s13]
end
/-- the law, plainly -/
theorem law_plain (ns : List Int) (hl : ns.length ≤ 63) : ∃ M, F_law 0 [.scr (ns.map D.int)] [] = .ok (.bl true) M := by
  obtain ⟨z, k1⟩ := f_cells 0 ns [] hl
  obtain ⟨x, y, k2, hy⟩ := f_box z
  have hB : Bx [.lst [N x, N y, N 0]] 0 0 := ⟨x, y, 0, rfl, hy, Nat.le_refl _⟩
  obtain ⟨e', M', w1, w2⟩ := for_range (bd := 0) (M := [.lst [N x, N y, N 0]]) (e := some (D.scr (ns.map D.int)) :: some (D.ref 0) :: List.replicate 22 none) (tg := gNm 2) (body := lapB) 3
    (fun i e M' => e.length = 24 ∧ e[1]? = some (some (.ref 0)) ∧ Bx M' 0 (200000 * i))
    ⟨by simp, rfl, hB⟩
    (fun i e M' hi ⟨a1, a2, a3⟩ => by
      obtain ⟨e3, M3, s1, s2, s3, s4⟩ := lap_ok (e := e.set 2 (some (N i))) (c := 200000 * i) (M := M') (by rw [List.length_set]; exact a1) (by rw [gNe (by decide)]; exact a2) a3 (by omega)
      exact ⟨_, _, e3, M3, rfl, s1, s2, s3, s4.mono (by omega)⟩)
  refine ⟨[], ?_⟩
  have eq : B_law = sSeq (sSet 1 (eCall F__law_box (aCons (eCall F__law_cells (aCons (eV 0) (aCons (eC (.int 1)) aNil))) (aCons (eC (.int 0)) aNil)))) (sSeq (sFor (iRg1 (aCons (eC (.int 3)) aNil)) (gNm 2) lapB) (sRet (eC (.bl true)))) := rfl
  unfold F_law
  rw [eq]
  simp [k1, k2]
  show popK [] (seqK (sRet (eC (.bl true)) 0) (loopF (gNm 2) lapB (fun _ => some ((List.range 3).map N)) (3 + 1) 0 0 (some (D.scr (ns.map D.int)) :: some (D.ref 0) :: List.replicate 22 none) [.lst [N x, N y, N 0]])) = _
  rw [w1]
  simp
end Q
set_option Elab.async false
set_option linter.all false
set_option maxRecDepth 100000
set_option maxHeartbeats 0
namespace Q
open PySem PySem.Spec PyProof.Rows L2 Sh
theorem facts {P : Program} {w : World} {K : PySem.W.Frag} {h : Heap} {mg : Str → Option Value} {f : Addr} (Z : Hyp K h mg) (hfa : mg ("law" : Str) = some (.ref f)) :
    ∃ fd : FuncData, (∀ (s : Shared) (v : Value), BindsTo s fd ⟨[v], []⟩ [("script", v)]) ∧ ∀ base : Heap, FnOk P w K mg base CX0 14 f fd ["script"] (fun vs H Q _ => spF (GG K) F_law vs H Q E0) := by
  obtain ⟨fd, F⟩ := Z.2.2.1.def_ 91 (d := d_law) rfl
  have e := hfa.symm.trans (g_law Z)
  cases e
  have bnd := FunD.bindsA (ps := ["script"]) F fun _ _ _ _ _ _ us hl => match us, hl with | [_], _ => rfl
  exact ⟨fd, fun s v => bnd s [v] rfl, fun base => FnOk.calm0 (ok_law Z F)⟩
theorem law_sp {K : PySem.W.Frag} {H : Hp} {a : Addr} {ns : List Int} (hO : Only H) (hS : SqL K H a (ns.map V.int)) (hp : ∃ M, F_law 0 [.scr (ns.map D.int)] [] = .ok (.bl true) M) : spF (GG K) F_law [.ref a] H (fun v _ => v = .bl true) (fun _ _ _ => False) := by
  obtain ⟨M, hM⟩ := hp
  have hs : ScrOk K H a (ns.map V.int) := by
    rcases hS with (r | ⟨o, r⟩) | r
    · rcases hO a with z | ⟨o, xs, z⟩
      · rw [z] at r; cases r
      · rw [z] at r; cases r
    · exact .inl ⟨o, r⟩
    · exact .inr fun _ => .inr r
  refine ⟨⟨[], []⟩, 0, [], [], [.scr (ns.map D.int)], .cons (.scr hs (RVs.of_ints ns)) .nil, ⟨rfl, List.nodup_nil, fun n o e => (by simp at e), fun b hb => (by cases hb), fun b hb => (by cases hb), Nat.le_refl _, fun a ha => (by cases ha)⟩, ?_⟩
  rw [hM]
  intro m' H' v _ _ r
  cases r
  rfl
end Q
open PySem PySem.W PySem.Calls PyProof.Rows
theorem PySem.Challenge.cw_twoshown_k69_across_tables_changed_place_holds : PySem.Challenge.rw_twoshown_k69_across_tables_changed_place.Holds := by
  w_on; o_law
  refine HandSHeadRun.head_any (r := OpenLaw.row PySem.Challenge.rw_twoshown_k69_across_tables_changed_place) (q := view (OpenLaw.row PySem.Challenge.rw_twoshown_k69_across_tables_changed_place).prog [98]) (H := Q.hk) (ob := Q.ob) (M := 20000) (loose := Q.loose) (d := HandSHeadRun.topDef (OpenLaw.row PySem.Challenge.rw_twoshown_k69_across_tables_changed_place).prog 98) (kwd := []) Q.ob_eq
    (by kernel_rfl) (fun s => by kernel_rfl) Q.run (by kernel_rfl) (by kernel_rfl) (by kernel_rfl) (by rfl) (by first | assumption | decide +kernel) (by decide +kernel) ⟨rfl, rfl, rfl, rfl, rfl, by decide +kernel⟩ ?hw ?hc
  case hw => w_witness2
  case hc =>
    refine L2.walk_ofE (l := PySem.Challenge.rw_twoshown_k69_across_tables_changed_place) (n := 63) (k := 14) (x := "script") (CX := L2.CX0) rfl (by decide) (by kernel_rfl) ⟨rfl, by decide, by decide⟩ ?F (fun _ _ _ _ z => z)
    intro w mg fa h Y G hmg0
    obtain ⟨K, KX, c, ex⟩ := Y
    have hmg : mg ("law" : PySem.Str) = some (.ref fa) := by
      have e : (HandSHeadRun.topDef (OpenLaw.row PySem.Challenge.rw_twoshown_k69_across_tables_changed_place).prog 98).name = ("law" : PySem.Str) := by kernel_rfl
      rw [← e]
      exact hmg0
    obtain ⟨fd, hb, hF⟩ := Q.facts (P := (PySem.Challenge.rw_twoshown_k69_across_tables_changed_place).prog) (w := w) ⟨KX, G, c, ex⟩ hmg
    exact ⟨K, fd, fun vs H q _ => Sh.spF (Q.GG K) Q.F_law vs H q L2.E0, KX, hb, fun H a ns hl hO hS => Q.law_sp hO hS (Q.law_plain ns hl), fun base _ _ => hF base⟩
