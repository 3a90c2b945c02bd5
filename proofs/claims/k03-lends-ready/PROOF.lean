import PyProof.Rows.All
import Wide.All
import OpenK.AllK
import Wide.FinOn
import HandS.ForMost
import HandS.Wide
import HandS.TupAny
import HandS.IsInst
import HandS.Style
import HandS.Defaults
import HandS.Deep
import HandS.HeadHook2
import HandS.Head0
import HandS.Head1
import HandS.Head2
import HandS.HeadEnd
import KE.KStateDown
import PySem.Challenge.RW_earlyback_k03_lends_and_ready
set_option Elab.async false
set_option linter.all false
set_option maxRecDepth 100000
set_option maxHeartbeats 4000000
namespace Ev
open PySem PySem.Spec PyProof.Rows L2

/-! ## values and stores -/
inductive D where
  | non
  | bl (b : Bool)
  | int (i : Int)
  | str (x : Str)
  | tup (l : List D)
  | ref (n : Nat)
  | cl (l : List D)
inductive Ob where
  | lst (l : List D)
abbrev Store := List Ob
abbrev Rho := List (Option D)
abbrev DK := D → Store → Prop
abbrev FR := PySem.W.Frag

/-- a list that nobody writes: locked, or of the written part -/
def SqC (K : FR) (H : Hp) (a : Addr) (xs : List V) : Prop := (∃ o, H a = some (.frz o (.lst xs))) ∨
  ∃ (o : Obj) (its : Array Value) (n : Nat), K.lookup a = some o ∧ o.cls = .type "list" ∧ o.dict = none ∧ o.data = .seq its n ∧ its.size ≤ sizeLine ∧ Vals xs its.toList
theorem SqC.sq {K : FR} {H : Hp} {a : Addr} {xs : List V} (h : SqC K H a xs) : SqL K H a xs := by
  rcases h with ⟨o, h⟩ | h
  · exact .inl (.inr ⟨o, h⟩)
  · exact .inr h
mutual
inductive RD (K : FR) (m : List Addr) (H : Hp) : D → V → Prop
  | non : RD K m H .non .non
  | bl (b : Bool) : RD K m H (.bl b) (.bl b)
  | int (i : Int) : RD K m H (.int i) (.int i)
  | str (x : Str) : RD K m H (.str x) (.str x)
  | tup {ds : List D} {a : Addr} {vs : List V} (h : SqT K H a vs) (r : RDs K m H ds vs) : RD K m H (.tup ds) (.ref a)
  | ref {n : Nat} {a : Addr} (h : m[n]? = some a) : RD K m H (.ref n) (.ref a)
  | cl {ds : List D} {a : Addr} {vs : List V} (h : SqC K H a vs) (r : RDs K m H ds vs) : RD K m H (.cl ds) (.ref a)
inductive RDs (K : FR) (m : List Addr) (H : Hp) : List D → List V → Prop
  | nil : RDs K m H [] []
  | cons {d : D} {v : V} {ds : List D} {vs : List V} (r : RD K m H d v) (rs : RDs K m H ds vs) : RDs K m H (d :: ds) (v :: vs)
end

def RO (K : FR) (m : List Addr) (H : Hp) : Ob → Addr → Prop
  | .lst l, a => ∃ vs, H a = some (.lst vs) ∧ RDs K m H l vs
structure Rel (K : FR) (m : List Addr) (S : Store) (H : Hp) : Prop where
  len : m.length = S.length
  nd : m.Nodup
  ob : ∀ (n : Nat) (o : Ob) (a : Addr), S[n]? = some o → m[n]? = some a → RO K m H o a
structure Ext (m : List Addr) (H : Hp) (m' : List Addr) (H' : Hp) : Prop where
  pre : ∃ t, m' = m ++ t
  new : ∀ b ∈ m', b ∈ m ∨ H b = none
  keep : ∀ b o, H b = some o → b ∉ m → H' b = some o

section
variable {K : FR} {m m' m2 : List Addr} {S S' : Store} {H H' H2 : Hp}
theorem Ext.refl : Ext m H m H := ⟨⟨[], by simp⟩, fun b hb => .inl hb, fun _ _ e _ => e⟩
theorem Ext.nin (x : Ext m H m' H') {b : Addr} {o : HO} (e : H b = some o) (h : b ∉ m) : b ∉ m' := fun hb => by
  rcases x.new b hb with z | z
  · exact h z
  · rw [z] at e; cases e
theorem Ext.trans (x : Ext m H m' H') (y : Ext m' H' m2 H2) : Ext m H m2 H2 := by
  refine ⟨?_, fun b hb => ?_, fun b o e h => y.keep b o (x.keep b o e h) (x.nin e h)⟩
  · obtain ⟨t, e⟩ := x.pre
    obtain ⟨u, f⟩ := y.pre
    exact ⟨t ++ u, by rw [f, e, List.append_assoc]⟩
  · rcases y.new b hb with z | z
    · exact x.new b z
    · by_cases hm : b ∈ m
      · exact .inl hm
      · cases q : H b with
        | none => exact .inr rfl
        | some o => rw [x.keep b o q hm] at z; cases z
theorem Ext.get (x : Ext m H m' H') {n : Nat} {a : Addr} (h : m[n]? = some a) : m'[n]? = some a := by
  obtain ⟨t, e⟩ := x.pre
  rw [e, List.getElem?_append_left (List.getElem?_eq_some_iff.mp h).1]
  exact h
theorem Rel.mem (r : Rel K m S H) {a : Addr} (h : a ∈ m) : ∃ vs, H a = some (.lst vs) := by
  obtain ⟨n, hn, e⟩ := List.getElem_of_mem h
  have h2 : n < S.length := by rw [← r.len]; exact hn
  have z := r.ob n S[n] a (List.getElem?_eq_getElem h2) (by rw [List.getElem?_eq_getElem hn, e])
  cases q : S[n] with
  | lst l => rw [q] at z; obtain ⟨vs, hv, _⟩ := z; exact ⟨vs, hv⟩
theorem Rel.tupNot (r : Rel K m S H) {a : Addr} {vs : List V} (h : Rd H a (.tup vs)) : a ∉ m := fun hm => by
  obtain ⟨ws, q⟩ := r.mem hm
  rcases h with h | ⟨o, h⟩ <;> rw [h] at q <;> cases q
theorem Ext.sqC (x : Ext m H m' H') (r : Rel K m S H) {a : Addr} {vs : List V} (h : SqC K H a vs) : SqC K H' a vs := by
  rcases h with ⟨o, h⟩ | h
  · refine .inl ⟨o, x.keep a _ h fun hm => ?_⟩
    obtain ⟨ws, q⟩ := r.mem hm
    rw [h] at q; cases q
  · exact .inr h
theorem Ext.sqT (x : Ext m H m' H') (r : Rel K m S H) {a : Addr} {vs : List V} (h : SqT K H a vs) : SqT K H' a vs := by
  rcases h with h | h
  · have n := r.tupNot h
    rcases h with h | ⟨o, h⟩
    · exact .inl (.inl (x.keep a _ h n))
    · exact .inl (.inr ⟨o, x.keep a _ h n⟩)
  · exact .inr h
mutual
theorem RD.mono (x : Ext m H m' H') (r : Rel K m S H) : ∀ {d : D} {v : V}, RD K m H d v → RD K m' H' d v
  | _, _, .non => .non
  | _, _, .bl b => .bl b
  | _, _, .int i => .int i
  | _, _, .str z => .str z
  | _, _, .tup h q => .tup (x.sqT r h) (RDs.mono x r q)
  | _, _, .ref h => .ref (x.get h)
  | _, _, .cl h q => .cl (x.sqC r h) (RDs.mono x r q)
theorem RDs.mono (x : Ext m H m' H') (r : Rel K m S H) : ∀ {ds : List D} {vs : List V}, RDs K m H ds vs → RDs K m' H' ds vs
  | _, _, .nil => .nil
  | _, _, .cons a b => .cons (RD.mono x r a) (RDs.mono x r b)
end
theorem RDs.length : ∀ {ds : List D} {vs : List V}, RDs K m H ds vs → ds.length = vs.length
  | _, _, .nil => rfl
  | _, _, .cons _ b => congrArg (· + 1) (RDs.length b)
theorem RDs.get : ∀ {ds : List D} {vs : List V} {i : Nat} {d : D}, RDs K m H ds vs → ds[i]? = some d → ∃ v, vs[i]? = some v ∧ RD K m H d v
  | _, _, i, _, .nil, h => by simp at h
  | _, _, 0, _, .cons a b, h => by simp at h; subst h; exact ⟨_, rfl, a⟩
  | _, _, i + 1, _, .cons a b, h => by
    obtain ⟨v, e, r⟩ := RDs.get (i := i) b (by simpa using h)
    exact ⟨v, by simpa using e, r⟩
theorem RDs.app : ∀ {ds es : List D} {vs ws : List V}, RDs K m H ds vs → RDs K m H es ws → RDs K m H (ds ++ es) (vs ++ ws)
  | _, _, _, _, .nil, q => q
  | _, _, _, _, .cons a b, q => .cons a (RDs.app b q)
theorem RDs.take : ∀ {ds : List D} {vs : List V} (n : Nat), RDs K m H ds vs → RDs K m H (ds.take n) (vs.take n)
  | _, _, 0, _ => .nil
  | _, _, _ + 1, .nil => .nil
  | _, _, n + 1, .cons a b => .cons a (RDs.take n b)
theorem RDs.drop : ∀ {ds : List D} {vs : List V} (n : Nat), RDs K m H ds vs → RDs K m H (ds.drop n) (vs.drop n)
  | _, _, 0, q => q
  | _, _, _ + 1, .nil => .nil
  | _, _, n + 1, .cons a b => RDs.drop n b
theorem RDs.set {d : D} {v : V} (r : RD K m H d v) : ∀ {ds : List D} {vs : List V} (i : Nat), RDs K m H ds vs → RDs K m H (ds.set i d) (vs.set i v)
  | _, _, _, .nil => .nil
  | _, _, 0, .cons _ b => .cons r b
  | _, _, i + 1, .cons a b => .cons a (RDs.set r i b)
theorem RDs.erase : ∀ {ds : List D} {vs : List V} (i : Nat), RDs K m H ds vs → RDs K m H (ds.eraseIdx i) (vs.eraseIdx i)
  | _, _, _, .nil => .nil
  | _, _, 0, .cons _ b => b
  | _, _, i + 1, .cons a b => .cons a (RDs.erase i b)

/-! ### the store grows, changes -/
theorem Ext.alloc {p : Addr} {o : HO} (n : H p = none) (hm : p ∉ m) : Ext m H (m ++ [p]) (upd H p o) := by
  refine ⟨⟨[p], rfl⟩, fun b hb => ?_, fun b u e _ => by rw [upd_ne (ne_of_none e n)]; exact e⟩
  rcases List.mem_append.mp hb with z | z
  · exact .inl z
  · rw [List.mem_singleton.mp z]; exact .inr n
theorem Ext.laid {p : Addr} {o : HO} (n : H p = none) : Ext m H m (upd H p o) :=
  ⟨⟨[], by simp⟩, fun b hb => .inl hb, fun b u e _ => by rw [upd_ne (ne_of_none e n)]; exact e⟩
theorem Ext.upd {a : Addr} {o : HO} (h : a ∈ m) : Ext m H m (upd H a o) :=
  ⟨⟨[], by simp⟩, fun b hb => .inl hb, fun b u e nb => by rw [upd_ne (show b ≠ a from fun z => nb (by rw [z]; exact h))]; exact e⟩
theorem Rel.fresh (r : Rel K m S H) {p : Addr} (n : H p = none) : p ∉ m := fun hm => by
  obtain ⟨vs, q⟩ := r.mem hm
  rw [n] at q; cases q
theorem RO.mono (x : Ext m H m' H') (r : Rel K m S H) {o : Ob} {a : Addr} (h : RO K m H o a) (e : H' a = H a) : RO K m' H' o a := by
  cases o with
  | lst l =>
    obtain ⟨vs, hv, q⟩ := h
    exact ⟨vs, e.trans hv, q.mono x r⟩
/-- something that is not of the store is laid -/
theorem Rel.laid (r : Rel K m S H) {p : Addr} {o : HO} (n : H p = none) : Rel K m S (upd H p o) := by
  have nm := r.fresh n
  refine ⟨r.len, r.nd, fun k u a h1 h2 => (r.ob k u a h1 h2).mono (Ext.laid n) r ?_⟩
  exact upd_ne fun z => nm (z ▸ List.mem_of_getElem? h2)
theorem Rel.new (r : Rel K m S H) {p : Addr} {l : List D} {vs : List V} (n : H p = none) (q : RDs K m H l vs) : Rel K (m ++ [p]) (S ++ [.lst l]) (upd H p (.lst vs)) := by
  have nm := r.fresh n
  have x : Ext m H (m ++ [p]) (upd H p (.lst vs)) := .alloc n nm
  refine ⟨by simp [r.len], List.nodup_append.mpr ⟨r.nd, by simp, fun a ha b hb => by rw [List.mem_singleton.mp hb]; exact fun z => nm (z ▸ ha)⟩, fun k u a h1 h2 => ?_⟩
  by_cases hk : k < S.length
  · rw [List.getElem?_append_left hk] at h1
    rw [List.getElem?_append_left (by rw [r.len]; exact hk)] at h2
    exact (r.ob k u a h1 h2).mono x r (upd_ne fun z => nm (z ▸ List.mem_of_getElem? h2))
  · have hk2 : k = S.length := by
      have := (List.getElem?_eq_some_iff.mp h1).1
      simp at this
      omega
    subst hk2
    rw [List.getElem?_append_right (Nat.le_refl _)] at h1
    rw [List.getElem?_append_right (Nat.le_of_eq r.len)] at h2
    simp [r.len] at h1 h2
    subst h1 h2
    exact ⟨vs, upd_same, q.mono x r⟩
/-- the store's new list that stands already -/
theorem Rel.adopt (r : Rel K m S H) {p : Addr} {l : List D} {vs : List V} (n : H p = some (.lst vs)) (nm : p ∉ m) (q : RDs K m H l vs) : Rel K (m ++ [p]) (S ++ [.lst l]) H ∧ (∀ {d v}, RD K m H d v → RD K (m ++ [p]) H d v) := by
  have g : ∀ {i : Nat} {a : Addr}, m[i]? = some a → (m ++ [p])[i]? = some a := fun {i a} h => by
    rw [List.getElem?_append_left (List.getElem?_eq_some_iff.mp h).1]; exact h
  have mono : ∀ {d v}, RD K m H d v → RD K (m ++ [p]) H d v := fun {d v} h => by
    refine RD.rec (motive_1 := fun d v _ => RD K (m ++ [p]) H d v) (motive_2 := fun ds vs _ => RDs K (m ++ [p]) H ds vs) .non .bl .int .str (fun h _ q => .tup h q) (fun h => .ref (g h)) (fun h _ q => .cl h q) .nil (fun _ _ a b => .cons a b) h
  have monos : ∀ {ds vs}, RDs K m H ds vs → RDs K (m ++ [p]) H ds vs := fun {ds vs} h => by
    refine RDs.rec (motive_1 := fun d v _ => RD K (m ++ [p]) H d v) (motive_2 := fun ds vs _ => RDs K (m ++ [p]) H ds vs) .non .bl .int .str (fun h _ q => .tup h q) (fun h => .ref (g h)) (fun h _ q => .cl h q) .nil (fun _ _ a b => .cons a b) h
  have ro : ∀ {o a}, RO K m H o a → RO K (m ++ [p]) H o a := fun {o a} h => by
    cases o with
    | lst l => obtain ⟨vs, hv, q⟩ := h; exact ⟨vs, hv, monos q⟩
  refine ⟨⟨by simp [r.len], List.nodup_append.mpr ⟨r.nd, by simp, fun a ha b hb => by rw [List.mem_singleton.mp hb]; exact fun z => nm (z ▸ ha)⟩, fun k u a h1 h2 => ?_⟩, mono⟩
  by_cases hk : k < S.length
  · rw [List.getElem?_append_left hk] at h1
    rw [List.getElem?_append_left (by rw [r.len]; exact hk)] at h2
    exact ro (r.ob k u a h1 h2)
  · have hk2 : k = S.length := by
      have := (List.getElem?_eq_some_iff.mp h1).1
      simp at this
      omega
    subst hk2
    rw [List.getElem?_append_right (Nat.le_refl _)] at h1
    rw [List.getElem?_append_right (Nat.le_of_eq r.len)] at h2
    simp [r.len] at h1 h2
    subst h1 h2
    exact ⟨vs, n, monos q⟩
theorem nodup_at {l : List Addr} (h : l.Nodup) {i j : Nat} {a : Addr} (e : l[i]? = some a) (f : l[j]? = some a) : i = j := by
  obtain ⟨h1, e1⟩ := List.getElem?_eq_some_iff.mp e
  obtain ⟨h2, e2⟩ := List.getElem?_eq_some_iff.mp f
  exact (List.getElem_inj h).mp (e1.trans e2.symm)
theorem Rel.upd (r : Rel K m S H) {n : Nat} {a : Addr} {l : List D} {vs : List V} (hn : m[n]? = some a) (q : RDs K m H l vs) : Rel K m (S.set n (.lst l)) (upd H a (.lst vs)) := by
  have x : Ext m H m (L2.upd H a (.lst vs)) := .upd (List.mem_of_getElem? hn)
  refine ⟨by simp [r.len], r.nd, fun k u b h1 h2 => ?_⟩
  by_cases hk : n = k
  · subst hk
    have hl : n < S.length := by rw [← r.len]; exact (List.getElem?_eq_some_iff.mp hn).1
    rw [List.getElem?_set_self hl] at h1
    cases h1
    rw [hn] at h2; cases h2
    exact ⟨vs, upd_same, q.mono x r⟩
  · rw [List.getElem?_set_ne hk] at h1
    exact (r.ob k u b h1 h2).mono x r (upd_ne fun z => hk (nodup_at r.nd hn (z ▸ h2)))
end
end Ev
set_option Elab.async false
set_option linter.all false
set_option maxRecDepth 100000
set_option maxHeartbeats 4000000
namespace Ev
open PySem PySem.Spec PyProof.Rows L2

/-! ## the small language -/
inductive Cst where
  | non | bl (b : Bool) | int (i : Int) | str (x : Str)
inductive Bop where
  | add | sub | mul | fdiv | mod | pow
inductive Cop where
  | eq | ne | lt | le | gt | ge | is | isnot | inn | notin
/-- built-in functions and types called by name -/
inductive Bi where
  | len | int | abs | tuple | list | sum | sorted | max | min
inductive Ty where
  | int | bool | tuple | str
inductive Me where
  | append | pop | index
mutual
inductive E where
  | var (i : Nat)
  | cst (c : Cst)
  | bin (op : Bop) (a b : E)
  | neg (a : E)
  | cmp (op : Cop) (a b : E)
  | chain (o1 o2 : Cop) (a b c : E)
  | and (a b : E)
  | or (a b : E)
  | not (a : E)
  | ite (t a b : E)
  | tup (es : Es)
  | lst (es : Es)
  | idx (a b : E)
  | slc (a : E) (lo hi : Eo)
  | call (f : Nat) (es : Es)
  | callK (f : Nat) (es : Es) (ks : List Str) (zs : Es) (perm : List Nat)
  | bi (b : Bi) (es : Es)
  | isi (a : E) (t : Ty)
  | meth (m : Me) (o : E) (es : Es)
  | lc (elt : E) (g : G) (it : It) (cs : Es) (own : List Nat)
inductive Es where
  | nil
  | cons (e : E) (r : Es)
inductive Eo where
  | none
  | some (e : E)
inductive G where
  | name (i : Nat)
  | tup (gs : Gs)
  | sub (o i : E)
inductive Gs where
  | nil
  | cons (g : G) (r : Gs)
inductive It where
  | val (e : E)
  | rng1 (a : E)
  | rng2 (a b : E)
end
mutual
inductive Sm where
  | expr (e : E)
  | ret (e : E)
  | retN
  | ifs (t : E) (a b : Bs)
  | whl (t : E) (b : Bs)
  | fors (g : G) (it : It) (b : Bs)
  | asg (g : G) (e : E)
  | aug (i : Nat) (op : Bop) (e : E)
  | augS (o i : E) (op : Bop) (e : E)
  | pass
  | brk
  | cont
inductive Bs where
  | nil
  | cons (s : Sm) (r : Bs)
end

/-! ## values' operations -/
def Cst.d : Cst → D
  | .non => .non
  | .bl b => .bl b
  | .int i => .int i
  | .str x => .str x
def ints? : List D → Option (List Int)
  | [] => some []
  | .int i :: r => (ints? r).map (i :: ·)
  | _ :: _ => none
/-- two ints -/
def arith : Bop → Int → Int → Int
  | .add, i, j => i + j
  | .sub, i, j => i - j
  | .mul, i, j => i * j
  | .fdiv, i, j => i.fdiv j
  | .mod, i, j => i.fmod j
  | .pow, i, j => i ^ j.toNat
def arithOk : Bop → Int → Int → Prop
  | .add, _, _ => True
  | .sub, _, _ => True
  | .mul, i, j => IntMulOk i j
  | .fdiv, _, j => j ≠ 0 ∧ j.natAbs < 340282366920938463463374607431768211456
  | .mod, _, j => j ≠ 0
  | .pow, i, j => 0 ≤ j ∧ j ≤ 1000000 ∧ i.natAbs < 2 ^ 64
/-- a op b: ints; tuples and texts joined; a tuple, a list repeated -/
def wpBin (op : Bop) (x y : D) (S : Store) (Q : DK) : Prop :=
  match op, x, y with
  | op, .int i, .int j => arithOk op i j ∧ Q (.int (arith op i j)) S
  | .add, .tup a, .tup b => a.length + b.length ≤ sizeLine ∧ Q (.tup (a ++ b)) S
  | .add, .str a, .str b => a.length + b.length ≤ sizeLine ∧ Q (.str (a ++ b)) S
  | .add, .ref n, .ref k => ∃ a b, S[n]? = some (.lst a) ∧ S[k]? = some (.lst b) ∧ a.length + b.length ≤ sizeLine ∧ Q (.ref S.length) (S ++ [.lst (a ++ b)])
  | .mul, .ref n, .int k => ∃ a, S[n]? = some (.lst a) ∧ -(2 ^ 63) ≤ k ∧ k < 2 ^ 63 ∧ a.length * k.toNat ≤ sizeLine ∧ Q (.ref S.length) (S ++ [.lst (List.replicate k.toNat a).flatten])
  | _, _, _ => False
/-- a op= b of ints -/
def wpAug (op : Bop) (x y : D) (S : Store) (Q : DK) : Prop := ∃ i j, x = .int i ∧ y = .int j ∧ arithOk op i j ∧ Q (.int (arith op i j)) S
/-- the items of a list or tuple -/
def items (S : Store) : D → Option (List D)
  | .tup l => some l
  | .ref n => (match S[n]? with
    | some (.lst l) => some l
    | none => none)
  | .cl l => some l
  | _ => none
mutual
/-- as the library's data -/
def py : D → Option PyData
  | .non => some .none
  | .bl b => some (.bool b)
  | .int i => some (.int i)
  | .str x => some (.str x)
  | .tup l => (pys l).map .tuple
  | .ref _ => none
  | .cl _ => none
def pys : List D → Option (List PyData)
  | [] => some []
  | a :: as => (match py a, pys as with
    | some x, some y => some (x :: y)
    | _, _ => none)
end
/-- a list of plain data too -/
def pyS (S : Store) : D → Option PyData
  | .ref n => (match items S (.ref n) with
    | some l => (pys l).map .list
    | none => none)
  | d => py d
def seqOf : PyData → Option (List PyData)
  | .list l => some l
  | .tuple l => some l
  | _ => none
def D.isNon : D → Bool
  | .non => true
  | _ => false
/-- a cop b -/
def wpCmp (op : Cop) (x y : D) (S : Store) (Q : DK) : Prop :=
  match op with
  | .eq => ∃ d e, pyS S x = some d ∧ pyS S y = some e ∧ SeqAt.shaped d = true ∧ SeqAt.shaped e = true ∧ Q (.bl (PyData.eqv d e)) S
  | .ne => ∃ d e, pyS S x = some d ∧ pyS S y = some e ∧ SeqAt.shaped d = true ∧ SeqAt.shaped e = true ∧ Q (.bl (!PyData.eqv d e)) S
  | .lt => ∃ i j, x = .int i ∧ y = .int j ∧ Q (.bl (decide (i < j))) S
  | .le => ∃ i j, x = .int i ∧ y = .int j ∧ Q (.bl (decide (i ≤ j))) S
  | .gt => ∃ i j, x = .int i ∧ y = .int j ∧ Q (.bl (decide (j < i))) S
  | .ge => ∃ i j, x = .int i ∧ y = .int j ∧ Q (.bl (decide (j ≤ i))) S
  | .is => (match y with
    | .non => Q (.bl x.isNon) S
    | .bl b => ∃ a, x = .bl a ∧ Q (.bl (a == b)) S
    | _ => False)
  | .isnot => (match y with
    | .non => Q (.bl (!x.isNon)) S
    | .bl b => ∃ a, x = .bl a ∧ Q (.bl (!(a == b))) S
    | _ => False)
  | .inn => ∃ d e ds, pyS S x = some d ∧ pyS S y = some e ∧ SeqAt.shaped d = true ∧ SeqAt.shaped e = true ∧ seqOf e = some ds ∧ Q (.bl (ds.any fun z => PyData.eqv z d)) S
  | .notin => ∃ d e ds, pyS S x = some d ∧ pyS S y = some e ∧ SeqAt.shaped d = true ∧ SeqAt.shaped e = true ∧ seqOf e = some ds ∧ Q (.bl (!ds.any fun z => PyData.eqv z d)) S
/-- truth -/
def truth (S : Store) : D → Option Bool
  | .non => some false
  | .bl b => some b
  | .int i => some (i != 0)
  | .str _ => none
  | .tup l => some (!l.isEmpty)
  | .ref n => (match S[n]? with
    | some (.lst l) => some (!l.isEmpty)
    | none => none)
  | .cl l => some (!l.isEmpty)
def ixAt (l : List D) (i : Int) : Option D := atI l i
def cut (l : List D) (lo hi : Option Int) : List D := (l.drop (HT.sIx l.length 0 lo)).take (HT.sIx l.length l.length hi - HT.sIx l.length 0 lo)
/-- x[lo:hi] -/
def wpSlc (x : D) (lo hi : Option Int) (S : Store) (Q : DK) : Prop :=
  match x with
  | .tup l => Q (.tup (cut l lo hi)) S
  | .ref n => ∃ l, items S (.ref n) = some l ∧ Q (.ref S.length) (S ++ [.lst (cut l lo hi)])
  | .cl l => Q (.ref S.length) (S ++ [.lst (cut l lo hi)])
  | _ => False
def isTy (t : Ty) : D → Option Bool
  | .non => some false
  | .bl _ => some (match t with
    | .int => true
    | .bool => true
    | _ => false)
  | .int _ => some (match t with
    | .int => true
    | _ => false)
  | .str _ => some (match t with
    | .str => true
    | _ => false)
  | .tup _ => some (match t with
    | .tuple => true
    | _ => false)
  | .ref _ => some false
  | .cl _ => some false
def wpBi (b : Bi) (xs : List D) (S : Store) (Q : DK) : Prop :=
  match b with
  | .len => ∃ x l, xs = [x] ∧ items S x = some l ∧ Q (.int l.length) S
  | .int => (∃ i, xs = [.int i] ∧ Q (.int i) S) ∨ ∃ k, xs = [.bl k] ∧ Q (.int (if k then 1 else 0)) S
  | .abs => ∃ i, xs = [.int i] ∧ Q (.int (if i < 0 then -i else i)) S
  | .tuple => ∃ x l, xs = [x] ∧ items S x = some l ∧ Q (.tup l) S
  | .list => ∃ x l, xs = [x] ∧ items S x = some l ∧ Q (.ref S.length) (S ++ [.lst l])
  | .sum => ∃ x l ns, xs = [x] ∧ items S x = some l ∧ ints? l = some ns ∧ Q (.int ns.sum) S
  | .sorted => False
  | .max => ∃ i j, xs = [.int i, .int j] ∧ Q (.int (if j > i then j else i)) S
  | .min => ∃ i j, xs = [.int i, .int j] ∧ Q (.int (if j < i then j else i)) S
def wpMe (me : Me) (o : D) (xs : List D) (S : Store) (Q : DK) : Prop :=
  match me with
  | .append => ∃ n l y, o = .ref n ∧ xs = [y] ∧ S[n]? = some (.lst l) ∧ l.length < sizeLine ∧ Q .non (S.set n (.lst (l ++ [y])))
  | .pop => (∃ n l y, o = .ref n ∧ xs = [] ∧ S[n]? = some (.lst l) ∧ l[l.length - 1]? = some y ∧ Q y (S.set n (.lst l.dropLast))) ∨
    ∃ (n : Nat) (l : List D) (i : Nat) (y : D), o = .ref n ∧ xs = [.int i] ∧ S[n]? = some (.lst l) ∧ (i : Int) < 2 ^ 63 ∧ l[i]? = some y ∧ Q y (S.set n (.lst (l.eraseIdx i)))
  | .index => False

/-! ## what is wanted ahead of an expression, a statement -/
/-- the call of the f-th def -/
abbrev CallH := Nat → List D → Store → DK → Prop
/-- what a loop walks: the items; what has to stand still -/
structure Src where
  its : List D
  stay : Store → Prop
structure Dn where
  nx : Rho → Store → Prop
  rt : DK
  bk : Rho → Store → Prop
  ct : Rho → Store → Prop
def wipeD (r : Rho) : List Nat → Rho
  | [] => r
  | v :: vs => (wipeD r vs).set v none
def lcLoop (stay : Store → Prop) (tg : D → Rho → Store → (Rho → Store → Prop) → Prop) (cond : Rho → Store → (Bool → Store → Prop) → Prop) (elt : Rho → Store → DK → Prop) (r : Rho) :
    List D → Store → List D → (List D → Store → Prop) → Prop
  | [], S, acc, Q => stay S ∧ Q acc S
  | x :: xs, S, acc, Q => stay S ∧ tg x r S fun r1 S1 => cond r1 S1 fun b S2 =>
      if b = true then elt r1 S2 fun y S3 => acc.length < sizeLine ∧ lcLoop stay tg cond elt r xs S3 (acc ++ [y]) Q else lcLoop stay tg cond elt r xs S2 acc Q
def forLoop (stay : Store → Prop) (tg : D → Rho → Store → (Rho → Store → Prop) → Prop) (body : Dn → Rho → Store → Prop) (N : Dn) : List D → Rho → Store → Prop
  | [], r, S => stay S ∧ N.nx r S
  | x :: xs, r, S => stay S ∧ tg x r S fun r1 S1 => body { nx := forLoop stay tg body N xs, ct := forLoop stay tg body N xs, bk := N.nx, rt := N.rt } r1 S1
def Src.live (n : Nat) (S : Store) (l : List D) : Src := ⟨l, fun S' => S'[n]? = S[n]?⟩
def wpSrc (x : D) (S : Store) (Q : Src → Store → Prop) : Prop :=
  match x with
  | .tup l => Q ⟨l, fun _ => True⟩ S
  | .cl l => Q ⟨l, fun _ => True⟩ S
  | .ref n => ∃ l, items S (.ref n) = some l ∧ Q (.live n S l) S
  | _ => False
def rngL (lo : Int) (n : Nat) : List D := (List.range n).map fun (i : Nat) => .int (lo + (i : Int))

def lenGs : Gs → Nat
  | .nil => 0
  | .cons _ r => lenGs r + 1
/-- an expression's two wishes: its value's, its truth's -/
structure WE where
  v : Rho → Store → DK → Prop
  t : Rho → Store → (Bool → Store → Prop) → Prop
def dfl (v : Rho → Store → DK → Prop) : WE := ⟨v, fun r S Q => v r S fun x S1 => ∃ b, truth S1 x = some b ∧ Q b S1⟩
section
variable (C : CallH)
mutual
def wp : E → WE
  | .var i => dfl fun r S Q => ∃ d, r[i]? = some (some d) ∧ Q d S
  | .cst c => dfl fun _ S Q => Q c.d S
  | .bin op a b => dfl fun r S Q => (wp a).v r S fun x S1 => (wp b).v r S1 fun y S2 => wpBin op x y S2 Q
  | .neg a => dfl fun r S Q => (wp a).v r S fun x S1 => ∃ i, x = .int i ∧ Q (.int (-i)) S1
  | .cmp op a b => dfl fun r S Q => (wp a).v r S fun x S1 => (wp b).v r S1 fun y S2 => wpCmp op x y S2 Q
  | .chain o1 o2 a b c => dfl fun r S Q => (wp a).v r S fun x S1 => (wp b).v r S1 fun y S2 => wpCmp o1 x y S2 fun z S3 => ∃ k, z = .bl k ∧
      if k = true then (wp c).v r S3 fun u S4 => wpCmp o2 y u S4 Q else Q (.bl false) S3
  | .and a b => ⟨fun r S Q => (wp a).v r S fun x S1 => ∃ c, x = .bl c ∧ if c = true then (wp b).v r S1 Q else Q (.bl false) S1,
      fun r S Q => (wp a).t r S fun c S1 => if c = true then (wp b).t r S1 Q else Q false S1⟩
  | .or a b => ⟨fun r S Q => (wp a).v r S fun x S1 => ∃ c, x = .bl c ∧ if c = true then Q (.bl true) S1 else (wp b).v r S1 Q,
      fun r S Q => (wp a).t r S fun c S1 => if c = true then Q true S1 else (wp b).t r S1 Q⟩
  | .not a => ⟨fun r S Q => (wp a).v r S fun x S1 => ∃ c, x = .bl c ∧ Q (.bl (!c)) S1, fun r S Q => (wp a).t r S fun c S1 => Q (!c) S1⟩
  | .ite t a b => ⟨fun r S Q => (wp t).t r S fun c S1 => if c = true then (wp a).v r S1 Q else (wp b).v r S1 Q, fun _ _ _ => False⟩
  | .tup es => dfl fun r S Q => wpEs es r S fun xs S1 => Q (.tup xs) S1
  | .lst es => dfl fun r S Q => wpEs es r S fun xs S1 => Q (.ref S1.length) (S1 ++ [.lst xs])
  | .idx a b => dfl fun r S Q => (wp a).v r S fun x S1 => (wp b).v r S1 fun y S2 => ∃ l, items S2 x = some l ∧ ∃ i, y = .int i ∧ ∃ d, ixAt l i = some d ∧ Q d S2
  | .slc a lo hi => dfl fun r S Q => (wp a).v r S fun x S1 => wpEo lo r S1 fun l S2 => wpEo hi r S2 fun h S3 => wpSlc x l h S3 Q
  | .call f es => dfl fun r S Q => wpEs es r S fun xs S1 => C f xs S1 Q
  | .callK f es _ zs perm => dfl fun r S Q => wpEs es r S fun xs S1 => wpEs zs r S1 fun ys S2 => C f (perm.filterMap fun i => (xs ++ ys)[i]?) S2 Q
  | .bi b es => dfl fun r S Q => wpEs es r S fun xs S1 => wpBi b xs S1 Q
  | .isi a t => dfl fun r S Q => (wp a).v r S fun x S1 => ∃ b, isTy t x = some b ∧ Q (.bl b) S1
  | .meth me o es => dfl fun r S Q => (wp o).v r S fun x S1 => (∃ n, x = .ref n) ∧ wpEs es r S1 fun xs S2 => wpMe me x xs S2 Q
  | .lc elt g it cs own => dfl fun r S Q => wpI it r S fun src S1 => lcLoop src.stay (wpG g) (wpTs cs) (wp elt).v (wipeD r own) src.its S1 [] fun acc S2 => Q (.ref S2.length) (S2 ++ [.lst acc])
def wpTs : Es → Rho → Store → (Bool → Store → Prop) → Prop
  | .nil, _, S, Q => Q true S
  | .cons e _, r, S, Q => (wp e).t r S Q
def wpEs : Es → Rho → Store → (List D → Store → Prop) → Prop
  | .nil, _, S, Q => Q [] S
  | .cons e es, r, S, Q => (wp e).v r S fun x S1 => wpEs es r S1 fun xs S2 => Q (x :: xs) S2
def wpEo : Eo → Rho → Store → (Option Int → Store → Prop) → Prop
  | .none, _, S, Q => Q none S
  | .some e, r, S, Q => (wp e).v r S fun x S1 => ∃ i, x = .int i ∧ Q (some i) S1
def wpG : G → D → Rho → Store → (Rho → Store → Prop) → Prop
  | .name i, d, r, S, Q => Q (r.set i (some d)) S
  | .tup gs, d, r, S, Q => ∃ ds, d = .tup ds ∧ ds.length = lenGs gs ∧ wpGs gs ds r S Q
  | .sub o i, d, r, S, Q => (wp o).v r S fun x S1 => (wp i).v r S1 fun y S2 => ∃ n, x = .ref n ∧ ∃ k, y = .int k ∧ ∃ l, S2[n]? = some (.lst l) ∧ ∃ j, ixN l.length k = some j ∧ Q r (S2.set n (.lst (l.set j d)))
def wpGs : Gs → List D → Rho → Store → (Rho → Store → Prop) → Prop
  | .nil, ds, r, S, Q => ds = [] ∧ Q r S
  | .cons g gs, ds, r, S, Q => ∃ x xs, ds = x :: xs ∧ wpG g x r S fun r1 S1 => wpGs gs xs r1 S1 Q
def wpI : It → Rho → Store → (Src → Store → Prop) → Prop
  | .val e, r, S, Q => (wp e).v r S fun x S1 => wpSrc x S1 Q
  | .rng1 a, r, S, Q => (wp a).v r S fun x S1 => ∃ j : Int, x = .int j ∧ -(2 ^ 62) ≤ j ∧ j < 2 ^ 62 ∧ Q ⟨rngL 0 j.toNat, fun _ => True⟩ S1
  | .rng2 a b, r, S, Q => (wp a).v r S fun x S1 => (wp b).v r S1 fun y S2 => ∃ i : Int, x = .int i ∧ ∃ j : Int, y = .int j ∧ (-(2 ^ 62) ≤ i ∧ i < 2 ^ 62 ∧ -(2 ^ 62) ≤ j ∧ j < 2 ^ 62) ∧ Q ⟨rngL i (j - i).toNat, fun _ => True⟩ S2
end
def wpE (e : E) : Rho → Store → DK → Prop := (wp C e).v
def wpT (e : E) : Rho → Store → (Bool → Store → Prop) → Prop := (wp C e).t
/-- one branch or the other -/
def ifK (c : Bool) (A B : Dn → Rho → Store → Prop) (N : Dn) (r : Rho) (S : Store) : Prop := if c = true then A N r S else B N r S
/-- what comes behind a statement, shut until it is the goal -/
@[irreducible] def later (w : Rho → Store → Prop) (r : Rho) (S : Store) : Prop := w r S
theorem later_eq (w : Rho → Store → Prop) (r : Rho) (S : Store) : later w r S = w r S := by unfold later; rfl
mutual
def wpS : Sm → Dn → Rho → Store → Prop
  | .expr e, N, r, S => wpE C e r S fun _ S1 => N.nx r S1
  | .ret e, N, r, S => wpE C e r S N.rt
  | .retN, N, _, S => N.rt .non S
  | .ifs t a b, N, r, S => wpT C t r S fun c S1 => ifK c (wpB a) (wpB b) N r S1
  | .whl t b, N, r, S => ∃ W : Nat → Rho → Store → Prop, (∃ n, W n r S) ∧ ∀ n r S, W n r S → wpT C t r S fun c S1 =>
      if c = true then wpB b { N with nx := fun r' S' => ∃ n', n' < n ∧ W n' r' S', ct := fun r' S' => ∃ n', n' < n ∧ W n' r' S', bk := N.nx } r S1 else N.nx r S1
  | .fors g it b, N, r, S => wpI C it r S fun src S1 => forLoop src.stay (wpG C g) (wpB b) N src.its r S1
  | .asg g e, N, r, S => wpE C e r S fun x S1 => wpG C g x r S1 N.nx
  | .aug i op e, N, r, S => ∃ d, r[i]? = some (some d) ∧ wpE C e r S fun y S1 => wpAug op d y S1 fun z S2 => N.nx (r.set i (some z)) S2
  | .augS o i op e, N, r, S => wpE C o r S fun x S1 => wpE C i r S1 fun y S2 => ∃ n, x = .ref n ∧ ∃ k, y = .int k ∧ ∃ l, S2[n]? = some (.lst l) ∧ 0 ≤ k ∧ ∃ d, ixAt l k = some d ∧
      wpE C e r S2 fun z S3 => wpAug op d z S3 fun u S4 => ∃ l', S4[n]? = some (.lst l') ∧ ∃ j, ixN l'.length k = some j ∧ N.nx r (S4.set n (.lst (l'.set j u)))
  | .pass, N, r, S => N.nx r S
  | .brk, N, r, S => N.bk r S
  | .cont, N, r, S => N.ct r S
def wpB : Bs → Dn → Rho → Store → Prop
  | .nil, N, r, S => N.nx r S
  | .cons s rest, N, r, S => wpS s { N with nx := later (wpB rest N) } r S
end
end
end Ev
set_option Elab.async false
set_option linter.all false
set_option maxRecDepth 100000
set_option maxHeartbeats 4000000
namespace Ev
open PySem PySem.Spec PyProof.Rows L2

/-! ## operations: what the layer's rules want, of related values -/
/-- what is wanted behind, told of the store -/
def Imp (K : FR) (m : List Addr) (H : Hp) (Qd : DK) (Q : VK) : Prop := ∀ d S' v m' H', Qd d S' → Rel K m' S' H' → Ext m H m' H' → RD K m' H' d v → Q v H'
section
variable {K : FR} {m : List Addr} {S : Store} {H : Hp} {Qd : DK} {Q : VK} {x y : D} {xv yv : V}
theorem Imp.here (q : Imp K m H Qd Q) (r : Rel K m S H) {d : D} {v : V} (h : Qd d S) (rd : RD K m H d v) : Q v H := q d S v m H h r .refl rd
theorem Imp.newL (q : Imp K m H Qd Q) (r : Rel K m S H) {l : List D} {vs : List V} (rs : RDs K m H l vs) (h : Qd (.ref S.length) (S ++ [.lst l])) : ∀ p, H p = none → Q (.ref p) (upd H p (.lst vs)) := fun p n =>
  q _ _ _ _ _ h (r.new n rs) (.alloc n (r.fresh n)) (.ref (by rw [← r.len, List.getElem?_append_right (Nat.le_refl _)]; simp))
theorem Imp.newT (q : Imp K m H Qd Q) (r : Rel K m S H) {l : List D} {vs : List V} (rs : RDs K m H l vs) (h : Qd (.tup l) S) : ∀ p, H p = none → Q (.ref p) (upd H p (.tup vs)) := fun p n =>
  q _ _ _ _ _ h (r.laid n) (.laid n) (.tup (.inl (.inl upd_same)) (rs.mono (.laid n) r))
theorem Rel.lst (r : Rel K m S H) {n : Nat} {a : Addr} {l : List D} (e : S[n]? = some (.lst l)) (h : m[n]? = some a) : ∃ vs, H a = some (.lst vs) ∧ RDs K m H l vs := r.ob n _ a e h
theorem Rel.its (r : Rel K m S H) {n : Nat} {a : Addr} {l : List D} (e : items S (.ref n) = some l) (h : m[n]? = some a) : ∃ vs, SqL K H a vs ∧ RDs K m H l vs := by
  unfold items at e
  cases q : S[n]? with
  | none => simp only [q] at e; cases e
  | some o =>
    have z := r.ob n o a q h
    cases o with
    | lst l' =>
      simp only [q, Option.some.injEq] at e
      subst e
      obtain ⟨vs, hv, rs⟩ := z
      exact ⟨vs, .inl (.inl hv), rs⟩
theorem RD.its (r : Rel K m S H) {d : D} {v : V} {l : List D} (h : RD K m H d v) (e : items S d = some l) : ∃ a vs, v = .ref a ∧ (SqL K H a vs ∨ SqT K H a vs) ∧ RDs K m H l vs := by
  cases h with
  | tup hs rs => cases e; exact ⟨_, _, rfl, .inr hs, rs⟩
  | ref hn => obtain ⟨vs, q, rs⟩ := r.its e hn; exact ⟨_, vs, rfl, .inl q, rs⟩
  | cl hs rs => cases e; exact ⟨_, _, rfl, .inl hs.sq, rs⟩
  | _ => cases e

mutual
theorem RD.py (r : Rel K m S H) : ∀ {d : D} {v : V} {p : PyData}, RD K m H d v → Ev.py d = some p → Dp K H v p
  | _, _, _, .non, e => by cases e; exact .non
  | _, _, _, .bl b, e => by cases e; exact .bl b
  | _, _, _, .int i, e => by cases e; exact .int i
  | _, _, _, .str z, e => by cases e; exact .str z
  | _, _, _, .ref _, e => by cases e
  | _, _, _, .cl _ _, e => by cases e
  | _, _, _, .tup (ds := ds) hs rs, e => by
    unfold Ev.py at e
    cases q : pys ds with
    | none => rw [q] at e; cases e
    | some ps => rw [q] at e; cases e; exact .tup hs (RDs.pys r rs q)
theorem RDs.pys (r : Rel K m S H) : ∀ {ds : List D} {vs : List V} {ps : List PyData}, RDs K m H ds vs → Ev.pys ds = some ps → DpAll K H vs ps
  | _, _, _, .nil, e => by cases e; exact .nil
  | _, _, _, .cons (d := d) (ds := ds) h rs, e => by
    unfold Ev.pys at e
    cases q : Ev.py d with
    | none => simp [q] at e
    | some p =>
      cases q2 : Ev.pys ds with
      | none => simp [q, q2] at e
      | some ps => simp [q, q2] at e; subst e; exact .cons (RD.py r h q) (RDs.pys r rs q2)
end
theorem RD.pyS (r : Rel K m S H) {d : D} {v : V} {p : PyData} (h : RD K m H d v) (e : pyS S d = some p) : Dp K H v p := by
  cases h with
  | ref hn =>
    rename_i n a
    unfold Ev.pyS at e
    cases q : items S (.ref n) with
    | none => simp only [q] at e; cases e
    | some l =>
      simp only [q] at e
      obtain ⟨vs, hs, rs⟩ := r.its q hn
      cases q2 : Ev.pys l with
      | none => rw [q2] at e; cases e
      | some ps => rw [q2] at e; cases e; exact .lst hs (rs.pys r q2)
  | non => exact RD.py r .non e
  | bl b => exact RD.py r (.bl b) e
  | int i => exact RD.py r (.int i) e
  | str z => exact RD.py r (.str z) e
  | tup hs rs => exact RD.py r (.tup hs rs) e
  | cl _ _ => cases e
theorem ints_of : ∀ {l : List D} {vs : List V} {ns : List Int}, RDs K m H l vs → ints? l = some ns → vs = ns.map V.int
  | _, _, _, .nil, e => by cases e; rfl
  | _, _, _, .cons (d := d) (ds := ds) h rs, e => by
    cases h with
    | int i =>
      unfold ints? at e
      cases q : ints? ds with
      | none => rw [q] at e; cases e
      | some ns => rw [q] at e; cases e; rw [ints_of rs q]; rfl
    | _ => cases e
end
section
variable {X : Cx}
theorem op_mulG : OpR X (binaryOp .Mult) (rI IntMulOk fun i j => .int (i * j)) := opI fun _ _ _ _ _ _ _ hc q => mul_int q hc
def opOf : Bop → Operator
  | .add => .Add
  | .sub => .Sub
  | .mul => .Mult
  | .fdiv => .FloorDiv
  | .mod => .Mod
  | .pow => .Pow
def CDivW (_ j : Int) : Prop := j ≠ 0 ∧ j.natAbs < 340282366920938463463374607431768211456
theorem noPy {i j : Int} (h : j.natAbs < 340282366920938463463374607431768211456) : Builtin.divisionGoesByPylong i j = false := by
  refine PyProof.noPylong_of_log2 ?_
  by_cases z : j.natAbs = 0
  · rw [z]; decide
  · have : j.natAbs.log2 < 128 := (Nat.log2_lt z).mpr (Nat.lt_of_lt_of_le h (by decide))
    omega
theorem op_fdivW : OpR X (binaryOp .FloorDiv) (rI CDivW fun i j => .int (i.fdiv j)) := opI fun _ _ _ _ _ _ _ hc q => floordiv_int hc.1 q (.inl (noPy hc.2))
def rStrCat : R2 := fun x y H Q => ∃ i j, x = .str i ∧ y = .str j ∧ i.length + j.length ≤ sizeLine ∧ Q (.str (i ++ j)) H
def rBin (K : FR) : Bop → R2
  | .add => fun x y H Q => rI0 (fun i j => .int (i + j)) x y H Q ∨ rCatA K x y H Q ∨ rStrCat x y H Q ∨ rCat x y H Q
  | .sub => rI0 fun i j => .int (i - j)
  | .mul => fun x y H Q => rI IntMulOk (fun i j => .int (i * j)) x y H Q ∨ rRep x y H Q
  | .fdiv => rI CDivW fun i j => .int (i.fdiv j)
  | .mod => rI (fun _ j => j ≠ 0) fun i j => .int (i.fmod j)
  | .pow => rI CPow fun i j => .int (i ^ j.toNat)
theorem op_bin : ∀ op : Bop, OpR X (binaryOp (opOf op)) (rBin X.K op)
  | .add => op_add.or (op_catA.or (OpR.or op_add_str op_cat))
  | .sub => op_sub
  | .mul => op_mulG.or op_rep
  | .fdiv => op_fdivW
  | .mod => op_modN
  | .pow => op_pow
end
section
variable {K : FR} {m : List Addr} {S : Store} {H : Hp} {Qd : DK} {Q : VK} {x y : D} {xv yv : V}
theorem RDs.rep {l : List D} {vs : List V} (r : RDs K m H l vs) : ∀ k : Nat, RDs K m H (List.replicate k l).flatten (List.replicate k vs).flatten
  | 0 => .nil
  | k + 1 => by rw [List.replicate_succ, List.replicate_succ, List.flatten_cons, List.flatten_cons]; exact r.app (RDs.rep r k)
theorem bin_r (op : Bop) (r : Rel K m S H) (rx : RD K m H x xv) (ry : RD K m H y yv) (h : wpBin op x y S Qd) (q : Imp K m H Qd Q) : rBin K op xv yv H Q := by
  cases rx with
  | int i =>
    cases ry with
    | int j =>
      have h : arithOk op i j ∧ Qd (.int (arith op i j)) S := by cases op <;> exact h
      obtain ⟨h1, h2⟩ := h
      have e := q.here r h2 (.int _)
      cases op with
      | add => exact .inl ⟨i, j, rfl, rfl, e⟩
      | sub => exact ⟨i, j, rfl, rfl, e⟩
      | mul => exact .inl ⟨i, j, rfl, rfl, h1, e⟩
      | fdiv => exact ⟨i, j, rfl, rfl, h1, e⟩
      | mod => exact ⟨i, j, rfl, rfl, h1, e⟩
      | pow => exact ⟨i, j, rfl, rfl, h1, e⟩
    | _ => cases op <;> exact (show False from h).elim
  | tup hs rs =>
    cases ry with
    | tup ht rt =>
      cases op with
      | add =>
        obtain ⟨hz, h⟩ := h
        have ea := rs.length
        have eb := rt.length
        refine .inr (.inl ⟨_, _, _, _, rfl, rfl, hs, ht, by rw [← ea, ← eb]; exact hz, fun e => ?_, fun _ e => ?_, fun _ _ => q.newT r (rs.app rt) h⟩)
        · subst e
          cases rs
          exact q.here r h (.tup ht rt)
        · subst e
          cases rt
          rw [List.append_nil] at h
          exact q.here r h (.tup hs rs)
      | _ => exact (show False from h).elim
    | _ => cases op <;> exact (show False from h).elim
  | str z =>
    cases ry with
    | str u =>
      cases op with
      | add =>
        obtain ⟨hz, h⟩ := h
        exact .inr (.inr (.inl ⟨z, u, rfl, rfl, hz, q.here r h (.str _)⟩))
      | _ => exact (show False from h).elim
    | _ => cases op <;> exact (show False from h).elim
  | ref hn =>
    cases ry with
    | ref hk =>
      cases op with
      | add =>
        obtain ⟨a, b, e1, e2, hz, h⟩ := h
        obtain ⟨vs, h1, r1⟩ := r.lst e1 hn
        obtain ⟨ws, h2, r2⟩ := r.lst e2 hk
        exact .inr (.inr (.inr ⟨_, _, vs, ws, rfl, rfl, h1, h2, by rw [← r1.length, ← r2.length]; exact hz, q.newL r (r1.app r2) h⟩))
      | _ => exact (show False from h).elim
    | int k =>
      cases op with
      | mul =>
        obtain ⟨a, e1, k0, k1, hz, h⟩ := h
        obtain ⟨vs, h1, r1⟩ := r.lst e1 hn
        exact .inr ⟨_, k, vs, rfl, rfl, h1, k0, k1, by rw [← r1.length]; exact hz, q.newL r (r1.rep _) h⟩
      | _ => exact (show False from h).elim
    | _ => cases op <;> exact (show False from h).elim
  | _ => cases ry <;> cases op <;> exact (show False from h).elim
end
/-! ### comparisons -/
def copOf : Cop → CmpOp
  | .eq => .Eq
  | .ne => .NotEq
  | .lt => .Lt
  | .le => .LtE
  | .gt => .Gt
  | .ge => .GtE
  | .is => .Is
  | .isnot => .IsNot
  | .inn => .In
  | .notin => .NotIn
def rInA (K : FR) (neg : Bool) : R2 := fun x y H Q => ∃ d e ds, Dp K H x d ∧ Dp K H y e ∧ SeqAt.shaped d = true ∧ SeqAt.shaped e = true ∧ seqOf e = some ds ∧ Q (.bl (if neg then !ds.any fun z => PyData.eqv z d else ds.any fun z => PyData.eqv z d)) H
section
variable {X : Cx}
theorem op_inA (hu : X.A.units + 65 < cLine) : OpR X (compareOp .In) (rInA X.K false) := by
  intro pins s σ H x y v u Q I rx ry ⟨d, e, ds, hd, he, sd, se, eq, q⟩
  obtain ⟨_, r1⟩ := Dp.reads I d x v hd rx
  obtain ⟨_, r2⟩ := Dp.reads I e y u he ry
  cases e <;> cases eq
  · exact SeqAt.in_list_reads r2 r1 (SeqAt.canLay_of_shaped se) (SeqAt.canLay_of_shaped sd) (room_in_shaped sd hu) ⟨.bl _, H, I, rfl, q⟩
  · exact SeqAt.in_tuple_reads r2 r1 (SeqAt.canLay_of_shaped se) (SeqAt.canLay_of_shaped sd) (room_in_shaped sd hu) ⟨.bl _, H, I, rfl, q⟩
theorem op_notInA (hu : X.A.units + 65 < cLine) : OpR X (compareOp .NotIn) (rInA X.K true) := by
  intro pins s σ H x y v u Q I rx ry ⟨d, e, ds, hd, he, sd, se, eq, q⟩
  obtain ⟨_, r1⟩ := Dp.reads I d x v hd rx
  obtain ⟨_, r2⟩ := Dp.reads I e y u he ry
  cases e <;> cases eq
  · exact SeqAt.notIn_list_reads r2 r1 (SeqAt.canLay_of_shaped se) (SeqAt.canLay_of_shaped sd) (room_in_shaped sd hu) ⟨.bl _, H, I, rfl, q⟩
  · exact SeqAt.notIn_tuple_reads r2 r1 (SeqAt.canLay_of_shaped se) (SeqAt.canLay_of_shaped sd) (room_in_shaped sd hu) ⟨.bl _, H, I, rfl, q⟩
def rIsNone : R2 := fun x y H Q => y = .non ∧ Q (.bl (decide (x = .non))) H
def rNotNone : R2 := fun x y H Q => y = .non ∧ Q (.bl (!decide (x = .non))) H
def rCmp (K : FR) : Cop → R2
  | .eq => rEqD K
  | .ne => rNeD K
  | .lt => rI0 fun i j => .bl (decide (i < j))
  | .le => rI0 fun i j => .bl (decide (i ≤ j))
  | .gt => rI0 fun i j => .bl (decide (j < i))
  | .ge => rI0 fun i j => .bl (decide (j ≤ i))
  | .is => fun x y H Q => rIsNone x y H Q ∨ rIsB x y H Q
  | .isnot => fun x y H Q => rNotNone x y H Q ∨ rNotB x y H Q
  | .inn => rInA K false
  | .notin => rInA K true
theorem op_cmp (hu : X.A.units + 65 < cLine) : ∀ op : Cop, OpR X (compareOp (copOf op)) (rCmp X.K op)
  | .eq => op_eqD (by omega)
  | .ne => op_neD (by omega)
  | .lt => op_lt
  | .le => op_le
  | .gt => op_gt
  | .ge => op_ge
  | .is => op_isN.or op_isBl
  | .isnot => op_notN.or op_notBl
  | .inn => op_inA hu
  | .notin => op_notInA hu
end
section
variable {K : FR} {m : List Addr} {S : Store} {H : Hp} {Qd : DK} {Q : VK} {x y : D} {xv yv : V}
theorem RD.none_iff (rx : RD K m H x xv) : x.isNon = decide (xv = .non) := by cases rx <;> rfl
theorem cmp_r (op : Cop) (r : Rel K m S H) (rx : RD K m H x xv) (ry : RD K m H y yv) (h : wpCmp op x y S Qd) (q : Imp K m H Qd Q) : rCmp K op xv yv H Q := by
  cases op with
  | eq => obtain ⟨d, e, h1, h2, h3, h4, h5⟩ := h; exact ⟨d, e, rx.pyS r h1, ry.pyS r h2, h3, h4, q.here r h5 (.bl _)⟩
  | ne => obtain ⟨d, e, h1, h2, h3, h4, h5⟩ := h; exact ⟨d, e, rx.pyS r h1, ry.pyS r h2, h3, h4, q.here r h5 (.bl _)⟩
  | lt => obtain ⟨i, j, rfl, rfl, h⟩ := h; cases rx; cases ry; exact ⟨i, j, rfl, rfl, q.here r h (.bl _)⟩
  | le => obtain ⟨i, j, rfl, rfl, h⟩ := h; cases rx; cases ry; exact ⟨i, j, rfl, rfl, q.here r h (.bl _)⟩
  | gt => obtain ⟨i, j, rfl, rfl, h⟩ := h; cases rx; cases ry; exact ⟨i, j, rfl, rfl, q.here r h (.bl _)⟩
  | ge => obtain ⟨i, j, rfl, rfl, h⟩ := h; cases rx; cases ry; exact ⟨i, j, rfl, rfl, q.here r h (.bl _)⟩
  | is =>
    cases ry with
    | non =>
      refine .inl ⟨rfl, ?_⟩
      rw [← rx.none_iff]
      exact q.here r h (.bl _)
    | bl b =>
      obtain ⟨a, rfl, h'⟩ := (show ∃ a, x = .bl a ∧ Qd (.bl (a == b)) S from h)
      cases rx
      refine .inr ⟨a, b, rfl, rfl, ?_⟩
      have e := q.here r h' (.bl _)
      rw [show decide (a = b) = (a == b) from by cases a <;> cases b <;> rfl]
      exact e
    | _ => exact (show False from h).elim
  | isnot =>
    cases ry with
    | non =>
      refine .inl ⟨rfl, ?_⟩
      rw [← rx.none_iff]
      exact q.here r h (.bl _)
    | bl b =>
      obtain ⟨a, rfl, h'⟩ := (show ∃ a, x = .bl a ∧ Qd (.bl (!(a == b))) S from h)
      cases rx
      refine .inr ⟨a, b, rfl, rfl, ?_⟩
      have e := q.here r h' (.bl _)
      rw [show decide (a = b) = (a == b) from by cases a <;> cases b <;> rfl]
      exact e
    | _ => exact (show False from h).elim
  | inn => obtain ⟨d, e, ds, h1, h2, h3, h4, h5, h6⟩ := h; exact ⟨d, e, ds, rx.pyS r h1, ry.pyS r h2, h3, h4, h5, q.here r h6 (.bl _)⟩
  | notin => obtain ⟨d, e, ds, h1, h2, h3, h4, h5, h6⟩ := h; exact ⟨d, e, ds, rx.pyS r h1, ry.pyS r h2, h3, h4, h5, q.here r h6 (.bl _)⟩
theorem truth_r (r : Rel K m S H) (rx : RD K m H x xv) {b : Bool} (h : truth S x = some b) : TruV K xv H b := by
  cases rx with
  | non => cases h; rfl
  | bl b => cases h; rfl
  | int i => cases h; rfl
  | str z => cases h
  | tup hs rs =>
    cases h
    refine .inr (.inl ⟨_, hs, ?_⟩)
    cases rs <;> rfl
  | ref hn =>
    rename_i n a
    unfold truth at h
    cases q : S[n]? with
    | none => simp only [q] at h; cases h
    | some o =>
      have key : ∀ l, items S (.ref n) = some l → b = (!l.isEmpty) → TruV K (.ref a) H b := fun l e hb => by
        obtain ⟨vs, hs, rs⟩ := r.its e hn
        refine .inl ⟨vs, hs, ?_⟩
        rw [hb]
        cases rs <;> rfl
      cases o with
      | lst l => simp only [q, Option.some.injEq] at h; exact key l (by simp [items, q]) h.symm
  | cl hs rs =>
    cases h
    refine .inl ⟨_, hs.sq, ?_⟩
    cases rs <;> rfl
end
end Ev
set_option Elab.async false
set_option linter.all false
set_option maxRecDepth 100000
set_option maxHeartbeats 4000000
namespace Ev
open PySem PySem.Spec PyProof.Rows L2

/-! ## built-ins over related values -/
section
variable {prog : Program} {w : World} {A : Around} {E : Value → Shared → Prop} {s : Shared} {l : Addr}
theorem sum_tupRaw {its : List Value} {ns : List Int} {Q : Value → Shared → Prop} (hh : A.handled = none) (hl : IsTup s.heap l its.toArray) (hi : IntsAre its ns)
    (h : ∀ h' tk t', (∀ b o, s.heap.get? b = some o → h'.get? b = some o) → Q (.int ns.sum t') { s with heap := h', toks := tk }) : wpAny (model prog w) A (call (.builtin "sum") [.ref l]) Q E s := by
  obtain ⟨xs, e⟩ := hi.allInts.items
  have hn : numsOf (intItems xs).toList = ns := by rw [← e]; exact hi.numsOf
  rw [nums_intItems] at hn
  rw [e] at hl
  have hT : s.heap.IsTuple l (intItems xs) := hl
  have hlt : l < s.heap.objs.size := by
    obtain ⟨o, ho, _⟩ := hl
    exact Heap.lt_size ho
  refine call_sum_walkG (wpAny_pyIter_tuple hT ?_)
  refine ⟨_, [_, l], [_], _, _, _, numAt xs, rfl, Walks.tuple (A := A.in1) hh _ l (Nat.ne_of_lt hlt) (intItems xs), ⟨⟨_, Heap.get?_push_size _ rfl, rfl, rfl⟩, hT.push _⟩, fun c hc => ?_, (fun _ _ => intItems_at), fun h' tk t' hk => ?_⟩
  · show c < (s.heap.push _).objs.size
    rw [Heap.size_push]
    rcases List.mem_cons.mp hc with rfl | hc
    · exact Nat.lt_succ_self _
    · rcases List.mem_cons.mp hc with rfl | hc
      · exact Nat.lt_succ_of_lt hlt
      · cases hc
  · have := h h' tk t' fun b o ho => hk b o (fun hb => by
      rw [List.mem_singleton.mp hb] at ho
      exact Nat.lt_irrefl _ (Heap.lt_size ho)) (Heap.get?_push_of_some _ ho)
    have ep : preSum (numAt xs) (intItems xs).size = ns.sum := by
      rw [show (intItems xs).size = xs.size by simp [intItems], preSum_eq, List.take_of_length_le (by simp), hn]
    rw [ep]
    exact this
end
section
variable {X : Cx}
def rSumT (K : FR) : List V → Hp → VK → Prop := fun vs H Q => ∃ (a : Addr) (ns : List Int), vs = [V.ref a] ∧ SqT K H a (ns.map V.int) ∧ Q (.int ns.sum) H
theorem cr_sumT (hc : X.calm = true) : CallR X (.builtin "sum") (rSumT X.K) := by
  intro pins s σ H vs us Q I r ⟨a, ns, e, hs, q⟩
  subst e
  obtain ⟨its, rv, hl, _⟩ := I.tuple hs
  rw [Vals.ref1 r]
  exact sum_tupRaw (I.ok.hd hc) hl rv.ints fun h' tk t' hk => ⟨.int _, H, I.kept hk, ⟨_, rfl⟩, q⟩
end
def biName : Bi → Str
  | .len => "len"
  | .int => "int"
  | .abs => "abs"
  | .tuple => "tuple"
  | .list => "list"
  | .sum => "sum"
  | .sorted => "sorted"
  | .max => "max"
  | .min => "min"
def biVal : Bi → Value
  | .len => .builtin "len"
  | .int => .type "int"
  | .abs => .builtin "abs"
  | .tuple => .type "tuple"
  | .list => .type "list"
  | .sum => .builtin "sum"
  | .sorted => .builtin "sorted"
  | .max => .builtin "max"
  | .min => .builtin "min"
def rLen2 (K : FR) : List V → Hp → VK → Prop := fun xs H Q => ∃ x n, xs = [x] ∧ LenV K x H n ∧ Q (.int n) H
def rBi (K : FR) : Bi → List V → Hp → VK → Prop
  | .len => rLen2 K
  | .int => fun xs H Q => (∃ i, xs = [.int i] ∧ Q (.int i) H) ∨ ∃ k, xs = [.bl k] ∧ Q (.int (if k then 1 else 0)) H
  | .abs => fun xs H Q => ∃ i, xs = [.int i] ∧ Q (.int (if i < 0 then -i else i)) H
  | .tuple => fun xs H Q => ∃ p ys, xs = [.ref p] ∧ ((SqL K H p ys ∧ ∀ l, H l = none → Q (.ref l) (upd H l (.tup ys))) ∨ (SqT K H p ys ∧ Q (.ref p) H))
  | .list => fun xs H Q => ∃ p ys, xs = [.ref p] ∧ (SqL K H p ys ∨ SqT K H p ys) ∧ ∀ l, H l = none → Q (.ref l) (upd H l (.lst ys))
  | .sum => fun xs H Q => rSum K xs H Q ∨ rSumT K xs H Q
  | .sorted => fun _ _ _ => False
  | .max => fun xs H Q => ∃ i j, xs = [.int i, .int j] ∧ Q (.int (if j > i then j else i)) H
  | .min => fun xs H Q => ∃ i j, xs = [.int i, .int j] ∧ Q (.int (if j < i then j else i)) H
section
variable {X : Cx}
theorem cr_bi (hc : X.calm = true) : ∀ b : Bi, CallR X (biVal b) (rBi X.K b)
  | .len => call_len
  | .int => call_int1
  | .abs => call_abs
  | .tuple => call_tuple_of
  | .list => call_list_of
  | .sum => CallR.or (cr_sum hc) (cr_sumT hc)
  | .sorted => fun _ _ _ _ _ _ _ _ _ h => h.elim
  | .max => call_max2 hc
  | .min => call_min2 hc
end
section
variable {K : FR} {m : List Addr} {S : Store} {H : Hp} {Qd : DK} {Q : VK} {x y : D} {xv yv : V} {ds : List D} {vs : List V}
theorem rds1 {x : D} (h : RDs K m H [x] vs) : ∃ v, vs = [v] ∧ RD K m H x v := by
  cases h with
  | cons a b => cases b; exact ⟨_, rfl, a⟩
theorem rds2 {x y : D} (h : RDs K m H [x, y] vs) : ∃ v u, vs = [v, u] ∧ RD K m H x v ∧ RD K m H y u := by
  cases h with
  | cons a b =>
    obtain ⟨u, rfl, r⟩ := rds1 b
    exact ⟨_, _, rfl, a, r⟩
theorem bi_r (b : Bi) (r : Rel K m S H) (rs : RDs K m H ds vs) (h : wpBi b ds S Qd) (q : Imp K m H Qd Q) : rBi K b vs H Q := by
  cases b with
  | len =>
    obtain ⟨x, l, rfl, e, h⟩ := h
    obtain ⟨v, rfl, rx⟩ := rds1 rs
    obtain ⟨a, ws, rfl, hs, rl⟩ := rx.its r e
    refine ⟨_, l.length, rfl, ?_, q.here r h (.int _)⟩
    rcases hs with hs | hs
    · exact .inl ⟨ws, hs, rl.length⟩
    · exact .inr ⟨ws, hs, rl.length⟩
  | int =>
    rcases h with ⟨i, rfl, h⟩ | ⟨k, rfl, h⟩
    · obtain ⟨v, rfl, rx⟩ := rds1 rs
      cases rx
      exact .inl ⟨i, rfl, q.here r h (.int _)⟩
    · obtain ⟨v, rfl, rx⟩ := rds1 rs
      cases rx
      exact .inr ⟨k, rfl, q.here r h (.int _)⟩
  | abs =>
    obtain ⟨i, rfl, h⟩ := h
    obtain ⟨v, rfl, rx⟩ := rds1 rs
    cases rx
    exact ⟨i, rfl, q.here r h (.int _)⟩
  | tuple =>
    obtain ⟨x, l, rfl, e, h⟩ := h
    obtain ⟨v, rfl, rx⟩ := rds1 rs
    cases rx with
    | tup hs rl => cases e; exact ⟨_, _, rfl, .inr ⟨hs, q.here r h (.tup hs rl)⟩⟩
    | ref hn =>
      obtain ⟨ws, hs, rl⟩ := r.its e hn
      exact ⟨_, ws, rfl, .inl ⟨hs, q.newT r rl h⟩⟩
    | cl hs rl => cases e; exact ⟨_, _, rfl, .inl ⟨hs.sq, q.newT r rl h⟩⟩
    | _ => cases e
  | list =>
    obtain ⟨x, l, rfl, e, h⟩ := h
    obtain ⟨v, rfl, rx⟩ := rds1 rs
    obtain ⟨a, ws, rfl, hs, rl⟩ := rx.its r e
    exact ⟨a, ws, rfl, hs, q.newL r rl h⟩
  | sum =>
    obtain ⟨x, l, ns, rfl, e, ei, h⟩ := h
    obtain ⟨v, rfl, rx⟩ := rds1 rs
    obtain ⟨a, ws, rfl, hs, rl⟩ := rx.its r e
    have ew := ints_of rl ei
    subst ew
    rcases hs with hs | hs
    · exact .inl ⟨a, ns, rfl, hs, q.here r h (.int _)⟩
    · exact .inr ⟨a, ns, rfl, hs, q.here r h (.int _)⟩
  | sorted => exact h.elim
  | max =>
    obtain ⟨i, j, rfl, h⟩ := h
    obtain ⟨v, u, rfl, rx, ry⟩ := rds2 rs
    cases rx; cases ry
    exact ⟨i, j, rfl, q.here r h (.int _)⟩
  | min =>
    obtain ⟨i, j, rfl, h⟩ := h
    obtain ⟨v, u, rfl, rx, ry⟩ := rds2 rs
    cases rx; cases ry
    exact ⟨i, j, rfl, q.here r h (.int _)⟩

/-! ### items, slices -/
theorem RDs.atI {l : List D} {ws : List V} {i : Int} {d : D} (rl : RDs K m H l ws) (e : L2.atI l i = some d) : ∃ v, L2.atI ws i = some v ∧ RD K m H d v := by
  unfold L2.atI at e ⊢
  rw [← rl.length]
  cases q : ixN l.length i with
  | none => rw [q] at e; cases e
  | some j => rw [q] at e; exact rl.get e
theorem idx_r (r : Rel K m S H) (rx : RD K m H x xv) {l : List D} {i : Int} {d : D} (e : items S x = some l) (ei : ixAt l i = some d) (h : Qd d S) (q : Imp K m H Qd Q) : rIx K xv (.int i) H Q := by
  obtain ⟨a, ws, rfl, hs, rl⟩ := rx.its r e
  obtain ⟨v, ev, rv⟩ := rl.atI ei
  rcases hs with hs | hs
  · exact .inl ⟨a, ws, i, v, rfl, rfl, hs, ev, q.here r h rv⟩
  · exact .inr (.inl ⟨a, ws, i, v, rfl, rfl, hs, ev, q.here r h rv⟩)
theorem RDs.cut {l : List D} {ws : List V} {lo hi : Option Int} (rl : RDs K m H l ws) : RDs K m H (Ev.cut l lo hi) (cutV ws lo hi) := by
  unfold Ev.cut cutV
  rw [rl.length]
  exact (rl.drop _).take _
def rSl (K : FR) : V → Option Int → Option Int → Hp → VK → Prop := fun x lo hi H Q => rSlA K x lo hi H Q ∨ rSlL K x lo hi H Q
theorem slc_r (r : Rel K m S H) (rx : RD K m H x xv) {lo hi : Option Int} (h : wpSlc x lo hi S Qd) (q : Imp K m H Qd Q) : rSl K xv lo hi H Q := by
  cases rx with
  | tup hs rl =>
    rename_i l a ws
    have h : Qd (.tup (cut l lo hi)) S := h
    refine .inl ⟨_, _, rfl, hs, fun hw => ?_, fun _ => q.newT r rl.cut h⟩
    refine q.here r h (.tup hs ?_)
    have e : cutV ws lo hi = ws := by
      unfold cutV
      rw [hw.1, hw.2]
      simp
    have z := rl.cut (lo := lo) (hi := hi)
    rw [e] at z
    exact z
  | ref hn =>
    obtain ⟨l, e, h⟩ := h
    obtain ⟨ws, hs, rl⟩ := r.its e hn
    exact .inr ⟨_, ws, rfl, hs, q.newL r rl.cut h⟩
  | cl hs rl => exact .inr ⟨_, _, rfl, hs.sq, q.newL r rl.cut h⟩
  | _ => exact (show False from h).elim

/-! ### isinstance -/
def tyName : Ty → String
  | .int => "int"
  | .bool => "bool"
  | .tuple => "tuple"
  | .str => "str"
theorem ty_r (r : Rel K m S H) (rx : RD K m H x xv) (t : Ty) {b : Bool} (h : isTy t x = some b) : ∃ ty, TyX K H xv ty ∧ PySem.W.kitOne K ty (.type (tyName t)) = some b := by
  cases rx with
  | non => exact ⟨_, .base .non, by cases h; cases t <;> exact kit_ty (by decide +kernel)⟩
  | bl k => exact ⟨_, .base (.bl k), by cases h; cases t <;> exact kit_ty (by decide +kernel)⟩
  | int i => exact ⟨_, .base (.int i), by cases h; cases t <;> exact kit_ty (by decide +kernel)⟩
  | str z => exact ⟨_, .base (.str z), by cases h; cases t <;> exact kit_ty (by decide +kernel)⟩
  | @tup _ a _ hs rl =>
    have ty : TyX K H (.ref a) (.type "tuple") := by
      rcases hs with (hs | ⟨o, hs⟩) | ⟨o, its, n, hk, hc, _⟩
      · exact .base (.tup hs)
      · exact .fTuple hs
      · exact .kTuple hk hc
    exact ⟨_, ty, by cases h; cases t <;> exact kit_ty (by decide +kernel)⟩
  | @ref _ a hn =>
    obtain ⟨ws, q⟩ := r.mem (List.mem_of_getElem? hn)
    exact ⟨_, .base (.lst q), by cases h; cases t <;> exact kit_ty (by decide +kernel)⟩
  | @cl _ a _ hs rl =>
    have ty : TyX K H (.ref a) (.type "list") := by
      rcases hs with ⟨o, hs⟩ | ⟨o, its, n, hk, hc, _⟩
      · exact .base (.frz hs)
      · exact .kList hk hc
    exact ⟨_, ty, by cases h; cases t <;> exact kit_ty (by decide +kernel)⟩
/-! ### methods of lists -/
theorem Imp.set (q : Imp K m H Qd Q) (r : Rel K m S H) {n : Nat} {a : Addr} {l : List D} {ws : List V} {d : D} {v : V} (hn : m[n]? = some a) (rl : RDs K m H l ws) (rd : RD K m H d v) (h : Qd d (S.set n (.lst l))) : Q v (upd H a (.lst ws)) :=
  q _ _ _ _ _ h (r.upd hn rl) (.upd (List.mem_of_getElem? hn)) (rd.mono (.upd (List.mem_of_getElem? hn)) r)
theorem RDs.dropLast {l : List D} {ws : List V} (rl : RDs K m H l ws) : RDs K m H l.dropLast ws.dropLast := by
  rw [List.dropLast_eq_take, List.dropLast_eq_take, rl.length]
  exact rl.take _
def meName : Me → Str
  | .append => "append"
  | .pop => "pop"
  | .index => "index"
def rMe (K : FR) : Me → V → List V → Hp → VK → Prop
  | .append => rAppend
  | .pop => fun x vs H Q => rPop x vs H Q ∨ rPopAt x vs H Q
  | .index => fun _ _ _ _ => False
theorem me_r (me : Me) (r : Rel K m S H) (rx : RD K m H x xv) (rs : RDs K m H ds vs) (h : wpMe me x ds S Qd) (q : Imp K m H Qd Q) : rMe K me xv vs H Q := by
  cases me with
  | append =>
    obtain ⟨n, l, y, rfl, rfl, e, hz, h⟩ := h
    cases rx with
    | ref hn =>
      obtain ⟨v, rfl, ry⟩ := rds1 rs
      obtain ⟨ws, hw, rl⟩ := r.lst e hn
      exact ⟨_, ws, v, rfl, rfl, hw, by rw [← rl.length]; exact hz, q.set r hn (rl.app (.cons ry .nil)) .non h⟩
  | pop =>
    rcases h with ⟨n, l, y, rfl, rfl, e, ey, h⟩ | ⟨n, l, i, y, rfl, rfl, e, hi, ey, h⟩
    · cases rx with
      | ref hn =>
        cases rs
        obtain ⟨ws, hw, rl⟩ := r.lst e hn
        obtain ⟨v, ev, rv⟩ := rl.get ey
        exact .inl ⟨_, ws, v, rfl, rfl, hw, by rw [← rl.length]; exact ev, q.set r hn rl.dropLast rv h⟩
    · cases rx with
      | ref hn =>
        obtain ⟨v, rfl, ry⟩ := rds1 rs
        cases ry
        obtain ⟨ws, hw, rl⟩ := r.lst e hn
        obtain ⟨u, ev, rv⟩ := rl.get ey
        have hlt : i < ws.length := (List.getElem?_eq_some_iff.mp ev).1
        exact .inr ⟨_, ws, i, i, u, rfl, rfl, hw, by omega, hi, by
          have z := PySem.StrLaws.seqIndex_nonneg (i := (i : Int)) (n := ws.length) (by omega) (by omega)
          rw [z]; rfl, ev, q.set r hn (rl.erase i) rv h⟩
  | index => exact (show False from h).elim
end
end Ev
set_option Elab.async false
set_option linter.all false
set_option maxRecDepth 100000
set_option maxHeartbeats 4000000
namespace Ev
open PySem PySem.Spec PyProof.Rows L2

/-! ## which syntax a term of the small language stands for -/
structure FnI where
  name : Str
  ps : List Str
  kws : List (Nat × List Str × List Nat) := []
structure Cxt where
  N : List Str
  sc : Scope
  fnc : Str → Bool
  T : List FnI
def Cxt.kind (c : Cxt) (x : Str) : Option NameKind := c.sc.names.lookup x
def seen : Option NameKind → Bool
  | some .local => true
  | some .cell => true
  | some .free => true
  | _ => false
def Cxt.vis (c : Cxt) (i : Nat) (x : Str) : Bool := decide (c.N[i]? = some x) && (seen (c.kind x) && (!(x == ("__debug__" : Str)) && !(x == ("__classdict__" : Str))))
def Cxt.loc (c : Cxt) (i : Nat) (x : Str) : Bool := decide (c.N[i]? = some x) && (match c.kind x with
  | some .local => true
  | some .cell => c.fnc x
  | _ => false)
def Cxt.glb (c : Cxt) (x : Str) : Bool := (match c.kind x with
  | some .globalImplicit => true
  | _ => false) && !(x == ("__debug__" : Str))
def cstIs : Cst → Const → Bool
  | .non, .none => true
  | .bl a, .bool b => a == b
  | .int a, .int b => a == b
  | .str a, .str b => decide (a = b)
  | _, _ => false
def ofOp : Operator → Option Bop
  | .Add => some .add
  | .Sub => some .sub
  | .Mult => some .mul
  | .FloorDiv => some .fdiv
  | .Mod => some .mod
  | .Pow => some .pow
  | _ => none
def ofCop : CmpOp → Cop
  | .Eq => .eq
  | .NotEq => .ne
  | .Lt => .lt
  | .LtE => .le
  | .Gt => .gt
  | .GtE => .ge
  | .Is => .is
  | .IsNot => .isnot
  | .In => .inn
  | .NotIn => .notin
def bopEq : Bop → Bop → Bool
  | .add, .add => true
  | .sub, .sub => true
  | .mul, .mul => true
  | .fdiv, .fdiv => true
  | .mod, .mod => true
  | .pow, .pow => true
  | _, _ => false
def opIs (o : Operator) (op : Bop) : Bool := (match ofOp o with
  | some q => bopEq q op
  | none => false)
def copIs (o : CmpOp) (op : Cop) : Bool := (match op, o with
  | .eq, .Eq => true
  | .ne, .NotEq => true
  | .lt, .Lt => true
  | .le, .LtE => true
  | .gt, .Gt => true
  | .ge, .GtE => true
  | .is, .Is => true
  | .isnot, .IsNot => true
  | .inn, .In => true
  | .notin, .NotIn => true
  | _, _ => false)
def notSlice : Expr → Bool
  | .Slice .. => false
  | _ => true
def kwNames (kws : List Keyword) : List (Option Str) := kws.map (·.arg)
def permOk (ps : List Str) (n : Nat) (ks : List Str) (perm : List Nat) : Bool := decide ((perm.filterMap fun i => (ps.take n ++ ks)[i]?) = ps)
def Cxt.blk (c : Cxt) (scope : Scope) : Cxt := { c with sc := relS scope c.sc, fnc := fun x => scope.names.lookup x == some .cell }
mutual
def slotsG : G → List Nat
  | .name i => [i]
  | .tup gs => slotsGs gs
  | .sub _ _ => []
def slotsGs : Gs → List Nat
  | .nil => []
  | .cons g gs => slotsG g ++ slotsGs gs
end
def ownOf (N : List Str) (own : List Nat) : List (Str × Nat) := own.filterMap fun i => (N[i]?).map fun x => (x, i)
def lenEs : Es → Nat
  | .nil => 0
  | .cons _ r => lenEs r + 1
def Me.zero : Me → Bool
  | .pop => true
  | _ => false
def notCall0 : Expr → Bool
  | .Call (.Name _ _) [] [] _ => false
  | _ => true
/-- the test of any kind: its value's truth -/
def plainTest : Expr → Bool
  | .UnaryOp .Not _ _ => false
  | .BoolOp .. => false
  | .IfExp .. => false
  | .Compare .. => false
  | _ => true
mutual
def mE : E → Cxt → Expr → Bool
  | .var i, c, a => (match a with
    | .Name x _ => c.vis i x
    | _ => false)
  | .cst k, _, a => (match a with
    | .Constant v _ _ => cstIs k v
    | _ => false)
  | .bin op x y, c, a => (match a with
    | .BinOp p o q _ => opIs o op && (mE x c p && mE y c q)
    | _ => false)
  | .neg x, c, a => (match a with
    | .UnaryOp .USub p _ => mE x c p
    | _ => false)
  | .cmp op x y, c, a => (match a with
    | .Compare p [o] [q] _ => copIs o op && (!behindInMarks o q && (mE x c p && mE y c q))
    | _ => false)
  | .chain o1 o2 x y z, c, a => (match a with
    | .Compare p [k1, k2] [q, r] _ => copIs k1 o1 && (copIs k2 o2 && (!lastMarks [k1, k2] [q, r] && (mE x c p && (mE y c q && mE z c r))))
    | _ => false)
  | .and x y, c, a => (match a with
    | .BoolOp .And (p :: q :: r) pos => mE x c p && (match r with
      | [] => mE y c q
      | r0 :: rs => mE y c (.BoolOp .And (q :: r0 :: rs) pos))
    | _ => false)
  | .or x y, c, a => (match a with
    | .BoolOp .Or (p :: q :: r) pos => mE x c p && (match r with
      | [] => mE y c q
      | r0 :: rs => mE y c (.BoolOp .Or (q :: r0 :: rs) pos))
    | _ => false)
  | .not x, c, a => (match a with
    | .UnaryOp .Not p _ => mE x c p
    | _ => false)
  | .ite t x y, c, a => (match a with
    | .IfExp p q r _ => mE t c p && (mE x c q && mE y c r)
    | _ => false)
  | .tup es, c, a => (match a with
    | .Tuple l _ _ => decide (lenEs es < 1000) && mEs es c l
    | _ => false)
  | .lst es, c, a => (match a with
    | .List l _ => decide (lenEs es < 1000) && mEs es c l
    | _ => false)
  | .idx x y, c, a => (match a with
    | .Subscript p q _ => notSlice q && (mE x c p && mE y c q)
    | _ => false)
  | .slc x lo hi, c, a => (match a with
    | .Subscript p (.Slice l h none _) _ => mE x c p && (mEo lo c l && mEo hi c h)
    | _ => false)
  | .call f es, c, a => (match a with
    | .Call (.Name x _) l [] _ => c.glb x && ((match c.T[f]? with
      | some i => decide (i.name = x) && decide (i.ps.length = lenEs es)
      | none => false) && mEs es c l)
    | _ => false)
  | .callK f es ks zs perm, c, a => (match a with
    | .Call (.Name x _) l kws _ => c.glb x && ((match c.T[f]? with
      | some i => decide (i.name = x) && (decide ((lenEs es, ks, perm) ∈ i.kws) && decide (i.ps.length = perm.length ∧ lenEs zs = ks.length ∧ ∀ j ∈ perm, j < lenEs es + lenEs zs))
      | none => false) && (decide (kwNames kws = ks.map some) && (mEs es c l && mKs zs c kws)))
    | _ => false)
  | .bi b es, c, a => (match a with
    | .Call (.Name x _) (p :: l) [] _ => c.glb x && (decide (x = biName b) && mEs es c (p :: l))
    | _ => false)
  | .isi x t, c, a => (match a with
    | .Call (.Name f _) [p, .Name ty _] [] _ => c.glb f && (decide (f = ("isinstance" : Str)) && (c.glb ty && (decide (ty = Str.ofString (tyName t)) && mE x c p)))
    | _ => false)
  | .meth me o es, c, a => (match a with
    | .Call (.Attribute p x ap) l [] cp => decide (x = meName me) && (decide (l.length < 29 ∧ (l.isEmpty = true → me.zero = true)) && ((ap.endLine == cp.line) && (notCall0 p && (mE o c p && mEs es c l))))
    | _ => false)
  | .lc elt g it cs own, c, a => (match a with
    | .ListComp e [⟨tg, iter, ifs, 0⟩] scope _ => blkC c.N c.sc scope (ownOf c.N own) && (decide ((ownOf c.N own).map (·.2) = own) && (decide (∀ i ∈ slotsG g, i ∈ own) && (mI it c iter && (mG g (c.blk scope) tg && (mTs cs (c.blk scope) ifs && mE elt (c.blk scope) e)))))
    | _ => false)
def mEs : Es → Cxt → List Expr → Bool
  | .nil, _, l => (match l with
    | [] => true
    | _ => false)
  | .cons e r, c, l => (match l with
    | p :: ps => mE e c p && mEs r c ps
    | _ => false)
/-- no test, or one -/
def mTs : Es → Cxt → List Expr → Bool
  | .nil, _, l => (match l with
    | [] => true
    | _ => false)
  | .cons e _, c, l => (match l with
    | [p] => mE e c p
    | _ => false)
def mKs : Es → Cxt → List Keyword → Bool
  | .nil, _, l => (match l with
    | [] => true
    | _ => false)
  | .cons e r, c, l => (match l with
    | ⟨_, p, _⟩ :: ps => mE e c p && mKs r c ps
    | _ => false)
def mEo : Eo → Cxt → Option Expr → Bool
  | .none, _, l => (match l with
    | none => true
    | _ => false)
  | .some e, c, l => (match l with
    | some p => mE e c p
    | _ => false)
def mG : G → Cxt → Expr → Bool
  | .name i, c, a => (match a with
    | .Name x _ => c.loc i x
    | _ => false)
  | .tup gs, c, a => (match a with
    | .Tuple l _ _ => mGs gs c l
    | _ => false)
  | .sub o i, c, a => (match a with
    | .Subscript p q _ => notSlice q && (mE o c p && mE i c q)
    | _ => false)
def mGs : Gs → Cxt → List Expr → Bool
  | .nil, _, l => (match l with
    | [] => true
    | _ => false)
  | .cons g r, c, l => (match l with
    | p :: ps => mG g c p && mGs r c ps
    | _ => false)
def mI : It → Cxt → Expr → Bool
  | .val e, c, a => (match a with
    | .Set .. => false
    | _ => mE e c a)
  | .rng1 x, c, a => (match a with
    | .Call (.Name f _) [p] [] _ => c.glb f && (decide (f = ("range" : Str)) && mE x c p)
    | _ => false)
  | .rng2 x y, c, a => (match a with
    | .Call (.Name f _) [p, q] [] _ => c.glb f && (decide (f = ("range" : Str)) && (mE x c p && mE y c q))
    | _ => false)
end
/-- the value's comprehension is stored by a swap -/
def swapC (c : Cxt) (i : Nat) (a : Expr) (v : Expr) : Option Bool := (match a, v with
  | .Name y py, .ListComp _ _ scope pos => (match c.kind y with
    | some .local => if py.line == pos.line && !(scope.names.any fun (n, k) => n == y && (k == .local || k == .cell)) then some true else none
    | _ => none)
  | _, .ListComp .. => none
  | _, .SetComp .. => none
  | _, .DictComp .. => none
  | _, _ => some false)
def notComp : Expr → Bool
  | .ListComp .. => false
  | .SetComp .. => false
  | .DictComp .. => false
  | _ => true
def notTup : Expr → Bool
  | .Tuple .. => false
  | .List .. => false
  | _ => true
def isStarE : Expr → Bool
  | .Starred .. => true
  | _ => false
def parVals (vs : List Expr) : Bool := !(vs.any isStarE) && (!(vs.all (foldedForSure 8)) && !(vs.all (constantsAlone 8)))
def parOk (c : Cxt) (ts vs : List Expr) : Bool := (match ts, vs with
  | [.Name x px, .Name y py], [a, b] => decide (c.kind x = some .local) && (decide (c.kind y = some .local) && ((py.line == px.line) && (!(y == x) && parVals [a, b])))
  | [.Name x px, .Name y py, .Name z pz], [a, b, d] => decide (c.kind x = some .local) && (decide (c.kind y = some .local) && (decide (c.kind z = some .local) && ((py.line == px.line) && ((pz.line == px.line) && (!(y == x) && (!(z == x) && (!(z == y) && parVals [a, b, d])))))))
  | _, _ => false)
/-- a, b = x, y with plain locals: stored from the right -/
def asgPar (c : Cxt) (p q : Expr) : Bool := (match p, q with
  | .Tuple ts _ _, .Tuple vs _ _ => parOk c ts vs
  | _, _ => false)
/-- name = [..] on one line of a plain local; else no comprehension, and not both sides displays -/
def asgOk1 (c : Cxt) (p q : Expr) : Bool := (notComp q && (notTup p || notTup q)) || (match p, q with
  | .Name y py, .ListComp _ _ scope pos => decide (c.kind y = some .local) && ((py.line == pos.line) && !(scope.names.any fun (n, k) => n == y && (k == .local || k == .cell)))
  | _, _ => false)
def asgOk (c : Cxt) (p q : Expr) : Bool := asgOk1 c p q || asgPar c p q
def notPow : Bop → Bool
  | .pow => false
  | _ => true
mutual
def mS : Sm → Cxt → Stmt → Bool
  | .expr e, c, a => (match a with
    | .Expr p _ => notComp p && mE e c p
    | _ => false)
  | .ret e, c, a => (match a with
    | .Return (some p) _ => mE e c p
    | _ => false)
  | .retN, _, a => (match a with
    | .Return none _ => true
    | _ => false)
  | .ifs t x y, c, a => (match a with
    | .If p q r _ => mE t c p && (mB x c q && mB y c r)
    | _ => false)
  | .whl t x, c, a => (match a with
    | .While p q [] _ => mE t c p && mB x c q
    | _ => false)
  | .fors g it x, c, a => (match a with
    | .For p q r [] _ => mG g c p && (mI it c q && mB x c r)
    | _ => false)
  | .asg g e, c, a => (match a with
    | .Assign [p] q _ => mG g c p && (mE e c q && asgOk c p q)
    | _ => false)
  | .aug i op e, c, a => (match a with
    | .AugAssign (.Name x _) o q _ => c.loc i x && (opIs o op && (notPow op && mE e c q))
    | _ => false)
  | .augS o i op e, c, a => (match a with
    | .AugAssign (.Subscript p q _) k r _ => notSlice q && (mE o c p && (mE i c q && (opIs k op && (notPow op && mE e c r))))
    | _ => false)
  | .pass, _, a => (match a with
    | .Pass _ => true
    | _ => false)
  | .brk, _, a => (match a with
    | .Break _ => true
    | _ => false)
  | .cont, _, a => (match a with
    | .Continue _ => true
    | _ => false)
def mB : Bs → Cxt → List Stmt → Bool
  | .nil, _, l => (match l with
    | [] => true
    | _ => false)
  | .cons s r, c, l => (match l with
    | p :: ps => mS s c p && mB r c ps
    | _ => false)
end
end Ev
set_option Elab.async false
set_option linter.all false
set_option maxRecDepth 100000
set_option maxHeartbeats 4000000
namespace Ev
open PySem PySem.Spec PyProof.Rows L2

/-! ## readings from the small language -/
structure Cur (K : FR) (m0 : List Addr) (H0 : Hp) (m : List Addr) (r : Rho) (S : Store) (σ : L2.St) (H : Hp) : Prop where
  rel : Rel K m S H
  ext : Ext m0 H0 m H
  len : r.length = σ.length
  loc : ∀ (i : Nat) (d : D), r[i]? = some (some d) → ∃ v, σ[i]? = some (some v) ∧ RD K m H d v
section
variable {K : FR} {m0 m m' m2 : List Addr} {H0 H H' H2 : Hp} {r : Rho} {S S' : Store} {σ : L2.St}
theorem Cur.move (c : Cur K m0 H0 m r S σ H) (q : Rel K m' S' H') (x : Ext m H m' H') : Cur K m0 H0 m' r S' σ H' :=
  ⟨q, c.ext.trans x, c.len, fun i d e => let ⟨v, e1, e2⟩ := c.loc i d e; ⟨v, e1, e2.mono x c.rel⟩⟩
theorem Cur.set (c : Cur K m0 H0 m r S σ H) {d : D} {v : V} (rd : RD K m H d v) (i : Nat) : Cur K m0 H0 m (r.set i (some d)) S (σ.set i (some v)) H := by
  refine ⟨c.rel, c.ext, by simp [c.len], fun j e h => ?_⟩
  by_cases hj : i = j
  · subst hj
    have hl : i < r.length := by
      have := (List.getElem?_eq_some_iff.mp h).1
      simpa using this
    rw [List.getElem?_set_self hl] at h
    cases h
    exact ⟨v, List.getElem?_set_self (by rw [← c.len]; exact hl), rd⟩
  · rw [List.getElem?_set_ne hj] at h
    obtain ⟨u, e1, e2⟩ := c.loc j e h
    exact ⟨u, by rw [List.getElem?_set_ne hj]; exact e1, e2⟩
theorem wipeD_length (r : Rho) : ∀ vs : List Nat, (wipeD r vs).length = r.length
  | [] => rfl
  | v :: vs => by unfold wipeD; rw [List.length_set, wipeD_length r vs]
theorem wipeD_get {r : Rho} {i : Nat} {d : D} : ∀ {vs : List Nat}, (wipeD r vs)[i]? = some (some d) → r[i]? = some (some d) ∧ i ∉ vs
  | [], h => ⟨h, by simp⟩
  | v :: vs, h => by
    unfold wipeD at h
    by_cases hi : v = i
    · subst hi
      by_cases hv : v < (wipeD r vs).length
      · rw [List.getElem?_set_self hv] at h; cases h
      · rw [List.getElem?_eq_none (by simpa using hv)] at h; cases h
    · rw [List.getElem?_set_ne hi] at h
      obtain ⟨h1, h2⟩ := wipeD_get h
      exact ⟨h1, by simp only [List.mem_cons, not_or]; exact ⟨fun e => hi e.symm, h2⟩⟩
theorem Cur.wipe (c : Cur K m0 H0 m r S σ H) (vs : List Nat) : Cur K m0 H0 m (wipeD r vs) S (L2.wipe σ vs) H := by
  refine ⟨c.rel, c.ext, by rw [wipeD_length, wipe_length]; exact c.len, fun i d h => ?_⟩
  obtain ⟨h1, h2⟩ := wipeD_get h
  obtain ⟨v, e1, e2⟩ := c.loc i d h1
  exact ⟨v, by rw [wipe_out h2]; exact e1, e2⟩
end
section
variable (K : FR) (m0 : List Addr) (H0 : Hp)
def TrE (w : Rho → Store → DK → Prop) : TE := fun σ H Q => ∃ m r S Qd, Cur K m0 H0 m r S σ H ∧ w r S Qd ∧ Imp K m H Qd Q
def TrT (w : Rho → Store → (Bool → Store → Prop) → Prop) : TT := fun σ H Q => ∃ m r S Qd, Cur K m0 H0 m r S σ H ∧ w r S Qd ∧ ∀ b S' m' H', Qd b S' → Rel K m' S' H' → Ext m H m' H' → Q b H'
def TrA (n : Nat) (w : Rho → Store → (List D → Store → Prop) → Prop) : TA := fun σ H Q => ∃ m r S Qd, Cur K m0 H0 m r S σ H ∧ w r S Qd ∧ ∀ ds S' vs m' H', Qd ds S' → Rel K m' S' H' → Ext m H m' H' → RDs K m' H' ds vs → ds.length = n → Q vs H'
def TrO (w : Rho → Store → (Option Int → Store → Prop) → Prop) : TO := fun σ H Q => ∃ m r S Qd, Cur K m0 H0 m r S σ H ∧ w r S Qd ∧ ∀ o S' m' H', Qd o S' → Rel K m' S' H' → Ext m H m' H' → Q o H'
def TrG (sl : List Nat) (w : D → Rho → Store → (Rho → Store → Prop) → Prop) : TG := fun v σ H Q => ∃ m r S d Qd, Cur K m0 H0 m r S σ H ∧ RD K m H d v ∧ w d r S Qd ∧
  ∀ r' S' σ' m' H', Qd r' S' → Cur K m0 H0 m' r' S' σ' H' → Ext m H m' H' → (∀ vs : List Nat, (∀ i ∈ sl, i ∈ vs) → wipe σ' vs = wipe σ vs ∧ wipeD r' vs = wipeD r vs) → Q σ' H'
def TrGs (sl : List Nat) (w : List D → Rho → Store → (Rho → Store → Prop) → Prop) : TGs := fun v σ H Q => ∃ m r S d Qd, Cur K m0 H0 m r S σ H ∧ RDs K m H d v ∧ w d r S Qd ∧
  ∀ r' S' σ' m' H', Qd r' S' → Cur K m0 H0 m' r' S' σ' H' → Ext m H m' H' → (∀ vs : List Nat, (∀ i ∈ sl, i ∈ vs) → wipe σ' vs = wipe σ vs ∧ wipeD r' vs = wipeD r vs) → Q σ' H'
/-- J walks the items of src, as they were at (m1, H1) -/
structure Walk (src : Src) (J : L2.It) (m1 : List Addr) (H1 : Hp) : Prop where
  go : ∀ i m S H, Rel K m S H → Ext m1 H1 m H → src.stay S → i < src.its.length → J.go i H
  yld : ∀ i m S H x H', Rel K m S H → Ext m1 H1 m H → src.stay S → J.yld i H x H' → i < src.its.length → ∃ d, src.its[i]? = some d ∧ Rel K m S H' ∧ Ext m H m H' ∧ RD K m H' d x
  stop : ∀ i m S H, Rel K m S H → Ext m1 H1 m H → src.stay S → src.its.length ≤ i → J.stop i H
def TrI (w : Rho → Store → (Src → Store → Prop) → Prop) : TI := fun σ H R => ∃ m r S Qd, Cur K m0 H0 m r S σ H ∧ w r S Qd ∧ ∀ src S' m' H' J, Qd src S' → Rel K m' S' H' → Ext m H m' H' → Walk K src J m' H' → R J H'
def TrS (w : Dn → Rho → Store → Prop) : TS := fun De σ H => ∃ m r S N, Cur K m0 H0 m r S σ H ∧ w N r S ∧
  (∀ r' S' σ' m' H', N.nx r' S' → Cur K m0 H0 m' r' S' σ' H' → Ext m H m' H' → De.nx σ' H') ∧
  (∀ d S' v m' H', N.rt d S' → Rel K m' S' H' → Ext m H m' H' → RD K m' H' d v → De.rt v H') ∧
  (∀ r' S' σ' m' H', N.bk r' S' → Cur K m0 H0 m' r' S' σ' H' → Ext m H m' H' → De.bk σ' H') ∧
  (∀ r' S' σ' m' H', N.ct r' S' → Cur K m0 H0 m' r' S' σ' H' → Ext m H m' H' → De.ct σ' H')
end
/-- what the f-th def promises, told by C -/
def spD (K : FR) (C : List D → Store → DK → Prop) (n : Nat) : Sp := fun vs H Q _ => ∃ m S ds Qd, Rel K m S H ∧ RDs K m H ds vs ∧ ds.length = n ∧ C ds S Qd ∧ Imp K m H Qd Q
structure TabOk (P : Program) (w : World) (K : FR) (mg : Str → Option Value) (base : Heap) (k : Nat) (C : CallH) (T : List FnI) : Prop where
  fns : ∀ f i, T[f]? = some i → ∃ a fd, mg i.name = some (.ref a) ∧ PySem.W.keepIn K (.ref a) = true ∧ Binds K fd i.ps [] ∧
    (∀ n ks perm, (n, ks, perm) ∈ i.kws → KBn K fd i.ps n ks (fun us ws => perm.filterMap fun j => (us ++ ws)[j]?) (fun vs zs => perm.filterMap fun j => (vs ++ zs)[j]?)) ∧
    FnOk P w K mg base CX0 k a fd i.ps (spD K (C f) i.ps.length)
  bis : ∀ b, mg (biName b) = none
  others : mg "isinstance" = none ∧ mg "range" = none ∧ ∀ t, mg (Str.ofString (tyName t)) = none
structure Good (X : Cx) (c : Cxt) (C : CallH) (k : Nat) : Prop where
  N : X.N = c.N
  nd : c.N.Nodup
  sc : X.env.scope = c.sc
  fn : ∀ x, c.fnc x = true → X.fn x = true
  calm : X.calm = true
  room : Room k X.A
  own : PassesOwn (model X.prog X.w) X.A X.env X.xe
  tab : TabOk X.prog X.w X.K X.mg X.base k C c.T

/-! ### weakening -/
section
variable {X : Cx}
theorem PE.imp {e : Expr} {t t' : TE} (h : PE X e t) (i : ∀ σ H Q, t' σ H Q → t σ H Q) : PE X e t' := ⟨fun p s σ H Q I q => h.run p s σ H Q I (i _ _ _ q)⟩
theorem PT.imp {e : Expr} {t t' : TT} (h : PT X e t) (i : ∀ σ H Q, t' σ H Q → t σ H Q) : PT X e t' := ⟨fun p s σ H Q I q => h.run p s σ H Q I (i _ _ _ q)⟩
theorem PA.imp {e : List Expr} {t t' : TA} (h : PA X e t) (i : ∀ σ H Q, t' σ H Q → t σ H Q) : PA X e t' := ⟨fun o p s σ H Q I q => h.run o p s σ H Q I (i _ _ _ q)⟩
theorem PO.imp {e : Option Expr} {t t' : TO} (h : PO X e t) (i : ∀ σ H Q, t' σ H Q → t σ H Q) : PO X e t' := ⟨fun p s σ H Q I q => h.run p s σ H Q I (i _ _ _ q)⟩
theorem PI.imp {g e : Expr} {t t' : TI} (h : PI X g e t) (i : ∀ σ H Q, t' σ H Q → t σ H Q) : PI X g e t' := ⟨fun p s σ H Q I q => h.run p s σ H Q I (i _ _ _ q)⟩
theorem PK.imp {e : List Keyword} {t t' : TA} (h : PK X e t) (i : ∀ σ H Q, t' σ H Q → t σ H Q) : PK X e t' := ⟨fun o p s σ H Q I q => h.run o p s σ H Q I (i _ _ _ q)⟩
theorem PG.imp {e : Expr} {t t' : TG} (h : PG X e t) (i : ∀ v σ H Q, t' v σ H Q → t v σ H Q) : PG X e t' := ⟨fun p s σ H v u Q I r q => h.run p s σ H v u Q I r (i _ _ _ _ q)⟩
theorem PGs.imp {e : List Expr} {t t' : TGs} (h : PGs X e t) (i : ∀ v σ H Q, t' v σ H Q → t v σ H Q) : PGs X e t' := ⟨fun p s σ H v u Q I r q => h.run p s σ H v u Q I r (i _ _ _ _ q)⟩
theorem PTs.imp {e : List Expr} {t t' : TT} (h : PTs X e t) (i : ∀ σ H Q, t' σ H Q → t σ H Q) : PTs X e t' := ⟨fun p s σ H Q I q => h.run p s σ H Q I (i _ _ _ q)⟩
theorem PS.imp {e : Stmt} {t t' : TS} (h : PS X e t) (i : ∀ D σ H, t' D σ H → t D σ H) : PS X e t' := ⟨fun p s σ H D I q => h.run p s σ H D I (i _ _ _ q)⟩
theorem PSs.imp {e : List Stmt} {t t' : TS} (h : PSs X e t) (i : ∀ D σ H, t' D σ H → t D σ H) : PSs X e t' := ⟨fun p s σ H D I q => h.run p s σ H D I (i _ _ _ q)⟩
end

/-! ### how readings compose -/
section
variable {K : FR} {m0 m : List Addr} {H0 H : Hp} {r : Rho} {S : Store} {σ : L2.St}
/-- run a part: what it hands on -/
theorem TrE.of (c : Cur K m0 H0 m r S σ H) {w : Rho → Store → DK → Prop} {Qd : DK} {Q : VK} (h : w r S Qd)
    (k : ∀ d S' v m' H', Qd d S' → Cur K m0 H0 m' r S' σ H' → Ext m H m' H' → RD K m' H' d v → Q v H') : TrE K m0 H0 w σ H Q :=
  ⟨m, r, S, Qd, c, h, fun d S' v m' H' q rel x rd => k d S' v m' H' q (c.move rel x) x rd⟩
theorem TrT.of (c : Cur K m0 H0 m r S σ H) {w : Rho → Store → (Bool → Store → Prop) → Prop} {Qd : Bool → Store → Prop} {Q : Bool → Hp → Prop} (h : w r S Qd)
    (k : ∀ b S' m' H', Qd b S' → Cur K m0 H0 m' r S' σ H' → Ext m H m' H' → Q b H') : TrT K m0 H0 w σ H Q :=
  ⟨m, r, S, Qd, c, h, fun b S' m' H' q rel x => k b S' m' H' q (c.move rel x) x⟩
theorem TrA.of (c : Cur K m0 H0 m r S σ H) {n : Nat} {w : Rho → Store → (List D → Store → Prop) → Prop} {Qd : List D → Store → Prop} {Q : List V → Hp → Prop} (h : w r S Qd)
    (k : ∀ d S' v m' H', Qd d S' → Cur K m0 H0 m' r S' σ H' → Ext m H m' H' → RDs K m' H' d v → d.length = n → Q v H') : TrA K m0 H0 n w σ H Q :=
  ⟨m, r, S, Qd, c, h, fun d S' v m' H' q rel x rd l => k d S' v m' H' q (c.move rel x) x rd l⟩
theorem TrO.of (c : Cur K m0 H0 m r S σ H) {w : Rho → Store → (Option Int → Store → Prop) → Prop} {Qd : Option Int → Store → Prop} {Q : Option Int → Hp → Prop} (h : w r S Qd)
    (k : ∀ b S' m' H', Qd b S' → Cur K m0 H0 m' r S' σ H' → Ext m H m' H' → Q b H') : TrO K m0 H0 w σ H Q :=
  ⟨m, r, S, Qd, c, h, fun b S' m' H' q rel x => k b S' m' H' q (c.move rel x) x⟩
theorem Imp.back {m' : List Addr} {H' : Hp} {Qd : DK} {Q : VK} (q : Imp K m H Qd Q) (x : Ext m H m' H') : Imp K m' H' Qd Q := fun d S' v m2 H2 h rel y rd => q d S' v m2 H2 h rel (x.trans y) rd
end
end Ev
set_option Elab.async false
set_option linter.all false
set_option maxRecDepth 100000
set_option maxHeartbeats 4000000
namespace Ev
open PySem PySem.Spec PyProof.Rows L2

/-! ## soundness, part by part -/
theorem and2 {a b : Bool} (h : (a && b) = true) : a = true ∧ b = true := by simpa using h
theorem Cxt.glb_ok {X : Cx} {c : Cxt} (hs : X.env.scope = c.sc) {x : Str} (h : c.glb x = true) : Gl X x ∧ (x == ("__debug__" : Str)) = false := by
  obtain ⟨h1, h2⟩ := and2 h
  refine ⟨?_, by simpa using h2⟩
  unfold Gl Env.kindOf
  rw [hs]
  cases q : c.kind x with
  | none => rw [q] at h1; cases h1
  | some k =>
    rw [q] at h1
    cases k <;> first
      | (cases h1; done)
      | exact q
theorem Cxt.vis_ok {X : Cx} {c : Cxt} (hN : X.N = c.N) (hs : X.env.scope = c.sc) {i : Nat} {x : Str} (h : c.vis i x = true) :
    X.N[i]? = some x ∧ Vis X.env.scope x ∧ (x == ("__debug__" : Str)) = false ∧ (x == ("__classdict__" : Str)) = false := by
  obtain ⟨h1, h2⟩ := and2 h
  obtain ⟨h2, h3⟩ := and2 h2
  obtain ⟨h3, h4⟩ := and2 h3
  refine ⟨by rw [hN]; exact of_decide_eq_true h1, ?_, by simpa using h3, by simpa using h4⟩
  rw [hs]
  unfold Vis
  cases q : c.kind x with
  | none => rw [q] at h2; cases h2
  | some k =>
    rw [q] at h2
    cases k <;> first
      | (cases h2; done)
      | exact .inl q
      | exact .inr (.inl q)
      | exact .inr (.inr q)
theorem Cxt.loc_ok {X : Cx} {c : Cxt} (hN : X.N = c.N) (hs : X.env.scope = c.sc) (hf : ∀ x, c.fnc x = true → X.fn x = true) {i : Nat} {x : Str} (h : c.loc i x = true) :
    X.N[i]? = some x ∧ Loc X.env.scope x ∧ (X.fn x = true ∨ X.env.scope.names.lookup x = some .local) := by
  obtain ⟨h1, h2⟩ := and2 h
  refine ⟨by rw [hN]; exact of_decide_eq_true h1, ?_⟩
  rw [hs]
  cases q : c.kind x with
  | none => rw [q] at h2; cases h2
  | some k =>
    rw [q] at h2
    cases k <;> first
      | (cases h2; done)
      | exact ⟨.inl q, .inr q⟩
      | exact ⟨.inr q, .inl (hf x h2)⟩
theorem star_of {e : Expr} {es : List Expr} {env : Env} (h : ∀ v p, e ≠ .Starred v p) : starEach (e :: es) env = (false, eval e env) :: starEach es env := by
  cases e <;> first
    | rfl
    | exact absurd rfl (h _ _)
theorem noStar {es : List Expr} {env : Env} (h : ∀ e ∈ es, ∀ v p, e ≠ .Starred v p) (pos : Pos) : (backTo pos (starEach es env)).any (·.1) = false := by
  induction es with
  | nil => rfl
  | cons e es ih =>
    rw [star_of (h e List.mem_cons_self)]
    show (false || (backTo pos (starEach es env)).any (·.1)) = false
    rw [ih fun e' he => h e' (List.mem_cons_of_mem _ he)]
    rfl
theorem mE_star : ∀ (e : E) {c : Cxt} {a : Expr}, mE e c a = true → ∀ v p, a ≠ .Starred v p := by
  intro e c a h v p z
  subst z
  cases e <;> simp [mE] at h
theorem mEs_star : ∀ (es : Es) {c : Cxt} {l : List Expr}, mEs es c l = true → ∀ e ∈ l, ∀ v p, e ≠ .Starred v p
  | .nil, _, l, h => by
    cases l with
    | nil => intro e he; cases he
    | cons _ _ => simp [mEs] at h
  | .cons e r, c, l, h => by
    cases l with
    | nil => intro e he; cases he
    | cons p ps =>
      obtain ⟨h1, h2⟩ := and2 (show (mE e c p && mEs r c ps) = true from h)
      intro e' he
      rcases List.mem_cons.mp he with z | z
      · rw [z]; exact mE_star e h1
      · exact mEs_star r h2 e' z
theorem mEs_len : ∀ (es : Es) {c : Cxt} {l : List Expr}, mEs es c l = true → l.length = lenEs es
  | .nil, _, l, h => by
    cases l with
    | nil => rfl
    | cons _ _ => simp [mEs] at h
  | .cons e r, c, l, h => by
    cases l with
    | nil => simp [mEs] at h
    | cons p ps =>
      obtain ⟨h1, h2⟩ := and2 (show (mE e c p && mEs r c ps) = true from h)
      show ps.length + 1 = lenEs r + 1
      rw [mEs_len r h2]

section
variable {X : Cx} {c : Cxt} {C : CallH} {k : Nat} {m0 : List Addr} {H0 : Hp}
theorem s_var {i : Nat} {a : Expr} (G : Good X c C k) (h : mE (.var i) c a = true) : PE X a (TrE X.K m0 H0 (wpE C (.var i))) := by
  cases a <;> first
    | (simp [mE] at h; done)
    | skip
  rename_i x pos
  obtain ⟨h1, h2, h3, h4⟩ := c.vis_ok G.N G.sc (show c.vis i x = true from h)
  refine PE.imp (pe_var h1 h2 h3 h4) fun σ H Q ⟨m, r, S, Qd, cu, w, q⟩ => ?_
  obtain ⟨d, e, w⟩ := w
  obtain ⟨v, e1, e2⟩ := cu.loc i d e
  exact ⟨v, e1, q.here cu.rel w e2⟩
theorem s_cst {n : Cst} {a : Expr} (h : mE (.cst n) c a = true) : PE X a (TrE X.K m0 H0 (wpE C (.cst n))) := by
  cases a <;> first
    | (simp [mE] at h; done)
    | skip
  rename_i v j pos
  have h : cstIs n v = true := h
  cases n <;> cases v <;> first
    | (simp [cstIs] at h; done)
    | skip
  · exact PE.imp pe_non fun σ H Q ⟨m, r, S, Qd, cu, w, q⟩ => q.here cu.rel w .non
  · obtain rfl := (show _ = _ by simpa [cstIs] using h)
    exact PE.imp pe_bl fun σ H Q ⟨m, r, S, Qd, cu, w, q⟩ => q.here cu.rel w (.bl _)
  · obtain rfl := (show _ = _ by simpa [cstIs] using h)
    exact PE.imp pe_int fun σ H Q ⟨m, r, S, Qd, cu, w, q⟩ => q.here cu.rel w (.int _)
  · obtain rfl := (show _ = _ by simpa [cstIs] using h)
    exact PE.imp pe_str fun σ H Q ⟨m, r, S, Qd, cu, w, q⟩ => q.here cu.rel w (.str _)
theorem opIs_eq {o : Operator} {op : Bop} (h : opIs o op = true) : o = opOf op := by
  cases o <;> cases op <;> first
    | rfl
    | (simp [opIs, ofOp, bopEq] at h)
theorem copIs_eq {o : CmpOp} {op : Cop} (h : copIs o op = true) : o = copOf op := by
  cases o <;> cases op <;> first
    | rfl
    | (simp [copIs] at h)
/-- two parts, then an operation on the values -/
theorem two {wa wb : Rho → Store → DK → Prop} {wo : D → D → Store → DK → Prop} {ro : R2}
    (ho : ∀ {m S H x y xv yv Qd Q}, Rel X.K m S H → RD X.K m H x xv → RD X.K m H y yv → wo x y S Qd → Imp X.K m H Qd Q → ro xv yv H Q)
    {σ : L2.St} {H : Hp} {Q : VK} (h : TrE X.K m0 H0 (fun r S Q => wa r S fun x S1 => wb r S1 fun y S2 => wo x y S2 Q) σ H Q) : tOp ro (TrE X.K m0 H0 wa) (TrE X.K m0 H0 wb) σ H Q := by
  obtain ⟨m, r, S, Qd, cu, w, q⟩ := h
  refine TrE.of cu w fun x S1 xv m1 H1 w1 cu1 x1 rx => TrE.of cu1 w1 fun y S2 yv m2 H2 w2 cu2 x2 ry => ?_
  exact ho cu2.rel (rx.mono x2 cu1.rel) ry w2 (q.back (x1.trans x2))
theorem s_bin {op : Bop} {x y : E} {p q : Expr} {o : Operator} {pos : Pos} (ho : opIs o op = true) (hx : PE X p (TrE X.K m0 H0 (wpE C x))) (hy : PE X q (TrE X.K m0 H0 (wpE C y))) :
    PE X (.BinOp p o q pos) (TrE X.K m0 H0 (wpE C (.bin op x y))) := by
  rw [opIs_eq ho]
  exact PE.imp (pe_op (op_bin op) hx hy) fun σ H Q h => two (fun r rx ry w q => bin_r op r rx ry w q) h
theorem s_neg {x : E} {p : Expr} {pos : Pos} (hx : PE X p (TrE X.K m0 H0 (wpE C x))) : PE X (.UnaryOp .USub p pos) (TrE X.K m0 H0 (wpE C (.neg x))) := by
  refine PE.imp (pe_un un_neg hx) fun σ H Q ⟨m, r, S, Qd, cu, w, q⟩ => TrE.of cu w fun d S1 v m1 H1 w1 cu1 x1 rx => ?_
  obtain ⟨i, rfl, w1⟩ := w1
  cases rx
  exact ⟨i, rfl, (q.back x1).here cu1.rel w1 (.int _)⟩
theorem hu65 (G : Good X c C k) : X.A.units + 65 < cLine := by have := G.room.un; omega
theorem s_cmp {op : Cop} {x y : E} {p q : Expr} {o : CmpOp} {pos : Pos} (G : Good X c C k) (ho : copIs o op = true) (hm : behindInMarks o q = false) (hx : PE X p (TrE X.K m0 H0 (wpE C x))) (hy : PE X q (TrE X.K m0 H0 (wpE C y))) :
    PE X (.Compare p [o] [q] pos) (TrE X.K m0 H0 (wpE C (.cmp op x y))) := by
  have e := copIs_eq ho
  subst e
  exact PE.imp (pe_cmpR (op_cmp (hu65 G) op) hx hy hm) fun σ H Q h => two (fun r rx ry w q => cmp_r op r rx ry w q) h
theorem TrT.ofE {w : Rho → Store → DK → Prop} {t : TE} {σ : L2.St} {H : Hp} {Q : Bool → Hp → Prop}
    (h : TrT X.K m0 H0 (fun r S Q => w r S fun x S1 => ∃ b, truth S1 x = some b ∧ Q b S1) σ H Q)
    (i : ∀ Q', TrE X.K m0 H0 w σ H Q' → t σ H Q') : t σ H fun x H' => ∃ k, TruV X.K x H' k ∧ Q k H' := by
  obtain ⟨m, r, S, Qd, cu, wr, q⟩ := h
  refine i _ (TrE.of cu wr fun d S1 v m1 H1 w1 cu1 x1 rx => ?_)
  obtain ⟨b, e, w1⟩ := w1
  exact ⟨b, truth_r cu1.rel rx e, q b S1 m1 H1 w1 cu1.rel x1⟩
theorem s_test {e : E} {a : Expr} (h : PE X a (TrE X.K m0 H0 (wpE C e))) (hp : plainTest a = true) (hw : wpT C e = (dfl (wpE C e)).t) :
    PT X a (TrT X.K m0 H0 (wpT C e)) := by
  refine PT.imp (pt_truth h ?_) fun σ H Q ⟨m, r, S, Qd, cu, w, q⟩ => TrT.ofE ⟨m, r, S, Qd, cu, (by rw [hw] at w; exact w), q⟩ fun Q' z => z
  intro whole
  cases a <;> first
    | rfl
    | (rename_i op _ _; cases op <;> first
        | rfl
        | (simp [plainTest] at hp))
    | (simp [plainTest] at hp)
theorem tTest_of {t : TE} {σ : L2.St} {H : Hp} {Q : Bool → Hp → Prop} {w : Rho → Store → DK → Prop} (hb : ∀ r S (Q : Bool → Store → Prop), w r S (fun x S1 => ∃ b, truth S1 x = some b ∧ Q b S1) → w r S fun x S1 => ∃ b, x = .bl b ∧ Q b S1)
    (h : TrT X.K m0 H0 (fun r S Q => w r S fun x S1 => ∃ b, truth S1 x = some b ∧ Q b S1) σ H Q) (i : ∀ Q', TrE X.K m0 H0 w σ H Q' → t σ H Q') : tTest t σ H Q := by
  obtain ⟨m, r, S, Qd, cu, wr, q⟩ := h
  refine i _ (TrE.of cu (hb _ _ _ wr) fun d S1 v m1 H1 w1 cu1 x1 rx => ?_)
  obtain ⟨b, rfl, w1⟩ := w1
  cases rx
  exact ⟨b, rfl, q b S1 m1 H1 w1 cu1.rel x1⟩
theorem wpCmp_bl {op : Cop} {x y : D} {S : Store} {Q : Bool → Store → Prop} (h : wpCmp op x y S fun z S1 => ∃ b, truth S1 z = some b ∧ Q b S1) : wpCmp op x y S fun z S1 => ∃ b, z = .bl b ∧ Q b S1 := by
  have key : ∀ {b S}, (∃ b', truth S (.bl b) = some b' ∧ Q b' S) → ∃ b', D.bl b = .bl b' ∧ Q b' S := fun {b S} ⟨b', e, q⟩ => by
    cases e
    exact ⟨_, rfl, q⟩
  cases op with
  | eq => obtain ⟨d, e, h1, h2, h3, h4, h5⟩ := h; exact ⟨d, e, h1, h2, h3, h4, key h5⟩
  | ne => obtain ⟨d, e, h1, h2, h3, h4, h5⟩ := h; exact ⟨d, e, h1, h2, h3, h4, key h5⟩
  | lt => obtain ⟨i, j, h1, h2, h3⟩ := h; exact ⟨i, j, h1, h2, key h3⟩
  | le => obtain ⟨i, j, h1, h2, h3⟩ := h; exact ⟨i, j, h1, h2, key h3⟩
  | gt => obtain ⟨i, j, h1, h2, h3⟩ := h; exact ⟨i, j, h1, h2, key h3⟩
  | ge => obtain ⟨i, j, h1, h2, h3⟩ := h; exact ⟨i, j, h1, h2, key h3⟩
  | is => cases y <;> first
    | exact (show False from h).elim
    | exact key h
    | (obtain ⟨a, e, h⟩ := h; exact ⟨a, e, key h⟩)
  | isnot => cases y <;> first
    | exact (show False from h).elim
    | exact key h
    | (obtain ⟨a, e, h⟩ := h; exact ⟨a, e, key h⟩)
  | inn => obtain ⟨d, e, ds, h1, h2, h3, h4, h5, h6⟩ := h; exact ⟨d, e, ds, h1, h2, h3, h4, h5, key h6⟩
  | notin => obtain ⟨d, e, ds, h1, h2, h3, h4, h5, h6⟩ := h; exact ⟨d, e, ds, h1, h2, h3, h4, h5, key h6⟩
end
end Ev
set_option Elab.async false
set_option linter.all false
set_option maxRecDepth 100000
set_option maxHeartbeats 4000000
namespace Ev
open PySem PySem.Spec PyProof.Rows L2
section
variable {X : Cx} {c : Cxt} {C : CallH} {k : Nat} {m0 : List Addr} {H0 : Hp}
abbrev SE (X : Cx) (C : CallH) (m0 : List Addr) (H0 : Hp) (e : E) (a : Expr) : Prop := PE X a (TrE X.K m0 H0 (wpE C e))
abbrev STt (X : Cx) (C : CallH) (m0 : List Addr) (H0 : Hp) (e : E) (a : Expr) : Prop := PT X a (TrT X.K m0 H0 (wpT C e))
theorem s_andv {x y : E} {p q : Expr} {r : List Expr} {pos : Pos} (hx : SE X C m0 H0 x p) (hy : PE X (.BoolOp .And (q :: r) pos) (TrE X.K m0 H0 (wpE C y))) : SE X C m0 H0 (.and x y) (.BoolOp .And (p :: q :: r) pos) := by
  refine PE.imp (pe_and hx hy) fun σ H Q ⟨m, r, S, Qd, cu, w, q⟩ => TrE.of cu w fun d S1 v m1 H1 w1 cu1 x1 rx => ?_
  obtain ⟨b, rfl, w1⟩ := w1
  cases rx
  refine ⟨b, rfl, ?_⟩
  cases b with
  | true => exact iteT ⟨m1, _, S1, Qd, cu1, w1, q.back x1⟩
  | false => exact iteF ((q.back x1).here cu1.rel w1 (.bl _))
theorem s_orv {x y : E} {p q : Expr} {r : List Expr} {pos : Pos} (hx : SE X C m0 H0 x p) (hy : PE X (.BoolOp .Or (q :: r) pos) (TrE X.K m0 H0 (wpE C y))) : SE X C m0 H0 (.or x y) (.BoolOp .Or (p :: q :: r) pos) := by
  refine PE.imp (pe_or hx hy) fun σ H Q ⟨m, r, S, Qd, cu, w, q⟩ => TrE.of cu w fun d S1 v m1 H1 w1 cu1 x1 rx => ?_
  obtain ⟨b, rfl, w1⟩ := w1
  cases rx
  refine ⟨b, rfl, ?_⟩
  cases b with
  | false => exact iteF ⟨m1, _, S1, Qd, cu1, w1, q.back x1⟩
  | true => exact iteT ((q.back x1).here cu1.rel w1 (.bl _))
theorem s_notv {x : E} {p : Expr} {pos : Pos} (hx : SE X C m0 H0 x p) : SE X C m0 H0 (.not x) (.UnaryOp .Not p pos) := by
  refine PE.imp (pe_not hx) fun σ H Q ⟨m, r, S, Qd, cu, w, q⟩ => TrE.of cu w fun d S1 v m1 H1 w1 cu1 x1 rx => ?_
  obtain ⟨b, rfl, w1⟩ := w1
  cases rx
  exact ⟨b, rfl, (q.back x1).here cu1.rel w1 (.bl _)⟩
theorem s_andt {x y : E} {p q : Expr} {r : List Expr} {pos : Pos} (hx : STt X C m0 H0 x p) (hy : PW X (.BoolOp .And (q :: r) pos) (TrT X.K m0 H0 (wpT C y))) : PW X (.BoolOp .And (p :: q :: r) pos) (TrT X.K m0 H0 (wpT C (.and x y))) := by
  refine ⟨fun wh pins s σ H Q I h => (pw_and hx hy).run wh pins s σ H Q I ?_⟩
  obtain ⟨m, r, S, Qd, cu, w, q⟩ := h
  refine TrT.of cu w fun b S1 m1 H1 w1 cu1 x1 => ?_
  cases b with
  | true => exact iteT ⟨m1, _, S1, Qd, cu1, w1, fun b S2 m2 H2 h rel y => q b S2 m2 H2 h rel (x1.trans y)⟩
  | false => exact iteF (q false S1 m1 H1 w1 cu1.rel x1)
theorem s_ort {x y : E} {p q : Expr} {r : List Expr} {pos : Pos} (hx : STt X C m0 H0 x p) (hy : PW X (.BoolOp .Or (q :: r) pos) (TrT X.K m0 H0 (wpT C y))) : PW X (.BoolOp .Or (p :: q :: r) pos) (TrT X.K m0 H0 (wpT C (.or x y))) := by
  refine ⟨fun wh pins s σ H Q I h => (pw_or hx hy).run wh pins s σ H Q I ?_⟩
  obtain ⟨m, r, S, Qd, cu, w, q⟩ := h
  refine TrT.of cu w fun b S1 m1 H1 w1 cu1 x1 => ?_
  cases b with
  | false => exact iteF ⟨m1, _, S1, Qd, cu1, w1, fun b S2 m2 H2 h rel y => q b S2 m2 H2 h rel (x1.trans y)⟩
  | true => exact iteT (q true S1 m1 H1 w1 cu1.rel x1)
theorem s_nott {x : E} {p : Expr} {pos : Pos} (hx : STt X C m0 H0 x p) : STt X C m0 H0 (.not x) (.UnaryOp .Not p pos) :=
  PT.imp (pt_not hx) fun σ H Q ⟨m, r, S, Qd, cu, w, q⟩ => TrT.of cu w fun b S1 m1 H1 w1 cu1 x1 => q (!b) S1 m1 H1 w1 cu1.rel x1
theorem s_ite {t x y : E} {p q r : Expr} {pos : Pos} (ht : STt X C m0 H0 t p) (hx : SE X C m0 H0 x q) (hy : SE X C m0 H0 y r) : SE X C m0 H0 (.ite t x y) (.IfExp p q r pos) := by
  refine PE.imp (pe_ifExp ht hx hy) fun σ H Q ⟨m, r, S, Qd, cu, w, q⟩ => TrT.of cu w fun b S1 m1 H1 w1 cu1 x1 => ?_
  cases b with
  | true => exact iteT ⟨m1, _, S1, Qd, cu1, w1, q.back x1⟩
  | false => exact iteF ⟨m1, _, S1, Qd, cu1, w1, q.back x1⟩
theorem s_chain {o1 o2 : Cop} {x y z : E} {p q r : Expr} {k1 k2 : CmpOp} {pos : Pos} (G : Good X c C k) (h1 : copIs k1 o1 = true) (h2 : copIs k2 o2 = true) (hm : lastMarks [k1, k2] [q, r] = false) (hx : SE X C m0 H0 x p) (hy : SE X C m0 H0 y q) (hz : SE X C m0 H0 z r) :
    SE X C m0 H0 (.chain o1 o2 x y z) (.Compare p [k1, k2] [q, r] pos) := by
  have e1 := copIs_eq h1
  have e2 := copIs_eq h2
  subst e1 e2
  refine PE.imp (pe_chain (op_cmp (hu65 G) o1) (op_cmp (hu65 G) o2) hx hy hz hm) fun σ H Q ⟨m, r, S, Qd, cu, w, q⟩ => TrE.of cu w fun x S1 xv m1 H1 w1 cu1 x1 rx => TrE.of cu1 w1 fun y S2 yv m2 H2 w2 cu2 x2 ry => ?_
  refine cmp_r o1 cu2.rel (rx.mono x2 cu1.rel) ry w2 fun d S3 v m3 H3 w3 rel3 x3 rd => ?_
  obtain ⟨b, rfl, w3⟩ := w3
  cases rd
  refine ⟨b, rfl, ?_⟩
  have cu3 := cu2.move rel3 x3
  have q3 := q.back ((x1.trans x2).trans x3)
  cases b with
  | false => exact iteF (q3.here cu3.rel w3 (.bl _))
  | true => exact iteT (TrE.of cu3 w3 fun z S4 zv m4 H4 w4 cu4 x4 rz => cmp_r o2 cu4.rel (ry.mono (x3.trans x4) cu2.rel) rz w4 (q3.back x4))
/-! displays, calls -/
abbrev SA (X : Cx) (C : CallH) (m0 : List Addr) (H0 : Hp) (es : Es) (l : List Expr) : Prop := PA X l (TrA X.K m0 H0 (lenEs es) (wpEs C es))
theorem a_nil : SA X C m0 H0 .nil [] := PA.imp pa_nil fun σ H Q ⟨m, r, S, Qd, cu, w, q⟩ => q [] S [] m H w cu.rel .refl .nil rfl
theorem a_cons {e : E} {es : Es} {p : Expr} {l : List Expr} (hp : ∀ v o, p ≠ .Starred v o) (he : SE X C m0 H0 e p) (hs : SA X C m0 H0 es l) : SA X C m0 H0 (.cons e es) (p :: l) := by
  refine PA.imp (pa_cons he hs (star_of hp)) fun σ H Q ⟨m, r, S, Qd, cu, w, q⟩ => TrE.of cu w fun d S1 v m1 H1 w1 cu1 x1 rd => TrA.of cu1 w1 fun ds S2 vs m2 H2 w2 cu2 x2 rs hl => ?_
  exact q (d :: ds) S2 (v :: vs) m2 H2 w2 cu2.rel (x1.trans x2) (.cons (rd.mono x2 cu1.rel) rs) (congrArg (· + 1) hl)
theorem few_ok {n : Nat} (h : n < 29) : n ≤ sizeLine := by rw [sizeLine_eq]; omega
theorem s_tup {es : Es} {l : List Expr} {n : Nat} {pos : Pos} (h : SA X C m0 H0 es l) (hz : lenEs es < 1000) : SE X C m0 H0 (.tup es) (.Tuple l n pos) := by
  refine PE.imp (pe_tup h) fun σ H Q ⟨m, r, S, Qd, cu, w, q⟩ => TrA.of cu w fun ds S1 vs m1 H1 w1 cu1 x1 rs hl => ?_
  exact ⟨by rw [← rs.length, hl, sizeLine_eq]; omega, (q.back x1).newT cu1.rel rs w1⟩
theorem s_lst {es : Es} {l : List Expr} {pos : Pos} (h : SA X C m0 H0 es l) (hz : lenEs es < 1000) : SE X C m0 H0 (.lst es) (.List l pos) := by
  refine PE.imp (pe_lst h) fun σ H Q ⟨m, r, S, Qd, cu, w, q⟩ => TrA.of cu w fun ds S1 vs m1 H1 w1 cu1 x1 rs hl => ?_
  exact ⟨by rw [← rs.length, hl, sizeLine_eq]; omega, (q.back x1).newL cu1.rel rs w1⟩
theorem s_idx {x y : E} {p q : Expr} {pos : Pos} (hn : notSlice q = true) (hx : SE X C m0 H0 x p) (hy : SE X C m0 H0 y q) : SE X C m0 H0 (.idx x y) (.Subscript p q pos) := by
  refine PE.imp (pe_ix ix_seq hx hy ?_) fun σ H Q ⟨m, r, S, Qd, cu, w, q⟩ => TrE.of cu w fun x S1 xv m1 H1 w1 cu1 x1 rx => TrE.of cu1 w1 fun y S2 yv m2 H2 w2 cu2 x2 ry => ?_
  · intro o i
    cases q <;> first
      | rfl
      | (simp [notSlice] at hn)
  · obtain ⟨l, e1, i, rfl, d, e2, w2⟩ := w2
    cases ry
    exact idx_r cu2.rel (rx.mono x2 cu1.rel) e1 e2 w2 (q.back (x1.trans x2))
abbrev SO (X : Cx) (C : CallH) (m0 : List Addr) (H0 : Hp) (e : Eo) (a : Option Expr) : Prop := PO X a (TrO X.K m0 H0 (wpEo C e))
theorem o_none : SO X C m0 H0 .none none := PO.imp po_none fun σ H Q ⟨m, r, S, Qd, cu, w, q⟩ => q none S m H w cu.rel .refl
theorem o_some {e : E} {p : Expr} (h : SE X C m0 H0 e p) : SO X C m0 H0 (.some e) (some p) := by
  refine PO.imp (po_some h) fun σ H Q ⟨m, r, S, Qd, cu, w, q⟩ => TrE.of cu w fun d S1 v m1 H1 w1 cu1 x1 rd => ?_
  obtain ⟨i, rfl, w1⟩ := w1
  cases rd
  exact ⟨i, rfl, q (some i) S1 m1 H1 w1 cu1.rel x1⟩
theorem sl_any : SlR X (rSl X.K) := sl_tupA.or sl_list
theorem s_slc {x : E} {lo hi : Eo} {p : Expr} {l h : Option Expr} {p2 pos : Pos} (hx : SE X C m0 H0 x p) (hl : SO X C m0 H0 lo l) (hh : SO X C m0 H0 hi h) : SE X C m0 H0 (.slc x lo hi) (.Subscript p (.Slice l h none p2) pos) := by
  refine PE.imp (pe_slice sl_any hx hl hh) fun σ H Q ⟨m, r, S, Qd, cu, w, q⟩ => TrE.of cu w fun x S1 xv m1 H1 w1 cu1 x1 rx => TrO.of cu1 w1 fun a S2 m2 H2 w2 cu2 x2 => TrO.of cu2 w2 fun b S3 m3 H3 w3 cu3 x3 => ?_
  exact slc_r cu3.rel (rx.mono (x2.trans x3) cu1.rel) w3 (q.back ((x1.trans x2).trans x3))
theorem spD_len {K : FR} {C : List D → Store → DK → Prop} {n : Nat} {vs : List V} {H : Hp} {Q : VK} {E : XK} (h : spD K C n vs H Q E) : vs.length = n := by
  obtain ⟨m, S, ds, Qd, _, rs, hl, _⟩ := h
  rw [← rs.length]; exact hl
theorem callE {f : Nat} {i : FnI} {n : Nat} {σ : L2.St} {H : Hp} {Q : VK} {m : List Addr} {r : Rho} {S : Store} {Qd : DK} {ds : List D} {vs : List V} (cu : Cur X.K m0 H0 m r S σ H) (rs : RDs X.K m H ds vs) (w : C f ds S Qd) (q : Imp X.K m H Qd Q)
    (hl : ds.length = n) : spD X.K (C f) n vs H Q E0 := ⟨m, S, ds, Qd, cu.rel, rs, hl, w, q⟩
theorem s_call0 {f : Nat} {x : Str} {p pos : Pos} {i : FnI} (G : Good X c C k) (hg : c.glb x = true) (hi : c.T[f]? = some i) (hx : i.name = x) (hl : i.ps.length = 0) : SE X C m0 H0 (.call f .nil) (.Call (.Name x p) [] [] pos) := by
  obtain ⟨g1, g2⟩ := c.glb_ok G.sc hg
  obtain ⟨a, fd, ha, hk, hb, _, ho⟩ := G.tab.fns f i hi
  rw [hx] at ha
  exact PE.imp (pe_call0 ho G.room g1 ha hk hb .nil pass0 g2) fun σ H Q ⟨m, r, S, Qd, cu, w, q⟩ => ⟨m, S, [], Qd, cu.rel, .nil, hl.symm, w, q⟩
theorem s_call {f : Nat} {es : Es} {x : Str} {e : Expr} {l : List Expr} {p pos : Pos} {i : FnI} (G : Good X c C k) (hg : c.glb x = true) (hi : c.T[f]? = some i) (hx : i.name = x) (hn : i.ps.length = lenEs es) (hst : ∀ a ∈ e :: l, ∀ v o, a ≠ .Starred v o) (hs : SA X C m0 H0 es (e :: l)) :
    SE X C m0 H0 (.call f es) (.Call (.Name x p) (e :: l) [] pos) := by
  obtain ⟨g1, g2⟩ := c.glb_ok G.sc hg
  obtain ⟨a, fd, ha, hk, hb, _, ho⟩ := G.tab.fns f i hi
  rw [hx] at ha
  refine PE.imp (pe_call ho G.room g1 ha hk hb .nil pass0 hs g2 (star_of (hst e List.mem_cons_self)) (noStar (fun e' he => hst e' (List.mem_cons_of_mem _ he)) pos)) fun σ H Q ⟨m, r, S, Qd, cu, w, q⟩ =>
    TrA.of cu w fun ds S1 vs m1 H1 w1 cu1 x1 rs hl => ?_
  rw [List.append_nil]
  exact ⟨m1, S1, ds, Qd, cu1.rel, rs, hl.trans hn.symm, w1, q.back x1⟩
/-! keywords -/
abbrev SK (X : Cx) (C : CallH) (m0 : List Addr) (H0 : Hp) (es : Es) (l : List Keyword) : Prop := PK X l (TrA X.K m0 H0 (lenEs es) (wpEs C es))
theorem k_nil : SK X C m0 H0 .nil [] := PK.imp pk_nil fun σ H Q ⟨m, r, S, Qd, cu, w, q⟩ => q [] S [] m H w cu.rel .refl .nil rfl
theorem k_cons {e : E} {es : Es} {n : Option Str} {p : Expr} {o : Pos} {l : List Keyword} (he : SE X C m0 H0 e p) (hs : SK X C m0 H0 es l) : SK X C m0 H0 (.cons e es) (⟨n, p, o⟩ :: l) := by
  refine PK.imp (pk_cons he hs) fun σ H Q ⟨m, r, S, Qd, cu, w, q⟩ => TrE.of cu w fun d S1 v m1 H1 w1 cu1 x1 rd => TrA.of cu1 w1 fun ds S2 vs m2 H2 w2 cu2 x2 rs hl => ?_
  exact q (d :: ds) S2 (v :: vs) m2 H2 w2 cu2.rel (x1.trans x2) (.cons (rd.mono x2 cu1.rel) rs) (congrArg (· + 1) hl)
theorem kw_some {ks : List Str} {kws : List Keyword} {env : Env} (pos : Pos) (h : kwNames kws = ks.map some) : (backToKw pos (keywordEach kws env)).all (·.1.isSome) = true ∧ (backToKw pos (keywordEach kws env)).filterMap (·.1) = ks ∧ (backToKw pos (keywordEach kws env)).any (·.1.isNone) = false := by
  induction kws generalizing ks with
  | nil =>
    cases ks with
    | nil => exact ⟨rfl, rfl, rfl⟩
    | cons _ _ => cases h
  | cons a r ih =>
    obtain ⟨n, v, q⟩ := a
    cases ks with
    | nil => cases h
    | cons y ys =>
      have h : (n :: kwNames r) = (some y :: ys.map some) := h
      injection h with h1 h2
      subst h1
      obtain ⟨i1, i2, i3⟩ := ih h2
      refine ⟨?_, ?_, ?_⟩
      · show (true && (backToKw pos (keywordEach r env)).all (·.1.isSome)) = true
        rw [i1]; rfl
      · show y :: (backToKw pos (keywordEach r env)).filterMap (·.1) = _
        rw [i2]
      · show (false || (backToKw pos (keywordEach r env)).any (·.1.isNone)) = false
        rw [i3]; rfl
theorem RDs.perm {K : FR} {m : List Addr} {H : Hp} {ds : List D} {vs : List V} (r : RDs K m H ds vs) : ∀ perm : List Nat, RDs K m H (perm.filterMap fun i => ds[i]?) (perm.filterMap fun i => vs[i]?)
  | [] => .nil
  | i :: p => by
    rw [List.filterMap_cons, List.filterMap_cons]
    cases e : ds[i]? with
    | none =>
      have : vs[i]? = none := by
        rw [List.getElem?_eq_none_iff] at e ⊢
        rw [← r.length]; exact e
      rw [this]
      exact RDs.perm r p
    | some d =>
      obtain ⟨v, e2, rd⟩ := r.get e
      rw [e2]
      exact .cons rd (RDs.perm r p)
theorem perm_len {α : Type} {l : List α} : ∀ {perm : List Nat}, (∀ i ∈ perm, i < l.length) → (perm.filterMap fun i => l[i]?).length = perm.length
  | [], _ => rfl
  | i :: p, h => by
    rw [List.filterMap_cons, List.getElem?_eq_getElem (h i List.mem_cons_self)]
    show (p.filterMap _).length + 1 = p.length + 1
    rw [perm_len fun j hj => h j (List.mem_cons_of_mem _ hj)]
theorem s_callK {f : Nat} {es zs : Es} {ks : List Str} {perm : List Nat} {x : Str} {l : List Expr} {kws : List Keyword} {p pos : Pos} {i : FnI} (G : Good X c C k) (hg : c.glb x = true) (hi : c.T[f]? = some i) (hx : i.name = x) (hk : (lenEs es, ks, perm) ∈ i.kws)
    (hkn : kwNames kws = ks.map some) (hn : i.ps.length = perm.length) (hz : lenEs zs = ks.length) (hp : ∀ j ∈ perm, j < lenEs es + lenEs zs) (hst : ∀ a ∈ l, ∀ v o, a ≠ .Starred v o) (hll : l = [] → es = .nil) (hs : SA X C m0 H0 es l) (hq : SK X C m0 H0 zs kws) :
    SE X C m0 H0 (.callK f es ks zs perm) (.Call (.Name x p) l kws pos) := by
  obtain ⟨g1, g2⟩ := c.glb_ok G.sc hg
  obtain ⟨a, fd, ha, hkp, hb, hkb, ho⟩ := G.tab.fns f i hi
  rw [hx] at ha
  obtain ⟨k1, k2, k3⟩ := kw_some (env := X.env) pos hkn
  have key : ∀ {σ H Q m r S Qd} {ds es' : List D} {vs zv : List V} {m1 H1 S1}, Cur X.K m0 H0 m r S σ H → Imp X.K m H Qd Q → Ext m H m1 H1 → Rel X.K m1 S1 H1 → RDs X.K m1 H1 ds vs → RDs X.K m1 H1 es' zv → ds.length = lenEs es → es'.length = lenEs zs →
      C f (perm.filterMap fun i => (ds ++ es')[i]?) S1 Qd → spD X.K (C f) i.ps.length (perm.filterMap fun i => (vs ++ zv)[i]?) H1 Q E0 := fun cu q x1 rel rs rz l1 l2 w => by
    refine ⟨_, _, _, _, rel, (rs.app rz).perm perm, ?_, w, q.back x1⟩
    rw [perm_len fun j hj => ?_, hn]
    rw [List.length_append, l1, l2]
    exact hp j hj
  cases l with
  | nil =>
    have e0 := hll rfl
    subst e0
    refine ⟨fun pins s σ H Q I h => ?_⟩
    refine wpAny_Call_Name_kw (ld_glob I g1 ha ?_ g2)
    obtain ⟨m, r, S, Qd, cu, w, q⟩ := h
    refine PySem.W.callWith_KW0 (h₀ := X.base) I.ok.mod.kin hkp k1 ?_ (by
      show (false || (backToKw pos (keywordEach kws X.env)).any (·.1.isNone)) = false
      rw [k3]; rfl)
    refine thn (hq.run pos pins s σ H (fun zv H2 => spD X.K (C f) i.ps.length (perm.filterMap fun i => ([] ++ zv)[i]?) H2 Q E0 ∧ zv.length = ks.length) I (TrA.of cu w fun ds S1 vs m1 H1 w1 cu1 x1 rs hl => ?_)) fun ws s2 ⟨zv, H2, I2, rz, q2, hlz⟩ => ⟨I2.kIn, ?_⟩
    · exact ⟨key cu q x1 cu1.rel .nil rs rfl hl w1, by rw [← rs.length, hl, hz]⟩
    · rw [k2]
      exact run_fnN (us := []) (vs := []) ho G.room (hkb _ _ _ hk) pass0 I2 .nil rz rfl hlz q2
  | cons e l' =>
    refine PE.imp (pe_callN ho G.room g1 ha hkp (hkb _ _ _ hk) pass0 hs hq k1 k2 g2 (star_of (hst e List.mem_cons_self)) (by rw [noStar hst pos, k3]; rfl)) fun σ H Q ⟨m, r, S, Qd, cu, w, q⟩ =>
      TrA.of cu w fun ds S1 vs m1 H1 w1 cu1 x1 rs hl => TrA.of cu1 w1 fun es' S2 zv m2 H2 w2 cu2 x2 rz hl2 => ?_
    exact ⟨by rw [← rs.length]; exact hl, by rw [← rz.length, hl2, hz], key cu q (x1.trans x2) cu2.rel (rs.mono x2 cu1.rel) rz hl hl2 w2⟩
/-! built-ins -/
theorem s_bi {b : Bi} {es : Es} {x : Str} {e : Expr} {l : List Expr} {p pos : Pos} (G : Good X c C k) (hg : c.glb x = true) (hx : x = biName b) (hst : ∀ a ∈ e :: l, ∀ v o, a ≠ .Starred v o) (hs : SA X C m0 H0 es (e :: l)) : SE X C m0 H0 (.bi b es) (.Call (.Name x p) (e :: l) [] pos) := by
  obtain ⟨g1, g2⟩ := c.glb_ok G.sc hg
  subst hx
  have hm := G.tab.bis b
  have h1 := star_of (env := X.env) (es := l) (hst e List.mem_cons_self)
  have h2 := noStar (env := X.env) (fun e' he => hst e' (List.mem_cons_of_mem _ he)) pos
  have imp : ∀ σ H Q, TrE X.K m0 H0 (wpE C (.bi b es)) σ H Q → tCB (rBi X.K b) (TrA X.K m0 H0 (lenEs es) (wpEs C es)) σ H Q := fun σ H Q ⟨m, r, S, Qd, cu, w, q⟩ =>
    TrA.of cu w fun ds S1 vs m1 H1 w1 cu1 x1 rs hl => bi_r b cu1.rel rs w1 (q.back x1)
  cases b with
  | len => exact PE.imp (pe_callB (cr_bi G.calm .len) g1 hm boot_len hs (by decide +kernel) g2 h1 h2) imp
  | int => exact PE.imp (pe_callTy (cr_bi G.calm .int) g1 hm boot_int hs (by decide +kernel) g2 h1 h2) imp
  | abs => exact PE.imp (pe_callB (cr_bi G.calm .abs) g1 hm (by decide +kernel) hs (by decide +kernel) g2 h1 h2) imp
  | tuple => exact PE.imp (pe_callTy (cr_bi G.calm .tuple) g1 hm (by decide +kernel) hs (by decide +kernel) g2 h1 h2) imp
  | list => exact PE.imp (pe_callTy (cr_bi G.calm .list) g1 hm (by decide +kernel) hs (by decide +kernel) g2 h1 h2) imp
  | sum => exact PE.imp (pe_callB (cr_bi G.calm .sum) g1 hm (by decide +kernel) hs (by decide +kernel) g2 h1 h2) imp
  | sorted => exact PE.imp (pe_callB (cr_bi G.calm .sorted) g1 hm (by decide +kernel) hs (by decide +kernel) g2 h1 h2) imp
  | max => exact PE.imp (pe_callB (cr_bi G.calm .max) g1 hm (by decide +kernel) hs (by decide +kernel) g2 h1 h2) imp
  | min => exact PE.imp (pe_callB (cr_bi G.calm .min) g1 hm (by decide +kernel) hs (by decide +kernel) g2 h1 h2) imp
theorem boot_ty (t : Ty) : bootBuiltins (Str.ofString (tyName t)) = some (.type (tyName t)) ∧ Str.ofString (tyName t) ≠ "__name__" := by
  cases t <;> exact ⟨by decide +kernel, by decide +kernel⟩
theorem s_isi {x : E} {t : Ty} {f ty : Str} {e : Expr} {p p2 pos : Pos} (G : Good X c C k) (hg : c.glb f = true) (hf : f = ("isinstance" : Str)) (hgt : c.glb ty = true) (hty : ty = Str.ofString (tyName t)) (hst : ∀ v o, e ≠ .Starred v o) (hx : SE X C m0 H0 x e) :
    SE X C m0 H0 (.isi x t) (.Call (.Name f p) [e, .Name ty p2] [] pos) := by
  obtain ⟨g1, g2⟩ := c.glb_ok G.sc hg
  obtain ⟨t1, t2⟩ := c.glb_ok G.sc hgt
  subst hf hty
  obtain ⟨b1, b2⟩ := boot_ty t
  have et : PE X (.Name (Str.ofString (tyName t)) p2) (tC (.ty (tyName t))) := pe_bltn t1 (G.tab.others.2.2 t) b1 rfl b2 t2
  refine PE.imp (pe_callB call_isi g1 G.tab.others.1 (by decide +kernel) (pa_cons hx (pa_cons et pa_nil) (star_of hst)) (by decide +kernel) g2 (star_of hst) rfl) fun σ H Q ⟨m, r, S, Qd, cu, w, q⟩ =>
    TrE.of cu w fun d S1 v m1 H1 w1 cu1 x1 rd => ?_
  obtain ⟨b, e1, w1⟩ := w1
  obtain ⟨ty, h1, h2⟩ := ty_r cu1.rel rd t e1
  exact ⟨v, .ty (tyName t), ty, .type (tyName t), b, rfl, .ty _, h1, h2, (q.back x1).here cu1.rel w1 (.bl _)⟩
/-! methods -/
theorem base_of {o : Expr} {x : Str} (h : notCall0 o = true) : attributeBase o x X.env (eval o X.env) = eval o X.env := by
  cases o <;> first
    | rfl
    | skip
  rename_i f as ks _
  cases f <;> first
    | rfl
    | skip
  cases as <;> first
    | rfl
    | skip
  cases ks <;> first
    | rfl
    | (simp [notCall0] at h)
theorem s_meth {me : Me} {o : E} {es : Es} {x : Str} {p : Expr} {e : Expr} {l : List Expr} {ap pos : Pos} (hx : x = meName me) (hl : (e :: l).length < 29) (hline : (ap.endLine == pos.line) = true) (hc : notCall0 p = true) (hst : ∀ a ∈ e :: l, ∀ v o, a ≠ .Starred v o)
    (ho : SE X C m0 H0 o p) (hs : SA X C m0 H0 es (e :: l)) : SE X C m0 H0 (.meth me o es) (.Call (.Attribute p x ap) (e :: l) [] pos) := by
  subst hx
  have hfew : ((backTo pos (starEach (e :: l) X.env)).all (fun x => !x.1) && (backToKw pos (keywordEach [] X.env)).all (fun x => x.1.isSome)
      && decide ((e :: l).length + ([] : List Keyword).length + (if ([] : List Keyword).isEmpty then 0 else 1) < 30)) = true := by
    have h1 : (backTo pos (starEach (e :: l) X.env)).all (fun x => !x.1) = true := by
      have z := noStar (env := X.env) hst pos
      rw [List.all_eq_true]
      intro y hy
      rw [List.any_eq_false] at z
      simpa using z y hy
    rw [h1]
    simp only [keywordEach, backToKw, List.map_nil, List.all_nil, Bool.and_true, Bool.true_and, List.length_nil, List.isEmpty_nil, if_true, decide_eq_true_eq]
    omega
  have hs1 := star_of (env := X.env) (es := l) (hst e List.mem_cons_self)
  have h2 := noStar (env := X.env) (fun e' he => hst e' (List.mem_cons_of_mem _ he)) pos
  have imp : ∀ σ H Q, TrE X.K m0 H0 (wpE C (.meth me o es)) σ H Q → tBM X.K "list" (rMe X.K me) (TrE X.K m0 H0 (wpE C o)) (TrA X.K m0 H0 (lenEs es) (wpEs C es)) σ H Q := fun σ H Q ⟨m, r, S, Qd, cu, w, q⟩ =>
    TrE.of cu w fun d S1 v m1 H1 ⟨⟨n, hd⟩, w1⟩ cu1 x1 rd => by
      subst hd
      refine ⟨?_, TrA.of cu1 w1 fun ds S2 vs m2 H2 w2 cu2 x2 rs hl => me_r me cu2.rel (rd.mono x2 cu1.rel) rs w2 (q.back (x1.trans x2))⟩
      cases rd with
      | ref hn =>
        obtain ⟨ws, hw⟩ := cu1.rel.mem (List.mem_of_getElem? hn)
        exact .inl ⟨rfl, ws, .inl (.inl hw)⟩
  cases me with
  | append => exact PE.imp (pe_bm PySem.F.plainAttrs_list PySem.F.slot_list_append PySem.F.type_list_append mt_append ho hs (base_of hc) hfew hline hs1 h2) imp
  | pop => exact PE.imp (pe_bm PySem.F.plainAttrs_list PySem.F.slot_list_pop PySem.F.type_list_pop (MtR.or mt_pop mt_popAt) ho hs (base_of hc) hfew hline hs1 h2) imp
  | index =>
    exact PE.imp (pe_bm (r := rMe X.K .index) PySem.F.plainAttrs_list PySem.F.slot_list_index PySem.F.type_list_index (fun _ _ _ _ _ _ _ _ _ _ _ _ z => z.elim) ho hs (base_of hc) hfew hline hs1 h2) imp
theorem s_meth0 {o : E} {x : Str} {p : Expr} {ap pos : Pos} (hx : x = meName .pop) (hline : (ap.endLine == pos.line) = true) (hc : notCall0 p = true) (ho : SE X C m0 H0 o p) : SE X C m0 H0 (.meth .pop o .nil) (.Call (.Attribute p x ap) [] [] pos) := by
  subst hx
  refine PE.imp (pe_bm0 PySem.F.plainAttrs_list PySem.F.slot_list_pop PySem.F.type_list_pop (MtR.or mt_pop mt_popAt) ho (base_of hc) hline) fun σ H Q ⟨m, r, S, Qd, cu, w, q⟩ =>
    TrE.of cu w fun d S1 v m1 H1 ⟨⟨n, hd⟩, w1⟩ cu1 x1 rd => ?_
  subst hd
  refine ⟨?_, me_r .pop cu1.rel rd .nil w1 (q.back x1)⟩
  cases rd with
  | ref hn =>
    obtain ⟨ws, hw⟩ := cu1.rel.mem (List.mem_of_getElem? hn)
    exact .inl ⟨rfl, ws, .inl (.inl hw)⟩
end
end Ev
set_option Elab.async false
set_option linter.all false
set_option maxRecDepth 100000
set_option maxHeartbeats 4000000
namespace Ev
open PySem PySem.Spec PyProof.Rows L2
/-! ## iterators, targets -/
section
variable {X : Cx} {tg : Expr}
def iAny (K : FR) (te : TE) : TI := fun σ H R => te σ H fun x H1 => ∃ a, x = .ref a ∧ (((∃ xs, SqL K H1 a xs) ∧ R (Itl K a) H1) ∨ ((∃ xs, SqT K H1 a xs) ∧ R (Itt K a) H1))
theorem pi_any {e : Expr} {te : TE} (he : PE X e te) : PI X tg e (iAny X.K te) := by
  refine ⟨fun pins s σ H R I h => thn (he.run pins s σ H _ I h) fun v s1 ⟨x, H1, I1, r1, a, ea, q⟩ => ?_⟩
  subst ea
  cases r1
  have fresh : ∀ b ∈ [s1.heap.objs.size], FpOk X pins H1 b := fun b hb => by
    rw [List.mem_singleton.mp hb]
    exact I1.fpOk (Nat.le_refl _) (I1.hok.fresh (Nat.le_refl _))
  rcases q with ⟨⟨xs, hq⟩, q⟩ | ⟨⟨xs, hq⟩, q⟩
  · obtain ⟨its, _, pl, _⟩ := I1.list hq
    exact wpAny_pyIter_list pl.isList ⟨_, [_], _, _, H1, rfl, I1.kept (t' := s1.toks) fun b o e => Heap.get?_push_of_some _ e, turn_list a _, ⟨_, Heap.get?_push_size _ rfl, rfl, rfl⟩, fresh, q⟩
  · obtain ⟨its, _, pt, _⟩ := I1.tuple hq
    exact wpAny_pyIter_tuple (show s1.heap.IsTuple a its.toArray from pt) ⟨_, [_], _, _, H1, rfl, I1.kept (t' := s1.toks) fun b o e => Heap.get?_push_of_some _ e, turn_tuple a _, ⟨_, Heap.get?_push_size _ rfl, rfl, rfl⟩, fresh, q⟩
end
section
variable {K : FR} {m m1 : List Addr} {S S1 : Store} {H H1 : Hp}
theorem walk_list {n : Nat} {a : Addr} {l : List D} (hn : m1[n]? = some a) (e : items S1 (.ref n) = some l) : Walk K (.live n S1 l) (Itl K a) m1 H1 := by
  have its : ∀ {S : Store}, S[n]? = S1[n]? → items S (.ref n) = some l := fun {S} h => by
    rw [← e]
    simp only [items, h]
  refine ⟨fun i m S H rel x st hi => ?_, fun i m S H v H' rel x st y hi => ?_, fun i m S H rel x st hi => ?_⟩
  · obtain ⟨vs, hs, rs⟩ := rel.its (its st) (x.get hn)
    have hl : i < vs.length := by rw [← rs.length]; exact hi
    exact ⟨vs, vs[i], hs, List.getElem?_eq_getElem hl⟩
  · obtain ⟨vs, hs, rs⟩ := rel.its (its st) (x.get hn)
    obtain ⟨rfl, y⟩ := y
    obtain ⟨w, e1, e2⟩ := rs.get (List.getElem?_eq_getElem hi)
    have e3 := y vs hs
    rw [e1] at e3; cases e3
    exact ⟨_, List.getElem?_eq_getElem hi, rel, .refl, e2⟩
  · obtain ⟨vs, hs, rs⟩ := rel.its (its st) (x.get hn)
    exact ⟨vs, hs, by rw [← rs.length]; exact hi⟩
theorem walk_tup {a : Addr} {l : List D} {vs : List V} (r1 : Rel K m1 S1 H1) (hs : SqT K H1 a vs) (rs : RDs K m1 H1 l vs) : Walk K ⟨l, fun _ => True⟩ (Itt K a) m1 H1 := by
  refine ⟨fun i m S H rel x st hi => ?_, fun i m S H v H' rel x st y hi => ?_, fun i m S H rel x st hi => ?_⟩
  · have hl : i < vs.length := by rw [← rs.length]; exact hi
    exact ⟨vs, vs[i], x.sqT r1 hs, List.getElem?_eq_getElem hl⟩
  · obtain ⟨rfl, y⟩ := y
    obtain ⟨w, e1, e2⟩ := rs.get (List.getElem?_eq_getElem hi)
    have e3 := y vs (x.sqT r1 hs)
    rw [e1] at e3; cases e3
    exact ⟨_, List.getElem?_eq_getElem hi, rel, .refl, e2.mono x r1⟩
  · exact ⟨vs, x.sqT r1 hs, by rw [← rs.length]; exact hi⟩
theorem walk_cl {a : Addr} {l : List D} {vs : List V} (r1 : Rel K m1 S1 H1) (hs : SqC K H1 a vs) (rs : RDs K m1 H1 l vs) : Walk K ⟨l, fun _ => True⟩ (Itl K a) m1 H1 := by
  refine ⟨fun i m S H rel x st hi => ?_, fun i m S H v H' rel x st y hi => ?_, fun i m S H rel x st hi => ?_⟩
  · have hl : i < vs.length := by rw [← rs.length]; exact hi
    exact ⟨vs, vs[i], (x.sqC r1 hs).sq, List.getElem?_eq_getElem hl⟩
  · obtain ⟨rfl, y⟩ := y
    obtain ⟨w, e1, e2⟩ := rs.get (List.getElem?_eq_getElem hi)
    have e3 := y vs (x.sqC r1 hs).sq
    rw [e1] at e3; cases e3
    exact ⟨_, List.getElem?_eq_getElem hi, rel, .refl, e2.mono x r1⟩
  · exact ⟨vs, (x.sqC r1 hs).sq, by rw [← rs.length]; exact hi⟩
theorem rngL_len (lo : Int) (n : Nat) : (rngL lo n).length = n := by simp [rngL]
theorem rngL_get {lo : Int} {n i : Nat} (h : i < n) : (rngL lo n)[i]? = some (.int (lo + i)) := by simp [rngL, h]
theorem walk_rng {lo : Int} {n : Nat} : Walk K ⟨rngL lo n, fun _ => True⟩ (Itr lo n) m1 H1 := by
  refine ⟨fun i m S H rel x st hi => ?_, fun i m S H v H' rel x st y hi => ?_, fun i m S H rel x st hi => ?_⟩
  · have hi : i < (rngL lo n).length := hi
    rw [rngL_len] at hi; exact hi
  · obtain ⟨rfl, rfl⟩ := y
    have hi : i < (rngL lo n).length := hi
    rw [rngL_len] at hi
    exact ⟨_, rngL_get hi, rel, .refl, .int _⟩
  · have hi : (rngL lo n).length ≤ i := hi
    rw [rngL_len] at hi; exact hi
end
section
variable {X : Cx} {c : Cxt} {C : CallH} {k : Nat} {m0 : List Addr} {H0 : Hp}
abbrev SI (X : Cx) (C : CallH) (m0 : List Addr) (H0 : Hp) (it : It) (tg a : Expr) : Prop := PI X tg a (TrI X.K m0 H0 (wpI C it))
theorem i_val {e : E} {tg a : Expr} (h : SE X C m0 H0 e a) : SI X C m0 H0 (.val e) tg a := by
  refine PI.imp (pi_any h) fun σ H R ⟨m, r, S, Qd, cu, w, q⟩ => TrE.of cu w fun d S1 v m1 H1 w1 cu1 x1 rd => ?_
  cases rd with
  | tup hs rs => exact ⟨_, rfl, .inr ⟨⟨_, hs⟩, q _ S1 m1 H1 _ w1 cu1.rel x1 (walk_tup cu1.rel hs rs)⟩⟩
  | ref hn =>
    obtain ⟨l, e, w1⟩ := w1
    obtain ⟨vs, hs, _⟩ := cu1.rel.its e hn
    exact ⟨_, rfl, .inl ⟨⟨vs, hs⟩, q _ S1 m1 H1 _ w1 cu1.rel x1 (walk_list hn e)⟩⟩
  | cl hs rs => exact ⟨_, rfl, .inl ⟨⟨_, hs.sq⟩, q _ S1 m1 H1 _ w1 cu1.rel x1 (walk_cl cu1.rel hs rs)⟩⟩
  | _ => exact (show False from w1).elim
theorem i_rng1 {x : E} {tg p : Expr} {f : Str} {o pos : Pos} (G : Good X c C k) (hg : c.glb f = true) (hf : f = ("range" : Str)) (hst : ∀ v o, p ≠ .Starred v o) (h : SE X C m0 H0 x p) : SI X C m0 H0 (.rng1 x) tg (.Call (.Name f o) [p] [] pos) := by
  obtain ⟨g1, _⟩ := c.glb_ok G.sc hg
  subst hf
  refine PI.imp (pi_range1 g1 G.tab.others.2.1 (pa_cons h pa_nil (star_of hst)) (star_of hst)) fun σ H R ⟨m, r, S, Qd, cu, w, q⟩ => TrE.of cu w fun d S1 v m1 H1 w1 cu1 x1 rd => ?_
  obtain ⟨j, rfl, h1, h2, w1⟩ := w1
  cases rd
  exact ⟨j, rfl, h1, h2, q _ S1 m1 H1 _ w1 cu1.rel x1 walk_rng⟩
theorem i_rng2 {x y : E} {tg p p2 : Expr} {f : Str} {o pos : Pos} (G : Good X c C k) (hg : c.glb f = true) (hf : f = ("range" : Str)) (hst : ∀ v o, p ≠ .Starred v o) (hst2 : ∀ v o, p2 ≠ .Starred v o) (h : SE X C m0 H0 x p) (h' : SE X C m0 H0 y p2) :
    SI X C m0 H0 (.rng2 x y) tg (.Call (.Name f o) [p, p2] [] pos) := by
  obtain ⟨g1, _⟩ := c.glb_ok G.sc hg
  subst hf
  refine PI.imp (pi_range2 g1 G.tab.others.2.1 (pa_cons h (pa_cons h' pa_nil (star_of hst2)) (star_of hst)) (by rw [star_of hst, star_of hst2]; rfl) (star_of hst2)) fun σ H R ⟨m, r, S, Qd, cu, w, q⟩ =>
    TrE.of cu w fun d S1 v m1 H1 w1 cu1 x1 rd => TrE.of cu1 w1 fun d2 S2 v2 m2 H2 w2 cu2 x2 rd2 => ?_
  obtain ⟨i, rfl, j, rfl, h1, w2⟩ := w2
  cases rd
  cases rd2
  exact ⟨i, j, rfl, h1, q _ S2 m2 H2 _ w2 cu2.rel (x1.trans x2) walk_rng⟩
/-! targets -/
abbrev SG (X : Cx) (C : CallH) (m0 : List Addr) (H0 : Hp) (g : G) (a : Expr) : Prop := PG X a (TrG X.K m0 H0 (slotsG g) (wpG C g))
abbrev SGs (X : Cx) (C : CallH) (m0 : List Addr) (H0 : Hp) (g : Gs) (a : List Expr) : Prop := PGs X a (TrGs X.K m0 H0 (slotsGs g) (wpGs C g))
theorem wipe_set {α : Type} {i : Nat} {x : Option V} {σ : L2.St} : ∀ {vs : List Nat}, i ∈ vs → wipe (σ.set i x) vs = wipe σ vs
  | v :: vs, h => by
    by_cases hv : i = v
    · subst hv
      show (wipe (σ.set i x) vs).set i none = (wipe σ vs).set i none
      by_cases hm : i ∈ vs
      · rw [wipe_set (α := α) hm]
      · have : ∀ vs : List Nat, i ∉ vs → wipe (σ.set i x) vs = (wipe σ vs).set i x := by
          intro vs
          induction vs with
          | nil => intro _; rfl
          | cons w ws ih =>
            intro hn
            simp only [List.mem_cons, not_or] at hn
            show (wipe (σ.set i x) ws).set w none = ((wipe σ ws).set w none).set i x
            rw [ih hn.2, List.set_comm _ _ hn.1]
        rw [this vs hm, List.set_set]
    · have hm : i ∈ vs := by simpa [hv] using h
      show (wipe (σ.set i x) vs).set v none = (wipe σ vs).set v none
      rw [wipe_set (α := α) hm]
theorem wipeD_set {i : Nat} {x : Option D} {r : Rho} : ∀ {vs : List Nat}, i ∈ vs → wipeD (r.set i x) vs = wipeD r vs
  | v :: vs, h => by
    by_cases hv : i = v
    · subst hv
      show (wipeD (r.set i x) vs).set i none = (wipeD r vs).set i none
      by_cases hm : i ∈ vs
      · rw [wipeD_set hm]
      · have : ∀ vs : List Nat, i ∉ vs → wipeD (r.set i x) vs = (wipeD r vs).set i x := by
          intro vs
          induction vs with
          | nil => intro _; rfl
          | cons w ws ih =>
            intro hn
            simp only [List.mem_cons, not_or] at hn
            show (wipeD (r.set i x) ws).set w none = ((wipeD r ws).set w none).set i x
            rw [ih hn.2, List.set_comm _ _ hn.1]
        rw [this vs hm, List.set_set]
    · have hm : i ∈ vs := by simpa [hv] using h
      show (wipeD (r.set i x) vs).set v none = (wipeD r vs).set v none
      rw [wipeD_set hm]
theorem g_name {i : Nat} {x : Str} {pos : Pos} (G : Good X c C k) (h : c.loc i x = true) : SG X C m0 H0 (.name i) (.Name x pos) := by
  obtain ⟨h1, h2, h3⟩ := c.loc_ok G.N G.sc G.fn h
  refine PG.imp (pg_name (by rw [G.N]; exact G.nd) h1 h2 h3) fun v σ H Q ⟨m, r, S, d, Qd, cu, rd, w, q⟩ => ?_
  refine q _ S _ m H w (cu.set rd i) .refl fun vs hv => ?_
  have hi : i ∈ vs := hv i (by simp [slotsG])
  exact ⟨wipe_set (α := Nat) hi, wipeD_set hi⟩
theorem gs_nil : SGs X C m0 H0 .nil [] := by
  refine PGs.imp pgs_nil fun v σ H Q ⟨m, r, S, d, Qd, cu, rd, ⟨e, w⟩, q⟩ => ?_
  subst e
  cases rd
  exact ⟨rfl, q _ S _ m H w cu .refl fun vs hv => ⟨rfl, rfl⟩⟩
theorem assignEach_of {e : Expr} {es : List Expr} {env : Env} (h : ∀ v p, e ≠ .Starred v p) : (assignEach (e :: es) env).map (·.2) = assign e env :: (assignEach es env).map (·.2) ∧ (assignEach (e :: es) env).length = (assignEach es env).length + 1 ∧
    ((assignEach es env).findIdx? (·.1) = none → (assignEach (e :: es) env).findIdx? (·.1) = none) := by
  have key : assignEach (e :: es) env = (false, assign e env) :: assignEach es env := by
    cases e <;> first
      | rfl
      | exact absurd rfl (h _ _)
  rw [key]
  refine ⟨rfl, rfl, fun z => ?_⟩
  rw [List.findIdx?_cons]
  simp [z]
theorem gs_cons {g : G} {gs : Gs} {e : Expr} {es : List Expr} (h : ∀ v p, e ≠ .Starred v p) (h1 : SG X C m0 H0 g e) (h2 : SGs X C m0 H0 gs es) : SGs X C m0 H0 (.cons g gs) (e :: es) := by
  refine PGs.imp (pgs_cons h1 h2 (assignEach_of h).1) fun v σ H Q ⟨m, r, S, d, Qd, cu, rd, w, q⟩ => ?_
  obtain ⟨x, xs, rfl, w⟩ := w
  cases rd with
  | cons r1 rs =>
    refine ⟨_, _, rfl, ⟨m, r, S, x, _, cu, r1, w, fun r' S' σ' m' H' w' cu' x' sm => ⟨m', r', S', xs, Qd, cu', rs.mono x' cu.rel, w', fun r2 S2 σ2 m2 H2 w2 cu2 x2 sm2 => ?_⟩⟩⟩
    refine q r2 S2 σ2 m2 H2 w2 cu2 (x'.trans x2) fun vs hv => ?_
    obtain ⟨a1, a2⟩ := sm vs fun i hi => hv i (by simp [slotsGs, hi])
    obtain ⟨b1, b2⟩ := sm2 vs fun i hi => hv i (by simp [slotsGs, hi])
    exact ⟨b1.trans a1, b2.trans a2⟩
theorem g_tup {gs : Gs} {es : List Expr} {n : Nat} {pos : Pos} (G : Good X c C k) (hn : (assignEach es X.env).findIdx? (·.1) = none) (hl : (assignEach es X.env).length = es.length)
    (hlen : lenGs gs = es.length) (h : SGs X C m0 H0 gs es) : SG X C m0 H0 (.tup gs) (.Tuple es n pos) := by
  refine PG.imp (pg_tup G.calm h hl hn) fun v σ H Q ⟨m, r, S, d, Qd, cu, rd, w, q⟩ => ?_
  obtain ⟨ds, rfl, hd, w⟩ := w
  cases rd with
  | tup hs rs => exact ⟨_, _, rfl, hs, by rw [← rs.length, hd]; exact hlen, m, r, S, ds, Qd, cu, rs, w, q⟩
theorem assign_sub {o i : Expr} {pos : Pos} {env : Env} (h : notSlice i = true) : ∀ v, assign (.Subscript o i pos) env v = (do
      let ov ← holding [v] (eval o env)
      let iv ← holding [v, ov] (eval i env)
      standAt pos
      holding [v, ov, iv] (setItem ov iv v)
      release [v, ov, iv] []) := by
  intro _
  cases i <;> first
    | rfl
    | (simp [notSlice] at h)
theorem g_sub {o i : E} {p q : Expr} {pos : Pos} (hn : notSlice q = true) (ho : SE X C m0 H0 o p) (hi : SE X C m0 H0 i q) : SG X C m0 H0 (.sub o i) (.Subscript p q pos) := by
  refine PG.imp (pg_sub ho hi set_list (assign_sub hn)) fun v σ H Q ⟨m, r, S, d, Qd, cu, rd, w, q⟩ => TrE.of cu w fun x S1 xv m1 H1 w1 cu1 x1 rx => TrE.of cu1 w1 fun y S2 yv m2 H2 w2 cu2 x2 ry => ?_
  obtain ⟨n, rfl, k, rfl, l, e1, j, e2, w2⟩ := w2
  cases ry
  cases rx.mono x2 cu1.rel with
  | ref hn =>
    obtain ⟨vs, hv, rs⟩ := cu2.rel.lst e1 hn
    have rd2 := (rd.mono x1 cu.rel).mono x2 cu1.rel
    have x3 : Ext m2 H2 m2 (upd H2 _ (.lst (vs.set j v))) := .upd (List.mem_of_getElem? hn)
    exact ⟨_, vs, k, j, rfl, rfl, hv, by rw [← rs.length]; exact e2, q _ _ _ m2 _ w2 (cu2.move (cu2.rel.upd hn (RDs.set rd2 j rs)) x3) ((x1.trans x2).trans x3) fun vs hv => ⟨rfl, rfl⟩⟩
end
end Ev
set_option Elab.async false
set_option linter.all false
set_option maxRecDepth 100000
set_option maxHeartbeats 4000000
namespace Ev
open PySem PySem.Spec PyProof.Rows L2
/-! ## a list that is not of the store yet is filled -/
section
variable {K : FR} {m m0 m1 : List Addr} {S : Store} {H H0 H1 : Hp} {r : Rho} {σ : L2.St} {p : Addr} {av bv : List V}
theorem SqT.other (e : H p = some (.lst av)) {a : Addr} {vs : List V} (h : SqT K H a vs) : SqT K (upd H p (.lst bv)) a vs := by
  rcases h with (h | ⟨o, h⟩) | h
  · exact .inl (.inl (by rw [upd_ne (fun z => by rw [z, e] at h; cases h)]; exact h))
  · exact .inl (.inr ⟨o, by rw [upd_ne (fun z => by rw [z, e] at h; cases h)]; exact h⟩)
  · exact .inr h
theorem SqC.other (e : H p = some (.lst av)) {a : Addr} {vs : List V} (h : SqC K H a vs) : SqC K (upd H p (.lst bv)) a vs := by
  rcases h with ⟨o, h⟩ | h
  · exact .inl ⟨o, by rw [upd_ne (fun z => by rw [z, e] at h; cases h)]; exact h⟩
  · exact .inr h
theorem RD.other (e : H p = some (.lst av)) {d : D} {v : V} (h : RD K m H d v) : RD K m (upd H p (.lst bv)) d v :=
  RD.rec (motive_1 := fun d v _ => RD K m (upd H p (.lst bv)) d v) (motive_2 := fun ds vs _ => RDs K m (upd H p (.lst bv)) ds vs) .non .bl .int .str (fun h _ q => .tup (SqT.other e h) q) (fun h => .ref h) (fun h _ q => .cl (SqC.other e h) q) .nil (fun _ _ a b => .cons a b) h
theorem RDs.other (e : H p = some (.lst av)) {d : List D} {v : List V} (h : RDs K m H d v) : RDs K m (upd H p (.lst bv)) d v :=
  RDs.rec (motive_1 := fun d v _ => RD K m (upd H p (.lst bv)) d v) (motive_2 := fun ds vs _ => RDs K m (upd H p (.lst bv)) ds vs) .non .bl .int .str (fun h _ q => .tup (SqT.other e h) q) (fun h => .ref h) (fun h _ q => .cl (SqC.other e h) q) .nil (fun _ _ a b => .cons a b) h
theorem Rel.other (rel : Rel K m S H) (e : H p = some (.lst av)) (n : p ∉ m) : Rel K m S (L2.upd H p (.lst bv)) := by
  refine ⟨rel.len, rel.nd, fun k o a h1 h2 => ?_⟩
  have ne : a ≠ p := fun z => n (z ▸ List.mem_of_getElem? h2)
  have q := rel.ob k o a h1 h2
  cases o with
  | lst l =>
    obtain ⟨vs, hv, rs⟩ := q
    exact ⟨vs, (upd_ne ne).trans hv, rs.other e⟩
theorem Ext.other (x : Ext m1 H1 m H) (e : H1 p = none) : Ext m1 H1 m (L2.upd H p (.lst bv)) :=
  ⟨x.pre, x.new, fun b o q n => by rw [upd_ne (ne_of_none q e)]; exact x.keep b o q n⟩
theorem Ext.none_of (x : Ext m0 H0 m H) (e : H p = none) (n : p ∉ m) : H0 p = none := by
  cases q : H0 p with
  | none => rfl
  | some o =>
    by_cases hm : p ∈ m0
    · obtain ⟨t, et⟩ := x.pre
      exact absurd (by rw [et]; exact List.mem_append_left _ hm) n
    · rw [x.keep p o q hm] at e; cases e
theorem Cur.other (cu : Cur K m0 H0 m r S σ H) (e : H p = some (.lst av)) (n : p ∉ m) (e0 : H0 p = none) : Cur K m0 H0 m r S σ (upd H p (.lst bv)) :=
  ⟨cu.rel.other e n, cu.ext.other e0, cu.len, fun i d h => let ⟨v, e1, e2⟩ := cu.loc i d h; ⟨v, e1, e2.other e⟩⟩
end
section
variable {X : Cx} {c : Cxt} {C : CallH} {k : Nat} {m0 : List Addr} {H0 : Hp}
/-- a list comprehension's reading -/
theorem lc_r {elt : E} {g : G} {it : It} {cs : Es} {own : List Nat} (hown : ∀ i ∈ slotsG g, i ∈ own) {σ : L2.St} {H : Hp} {Q : VK} (h : TrE X.K m0 H0 (wpE C (.lc elt g it cs own)) σ H Q) :
    tLc (TrI X.K m0 H0 (wpI C it)) (TrG X.K m0 H0 (slotsG g) (wpG C g)) (TrT X.K m0 H0 (wpTs C cs)) (TrE X.K m0 H0 (wpE C elt)) own σ H Q := by
  obtain ⟨m, r, S, Qd, cu, w, q⟩ := h
  refine ⟨m, r, S, _, cu, w, fun src S1 m1 H1 J w1 rel1 x1 wk p hp => ?_⟩
  have cu1 := cu.move rel1 x1
  have hpm : p ∉ m1 := rel1.fresh hp
  have h0p : H0 p = none := cu1.ext.none_of hp hpm
  refine ⟨fun i n H2 => ∃ m2 S2 acc av, Cur X.K m0 H0 m2 (wipeD r own) S2 (wipe σ own) H2 ∧ Ext m1 H1 m2 H2 ∧ H2 p = some (.lst av) ∧ RDs X.K m2 H2 acc av ∧ p ∉ m2 ∧
      lcLoop src.stay (wpG C g) (wpTs C cs) (wpE C elt) (wipeD r own) (src.its.drop i) S2 acc (fun acc S2 => Qd (.ref S2.length) (S2 ++ [.lst acc])) ∧ n = src.its.length - i ∧ i ≤ src.its.length,
    ⟨src.its.length, m1, S1, [], [], (cu1.wipe own).move (cu1.rel.laid hp) (.laid hp), .laid hp, upd_same, .nil, hpm, (by rw [List.drop_zero]; exact w1), by simp, Nat.zero_le _⟩, ?_⟩
  rintro i n H2 ⟨m2, S2, acc, av, cu2, x2, e2, ra, np, w2, rfl, hi⟩
  by_cases hlt : i < src.its.length
  · rw [List.drop_eq_getElem_cons hlt] at w2
    obtain ⟨st, w2⟩ := w2
    refine .inr ⟨wk.go i m2 S2 H2 cu2.rel x2 st hlt, fun H' => ∃ m2 S2 acc av, Cur X.K m0 H0 m2 (wipeD r own) S2 (wipe σ own) H' ∧ Ext m1 H1 m2 H' ∧ H' p = some (.lst av) ∧ RDs X.K m2 H' acc av ∧ p ∉ m2 ∧
      lcLoop src.stay (wpG C g) (wpTs C cs) (wpE C elt) (wipeD r own) (src.its.drop (i + 1)) S2 acc (fun acc S2 => Qd (.ref S2.length) (S2 ++ [.lst acc])), fun H' ⟨a1, a2, a3, a4, b1, b2, b3, b4, b5, b6⟩ => ⟨src.its.length - (i + 1), by omega, a1, a2, a3, a4, b1, b2, b3, b4, b5, b6, rfl, hlt⟩, fun x H3 y => ?_⟩
    obtain ⟨d, ed, rel3, x3, rd⟩ := wk.yld i m2 S2 H2 x H3 cu2.rel x2 st y hlt
    rw [List.getElem?_eq_getElem hlt] at ed
    cases ed
    have cu3 := cu2.move rel3 x3
    refine ⟨m2, _, S2, _, _, cu3, rd, w2, fun r4 S4 σ4 m4 H4 w4 cu4 x4 sm => ?_⟩
    obtain ⟨s1, s2⟩ := sm own hown
    have ww : ∀ (σ : L2.St) (vs : List Nat), wipe (wipe σ vs) vs = wipe σ vs := fun σ vs => by
      have one : ∀ (vs : List Nat) (σ : L2.St) (v : Nat), wipe (σ.set v none) vs = (wipe σ vs).set v none := by
        intro vs
        induction vs with
        | nil => intro _ _; rfl
        | cons w ws ih =>
          intro σ v
          show (wipe (σ.set v none) ws).set w none = ((wipe σ ws).set w none).set v none
          rw [ih]
          by_cases hv : v = w
          · subst hv; rfl
          · rw [List.set_comm _ _ hv]
      induction vs generalizing σ with
      | nil => rfl
      | cons w ws ih =>
        show (wipe ((wipe σ ws).set w none) ws).set w none = (wipe σ ws).set w none
        rw [one, ih, List.set_set]
    have wwD : ∀ (r : Rho) (vs : List Nat), wipeD (wipeD r vs) vs = wipeD r vs := fun r vs => by
      have one : ∀ (vs : List Nat) (r : Rho) (v : Nat), wipeD (r.set v none) vs = (wipeD r vs).set v none := by
        intro vs
        induction vs with
        | nil => intro _ _; rfl
        | cons w ws ih =>
          intro r v
          show (wipeD (r.set v none) ws).set w none = ((wipeD r ws).set w none).set v none
          rw [ih]
          by_cases hv : v = w
          · subst hv; rfl
          · rw [List.set_comm _ _ hv]
      induction vs generalizing r with
      | nil => rfl
      | cons w ws ih =>
        show (wipeD ((wipeD r ws).set w none) ws).set w none = (wipeD r ws).set w none
        rw [one, ih, List.set_set]
    rw [ww] at s1
    rw [wwD] at s2
    refine ⟨s1, TrT.of cu4 w4 fun b S5 m5 H5 w5 cu5 x5 => ?_⟩
    -- back to the wiped names
    have back : ∀ {m6 S6 H6}, Cur X.K m0 H0 m6 r4 S6 σ4 H6 → Cur X.K m0 H0 m6 (wipeD r own) S6 (wipe σ own) H6 := fun {m6 S6 H6} cu6 => by
      have z := cu6.wipe own
      rw [s1, s2] at z
      exact z
    have x25 : Ext m2 H2 m5 H5 := (x3.trans x4).trans x5
    cases b with
    | false =>
      refine iteF ⟨m5, S5, acc, av, back cu5, x2.trans x25, x25.keep p _ e2 np, ra.mono x25 cu2.rel, x25.nin e2 np, ?_⟩
      exact (if_neg Bool.false_ne_true).mp w5
    | true =>
      refine iteT (TrE.of cu5 ((if_pos rfl).mp w5) fun y S6 yv m6 H6 w6 cu6 x6 ry => ?_)
      obtain ⟨hz, w6⟩ := w6
      have x26 := x25.trans x6
      have e6 := x26.keep p _ e2 np
      have n6 := x26.nin e2 np
      have ra6 := ra.mono x26 cu2.rel
      exact ⟨av, e6, by rw [← ra.length]; exact hz, m6, S6, acc ++ [y], av ++ [yv], (back cu6).other e6 n6 h0p, (x2.trans x26).other hp, upd_same, (ra6.app (.cons ry .nil)).other e6, n6, w6⟩
  · have hi2 : i = src.its.length := by omega
    subst hi2
    rw [List.drop_length] at w2
    obtain ⟨st, w2⟩ := w2
    refine .inl ⟨wk.stop _ m2 S2 H2 cu2.rel x2 st (Nat.le_refl _), ?_⟩
    obtain ⟨rel', mono⟩ := cu2.rel.adopt e2 np ra
    have xx : Ext m H (m2 ++ [p]) H2 := by
      have z := x1.trans x2
      refine ⟨?_, fun b hb => ?_, z.keep⟩
      · obtain ⟨t, et⟩ := z.pre
        exact ⟨t ++ [p], by rw [et, List.append_assoc]⟩
      · rcases List.mem_append.mp hb with hb | hb
        · exact z.new b hb
        · rw [List.mem_singleton.mp hb]
          exact .inr (x1.none_of hp hpm)
    exact q _ _ _ _ _ w2 rel' xx (.ref (by rw [← cu2.rel.len, List.getElem?_append_right (Nat.le_refl _)]; simp))
end
end Ev
set_option Elab.async false
set_option linter.all false
set_option maxRecDepth 100000
set_option maxHeartbeats 8000000
namespace Ev
open PySem PySem.Spec PyProof.Rows L2
section
variable {C : CallH} {k : Nat} {m0 : List Addr} {H0 : Hp}
theorem Good.blk {X : Cx} {c : Cxt} (G : Good X c C k) {s : Shared} {H : Hp} {scope : Scope} {cl : List (Str × Addr)} {a : Addr} {fp : List Addr} : Good (X.blk s H scope (compEnvC scope cl a X.env) fp) (c.blk scope) C k where
  N := G.N
  nd := G.nd
  sc := by
    show relS scope X.env.scope = relS scope c.sc
    rw [G.sc]
  fn := fun x h => h
  calm := G.calm
  room := G.room
  own := PassesOwn.never
  tab := G.tab
section
variable {X : Cx} {c : Cxt}
theorem both {e : E} {a : Expr} (h : SE X C m0 H0 e a) (hp : plainTest a = true) (hw : wpT C e = (dfl (wpE C e)).t) : SE X C m0 H0 e a ∧ STt X C m0 H0 e a := ⟨h, s_test h hp hw⟩
theorem t_cmp {op : Cop} {x y : E} {p q : Expr} {o : CmpOp} {pos : Pos} (G : Good X c C k) (ho : copIs o op = true) (hm : behindInMarks o q = false) (hx : SE X C m0 H0 x p) (hy : SE X C m0 H0 y q) : STt X C m0 H0 (.cmp op x y) (.Compare p [o] [q] pos) := by
  have e := copIs_eq ho
  subst e
  refine PT.imp (pt_cmpR (op_cmp (hu65 G) op) hx hy hm) fun σ H Q ⟨m, r, S, Qd, cu, w, q⟩ => TrE.of cu w fun x S1 xv m1 H1 w1 cu1 x1 rx => TrE.of cu1 w1 fun y S2 yv m2 H2 w2 cu2 x2 ry => ?_
  refine cmp_r op cu2.rel (rx.mono x2 cu1.rel) ry (wpCmp_bl w2) fun d S3 v m3 H3 w3 rel3 x3 rd => ?_
  obtain ⟨b, rfl, w3⟩ := w3
  cases rd
  exact ⟨b, rfl, q b S3 m3 H3 w3 rel3 ((x1.trans x2).trans x3)⟩
theorem t_chain {o1 o2 : Cop} {x y z : E} {p q r : Expr} {k1 k2 : CmpOp} {pos : Pos} (G : Good X c C k) (h1 : copIs k1 o1 = true) (h2 : copIs k2 o2 = true) (hm : lastMarks [k1, k2] [q, r] = false) (hx : SE X C m0 H0 x p) (hy : SE X C m0 H0 y q) (hz : SE X C m0 H0 z r) :
    STt X C m0 H0 (.chain o1 o2 x y z) (.Compare p [k1, k2] [q, r] pos) := by
  have e1 := copIs_eq h1
  have e2 := copIs_eq h2
  subst e1 e2
  refine PT.imp (pt_chain (op_cmp (hu65 G) o1) (op_cmp (hu65 G) o2) hx hy hz hm) fun σ H Q ⟨m, r, S, Qd, cu, w, q⟩ => TrE.of cu w fun x S1 xv m1 H1 w1 cu1 x1 rx => TrE.of cu1 w1 fun y S2 yv m2 H2 w2 cu2 x2 ry => ?_
  refine cmp_r o1 cu2.rel (rx.mono x2 cu1.rel) ry w2 fun d S3 v m3 H3 w3 rel3 x3 rd => ?_
  obtain ⟨b, rfl, w3⟩ := w3
  cases rd
  refine ⟨b, rfl, ?_⟩
  have cu3 := cu2.move rel3 x3
  have x03 := (x1.trans x2).trans x3
  cases b with
  | false =>
    obtain ⟨b', eb, w3⟩ := w3
    cases eb
    exact iteF ⟨false, rfl, q false S3 m3 H3 w3 cu3.rel x03⟩
  | true =>
    refine iteT (TrE.of cu3 w3 fun z S4 zv m4 H4 w4 cu4 x4 rz => cmp_r o2 cu4.rel (ry.mono (x3.trans x4) cu2.rel) rz (wpCmp_bl w4) fun d S5 v m5 H5 w5 rel5 x5 rd => ?_)
    obtain ⟨b', rfl, w5⟩ := w5
    cases rd
    exact ⟨b', rfl, q b' S5 m5 H5 w5 rel5 ((x03.trans x4).trans x5)⟩
theorem pwOf {op : BoolOp} {vs : List Expr} {pos : Pos} {t : TT} (h : PT X (.BoolOp op vs pos) t) : PW X (.BoolOp op vs pos) t := ⟨fun _ pins s σ H Q I q => h.run pins s σ H Q I q⟩
theorem fold_of {iter : Expr} (h : ∀ l n p, iter ≠ .Set l n p) : ∀ x, foldedSetIterable iter X.env x = pure x := by
  intro x
  cases iter <;> first
    | rfl
    | exact absurd rfl (h _ _ _)
theorem mI_set {it : It} {a : Expr} (h : mI it c a = true) : ∀ l n p, a ≠ .Set l n p := by
  intro l n p z
  subst z
  cases it <;> simp [mI] at h
theorem own_eq {N : List Str} {own : List Nat} (h : (ownOf N own).map (·.2) = own) : (ownOf N own).map (·.2) = own := h
end
theorem mG_star : ∀ (g : G) {c : Cxt} {a : Expr}, mG g c a = true → ∀ v p, a ≠ .Starred v p := by
  intro g c a h v p z
  subst z
  cases g <;> simp [mG] at h
theorem mGs_len : ∀ (gs : Gs) {c : Cxt} {es : List Expr} {env : Env}, mGs gs c es = true → lenGs gs = es.length ∧ (assignEach es env).length = es.length ∧ (assignEach es env).findIdx? (·.1) = none
  | .nil, _, es, env, h => by
    cases es with
    | nil => exact ⟨rfl, rfl, rfl⟩
    | cons _ _ => simp [mGs] at h
  | .cons g gs, c, es, env, h => by
    cases es with
    | nil => simp [mGs] at h
    | cons p ps =>
      obtain ⟨h1, h2⟩ := and2 (show (mG g c p && mGs gs c ps) = true from h)
      obtain ⟨i1, i2, i3⟩ := mGs_len (env := env) gs h2
      obtain ⟨_, a2, a3⟩ := assignEach_of (env := env) (es := ps) (mG_star g h1)
      exact ⟨congrArg (· + 1) i1, by rw [a2, i2]; rfl, a3 i3⟩
theorem s_lc {elt : E} {g : G} {it : It} {cs : Es} {own : List Nat} {X : Cx} {c : Cxt} {e tg iter : Expr} {ifs : List Expr} {scope : Scope} {pos : Pos} (G : Good X c C k) (h1 : blkC c.N c.sc scope (ownOf c.N own) = true) (ho : (ownOf c.N own).map (·.2) = own)
    (hown : ∀ i ∈ slotsG g, i ∈ own) (hset : ∀ l n p, iter ≠ .Set l n p) (hI : SI X C m0 H0 it tg iter) (hG : ∀ (s : Shared) (H : Hp) (a : Addr) (cl : List (Str × Addr)) (fp : List Addr), PG (X.blk s H scope (compEnvC scope cl a X.env) fp) tg (TrG X.K m0 H0 (slotsG g) (wpG C g)))
    (hT : ∀ (s : Shared) (H : Hp) (a : Addr) (cl : List (Str × Addr)) (fp : List Addr), PTs (X.blk s H scope (compEnvC scope cl a X.env) fp) ifs (TrT X.K m0 H0 (wpTs C cs)))
    (hE : ∀ (s : Shared) (H : Hp) (a : Addr) (cl : List (Str × Addr)) (fp : List Addr), PE (X.blk s H scope (compEnvC scope cl a X.env) fp) e (TrE X.K m0 H0 (wpE C elt))) : SE X C m0 H0 (.lc elt g it cs own) (.ListComp e [⟨tg, iter, ifs, 0⟩] scope pos) := by
  have hb : BlkOk X.N X.env.scope scope (ownOf c.N own) := by
    rw [G.N, G.sc]
    exact blkOk_by h1
  refine PE.imp (pe_lc (own := ownOf c.N own) G.calm (by rw [G.N]; exact G.nd) hI hb hG hT hE (fold_of hset)) fun σ H Q w => ?_
  rw [ho]
  exact lc_r hown w
mutual
theorem snd_E : ∀ (e : E) {X : Cx} {c : Cxt} {a : Expr}, Good X c C k → mE e c a = true → SE X C m0 H0 e a ∧ STt X C m0 H0 e a
  | .var i, X, c, a, G, h => by
    refine both (s_var G h) ?_ rfl
    cases a <;> first
      | (simp [mE] at h; done)
      | rfl
  | .cst n, X, c, a, G, h => by
    refine both (s_cst (c := c) h) ?_ rfl
    cases a <;> first
      | (simp [mE] at h; done)
      | rfl
  | .bin op x y, X, c, a, G, h => by
    cases a <;> first
      | (simp [mE] at h; done)
      | skip
    obtain ⟨h1, h2⟩ := and2 h
    obtain ⟨h2, h3⟩ := and2 h2
    exact both (s_bin h1 (snd_E x G h2).1 (snd_E y G h3).1) rfl rfl
  | .neg x, X, c, a, G, h => by
    cases a <;> first
      | (simp [mE] at h; done)
      | skip
    rename_i op p pos
    cases op <;> first
      | (simp [mE] at h; done)
      | skip
    exact both (s_neg (snd_E x G h).1) rfl rfl
  | .cmp op x y, X, c, a, G, h => by
    cases a <;> first
      | (simp [mE] at h; done)
      | skip
    rename_i p os qs pos
    match os, qs, h with
    | [o], [q], h =>
      obtain ⟨h1, h2⟩ := and2 h
      obtain ⟨h2, h3⟩ := and2 h2
      obtain ⟨h3, h4⟩ := and2 h3
      have hm : behindInMarks o q = false := by simpa using h2
      exact ⟨s_cmp G h1 hm (snd_E x G h3).1 (snd_E y G h4).1, t_cmp G h1 hm (snd_E x G h3).1 (snd_E y G h4).1⟩
  | .chain o1 o2 x y z, X, c, a, G, h => by
    cases a <;> first
      | (simp [mE] at h; done)
      | skip
    rename_i p os qs pos
    match os, qs, h with
    | [k1, k2], [q, r], h =>
      obtain ⟨h1, h2⟩ := and2 h
      obtain ⟨h2, h3⟩ := and2 h2
      obtain ⟨h3, h4⟩ := and2 h3
      obtain ⟨h4, h5⟩ := and2 h4
      obtain ⟨h5, h6⟩ := and2 h5
      have hm : lastMarks [k1, k2] [q, r] = false := by simpa using h3
      exact ⟨s_chain G h1 h2 hm (snd_E x G h4).1 (snd_E y G h5).1 (snd_E z G h6).1, t_chain G h1 h2 hm (snd_E x G h4).1 (snd_E y G h5).1 (snd_E z G h6).1⟩
  | .and x y, X, c, a, G, h => by
    cases a <;> first
      | (simp [mE] at h; done)
      | skip
    rename_i op l pos
    cases op <;> first
      | (simp [mE] at h; done)
      | skip
    match l, h with
    | p :: q :: [], h =>
      obtain ⟨h1, h2⟩ := and2 h
      obtain ⟨x1, x2⟩ := snd_E x G h1
      obtain ⟨y1, y2⟩ := snd_E y G h2
      exact ⟨s_andv x1 (pe_one y1), (s_andt x2 (pw_and1 y2)).pt⟩
    | p :: q :: r0 :: rs, h =>
      obtain ⟨h1, h2⟩ := and2 h
      obtain ⟨x1, x2⟩ := snd_E x G h1
      obtain ⟨y1, y2⟩ := snd_E y G h2
      exact ⟨s_andv x1 y1, (s_andt x2 (pwOf y2)).pt⟩
  | .or x y, X, c, a, G, h => by
    cases a <;> first
      | (simp [mE] at h; done)
      | skip
    rename_i op l pos
    cases op <;> first
      | (simp [mE] at h; done)
      | skip
    match l, h with
    | p :: q :: [], h =>
      obtain ⟨h1, h2⟩ := and2 h
      obtain ⟨x1, x2⟩ := snd_E x G h1
      obtain ⟨y1, y2⟩ := snd_E y G h2
      exact ⟨s_orv x1 (pe_one y1), (s_ort x2 (pw_or1 y2)).pt⟩
    | p :: q :: r0 :: rs, h =>
      obtain ⟨h1, h2⟩ := and2 h
      obtain ⟨x1, x2⟩ := snd_E x G h1
      obtain ⟨y1, y2⟩ := snd_E y G h2
      exact ⟨s_orv x1 y1, (s_ort x2 (pwOf y2)).pt⟩
  | .not x, X, c, a, G, h => by
    cases a <;> first
      | (simp [mE] at h; done)
      | skip
    rename_i op p pos
    cases op <;> first
      | (simp [mE] at h; done)
      | skip
    obtain ⟨x1, x2⟩ := snd_E x G h
    exact ⟨s_notv x1, s_nott x2⟩
  | .ite t x y, X, c, a, G, h => by
    cases a <;> first
      | (simp [mE] at h; done)
      | skip
    obtain ⟨h1, h2⟩ := and2 h
    obtain ⟨h2, h3⟩ := and2 h2
    exact ⟨s_ite (snd_E t G h1).2 (snd_E x G h2).1 (snd_E y G h3).1, ⟨fun _ _ _ _ _ _ ⟨_, _, _, _, _, w, _⟩ => (show False from w).elim⟩⟩
  | .tup es, X, c, a, G, h => by
    cases a <;> first
      | (simp [mE] at h; done)
      | skip
    obtain ⟨h1, h2⟩ := and2 h
    exact both (s_tup (snd_Es es G h2) (of_decide_eq_true h1)) rfl rfl
  | .lst es, X, c, a, G, h => by
    cases a <;> first
      | (simp [mE] at h; done)
      | skip
    obtain ⟨h1, h2⟩ := and2 h
    exact both (s_lst (snd_Es es G h2) (of_decide_eq_true h1)) rfl rfl
  | .idx x y, X, c, a, G, h => by
    cases a <;> first
      | (simp [mE] at h; done)
      | skip
    obtain ⟨h1, h2⟩ := and2 h
    obtain ⟨h2, h3⟩ := and2 h2
    exact both (s_idx h1 (snd_E x G h2).1 (snd_E y G h3).1) rfl rfl
  | .slc x lo hi, X, c, a, G, h => by
    cases a <;> first
      | (simp [mE] at h; done)
      | skip
    rename_i p q pos
    cases q <;> first
      | (simp [mE] at h; done)
      | skip
    rename_i l u st pos2
    cases st with
    | some _ => simp [mE] at h
    | none =>
      obtain ⟨h1, h2⟩ := and2 h
      obtain ⟨h2, h3⟩ := and2 h2
      exact both (s_slc (snd_E x G h1).1 (snd_Eo lo G h2) (snd_Eo hi G h3)) rfl rfl
  | .call f es, X, c, a, G, h => by
    cases a <;> first
      | (simp [mE] at h; done)
      | skip
    rename_i fn l ks pos
    cases fn <;> first
      | (simp [mE] at h; done)
      | skip
    rename_i x pos2
    match ks, h with
    | [], h =>
      obtain ⟨h1, g2⟩ := and2 h
      obtain ⟨g3, h3⟩ := and2 g2
      cases q : c.T[f]? with
      | none => rw [q] at g3; cases g3
      | some i =>
        rw [q] at g3
        obtain ⟨g4, g5⟩ := and2 g3
        have hS := snd_Es es G h3
        cases l with
        | nil =>
          cases es with
          | nil => exact both (s_call0 G h1 q (of_decide_eq_true g4) (of_decide_eq_true g5)) rfl rfl
          | cons _ _ => simp [mEs] at h3
        | cons e l => exact both (s_call G h1 q (of_decide_eq_true g4) (of_decide_eq_true g5) (mEs_star es h3) hS) rfl rfl
  | .callK f es ks zs perm, X, c, a, G, h => by
    cases a <;> first
      | (simp [mE] at h; done)
      | skip
    rename_i fn l kws pos
    cases fn <;> first
      | (simp [mE] at h; done)
      | skip
    rename_i x pos2
    obtain ⟨h1, h2⟩ := and2 h
    obtain ⟨h2, h3⟩ := and2 h2
    obtain ⟨h3, h4⟩ := and2 h3
    obtain ⟨h4, h5⟩ := and2 h4
    cases q : c.T[f]? with
    | none => rw [q] at h2; cases h2
    | some i =>
      rw [q] at h2
      obtain ⟨h2, h6⟩ := and2 h2
      obtain ⟨h6, h7⟩ := and2 h6
      have h7 : i.ps.length = perm.length ∧ lenEs zs = ks.length ∧ ∀ j ∈ perm, j < lenEs es + lenEs zs := of_decide_eq_true h7
      refine both (s_callK G h1 q (of_decide_eq_true h2) (of_decide_eq_true h6) (of_decide_eq_true h3) h7.1 h7.2.1 h7.2.2 (mEs_star es h4) (fun hl => ?_) (snd_Es es G h4) (snd_Ks zs G h5)) rfl rfl
      subst hl
      cases es with
      | nil => rfl
      | cons _ _ => simp [mEs] at h4
  | .bi b es, X, c, a, G, h => by
    cases a <;> first
      | (simp [mE] at h; done)
      | skip
    rename_i fn l ks pos
    cases fn <;> first
      | (simp [mE] at h; done)
      | skip
    rename_i x pos2
    match l, ks, h with
    | e :: l, [], h =>
      obtain ⟨h1, h2⟩ := and2 h
      obtain ⟨h2, h3⟩ := and2 h2
      exact both (s_bi G h1 (of_decide_eq_true h2) (mEs_star es h3) (snd_Es es G h3)) rfl rfl
  | .isi x t, X, c, a, G, h => by
    cases a <;> first
      | (simp [mE] at h; done)
      | skip
    rename_i fn l ks pos
    cases fn <;> first
      | (simp [mE] at h; done)
      | skip
    rename_i f pos2
    match l, ks, h with
    | [p, .Name ty p3], [], h =>
      obtain ⟨h1, h2⟩ := and2 h
      obtain ⟨h2, h3⟩ := and2 h2
      obtain ⟨h3, h4⟩ := and2 h3
      obtain ⟨h4, h5⟩ := and2 h4
      exact both (s_isi G h1 (of_decide_eq_true h2) h3 (of_decide_eq_true h4) (mE_star x h5) (snd_E x G h5).1) rfl rfl
  | .meth me o es, X, c, a, G, h => by
    cases a <;> first
      | (simp [mE] at h; done)
      | skip
    rename_i fn l ks pos
    cases fn <;> first
      | (simp [mE] at h; done)
      | skip
    rename_i p x ap
    match ks, h with
    | [], h =>
      obtain ⟨h1, g1⟩ := and2 h
      obtain ⟨g2, g3⟩ := and2 g1
      obtain ⟨h3, g4⟩ := and2 g3
      obtain ⟨h4, g5⟩ := and2 g4
      obtain ⟨h5, h6⟩ := and2 g5
      have h2 : l.length < 29 ∧ (l.isEmpty = true → me.zero = true) := of_decide_eq_true g2
      cases l with
      | nil =>
        cases es with
        | nil =>
          have hz := h2.2 rfl
          cases me <;> first
            | (cases hz; done)
            | exact both (s_meth0 (of_decide_eq_true h1) h3 h4 (snd_E o G h5).1) rfl rfl
        | cons _ _ => simp [mEs] at h6
      | cons e l => exact both (s_meth (of_decide_eq_true h1) h2.1 h3 h4 (mEs_star es h6) (snd_E o G h5).1 (snd_Es es G h6)) rfl rfl
  | .lc elt g it cs own, X, c, a, G, h => by
    cases a <;> first
      | (simp [mE] at h; done)
      | skip
    rename_i e gens scope pos
    match gens, h with
    | [⟨tg, iter, ifs, 0⟩], h =>
      obtain ⟨h1, g1⟩ := and2 h
      obtain ⟨h2, g2⟩ := and2 g1
      obtain ⟨h3, g3⟩ := and2 g2
      obtain ⟨h4, g4⟩ := and2 g3
      obtain ⟨h5, g5⟩ := and2 g4
      obtain ⟨h6, h7⟩ := and2 g5
      exact both (s_lc G h1 (of_decide_eq_true h2) (of_decide_eq_true h3) (mI_set h4) (snd_I it G h4) (fun s H a cl fp => snd_G g G.blk h5) (fun s H a cl fp => snd_Ts cs G.blk h6) (fun s H a cl fp => (snd_E elt G.blk h7).1)) rfl rfl
theorem snd_Es : ∀ (es : Es) {X : Cx} {c : Cxt} {l : List Expr}, Good X c C k → mEs es c l = true → SA X C m0 H0 es l
  | .nil, X, c, l, G, h => by
    cases l with
    | nil => exact a_nil
    | cons _ _ => simp [mEs] at h
  | .cons e r, X, c, l, G, h => by
    cases l with
    | nil => simp [mEs] at h
    | cons p ps =>
      obtain ⟨h1, h2⟩ := and2 (show (mE e c p && mEs r c ps) = true from h)
      exact a_cons (mE_star e h1) (snd_E e G h1).1 (snd_Es r G h2)
theorem snd_Ks : ∀ (es : Es) {X : Cx} {c : Cxt} {l : List Keyword}, Good X c C k → mKs es c l = true → SK X C m0 H0 es l
  | .nil, X, c, l, G, h => by
    cases l with
    | nil => exact k_nil
    | cons _ _ => simp [mKs] at h
  | .cons e r, X, c, l, G, h => by
    cases l with
    | nil => simp [mKs] at h
    | cons p ps =>
      obtain ⟨n, p, o⟩ := p
      obtain ⟨h1, h2⟩ := and2 (show (mE e c p && mKs r c ps) = true from h)
      exact k_cons (snd_E e G h1).1 (snd_Ks r G h2)
theorem snd_Ts : ∀ (es : Es) {X : Cx} {c : Cxt} {l : List Expr}, Good X c C k → mTs es c l = true → PTs X l (TrT X.K m0 H0 (wpTs C es))
  | .nil, X, c, l, G, h => by
    cases l with
    | nil => exact PTs.imp pts_nil fun σ H Q ⟨m, r, S, Qd, cu, w, q⟩ => q true S m H w cu.rel .refl
    | cons _ _ => simp [mTs] at h
  | .cons e r, X, c, l, G, h => by
    match l, h with
    | [p], h => exact pts_one (snd_E e G h).2
theorem snd_Eo : ∀ (e : Eo) {X : Cx} {c : Cxt} {l : Option Expr}, Good X c C k → mEo e c l = true → SO X C m0 H0 e l
  | .none, X, c, l, G, h => by
    cases l with
    | none => exact o_none
    | some _ => simp [mEo] at h
  | .some e, X, c, l, G, h => by
    cases l with
    | none => simp [mEo] at h
    | some p => exact o_some (snd_E e G h).1
theorem snd_G : ∀ (g : G) {X : Cx} {c : Cxt} {a : Expr}, Good X c C k → mG g c a = true → SG X C m0 H0 g a
  | .name i, X, c, a, G, h => by
    cases a <;> first
      | (simp [mG] at h; done)
      | skip
    exact g_name G h
  | .tup gs, X, c, a, G, h => by
    cases a <;> first
      | (simp [mG] at h; done)
      | skip
    rename_i es n pos
    obtain ⟨l1, l2, l3⟩ := mGs_len (env := X.env) gs (show mGs gs c es = true from h)
    exact g_tup G l3 l2 l1 (snd_Gs gs G h)
  | .sub o i, X, c, a, G, h => by
    cases a <;> first
      | (simp [mG] at h; done)
      | skip
    obtain ⟨h1, h2⟩ := and2 h
    obtain ⟨h2, h3⟩ := and2 h2
    exact g_sub h1 (snd_E o G h2).1 (snd_E i G h3).1
theorem snd_Gs : ∀ (gs : Gs) {X : Cx} {c : Cxt} {l : List Expr}, Good X c C k → mGs gs c l = true → SGs X C m0 H0 gs l
  | .nil, X, c, l, G, h => by
    cases l with
    | nil => exact gs_nil
    | cons _ _ => simp [mGs] at h
  | .cons g r, X, c, l, G, h => by
    cases l with
    | nil => simp [mGs] at h
    | cons p ps =>
      obtain ⟨h1, h2⟩ := and2 (show (mG g c p && mGs r c ps) = true from h)
      exact gs_cons (mG_star g h1) (snd_G g G h1) (snd_Gs r G h2)
theorem snd_I : ∀ (it : It) {X : Cx} {c : Cxt} {tg a : Expr}, Good X c C k → mI it c a = true → SI X C m0 H0 it tg a
  | .val e, X, c, tg, a, G, h => by
    have h' : mE e c a = true := by cases a <;> first
      | exact h
      | (simp [mI] at h)
    exact i_val (snd_E e G h').1
  | .rng1 x, X, c, tg, a, G, h => by
    cases a <;> first
      | (simp [mI] at h; done)
      | skip
    rename_i fn l ks pos
    cases fn <;> first
      | (simp [mI] at h; done)
      | skip
    match l, ks, h with
    | [p], [], h =>
      obtain ⟨h1, h2⟩ := and2 h
      obtain ⟨h2, h3⟩ := and2 h2
      exact i_rng1 G h1 (of_decide_eq_true h2) (mE_star x h3) (snd_E x G h3).1
  | .rng2 x y, X, c, tg, a, G, h => by
    cases a <;> first
      | (simp [mI] at h; done)
      | skip
    rename_i fn l ks pos
    cases fn <;> first
      | (simp [mI] at h; done)
      | skip
    match l, ks, h with
    | [p, q], [], h =>
      obtain ⟨h1, h2⟩ := and2 h
      obtain ⟨h2, h3⟩ := and2 h2
      obtain ⟨h3, h4⟩ := and2 h3
      exact i_rng2 G h1 (of_decide_eq_true h2) (mE_star x h3) (mE_star y h4) (snd_E x G h3).1 (snd_E y G h4).1
end
end
end Ev
set_option Elab.async false
set_option linter.all false
set_option maxRecDepth 100000
set_option maxHeartbeats 8000000
namespace Ev
open PySem PySem.Spec PyProof.Rows L2
/-! ## statements -/
section
variable {C : CallH} {k : Nat} {m0 : List Addr} {H0 : Hp} {X : Cx} {c : Cxt}
abbrev SS (X : Cx) (C : CallH) (m0 : List Addr) (H0 : Hp) (s : Sm) (a : Stmt) : Prop := PS X a (TrS X.K m0 H0 (wpS C s))
abbrev SB (X : Cx) (C : CallH) (m0 : List Addr) (H0 : Hp) (s : Bs) (a : List Stmt) : Prop := PSs X a (TrS X.K m0 H0 (wpB C s))
theorem swaps_no {e : Expr} (h : notComp e = true) (t : Option Expr) (l : Nat) (env : Env) : swapsWith e t l env = pure false := by
  cases e <;> first
    | rfl
    | (simp [notComp] at h)
section
variable {K : FR} {m m1 : List Addr} {H H1 : Hp}
/-- the four ways out, from further on -/
theorem TrS.on {De : Ends} {σ : L2.St} {r : Rho} {S : Store} {N : Dn} {w : Dn → Rho → Store → Prop} (cu : Cur K m0 H0 m1 r S σ H1) (x : Ext m H m1 H1) (h : w N r S)
    (h1 : ∀ r' S' σ' m' H', N.nx r' S' → Cur K m0 H0 m' r' S' σ' H' → Ext m H m' H' → De.nx σ' H') (h2 : ∀ d S' v m' H', N.rt d S' → Rel K m' S' H' → Ext m H m' H' → RD K m' H' d v → De.rt v H')
    (h3 : ∀ r' S' σ' m' H', N.bk r' S' → Cur K m0 H0 m' r' S' σ' H' → Ext m H m' H' → De.bk σ' H') (h4 : ∀ r' S' σ' m' H', N.ct r' S' → Cur K m0 H0 m' r' S' σ' H' → Ext m H m' H' → De.ct σ' H') : TrS K m0 H0 w De σ H1 :=
  ⟨m1, r, S, N, cu, h, fun r' S' σ' m' H' a b y => h1 r' S' σ' m' H' a b (x.trans y), fun d S' v m' H' a b y z => h2 d S' v m' H' a b (x.trans y) z, fun r' S' σ' m' H' a b y => h3 r' S' σ' m' H' a b (x.trans y), fun r' S' σ' m' H' a b y => h4 r' S' σ' m' H' a b (x.trans y)⟩
end
theorem s_expr {e : E} {a : Expr} {pos : Pos} (hn : notComp a = true) (h : SE X C m0 H0 e a) : SS X C m0 H0 (.expr e) (.Expr a pos) :=
  PS.imp (ps_expr h (swaps_no hn _ _ _)) fun De σ H ⟨m, r, S, N, cu, w, h1, h2, h3, h4⟩ => TrE.of cu w fun d S1 v m1 H1 w1 cu1 x1 rd => h1 _ _ _ _ _ w1 cu1 x1
theorem s_ret {e : E} {a : Expr} {pos : Pos} (h : SE X C m0 H0 e a) : SS X C m0 H0 (.ret e) (.Return (some a) pos) :=
  PS.imp (ps_ret h) fun De σ H ⟨m, r, S, N, cu, w, h1, h2, h3, h4⟩ => TrE.of cu w fun d S1 v m1 H1 w1 cu1 x1 rd => h2 _ _ _ _ _ w1 cu1.rel x1 rd
theorem s_retN {pos : Pos} : SS X C m0 H0 .retN (.Return none pos) :=
  PS.imp ps_retN fun De σ H ⟨m, r, S, N, cu, w, h1, h2, h3, h4⟩ => h2 _ _ _ _ _ w cu.rel .refl .non
theorem s_pass {pos : Pos} : SS X C m0 H0 .pass (.Pass pos) := PS.imp ps_pass fun De σ H ⟨m, r, S, N, cu, w, h1, h2, h3, h4⟩ => h1 _ _ _ _ _ w cu .refl
theorem s_brk {pos : Pos} : SS X C m0 H0 .brk (.Break pos) := PS.imp ps_break fun De σ H ⟨m, r, S, N, cu, w, h1, h2, h3, h4⟩ => h3 _ _ _ _ _ w cu .refl
theorem s_cont {pos : Pos} : SS X C m0 H0 .cont (.Continue pos) := PS.imp ps_continue fun De σ H ⟨m, r, S, N, cu, w, h1, h2, h3, h4⟩ => h4 _ _ _ _ _ w cu .refl
theorem s_ifs {t : E} {a b : Bs} {p : Expr} {q r : List Stmt} {pos : Pos} (ht : STt X C m0 H0 t p) (ha : SB X C m0 H0 a q) (hb : SB X C m0 H0 b r) : SS X C m0 H0 (.ifs t a b) (.If p q r pos) := by
  refine PS.imp (ps_if ht ha hb) fun De σ H ⟨m, r, S, N, cu, w, h1, h2, h3, h4⟩ => TrT.of cu w fun d S1 m1 H1 w1 cu1 x1 => ?_
  cases d with
  | true => exact iteT (TrS.on cu1 x1 w1 h1 h2 h3 h4)
  | false => exact iteF (TrS.on cu1 x1 w1 h1 h2 h3 h4)
theorem s_whl {t : E} {b : Bs} {p : Expr} {q : List Stmt} {pos : Pos} (G : Good X c C k) (ht : STt X C m0 H0 t p) (hb : SB X C m0 H0 b q) : SS X C m0 H0 (.whl t b) (.While p q [] pos) := by
  refine PS.imp (ps_while G.own ht hb) fun De σ H ⟨m, r, S, N, cu, w, h1, h2, h3, h4⟩ => ?_
  obtain ⟨W, ⟨n0, w0⟩, turn⟩ := w
  refine ⟨fun n σ' H' => ∃ m' r' S', Cur X.K m0 H0 m' r' S' σ' H' ∧ Ext m H m' H' ∧ W n r' S', ⟨n0, m, r, S, cu, .refl, w0⟩, ?_⟩
  rintro n σ1 H1 ⟨m1, r1, S1, cu1, x1, w1⟩
  refine TrT.of cu1 (turn n r1 S1 w1) fun d S2 m2 H2 w2 cu2 x2 => ?_
  cases d with
  | false => exact iteF (h1 _ _ _ _ _ w2 cu2 (x1.trans x2))
  | true =>
    refine iteT ⟨fun σ' H' => ∃ n', n' < n ∧ ∃ m' r' S', Cur X.K m0 H0 m' r' S' σ' H' ∧ Ext m H m' H' ∧ W n' r' S', fun σ' H' ⟨n', hn, z⟩ => ⟨n', hn, z⟩, ?_⟩
    refine TrS.on (m := m) (H := H) cu2 (x1.trans x2) w2 ?_ h2 ?_ ?_
    · rintro r' S' σ' m' H' ⟨n', hn, z⟩ cu' x'
      exact ⟨n', hn, m', r', S', cu', x', z⟩
    · exact fun r' S' σ' m' H' z cu' x' => h1 r' S' σ' m' H' z cu' x'
    · rintro r' S' σ' m' H' ⟨n', hn, z⟩ cu' x'
      exact ⟨n', hn, m', r', S', cu', x', z⟩
theorem s_fors {g : G} {it : It} {b : Bs} {p q : Expr} {l : List Stmt} {pos : Pos} (G : Good X c C k) (hset : ∀ l n o, q ≠ .Set l n o) (hg : SG X C m0 H0 g p) (hi : SI X C m0 H0 it p q) (hb : SB X C m0 H0 b l) : SS X C m0 H0 (.fors g it b) (.For p q l [] pos) := by
  refine PS.imp (ps_for G.own G.calm hi hg hb (fold_of hset)) fun De σ H ⟨m, r, S, N, cu, w, h1, h2, h3, h4⟩ => ?_
  refine ⟨m, r, S, _, cu, w, fun src S1 m1 H1 J w1 rel1 x1 wk => ?_⟩
  refine ⟨fun i n σ' H' => ∃ m' r' S', Cur X.K m0 H0 m' r' S' σ' H' ∧ Ext m1 H1 m' H' ∧ forLoop src.stay (wpG C g) (wpB C b) N (src.its.drop i) r' S' ∧ n = src.its.length - i ∧ i ≤ src.its.length,
    ⟨src.its.length, m1, r, S1, cu.move rel1 x1, .refl, (by rw [List.drop_zero]; exact w1), by simp, Nat.zero_le _⟩, ?_⟩
  rintro i n σ2 H2 ⟨m2, r2, S2, cu2, x2, w2, rfl, hi⟩
  by_cases hlt : i < src.its.length
  · rw [List.drop_eq_getElem_cons hlt] at w2
    obtain ⟨st, w2⟩ := w2
    refine .inr ⟨wk.go i m2 S2 H2 cu2.rel x2 st hlt, fun σ' H' => ∃ m' r' S', Cur X.K m0 H0 m' r' S' σ' H' ∧ Ext m1 H1 m' H' ∧ forLoop src.stay (wpG C g) (wpB C b) N (src.its.drop (i + 1)) r' S',
      fun σ' H' ⟨m', r', S', a, b', d⟩ => ⟨src.its.length - (i + 1), by omega, m', r', S', a, b', d, rfl, hlt⟩, fun x H3 y => ?_⟩
    obtain ⟨d, ed, rel3, x3, rd⟩ := wk.yld i m2 S2 H2 x H3 cu2.rel x2 st y hlt
    rw [List.getElem?_eq_getElem hlt] at ed
    cases ed
    refine ⟨m2, r2, S2, _, _, cu2.move rel3 x3, rd, w2, fun r4 S4 σ4 m4 H4 w4 cu4 x4 sm => ?_⟩
    have x14 := (x2.trans x3).trans x4
    refine TrS.on (m := m1) (H := H1) cu4 x14 w4 ?_ ?_ ?_ ?_
    · exact fun r' S' σ' m' H' z cu' x' => ⟨m', r', S', cu', x', z⟩
    · exact fun d S' v m' H' z rel' x' rd' => h2 d S' v m' H' z rel' (x1.trans x') rd'
    · exact fun r' S' σ' m' H' z cu' x' => h1 r' S' σ' m' H' z cu' (x1.trans x')
    · exact fun r' S' σ' m' H' z cu' x' => ⟨m', r', S', cu', x', z⟩
  · have hi2 : i = src.its.length := by omega
    subst hi2
    rw [List.drop_length] at w2
    obtain ⟨st, w2⟩ := w2
    exact .inl ⟨wk.stop _ m2 S2 H2 cu2.rel x2 st (Nat.le_refl _), h1 _ _ _ _ _ w2 cu2 (x1.trans x2)⟩
theorem asg_r {g : G} {e : E} {De : Ends} {σ : L2.St} {H : Hp} (h : TrS X.K m0 H0 (wpS C (.asg g e)) De σ H) : tAsg (TrE X.K m0 H0 (wpE C e)) (TrG X.K m0 H0 (slotsG g) (wpG C g)) De σ H := by
  obtain ⟨m, r, S, N, cu, w, h1, h2, h3, h4⟩ := h
  exact TrE.of cu w fun d S1 v m1 H1 w1 cu1 x1 rd => ⟨m1, r, S1, d, N.nx, cu1, rd, w1, fun r' S' σ' m' H' z cu' x' _ => h1 r' S' σ' m' H' z cu' (x1.trans x')⟩
theorem s_asg {g : G} {e : E} {p q : Expr} {pos : Pos} (hn : notComp q = true) (ht : (notTup p || notTup q) = true) (hst : ∀ v o, p ≠ .Starred v o) (hg : SG X C m0 H0 g p) (he : SE X C m0 H0 e q) : SS X C m0 H0 (.asg g e) (.Assign [p] q pos) := by
  refine PS.imp (ps_asg he hg (swaps_no hn _ _ _) ?_ (by rw [(assignEach_of hst).1]; rfl)) fun De σ H h => asg_r h
  cases p <;> first
    | rfl
    | (cases q <;> first
        | rfl
        | (simp [notTup] at ht))
theorem s_asgLc {i : Nat} {elt : E} {g : G} {it : It} {cs : Es} {own : List Nat} {y : Str} {py : Pos} {e tg iter : Expr} {ifs : List Expr} {scope : Scope} {pos spos : Pos} (G : Good X c C k) (hl : c.loc i y = true) (hk : c.kind y = some .local)
    (hline : (py.line == pos.line) = true) (hany : (scope.names.any fun (n, k) => n == y && (k == .local || k == .cell)) = false) (h1 : blkC c.N c.sc scope (ownOf c.N own) = true) (ho : (ownOf c.N own).map (·.2) = own)
    (hown : ∀ i ∈ slotsG g, i ∈ own) (hset : ∀ l n p, iter ≠ .Set l n p) (hI : SI X C m0 H0 it tg iter) (hG : ∀ (s : Shared) (H : Hp) (a : Addr) (cl : List (Str × Addr)) (fp : List Addr), PG (X.blk s H scope (compEnvC scope cl a X.env) fp) tg (TrG X.K m0 H0 (slotsG g) (wpG C g)))
    (hT : ∀ (s : Shared) (H : Hp) (a : Addr) (cl : List (Str × Addr)) (fp : List Addr), PTs (X.blk s H scope (compEnvC scope cl a X.env) fp) ifs (TrT X.K m0 H0 (wpTs C cs)))
    (hE : ∀ (s : Shared) (H : Hp) (a : Addr) (cl : List (Str × Addr)) (fp : List Addr), PE (X.blk s H scope (compEnvC scope cl a X.env) fp) e (TrE X.K m0 H0 (wpE C elt))) : SS X C m0 H0 (.asg (.name i) (.lc elt g it cs own)) (.Assign [.Name y py] (.ListComp e [⟨tg, iter, ifs, 0⟩] scope pos) spos) := by
  have hb : BlkOk X.N X.env.scope scope (ownOf c.N own) := by
    rw [G.N, G.sc]
    exact blkOk_by h1
  obtain ⟨n1, n2, n3⟩ := c.loc_ok G.N G.sc G.fn hl
  have hyl : X.env.scope.names.lookup y = some .local := by rw [G.sc]; exact hk
  have hkf : X.env.scope.kind = .function ∨ True := .inr trivial
  refine ⟨fun pins s σ H D I h => ?_⟩
  have hsw := sw_true (elt := e) (gs := [⟨tg, iter, ifs, 0⟩]) (py := py) (l := spos.line) (env := X.env) (pos := pos) I.ok.kind hyl hline hany
  refine (ps_setLc (own := ownOf c.N own) G.calm (by rw [G.N]; exact G.nd) n1 hyl hsw hI hb hG hT hE (fold_of hset)).run pins s σ H D I ?_
  rw [ho]
  obtain ⟨m, r, S, N, cu, w, h1, h2, h3, h4⟩ := h
  refine lc_r hown (TrE.of cu w fun d S1 v m1 H1 w1 cu1 x1 rd => ?_)
  exact h1 _ _ _ _ _ w1 (cu1.set rd i) x1
/-! augmented -/
def rAug (op : Bop) : R2 := rI (arithOk op) fun i j => .int (arith op i j)
theorem op_aug : ∀ op : Bop, op ≠ .pow → OpR X (inplaceOp (opOf op)) (rAug op)
  | .add, _ => opI fun _ _ _ _ _ _ _ _ q => iadd_int q
  | .sub, _ => opI fun _ _ _ _ _ _ _ _ q => isub_int q
  | .mul, _ => opI fun _ _ _ _ _ _ _ hc q => imul_int q hc
  | .fdiv, _ => opI fun _ _ _ _ _ _ _ hc q => ifloordiv_int hc.1 q (.inl (noPy hc.2))
  | .mod, _ => opI fun _ _ _ _ _ _ _ hc q => imod_int hc q
  | .pow, h => absurd rfl h
theorem aug_r {K : FR} {m : List Addr} {H : Hp} {S : Store} {Qd : DK} {Q : VK} {x y : D} {xv yv : V} (op : Bop) (r : Rel K m S H) (rx : RD K m H x xv) (ry : RD K m H y yv) (h : wpAug op x y S Qd) (q : Imp K m H Qd Q) : rAug op xv yv H Q := by
  obtain ⟨i, j, rfl, rfl, h1, h2⟩ := h
  cases rx
  cases ry
  exact ⟨i, j, rfl, rfl, h1, q.here r h2 (.int _)⟩
theorem s_aug {i : Nat} {op : Bop} {e : E} {x : Str} {o : Operator} {p : Expr} {p2 pos : Pos} (G : Good X c C k) (hl : c.loc i x = true) (ho : opIs o op = true) (hp : op ≠ .pow) (he : SE X C m0 H0 e p) : SS X C m0 H0 (.aug i op e) (.AugAssign (.Name x p2) o p pos) := by
  obtain ⟨n1, n2, n3⟩ := c.loc_ok G.N G.sc G.fn hl
  rw [opIs_eq ho]
  refine PS.imp (ps_aug (by rw [G.N]; exact G.nd) n1 n2 he (op_aug op hp) n3) fun De σ H ⟨m, r, S, N, cu, w, h1, h2, h3, h4⟩ => ?_
  obtain ⟨d, ed, w⟩ := w
  obtain ⟨v, e1, rd⟩ := cu.loc i d ed
  refine ⟨v, e1, TrE.of cu w fun y S1 yv m1 H1 w1 cu1 x1 ry => aug_r op cu1.rel (rd.mono x1 cu.rel) ry w1 fun z S2 zv m2 H2 w2 rel2 x2 rz => ?_⟩
  exact h1 _ _ _ _ _ w2 ((cu1.move rel2 x2).set rz i) (x1.trans x2)
def rGetL (K : FR) : V → V → Hp → VK → Prop := fun x y H Q => ∃ p xs i v, x = .ref p ∧ y = .int i ∧ SqL K H p xs ∧ 0 ≤ i ∧ atI xs i = some v ∧ Q v H
theorem get_list : PGet X (rGetL X.K) := fun pins s σ H o i ov iv Q I r1 r2 h => by
  obtain ⟨p, xs, i, z, rfl, rfl, hq, h0, he, q⟩ := h
  cases r1
  obtain ⟨t, rfl⟩ := r2
  obtain ⟨its, r, pl, hz⟩ := I.list hq
  obtain ⟨j, h1, h2, h3, h4, h5⟩ := atI_get he
  obtain ⟨u, ew, rz⟩ := r.get h2
  have hj : i.toNat = j := by
    rw [seqIndex_of h0 h5] at h1
    exact Option.some.inj h1
  have hn := line63
  exact wpAny_getItem_list pl.isList h0 (by omega) (by rw [hj]; simpa using ew) ⟨z, H, I, rz, q⟩
theorem s_augS {o i e : E} {op : Bop} {p q r : Expr} {f : Operator} {p2 pos : Pos} (hn : notSlice q = true) (ho : opIs f op = true) (hp : op ≠ .pow) (h1 : SE X C m0 H0 o p) (h2 : SE X C m0 H0 i q) (h3 : SE X C m0 H0 e r) : SS X C m0 H0 (.augS o i op e) (.AugAssign (.Subscript p q p2) f r pos) := by
  rw [opIs_eq ho]
  refine PS.imp (ps_augS h1 h2 get_list h3 (op_aug op hp) set_list ?_) fun De σ H ⟨m, r, S, N, cu, w, q1, q2, q3, q4⟩ => TrE.of cu w fun x S1 xv m1 H1 w1 cu1 x1 rx => TrE.of cu1 w1 fun y S2 yv m2 H2 w2 cu2 x2 ry => ?_
  · intro ov iv new
    cases q <;> first
      | rfl
      | (simp [notSlice] at hn)
  · obtain ⟨n, rfl, k, rfl, l, e1, k0, d, e2, w2⟩ := w2
    cases ry
    cases rx.mono x2 cu1.rel with
    | ref hm =>
      obtain ⟨vs, hv, rs⟩ := cu2.rel.lst e1 hm
      obtain ⟨v, ev, rv⟩ := rs.atI e2
      refine ⟨_, vs, k, v, rfl, rfl, .inl (.inl hv), k0, ev, TrE.of cu2 w2 fun z S3 zv m3 H3 w3 cu3 x3 rz => aug_r op cu3.rel (rv.mono x3 cu2.rel) rz w3 fun u S4 uv m4 H4 w4 rel4 x4 ru => ?_⟩
      obtain ⟨l', f1, j, f2, w4⟩ := w4
      have hm4 := x4.get (x3.get hm)
      obtain ⟨ws, hw, rs4⟩ := rel4.lst f1 hm4
      have x5 : Ext m4 H4 m4 (upd H4 _ (.lst (ws.set j uv))) := .upd (List.mem_of_getElem? hm4)
      refine ⟨_, ws, k, j, rfl, rfl, hw, by rw [← rs4.length]; exact f2, ?_⟩
      exact q1 _ _ _ _ _ w4 ((cu3.move rel4 x4).move (rel4.upd hm4 (RDs.set ru j rs4)) x5) ((((x1.trans x2).trans x3).trans x4).trans x5)
theorem notPow_ok {op : Bop} (h : notPow op = true) : op ≠ .pow := by
  intro z
  subst z
  cases h
theorem asg_any1 (g : G) (e : E) {p q : Expr} {pos : Pos} (G : Good X c C k) (h1 : mG g c p = true) (h2 : mE e c q = true) (h3 : asgOk1 c p q = true) (hg : SG X C m0 H0 g p) (he : SE X C m0 H0 e q) : SS X C m0 H0 (.asg g e) (.Assign [p] q pos) := by
  by_cases hn : (notComp q && (notTup p || notTup q)) = true
  · obtain ⟨n1, n2⟩ := and2 hn
    exact s_asg n1 n2 (mG_star g h1) hg he
  · unfold asgOk1 at h3
    rw [show (notComp q && (notTup p || notTup q)) = false by simpa using hn, Bool.false_or] at h3
    cases p <;> first
      | (cases h3; done)
      | skip
    cases q <;> first
      | (cases h3; done)
      | skip
    rename_i y py ex gens scope lpos
    obtain ⟨a1, a2⟩ := and2 h3
    obtain ⟨a2, a3⟩ := and2 a2
    cases g <;> first
      | (simp [mG] at h1; done)
      | skip
    rename_i i
    cases e <;> first
      | (simp [mE] at h2; done)
      | skip
    rename_i elt g it cs own
    match gens, h2 with
    | [⟨tg, iter, ifs, 0⟩], h =>
      obtain ⟨b1, g1⟩ := and2 h
      obtain ⟨b2, g2⟩ := and2 g1
      obtain ⟨b3, g3⟩ := and2 g2
      obtain ⟨b4, g4⟩ := and2 g3
      obtain ⟨b5, g5⟩ := and2 g4
      obtain ⟨b6, b7⟩ := and2 g5
      exact s_asgLc G h1 (of_decide_eq_true a1) a2 (by simpa using a3) b1 (of_decide_eq_true b2) (of_decide_eq_true b3) (mI_set b4) (snd_I it G b4) (fun s H a cl fp => snd_G g G.blk b5) (fun s H a cl fp => snd_Ts cs G.blk b6) (fun s H a cl fp => (snd_E elt G.blk b7).1)
theorem not_f {b : Bool} (h : (!b) = true) : b = false := by
  cases b
  · rfl
  · cases h
theorem star_eq (vs : List Expr) : (vs.any fun x => match x with
    | .Starred .. => true
    | _ => false) = vs.any isStarE := by
  congr 1
theorem sw_par2 {x y : Str} {px py pt pt2 : Pos} {kt k2 : Nat} {a b : Expr} {env : Env} (hk : env.scope.kind = .function) (hx : env.scope.names.lookup x = some .local) (hy : env.scope.names.lookup y = some .local)
    (hl : (py.line == px.line) = true) (hne : (y == x) = false) (hv : parVals [a, b] = true) : swappedStores [.Tuple [.Name x px, .Name y py] kt pt] (.Tuple [a, b] k2 pt2) env = pure (some [x, y]) := by
  have kx : env.kindOf x = some .local := hx
  have ky : env.kindOf y = some .local := hy
  have hb : env.blockKind = .function := by unfold Env.blockKind; rw [hk]; rfl
  obtain ⟨v1, v23⟩ := and2 hv
  obtain ⟨v2, v3⟩ := and2 v23
  have v1 := not_f v1
  have v2 := not_f v2
  have v3 := not_f v3
  have n : ([x, y].eraseDups).length = 2 := by
    simp [List.eraseDups_cons, hne]
  have nm : ([Expr.Name x px, Expr.Name y py].filterMap fun t => match t with
      | .Name id pos => if (env.kindOf id == some .local && pos.line == px.line) = true then some id else none
      | _ => none) = [x, y] := by
    simp only [List.filterMap_cons, List.filterMap_nil, kx, ky, hl, BEq.rfl, Bool.and_self, if_true]
  unfold swappedStores
  show (if (!(2 == 2 || 2 == 3) || 2 != 2 || env.blockKind != .function) = true then pure none else _) = _
  rw [hb, if_neg (by decide)]
  show (if ([a, b].any fun x => match x with
    | .Starred .. => true
    | _ => false) = true then pure none else _) = _
  rw [star_eq, v1, if_neg (by decide)]
  show (let names := ([Expr.Name x px, Expr.Name y py].filterMap fun t => match t with
      | .Name id pos => if (env.kindOf id == some .local && pos.line == px.line) = true then some id else none
      | _ => none); if (names.length != 2 || names.eraseDups.length != names.length) = true then pure none else _) = _
  rw [nm]
  show (if (2 != 2 || [x, y].eraseDups.length != 2) = true then (pure none : Sem (Option (List Str))) else if [a, b].all (foldedForSure 8) = true then (pure none : Sem (Option (List Str))) else if [a, b].all (constantsAlone 8) = true then _ else _) = _
  rw [n, if_neg (by decide), v2, if_neg (by decide), v3, if_neg (by decide)]
  exact congrArg (fun z => (pure (some z) : Sem (Option (List Str)))) nm
theorem sw_par3 {x y z : Str} {px py pz pt pt2 : Pos} {kt k2 : Nat} {a b d : Expr} {env : Env} (hk : env.scope.kind = .function) (hx : env.scope.names.lookup x = some .local) (hy : env.scope.names.lookup y = some .local) (hz : env.scope.names.lookup z = some .local)
    (hl : (py.line == px.line) = true) (hl2 : (pz.line == px.line) = true) (hne : (y == x) = false) (hne2 : (z == x) = false) (hne3 : (z == y) = false) (hv : parVals [a, b, d] = true) : swappedStores [.Tuple [.Name x px, .Name y py, .Name z pz] kt pt] (.Tuple [a, b, d] k2 pt2) env = pure (some [x, y, z]) := by
  have kx : env.kindOf x = some .local := hx
  have ky : env.kindOf y = some .local := hy
  have kz : env.kindOf z = some .local := hz
  have hb : env.blockKind = .function := by unfold Env.blockKind; rw [hk]; rfl
  obtain ⟨v1, v23⟩ := and2 hv
  obtain ⟨v2, v3⟩ := and2 v23
  have v1 := not_f v1
  have v2 := not_f v2
  have v3 := not_f v3
  have n : ([x, y, z].eraseDups).length = 3 := by
    simp [List.eraseDups_cons, hne, hne2, hne3]
  have nm : ([Expr.Name x px, Expr.Name y py, Expr.Name z pz].filterMap fun t => match t with
      | .Name id pos => if (env.kindOf id == some .local && pos.line == px.line) = true then some id else none
      | _ => none) = [x, y, z] := by
    simp only [List.filterMap_cons, List.filterMap_nil, kx, ky, kz, hl, hl2, BEq.rfl, Bool.and_self, if_true]
  unfold swappedStores
  show (if (!(3 == 2 || 3 == 3) || 3 != 3 || env.blockKind != .function) = true then pure none else _) = _
  rw [hb, if_neg (by decide)]
  show (if ([a, b, d].any fun x => match x with
    | .Starred .. => true
    | _ => false) = true then pure none else _) = _
  rw [star_eq, v1, if_neg (by decide)]
  show (let names := ([Expr.Name x px, Expr.Name y py, Expr.Name z pz].filterMap fun t => match t with
      | .Name id pos => if (env.kindOf id == some .local && pos.line == px.line) = true then some id else none
      | _ => none); if (names.length != 3 || names.eraseDups.length != names.length) = true then pure none else _) = _
  rw [nm]
  show (if (3 != 3 || [x, y, z].eraseDups.length != 3) = true then (pure none : Sem (Option (List Str))) else if [a, b, d].all (foldedForSure 8) = true then (pure none : Sem (Option (List Str))) else if [a, b, d].all (constantsAlone 8) = true then _ else _) = _
  rw [n, if_neg (by decide), v2, if_neg (by decide), v3, if_neg (by decide)]
  exact congrArg (fun u => (pure (some u) : Sem (Option (List Str)))) nm
theorem loc_ne {c : Cxt} {i j : Nat} {x y : Str} (hi : c.N[i]? = some x) (hj : c.N[j]? = some y) (h : (y == x) = false) : i ≠ j := by
  intro e
  subst e
  rw [hi] at hj
  cases hj
  simp at h
theorem gn_name {g : G} {c : Cxt} {x : Str} {p : Pos} (h : mG g c (.Name x p) = true) : ∃ i, g = .name i ∧ c.loc i x = true := by
  cases g with
  | name i => exact ⟨i, rfl, h⟩
  | tup gs => simp [mG] at h
  | sub o i => simp [mG] at h
theorem gn_cons {gs : Gs} {c : Cxt} {p : Expr} {ps : List Expr} (h : mGs gs c (p :: ps) = true) : ∃ g r, gs = .cons g r ∧ mG g c p = true ∧ mGs r c ps = true := by
  cases gs with
  | nil => simp [mGs] at h
  | cons g r =>
    obtain ⟨h1, h2⟩ := and2 (show (mG g c p && mGs r c ps) = true from h)
    exact ⟨g, r, rfl, h1, h2⟩
theorem gn_nil {gs : Gs} {c : Cxt} (h : mGs gs c [] = true) : gs = .nil := by
  cases gs with
  | nil => rfl
  | cons g r => simp [mGs] at h
theorem asg_par (g : G) (e : E) {p q : Expr} {pos : Pos} (G : Good X c C k) (h1 : mG g c p = true) (h2 : mE e c q = true) (h3 : asgPar c p q = true) : SS X C m0 H0 (.asg g e) (.Assign [p] q pos) := by
  unfold asgPar at h3
  split at h3
  · rename_i ts kt pt vs k2 pt2
    cases g <;> first
      | (simp [mG] at h1; done)
      | skip
    rename_i gs
    cases e <;> first
      | (simp [mE] at h2; done)
      | skip
    rename_i es
    have h1' : mGs gs c ts = true := h1
    have h2' := (and2 (show (_ && mEs es c vs) = true from h2)).2
    have sa := snd_Es (m0 := m0) (H0 := H0) es G h2'
    unfold parOk at h3
    split at h3
    · rename_i x px y py a b
      obtain ⟨a1, h3⟩ := and2 h3
      obtain ⟨a2, h3⟩ := and2 h3
      obtain ⟨a3, h3⟩ := and2 h3
      obtain ⟨a4, a5⟩ := and2 h3
      have a4 := not_f a4
      obtain ⟨g1, r1, rfl, c1, h1'⟩ := gn_cons h1'
      obtain ⟨g2, r2, rfl, c2, h1'⟩ := gn_cons h1'
      obtain rfl := gn_nil h1'
      obtain ⟨i, rfl, b1⟩ := gn_name c1
      obtain ⟨j, rfl, b2⟩ := gn_name c2
      · skip
        obtain ⟨n1, -, -⟩ := c.loc_ok G.N G.sc G.fn b1
        obtain ⟨n2, -, -⟩ := c.loc_ok G.N G.sc G.fn b2
        have kx : X.env.scope.names.lookup x = some .local := by rw [G.sc]; exact of_decide_eq_true a1
        have ky : X.env.scope.names.lookup y = some .local := by rw [G.sc]; exact of_decide_eq_true a2
        have hij : i ≠ j := loc_ne (c := c) (by rw [← G.N]; exact n1) (by rw [← G.N]; exact n2) a4
        refine ⟨fun pins s σ H D I h => (ps_par G.calm (by rw [G.N]; exact G.nd) n1 n2 hij kx ky sa (sw_par2 I.ok.kind kx ky a3 a4 a5)).run pins s σ H D I ?_⟩
        obtain ⟨m, r, S, N, cu, w, q1, q2, q3, q4⟩ := h
        refine TrA.of cu w fun ds S1 vs m1 H1 w1 cu1 x1 rs hl => ?_
        obtain ⟨ds', e1, -, d1, dr, e2, d2, dr2, e3, e4, w2⟩ := w1
        cases e1
        subst e2 e3 e4
        cases rs with
        | cons r1 rs =>
          cases rs with
          | cons r2 rs =>
            cases rs
            exact ⟨_, _, rfl, q1 _ _ _ _ _ w2 ((cu1.set r1 i).set r2 j) x1⟩
    · rename_i x px y py z pz a b d
      obtain ⟨a1, h3⟩ := and2 h3
      obtain ⟨a2, h3⟩ := and2 h3
      obtain ⟨a3, h3⟩ := and2 h3
      obtain ⟨l1, h3⟩ := and2 h3
      obtain ⟨l2, h3⟩ := and2 h3
      obtain ⟨f1, h3⟩ := and2 h3
      obtain ⟨f2, h3⟩ := and2 h3
      obtain ⟨f3, a5⟩ := and2 h3
      have f1 := not_f f1
      have f2 := not_f f2
      have f3 := not_f f3
      obtain ⟨g1, r1, rfl, c1, h1'⟩ := gn_cons h1'
      obtain ⟨g2, r2, rfl, c2, h1'⟩ := gn_cons h1'
      obtain ⟨g3, r3, rfl, c3, h1'⟩ := gn_cons h1'
      obtain rfl := gn_nil h1'
      obtain ⟨i, rfl, b1⟩ := gn_name c1
      obtain ⟨j, rfl, b2⟩ := gn_name c2
      obtain ⟨l, rfl, b3⟩ := gn_name c3
      · skip
        obtain ⟨n1, -, -⟩ := c.loc_ok G.N G.sc G.fn b1
        obtain ⟨n2, -, -⟩ := c.loc_ok G.N G.sc G.fn b2
        obtain ⟨n3, -, -⟩ := c.loc_ok G.N G.sc G.fn b3
        have kx : X.env.scope.names.lookup x = some .local := by rw [G.sc]; exact of_decide_eq_true a1
        have ky : X.env.scope.names.lookup y = some .local := by rw [G.sc]; exact of_decide_eq_true a2
        have kz : X.env.scope.names.lookup z = some .local := by rw [G.sc]; exact of_decide_eq_true a3
        have m1 : c.N[i]? = some x := by rw [← G.N]; exact n1
        have m2 : c.N[j]? = some y := by rw [← G.N]; exact n2
        have m3 : c.N[l]? = some z := by rw [← G.N]; exact n3
        refine ⟨fun pins s σ H D I h => (ps_par3 G.calm (by rw [G.N]; exact G.nd) n1 n2 n3 (loc_ne m1 m2 f1) (loc_ne m1 m3 f2) (loc_ne m2 m3 f3) kx ky kz sa (sw_par3 I.ok.kind kx ky kz l1 l2 f1 f2 f3 a5)).run pins s σ H D I ?_⟩
        obtain ⟨m, r, S, N, cu, w, q1, q2, q3, q4⟩ := h
        refine TrA.of cu w fun ds S1 vs m1 H1 w1 cu1 x1 rs hl => ?_
        obtain ⟨ds', e1, -, d1, dr, e2, d2, dr2, e3, d3, dr3, e4, e5, w2⟩ := w1
        cases e1
        subst e2 e3 e4 e5
        cases rs with
        | cons r1 rs =>
          cases rs with
          | cons r2 rs =>
            cases rs with
            | cons r3 rs =>
              cases rs
              exact ⟨_, _, _, rfl, q1 _ _ _ _ _ w2 (((cu1.set r1 i).set r2 j).set r3 l) x1⟩
    · cases h3
  · cases h3
theorem asg_any (g : G) (e : E) {p q : Expr} {pos : Pos} (G : Good X c C k) (h1 : mG g c p = true) (h2 : mE e c q = true) (h3 : asgOk c p q = true) (hg : SG X C m0 H0 g p) (he : SE X C m0 H0 e q) : SS X C m0 H0 (.asg g e) (.Assign [p] q pos) := by
  unfold asgOk at h3
  by_cases z : asgOk1 c p q = true
  · exact asg_any1 g e G h1 h2 z hg he
  · rw [show asgOk1 c p q = false by simpa using z, Bool.false_or] at h3
    exact asg_par g e G h1 h2 h3
/-! blocks -/
theorem b_nil : SB X C m0 H0 .nil [] := PSs.imp pss_nil fun De σ H ⟨m, r, S, N, cu, w, h1, h2, h3, h4⟩ => h1 _ _ _ _ _ w cu .refl
theorem b_cons {s : Sm} {b : Bs} {a : Stmt} {l : List Stmt} (hs : SS X C m0 H0 s a) (hb : SB X C m0 H0 b l) : SB X C m0 H0 (.cons s b) (a :: l) := by
  refine PSs.imp (pss_cons hs hb) fun De σ H ⟨m, r, S, N, cu, w, h1, h2, h3, h4⟩ => ?_
  exact ⟨m, r, S, _, cu, w, fun r' S' σ' m' H' z cu' x' => TrS.on cu' x' (Eq.mp (later_eq (wpB C b N) r' S') z) h1 h2 h3 h4, h2, h3, h4⟩
mutual
theorem snd_S : ∀ (s : Sm) {a : Stmt}, Good X c C k → mS s c a = true → SS X C m0 H0 s a
  | .expr e, a, G, h => by
    cases a <;> first
      | (simp [mS] at h; done)
      | skip
    obtain ⟨h1, h2⟩ := and2 h
    exact s_expr h1 (snd_E e G h2).1
  | .ret e, a, G, h => by
    cases a <;> first
      | (simp [mS] at h; done)
      | skip
    rename_i v pos
    cases v with
    | none => simp [mS] at h
    | some p => exact s_ret (snd_E e G h).1
  | .retN, a, G, h => by
    cases a <;> first
      | (simp [mS] at h; done)
      | skip
    rename_i v pos
    cases v with
    | none => exact s_retN
    | some p => simp [mS] at h
  | .ifs t x y, a, G, h => by
    cases a <;> first
      | (simp [mS] at h; done)
      | skip
    obtain ⟨h1, h2⟩ := and2 h
    obtain ⟨h2, h3⟩ := and2 h2
    exact s_ifs (snd_E t G h1).2 (snd_B x G h2) (snd_B y G h3)
  | .whl t x, a, G, h => by
    cases a <;> first
      | (simp [mS] at h; done)
      | skip
    rename_i p q els pos
    cases els with
    | nil =>
      obtain ⟨h1, h2⟩ := and2 h
      exact s_whl G (snd_E t G h1).2 (snd_B x G h2)
    | cons _ _ => simp [mS] at h
  | .fors g it x, a, G, h => by
    cases a <;> first
      | (simp [mS] at h; done)
      | skip
    rename_i p q l els pos
    cases els with
    | nil =>
      obtain ⟨h1, h2⟩ := and2 h
      obtain ⟨h2, h3⟩ := and2 h2
      exact s_fors G (mI_set h2) (snd_G g G h1) (snd_I it G h2) (snd_B x G h3)
    | cons _ _ => simp [mS] at h
  | .asg g e, a, G, h => by
    cases a <;> first
      | (simp [mS] at h; done)
      | skip
    rename_i l q pos
    match l, h with
    | [p], h =>
      obtain ⟨h1, h2⟩ := and2 h
      obtain ⟨h2, h3⟩ := and2 h2
      exact asg_any g e G h1 h2 h3 (snd_G g G h1) (snd_E e G h2).1
  | .aug i op e, a, G, h => by
    cases a <;> first
      | (simp [mS] at h; done)
      | skip
    rename_i t o q pos
    cases t <;> first
      | (simp [mS] at h; done)
      | skip
    obtain ⟨h1, h2⟩ := and2 h
    obtain ⟨h2, h3⟩ := and2 h2
    obtain ⟨h3, h4⟩ := and2 h3
    exact s_aug G h1 h2 (notPow_ok h3) (snd_E e G h4).1
  | .augS o i op e, a, G, h => by
    cases a <;> first
      | (simp [mS] at h; done)
      | skip
    rename_i t f q pos
    cases t <;> first
      | (simp [mS] at h; done)
      | skip
    obtain ⟨h1, h2⟩ := and2 h
    obtain ⟨h2, h3⟩ := and2 h2
    obtain ⟨h3, h4⟩ := and2 h3
    obtain ⟨h4, h5⟩ := and2 h4
    obtain ⟨h5, h6⟩ := and2 h5
    exact s_augS h1 h4 (notPow_ok h5) (snd_E o G h2).1 (snd_E i G h3).1 (snd_E e G h6).1
  | .pass, a, G, h => by
    cases a <;> first
      | (simp [mS] at h; done)
      | exact s_pass
  | .brk, a, G, h => by
    cases a <;> first
      | (simp [mS] at h; done)
      | exact s_brk
  | .cont, a, G, h => by
    cases a <;> first
      | (simp [mS] at h; done)
      | exact s_cont
theorem snd_B : ∀ (b : Bs) {l : List Stmt}, Good X c C k → mB b c l = true → SB X C m0 H0 b l
  | .nil, l, G, h => by
    cases l with
    | nil => exact b_nil
    | cons _ _ => simp [mB] at h
  | .cons s r, l, G, h => by
    cases l with
    | nil => simp [mB] at h
    | cons p ps =>
      obtain ⟨h1, h2⟩ := and2 (show (mS s c p && mB r c ps) = true from h)
      exact b_cons (snd_S s G h1) (snd_B r G h2)
end
end
end Ev
set_option Elab.async false
set_option linter.all false
set_option maxRecDepth 100000
set_option maxHeartbeats 8000000
namespace Ev
open PySem PySem.Spec PyProof.Rows L2
/-! ## defs -/
mutual
def clD (n : Nat) : D → Bool
  | .ref k => decide (k < n)
  | .tup l => clDs n l
  | .cl l => clDs n l
  | _ => true
def clDs (n : Nat) : List D → Bool
  | [] => true
  | d :: ds => clD n d && clDs n ds
end
def clO (n : Nat) : Ob → Bool
  | .lst l => clDs n l
/-- what a def hands back: as it is, or without what nobody can reach any more -/
def Ret (S : Store) (d : D) (S' : Store) (Q : DK) : Prop :=
  Q d S' ∨ ∃ S1 g, S' = S1 ++ g ∧ S1.length = S.length ∧ clD S.length d = true ∧ (∀ o ∈ S1, o ∈ S ∨ clO S.length o = true) ∧ Q d S1
structure DefI where
  i : FnI
  N : List Str
  body : Bs
def startD (N : List Str) (ds : List D) : Rho := ds.map some ++ List.replicate (N.length - ds.length) none
def run (T : List DefI) : Nat → CallH
  | 0, _, _, _, _ => False
  | n + 1, f, ds, S, Q => ∃ d, T[f]? = some d ∧ wpB (run T n) d.body { nx := fun _ S' => Ret S .non S' Q, rt := fun v S' => Ret S v S' Q, bk := fun _ _ => False, ct := fun _ _ => False } (startD d.N ds) S
mutual
theorem RD.clo {K : FR} {m : List Addr} {H : Hp} : ∀ {d : D} {v : V}, RD K m H d v → clD m.length d = true
  | _, _, .non => rfl
  | _, _, .bl _ => rfl
  | _, _, .int _ => rfl
  | _, _, .str _ => rfl
  | _, _, .tup _ rs => RDs.clo rs
  | _, _, .cl _ rs => RDs.clo rs
  | _, _, .ref h => decide_eq_true (List.getElem?_eq_some_iff.mp h).1
theorem RDs.clo {K : FR} {m : List Addr} {H : Hp} : ∀ {d : List D} {v : List V}, RDs K m H d v → clDs m.length d = true
  | _, _, .nil => rfl
  | _, _, .cons a b => by
    show (clD m.length _ && clDs m.length _) = true
    rw [RD.clo a, RDs.clo b]; rfl
end
mutual
theorem RD.cut {K : FR} {m t : List Addr} {H : Hp} : ∀ {d : D} {v : V}, RD K (m ++ t) H d v → clD m.length d = true → RD K m H d v
  | _, _, .non, _ => .non
  | _, _, .bl b, _ => .bl b
  | _, _, .int i, _ => .int i
  | _, _, .str x, _ => .str x
  | _, _, .tup hs rs, h => .tup hs (RDs.cut1 rs h)
  | _, _, .cl hs rs, h => .cl hs (RDs.cut1 rs h)
  | _, _, .ref hn, h => .ref (by rw [List.getElem?_append_left (of_decide_eq_true h)] at hn; exact hn)
theorem RDs.cut1 {K : FR} {m t : List Addr} {H : Hp} : ∀ {d : List D} {v : List V}, RDs K (m ++ t) H d v → clDs m.length d = true → RDs K m H d v
  | _, _, .nil, _ => .nil
  | _, _, .cons a b, h => by
    obtain ⟨h1, h2⟩ := and2 h
    exact .cons (RD.cut a h1) (RDs.cut1 b h2)
end
theorem ret_r {K : FR} {m m' : List Addr} {H H' : Hp} {S S' : Store} {d : D} {v : V} {Qd : DK} {Q : VK} (rel : Rel K m S H) (rel' : Rel K m' S' H') (x : Ext m H m' H') (rd : RD K m' H' d v) (h : Ret S d S' Qd) (q : Imp K m H Qd Q) : Q v H' := by
  rcases h with h | ⟨S1, g, e, hl, hd, ho, h⟩
  · exact q _ _ _ _ _ h rel' x rd
  · obtain ⟨t, et⟩ := x.pre
    subst et
    subst e
    have lm : m.length = S1.length := rel.len.trans hl.symm
    have ls : S.length = m.length := rel.len.symm
    rw [ls] at hd
    refine q d S1 v m H' h ⟨lm, (List.nodup_append.mp rel'.nd).1, fun n o a h1 h2 => ?_⟩ ⟨⟨[], by simp⟩, fun b hb => .inl hb, x.keep⟩ (rd.cut hd)
    have hn : n < S1.length := (List.getElem?_eq_some_iff.mp h1).1
    have hm : n < m.length := by rw [lm]; exact hn
    have z := rel'.ob n o a (by rw [List.getElem?_append_left hn]; exact h1) (by rw [List.getElem?_append_left hm]; exact h2)
    have cl : clO m.length o = true := by
      rcases ho o (List.mem_of_getElem? h1) with ho | ho
      · obtain ⟨k, hk, e⟩ := List.getElem_of_mem ho
        have e1 : S[k]? = some o := by rw [List.getElem?_eq_getElem hk, e]
        have hk2 : k < m.length := by rw [rel.len]; exact hk
        have z := rel.ob k o m[k] e1 (List.getElem?_eq_getElem hk2)
        cases o with
        | lst l => obtain ⟨_, _, rs⟩ := z; exact rs.clo
      · rw [ls] at ho; exact ho
    cases o with
    | lst l => obtain ⟨vs, hv, rs⟩ := z; exact ⟨vs, hv, rs.cut1 cl⟩
theorem start_cur {K : FR} {m : List Addr} {H : Hp} {S : Store} {N : List Str} {ds : List D} {vs : List V} (rel : Rel K m S H) (rs : RDs K m H ds vs) : Cur K m H m (startD N ds) S (L2.start N vs) H := by
  have hl := rs.length
  refine ⟨rel, .refl, by simp [startD, L2.start, hl], fun i d e => ?_⟩
  unfold startD at e
  by_cases hi : i < ds.length
  · rw [List.getElem?_append_left (by simpa using hi), List.getElem?_map] at e
    cases q : ds[i]? with
    | none => rw [q] at e; cases e
    | some d' =>
      rw [q] at e
      cases e
      obtain ⟨v, e1, r1⟩ := rs.get q
      refine ⟨v, ?_, r1⟩
      unfold L2.start
      rw [List.getElem?_append_left (by simpa using (by omega : i < vs.length)), List.getElem?_map, e1]
      rfl
  · rw [List.getElem?_append_right (by simpa using hi), List.getElem?_replicate] at e
    split at e <;> cases e
/-- a def of the text, and the term for its body -/
def ctxOf (T : List DefI) (d : DefI) (sc : Scope) : Cxt := { N := d.N, sc := sc, fnc := fun _ => true, T := T.map (·.i) }
def scopeOk (N P : List Str) (sc : Scope) : Bool := decide (sc.kind = .function) && (!sc.isCoroutine && (!sc.isGenerator && (decide N.Nodup && (decide (N.take P.length = P) && ((P.all fun x => match sc.names.lookup x with
  | some .local => true
  | some .cell => true
  | _ => false) && sc.names.all fun y => match y.2 with
  | .free => false
  | _ => true)))))
theorem scope_of {N P : List Str} {sc : Scope} (h : scopeOk N P sc = true) : FnScope N P sc := by
  obtain ⟨h1, h⟩ := and2 h
  obtain ⟨h2, h⟩ := and2 h
  obtain ⟨h3, h⟩ := and2 h
  obtain ⟨h4, h⟩ := and2 h
  obtain ⟨h5, h⟩ := and2 h
  obtain ⟨h6, h7⟩ := and2 h
  refine ⟨of_decide_eq_true h1, by simpa using h2, by simpa using h3, of_decide_eq_true h4, of_decide_eq_true h5, fun x hx => ?_, fun y hy z => ?_⟩
  · have q := List.all_eq_true.mp h6 x hx
    cases e : sc.names.lookup x with
    | none => rw [e] at q; cases q
    | some k =>
      rw [e] at q
      cases k <;> first
        | exact .inl rfl
        | exact .inr rfl
        | cases q
  · have q := List.all_eq_true.mp h7 y hy
    rw [z] at q
    cases q
def defOk (T : List DefI) (st : Stmt) (d : DefI) : Bool := scopeOk d.N d.i.ps (defScope st) && mB d.body (ctxOf T d (defScope st)) (defBody st)
section
variable {P : Program} {w : World} {K : FR} {mg : Str → Option Value} {base : Heap}
theorem def_ok {T : List DefI} {st : Stmt} {d : DefI} {f n : Nat} {a : Addr} {fd : FuncData} {x qual : Str} (hf : T[f]? = some d) (F : FunD K x qual (defArgs st) (defBody st) (defScope st) [] [] a fd) (ok : defOk T st d = true)
    (tab : TabOk P w K mg base n (run T n) (T.map (·.i))) : FnOk P w K mg base CX0 (n + 1) a fd d.i.ps (spD K (run T (n + 1) f) d.i.ps.length) := by
  obtain ⟨h1, h2⟩ := and2 ok
  have S := scope_of h1
  refine F.ok S (fun vs H Q E h => spD_len h) fun cdv A outer s H vs Q E hr h => ?_
  obtain ⟨m, St, ds, Qd, rel, rs, hl, ⟨d', e, wb⟩, q⟩ := h
  rw [hf] at e
  cases e
  have G : Good (cxOf CX0 P w K mg base d.N qual (defScope st) a cdv A outer s H E).nox (ctxOf T d (defScope st)) (run T n) n :=
    ⟨rfl, S.nd, rfl, fun _ _ => rfl, rfl, hr, PassesOwn.never, tab⟩
  refine ⟨TrS K m H (wpB (run T n) d.body), PSs.nox (snd_B d.body G h2), m, _, St, _, start_cur rel rs, wb, ?_, ?_, ?_, ?_⟩
  · exact fun r' S' σ' m' H' z cu' x' => ret_r rel cu'.rel x' .non z q
  · exact fun d S' v m' H' z rel' x' rd => ret_r rel rel' x' rd z q
  · exact fun r' S' σ' m' H' z cu' x' => (show False from z).elim
  · exact fun r' S' σ' m' H' z cu' x' => (show False from z).elim
/-- what is known of the text's defs -/
structure TabF (K : FR) (mg : Str → Option Value) (T : List DefI) (sts : List Stmt) : Prop where
  fns : ∀ (f : Nat) (d : DefI), T[f]? = some d → ∃ (st : Stmt) (a : Addr) (fd : FuncData) (x qual : Str), sts[f]? = some st ∧ mg d.i.name = some (.ref a) ∧ FunD K x qual (defArgs st) (defBody st) (defScope st) [] [] a fd ∧ defOk T st d = true ∧ Binds K fd d.i.ps [] ∧
    ∀ n ks perm, (n, ks, perm) ∈ d.i.kws → KBn K fd d.i.ps n ks (fun us ws => perm.filterMap fun j => (us ++ ws)[j]?) (fun vs zs => perm.filterMap fun j => (vs ++ zs)[j]?)
  bis : ∀ b, mg (biName b) = none
  others : mg "isinstance" = none ∧ mg "range" = none ∧ ∀ t, mg (Str.ofString (tyName t)) = none
theorem tab_ok {T : List DefI} {sts : List Stmt} (F : TabF K mg T sts) : ∀ n, TabOk P w K mg base n (run T n) (T.map (·.i))
  | 0 => ⟨fun f i h => by
      rw [List.getElem?_map] at h
      cases e : T[f]? with
      | none => rw [e] at h; cases h
      | some d =>
        rw [e] at h
        cases h
        obtain ⟨st, a, fd, x, qual, _, h1, h2, h3, h4, h5⟩ := F.fns f d e
        exact ⟨a, fd, h1, h2.kp, h4, h5, ⟨fun vs H Q E h => spD_len h, fun A outer s H args us vs Q E hr he hb hv hs => by
          obtain ⟨m, S, ds, Qd, _, _, _, z, _⟩ := hs
          exact (show False from z).elim⟩⟩, F.bis, F.others⟩
  | n + 1 => ⟨fun f i h => by
      rw [List.getElem?_map] at h
      cases e : T[f]? with
      | none => rw [e] at h; cases h
      | some d =>
        rw [e] at h
        cases h
        obtain ⟨st, a, fd, x, qual, _, h1, h2, h3, h4, h5⟩ := F.fns f d e
        exact ⟨a, fd, h1, h2.kp, h4, h5, def_ok e h2 h3 (tab_ok F n)⟩, F.bis, F.others⟩
end
end Ev
set_option Elab.async false
set_option linter.all false
set_option maxRecDepth 100000
set_option maxHeartbeats 8000000
namespace Ev
open PySem PySem.Spec PyProof.Rows L2
/-! ## the text's end -/
/-- how a def binds its arguments -/
structure Bnd (st : Stmt) (i : FnI) : Prop where
  pos : ∀ (x qual : Str) (kV doc pm : Value) (an : Option Addr) (cdv ct : Value) (us : List Value), us.length = i.ps.length → bindArgs (PySem.W.fnOf x qual (defArgs st) (defBody st) (defScope st) .none kV doc pm an cdv ct) ⟨us, []⟩ = pure (i.ps.zip us)
  kws : ∀ n ks perm, (n, ks, perm) ∈ i.kws → ∀ (x qual : Str) (kV doc pm : Value) (an : Option Addr) (cdv ct : Value) (us ws : List Value), us.length = n → ws.length = ks.length →
    bindArgs (PySem.W.fnOf x qual (defArgs st) (defBody st) (defScope st) .none kV doc pm an cdv ct) ⟨us, ks.zip ws⟩ = pure (i.ps.zip (perm.filterMap fun j => (us ++ ws)[j]?))
theorem Vals.perm {vs : List V} {us : List Value} (r : Vals vs us) : ∀ perm : List Nat, Vals (perm.filterMap fun i => vs[i]?) (perm.filterMap fun i => us[i]?)
  | [] => .nil
  | i :: p => by
    rw [List.filterMap_cons, List.filterMap_cons]
    cases e : vs[i]? with
    | none =>
      rw [r.none_of e]
      exact Vals.perm r p
    | some v =>
      obtain ⟨u, e2, ru⟩ := r.get e
      rw [e2]
      exact .cons ru (Vals.perm r p)
theorem Bnd.kbn {K : FR} {st : Stmt} {i : FnI} {x qual : Str} {a : Addr} {fd : FuncData} (b : Bnd st i) (F : FunD K x qual (defArgs st) (defBody st) (defScope st) [] [] a fd) :
    Binds K fd i.ps [] ∧ ∀ n ks perm, (n, ks, perm) ∈ i.kws → KBn K fd i.ps n ks (fun us ws => perm.filterMap fun j => (us ++ ws)[j]?) (fun vs zs => perm.filterMap fun j => (vs ++ zs)[j]?) := by
  refine ⟨F.bindsN fun kV doc pm an cdv ct us hl => b.pos x qual kV doc pm an cdv ct us hl, fun n ks perm hm => ?_⟩
  obtain ⟨oc, od, dV, kV, doc, pm, an, cdv, ct, osl, rfl, lk, hcd, hD, hK⟩ := F.ex
  rcases hD with ⟨_, rfl⟩ | ⟨e, _⟩
  · exact ⟨fun s us ws _ h1 h2 => .of_eq (b.kws n ks perm hm x qual kV doc pm an cdv ct us ws h1 h2), fun r1 r2 => Vals.perm (r1.append r2) perm⟩
  · exact absurd rfl e
def AllD (T : List DefI) : List DefI → List Stmt → Prop
  | [], [] => True
  | d :: ds, s :: ss => (defOk T s d = true ∧ Bnd s d.i) ∧ AllD T ds ss
  | _, _ => False
theorem AllD.get {T : List DefI} : ∀ {ds : List DefI} {ss : List Stmt} {f : Nat} {d : DefI}, AllD T ds ss → ds[f]? = some d → ∃ s, ss[f]? = some s ∧ defOk T s d = true ∧ Bnd s d.i
  | [], [], _, _, _, h => by simp at h
  | d :: ds, s :: ss, 0, _, h, e => by
    simp at e
    subst e
    exact ⟨s, rfl, h.1.1, h.1.2⟩
  | d :: ds, s :: ss, f + 1, _, h, e => by
    obtain ⟨s', e', z⟩ := AllD.get (f := f) h.2 (by simpa using e)
    exact ⟨s', by simpa using e', z⟩
def datD (d : DefI) (s : Stmt) : He.DefD := ⟨(d.i.name, none), d.i.name, d.i.name, defArgs s, defBody s, defScope s, [], []⟩
def fnL (T : List DefI) (sts : List Stmt) : List He.DefD := T.zipWith datD sts
def frees : List Str := ["len", "int", "abs", "tuple", "list", "sum", "sorted", "max", "min", "isinstance", "range", "bool", "str"]
def faL (T : List DefI) : List He.Fa := T.map (fun d => .glo d.i.name) ++ frees.map .free
theorem facts_of {K : FR} {h : Heap} {mg : Str → Option Value} {T : List DefI} {sts : List Stmt} (X : K.In h) (G : h.Ns mainGlobals mg) (c : He.SaysD (faL T) (fnL T sts) K) (al : AllD T T sts) : TabF K mg T sts := by
  have fr : ∀ (j : Nat) (x : Str), frees[j]? = some x → mg x = none := fun j x e => by
    refine He.free_ok X G (c.fact (T.length + j) (f := .free x) ?_)
    unfold faL
    rw [List.getElem?_append_right (by simp)]
    simp [e]
  refine ⟨fun f d e => ?_, fun b => ?_, fr 9 _ rfl, fr 10 _ rfl, fun t => ?_⟩
  · obtain ⟨s, es, ok, bn⟩ := al.get e
    have e1 : (fnL T sts)[f]? = some (datD d s) := by
      unfold fnL
      rw [List.getElem?_zipWith, e, es]
    obtain ⟨fd, F⟩ := c.def_ f e1
    have g := He.glo_ok X G (c.fact f (f := .glo d.i.name) (by
      unfold faL
      have hf := (List.getElem?_eq_some_iff.mp e).1
      rw [List.getElem?_append_left (by simpa using hf), List.getElem?_map, e]
      rfl))
    obtain ⟨b1, b2⟩ := bn.kbn F
    exact ⟨s, _, fd, _, _, es, g, F, ok, b1, b2⟩
  · cases b
    · exact fr 0 _ rfl
    · exact fr 1 _ rfl
    · exact fr 2 _ rfl
    · exact fr 3 _ rfl
    · exact fr 4 _ rfl
    · exact fr 5 _ rfl
    · exact fr 6 _ rfl
    · exact fr 7 _ rfl
    · exact fr 8 _ rfl
  · cases t
    · exact fr 1 _ rfl
    · exact fr 11 _ rfl
    · exact fr 3 _ rfl
    · exact fr 12 _ rfl
/-- the law's end: the text's terms, and that its call hands back True -/
theorem law_end {l : PySem.W.OpenLaw} {q : Program} {loose : List Str} {XP : (Str → Option Value) → Heap → Prop} {d : DefRec} {T : List DefI} {sts : List Stmt} {f n : Nat} {dl : DefI} {sl : Stmt} {x : Str} {YP : World → Heap → Prop}
    (hn : l.most = some 63) (hdf : d.params.defaults = []) (hr : n < 100) (hY : ∀ w h, YP w h → ∃ K : FR, K.In h ∧ He.SaysD (faL T) (fnL T sts) K) (al : AllD T T sts) (hf : T[f]? = some dl) (hs : sts[f]? = some sl) (hname : dl.i.name = d.name) (hps : dl.i.ps = [x])
    (law : ∀ ns : List Int, ns.length ≤ 63 → run T (n + 1) f [.cl (ns.map D.int)] [] fun v _ => v = .bl true) : PySem.W.WalkO q loose XP YP l.row.toRowW d [] (fun f vs => PySem.call f vs) := by
  refine L2.walk_ofE (l := l) (n := 63) (k := n + 1) (x := x) (CX := CX0) hn (by rw [sizeLine_eq]; decide) hdf ⟨rfl, ?_, ?_⟩ ?F (fun _ _ _ _ z => z)
  · have : (callerA.depth : Nat) + 3 * 100 + 5 < recursionLimit := by decide
    omega
  · have : (callerA.units : Nat) + 16 * 100 + 200 < cLine := by decide
    omega
  case F =>
    intro w mg fa h Y G hmg
    obtain ⟨K, KX, c⟩ := hY w h Y
    have F := facts_of KX G c al
    obtain ⟨st, a, fd, x', qual, e1, hg, FD, ok, bd, _⟩ := F.fns f dl hf
    rw [hs] at e1
    cases e1
    have ea : fa = a := by
      rw [hname, hmg] at hg
      cases hg; rfl
    subst ea
    obtain ⟨_, _, _, bn⟩ := al.get hf
    refine ⟨K, fd, spD K (run T (n + 1) f) 1, KX, fun s u => ?_, fun H a ns hl hO hS => ?_, fun base KB GB => ?_⟩
    · have z := FD.bindsA (ps := [x]) (fun kV doc pm an cdv ct us hl => by
        obtain ⟨s', e', _, b'⟩ := al.get hf
        rw [hs] at e'
        cases e'
        have := b'.pos x' qual kV doc pm an cdv ct us (by rw [hps]; exact hl)
        rw [hps] at this
        exact this) s [u] rfl
      exact z
    · have rds : ∀ ns : List Int, RDs K [] H (ns.map D.int) (ns.map V.int) := by
        intro ns
        induction ns with
        | nil => exact .nil
        | cons i r ih => exact .cons (.int i) ih
      have sc : SqC K H a (ns.map V.int) := by
        rcases hS with (hS | ⟨o, hS⟩) | hS
        · rcases hO a with z | ⟨o, xs, z⟩ <;> rw [hS] at z <;> cases z
        · exact .inl ⟨o, hS⟩
        · exact .inr hS
      refine ⟨[], [], [.cl (ns.map D.int)], _, ⟨rfl, List.nodup_nil, fun _ _ _ h => by simp at h⟩, .cons (.cl sc (rds ns)) .nil, rfl, law ns hl, fun d S' v m' H' e rel x rd => ?_⟩
      subst e
      cases rd
      rfl
    · have o := def_ok (P := l.prog) (w := w) (base := base) hf FD ok (tab_ok F n)
      rw [hps] at o
      exact o
end Ev
set_option Elab.async false
set_option linter.all false
set_option maxRecDepth 100000
set_option maxHeartbeats 8000000
namespace Ev
open PySem PySem.Spec PyProof.Rows L2
/-! ## rows for going through a body -/
section
variable {S : Store} {Q : DK} {i j : Int} {r : Rho} {N : Dn} {A B : Dn → Rho → Store → Prop}
theorem bin_add : wpBin .add (.int i) (.int j) S Q = Q (.int (i + j)) S := by simp [wpBin, arithOk, arith]
theorem bin_sub : wpBin .sub (.int i) (.int j) S Q = Q (.int (i - j)) S := by simp [wpBin, arithOk, arith]
theorem mulOkL (h1 : -18446744073709551616 < i) (h2 : i < 18446744073709551616) : IntMulOk i j := .of_left (intBits_le_64 (by omega) (by omega))
theorem mulOkR (h1 : -18446744073709551616 < j) (h2 : j < 18446744073709551616) : IntMulOk i j := .of_right (intBits_le_64 (by omega) (by omega))
theorem bin_mul (h : IntMulOk i j) : wpBin .mul (.int i) (.int j) S Q = Q (.int (i * j)) S := by simp [wpBin, arithOk, arith, h]
theorem bin_mulL (h1 : -18446744073709551616 < i) (h2 : i < 18446744073709551616) : wpBin .mul (.int i) (.int j) S Q = Q (.int (i * j)) S := bin_mul (mulOkL h1 h2)
theorem bin_mulR (h1 : -18446744073709551616 < j) (h2 : j < 18446744073709551616) : wpBin .mul (.int i) (.int j) S Q = Q (.int (i * j)) S := bin_mul (mulOkR h1 h2)
theorem bin_mod (h : 0 < j) : wpBin .mod (.int i) (.int j) S Q = Q (.int (i % j)) S := by
  have e : i.fmod j = i % j := Int.fmod_eq_emod_of_nonneg i (by omega)
  have n : j ≠ 0 := by omega
  simp [wpBin, arithOk, arith, e, n]
theorem bin_div (h : 0 < j) (h2 : j < 340282366920938463463374607431768211456) : wpBin .fdiv (.int i) (.int j) S Q = Q (.int (i / j)) S := by
  have e : i.fdiv j = i / j := Int.fdiv_eq_ediv_of_nonneg i (by omega)
  have n : j ≠ 0 ∧ j.natAbs < 340282366920938463463374607431768211456 := ⟨by omega, by omega⟩
  simp [wpBin, arithOk, arith, e, n]
theorem bin_pow (h0 : 0 ≤ j) (h1 : j ≤ 1000000) (h2 : -18446744073709551616 < i) (h3 : i < 18446744073709551616) : wpBin .pow (.int i) (.int j) S Q = Q (.int (i ^ j.toNat)) S := by
  have n : 0 ≤ j ∧ j ≤ 1000000 ∧ i.natAbs < 2 ^ 64 := ⟨h0, h1, by omega⟩
  simp only [wpBin, arithOk, arith]
  rw [eq_iff_iff]
  exact ⟨fun z => z.2, fun z => ⟨n, z⟩⟩
theorem aug_add : wpAug .add (.int i) (.int j) S Q = Q (.int (i + j)) S := by simp [wpAug, arithOk, arith]
theorem aug_sub : wpAug .sub (.int i) (.int j) S Q = Q (.int (i - j)) S := by simp [wpAug, arithOk, arith]
theorem bin_tup {a b : List D} (h : a.length + b.length ≤ 16777216) : wpBin .add (.tup a) (.tup b) S Q = Q (.tup (a ++ b)) S := by
  have e : a.length + b.length ≤ sizeLine := by rw [sizeLine_eq]; exact h
  simp [wpBin, e]
theorem cmp_eq : wpCmp .eq (.int i) (.int j) S Q = Q (.bl (decide (i = j))) S := by
  simp only [wpCmp, pyS, py, Option.some.injEq]
  rw [eq_iff_iff]
  constructor
  · rintro ⟨d, e, rfl, rfl, _, _, z⟩
    rw [← Bool.beq_eq_decide_eq]
    exact z
  · intro z
    refine ⟨_, _, rfl, rfl, rfl, rfl, ?_⟩
    rw [← Bool.beq_eq_decide_eq] at z
    exact z
theorem cmp_ne : wpCmp .ne (.int i) (.int j) S Q = Q (.bl (decide (i ≠ j))) S := by
  simp only [wpCmp, pyS, py, Option.some.injEq]
  have e : decide (i ≠ j) = !(i == j) := by rw [Bool.beq_eq_decide_eq]; simp
  rw [eq_iff_iff, e]
  constructor
  · rintro ⟨d, e, rfl, rfl, _, _, z⟩
    exact z
  · intro z
    exact ⟨_, _, rfl, rfl, rfl, rfl, z⟩
theorem cmp_lt : wpCmp .lt (.int i) (.int j) S Q = Q (.bl (decide (i < j))) S := by simp [wpCmp]
theorem cmp_le : wpCmp .le (.int i) (.int j) S Q = Q (.bl (decide (i ≤ j))) S := by simp [wpCmp]
theorem cmp_gt : wpCmp .gt (.int i) (.int j) S Q = Q (.bl (decide (j < i))) S := by simp [wpCmp]
theorem cmp_ge : wpCmp .ge (.int i) (.int j) S Q = Q (.bl (decide (j ≤ i))) S := by simp [wpCmp]
theorem cmp_isN {x : D} : wpCmp .is x .non S Q = Q (.bl x.isNon) S := rfl
theorem cmp_notN {x : D} : wpCmp .isnot x .non S Q = Q (.bl (!x.isNon)) S := rfl
theorem cmp_isB {a b : Bool} : wpCmp .is (.bl a) (.bl b) S Q = Q (.bl (a == b)) S := by simp [wpCmp]
theorem ifK_t : ifK true A B N r S = A N r S := by simp [ifK]
theorem ifK_f : ifK false A B N r S = B N r S := by simp [ifK]
theorem ifK_d {p : Prop} [Decidable p] (h1 : p → A N r S) (h2 : ¬ p → B N r S) : ifK (decide p) A B N r S := by
  unfold ifK
  by_cases h : p
  · rw [if_pos (decide_eq_true h)]; exact h1 h
  · rw [if_neg (by simpa using h)]; exact h2 h
theorem ifK_b {c : Bool} (h1 : c = true → A N r S) (h2 : c = false → B N r S) : ifK c A B N r S := by
  unfold ifK
  cases c with
  | true => rw [if_pos rfl]; exact h1 rfl
  | false => rw [if_neg Bool.false_ne_true]; exact h2 rfl
theorem later_in {w : Rho → Store → Prop} (h : w r S) : later w r S := by rw [later_eq]; exact h
end
/-! rows of the wishes -/
/-- one wish or the other, both shut -/
def ifC (c : Bool) (A B : Unit → Prop) : Prop := if c = true then A () else B ()
theorem ifC_t {A B : Unit → Prop} : ifC true A B = A () := by simp [ifC]
theorem ifC_f {A B : Unit → Prop} : ifC false A B = B () := by simp [ifC]
theorem ifC_d {p : Prop} [Decidable p] {A B : Unit → Prop} (h1 : p → A ()) (h2 : ¬ p → B ()) : ifC (decide p) A B := by
  unfold ifC
  by_cases h : p
  · rw [if_pos (decide_eq_true h)]; exact h1 h
  · rw [if_neg (by simpa using h)]; exact h2 h
theorem ifC_b {c : Bool} {A B : Unit → Prop} (h1 : c = true → A ()) (h2 : c = false → B ()) : ifC c A B := by
  cases c with
  | true => rw [ifC_t]; exact h1 rfl
  | false => rw [ifC_f]; exact h2 rfl
section
variable {C : CallH} {r : Rho} {S : Store} {Q : DK} {R : Bool → Store → Prop}
theorem v_var {i : Nat} : (wp C (.var i)).v r S Q = (∃ d, r[i]? = some (some d) ∧ Q d S) := rfl
theorem t_var' {i : Nat} : (wp C (.var i)).t r S R = ((wp C (.var i)).v r S fun x S1 => ∃ b, truth S1 x = some b ∧ R b S1) := rfl
theorem v_cst {c : Cst} : (wp C (.cst c)).v r S Q = (Q c.d S) := rfl
theorem t_cst' {c : Cst} : (wp C (.cst c)).t r S R = ((wp C (.cst c)).v r S fun x S1 => ∃ b, truth S1 x = some b ∧ R b S1) := rfl
theorem v_bin {op : Bop} {a b : E} : (wp C (.bin op a b)).v r S Q = ((wp C a).v r S fun x S1 => (wp C b).v r S1 fun y S2 => wpBin op x y S2 Q) := rfl
theorem t_bin' {op : Bop} {a b : E} : (wp C (.bin op a b)).t r S R = ((wp C (.bin op a b)).v r S fun x S1 => ∃ b, truth S1 x = some b ∧ R b S1) := rfl
theorem v_neg {a : E} : (wp C (.neg a)).v r S Q = ((wp C a).v r S fun x S1 => ∃ i, x = .int i ∧ Q (.int (-i)) S1) := rfl
theorem t_neg' {a : E} : (wp C (.neg a)).t r S R = ((wp C (.neg a)).v r S fun x S1 => ∃ b, truth S1 x = some b ∧ R b S1) := rfl
theorem v_cmp {op : Cop} {a b : E} : (wp C (.cmp op a b)).v r S Q = ((wp C a).v r S fun x S1 => (wp C b).v r S1 fun y S2 => wpCmp op x y S2 Q) := rfl
theorem t_cmp' {op : Cop} {a b : E} : (wp C (.cmp op a b)).t r S R = ((wp C (.cmp op a b)).v r S fun x S1 => ∃ b, truth S1 x = some b ∧ R b S1) := rfl
theorem v_chain {o1 o2 : Cop} {a b c : E} : (wp C (.chain o1 o2 a b c)).v r S Q = ((wp C a).v r S fun x S1 => (wp C b).v r S1 fun y S2 => wpCmp o1 x y S2 fun z S3 => ∃ k, z = .bl k ∧ ifC k (fun _ => (wp C c).v r S3 fun u S4 => wpCmp o2 y u S4 Q) (fun _ => Q (.bl false) S3)) := rfl
theorem t_chain' {o1 o2 : Cop} {a b c : E} : (wp C (.chain o1 o2 a b c)).t r S R = ((wp C (.chain o1 o2 a b c)).v r S fun x S1 => ∃ b, truth S1 x = some b ∧ R b S1) := rfl
theorem v_tup {es : Es} : (wp C (.tup es)).v r S Q = (wpEs C es r S fun xs S1 => Q (.tup xs) S1) := rfl
theorem t_tup' {es : Es} : (wp C (.tup es)).t r S R = ((wp C (.tup es)).v r S fun x S1 => ∃ b, truth S1 x = some b ∧ R b S1) := rfl
theorem v_lst {es : Es} : (wp C (.lst es)).v r S Q = (wpEs C es r S fun xs S1 => Q (.ref S1.length) (S1 ++ [.lst xs])) := rfl
theorem t_lst' {es : Es} : (wp C (.lst es)).t r S R = ((wp C (.lst es)).v r S fun x S1 => ∃ b, truth S1 x = some b ∧ R b S1) := rfl
theorem v_idx {a b : E} : (wp C (.idx a b)).v r S Q = ((wp C a).v r S fun x S1 => (wp C b).v r S1 fun y S2 => ∃ l, items S2 x = some l ∧ ∃ i, y = .int i ∧ ∃ d, ixAt l i = some d ∧ Q d S2) := rfl
theorem t_idx' {a b : E} : (wp C (.idx a b)).t r S R = ((wp C (.idx a b)).v r S fun x S1 => ∃ b, truth S1 x = some b ∧ R b S1) := rfl
theorem v_slc {a : E} {lo hi : Eo} : (wp C (.slc a lo hi)).v r S Q = ((wp C a).v r S fun x S1 => wpEo C lo r S1 fun l S2 => wpEo C hi r S2 fun h S3 => wpSlc x l h S3 Q) := rfl
theorem t_slc' {a : E} {lo hi : Eo} : (wp C (.slc a lo hi)).t r S R = ((wp C (.slc a lo hi)).v r S fun x S1 => ∃ b, truth S1 x = some b ∧ R b S1) := rfl
theorem v_call {f : Nat} {es : Es} : (wp C (.call f es)).v r S Q = (wpEs C es r S fun xs S1 => C f xs S1 Q) := rfl
theorem t_call' {f : Nat} {es : Es} : (wp C (.call f es)).t r S R = ((wp C (.call f es)).v r S fun x S1 => ∃ b, truth S1 x = some b ∧ R b S1) := rfl
theorem v_callK {f : Nat} {es zs : Es} {ks : List Str} {perm : List Nat} : (wp C (.callK f es ks zs perm)).v r S Q = (wpEs C es r S fun xs S1 => wpEs C zs r S1 fun ys S2 => C f (perm.filterMap fun i => (xs ++ ys)[i]?) S2 Q) := rfl
theorem t_callK' {f : Nat} {es zs : Es} {ks : List Str} {perm : List Nat} : (wp C (.callK f es ks zs perm)).t r S R = ((wp C (.callK f es ks zs perm)).v r S fun x S1 => ∃ b, truth S1 x = some b ∧ R b S1) := rfl
theorem v_bi {b : Bi} {es : Es} : (wp C (.bi b es)).v r S Q = (wpEs C es r S fun xs S1 => wpBi b xs S1 Q) := rfl
theorem t_bi' {b : Bi} {es : Es} : (wp C (.bi b es)).t r S R = ((wp C (.bi b es)).v r S fun x S1 => ∃ b, truth S1 x = some b ∧ R b S1) := rfl
theorem v_isi {a : E} {t : Ty} : (wp C (.isi a t)).v r S Q = ((wp C a).v r S fun x S1 => ∃ b, isTy t x = some b ∧ Q (.bl b) S1) := rfl
theorem t_isi' {a : E} {t : Ty} : (wp C (.isi a t)).t r S R = ((wp C (.isi a t)).v r S fun x S1 => ∃ b, truth S1 x = some b ∧ R b S1) := rfl
theorem v_meth {me : Me} {o : E} {es : Es} : (wp C (.meth me o es)).v r S Q = ((wp C o).v r S fun x S1 => (∃ n, x = .ref n) ∧ wpEs C es r S1 fun xs S2 => wpMe me x xs S2 Q) := rfl
theorem t_meth' {me : Me} {o : E} {es : Es} : (wp C (.meth me o es)).t r S R = ((wp C (.meth me o es)).v r S fun x S1 => ∃ b, truth S1 x = some b ∧ R b S1) := rfl
theorem v_lc {elt : E} {g : G} {it : It} {cs : Es} {own : List Nat} : (wp C (.lc elt g it cs own)).v r S Q = (wpI C it r S fun src S1 => lcLoop src.stay (wpG C g) (wpTs C cs) (wp C elt).v (wipeD r own) src.its S1 [] fun acc S2 => Q (.ref S2.length) (S2 ++ [.lst acc])) := rfl
theorem t_lc' {elt : E} {g : G} {it : It} {cs : Es} {own : List Nat} : (wp C (.lc elt g it cs own)).t r S R = ((wp C (.lc elt g it cs own)).v r S fun x S1 => ∃ b, truth S1 x = some b ∧ R b S1) := rfl
theorem v_and {a b : E} : (wp C (.and a b)).v r S Q = ((wp C a).v r S fun x S1 => ∃ c, x = .bl c ∧ ifC c (fun _ => (wp C b).v r S1 Q) (fun _ => Q (.bl false) S1)) := rfl
theorem v_or {a b : E} : (wp C (.or a b)).v r S Q = ((wp C a).v r S fun x S1 => ∃ c, x = .bl c ∧ ifC c (fun _ => Q (.bl true) S1) (fun _ => (wp C b).v r S1 Q)) := rfl
theorem v_not {a : E} : (wp C (.not a)).v r S Q = ((wp C a).v r S fun x S1 => ∃ c, x = .bl c ∧ Q (.bl (!c)) S1) := rfl
theorem v_ite {t a b : E} : (wp C (.ite t a b)).v r S Q = ((wp C t).t r S fun c S1 => ifC c (fun _ => (wp C a).v r S1 Q) (fun _ => (wp C b).v r S1 Q)) := rfl
theorem tt_and {a b : E} : (wp C (.and a b)).t r S R = ((wp C a).t r S fun c S1 => ifC c (fun _ => (wp C b).t r S1 R) (fun _ => R false S1)) := rfl
theorem tt_or {a b : E} : (wp C (.or a b)).t r S R = ((wp C a).t r S fun c S1 => ifC c (fun _ => R true S1) (fun _ => (wp C b).t r S1 R)) := rfl
theorem tt_not {a : E} : (wp C (.not a)).t r S R = ((wp C a).t r S fun c S1 => R (!c) S1) := rfl
theorem e_v {e : E} : wpE C e r S Q = (wp C e).v r S Q := rfl
theorem e_t {e : E} : wpT C e r S R = (wp C e).t r S R := rfl
theorem bi_len {x : D} : wpBi .len [x] S Q = ∃ l, items S x = some l ∧ Q (.int l.length) S := by
  simp [wpBi]
theorem bi_int {i : Int} : wpBi .int [.int i] S Q = Q (.int i) S := by simp [wpBi]
theorem bi_intb {b : Bool} : wpBi .int [.bl b] S Q = Q (.int (if b = true then 1 else 0)) S := by simp [wpBi]
theorem bi_abs {i : Int} : wpBi .abs [.int i] S Q = Q (.int (if i < 0 then -i else i)) S := by simp [wpBi]
theorem bi_tuple {x : D} : wpBi .tuple [x] S Q = ∃ l, items S x = some l ∧ Q (.tup l) S := by simp [wpBi]
theorem bi_list {x : D} : wpBi .list [x] S Q = ∃ l, items S x = some l ∧ Q (.ref S.length) (S ++ [.lst l]) := by simp [wpBi]
theorem bi_sum {x : D} : wpBi .sum [x] S Q = ∃ l, items S x = some l ∧ ∃ ns, ints? l = some ns ∧ Q (.int ns.sum) S := by simp [wpBi]
theorem bi_max {i j : Int} : wpBi .max [.int i, .int j] S Q = Q (.int (if j > i then j else i)) S := by
  rw [eq_iff_iff]
  constructor
  · rintro ⟨a, b, e, z⟩
    cases e
    exact z
  · exact fun z => ⟨i, j, rfl, z⟩
theorem bi_min {i j : Int} : wpBi .min [.int i, .int j] S Q = Q (.int (if j < i then j else i)) S := by
  rw [eq_iff_iff]
  constructor
  · rintro ⟨a, b, e, z⟩
    cases e
    exact z
  · exact fun z => ⟨i, j, rfl, z⟩
theorem me_append {n : Nat} {y : D} : wpMe .append (.ref n) [y] S Q = ∃ l, S[n]? = some (.lst l) ∧ l.length < sizeLine ∧ Q .non (S.set n (.lst (l ++ [y]))) := by simp [wpMe]
end
/-! rows of statements -/
section
variable {C : CallH} {r : Rho} {S : Store} {Q : DK} {N : Dn} {R : Bool → Store → Prop} {e o i : E} {a b rest : Bs} {s : Sm} {op : Bop} {g : G} {it : It} {k : Nat}
theorem sb_nil : wpB C .nil N r S = N.nx r S := rfl
theorem sb_cons : wpB C (.cons s rest) N r S = wpS C s { N with nx := later (wpB C rest N) } r S := rfl
theorem ss_expr : wpS C (.expr e) N r S = (wp C e).v r S fun _ S1 => N.nx r S1 := rfl
theorem ss_ret : wpS C (.ret e) N r S = (wp C e).v r S N.rt := rfl
theorem ss_retN : wpS C .retN N r S = N.rt .non S := rfl
theorem ss_ifs : wpS C (.ifs e a b) N r S = (wp C e).t r S fun c S1 => ifK c (wpB C a) (wpB C b) N r S1 := rfl
theorem ss_fors : wpS C (.fors g it b) N r S = wpI C it r S fun src S1 => forLoop src.stay (wpG C g) (wpB C b) N src.its r S1 := rfl
theorem ss_asg : wpS C (.asg g e) N r S = (wp C e).v r S fun x S1 => wpG C g x r S1 N.nx := rfl
theorem ss_aug : wpS C (.aug k op e) N r S = ∃ d, r[k]? = some (some d) ∧ (wp C e).v r S fun y S1 => wpAug op d y S1 fun z S2 => N.nx (r.set k (some z)) S2 := rfl
theorem ss_augS : wpS C (.augS o i op e) N r S = (wp C o).v r S fun x S1 => (wp C i).v r S1 fun y S2 => ∃ n, x = .ref n ∧ ∃ k, y = .int k ∧ ∃ l, S2[n]? = some (.lst l) ∧ 0 ≤ k ∧ ∃ d, ixAt l k = some d ∧
      (wp C e).v r S2 fun z S3 => wpAug op d z S3 fun u S4 => ∃ l', S4[n]? = some (.lst l') ∧ ∃ j, ixN l'.length k = some j ∧ N.nx r (S4.set n (.lst (l'.set j u))) := rfl
theorem ss_pass : wpS C .pass N r S = N.nx r S := rfl
theorem ss_brk : wpS C .brk N r S = N.bk r S := rfl
theorem ss_cont : wpS C .cont N r S = N.ct r S := rfl
theorem se_nil {Q : List D → Store → Prop} : wpEs C .nil r S Q = Q [] S := rfl
theorem se_cons {es : Es} {Q : List D → Store → Prop} : wpEs C (.cons e es) r S Q = (wp C e).v r S fun x S1 => wpEs C es r S1 fun xs S2 => Q (x :: xs) S2 := rfl
theorem so_none {Q : Option Int → Store → Prop} : wpEo C .none r S Q = Q none S := rfl
theorem so_some {Q : Option Int → Store → Prop} : wpEo C (.some e) r S Q = (wp C e).v r S fun x S1 => ∃ i, x = .int i ∧ Q (some i) S1 := rfl
theorem sts_nil : wpTs C .nil r S R = R true S := rfl
theorem sts_cons {es : Es} : wpTs C (.cons e es) r S R = (wp C e).t r S R := rfl
theorem sg_name {d : D} {Q : Rho → Store → Prop} : wpG C (.name k) d r S Q = Q (r.set k (some d)) S := rfl
theorem sg_tup {l : List D} {gs : Gs} {Q : Rho → Store → Prop} : wpG C (.tup gs) (.tup l) r S Q = (l.length = lenGs gs ∧ wpGs C gs l r S Q) := by
  rw [eq_iff_iff]
  constructor
  · rintro ⟨ds, e, h⟩
    cases e
    exact h
  · exact fun h => ⟨l, rfl, h⟩
theorem sg_sub {d : D} {Q : Rho → Store → Prop} : wpG C (.sub o i) d r S Q = (wp C o).v r S fun x S1 => (wp C i).v r S1 fun y S2 => ∃ n, x = .ref n ∧ ∃ k, y = .int k ∧ ∃ l, S2[n]? = some (.lst l) ∧ ∃ j, ixN l.length k = some j ∧ Q r (S2.set n (.lst (l.set j d))) := rfl
theorem sgs_nil {Q : Rho → Store → Prop} : wpGs C .nil [] r S Q = Q r S := by
  rw [eq_iff_iff]
  exact ⟨fun h => h.2, fun h => ⟨rfl, h⟩⟩
theorem sgs_cons {d : D} {ds : List D} {gs : Gs} {Q : Rho → Store → Prop} : wpGs C (.cons g gs) (d :: ds) r S Q = wpG C g d r S fun r1 S1 => wpGs C gs ds r1 S1 Q := by
  rw [eq_iff_iff]
  constructor
  · rintro ⟨x, xs, e, h⟩
    cases e
    exact h
  · exact fun h => ⟨d, ds, rfl, h⟩
theorem si_val {Q : Src → Store → Prop} : wpI C (.val e) r S Q = (wp C e).v r S fun x S1 => wpSrc x S1 Q := rfl
theorem si_rng1 {Q : Src → Store → Prop} : wpI C (.rng1 e) r S Q = (wp C e).v r S fun x S1 => ∃ j : Int, x = .int j ∧ -(2 ^ 62) ≤ j ∧ j < 2 ^ 62 ∧ Q ⟨rngL 0 j.toNat, fun _ => True⟩ S1 := rfl
theorem si_rng2 {Q : Src → Store → Prop} : wpI C (.rng2 o i) r S Q = (wp C o).v r S fun x S1 => (wp C i).v r S1 fun y S2 => ∃ a : Int, x = .int a ∧ ∃ b : Int, y = .int b ∧ (-(2 ^ 62) ≤ a ∧ a < 2 ^ 62 ∧ -(2 ^ 62) ≤ b ∧ b < 2 ^ 62) ∧ Q ⟨rngL a (b - a).toNat, fun _ => True⟩ S2 := rfl
theorem src_tup {l : List D} {Q : Src → Store → Prop} : wpSrc (.tup l) S Q = Q ⟨l, fun _ => True⟩ S := rfl
theorem src_cl {l : List D} {Q : Src → Store → Prop} : wpSrc (.cl l) S Q = Q ⟨l, fun _ => True⟩ S := rfl
theorem src_ref {n : Nat} {Q : Src → Store → Prop} : wpSrc (.ref n) S Q = ∃ l, items S (.ref n) = some l ∧ Q (.live n S l) S := rfl
theorem slc_tup {l : List D} {lo hi : Option Int} : wpSlc (.tup l) lo hi S Q = Q (.tup (cut l lo hi)) S := rfl
theorem slc_cl {l : List D} {lo hi : Option Int} : wpSlc (.cl l) lo hi S Q = Q (.ref S.length) (S ++ [.lst (cut l lo hi)]) := rfl
theorem slc_ref {n : Nat} {lo hi : Option Int} : wpSlc (.ref n) lo hi S Q = ∃ l, items S (.ref n) = some l ∧ Q (.ref S.length) (S ++ [.lst (cut l lo hi)]) := rfl
theorem its_tup {l : List D} : items S (.tup l) = some l := rfl
theorem its_cl {l : List D} : items S (.cl l) = some l := rfl
theorem its_ref {n : Nat} {l : List D} : (items S (.ref n) = some l) = (S[n]? = some (.lst l)) := by
  unfold items
  rw [eq_iff_iff]
  cases q : S[n]? with
  | none => simp [q]
  | some o => cases o; simp [q]
theorem tr_non : truth S .non = some false := rfl
theorem tr_bl {b : Bool} : truth S (.bl b) = some b := rfl
theorem tr_int {i : Int} : truth S (.int i) = some (i != 0) := rfl
theorem tr_tup {l : List D} : truth S (.tup l) = some (!l.isEmpty) := rfl
theorem nn_non : D.isNon .non = true := rfl
theorem nn_int {i : Int} : D.isNon (.int i) = false := rfl
theorem nn_tup {l : List D} : D.isNon (.tup l) = false := rfl
theorem nn_bl {b : Bool} : D.isNon (.bl b) = false := rfl
theorem nn_str {b : Str} : D.isNon (.str b) = false := rfl
theorem ty_int {i : Int} : isTy .int (.int i) = some true := rfl
theorem ty_intb {i : Bool} : isTy .int (.bl i) = some true := rfl
theorem ty_bool {i : Int} : isTy .bool (.int i) = some false := rfl
theorem ty_boolb {i : Bool} : isTy .bool (.bl i) = some true := rfl
theorem ty_boolt {i : List D} : isTy .bool (.tup i) = some false := rfl
theorem ty_intt {i : List D} : isTy .int (.tup i) = some false := rfl
theorem ty_tup {i : List D} : isTy .tuple (.tup i) = some true := rfl
theorem ty_tupi {i : Int} : isTy .tuple (.int i) = some false := rfl
theorem ty_tupb {i : Bool} : isTy .tuple (.bl i) = some false := rfl
theorem ty_inon : isTy .int .non = some false := rfl
theorem ty_bnon : isTy .bool .non = some false := rfl
theorem ty_tnon : isTy .tuple .non = some false := rfl
theorem ty_snon : isTy .str .non = some false := rfl
theorem ty_sstr {x : Str} : isTy .str (.str x) = some true := rfl
theorem cst_int {n : Int} : Cst.d (.int n) = .int n := rfl
theorem cst_bl {n : Bool} : Cst.d (.bl n) = .bl n := rfl
theorem cst_str {n : Str} : Cst.d (.str n) = .str n := rfl
theorem cst_non : Cst.d .non = .non := rfl
theorem lg_nil : lenGs .nil = 0 := rfl
theorem lg_cons {gs : Gs} : lenGs (.cons g gs) = lenGs gs + 1 := rfl
theorem d_int {i j : Int} : (D.int i = D.int j) = (i = j) := by simp
theorem d_bl {i j : Bool} : (D.bl i = D.bl j) = (i = j) := by simp
theorem d_ref {i j : Nat} : (D.ref i = D.ref j) = (i = j) := by simp
end
/-! lists of ints -/
theorem ints_map : ∀ w : List Int, ints? (w.map D.int) = some w
  | [] => rfl
  | i :: r => by
    show (ints? (r.map D.int)).map (i :: ·) = _
    rw [ints_map r]; rfl
theorem ixAt_nat {l : List D} {i : Int} {d : D} (h0 : 0 ≤ i) (h : l[i.toNat]? = some d) : ixAt l i = some d := by
  have z := atI_nat (xs := l) (j := i.toNat) h
  have e : ((i.toNat : Nat) : Int) = i := by omega
  rw [e] at z
  exact z
theorem ixAt_ints {w : List Int} {i : Int} (h0 : 0 ≤ i) (h1 : i < w.length) : ixAt (w.map D.int) i = some (.int (w.getD i.toNat 0)) := by
  refine ixAt_nat h0 ?_
  have h : i.toNat < w.length := by omega
  rw [List.getElem?_map, List.getElem?_eq_getElem h, List.getD_eq_getElem?_getD, List.getElem?_eq_getElem h]
  rfl
theorem ix0 {a : D} {l : List D} : ixAt (a :: l) 0 = some a := ixAt_nat (by omega) rfl
/-! stores -/
theorem st_len (S : Store) (l : List Ob) : (S ++ l).length = S.length + l.length := List.length_append
theorem st_get (S : Store) (l : List Ob) (i : Nat) : (S ++ l)[S.length + i]? = l[i]? := by
  rw [List.getElem?_append_right (by omega)]
  congr 1
  omega
theorem st_get0 (S : Store) (l : List Ob) : (S ++ l)[S.length]? = l[0]? := by
  rw [List.getElem?_append_right (by omega)]
  simp
theorem st_set (S : Store) (l : List Ob) (i : Nat) (o : Ob) : (S ++ l).set (S.length + i) o = S ++ l.set i o := by
  rw [List.set_append, if_neg (by omega)]
  congr 2
  omega
theorem st_set0 (S : Store) (l : List Ob) (o : Ob) : (S ++ l).set S.length o = S ++ l.set 0 o := by
  rw [List.set_append, if_neg (by omega)]
  simp
theorem st_app (S : Store) (l k : List Ob) : (S ++ l) ++ k = S ++ (l ++ k) := List.append_assoc ..
theorem ret_pure {S : Store} {d : D} {g : List Ob} {Q : DK} (hc : clD S.length d = true) (h : Q d S) : Ret S d (S ++ g) Q := .inr ⟨S, g, rfl, rfl, hc, fun o ho => .inl ho, h⟩
theorem ret_same {S S' : Store} {d : D} {Q : DK} (h : Q d S') : Ret S d S' Q := .inl h
theorem ret_one {S S' : Store} {d : D} {g : List Ob} {n : Nat} {o : Ob} {Q : DK} (hc : clD S.length d = true) (ho : clO S.length o = true) (h : Q d (S.set n o)) : Ret S d (S.set n o ++ g) Q :=
  .inr ⟨S.set n o, g, rfl, by simp, hc, fun u hu => by
    rcases List.mem_or_eq_of_mem_set hu with z | z
    · exact .inl z
    · exact .inr (by rw [z]; exact ho), h⟩
end Ev
set_option Elab.async false
set_option linter.all false
set_option maxRecDepth 100000
set_option maxHeartbeats 8000000
namespace Ev
open PySem PySem.Spec PyProof.Rows L2
/-! ## loops -/
def ifL (c : Bool) (A B : Rho → Store → Prop) (r : Rho) (S : Store) : Prop := if c = true then A r S else B r S
theorem ifL_t {A B : Rho → Store → Prop} {r : Rho} {S : Store} : ifL true A B r S = later A r S := by rw [later_eq]; simp [ifL]
theorem ifL_f {A B : Rho → Store → Prop} {r : Rho} {S : Store} : ifL false A B r S = later B r S := by rw [later_eq]; simp [ifL]
theorem ifL_d {p : Prop} [Decidable p] {A B : Rho → Store → Prop} {r : Rho} {S : Store} (h1 : p → later A r S) (h2 : ¬ p → later B r S) : ifL (decide p) A B r S := by
  by_cases h : p
  · rw [decide_eq_true h, ifL_t]; exact h1 h
  · rw [decide_eq_false h, ifL_f]; exact h2 h
theorem ifL_b {c : Bool} {A B : Rho → Store → Prop} {r : Rho} {S : Store} (h1 : c = true → later A r S) (h2 : c = false → later B r S) : ifL c A B r S := by
  cases c with
  | true => rw [ifL_t]; exact h1 rfl
  | false => rw [ifL_f]; exact h2 rfl
section
variable {C : CallH} {r : Rho} {S : Store} {N : Dn} {t : E} {b : Bs}
/-- a while: I holds at each test, its number falls with each turn -/
theorem whl_by (I : Nat → Rho → Store → Prop) (m : Nat) (h0 : I m r S)
    (hs : ∀ m r S (K : Rho → Store → Prop), I m r S → (∀ m' r S, m' < m → I m' r S → K r S) → (wp C t).t r S fun c S1 => ifL c (wpB C b { nx := K, rt := N.rt, bk := N.nx, ct := K }) N.nx r S1) : wpS C (.whl t b) N r S :=
  ⟨I, ⟨m, h0⟩, fun m r S h => hs m r S _ h fun m' _ _ hm hi => ⟨m', hm, hi⟩⟩
/-- a for over known items: I holds ahead of each turn; K is what comes behind the turn -/
theorem for_by {stay : Store → Prop} {tg : D → Rho → Store → (Rho → Store → Prop) → Prop} {body : Dn → Rho → Store → Prop} {its : List D} (I : Nat → Rho → Store → Prop) (h0 : I 0 r S) (hst : ∀ i r S, I i r S → stay S)
    (hs : ∀ (i : Nat) x r S (K : Rho → Store → Prop), its[i]? = some x → I i r S → (∀ r S, I (i + 1) r S → K r S) → tg x r S fun r1 S1 => body { nx := K, rt := N.rt, bk := N.nx, ct := K } r1 S1) (hd : ∀ r S, I its.length r S → N.nx r S) : forLoop stay tg body N its r S := by
  have go : ∀ (l : List D) (i : Nat) (r : Rho) (S : Store), its.drop i = l → i ≤ its.length → I i r S → forLoop stay tg body N l r S := by
    intro l
    induction l with
    | nil =>
      intro i r S e hi h
      have : i = its.length := by
        have z := congrArg List.length e
        rw [List.length_drop, List.length_nil] at z
        omega
      subst this
      exact ⟨hst _ _ _ h, hd r S h⟩
    | cons x xs ih =>
      intro i r S e hi h
      have hlt : i < its.length := by
        have z := congrArg List.length e
        rw [List.length_drop, List.length_cons] at z
        omega
      rw [List.drop_eq_getElem_cons hlt] at e
      injection e with e1 e2
      exact ⟨hst _ _ _ h, hs i x r S _ (by rw [List.getElem?_eq_getElem hlt, e1]) h fun r' S' q => ih (i + 1) r' S' e2 hlt q⟩
  exact go its 0 r S (by simp) (Nat.zero_le _) h0
theorem rngL_at {lo : Int} {n i : Nat} {x : D} (h : (rngL lo n)[i]? = some x) : i < n ∧ x = .int (lo + (i : Int)) := by
  have hi : i < n := by
    have := (List.getElem?_eq_some_iff.mp h).1
    simpa [rngL] using this
  rw [rngL_get hi] at h
  exact ⟨hi, (Option.some.inj h).symm⟩
theorem rngL_length {lo : Int} {n : Nat} : (rngL lo n).length = n := by simp [rngL]
end
/-! ## stores that differ at one place -/
theorem get_set_self {S : Store} {n : Nat} {o : Ob} (h : n < S.length) : (S.set n o)[n]? = some o := List.getElem?_set_self h
theorem get_set_ne {S : Store} {n k : Nat} {o : Ob} (h : n ≠ k) : (S.set n o)[k]? = S[k]? := List.getElem?_set_ne h
theorem lt_of_get {S : Store} {n : Nat} {o : Ob} (h : S[n]? = some o) : n < S.length := (List.getElem?_eq_some_iff.mp h).1
theorem get_app {S : Store} {n : Nat} {l : List Ob} (h : n < S.length) : (S ++ l)[n]? = S[n]? := List.getElem?_append_left h
theorem set_app {S : Store} {n : Nat} {o : Ob} {l : List Ob} (h : n < S.length) : (S ++ l).set n o = S.set n o ++ l := by
  rw [List.set_append, if_pos h]
/-! list literals -/
section
variable {a0 a1 a2 a3 a4 a5 a6 a7 a8 : D} {l : List D}
theorem ix1 : ixAt (a0 :: a1 :: l) 1 = some a1 := ixAt_nat (by omega) rfl
theorem ix2 : ixAt (a0 :: a1 :: a2 :: l) 2 = some a2 := ixAt_nat (by omega) rfl
theorem ix3 : ixAt (a0 :: a1 :: a2 :: a3 :: l) 3 = some a3 := ixAt_nat (by omega) rfl
theorem ix4 : ixAt (a0 :: a1 :: a2 :: a3 :: a4 :: l) 4 = some a4 := ixAt_nat (by omega) rfl
theorem ix5 : ixAt (a0 :: a1 :: a2 :: a3 :: a4 :: a5 :: l) 5 = some a5 := ixAt_nat (by omega) rfl
theorem ix6 : ixAt (a0 :: a1 :: a2 :: a3 :: a4 :: a5 :: a6 :: l) 6 = some a6 := ixAt_nat (by omega) rfl
theorem ix7 : ixAt (a0 :: a1 :: a2 :: a3 :: a4 :: a5 :: a6 :: a7 :: l) 7 = some a7 := ixAt_nat (by omega) rfl
theorem ix8 : ixAt (a0 :: a1 :: a2 :: a3 :: a4 :: a5 :: a6 :: a7 :: a8 :: l) 8 = some a8 := ixAt_nat (by omega) rfl
theorem ixN_in {n : Nat} {k : Int} (h0 : 0 ≤ k) (h1 : k < n) : ixN n k = some k.toNat := by
  unfold ixN
  rw [if_pos h0, if_pos h1]
end
theorem bin_mulz {i : Int} {c : Bool} {S : Store} {Q : DK} : wpBin .mul (.int i) (.int (if c = true then 1 else 0)) S Q = Q (.int (if c = true then i else 0)) S := by
  cases c
  · have e : IntMulOk i 0 := mulOkR (by omega) (by omega)
    simp [wpBin, arithOk, arith, e]
  · have e : IntMulOk i 1 := mulOkR (by omega) (by omega)
    simp [wpBin, arithOk, arith, e]
/-! comprehensions -/
theorem wd_nil {r : Rho} : wipeD r [] = r := rfl
theorem wd_cons {r : Rho} {v : Nat} {vs : List Nat} : wipeD r (v :: vs) = (wipeD r vs).set v none := rfl
theorem lc_by {stay : Store → Prop} {tg : D → Rho → Store → (Rho → Store → Prop) → Prop} {cond : Rho → Store → (Bool → Store → Prop) → Prop} {elt : Rho → Store → DK → Prop} {r : Rho} {its : List D} {S : Store} {Q : List D → Store → Prop}
    (I : Nat → Store → List D → Prop) (h0 : I 0 S []) (hst : ∀ i S a, I i S a → stay S)
    (hs : ∀ i x S a (K : List D → Store → Prop), its[i]? = some x → I i S a → (∀ a' S', I (i + 1) S' a' → K a' S') → tg x r S fun r1 S1 => cond r1 S1 fun b S2 => ifC b (fun _ => elt r1 S2 fun y S3 => a.length < sizeLine ∧ K (a ++ [y]) S3) (fun _ => K a S2))
    (hd : ∀ a S, I its.length S a → Q a S) : lcLoop stay tg cond elt r its S [] Q := by
  have go : ∀ (l : List D) (i : Nat) (S : Store) (a : List D), its.drop i = l → i ≤ its.length → I i S a → lcLoop stay tg cond elt r l S a Q := by
    intro l
    induction l with
    | nil =>
      intro i S a e hi h
      have : i = its.length := by
        have z := congrArg List.length e
        rw [List.length_drop, List.length_nil] at z
        omega
      subst this
      exact ⟨hst _ _ _ h, hd a S h⟩
    | cons x xs ih =>
      intro i S a e hi h
      have hlt : i < its.length := by
        have z := congrArg List.length e
        rw [List.length_drop, List.length_cons] at z
        omega
      rw [List.drop_eq_getElem_cons hlt] at e
      injection e with e1 e2
      exact ⟨hst _ _ _ h, hs i x S a (fun a' S' => lcLoop stay tg cond elt r xs S' a' Q) (by rw [List.getElem?_eq_getElem hlt, e1]) h fun a' S' q => ih (i + 1) S' a' e2 hlt q⟩
  exact go its 0 S [] (by simp) (Nat.zero_le _) h0
theorem cut_hi {l : List D} {k : Int} (h : 0 ≤ k) : cut l none (some k) = l.take k.toNat := by
  obtain ⟨n, rfl⟩ : ∃ n : Nat, k = n := ⟨k.toNat, by omega⟩
  unfold cut
  rw [HT.sIx_none, HT.sIx_nat, List.drop_zero, Nat.sub_zero, Int.toNat_natCast]
  rcases Nat.le_total n l.length with z | z
  · rw [Nat.min_eq_left z]
  · rw [Nat.min_eq_right z, List.take_of_length_le (Nat.le_refl _), List.take_of_length_le z]
theorem cut_lo {l : List D} {k : Int} (h : 0 ≤ k) : cut l (some k) none = l.drop k.toNat := by
  obtain ⟨n, rfl⟩ : ∃ n : Nat, k = n := ⟨k.toNat, by omega⟩
  unfold cut
  rw [HT.sIx_none, HT.sIx_nat, Int.toNat_natCast]
  rcases Nat.le_total n l.length with z | z
  · rw [Nat.min_eq_left z, List.take_of_length_le (by rw [List.length_drop]; omega)]
  · rw [Nat.min_eq_right z, Nat.sub_self, List.take_zero, List.drop_of_length_le z]
theorem bin_tupR {a b : List D} {S : Store} {Q : DK} : wpBin .add (.tup a) (.tup b) S Q = (a.length + b.length ≤ sizeLine ∧ Q (.tup (a ++ b)) S) := rfl
theorem bin_lst {n k : Nat} {S : Store} {Q : DK} : wpBin .add (.ref n) (.ref k) S Q = ∃ a b, S[n]? = some (.lst a) ∧ S[k]? = some (.lst b) ∧ a.length + b.length ≤ sizeLine ∧ Q (.ref S.length) (S ++ [.lst (a ++ b)]) := rfl
/-! pairs of ints -/
def prD (p : Int × Int) : D := .tup [.int p.1, .int p.2]
def prP (p : Int × Int) : PyData := .tuple [.int p.1, .int p.2]
theorem prP_eqv {p q : Int × Int} : PyData.eqv (prP p) (prP q) = decide (p = q) := by
  obtain ⟨a, b⟩ := p
  obtain ⟨c, d⟩ := q
  show (PyData.eqv (.int a) (.int c) && (PyData.eqv (.int b) (.int d) && true)) = _
  show ((a == c) && ((b == d) && true)) = _
  simp [Bool.beq_eq_decide_eq]
theorem prs_py : ∀ l : List (Int × Int), pys (l.map prD) = some (l.map prP)
  | [] => rfl
  | p :: l => by
    show (match py (prD p), pys (l.map prD) with
      | some x, some y => some (x :: y)
      | _, _ => none) = _
    rw [prs_py l]
    rfl
theorem prs_lay : ∀ l : List (Int × Int), PyData.canLayAll0 (l.map prP) = true ∧ PyData.depthAll (l.map prP) ≤ 1
  | [] => by simp [PyData.canLayAll0, PyData.depthAll]
  | p :: l => by
    obtain ⟨h1, h2⟩ := prs_lay l
    refine ⟨?_, ?_⟩
    · show (PyData.canLay0 (prP p) && PyData.canLayAll0 (l.map prP)) = true
      rw [h1]
      rfl
    · show max (PyData.depth (prP p)) (PyData.depthAll (l.map prP)) ≤ 1
      have : PyData.depth (prP p) = 1 := rfl
      omega
theorem prs_shaped (l : List (Int × Int)) : SeqAt.shaped (.tuple (l.map prP)) = true := by
  obtain ⟨h1, h2⟩ := prs_lay l
  unfold SeqAt.shaped
  rw [Bool.and_eq_true, decide_eq_true_eq]
  refine ⟨h1, ?_⟩
  show PyData.depthAll (l.map prP) + 1 ≤ 64
  omega
theorem pr_shaped (p : Int × Int) : SeqAt.shaped (prP p) = true := by
  unfold SeqAt.shaped
  rw [Bool.and_eq_true, decide_eq_true_eq]
  refine ⟨rfl, ?_⟩
  show PyData.depth (prP p) ≤ 64
  have : PyData.depth (prP p) = 1 := rfl
  omega
theorem prs_any {p : Int × Int} : ∀ l : List (Int × Int), ((l.map prP).any fun z => PyData.eqv z (prP p)) = decide (p ∈ l)
  | [] => by simp
  | q :: l => by
    rw [List.map_cons, List.any_cons, prs_any l, prP_eqv, ← Bool.decide_or]
    congr 1
    rw [List.mem_cons, eq_comm (a := p) (b := q)]
theorem cmp_in_prs {p : Int × Int} {l : List (Int × Int)} {S : Store} {Q : DK} (h : Q (.bl (decide (p ∈ l))) S) : wpCmp .inn (prD p) (.tup (l.map prD)) S Q := by
  refine ⟨prP p, .tuple (l.map prP), l.map prP, rfl, ?_, pr_shaped p, prs_shaped l, rfl, by rw [prs_any]; exact h⟩
  show (pys (l.map prD)).map PyData.tuple = _
  rw [prs_py]
  rfl
theorem cmp_eq_prs {p q : Int × Int} {S : Store} {Q : DK} (h : Q (.bl (decide (p = q))) S) : wpCmp .eq (prD p) (prD q) S Q :=
  ⟨prP p, prP q, rfl, rfl, pr_shaped p, pr_shaped q, by rw [prP_eqv]; exact h⟩
end Ev
/-! Weeks: counting open days (plain). -/
namespace Wks
/-- 1 on open days -/
def op (w : List Int) (d : Int) : Int := w.getD (d % 7).toNat 0
structure Wk (w : List Int) : Prop where
  len : w.length = 7
  bit : ∀ i : Nat, i < 7 → w.getD i 0 = 0 ∨ w.getD i 0 = 1
  some : ∃ i : Nat, i < 7 ∧ w.getD i 0 = 1
def cnt (w : List Int) (d : Int) : Nat → Int
  | 0 => 0
  | k + 1 => cnt w d k + op w (d + ((k + 1 : Nat) : Int))
section
variable {w : List Int} {d : Int}
theorem op_bit (h : Wk w) (d : Int) : op w d = 0 ∨ op w d = 1 := h.bit (d % 7).toNat (by omega)
theorem op_add7 (d : Int) : op w (d + 7) = op w d := by
  unfold op
  rw [Int.add_emod_right]
theorem op_add7m (d : Int) (m : Nat) : op w (d + 7 * m) = op w d := by
  unfold op
  rw [show (d + 7 * (m : Int)) % 7 = d % 7 by omega]
theorem cnt_add (j k : Nat) : cnt w d (j + k) = cnt w d j + cnt w (d + j) k := by
  induction k with
  | zero => show cnt w d j = cnt w d j + 0; omega
  | succ k ih =>
    show cnt w d (j + k) + op w (d + ((j + k + 1 : Nat) : Int)) = cnt w d j + (cnt w (d + j) k + op w (d + j + ((k + 1 : Nat) : Int)))
    rw [ih, show d + ((j + k + 1 : Nat) : Int) = d + j + ((k + 1 : Nat) : Int) by omega]
    omega
theorem cnt_mono (h : Wk w) {j k : Nat} (hjk : j ≤ k) : cnt w d j ≤ cnt w d k := by
  induction k with
  | zero =>
    have : j = 0 := by omega
    subst this
    exact Int.le_refl _
  | succ k ih =>
    by_cases e : j = k + 1
    · subst e; exact Int.le_refl _
    · have := ih (by omega)
      have b := op_bit h (d + ((k + 1 : Nat) : Int))
      show cnt w d j ≤ cnt w d k + op w (d + ((k + 1 : Nat) : Int))
      omega
theorem cnt_lt (h : Wk w) {j k : Nat} (hj : j < k) (ho : op w (d + (k : Int)) = 1) : cnt w d j < cnt w d k := by
  obtain ⟨k, rfl⟩ : ∃ i, k = i + 1 := ⟨k - 1, by omega⟩
  have m := cnt_mono (d := d) h (show j ≤ k by omega)
  show cnt w d j < cnt w d k + op w (d + ((k + 1 : Nat) : Int))
  rw [ho]
  omega
theorem cnt7 (h : Wk w) : cnt w d 7 = w.sum := by
  have hl := h.len
  match w, hl with
  | [a0, a1, a2, a3, a4, a5, a6], _ =>
    have key : ∀ r : Nat, r < 7 → ∀ q : Int, cnt [a0, a1, a2, a3, a4, a5, a6] (7 * q + r) 7 = [a0, a1, a2, a3, a4, a5, a6].sum := by
      intro r hr q
      have e : ∀ (i : Nat), (7 * q + (r : Int) + ((i : Nat) : Int)) % 7 = ((r + i) % 7 : Nat) := by
        intro i
        omega
      simp only [cnt, op, e]
      have : r = 0 ∨ r = 1 ∨ r = 2 ∨ r = 3 ∨ r = 4 ∨ r = 5 ∨ r = 6 := by omega
      rcases this with rfl | rfl | rfl | rfl | rfl | rfl | rfl <;> simp [List.getD] <;> omega
    have z := key (d % 7).toNat (by omega) (d / 7)
    rw [show 7 * (d / 7) + (((d % 7).toNat : Nat) : Int) = d by omega] at z
    exact z
theorem sum_pos (h : Wk w) : 0 < w.sum ∧ w.sum ≤ 7 := by
  rw [← cnt7 (d := 0) h]
  obtain ⟨i, hi, e⟩ := h.some
  have b := fun j => op_bit h j
  have b1 := b 1
  have b2 := b 2
  have b3 := b 3
  have b4 := b 4
  have b5 := b 5
  have b6 := b 6
  have b7 := b 7
  have e0 : op w 7 = op w 0 := op_add7 (w := w) 0
  have ex : cnt w 0 7 = op w 1 + op w 2 + op w 3 + op w 4 + op w 5 + op w 6 + op w 7 := by
    simp [cnt]
  have eo : op w (i : Int) = 1 := by
    unfold op
    rw [show ((i : Int) % 7).toNat = i by omega]
    exact e
  have : i = 0 ∨ i = 1 ∨ i = 2 ∨ i = 3 ∨ i = 4 ∨ i = 5 ∨ i = 6 := by omega
  rw [ex]
  rcases this with rfl | rfl | rfl | rfl | rfl | rfl | rfl <;> simp at eo <;> omega
theorem cnt7m (h : Wk w) (m : Nat) : cnt w d (7 * m) = m * w.sum := by
  induction m with
  | zero => simp [cnt]
  | succ m ih =>
    rw [show 7 * (m + 1) = 7 * m + 7 by omega, cnt_add, ih, cnt7 h]
    rw [show ((m + 1 : Nat) : Int) = (m : Int) + 1 by omega, Int.add_mul, Int.one_mul]
/-- the least open day from d on -/
def Nx (w : List Int) (d e : Int) : Prop := d ≤ e ∧ e < d + 7 ∧ op w e = 1 ∧ ∀ x, d ≤ x → x < e → op w x ≠ 1
theorem nx_ex (h : Wk w) (d : Int) : ∃ e, Nx w d e := by
  obtain ⟨i, hi, e⟩ := h.some
  have key : ∀ n : Nat, n < 7 → op w (d + n) = 1 → ∃ m : Nat, m ≤ n ∧ op w (d + m) = 1 ∧ ∀ j : Nat, j < m → op w (d + j) ≠ 1 := by
    intro n
    induction n using Nat.strongRecOn with
    | ind n ih =>
      intro hn hop
      by_cases q : ∃ j, j < n ∧ op w (d + (j : Int)) = 1
      · obtain ⟨j, hj, ej⟩ := q
        obtain ⟨m, hm, z⟩ := ih j hj (by omega) ej
        exact ⟨m, by omega, z⟩
      · exact ⟨n, Nat.le_refl _, hop, fun j hj ej => q ⟨j, hj, ej⟩⟩
  have h7 : ((((i : Int) - d) % 7).toNat) < 7 := by omega
  obtain ⟨m, hm, em, z⟩ := key (((i : Int) - d) % 7).toNat h7 (by
    unfold op
    rw [show ((d + ((((i : Int) - d) % 7).toNat : Nat)) % 7).toNat = i by omega]
    exact e)
  refine ⟨d + m, by omega, by omega, em, fun x h1 h2 => ?_⟩
  have := z (x - d).toNat (by omega)
  rw [show d + (((x - d).toNat : Nat) : Int) = x by omega] at this
  exact this
theorem nx_same {e e' : Int} (h : Nx w d e) (h' : Nx w d e') : e = e' := by
  obtain ⟨a1, a2, a3, a4⟩ := h
  obtain ⟨b1, b2, b3, b4⟩ := h'
  rcases Int.lt_trichotomy e e' with q | q | q
  · exact absurd a3 (b4 e a1 q)
  · exact q
  · exact absurd b3 (a4 e' b1 q)
theorem nx_self (h : op w d = 1) : Nx w d d := ⟨Int.le_refl _, by omega, h, fun x h1 h2 => by omega⟩
/-- the n-th open day behind d is d + k -/
def Nth (w : List Int) (d : Int) (n : Int) (k : Nat) : Prop := cnt w d k = n ∧ op w (d + (k : Int)) = 1 ∧ 1 ≤ k
theorem nth_same (h : Wk w) {n : Int} {k k' : Nat} (a : Nth w d n k) (b : Nth w d n k') : k = k' := by
  obtain ⟨a1, a2, a3⟩ := a
  obtain ⟨b1, b2, b3⟩ := b
  have key : ∀ {j k : Nat}, j < k → op w (d + (k : Int)) = 1 → cnt w d j < cnt w d k := by
    intro j k hj ho
    obtain ⟨k, rfl⟩ : ∃ i, k = i + 1 := ⟨k - 1, by omega⟩
    have m := cnt_mono (d := d) h (show j ≤ k by omega)
    show cnt w d j < cnt w d k + op w (d + ((k + 1 : Nat) : Int))
    rw [ho]
    omega
  rcases Nat.lt_trichotomy k k' with q | q | q
  · have := key q b2; omega
  · exact q
  · have := key q a2; omega
/-- one more open day -/
theorem cnt_next (h : Wk w) {k : Nat} {e : Int} (x : Nx w (d + k + 1) e) : ∃ k' : Nat, e = d + k' ∧ k < k' ∧ k' ≤ k + 7 ∧ cnt w d k' = cnt w d k + 1 ∧ op w e = 1 := by
  obtain ⟨x1, x2, x3, x4⟩ := x
  have key : ∀ j : Nat, d + k + j < e → cnt w d (k + j) = cnt w d k := by
    intro j
    induction j with
    | zero => intro _; rfl
    | succ j ih =>
      intro hj
      have i := ih (by omega)
      show cnt w d (k + j) + op w (d + ((k + j + 1 : Nat) : Int)) = _
      have n := x4 (d + ((k + j + 1 : Nat) : Int)) (by omega) (by omega)
      have b := op_bit h (d + ((k + j + 1 : Nat) : Int))
      omega
  obtain ⟨j, ej⟩ : ∃ j : Nat, e = d + k + j + 1 := ⟨(e - d - k - 1).toNat, by omega⟩
  refine ⟨k + j + 1, by omega, by omega, by omega, ?_, x3⟩
  show cnt w d (k + j) + op w (d + ((k + j + 1 : Nat) : Int)) = _
  rw [key j (by omega), show d + ((k + j + 1 : Nat) : Int) = e by omega, x3]
theorem nth_step (h : Wk w) (d : Int) : ∀ n : Nat, ∃ k : Nat, Nth w d (n + 1) k ∧ k ≤ 7 * (n + 1) := by
  intro n
  induction n with
  | zero =>
    obtain ⟨e, x⟩ := nx_ex h (d + (0 : Nat) + 1)
    obtain ⟨k', e1, e2, e3, e4, e5⟩ := cnt_next h x
    refine ⟨k', ⟨by rw [e4]; simp [cnt], by rw [← e1]; exact e5, by omega⟩, by omega⟩
  | succ n ih =>
    obtain ⟨k, ⟨a1, a2, a3⟩, a4⟩ := ih
    obtain ⟨e, x⟩ := nx_ex h (d + k + 1)
    obtain ⟨k', e1, e2, e3, e4, e5⟩ := cnt_next h x
    refine ⟨k', ⟨by rw [e4, a1]; omega, by rw [← e1]; exact e5, by omega⟩, by omega⟩
theorem nth_ex (h : Wk w) (d : Int) {n : Int} (hn : 1 ≤ n) : ∃ k : Nat, Nth w d n k ∧ (k : Int) ≤ 7 * n := by
  obtain ⟨k, z, hk⟩ := nth_step h d (n - 1).toNat
  rw [show (((n - 1).toNat : Nat) : Int) + 1 = n by omega] at z
  exact ⟨k, z, by omega⟩
/-- in parts -/
theorem nth_parts {p n : Int} {k1 k2 : Nat} (a : Nth w d p k1) (b : Nth w (d + k1) (n - p) k2) : Nth w d n (k1 + k2) := by
  obtain ⟨a1, a2, a3⟩ := a
  obtain ⟨b1, b2, b3⟩ := b
  refine ⟨by rw [cnt_add, a1, b1]; omega, by rw [show d + ((k1 + k2 : Nat) : Int) = d + k1 + k2 by omega]; exact b2, by omega⟩
theorem nx_nth1 (h : Wk w) {e : Int} (x : Nx w (d + 1) e) : ∃ k : Nat, e = d + k ∧ Nth w d 1 k := by
  have x' : Nx w (d + (0 : Nat) + 1) e := by
    rw [show d + ((0 : Nat) : Int) + 1 = d + 1 by omega]; exact x
  obtain ⟨k', e1, e2, e3, e4, e5⟩ := cnt_next h x'
  exact ⟨k', e1, by rw [e4]; simp [cnt], by rw [← e1]; exact e5, by omega⟩
end
end Wks
set_option Elab.async false
set_option linter.all false
set_option maxRecDepth 100000
set_option maxHeartbeats 8000000
namespace K03
open PySem PySem.Spec PyProof.Rows L2 Ev
def topS (i : Nat) : Stmt := PySem.Challenge.pw_earlyback_k03_lends_and_ready.main.body.getD i (.Pass ⟨0, 0, 0, 0⟩)
def b_is_open : Bs := (.cons (.ret (.cmp .eq (.idx (.var 0) (.bin .mod (.var 1) (.cst (.int 7)))) (.cst (.int 1)))) <|
  .nil)
def d_is_open : DefI := ⟨⟨"is_open", ["week", "day"], []⟩, ["week", "day"], b_is_open⟩
def b_next_open : Bs := (.cons (.asg (.name 2) (.var 1)) <|
  .cons (.whl (.not (.call 0 (.cons (.var 0) (.cons (.var 2) .nil)))) (.cons (.asg (.name 2) (.bin .add (.var 2) (.cst (.int 1)))) <|
     .nil)) <|
  .cons (.ret (.var 2)) <|
  .nil)
def d_next_open : DefI := ⟨⟨"next_open", ["week", "day"], []⟩, ["week", "day", "found"], b_next_open⟩
def b_week_of : Bs := (.cons (.ret (.idx (.idx (.idx (.var 0) (.cst (.int 0))) (.var 1)) (.cst (.int 0)))) <|
  .nil)
def d_week_of : DefI := ⟨⟨"week_of", ["book", "house"], []⟩, ["book", "house"], b_week_of⟩
def b_way_from : Bs := (.cons (.ret (.idx (.idx (.idx (.idx (.var 0) (.cst (.int 0))) (.var 1)) (.cst (.int 3))) (.var 2))) <|
  .nil)
def d_way_from : DefI := ⟨⟨"way_from", ["book", "home", "house"], []⟩, ["book", "home", "house"], b_way_from⟩
def b_lends : Bs := (.cons (.ret (.cmp .inn (.var 2) (.idx (.idx (.idx (.var 0) (.cst (.int 0))) (.var 1)) (.cst (.int 1))))) <|
  .nil)
def d_lends : DefI := ⟨⟨"lends", ["book", "home", "pair"], [(0, ["book", "home", "pair"], [0, 1, 2])]⟩, ["book", "home", "pair"], b_lends⟩
def b_ready : Bs := (.cons (.ret (.call 1 (.cons (.call 2 (.cons (.var 0) (.cons (.var 2) .nil))) (.cons (.bin .add (.var 3) (.call 3 (.cons (.var 0) (.cons (.var 1) (.cons (.var 2) .nil))))) .nil)))) <|
  .nil)
def d_ready : DefI := ⟨⟨"ready", ["book", "home", "goal", "day"], [(0, ["book", "home", "goal", "day"], [0, 1, 2, 3])]⟩, ["book", "home", "goal", "day"], b_ready⟩
def b_law_mixed : Bs := (.cons (.asg (.name 2) (.bin .mod (.bi .int (.cons (.bin .add (.bin .add (.bin .mul (.var 0) (.cst (.int 48271))) (.bin .mul (.var 1) (.cst (.int 69621)))) (.cst (.int 97))) .nil)) (.cst (.int 2147483647)))) <|
  .cons (.asg (.name 3) (.bin .mod (.bi .int (.cons (.bin .add (.bin .add (.bin .mul (.var 2) (.bin .add (.bin .add (.var 2) (.bin .mul (.cst (.int 2)) (.var 1))) (.cst (.int 1)))) (.bin .mul (.var 1) (.cst (.int 16807)))) (.cst (.int 31))) .nil)) (.cst (.int 2147483629)))) <|
  .cons (.ret (.bin .mod (.bi .int (.cons (.bin .add (.bin .mul (.var 3) (.cst (.int 40692))) (.var 2)) .nil)) (.cst (.int 2147483587)))) <|
  .nil)
def d_law_mixed : DefI := ⟨⟨"_law_mixed", ["number", "k"], []⟩, ["number", "k", "first", "second"], b_law_mixed⟩
def b_law_start : Bs := (.cons (.asg (.name 1) (.bi .len (.cons (.var 0) .nil))) <|
  .cons (.fors (.name 2) (.val (.slc (.var 0) .none (.some (.cst (.int 63))))) (.cons (.asg (.name 1) (.call 6 (.cons (.bin .add (.var 1) (.var 2)) (.cons (.cst (.int 5)) .nil)))) <|
     .nil)) <|
  .cons (.ret (.lst (.cons (.cst (.int 0)) (.cons (.cst (.int 0)) (.cons (.cst (.int 0)) (.cons (.var 1) (.cons (.bi .list (.cons (.slc (.var 0) .none (.some (.cst (.int 63)))) .nil)) (.cons (.cst (.int 0)) .nil)))))))) <|
  .nil)
def d_law_start : DefI := ⟨⟨"_law_start", ["script"], []⟩, ["script", "seed", "cell"], b_law_start⟩
def b_law_take : Bs := (.cons (.asg (.name 2) (.idx (.var 0) (.cst (.int 4)))) <|
  .cons (.augS (.var 0) (.cst (.int 2)) .add (.cst (.int 1))) <|
  .cons (.ifs (.and (.cmp .eq (.idx (.var 0) (.cst (.int 0))) (.cst (.int 0))) (.cmp .lt (.idx (.var 0) (.cst (.int 1))) (.bi .len (.cons (.var 2) .nil)))) (.cons (.asg (.name 3) (.idx (.var 2) (.idx (.var 0) (.cst (.int 1))))) <|
     .cons (.augS (.var 0) (.cst (.int 1)) .add (.cst (.int 1))) <|
     .cons (.ifs (.cmp .lt (.bi .abs (.cons (.var 3) .nil)) (.bin .pow (.cst (.int 10)) (.cst (.int 18)))) (.cons (.ret (.bin .mod (.bi .int (.cons (.call 6 (.cons (.var 3) (.cons (.idx (.var 0) (.cst (.int 2))) .nil))) .nil)) (.var 1))) <|
        .nil) .nil) <|
     .cons (.asg (.sub (.var 0) (.cst (.int 0))) (.bi .abs (.cons (.var 3) .nil))) <|
     .cons (.asg (.sub (.var 0) (.cst (.int 5))) (.cst (.int 60))) <|
     .nil) .nil) <|
  .cons (.ifs (.cmp .eq (.idx (.var 0) (.cst (.int 0))) (.cst (.int 0))) (.cons (.ret (.bin .mod (.bi .int (.cons (.call 6 (.cons (.idx (.var 0) (.cst (.int 3))) (.cons (.idx (.var 0) (.cst (.int 2))) .nil))) .nil)) (.var 1))) <|
     .nil) .nil) <|
  .cons (.asg (.name 4) (.bin .mod (.bi .int (.cons (.idx (.var 0) (.cst (.int 0))) .nil)) (.var 1))) <|
  .cons (.augS (.var 0) (.cst (.int 5)) .sub (.cst (.int 1))) <|
  .cons (.asg (.sub (.var 0) (.cst (.int 0))) (.bin .mul (.bin .fdiv (.idx (.var 0) (.cst (.int 0))) (.var 1)) (.bi .int (.cons (.cmp .gt (.idx (.var 0) (.cst (.int 5))) (.cst (.int 0))) .nil)))) <|
  .cons (.ret (.var 4)) <|
  .nil)
def d_law_take : DefI := ⟨⟨"_law_take", ["state", "limit"], []⟩, ["state", "limit", "cells", "cell", "value"], b_law_take⟩
def b_law_pick : Bs := (.cons (.ret (.idx (.var 1) (.call 8 (.cons (.var 0) (.cons (.bi .len (.cons (.var 1) .nil)) .nil))))) <|
  .nil)
def d_law_pick : DefI := ⟨⟨"_law_pick", ["state", "some"], []⟩, ["state", "some"], b_law_pick⟩
def b_law_week : Bs := (.cons (.asg (.name 1) (.call 8 (.cons (.var 0) (.cons (.cst (.int 4)) .nil)))) <|
  .cons (.ifs (.cmp .eq (.var 1) (.cst (.int 0))) (.cons (.ret (.tup (.cons (.cst (.int 1)) (.cons (.cst (.int 1)) (.cons (.cst (.int 1)) (.cons (.cst (.int 1)) (.cons (.cst (.int 1)) (.cons (.cst (.int 1)) (.cons (.cst (.int 1)) .nil))))))))) <|
     .nil) .nil) <|
  .cons (.asg (.name 2) (.call 8 (.cons (.var 0) (.cons (.cst (.int 7)) .nil)))) <|
  .cons (.ret (.bi .tuple (.cons (.lc (.bi .int (.cons (.or (.cmp .eq (.var 3) (.var 2)) (.and (.cmp .gt (.var 1) (.cst (.int 1))) (.cmp .eq (.call 8 (.cons (.var 0) (.cons (.cst (.int 2)) .nil))) (.cst (.int 0))))) .nil)) (.name 3) (.rng1 (.cst (.int 7))) .nil [3]) .nil))) <|
  .nil)
def d_law_week : DefI := ⟨⟨"_law_week", ["state"], []⟩, ["state", "way", "one", "k"], b_law_week⟩
def b_law_book : Bs := (.cons (.asg (.name 3) (.lc (.tup (.cons (.bin .fdiv (.var 4) (.var 2)) (.cons (.bin .mod (.bi .int (.cons (.var 4) .nil)) (.var 2)) .nil))) (.name 4) (.rng1 (.bin .mul (.var 1) (.var 2))) .nil [4])) <|
  .cons (.asg (.name 5) (.lst .nil)) <|
  .cons (.fors (.name 6) (.rng1 (.var 1)) (.cons (.asg (.name 7) (.call 9 (.cons (.var 0) (.cons (.lst (.cons (.cst (.int 0)) (.cons (.cst (.int 1)) (.cons (.cst (.int 3)) (.cons (.cst (.int 4)) .nil))))) .nil)))) <|
     .cons (.asg (.name 8) (.bi .tuple (.cons (.lc (.var 9) (.name 9) (.val (.var 3)) (.cons (.cmp .lt (.call 8 (.cons (.var 0) (.cons (.cst (.int 4)) .nil))) (.var 7)) .nil) [9]) .nil))) <|
     .cons (.asg (.name 10) (.bi .tuple (.cons (.lc (.call 9 (.cons (.var 0) (.cons (.lst (.cons (.cst (.int 0)) (.cons (.cst (.int 14)) (.cons (.call 8 (.cons (.var 0) (.cons (.cst (.int 15)) .nil))) (.cons (.call 8 (.cons (.var 0) (.cons (.cst (.int 4)) .nil))) .nil))))) .nil))) (.name 11) (.rng1 (.var 1)) .nil [11]) .nil))) <|
     .cons (.expr (.meth .append (.var 5) (.cons (.tup (.cons (.call 10 (.cons (.var 0) .nil)) (.cons (.var 8) (.cons (.call 9 (.cons (.var 0) (.cons (.lst (.cons (.cst (.int 0)) (.cons (.cst (.int 30)) (.cons (.call 8 (.cons (.var 0) (.cons (.cst (.int 31)) .nil))) .nil)))) .nil))) (.cons (.var 10) .nil))))) .nil))) <|
     .nil)) <|
  .cons (.asg (.name 12) (.lst .nil)) <|
  .cons (.fors (.name 11) (.rng1 (.var 1)) (.cons (.expr (.meth .append (.var 12) (.cons (.bi .tuple (.cons (.lc (.call 9 (.cons (.var 0) (.cons (.lst (.cons (.cst (.int 12)) (.cons (.cst (.int 60)) (.cons (.bin .add (.cst (.int 12)) (.call 8 (.cons (.var 0) (.cons (.cst (.int 49)) .nil)))) .nil)))) .nil))) (.name 13) (.rng1 (.var 2)) .nil [13]) .nil)) .nil))) <|
     .nil)) <|
  .cons (.asg (.tup (.cons (.name 14) (.cons (.name 15) .nil))) (.tup (.cons (.call 9 (.cons (.var 0) (.cons (.lst (.cons (.cst (.int 1)) (.cons (.cst (.int 14)) (.cons (.bin .add (.cst (.int 1)) (.call 8 (.cons (.var 0) (.cons (.cst (.int 14)) .nil)))) .nil)))) .nil))) (.cons (.call 9 (.cons (.var 0) (.cons (.lst (.cons (.cst (.int 0)) (.cons (.cst (.int 14)) (.cons (.call 8 (.cons (.var 0) (.cons (.cst (.int 15)) .nil))) .nil)))) .nil))) .nil)))) <|
  .cons (.ret (.tup (.cons (.bi .tuple (.cons (.var 5) .nil)) (.cons (.var 2) (.cons (.bi .tuple (.cons (.var 12) .nil)) (.cons (.var 14) (.cons (.var 15) .nil))))))) <|
  .nil)
def d_law_book : DefI := ⟨⟨"_law_book", ["state", "many", "classes"], []⟩, ["state", "many", "classes", "pairs", "k", "houses", "home", "often", "circle", "pair", "ways", "house", "loans", "kind", "window", "grace"], b_law_book⟩
def b_law_drawn_book : Bs := (.cons (.asg (.name 1) (.call 8 (.cons (.var 0) (.cons (.cst (.int 8)) .nil)))) <|
  .cons (.ret (.call 11 (.cons (.var 0) (.cons (.ite (.cmp .eq (.var 1) (.cst (.int 0))) (.cst (.int 6)) (.bin .add (.cst (.int 1)) (.call 8 (.cons (.var 0) (.cons (.cst (.int 3)) .nil))))) (.cons (.ite (.cmp .eq (.var 1) (.cst (.int 0))) (.cst (.int 4)) (.bin .add (.cst (.int 1)) (.call 8 (.cons (.var 0) (.cons (.cst (.int 2)) .nil))))) .nil))))) <|
  .nil)
def d_law_drawn_book : DefI := ⟨⟨"_law_drawn_book", ["state"], []⟩, ["state", "great"], b_law_drawn_book⟩
def b_law_ready : Bs := (.cons (.asg (.name 4) (.bin .add (.var 3) (.idx (.idx (.idx (.idx (.var 0) (.cst (.int 0))) (.var 1)) (.cst (.int 3))) (.var 2)))) <|
  .cons (.fors (.name 5) (.rng1 (.cst (.int 7))) (.cons (.ifs (.cmp .eq (.idx (.idx (.idx (.idx (.var 0) (.cst (.int 0))) (.var 2)) (.cst (.int 0))) (.bin .mod (.bi .int (.cons (.bin .add (.var 4) (.var 5)) .nil)) (.cst (.int 7)))) (.cst (.int 1))) (.cons (.ret (.bin .add (.var 4) (.var 5))) <|
        .nil) .nil) <|
     .nil)) <|
  .cons (.ret (.cst .non)) <|
  .nil)
def d_law_ready : DefI := ⟨⟨"_law_ready", ["book", "home", "goal", "day"], []⟩, ["book", "home", "goal", "day", "first", "k"], b_law_ready⟩
def b_law_is : Bs := (.cons (.ret (.and (.isi (.var 0) .int) (.and (.not (.isi (.var 0) .bool)) (.cmp .eq (.var 0) (.var 1))))) <|
  .nil)
def d_law_is : DefI := ⟨⟨"_law_is", ["told", "due"], []⟩, ["told", "due"], b_law_is⟩
def b_law_is_due : Bs := (.cons (.ret (.ite (.var 1) (.cmp .is (.var 0) (.cst (.bl true))) (.cmp .is (.var 0) (.cst (.bl false))))) <|
  .nil)
def d_law_is_due : DefI := ⟨⟨"_law_is_due", ["told", "due"], []⟩, ["told", "due"], b_law_is_due⟩
def b_law_asked : Bs := (.cons (.asg (.tup (.cons (.name 3) (.cons (.name 4) .nil))) (.tup (.cons (.bi .len (.cons (.idx (.var 1) (.cst (.int 0))) .nil)) (.cons (.idx (.var 1) (.cst (.int 1))) .nil)))) <|
  .cons (.fors (.name 5) (.rng1 (.var 3)) (.cons (.fors (.name 6) (.rng1 (.var 3)) (.cons (.fors (.name 7) (.rng1 (.var 4)) (.cons (.asg (.name 8) (.cmp .gt (.bi .len (.cons (.lc (.var 9) (.name 9) (.val (.idx (.idx (.idx (.var 1) (.cst (.int 0))) (.var 5)) (.cst (.int 1)))) (.cons (.cmp .eq (.var 9) (.tup (.cons (.var 6) (.cons (.var 7) .nil)))) .nil) [9]) .nil)) (.cst (.int 0)))) <|
           .cons (.ifs (.not (.call 15 (.cons (.call 4 (.cons (.var 1) (.cons (.var 5) (.cons (.tup (.cons (.var 6) (.cons (.var 7) .nil))) .nil)))) (.cons (.var 8) .nil)))) (.cons (.ret (.cst (.bl false))) <|
              .nil) .nil) <|
           .nil)) <|
        .cons (.fors (.name 10) (.val (.var 2)) (.cons (.asg (.name 8) (.call 13 (.cons (.var 1) (.cons (.var 5) (.cons (.var 6) (.cons (.var 10) .nil)))))) <|
           .cons (.ifs (.not (.call 14 (.cons (.call 5 (.cons (.var 1) (.cons (.var 5) (.cons (.var 6) (.cons (.var 10) .nil))))) (.cons (.var 8) .nil)))) (.cons (.ret (.cst (.bl false))) <|
              .nil) .nil) <|
           .cons (.ifs (.not (.call 14 (.cons (.callK 5 .nil ["book", "home", "goal", "day"] (.cons (.var 1) (.cons (.var 5) (.cons (.var 6) (.cons (.var 10) .nil)))) [0, 1, 2, 3]) (.cons (.var 8) .nil)))) (.cons (.ret (.cst (.bl false))) <|
              .nil) .nil) <|
           .nil)) <|
        .nil)) <|
     .nil)) <|
  .cons (.asg (.name 9) (.tup (.cons (.call 8 (.cons (.var 0) (.cons (.var 3) .nil))) (.cons (.call 8 (.cons (.var 0) (.cons (.var 4) .nil))) .nil)))) <|
  .cons (.ret (.call 15 (.cons (.callK 4 .nil ["book", "home", "pair"] (.cons (.var 1) (.cons (.cst (.int 0)) (.cons (.var 9) .nil))) [0, 1, 2]) (.cons (.cmp .inn (.var 9) (.idx (.idx (.idx (.var 1) (.cst (.int 0))) (.cst (.int 0))) (.cst (.int 1)))) .nil)))) <|
  .nil)
def d_law_asked : DefI := ⟨⟨"_law_asked", ["state", "book", "days"], []⟩, ["state", "book", "days", "many", "classes", "home", "house", "kind", "due", "pair", "day"], b_law_asked⟩
def b_law : Bs := (.cons (.asg (.name 1) (.call 7 (.cons (.var 0) .nil))) <|
  .cons (.asg (.name 2) (.call 12 (.cons (.var 1) .nil))) <|
  .cons (.asg (.name 3) (.call 11 (.cons (.var 1) (.cons (.bi .len (.cons (.idx (.var 2) (.cst (.int 0))) .nil)) (.cons (.idx (.var 2) (.cst (.int 1))) .nil))))) <|
  .cons (.asg (.name 4) (.call 8 (.cons (.var 1) (.cons (.bi .len (.cons (.idx (.var 2) (.cst (.int 0))) .nil)) .nil)))) <|
  .cons (.asg (.name 5) (.call 9 (.cons (.var 1) (.cons (.lst (.cons (.cst (.int 0)) (.cons (.cst (.int 1)) (.cons (.cst (.int 3)) .nil)))) .nil)))) <|
  .cons (.asg (.name 6) (.bin .add (.bin .add (.slc (.idx (.idx (.var 2) (.cst (.int 0))) (.var 4)) .none (.some (.var 5))) (.tup (.cons (.idx (.idx (.idx (.var 3) (.cst (.int 0))) (.var 4)) (.var 5)) .nil))) (.slc (.idx (.idx (.var 2) (.cst (.int 0))) (.var 4)) (.some (.bin .add (.var 5) (.cst (.int 1)))) .none))) <|
  .cons (.asg (.name 7) (.bin .add (.tup (.cons (.bin .add (.bin .add (.slc (.idx (.var 2) (.cst (.int 0))) .none (.some (.var 4))) (.tup (.cons (.var 6) .nil))) (.slc (.idx (.var 2) (.cst (.int 0))) (.some (.bin .add (.var 4) (.cst (.int 1)))) .none)) .nil)) (.slc (.var 2) (.some (.cst (.int 1))) .none))) <|
  .cons (.asg (.name 8) (.call 8 (.cons (.var 1) (.cons (.call 9 (.cons (.var 1) (.cons (.lst (.cons (.cst (.int 8)) (.cons (.cst (.int 1000)) (.cons (.cst (.int 100000)) (.cons (.bin .pow (.cst (.int 10)) (.cst (.int 28))) .nil))))) .nil))) .nil)))) <|
  .cons (.asg (.name 9) (.bin .add (.lc (.bin .add (.var 8) (.var 10)) (.name 10) (.rng1 (.cst (.int 7))) .nil [10]) (.lst (.cons (.call 8 (.cons (.var 1) (.cons (.cst (.int 100000)) .nil))) .nil)))) <|
  .cons (.ifs (.or (.not (.call 16 (.cons (.var 1) (.cons (.var 2) (.cons (.var 9) .nil))))) (.not (.call 16 (.cons (.var 1) (.cons (.var 7) (.cons (.var 9) .nil)))))) (.cons (.ret (.cst (.bl false))) <|
     .nil) .nil) <|
  .cons (.ret (.call 16 (.cons (.var 1) (.cons (.var 2) (.cons (.var 9) .nil))))) <|
  .nil)
def d_law : DefI := ⟨⟨"law", ["script"], []⟩, ["script", "state", "book", "other", "h", "part", "house", "turned", "day", "days", "k"], b_law⟩
def T : List DefI := [d_is_open, d_next_open, d_week_of, d_way_from, d_lends, d_ready, d_law_mixed, d_law_start, d_law_take, d_law_pick, d_law_week, d_law_book, d_law_drawn_book, d_law_ready, d_law_is, d_law_is_due, d_law_asked, d_law]
def sts : List Stmt := [topS 1, topS 2, topS 4, topS 5, topS 6, topS 7, topS 9, topS 10, topS 11, topS 12, topS 13, topS 14, topS 15, topS 16, topS 17, topS 18, topS 19, topS 20]

local macro_rules | `(tactic| walk_at "ev") => `(tactic| simp (disch := omega) only [Ev.bin_add, Ev.bin_sub, Ev.bin_mulL, Ev.bin_mulR, Ev.bin_mod, Ev.bin_div, Ev.bin_pow, Ev.aug_add, Ev.aug_sub, Ev.cmp_eq, Ev.cmp_ne, Ev.cmp_lt, Ev.cmp_le, Ev.cmp_gt, Ev.cmp_ge, Ev.cmp_isN, Ev.cmp_notN, Ev.cmp_isB, Ev.ifK_t, Ev.ifK_f, Ev.ifC_t, Ev.ifC_f, Ev.v_var, Ev.t_var', Ev.v_cst, Ev.t_cst', Ev.v_bin, Ev.t_bin', Ev.v_neg, Ev.t_neg', Ev.v_cmp, Ev.t_cmp', Ev.v_chain, Ev.t_chain', Ev.v_tup, Ev.t_tup', Ev.v_lst, Ev.t_lst', Ev.v_idx, Ev.t_idx', Ev.v_slc, Ev.t_slc', Ev.v_call, Ev.t_call', Ev.v_callK, Ev.t_callK', Ev.v_bi, Ev.t_bi', Ev.v_isi, Ev.t_isi', Ev.v_meth, Ev.t_meth', Ev.v_lc, Ev.t_lc', Ev.v_and, Ev.v_or, Ev.v_not, Ev.v_ite, Ev.tt_and, Ev.tt_or, Ev.tt_not, Ev.e_v, Ev.e_t, Ev.bi_len, Ev.bi_int, Ev.bi_intb, Ev.bi_abs, Ev.bi_tuple, Ev.bi_list, Ev.bi_sum, Ev.bi_max, Ev.bi_min, Ev.me_append, Ev.sb_nil, Ev.sb_cons, Ev.ss_expr, Ev.ss_ret, Ev.ss_retN, Ev.ss_ifs, Ev.ss_fors, Ev.ss_asg, Ev.ss_aug, Ev.ss_augS, Ev.ss_pass, Ev.ss_brk, Ev.ss_cont, Ev.se_nil, Ev.se_cons, Ev.so_none, Ev.so_some, Ev.sts_nil, Ev.sts_cons, Ev.sg_name, Ev.sg_tup, Ev.sg_sub, Ev.sgs_nil, Ev.sgs_cons, Ev.si_val, Ev.si_rng1, Ev.si_rng2, Ev.src_tup, Ev.src_cl, Ev.src_ref, Ev.slc_tup, Ev.slc_cl, Ev.slc_ref, Ev.its_tup, Ev.its_cl, Ev.its_ref, Ev.tr_non, Ev.tr_bl, Ev.tr_int, Ev.tr_tup, Ev.nn_non, Ev.nn_int, Ev.nn_tup, Ev.nn_bl, Ev.nn_str, Ev.ty_int, Ev.ty_intb, Ev.ty_bool, Ev.ty_boolb, Ev.ty_boolt, Ev.ty_intt, Ev.ty_tup, Ev.ty_tupi, Ev.ty_tupb, Ev.ty_inon, Ev.ty_bnon, Ev.ty_tnon, Ev.ty_snon, Ev.ty_sstr, Ev.cst_int, Ev.cst_bl, Ev.cst_str, Ev.cst_non, Ev.lg_nil, Ev.lg_cons, Ev.d_int, Ev.d_bl, Ev.d_ref, Ev.ints_map, Ev.ixAt_ints, Ev.ix0, Ev.ix1, Ev.ix2, Ev.ix3, Ev.ix4, Ev.ix5, Ev.ix6, Ev.ix7, Ev.ix8, Ev.ixN_in, Ev.bin_mulz, Ev.st_len, Ev.wd_nil, Ev.wd_cons, Ev.cut_hi, Ev.cut_lo, Ev.bin_tupR, Ev.bin_lst,  Int.reduceToNat, Int.reducePow, Int.reduceLE, Int.reduceLT, Ev.st_get, Ev.st_get0, Ev.st_set, Ev.st_set0, Ev.st_app,
  Ev.ifL_t, Ev.ifL_f, Ev.get_set_self, Ev.get_set_ne, Ev.Ob.lst.injEq, Ev.startD, List.set_set, eq_self,  List.map_cons, List.map_nil, List.length_cons, List.length_nil, List.replicate, List.cons_append, List.nil_append, List.getElem?_cons_zero, List.getElem?_cons_succ, List.set_cons_zero, List.set_cons_succ, Option.some.injEq, exists_eq_left', exists_eq', exists_eq, exists_eq_left, List.cons.injEq, and_true, true_and, Bool.not_true, Bool.not_false, Nat.sub_self, Nat.reduceAdd, Nat.reduceSub, Nat.add_zero, Nat.zero_add, decide_true, decide_false, List.filterMap_cons, List.filterMap_nil])
local macro_rules | `(tactic| walk_at "in") => `(tactic| (refine Ev.later_in ?_; try walk_at "ev"))
local macro_rules | `(tactic| walk_at "go") => `(tactic| ((try walk_at "ev") <;> (repeat (refine Ev.later_in ?_; try walk_at "ev"))))

theorem x_law_mixed {n : Nat} {x k : Int} {S : Store} {Q : DK} (h : ∀ v : Int, Q (.int v) S) : run T (n + 1) 6 [.int x, .int k] S Q := by
  refine ⟨d_law_mixed, rfl, ?_⟩
  unfold d_law_mixed b_law_mixed
  walk_at "ev"
  walk_at "in"
  walk_at "in"
  exact ret_same (h _)
/-- the tape behind the drawn numbers -/
def Tape (S : Store) : Prop := ∃ (a b c s e : Int) (cs : List Int), S[3]? = some (.lst [.int a, .int b, .int c, .int s, .ref 2, .int e]) ∧ 0 ≤ b ∧ S[2]? = some (.lst (cs.map D.int))
theorem Tape.of {S S' : Store} (h : Tape S) (h1 : S'[2]? = S[2]?) (h2 : S'[3]? = S[3]?) : Tape S' := by
  obtain ⟨a, b, c, s, e, cs, q1, q2, q3⟩ := h
  exact ⟨a, b, c, s, e, cs, by rw [h2]; exact q1, q2, by rw [h1]; exact q3⟩
theorem Tape.lt {S : Store} (h : Tape S) : 3 < S.length := by
  obtain ⟨a, b, c, s, e, cs, q1, q2, q3⟩ := h
  exact lt_of_get q1
theorem Tape.app {S : Store} (h : Tape S) (l : List Ob) : Tape (S ++ l) :=
  h.of (get_app (by have := h.lt; omega)) (get_app (by have := h.lt; omega))
theorem Tape.set {S : Store} (h : Tape S) {p : Nat} (hp : 3 < p) (o : Ob) : Tape (S.set p o) :=
  h.of (get_set_ne (by omega)) (get_set_ne (by omega))
theorem self_set {S : Store} {n : Nat} {o : Ob} (h : S[n]? = some o) : S = S.set n o := by
  obtain ⟨h1, h2⟩ := List.getElem?_eq_some_iff.mp h
  subst h2
  rw [List.set_getElem_self]
/-- only the tape and new cells differ -/
structure Up (S S' : Store) : Prop where
  tp : Tape S'
  le : S.length ≤ S'.length
  at_ : ∀ k, 3 < k → k < S.length → S'[k]? = S[k]?
theorem Up.refl {S : Store} (h : Tape S) : Up S S := ⟨h, Nat.le_refl _, fun _ _ _ => rfl⟩
theorem Up.trans {S S1 S2 : Store} (a : Up S S1) (b : Up S1 S2) : Up S S2 := ⟨b.tp, Nat.le_trans a.le b.le, fun k h1 h2 => by rw [b.at_ k h1 (Nat.lt_of_lt_of_le h2 a.le), a.at_ k h1 h2]⟩
theorem Up.app {S S1 : Store} (a : Up S S1) (l : List Ob) : Up S (S1 ++ l) := ⟨a.tp.app l, by rw [List.length_append]; have := a.le; omega, fun k h1 h2 => by rw [get_app (Nat.lt_of_lt_of_le h2 a.le), a.at_ k h1 h2]⟩
theorem Up.set {S S1 : Store} (a : Up S S1) {p : Nat} (hp : S.length ≤ p) (h3 : 3 < p) (o : Ob) : Up S (S1.set p o) := ⟨a.tp.set h3 o, by rw [List.length_set]; exact a.le, fun k h1 h2 => by rw [get_set_ne (by omega), a.at_ k h1 h2]⟩
theorem Up.get {S S1 : Store} (a : Up S S1) {k : Nat} {o : Ob} (h : S[k]? = some o) (h3 : 3 < k) : S1[k]? = some o := by rw [a.at_ k h3 (lt_of_get h)]; exact h
theorem x_law_take {n : Nat} {lim : Int} {S : Store} {Q : DK} (ht : Tape S) (h1 : 0 < lim) (h2 : lim < 340282366920938463463374607431768211456)
    (h : ∀ (v : Int) S', 0 ≤ v → v < lim → Tape S' → S'.length = S.length → (∀ k, 3 < k → S'[k]? = S[k]?) → Q (.int v) S') : run T (n + 2) 8 [.ref 3, .int lim] S Q := by
  refine ⟨d_law_take, rfl, ?_⟩
  have hl := ht.lt
  obtain ⟨a, b, c, s, e, cs, q1, q2, q3⟩ := ht
  have fin : ∀ (v a b c e : Int), 0 ≤ v → v < lim → 0 ≤ b → Ret S (.int v) (S.set 3 (.lst [.int a, .int b, .int c, .int s, .ref 2, .int e])) Q := by
    intro v a b c e g1 g2 g3
    refine ret_same (h v _ g1 g2 ⟨a, b, c, s, e, cs, get_set_self hl, g3, ?_⟩ (by simp) fun k hk => get_set_ne (by omega))
    rw [get_set_ne (by omega)]
    exact q3
  have e1 : (S.set 3 (.lst [.int a, .int b, .int c, .int s, .ref 2, .int e])) = S := (self_set q1).symm
  have tail : ∀ (x : Int) (y : Option D) (a b c e : Int), x = x → 0 ≤ b → wpB (run T (n + 1)) (.cons (.ifs (.cmp .eq (.idx (.var 0) (.cst (.int 0))) (.cst (.int 0))) (.cons (.ret (.bin .mod (.bi .int (.cons (.call 6 (.cons (.idx (.var 0) (.cst (.int 3))) (.cons (.idx (.var 0) (.cst (.int 2))) .nil))) .nil)) (.var 1))) <|
     .nil) .nil) <|
  .cons (.asg (.name 4) (.bin .mod (.bi .int (.cons (.idx (.var 0) (.cst (.int 0))) .nil)) (.var 1))) <|
  .cons (.augS (.var 0) (.cst (.int 5)) .sub (.cst (.int 1))) <|
  .cons (.asg (.sub (.var 0) (.cst (.int 0))) (.bin .mul (.bin .fdiv (.idx (.var 0) (.cst (.int 0))) (.var 1)) (.bi .int (.cons (.cmp .gt (.idx (.var 0) (.cst (.int 5))) (.cst (.int 0))) .nil)))) <|
  .cons (.ret (.var 4)) <|
  .nil) { nx := fun _ S' => Ret S .non S' Q, rt := fun v S' => Ret S v S' Q, bk := fun _ _ => False, ct := fun _ _ => False } [some (.ref 3), some (.int lim), some (.ref 2), y, none] (S.set 3 (.lst [.int a, .int b, .int c, .int s, .ref 2, .int e])) := by
    intro x y a b c e _ hb
    walk_at "ev"
    refine ifK_d (fun q => ?_) (fun q => ?_)
    · walk_at "ev"
      refine x_law_mixed fun v => ?_
      walk_at "ev"
      exact fin _ _ _ _ _ (Int.emod_nonneg _ (by omega)) (Int.emod_lt_of_pos _ h1) hb
    · walk_at "go"
      exact fin _ _ _ _ _ (Int.emod_nonneg _ (by omega)) (Int.emod_lt_of_pos _ h1) hb
  have key : wpB (run T (n + 1)) d_law_take.body { nx := fun _ S' => Ret S .non S' Q, rt := fun v S' => Ret S v S' Q, bk := fun _ _ => False, ct := fun _ _ => False } (startD d_law_take.N [.ref 3, .int lim]) (S.set 3 (.lst [.int a, .int b, .int c, .int s, .ref 2, .int e])) := by
    unfold d_law_take b_law_take
    walk_at "ev"
    walk_at "go"
    refine ifC_d (fun q => ?_) (fun q => ?_)
    · refine ⟨_, q3, ifK_d (fun q' => ?_) (fun q' => ?_)⟩
      · rw [List.length_map] at q'
        walk_at "ev"
        refine ⟨_, q3, _, ixAt_ints q2 q', ?_⟩
        walk_at "go"
        refine ifK_d (fun q4 => ?_) (fun q4 => ?_)
        · walk_at "go"
          refine x_law_mixed fun v => ?_
          walk_at "ev"
          exact fin _ _ _ _ _ (Int.emod_nonneg _ (by omega)) (Int.emod_lt_of_pos _ h1) (by omega)
        · walk_at "ev"
          walk_at "in"
          walk_at "in"
          walk_at "in"
          refine later_in ?_
          exact tail 0 _ _ _ _ _ rfl (by omega)
      · rw [sb_nil]
        refine later_in ?_
        exact tail 0 _ _ _ _ _ rfl (by omega)
    · try walk_at "ev"
      refine later_in ?_
      exact tail 0 _ _ _ _ _ rfl (by omega)
  rw [e1] at key
  exact key
theorem x_law_pick {n p : Nat} {l : List D} {S : Store} {Q : DK} (ht : Tape S) (hp : S[p]? = some (.lst l)) (h2 : 3 < p) (h1 : 0 < l.length) (h3 : l.length < 340282366920938463463374607431768211456)
    (h : ∀ v S', v ∈ l → Tape S' → S'.length = S.length → (∀ k, 3 < k → S'[k]? = S[k]?) → Q v S') : run T (n + 3) 9 [.ref 3, .ref p] S Q := by
  refine ⟨d_law_pick, rfl, ?_⟩
  unfold d_law_pick b_law_pick
  walk_at "ev"
  refine ⟨l, hp, x_law_take ht (by omega) (by omega) fun v S' g1 g2 g3 g4 g5 => ?_⟩
  walk_at "ev"
  have hv : v.toNat < l.length := by omega
  exact ⟨l, by rw [g5 p h2]; exact hp, l[v.toNat], ixAt_nat g1 (List.getElem?_eq_getElem hv), ret_same (h _ _ (List.getElem_mem hv) g3 g4 g5)⟩
theorem x_law_start {n : Nat} {ns : List Int} {Q : DK} (h : ∀ S', Tape S' → Q (.ref 3) S') : run T (n + 2) 7 [.cl (ns.map D.int)] [] Q := by
  refine ⟨d_law_start, rfl, ?_⟩
  unfold d_law_start b_law_start
  obtain ⟨cs, hc⟩ : ∃ cs : List Int, (ns.map D.int).take 63 = cs.map D.int := ⟨ns.take 63, by rw [List.map_take]⟩
  walk_at "ev"
  walk_at "in"
  rw [hc]
  refine for_by (fun i r S' => S' = [Ob.lst (cs.map D.int)] ∧ ∃ (x : Int) (y : Option D), r = [some (.cl (ns.map D.int)), some (.int x), y]) ⟨rfl, _, _, rfl⟩ (fun i r S' z => by rw [z.1]; rfl) ?_ ?_
  · rintro i x r S' K hx ⟨rfl, s, y, rfl⟩ hK
    have hx : (cs.map D.int)[i]? = some x := hx
    rw [List.getElem?_map] at hx
    obtain ⟨c, -, rfl⟩ := Option.map_eq_some_iff.mp hx
    walk_at "ev"
    refine x_law_mixed fun v => ?_
    walk_at "go"
    exact hK _ _ ⟨rfl, _, _, rfl⟩
  · rintro r S' ⟨rfl, s, y, rfl⟩
    walk_at "go"
    rw [hc]
    exact ret_same (h _ ⟨0, 0, 0, s, 0, cs, rfl, by omega, rfl⟩)
theorem x_take {n : Nat} {lim : Int} {S S1 : Store} {Q : DK} (a : Up S S1) (h1 : 0 < lim) (h2 : lim < 340282366920938463463374607431768211456)
    (h : ∀ (v : Int) S', 0 ≤ v → v < lim → Up S S' → S'.length = S1.length → (∀ k, 3 < k → S'[k]? = S1[k]?) → Q (.int v) S') : run T (n + 2) 8 [.ref 3, .int lim] S1 Q :=
  x_law_take a.tp h1 h2 fun v S' g1 g2 g3 g4 g5 => h v S' g1 g2 (a.trans ⟨g3, by omega, fun k q _ => g5 k q⟩) g4 g5
theorem x_pick {n p : Nat} {l : List D} {S S1 : Store} {Q : DK} (a : Up S S1) (hp : S1[p]? = some (.lst l)) (h2 : 3 < p) (h1 : 0 < l.length) (h3 : l.length < 1073741824)
    (h : ∀ v S', v ∈ l → Up S S' → Q v S') : run T (n + 3) 9 [.ref 3, .ref p] S1 Q :=
  x_law_pick a.tp hp h2 h1 (by omega) fun v S' g1 g2 g3 g4 => h v S' g1 (a.trans ⟨g2, by omega, fun k q _ => g4 k q⟩)
theorem x_pickN {n : Nat} {l : List D} {S S1 : Store} {Q : DK} (a : Up S S1) (h1 : 0 < l.length) (h3 : l.length < 1073741824)
    (h : ∀ v S', v ∈ l → Up S S' → Q v S') : run T (n + 3) 9 [.ref 3, .ref S1.length] (S1 ++ [.lst l]) Q :=
  x_pick (a.app _) (by rw [st_get0]; rfl) a.tp.lt h1 h3 h
theorem x_is_open {n : Nat} {w : List Int} {d : Int} {S : Store} {Q : DK} (hw : w.length = 7) (h : Q (.bl (decide (w.getD (d % 7).toNat 0 = 1))) S) : run T (n + 1) 0 [.tup (w.map D.int), .int d] S Q := by
  refine ⟨d_is_open, rfl, ?_⟩
  unfold d_is_open b_is_open
  walk_at "ev"
  exact ret_same h
theorem x_next_open {n : Nat} {w : List Int} {d e : Int} {S : Store} {Q : DK} (hw : Wks.Wk w) (hx : Wks.Nx w d e) (h : Q (.int e) S) : run T (n + 2) 1 [.tup (w.map D.int), .int d] S Q := by
  refine ⟨d_next_open, rfl, ?_⟩
  unfold d_next_open b_next_open
  walk_at "ev"
  walk_at "in"
  obtain ⟨h1, h2, h3, h4⟩ := hx
  refine whl_by (fun m r S' => S' = S ∧ ∃ c : Int, r = [some (.tup (w.map D.int)), some (.int d), some (.int c)] ∧ d ≤ c ∧ c ≤ e ∧ m = (e - c).toNat) (e - d).toNat ⟨rfl, d, rfl, Int.le_refl _, h1, rfl⟩ ?_
  rintro m r S' K ⟨rfl, c, rfl, g1, g2, rfl⟩ hK
  walk_at "ev"
  refine x_is_open hw.len ?_
  walk_at "ev"
  refine ifL_b (fun q => ?_) (fun q => ?_)
  · walk_at "go"
    have q' : Wks.op w c ≠ 1 := by
      intro z
      unfold Wks.op at z
      exact absurd z (by simpa using q)
    have : c ≠ e := by
      rintro rfl
      exact q' h3
    exact hK (e - (c + 1)).toNat _ _ (by omega) ⟨rfl, c + 1, rfl, by omega, by omega, rfl⟩
  · walk_at "go"
    have q' : Wks.op w c = 1 := by simpa [Wks.op] using q
    have : c = e := by
      rcases Int.lt_or_eq_of_le g2 with z | z
      · exact absurd q' (h4 c g1 z)
      · exact z
    subst this
    exact ret_same h
theorem x_law_is {n : Nat} {i j : Int} {S : Store} {Q : DK} (h : Q (.bl (decide (i = j))) S) : run T (n + 1) 14 [.int i, .int j] S Q := by
  refine ⟨d_law_is, rfl, ?_⟩
  unfold d_law_is b_law_is
  walk_at "ev"
  exact ret_same h
theorem week_of {l : List Int} (h1 : l.length = 7) (h2 : ∀ b ∈ l, b = 0 ∨ b = 1) (h3 : (1 : Int) ∈ l) : Wks.Wk l := by
  refine ⟨h1, fun i hi => ?_, ?_⟩
  · rw [List.getD_eq_getElem?_getD, List.getElem?_eq_getElem (by omega)]
    exact h2 _ (List.getElem_mem _)
  · obtain ⟨i, hi, e⟩ := List.mem_iff_getElem.mp h3
    exact ⟨i, by omega, by rw [List.getD_eq_getElem?_getD, List.getElem?_eq_getElem hi]; exact e⟩
theorem x_law_week {n : Nat} {S S1 : Store} {Q : DK} (a : Up S S1) (h : ∀ w S', Wks.Wk w → Up S S' → Q (.tup (w.map D.int)) S') : run T (n + 3) 10 [.ref 3] S1 Q := by
  refine ⟨d_law_week, rfl, ?_⟩
  unfold d_law_week b_law_week
  walk_at "go"
  refine x_take a (by omega) (by omega) fun way S2 a1 a2 a3 _ _ => ?_
  walk_at "go"
  refine ifK_d (fun q => ?_) (fun q => ?_)
  · walk_at "go"
    exact ret_same (h [1, 1, 1, 1, 1, 1, 1] _ (week_of rfl (by simp) (by simp)) a3)
  · walk_at "go"
    refine x_take a3 (by omega) (by omega) fun one S3 b1 b2 b3 _ _ => ?_
    walk_at "go"
    refine lc_by (fun i S' l => Up S S' ∧ ∃ w : List Int, l = w.map D.int ∧ w.length = i ∧ (∀ b ∈ w, b = 0 ∨ b = 1) ∧ (one < (i : Int) → (1 : Int) ∈ w)) ⟨b3, [], rfl, rfl, by simp, fun z => by omega⟩ (fun _ _ _ _ => trivial) ?_ ?_
    · rintro i x S4 l K hx ⟨c1, w, rfl, c2, c3, c4⟩ hK
      obtain ⟨hi, rfl⟩ := rngL_at hx
      have fin : ∀ (b : Bool) S', Up S S' → (0 + (i : Int) = one → b = true) → (w.map D.int).length < sizeLine ∧ K (w.map D.int ++ [.int (if b = true then 1 else 0)]) S' := by
        intro b S' u hb
        refine ⟨by rw [List.length_map, c2, sizeLine_eq]; omega, hK _ _ ⟨u, w ++ [if b = true then 1 else 0], by simp, by simp [c2], ?_, ?_⟩⟩
        · intro z hz
          rcases List.mem_append.mp hz with q | q
          · exact c3 z q
          · rcases List.mem_singleton.mp q with rfl
            cases b
            · exact .inl rfl
            · exact .inr rfl
        · intro hz
          rcases Int.lt_or_eq_of_le (show one ≤ (i : Int) by omega) with q | q
          · exact List.mem_append_left _ (c4 q)
          · rw [hb (by omega)]
            exact List.mem_append_right _ (by simp)
      walk_at "go"
      refine ifC_d (fun q1 => ?_) (fun q1 => ?_)
      · walk_at "go"
        exact fin true _ c1 fun _ => rfl
      · walk_at "go"
        refine ifC_d (fun q2 => ?_) (fun q2 => ?_)
        · walk_at "go"
          refine x_take c1 (by omega) (by omega) fun two S5 e1 e2 e3 _ _ => ?_
          walk_at "go"
          exact fin _ _ e3 fun z => absurd z q1
        · walk_at "go"
          exact fin false _ c1 fun z => absurd z q1
    · rintro l S4 ⟨c1, w, rfl, c2, c3, c4⟩
      rw [rngL_length] at c2 c4
      walk_at "go"
      exact ret_same (h w _ (week_of c2 c3 (c4 (by omega))) (c1.app _))
/-- a house of the drawn book -/
def House (many : Int) (x : D) : Prop := ∃ (w : List Int) (c : List (Int × Int)) (e : D) (ys : List Int), x = .tup [.tup (w.map D.int), .tup (c.map Ev.prD), e, .tup (ys.map D.int)] ∧ Wks.Wk w ∧ (ys.length : Int) = many ∧ c.length ≤ 24
/-- the drawn book -/
def Book (many classes : Int) (d : D) : Prop := ∃ hs rest : List D, d = .tup (.tup hs :: .int classes :: rest) ∧ (hs.length : Int) = many ∧ (∀ x ∈ hs, House many x) ∧ rest.length ≤ 3
theorem ints_of {l : List D} (h : ∀ x ∈ l, ∃ i : Int, x = .int i) : ∃ ns : List Int, l = ns.map D.int := by
  induction l with
  | nil => exact ⟨[], rfl⟩
  | cons a l ih =>
    obtain ⟨i, rfl⟩ := h a (by simp)
    obtain ⟨ns, rfl⟩ := ih fun x hx => h x (List.mem_cons_of_mem _ hx)
    exact ⟨i :: ns, rfl⟩
theorem x_law_book {n : Nat} {many classes : Int} {S S1 : Store} {Q : DK} (a : Up S S1) (h1 : 1 ≤ many) (h2 : many ≤ 6) (h3 : 1 ≤ classes) (h4 : classes ≤ 4) (h : ∀ d S', Book many classes d → Up S S' → Q d S') : run T (n + 4) 11 [.ref 3, .int many, .int classes] S1 Q := by
  refine ⟨d_law_book, rfl, ?_⟩
  unfold d_law_book b_law_book
  have hm : many * classes ≤ 6 * 4 := Int.mul_le_mul h2 h4 (by omega) (by omega)
  have hm0 : 0 ≤ many * classes := Int.mul_nonneg (by omega) (by omega)
  walk_at "go"
  refine ⟨by omega, by omega, ?_⟩
  refine lc_by (fun i S' l => S' = S1 ∧ l.length = i ∧ ∃ ps : List (Int × Int), l = ps.map Ev.prD) ⟨rfl, rfl, [], rfl⟩ (fun _ _ _ _ => trivial) ?_ ?_
  · rintro i x S4 l K hx ⟨rfl, c2, ps, rfl⟩ hK
    obtain ⟨hi, rfl⟩ := rngL_at hx
    walk_at "go"
    refine ⟨by rw [List.length_map] at *; rw [sizeLine_eq]; omega, hK _ _ ⟨rfl, by simp at *; omega, ps ++ [((0 + (i : Int)) / classes, (0 + (i : Int)) % classes)], by simp [Ev.prD]⟩⟩
  rintro l S4 ⟨rfl, c2, ps, rfl⟩
  rw [rngL_length] at c2
  walk_at "go"
  have hp3 := a.tp.lt
  generalize hp : S4.length = p at *
  have u0 : ∀ l : List Ob, Up S (S4 ++ l) := fun l => a.app l
  refine ⟨by omega, by omega, for_by (fun i r S' => Up S S' ∧ p + 1 < S'.length ∧ S'[p]? = some (.lst (ps.map Ev.prD)) ∧ (∃ hs, S'[p + 1]? = some (.lst hs) ∧ hs.length = i ∧ ∀ x ∈ hs, House many x) ∧ ∃ y6 y7 y8 y10 y11 : Option D, r = [some (.ref 3), some (.int many), some (.int classes), some (.ref p), none, some (.ref (p + 1)), y6, y7, y8, none, y10, y11, none, none, none, none]) ⟨u0 _, by simp [hp], by rw [← hp, st_get0]; rfl, ⟨[], by rw [← hp, st_get]; rfl, rfl, by simp⟩, _, _, _, _, _, rfl⟩ (fun _ _ _ _ => trivial) ?_ ?_⟩
  · rintro i x r S5 K hx ⟨g1, g0, g2, ⟨hs, g3, g4, g5⟩, y6, y7, y8, y10, y11, rfl⟩ hK
    obtain ⟨hi, rfl⟩ := rngL_at hx
    have b0 := Up.refl g1.tp
    walk_at "go"
    refine x_pickN b0 (by simp) (by simp) fun v1 S6 m1 b1 => ?_
    obtain ⟨often, rfl⟩ : ∃ j : Int, v1 = .int j := by
      simp only [List.mem_cons, List.not_mem_nil, or_false] at m1
      rcases m1 with rfl | rfl | rfl | rfl <;> exact ⟨_, rfl⟩
    clear m1
    walk_at "go"
    refine ⟨_, b1.get g2 hp3, lc_by (fun i S' l => Up S5 S' ∧ l.length ≤ i ∧ ∃ c : List (Int × Int), l = c.map Ev.prD) ⟨b1, Nat.le_refl _, [], rfl⟩ (fun i S' l z => by show S'[p]? = S6[p]?; rw [z.1.get g2 hp3, b1.get g2 hp3]) ?_ ?_⟩
    · rintro j x S7 l K2 hx2 ⟨c1, c3, c, rfl⟩ hK2
      have hx2 : (ps.map Ev.prD)[j]? = some x := hx2
      rw [List.getElem?_map] at hx2
      obtain ⟨pr, -, rfl⟩ := Option.map_eq_some_iff.mp hx2
      walk_at "go"
      refine x_take c1 (by omega) (by omega) fun v S8 e1 e2 e3 _ _ => ?_
      walk_at "go"
      have hj : j < ps.length := by
        rcases Nat.lt_or_ge j ps.length with z | z
        · exact z
        · rw [List.getElem?_eq_none z] at hx2
          cases hx2
      rw [List.length_map] at c2 c3
      refine ifC_d (fun q => ?_) (fun q => ?_)
      · refine ⟨by rw [List.length_map, sizeLine_eq]; omega, hK2 _ _ ⟨e3, by simp; omega, c ++ [pr], by simp⟩⟩
      · exact hK2 _ _ ⟨e3, by simp; omega, c, rfl⟩
    · rintro l S7 ⟨b2, lc, c, rfl⟩
      have b2 : Up S5 S7 := b2
      have lc : (c.map Ev.prD).length ≤ (ps.map Ev.prD).length := lc
      rw [List.length_map] at lc
      walk_at "go"
      have b3 : Up S5 (S7 ++ [Ob.lst (c.map Ev.prD)]) := b2.app _
      generalize S7 ++ [Ob.lst (c.map Ev.prD)] = S8 at *
      refine ⟨by omega, by omega, lc_by (fun i S' l => Up S5 S' ∧ ∃ ys : List Int, l = ys.map D.int ∧ ys.length = i) ⟨b3, [], rfl, rfl⟩ (fun _ _ _ _ => trivial) ?_ ?_⟩
      · rintro j x S9 l K2 hx2 ⟨c1, ys, rfl, c3⟩ hK2
        obtain ⟨hj, rfl⟩ := rngL_at hx2
        walk_at "go"
        refine x_take c1 (by omega) (by omega) fun v S10 e1 e2 e3 _ _ => ?_
        walk_at "go"
        refine x_take e3 (by omega) (by omega) fun v' S11 f1 f2 f3 _ _ => ?_
        walk_at "go"
        refine x_pickN f3 (by simp) (by simp) fun v1 S12 m1 h1 => ?_
        obtain ⟨y, rfl⟩ : ∃ y : Int, v1 = .int y := by
          simp only [List.mem_cons, List.not_mem_nil, or_false] at m1
          rcases m1 with rfl | rfl | rfl | rfl <;> exact ⟨_, rfl⟩
        refine ⟨by rw [List.length_map, sizeLine_eq]; omega, hK2 _ _ ⟨h1, ys ++ [y], by simp, by simp [c3]⟩⟩
      · rintro l S9 ⟨b4, ys, rfl, ey⟩
        rw [rngL_length] at ey
        have b4 : Up S5 S9 := b4
        walk_at "go"
        have b5 : Up S5 (S9 ++ [Ob.lst (ys.map D.int)]) := b4.app _
        generalize S9 ++ [Ob.lst (ys.map D.int)] = S10 at *
        refine x_law_week b5 fun w S11 hw b6 => ?_
        walk_at "go"
        refine x_take b6 (by omega) (by omega) fun v S12 e1 e2 e3 _ _ => ?_
        walk_at "go"
        refine x_pickN e3 (by simp) (by simp) fun v1 S13 m1 b7 => ?_
        walk_at "go"
        refine ⟨hs, b7.get g3 (by omega), by rw [sizeLine_eq]; omega, ?_⟩
        walk_at "go"
        have hq : p + 1 < S13.length := Nat.lt_of_lt_of_le g0 b7.le
        refine hK _ _ ⟨?_, ?_, ?_, ⟨hs ++ [.tup [.tup (w.map D.int), .tup (c.map Ev.prD), v1, .tup (ys.map D.int)]], get_set_self hq, by simp [g4], ?_⟩, _, _, _, _, _, rfl⟩
        · exact (g1.trans b7).set (Nat.le_succ_of_le (by have := a.le; omega)) (by omega) _
        · rw [List.length_set]; exact hq
        · rw [get_set_ne (by omega)]
          exact b7.get g2 hp3
        · intro x hx
          rcases List.mem_append.mp hx with z | z
          · exact g5 x z
          · rcases List.mem_singleton.mp z with rfl
            exact ⟨w, c, v1, ys, rfl, hw, by omega, by omega⟩
  · rintro r S5 ⟨g1, g0, g2, ⟨hs, g3, g4, g5⟩, y6, y7, y8, y10, y11, rfl⟩
    rw [rngL_length] at g4
    have b0 := Up.refl g1.tp
    walk_at "go"
    generalize hq : S5.length = q at *
    have q3 : 3 < q := by omega
    refine ⟨by omega, by omega, for_by (fun i r S' => Up S5 S' ∧ q < S'.length ∧ (∃ ls, S'[q]? = some (.lst ls) ∧ ls.length = i) ∧ ∃ y11 : Option D, r = [some (.ref 3), some (.int many), some (.int classes), some (.ref p), none, some (.ref (p + 1)), y6, y7, y8, none, y10, y11, some (.ref q), none, none, none]) ⟨b0.app _, by simp [hq], ⟨[], by rw [← hq, st_get0]; rfl, rfl⟩, _, rfl⟩ (fun _ _ _ _ => trivial) ?_ ?_⟩
    · rintro i x r S6 K hx ⟨b1, l1, ⟨ls, l2, l3⟩, z11, rfl⟩ hK
      obtain ⟨hi, rfl⟩ := rngL_at hx
      walk_at "go"
      have b2 := Up.refl b1.tp
      refine ⟨by omega, by omega, lc_by (fun i S' l => Up S6 S' ∧ l.length = i) ⟨b2, rfl⟩ (fun _ _ _ _ => trivial) ?_ ?_⟩
      · rintro j x S9 l K2 hx2 ⟨c1, c3⟩ hK2
        obtain ⟨hj, rfl⟩ := rngL_at hx2
        walk_at "go"
        refine x_take c1 (by omega) (by omega) fun v S10 e1 e2 e3 _ _ => ?_
        walk_at "go"
        refine x_pickN e3 (by simp) (by simp) fun v1 S12 m1 h1 => ?_
        exact ⟨by rw [sizeLine_eq]; omega, hK2 _ _ ⟨h1, by simp [c3]⟩⟩
      · rintro l S9 ⟨b3, -⟩
        have b3 : Up S6 S9 := b3
        walk_at "go"
        have b4 : Up S6 (S9 ++ [Ob.lst l]) := b3.app _
        generalize S9 ++ [Ob.lst l] = S10 at *
        refine ⟨ls, b4.get l2 q3, by rw [sizeLine_eq]; omega, ?_⟩
        walk_at "go"
        refine hK _ _ ⟨(b1.trans b4).set (by omega) q3 _, by rw [List.length_set]; exact Nat.lt_of_lt_of_le l1 b4.le, ⟨_, get_set_self (Nat.lt_of_lt_of_le l1 b4.le), by simp [l3]⟩, _, rfl⟩
    · rintro r S6 ⟨b1, l1, ⟨ls, l2, l3⟩, z11, rfl⟩
      walk_at "go"
      have b2 := Up.refl b1.tp
      refine x_take b2 (by omega) (by omega) fun v S7 e1 e2 e3 _ _ => ?_
      walk_at "go"
      refine x_pickN e3 (by simp) (by simp) fun v1 S8 m1 f1 => ?_
      walk_at "go"
      refine x_take f1 (by omega) (by omega) fun v S9 e1 e2 e3 _ _ => ?_
      walk_at "go"
      refine x_pickN e3 (by simp) (by simp) fun v2 S10 m2 f2 => ?_
      walk_at "go"
      refine ⟨hs, (b1.trans f2).get g3 (by omega), ls, f2.get l2 q3, ?_⟩
      walk_at "go"
      exact ret_same (h _ _ ⟨hs, _, rfl, by omega, g5, by simp⟩ (g1.trans (b1.trans f2)))
theorem x_law_drawn_book {n : Nat} {S S1 : Store} {Q : DK} (a : Up S S1) (h : ∀ many classes d S', 1 ≤ many → many ≤ 6 → 1 ≤ classes → classes ≤ 4 → Book many classes d → Up S S' → Q d S') : run T (n + 5) 12 [.ref 3] S1 Q := by
  refine ⟨d_law_drawn_book, rfl, ?_⟩
  unfold d_law_drawn_book b_law_drawn_book
  walk_at "go"
  refine x_take a (by omega) (by omega) fun v S2 e1 e2 e3 _ _ => ?_
  walk_at "go"
  refine ifC_d (fun q => ?_) (fun q => ?_)
  · walk_at "go"
    refine ifC_d (fun _ => ?_) (fun z => absurd q z)
    walk_at "go"
    refine x_law_book e3 (by omega) (by omega) (by omega) (by omega) fun d S' hb u => ?_
    exact ret_same (h 6 4 d S' (by omega) (by omega) (by omega) (by omega) hb u)
  · walk_at "go"
    refine x_take e3 (by omega) (by omega) fun v1 S3 f1 f2 f3 _ _ => ?_
    walk_at "go"
    refine ifC_d (fun z => absurd z q) (fun _ => ?_)
    walk_at "go"
    refine x_take f3 (by omega) (by omega) fun v2 S4 g1 g2 g3 _ _ => ?_
    walk_at "go"
    refine x_law_book g3 (by omega) (by omega) (by omega) (by omega) fun d S' hb u => ?_
    exact ret_same (h _ _ d S' (by omega) (by omega) (by omega) (by omega) hb u)
/-- house i of a list of houses -/
def At (hs : List D) (i : Int) (w : List Int) (c : List (Int × Int)) (ys : List Int) : Prop := ∃ e : D, ixAt hs i = some (.tup [.tup (w.map D.int), .tup (c.map Ev.prD), e, .tup (ys.map D.int)])
theorem at_of {hs : List D} {many i : Int} (h1 : (hs.length : Int) = many) (h2 : ∀ x ∈ hs, House many x) (h3 : 0 ≤ i) (h4 : i < many) : ∃ w c ys, At hs i w c ys ∧ Wks.Wk w ∧ (ys.length : Int) = many ∧ c.length ≤ 24 := by
  have hi : i.toNat < hs.length := by omega
  obtain ⟨w, c, e, ys, q1, q2, q3⟩ := h2 _ (List.getElem_mem hi)
  exact ⟨w, c, ys, ⟨e, ixAt_nat h3 (by rw [List.getElem?_eq_getElem hi, q1])⟩, q2, q3⟩
section
variable {n : Nat} {hs rest : List D} {cl home goal day : Int} {w w' : List Int} {c c' : List (Int × Int)} {ys ys' : List Int} {S : Store} {Q : DK}
theorem x_week_of (a : At hs home w c ys) (h : Q (.tup (w.map D.int)) S) : run T (n + 1) 2 [.tup (.tup hs :: .int cl :: rest), .int home] S Q := by
  refine ⟨d_week_of, rfl, ?_⟩
  unfold d_week_of b_week_of
  obtain ⟨e, he⟩ := a
  walk_at "go"
  refine ⟨_, he, ?_⟩
  walk_at "go"
  exact ret_same h
theorem x_way_from (a : At hs home w c ys) (h1 : 0 ≤ goal) (h2 : goal < ys.length) (h : Q (.int (ys.getD goal.toNat 0)) S) : run T (n + 1) 3 [.tup (.tup hs :: .int cl :: rest), .int home, .int goal] S Q := by
  refine ⟨d_way_from, rfl, ?_⟩
  unfold d_way_from b_way_from
  obtain ⟨e, he⟩ := a
  walk_at "go"
  refine ⟨_, he, ?_⟩
  walk_at "go"
  exact ret_same h
theorem x_lends {x y : Int} (a : At hs home w c ys) (h : Q (.bl (decide ((x, y) ∈ c))) S) : run T (n + 1) 4 [.tup (.tup hs :: .int cl :: rest), .int home, .tup [.int x, .int y]] S Q := by
  refine ⟨d_lends, rfl, ?_⟩
  unfold d_lends b_lends
  obtain ⟨e, he⟩ := a
  walk_at "go"
  refine ⟨_, he, ?_⟩
  walk_at "go"
  exact cmp_in_prs (p := (x, y)) (ret_same h)
theorem x_ready {e : Int} (a : At hs home w c ys) (a' : At hs goal w' c' ys') (hw : Wks.Wk w') (h1 : 0 ≤ goal) (h2 : goal < ys.length) (hx : Wks.Nx w' (day + ys.getD goal.toNat 0) e) (h : Q (.int e) S) : run T (n + 3) 5 [.tup (.tup hs :: .int cl :: rest), .int home, .int goal, .int day] S Q := by
  refine ⟨d_ready, rfl, ?_⟩
  unfold d_ready b_ready
  walk_at "go"
  refine x_week_of a' ?_
  walk_at "go"
  refine x_way_from a h1 h2 ?_
  walk_at "go"
  exact x_next_open hw hx (ret_same h)
theorem x_law_ready {e : Int} (a : At hs home w c ys) (a' : At hs goal w' c' ys') (hw : Wks.Wk w') (h1 : 0 ≤ goal) (h2 : goal < ys.length) (hx : Wks.Nx w' (day + ys.getD goal.toNat 0) e) (h : Q (.int e) S) : run T (n + 1) 13 [.tup (.tup hs :: .int cl :: rest), .int home, .int goal, .int day] S Q := by
  refine ⟨d_law_ready, rfl, ?_⟩
  unfold d_law_ready b_law_ready
  obtain ⟨u, hu⟩ := a
  obtain ⟨u', hu'⟩ := a'
  have hl := hw.len
  walk_at "go"
  refine ⟨_, hu, ?_⟩
  walk_at "go"
  generalize day + ys.getD goal.toNat 0 = d at *
  obtain ⟨x1, x2, x3, x4⟩ := hx
  refine for_by (fun i r S' => S' = S ∧ ∃ y, r = [some (.tup (.tup hs :: .int cl :: rest)), some (.int home), some (.int goal), some (.int day), some (.int d), y] ∧ d + (i : Int) ≤ e) ⟨rfl, none, rfl, by omega⟩ (fun _ _ _ _ => trivial) ?_ ?_
  · rintro i x r S' K hx ⟨rfl, y, rfl, g⟩ hK
    obtain ⟨hi, rfl⟩ := rngL_at hx
    walk_at "go"
    refine ⟨_, hu', ?_⟩
    walk_at "go"
    refine ifK_d (fun q => ?_) (fun q => ?_)
    · walk_at "go"
      have : d + (0 + (i : Int)) = e := by
        rcases Int.lt_or_eq_of_le g with z | z
        · exact absurd q (x4 (d + (0 + (i : Int))) (by omega) (by omega))
        · omega
      rw [this]
      exact ret_same h
    · walk_at "go"
      refine hK _ _ ⟨rfl, _, rfl, ?_⟩
      rcases Int.lt_or_eq_of_le g with z | z
      · omega
      · refine absurd ?_ q
        rw [show d + (0 + (i : Int)) = e by omega]
        exact x3
  · rintro r S' ⟨rfl, y, rfl, g⟩
    rw [rngL_length] at g
    exact absurd g (by omega)
theorem x_law_is_due {b : Bool} (h : Q (.bl true) S) : run T (n + 1) 15 [.bl b, .bl b] S Q := by
  refine ⟨d_law_is_due, rfl, ?_⟩
  unfold d_law_is_due b_law_is_due
  walk_at "go"
  refine ifC_b (fun q => ?_) (fun q => ?_)
  · subst q
    walk_at "go"
    exact ret_same h
  · subst q
    walk_at "go"
    exact ret_same h
theorem x_law_asked {many : Int} {S1 : Store} {dr : Nat} {ds : List Int} (a : Up S S1) (hd : S1[dr]? = some (.lst (ds.map D.int))) (hd3 : 3 < dr) (m1 : 1 ≤ many) (m2 : many ≤ 6) (m3 : 1 ≤ cl) (m4 : cl ≤ 4)
    (b1 : (hs.length : Int) = many) (b2 : ∀ x ∈ hs, House many x) (h : ∀ S', Up S S' → Q (.bl true) S') : run T (n + 4) 16 [.ref 3, .tup (.tup hs :: .int cl :: rest), .ref dr] S1 Q := by
  refine ⟨d_law_asked, rfl, ?_⟩
  unfold d_law_asked b_law_asked
  walk_at "go"
  subst b1
  let pre : List (Option D) := [some (.ref 3), some (.tup (.tup hs :: .int cl :: rest)), some (.ref dr), some (.int hs.length), some (.int cl)]
  refine ⟨by omega, by omega, for_by (fun i r S' => Up S1 S' ∧ ∃ y5 y6 y7 y8 y10 : Option D, r = pre ++ [y5, y6, y7, y8, none, y10]) ⟨Up.refl a.tp, _, _, _, _, _, rfl⟩ (fun _ _ _ _ => trivial) ?_ ?_⟩
  · rintro i x r S2 K hx ⟨u2, y5, y6, y7, y8, y10, rfl⟩ hK
    obtain ⟨hi, rfl⟩ := rngL_at hx
    obtain ⟨w, c, ys, at1, hw, ey, ec⟩ := at_of (i := 0 + (i : Int)) rfl b2 (by omega) (by omega)
    have at1' := at1
    obtain ⟨e1, he1⟩ := at1'
    simp only [pre]
    walk_at "go"
    refine ⟨by omega, by omega, for_by (fun i' r S' => Up S1 S' ∧ ∃ y6 y7 y8 y10 : Option D, r = pre ++ [some (.int (0 + (i : Int))), y6, y7, y8, none, y10]) ⟨u2, _, _, _, _, rfl⟩ (fun _ _ _ _ => trivial) ?_ ?_⟩
    · rintro j x r S3 K2 hx ⟨u3, z6, z7, z8, z10, rfl⟩ hK2
      obtain ⟨hj, rfl⟩ := rngL_at hx
      obtain ⟨w', c', ys', at2, hw', ey', ec'⟩ := at_of (i := 0 + (j : Int)) rfl b2 (by omega) (by omega)
      simp only [pre]
      walk_at "go"
      refine ⟨by omega, by omega, for_by (fun i' r S' => Up S1 S' ∧ ∃ y7 y8 : Option D, r = pre ++ [some (.int (0 + (i : Int))), some (.int (0 + (j : Int))), y7, y8, none, z10]) ⟨u3, _, _, rfl⟩ (fun _ _ _ _ => trivial) ?_ ?_⟩
      · rintro k x r S4 K3 hx ⟨u4, x7, x8, rfl⟩ hK3
        obtain ⟨hk, rfl⟩ := rngL_at hx
        simp only [pre]
        walk_at "go"
        refine ⟨_, he1, ?_⟩
        walk_at "go"
        refine lc_by (fun m S' l => S' = S4 ∧ (0 < l.length ↔ (0 + (j : Int), 0 + (k : Int)) ∈ c.take m) ∧ l.length ≤ m) ⟨rfl, by simp, by simp⟩ (fun _ _ _ _ => trivial) ?_ ?_
        · rintro m x S5 l K4 hx ⟨rfl, v1, v2⟩ hK4
          have hx : (c.map Ev.prD)[m]? = some x := hx
          rw [List.getElem?_map] at hx
          obtain ⟨pr, hpr, rfl⟩ := Option.map_eq_some_iff.mp hx
          obtain ⟨hm, hpr'⟩ := List.getElem?_eq_some_iff.mp hpr
          have et : c.take (m + 1) = c.take m ++ [pr] := by rw [List.take_succ, hpr]; rfl
          walk_at "go"
          refine cmp_eq_prs (p := pr) (q := (0 + (j : Int), 0 + (k : Int))) ?_
          walk_at "go"
          refine ifC_d (fun q => ?_) (fun q => ?_)
          · refine ⟨by rw [sizeLine_eq]; omega, hK4 _ _ ⟨rfl, ?_, by simp; omega⟩⟩
            rw [et, q]
            simp
          · refine hK4 _ _ ⟨rfl, ?_, by omega⟩
            rw [et, v1, List.mem_append, List.mem_singleton]
            exact ⟨.inl, fun z => z.resolve_right fun y => q y.symm⟩
        · rintro l S5 ⟨rfl, v1, v2⟩
          have v1 : 0 < l.length ↔ (0 + (j : Int), 0 + (k : Int)) ∈ c := by
            have z : (c.map Ev.prD).length = c.length := List.length_map ..
            rw [v1, show (Src.mk (c.map Ev.prD) fun _ => True).its.length = c.length from z, List.take_length]
          walk_at "go"
          refine x_lends at1 ?_
          walk_at "go"
          rw [show decide ((0 : Int) < (l.length : Int)) = decide ((0 + (j : Int), 0 + (k : Int)) ∈ c) from decide_eq_decide.mpr ⟨fun z => v1.mp (by omega), fun z => by have := v1.mpr z; omega⟩]
          refine x_law_is_due ?_
          walk_at "go"
          exact hK3 _ _ ⟨u4.app _, _, _, rfl⟩
      · rintro r S4 ⟨u4, x7, x8, rfl⟩
        simp only [pre]
        walk_at "go"
        refine ⟨_, u4.get hd hd3, for_by (fun i' r S' => Up S1 S' ∧ ∃ y8 y10 : Option D, r = pre ++ [some (.int (0 + (i : Int))), some (.int (0 + (j : Int))), x7, y8, none, y10]) ⟨u4, _, _, rfl⟩ (fun i' r S' z => by show S'[dr]? = S4[dr]?; rw [z.1.get hd hd3, u4.get hd hd3]) ?_ ?_⟩
        · rintro k x r S5 K4 hx ⟨u5, x8, x10, rfl⟩ hK4
          have hx : (ds.map D.int)[k]? = some x := hx
          rw [List.getElem?_map] at hx
          obtain ⟨day, -, rfl⟩ := Option.map_eq_some_iff.mp hx
          obtain ⟨e, he⟩ := Wks.nx_ex hw' (day + ys.getD (0 + (j : Int)).toNat 0)
          simp only [pre]
          walk_at "go"
          refine x_law_ready at1 at2 hw' (by omega) (by omega) he ?_
          walk_at "go"
          refine x_ready at1 at2 hw' (by omega) (by omega) he ?_
          walk_at "go"
          refine x_law_is ?_
          walk_at "go"
          refine x_ready at1 at2 hw' (by omega) (by omega) he ?_
          walk_at "go"
          refine x_law_is ?_
          walk_at "go"
          exact hK4 _ _ ⟨u5, _, _, rfl⟩
        · rintro r S5 ⟨u5, x8, x10, rfl⟩
          simp only [pre]
          walk_at "go"
          exact hK2 _ _ ⟨u5, _, _, _, _, rfl⟩
    · rintro r S3 ⟨u3, z6, z7, z8, z10, rfl⟩
      simp only [pre]
      walk_at "go"
      exact hK _ _ ⟨u3, _, _, _, _, _, rfl⟩
  · rintro r S2 ⟨u2, y5, y6, y7, y8, y10, rfl⟩
    obtain ⟨w, c, ys, at1, hw, ey, ec⟩ := at_of (i := 0) rfl b2 (by omega) (by omega)
    have at1' := at1
    obtain ⟨e1, he1⟩ := at1'
    simp only [pre]
    walk_at "go"
    refine x_take u2 (by omega) (by omega) fun v1 S3 f1 f2 u3 _ _ => ?_
    walk_at "go"
    refine x_take u3 (by omega) (by omega) fun v2 S4 f1 f2 u4 _ _ => ?_
    walk_at "go"
    refine x_lends at1 ?_
    walk_at "go"
    refine ⟨_, he1, ?_⟩
    walk_at "go"
    refine cmp_in_prs (p := (v1, v2)) ?_
    refine x_law_is_due ?_
    exact ret_same (h _ (a.trans u4))
end
theorem house_upd {many : Int} {hs : List D} {x : D} {k : Nat} (h : ∀ y ∈ hs, House many y) (hx : House many x) : ∀ y ∈ hs.take k ++ [x] ++ hs.drop (k + 1), House many y := by
  intro y hy
  rcases List.mem_append.mp hy with z | z
  · rcases List.mem_append.mp z with z | z
    · exact h y (List.mem_of_mem_take z)
    · rcases List.mem_singleton.mp z with rfl
      exact hx
  · exact h y (List.mem_of_mem_drop z)
theorem law_true (ns : List Int) (hns : ns.length ≤ 63) : run T (60 + 1) 17 [.cl (ns.map D.int)] [] fun v _ => v = .bl true := by
  refine ⟨d_law, rfl, ?_⟩
  unfold d_law b_law
  walk_at "go"
  refine x_law_start fun S0 t0 => ?_
  walk_at "go"
  refine x_law_drawn_book (Up.refl t0) fun many cl d S1 m1 m2 m3 m4 hb u1 => ?_
  obtain ⟨hs, rest, rfl, e1, hh, lr⟩ := hb
  walk_at "go"
  refine x_law_book u1 (by omega) (by omega) m3 m4 fun d2 S2 hb2 u2 => ?_
  obtain ⟨hs2, rest2, rfl, e2, hh2, lr2⟩ := hb2
  walk_at "go"
  refine x_take u2 (by omega) (by omega) fun h S3 h1 h2 u3 _ _ => ?_
  walk_at "go"
  refine x_pickN u3 (by simp) (by simp) fun v S4 mv u4 => ?_
  have hk : h.toNat < hs.length := by omega
  have hk2 : h.toNat < hs2.length := by omega
  obtain ⟨w, c, e, ys, q1, q2, q3, q4⟩ := hh _ (List.getElem_mem hk)
  obtain ⟨w', c', e', ys', r1, r2, r3, r4⟩ := hh2 _ (List.getElem_mem hk2)
  have a1 : ixAt hs h = some (.tup [.tup (w.map D.int), .tup (c.map Ev.prD), e, .tup (ys.map D.int)]) := ixAt_nat h1 (by rw [List.getElem?_eq_getElem hk, q1])
  have a2 : ixAt hs2 h = some (.tup [.tup (w'.map D.int), .tup (c'.map Ev.prD), e', .tup (ys'.map D.int)]) := ixAt_nat h1 (by rw [List.getElem?_eq_getElem hk2, r1])
  have key : ∃ p : Int, v = .int p ∧ 0 ≤ p ∧ p ≤ 3 ∧ ∃ z : D, ixAt [.tup (w'.map D.int), .tup (c'.map Ev.prD), e', .tup (ys'.map D.int)] p = some z ∧ House many (.tup ([D.tup (w.map D.int), .tup (c.map Ev.prD), e, .tup (ys.map D.int)].take p.toNat ++ [z] ++ [D.tup (w.map D.int), .tup (c.map Ev.prD), e, .tup (ys.map D.int)].drop (p + 1).toNat)) := by
    simp only [List.mem_cons, List.not_mem_nil, or_false] at mv
    rcases mv with rfl | rfl | rfl
    · exact ⟨0, rfl, by omega, by omega, _, ix0, w', c, e, ys, rfl, r2, q3, q4⟩
    · exact ⟨1, rfl, by omega, by omega, _, ix1, w, c', e, ys, rfl, q2, q3, r4⟩
    · exact ⟨3, rfl, by omega, by omega, _, ix3, w, c, e, ys', rfl, q2, by omega, q4⟩
  obtain ⟨p, rfl, p1, p2, z, z1, z2⟩ := key
  clear mv
  walk_at "go"
  refine ⟨_, a1, ?_⟩
  walk_at "go"
  refine ⟨_, a2, ?_⟩
  walk_at "go"
  refine ⟨_, z1, ?_⟩
  walk_at "go"
  generalize hD : [D.tup (w.map D.int), .tup (c.map Ev.prD), e, .tup (ys.map D.int)] = l4 at *
  have l4n : l4.length = 4 := by rw [← hD]; rfl
  refine ⟨by rw [sizeLine_eq, List.length_take]; omega, _, a1, ?_⟩
  walk_at "go"
  refine ⟨by rw [sizeLine_eq, List.length_append, List.length_take, List.length_drop]; simp; omega, ?_⟩
  walk_at "go"
  refine ⟨by rw [sizeLine_eq, List.length_take]; omega, ?_⟩
  walk_at "go"
  refine ⟨by rw [sizeLine_eq, List.length_append, List.length_take, List.length_drop]; simp; omega, ?_⟩
  walk_at "go"
  rw [show List.drop 1 (D.tup hs :: D.int cl :: rest) = D.int cl :: rest from rfl]
  refine ⟨by rw [sizeLine_eq, List.length_cons]; omega, ?_⟩
  rw [show (h + 1).toNat = h.toNat + 1 by omega]
  have tl : ((hs.take h.toNat ++ [D.tup (l4.take p.toNat ++ [z] ++ l4.drop (p + 1).toNat)] ++ hs.drop (h.toNat + 1)).length : Int) = many := by
    rw [List.length_append, List.length_append, List.length_take, List.length_drop]
    simp
    omega
  have th := house_upd (k := h.toNat) hh z2
  generalize hs.take h.toNat ++ [D.tup (l4.take p.toNat ++ [z] ++ l4.drop (p + 1).toNat)] ++ hs.drop (h.toNat + 1) = hs' at *
  walk_at "go"
  refine x_pickN u4 (by simp) (by simp) fun v S5 mv u5 => ?_
  obtain ⟨lim, rfl, lim1, lim2⟩ : ∃ lim : Int, v = .int lim ∧ 0 < lim ∧ lim < 340282366920938463463374607431768211456 := by
    simp only [List.mem_cons, List.not_mem_nil, or_false] at mv
    rcases mv with rfl | rfl | rfl | rfl <;> exact ⟨_, rfl, by omega, by omega⟩
  clear mv
  walk_at "go"
  refine x_take u5 lim1 lim2 fun day S6 d1 d2 u6 _ _ => ?_
  walk_at "go"
  refine lc_by (fun i S' l => S' = S6 ∧ l.length = i ∧ ∃ ds : List Int, l = ds.map D.int) ⟨rfl, rfl, [], rfl⟩ (fun _ _ _ _ => trivial) ?_ ?_
  · rintro i x S7 l K hx ⟨rfl, v1, ds, rfl⟩ hK
    obtain ⟨hi, rfl⟩ := rngL_at hx
    walk_at "go"
    exact ⟨by rw [sizeLine_eq]; omega, hK _ _ ⟨rfl, by simpa using v1, ds ++ [day + (0 + (i : Int))], by simp⟩⟩
  · rintro l S7 ⟨rfl, v1, ds, rfl⟩
    rw [rngL_length] at v1
    have n3 := u6.tp.lt
    walk_at "go"
    refine x_take (u6.app _) (by omega) (by omega) fun last S8 f1 f2 u8 l8 k8 => ?_
    walk_at "go"
    have g1 : S8[S7.length]? = some (.lst (ds.map D.int)) := by rw [k8 _ n3, st_get0]; rfl
    have g2 : (S8 ++ [Ob.lst [D.int last]])[S7.length]? = some (.lst (ds.map D.int)) := by
      rw [get_app (by rw [l8, List.length_append]; simp)]
      exact g1
    refine ⟨_, _, g2, rfl, by rw [sizeLine_eq, v1]; simp, ?_⟩
    walk_at "go"
    have hd : (S8 ++ [Ob.lst [D.int last], Ob.lst (ds.map D.int ++ [D.int last])])[S8.length + 1]? = some (.lst ((ds ++ [last]).map D.int)) := by
      rw [st_get, List.map_append]
      rfl
    have h8 := u8.tp.lt
    have u9 := u8.app [Ob.lst [D.int last], Ob.lst (ds.map D.int ++ [D.int last])]
    generalize S8 ++ [Ob.lst [D.int last], Ob.lst (ds.map D.int ++ [D.int last])] = S9 at *
    refine x_law_asked (Up.refl u9.tp) hd (by omega) m1 m2 m3 m4 e1 hh fun Sa ua => ?_
    walk_at "go"
    refine x_law_asked (Up.refl ua.tp) (ua.get hd (by omega)) (by omega) m1 m2 m3 m4 tl (fun y hy => by have := th y hy; exact this) fun Sb ub => ?_
    walk_at "go"
    refine x_law_asked (Up.refl ub.tp) (ub.get (ua.get hd (by omega)) (by omega)) (by omega) m1 m2 m3 m4 e1 hh fun Sc uc => ?_
    exact ret_same rfl

theorem ok_is_open : defOk T (topS 1) d_is_open = true := by decide +kernel
theorem bn_is_open : Bnd (topS 1) d_is_open.i := ⟨fun _ _ _ _ _ _ _ _ us hl => match us, hl with
    | [_, _], _ => rfl, fun n ks perm h => by cases h⟩
theorem ok_next_open : defOk T (topS 2) d_next_open = true := by decide +kernel
theorem bn_next_open : Bnd (topS 2) d_next_open.i := ⟨fun _ _ _ _ _ _ _ _ us hl => match us, hl with
    | [_, _], _ => rfl, fun n ks perm h => by cases h⟩
theorem ok_week_of : defOk T (topS 4) d_week_of = true := by decide +kernel
theorem bn_week_of : Bnd (topS 4) d_week_of.i := ⟨fun _ _ _ _ _ _ _ _ us hl => match us, hl with
    | [_, _], _ => rfl, fun n ks perm h => by cases h⟩
theorem ok_way_from : defOk T (topS 5) d_way_from = true := by decide +kernel
theorem bn_way_from : Bnd (topS 5) d_way_from.i := ⟨fun _ _ _ _ _ _ _ _ us hl => match us, hl with
    | [_, _, _], _ => rfl, fun n ks perm h => by cases h⟩
theorem ok_lends : defOk T (topS 6) d_lends = true := by decide +kernel
theorem bn_lends : Bnd (topS 6) d_lends.i := ⟨fun _ _ _ _ _ _ _ _ us hl => match us, hl with
    | [_, _, _], _ => rfl, fun n ks perm h => by
    simp only [d_lends, List.mem_cons, List.mem_nil_iff, or_false] at h
    rcases h with h
    · obtain ⟨rfl, rfl, rfl⟩ : n = _ ∧ ks = _ ∧ perm = _ := by simpa using h
      exact fun _ _ _ _ _ _ _ _ => fun us ws h1 h2 => match us, ws, h1, h2 with
      | [], [_, _, _], _, _ => rfl
⟩
theorem ok_ready : defOk T (topS 7) d_ready = true := by decide +kernel
theorem bn_ready : Bnd (topS 7) d_ready.i := ⟨fun _ _ _ _ _ _ _ _ us hl => match us, hl with
    | [_, _, _, _], _ => rfl, fun n ks perm h => by
    simp only [d_ready, List.mem_cons, List.mem_nil_iff, or_false] at h
    rcases h with h
    · obtain ⟨rfl, rfl, rfl⟩ : n = _ ∧ ks = _ ∧ perm = _ := by simpa using h
      exact fun _ _ _ _ _ _ _ _ => fun us ws h1 h2 => match us, ws, h1, h2 with
      | [], [_, _, _, _], _, _ => rfl
⟩
theorem ok_law_mixed : defOk T (topS 9) d_law_mixed = true := by decide +kernel
theorem bn_law_mixed : Bnd (topS 9) d_law_mixed.i := ⟨fun _ _ _ _ _ _ _ _ us hl => match us, hl with
    | [_, _], _ => rfl, fun n ks perm h => by cases h⟩
theorem ok_law_start : defOk T (topS 10) d_law_start = true := by decide +kernel
theorem bn_law_start : Bnd (topS 10) d_law_start.i := ⟨fun _ _ _ _ _ _ _ _ us hl => match us, hl with
    | [_], _ => rfl, fun n ks perm h => by cases h⟩
theorem ok_law_take : defOk T (topS 11) d_law_take = true := by decide +kernel
theorem bn_law_take : Bnd (topS 11) d_law_take.i := ⟨fun _ _ _ _ _ _ _ _ us hl => match us, hl with
    | [_, _], _ => rfl, fun n ks perm h => by cases h⟩
theorem ok_law_pick : defOk T (topS 12) d_law_pick = true := by decide +kernel
theorem bn_law_pick : Bnd (topS 12) d_law_pick.i := ⟨fun _ _ _ _ _ _ _ _ us hl => match us, hl with
    | [_, _], _ => rfl, fun n ks perm h => by cases h⟩
theorem ok_law_week : defOk T (topS 13) d_law_week = true := by decide +kernel
theorem bn_law_week : Bnd (topS 13) d_law_week.i := ⟨fun _ _ _ _ _ _ _ _ us hl => match us, hl with
    | [_], _ => rfl, fun n ks perm h => by cases h⟩
theorem ok_law_book : defOk T (topS 14) d_law_book = true := by decide +kernel
theorem bn_law_book : Bnd (topS 14) d_law_book.i := ⟨fun _ _ _ _ _ _ _ _ us hl => match us, hl with
    | [_, _, _], _ => rfl, fun n ks perm h => by cases h⟩
theorem ok_law_drawn_book : defOk T (topS 15) d_law_drawn_book = true := by decide +kernel
theorem bn_law_drawn_book : Bnd (topS 15) d_law_drawn_book.i := ⟨fun _ _ _ _ _ _ _ _ us hl => match us, hl with
    | [_], _ => rfl, fun n ks perm h => by cases h⟩
theorem ok_law_ready : defOk T (topS 16) d_law_ready = true := by decide +kernel
theorem bn_law_ready : Bnd (topS 16) d_law_ready.i := ⟨fun _ _ _ _ _ _ _ _ us hl => match us, hl with
    | [_, _, _, _], _ => rfl, fun n ks perm h => by cases h⟩
theorem ok_law_is : defOk T (topS 17) d_law_is = true := by decide +kernel
theorem bn_law_is : Bnd (topS 17) d_law_is.i := ⟨fun _ _ _ _ _ _ _ _ us hl => match us, hl with
    | [_, _], _ => rfl, fun n ks perm h => by cases h⟩
theorem ok_law_is_due : defOk T (topS 18) d_law_is_due = true := by decide +kernel
theorem bn_law_is_due : Bnd (topS 18) d_law_is_due.i := ⟨fun _ _ _ _ _ _ _ _ us hl => match us, hl with
    | [_, _], _ => rfl, fun n ks perm h => by cases h⟩
theorem ok_law_asked : defOk T (topS 19) d_law_asked = true := by decide +kernel
theorem bn_law_asked : Bnd (topS 19) d_law_asked.i := ⟨fun _ _ _ _ _ _ _ _ us hl => match us, hl with
    | [_, _, _], _ => rfl, fun n ks perm h => by cases h⟩
theorem ok_law : defOk T (topS 20) d_law = true := by decide +kernel
theorem bn_law : Bnd (topS 20) d_law.i := ⟨fun _ _ _ _ _ _ _ _ us hl => match us, hl with
    | [_], _ => rfl, fun n ks perm h => by cases h⟩
theorem alD : AllD T T sts := ⟨⟨ok_is_open, bn_is_open⟩, ⟨ok_next_open, bn_next_open⟩, ⟨ok_week_of, bn_week_of⟩, ⟨ok_way_from, bn_way_from⟩, ⟨ok_lends, bn_lends⟩, ⟨ok_ready, bn_ready⟩, ⟨ok_law_mixed, bn_law_mixed⟩, ⟨ok_law_start, bn_law_start⟩, ⟨ok_law_take, bn_law_take⟩, ⟨ok_law_pick, bn_law_pick⟩, ⟨ok_law_week, bn_law_week⟩, ⟨ok_law_book, bn_law_book⟩, ⟨ok_law_drawn_book, bn_law_drawn_book⟩, ⟨ok_law_ready, bn_law_ready⟩, ⟨ok_law_is, bn_law_is⟩, ⟨ok_law_is_due, bn_law_is_due⟩, ⟨ok_law_asked, bn_law_asked⟩, ⟨ok_law, bn_law⟩, trivial⟩

/-! ### the head -/
def names0 : List PySem.Str := ["is_open", "next_open", "week_of", "way_from", "lends", "ready", "_law_mixed", "_law_start", "_law_take", "_law_pick", "_law_week", "_law_book", "_law_drawn_book", "_law_ready", "_law_is", "_law_is_due", "_law_asked"]
def names : List PySem.Str := names0
abbrev RW : PySem.W.OpenRow := PySem.W.OpenLaw.row PySem.Challenge.rw_earlyback_k03_lends_and_ready
abbrev hk : PySem.W.Hook := He.hookD 4 (faL T) (fnL T sts)
def ob (s : PySem.W.SharedT) : He.AlD := He.obsDG 4 (faL T) (fnL T sts) (HandSHeadRun.getT s)
theorem ob_eq (s : PySem.W.SharedT) : ob s = hk.obs s.abs := He.obsDG_eq (HandSHeadRun.getT_eq s)
theorem runs (w : World) : HandSHeadRun.RunEq RW (PySem.W.view RW.prog [20]) hk ob 2000 names w := by
  intro os
  kernel_rfl
end K03
open PySem PySem.W PySem.Calls PyProof.Rows
set_option maxHeartbeats 0 in
theorem PySem.Challenge.cw_earlyback_k03_lends_and_ready_holds : PySem.Challenge.rw_earlyback_k03_lends_and_ready.Holds := by
  w_on; o_law
  refine HandSHeadRun.head_any (r := OpenLaw.row PySem.Challenge.rw_earlyback_k03_lends_and_ready) (q := view (OpenLaw.row PySem.Challenge.rw_earlyback_k03_lends_and_ready).prog [20]) (H := K03.hk) (ob := K03.ob) (M := 2000) (loose := K03.names)
    (d := HandSHeadRun.topDef (OpenLaw.row PySem.Challenge.rw_earlyback_k03_lends_and_ready).prog 20) (kwd := []) K03.ob_eq (by kernel_rfl) (fun s => by kernel_rfl) K03.runs (by kernel_rfl) (by kernel_rfl) (by kernel_rfl) (by rfl) (by first | assumption | decide +kernel) (by decide +kernel) ⟨rfl, rfl, rfl, rfl, rfl, by decide +kernel⟩ ?hw ?hc
  case hw => w_witness2
  case hc =>
    exact Ev.law_end (l := PySem.Challenge.rw_earlyback_k03_lends_and_ready) (T := K03.T) (sts := K03.sts) (f := 17) (n := 60) (dl := K03.d_law) (sl := K03.topS 20) (x := "script") rfl (by kernel_rfl) (by decide) (fun w h Y => Y) K03.alD rfl rfl (by kernel_rfl) rfl K03.law_true

