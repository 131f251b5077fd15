import PyProof.Rows.All
import HandS.ForMost
import HandS.ForExc
import HandS.IsInst
import HandS.Rev
import HandS.Zip
import HandS.Defaults
import HandS.CallSlots
import HandS.TupAny
import HandS.RevTup
import HandS.Style
import HandS.Deep
import PyProof.StrBlock2
import HandS.TupLe
import KE.SortCalls
import KE.SortKeyed
import KE.SortData
import HandS.TryMany
import HandS.ExcIs
import HandS.TupMul
import KE.KDictPairs
import HandS.More
import PySem.Challenge.RW_netturns_k50_weights
set_option Elab.async false
set_option linter.all false
set_option maxRecDepth 100000
set_option maxHeartbeats 4000000
namespace NT
open PySem L2

/-! data -/
inductive D where
  | non | bl (b : Bool) | int (i : Int) | str (x : Str)
  | tup (ds : List D) | lst (ds : List D) | scr (ns : List Int)
  | dK (kvs : List (Key × D)) | dT (kvs : List (List Key × D)) | exn (a : Addr)
  | raw (ds : List D) | obj (c : Str) (fs : List (Str × D))

instance : Inhabited D := ⟨.non⟩

/-- a tuple of ints and texts is kept as a tuple, any other one is known to have no dict of its own -/
def keyD : D → Bool
  | .int _ => true | .str _ => true | _ => false
def flat (ds : List D) : Bool := !ds.isEmpty && ds.all keyD
def Tp (G : Hp) (a : Addr) (xs : List V) (ds : List D) : Prop := (flat ds = true ∧ G a = some (.tup xs)) ∨ (flat ds = false ∧ ∃ o, G a = some (.frz o (.tup xs)) ∧ o.dict = none)
theorem Tp.rd {G : Hp} {a : Addr} {xs : List V} {ds : List D} (h : Tp G a xs ds) : Rd G a (.tup xs) := by
  rcases h with ⟨_, h⟩ | ⟨_, o, h, _⟩
  · exact .inl h
  · exact .inr ⟨o, h⟩
theorem Tp.ext {G G' : Hp} {a : Addr} {xs : List V} {ds : List D} (h : Tp G a xs ds) (e1 : ∀ a xs, G a = some (.tup xs) → G' a = some (.tup xs)) (e2 : ∀ a o xs, G a = some (.frz o (.tup xs)) → G' a = some (.frz o (.tup xs))) : Tp G' a xs ds := by
  rcases h with ⟨f, h⟩ | ⟨f, o, h, d⟩
  · exact .inl ⟨f, e1 _ _ h⟩
  · exact .inr ⟨f, o, e2 _ _ _ h, d⟩
theorem rd_ext {G G' : Hp} {a : Addr} {xs : List V} (h : Rd G a (.tup xs)) (e1 : ∀ a xs, G a = some (.tup xs) → G' a = some (.tup xs)) (e2 : ∀ a o xs, G a = some (.frz o (.tup xs)) → G' a = some (.frz o (.tup xs))) : Rd G' a (.tup xs) := by
  rcases h with h | ⟨o, h⟩
  · exact .inl (e1 _ _ h)
  · exact .inr ⟨o, e2 _ _ _ h⟩

mutual
inductive Rep (K : PySem.W.Frag) (G : Hp) : V → D → Prop
  | non : Rep K G .non .non
  | bl (b : Bool) : Rep K G (.bl b) (.bl b)
  | int (i : Int) : Rep K G (.int i) (.int i)
  | str (x : Str) : Rep K G (.str x) (.str x)
  | tup {a : Addr} {xs : List V} {ds : List D} : Tp G a xs ds → RepL K G xs ds → Rep K G (.ref a) (.tup ds)
  | lst {a : Addr} {xs : List V} {ds : List D} : G a = some (.lst xs) → RepL K G xs ds → Rep K G (.ref a) (.lst ds)
  | scr {a : Addr} {ns : List Int} : SqL K G a (ns.map V.int) → Rep K G (.ref a) (.scr ns)
  | exn {a : Addr} : Rep K G (.ref a) (.exn a)
  | dK {a : Addr} {xs : List (Key × V)} {ds : List (Key × D)} : Rd G a (.dK xs) → RepK K G xs ds → Rep K G (.ref a) (.dK ds)
  | dT {a : Addr} {xs : List (List Key × V)} {ds : List (List Key × D)} : Rd G a (.dT xs) → RepT K G xs ds → Rep K G (.ref a) (.dT ds)
  | raw {a : Addr} {xs : List V} {ds : List D} : Rd G a (.tup xs) → RepL K G xs ds → Rep K G (.ref a) (.raw ds)
  | obj {a C dx : Addr} {c : Str} {xs : List (Str × V)} {fs : List (Str × D)} : PySem.W.nsIn K mainGlobals c = some (some (.ref C)) → G a = some (.ins C dx xs) → RepF K G xs fs → Rep K G (.ref a) (.obj c fs)
inductive RepL (K : PySem.W.Frag) (G : Hp) : List V → List D → Prop
  | nil : RepL K G [] []
  | cons {v : V} {vs : List V} {d : D} {ds : List D} : Rep K G v d → RepL K G vs ds → RepL K G (v :: vs) (d :: ds)
inductive RepK (K : PySem.W.Frag) (G : Hp) : List (Key × V) → List (Key × D) → Prop
  | nil : RepK K G [] []
  | cons {k : Key} {v : V} {vs : List (Key × V)} {d : D} {ds : List (Key × D)} : Rep K G v d → RepK K G vs ds → RepK K G ((k, v) :: vs) ((k, d) :: ds)
inductive RepT (K : PySem.W.Frag) (G : Hp) : List (List Key × V) → List (List Key × D) → Prop
  | nil : RepT K G [] []
  | cons {k : List Key} {v : V} {vs : List (List Key × V)} {d : D} {ds : List (List Key × D)} : Rep K G v d → RepT K G vs ds → RepT K G ((k, v) :: vs) ((k, d) :: ds)
inductive RepF (K : PySem.W.Frag) (G : Hp) : List (Str × V) → List (Str × D) → Prop
  | nil : RepF K G [] []
  | cons {k : Str} {v : V} {vs : List (Str × V)} {d : D} {ds : List (Str × D)} : Rep K G v d → RepF K G vs ds → RepF K G ((k, v) :: vs) ((k, d) :: ds)
end

/-- what G holds may be read in G' -/
structure Ext (K : PySem.W.Frag) (G G' : Hp) : Prop where
  tup : ∀ a xs, G a = some (.tup xs) → G' a = some (.tup xs)
  tupF : ∀ a o xs, G a = some (.frz o (.tup xs)) → G' a = some (.frz o (.tup xs))
  ins : ∀ a C dx xs, G a = some (.ins C dx xs) → G' a = some (.ins C dx xs)
  lst : ∀ a xs, G a = some (.lst xs) → G' a = some (.lst xs)
  scr : ∀ a xs, SqL K G a xs → SqL K G' a xs
  dK : ∀ a xs, Rd G a (.dK xs) → Rd G' a (.dK xs)
  dT : ∀ a xs, Rd G a (.dT xs) → Rd G' a (.dT xs)

mutual
theorem Rep.ext {K : PySem.W.Frag} {G G' : Hp} (e : Ext K G G') : ∀ {v : V} {d : D}, Rep K G v d → Rep K G' v d
  | _, _, .non => .non
  | _, _, .bl b => .bl b
  | _, _, .int i => .int i
  | _, _, .str x => .str x
  | _, _, .tup h r => .tup (h.ext e.tup e.tupF) (RepL.ext e r)
  | _, _, .lst h r => .lst (e.lst _ _ h) (RepL.ext e r)
  | _, _, .scr h => .scr (e.scr _ _ h)
  | _, _, .exn => .exn
  | _, _, .dK h r => .dK (e.dK _ _ h) (RepK.ext e r)
  | _, _, .dT h r => .dT (e.dT _ _ h) (RepT.ext e r)
  | _, _, .raw h r => .raw (rd_ext h e.tup e.tupF) (RepL.ext e r)
  | _, _, .obj h1 h2 r => .obj h1 (e.ins _ _ _ _ h2) (RepF.ext e r)
theorem RepL.ext {K : PySem.W.Frag} {G G' : Hp} (e : Ext K G G') : ∀ {v : List V} {d : List D}, RepL K G v d → RepL K G' v d
  | _, _, .nil => .nil
  | _, _, .cons h r => .cons (Rep.ext e h) (RepL.ext e r)
theorem RepK.ext {K : PySem.W.Frag} {G G' : Hp} (e : Ext K G G') : ∀ {v : List (Key × V)} {d : List (Key × D)}, RepK K G v d → RepK K G' v d
  | _, _, .nil => .nil
  | _, _, .cons h r => .cons (Rep.ext e h) (RepK.ext e r)
theorem RepT.ext {K : PySem.W.Frag} {G G' : Hp} (e : Ext K G G') : ∀ {v : List (List Key × V)} {d : List (List Key × D)}, RepT K G v d → RepT K G' v d
  | _, _, .nil => .nil
  | _, _, .cons h r => .cons (Rep.ext e h) (RepT.ext e r)
theorem RepF.ext {K : PySem.W.Frag} {G G' : Hp} (e : Ext K G G') : ∀ {v : List (Str × V)} {d : List (Str × D)}, RepF K G v d → RepF K G' v d
  | _, _, .nil => .nil
  | _, _, .cons h r => .cons (Rep.ext e h) (RepF.ext e r)
end

abbrev Ex (G H : Hp) : Prop := Same G H
theorem Ex.rd {G H : Hp} (e : Ex G H) {a : Addr} {u : HO} (h : Rd G a u) : Rd H a u := by
  rcases h with h | ⟨o, h⟩
  · exact .inl (e _ _ h)
  · exact .inr ⟨o, e _ _ h⟩
theorem Ex.ext {K : PySem.W.Frag} {G H : Hp} (e : Ex G H) : Ext K G H := ⟨fun _ _ h => e _ _ h, fun _ _ _ h => e _ _ h, fun _ _ _ _ h => e _ _ h, fun _ _ h => e _ _ h, fun _ _ h => Same.seq e h, fun _ _ h => e.rd h, fun _ _ h => e.rd h⟩
theorem Rep.mono {K : PySem.W.Frag} {G H : Hp} (e : Ex G H) {v : V} {d : D} (h : Rep K G v d) : Rep K H v d := h.ext e.ext
theorem RepL.mono {K : PySem.W.Frag} {G H : Hp} (e : Ex G H) {v : List V} {d : List D} (h : RepL K G v d) : RepL K H v d := h.ext e.ext
theorem RepK.mono {K : PySem.W.Frag} {G H : Hp} (e : Ex G H) {v : List (Key × V)} {d : List (Key × D)} (h : RepK K G v d) : RepK K H v d := h.ext e.ext
theorem RepT.mono {K : PySem.W.Frag} {G H : Hp} (e : Ex G H) {v : List (List Key × V)} {d : List (List Key × D)} (h : RepT K G v d) : RepT K H v d := h.ext e.ext
theorem RepF.mono {K : PySem.W.Frag} {G H : Hp} (e : Ex G H) {v : List (Str × V)} {d : List (Str × D)} (h : RepF K G v d) : RepF K H v d := h.ext e.ext
theorem RepL.length {K : PySem.W.Frag} {G : Hp} : ∀ {v : List V} {d : List D}, RepL K G v d → v.length = d.length
  | _, _, .nil => rfl
  | _, _, .cons _ r => by rw [List.length_cons, List.length_cons, RepL.length r]
theorem RepL.append {K : PySem.W.Frag} {G : Hp} : ∀ {v w : List V} {d e : List D}, RepL K G v d → RepL K G w e → RepL K G (v ++ w) (d ++ e)
  | _, _, _, _, .nil, h => h
  | _, _, _, _, .cons h r, q => .cons h (RepL.append r q)
theorem RepL.get {K : PySem.W.Frag} {G : Hp} : ∀ {v : List V} {d : List D} {i : Nat} {x : D}, RepL K G v d → d[i]? = some x → ∃ u, v[i]? = some u ∧ Rep K G u x
  | _, _, _, _, .nil, e => by simp at e
  | _, _, 0, _, .cons h _, e => by simp at e; subst e; exact ⟨_, rfl, h⟩
  | _, _, i + 1, x, .cons _ r, e => by
    obtain ⟨u, h1, h2⟩ := RepL.get (i := i) (x := x) r (by simpa using e)
    exact ⟨u, by simpa using h1, h2⟩
theorem RepL.getV {K : PySem.W.Frag} {G : Hp} : ∀ {v : List V} {d : List D} {i : Nat} {u : V}, RepL K G v d → v[i]? = some u → ∃ x, d[i]? = some x ∧ Rep K G u x
  | _, _, _, _, .nil, e => by simp at e
  | _, _, 0, _, .cons h _, e => by simp at e; subst e; exact ⟨_, rfl, h⟩
  | _, _, i + 1, x, .cons _ r, e => by
    obtain ⟨u, h1, h2⟩ := RepL.getV (i := i) (u := x) r (by simpa using e)
    exact ⟨u, by simpa using h1, h2⟩
theorem RepL.set {K : PySem.W.Frag} {G : Hp} {u : V} {x : D} (hx : Rep K G u x) : ∀ {v : List V} {d : List D} (i : Nat), RepL K G v d → RepL K G (v.set i u) (d.set i x)
  | _, _, _, .nil => .nil
  | _, _, 0, .cons _ r => .cons hx r
  | _, _, i + 1, .cons h r => .cons h (RepL.set hx i r)
theorem RepL.take {K : PySem.W.Frag} {G : Hp} : ∀ {v : List V} {d : List D} (i : Nat), RepL K G v d → RepL K G (v.take i) (d.take i)
  | _, _, 0, _ => .nil
  | _, _, _ + 1, .nil => .nil
  | _, _, i + 1, .cons h r => .cons h (RepL.take i r)
theorem RepL.drop {K : PySem.W.Frag} {G : Hp} : ∀ {v : List V} {d : List D} (i : Nat), RepL K G v d → RepL K G (v.drop i) (d.drop i)
  | _, _, 0, h => h
  | _, _, _ + 1, .nil => .nil
  | _, _, i + 1, .cons _ r => RepL.drop i r
theorem RepL.reverse {K : PySem.W.Frag} {G : Hp} : ∀ {v : List V} {d : List D}, RepL K G v d → RepL K G v.reverse d.reverse
  | _, _, .nil => .nil
  | _, _, .cons h r => by
    rw [List.reverse_cons, List.reverse_cons]
    exact RepL.append (RepL.reverse r) (.cons h .nil)
theorem RepL.dropLast {K : PySem.W.Frag} {G : Hp} {v : List V} {d : List D} (h : RepL K G v d) : RepL K G v.dropLast d.dropLast := by
  rw [List.dropLast_eq_take, List.dropLast_eq_take, h.length]
  exact h.take _
theorem RepL.ints {K : PySem.W.Frag} {G : Hp} : ∀ (ns : List Int), RepL K G (ns.map V.int) (ns.map D.int)
  | [] => .nil
  | n :: ns => .cons (.int n) (RepL.ints ns)
theorem RepL.ints_inv {K : PySem.W.Frag} {G : Hp} : ∀ {ns : List Int} {vs : List V}, RepL K G vs (ns.map D.int) → vs = ns.map V.int
  | [], _, .nil => rfl
  | n :: ns, _, .cons h r => by
    cases h
    rw [List.map_cons, RepL.ints_inv r]

/-! only scalars and tuples -/
mutual
def plain : D → Bool
  | .non => true | .bl _ => true | .int _ => true | .str _ => true
  | .tup ds => plainL ds
  | _ => false
def plainL : List D → Bool
  | [] => true
  | d :: ds => plain d && plainL ds
end
mutual
theorem Rep.plain {K : PySem.W.Frag} {G G' : Hp} (e : (∀ a xs, G a = some (.tup xs) → G' a = some (.tup xs)) ∧ ∀ a o xs, G a = some (.frz o (.tup xs)) → G' a = some (.frz o (.tup xs))) : ∀ {v : V} {d : D}, Rep K G v d → NT.plain d = true → Rep K G' v d
  | _, _, .non, _ => .non
  | _, _, .bl b, _ => .bl b
  | _, _, .int i, _ => .int i
  | _, _, .str x, _ => .str x
  | _, _, .tup h r, p => .tup (h.ext e.1 e.2) (RepL.plain e r (by simpa [NT.plain] using p))
  | _, _, .lst _ _, p => by simp [NT.plain] at p
  | _, _, .scr _, p => by simp [NT.plain] at p
  | _, _, .dK _ _, p => by simp [NT.plain] at p
  | _, _, .dT _ _, p => by simp [NT.plain] at p
  | _, _, .raw _ _, p => by simp [NT.plain] at p
  | _, _, .obj _ _ _, p => by simp [NT.plain] at p
theorem RepL.plain {K : PySem.W.Frag} {G G' : Hp} (e : (∀ a xs, G a = some (.tup xs) → G' a = some (.tup xs)) ∧ ∀ a o xs, G a = some (.frz o (.tup xs)) → G' a = some (.frz o (.tup xs))) : ∀ {v : List V} {d : List D}, RepL K G v d → plainL d = true → RepL K G' v d
  | _, _, .nil, _ => .nil
  | _, _, .cons h r, p => by
    simp [plainL] at p
    exact .cons (Rep.plain e h p.1) (RepL.plain e r p.2)
end

/-! slots and states -/
inductive Sl where
  | no | val (d : D) | own (d : D) | bor (d : D)
instance : Inhabited Sl := ⟨.no⟩
def Sl.mine : Sl → Option D
  | .own d => some d
  | .bor d => some d
  | _ => none

/-- an object that is owned: its children are in G -/
def Obj (K : PySem.W.Frag) (G H : Hp) (l : Addr) : D → Prop
  | .lst ds => ∃ xs, H l = some (.lst xs) ∧ RepL K G xs ds
  | .dK kvs => ∃ xs, H l = some (.dK xs) ∧ RepK K G xs kvs
  | .dT kvs => ∃ xs, H l = some (.dT xs) ∧ RepT K G xs kvs
  | .obj c fs => ∃ C dx xs, PySem.W.nsIn K mainGlobals c = some (some (.ref C)) ∧ H l = some (.ins C dx xs) ∧ RepF K G xs fs
  | _ => False
theorem Obj.mono {K : PySem.W.Frag} {G G' H H' : Hp} {l : Addr} {d : D} (e : Ext K G G') (h : Obj K G H l d) (hl : H' l = H l) : Obj K G' H' l d := by
  cases d with
  | lst ds => obtain ⟨xs, a, b⟩ := h; exact ⟨xs, hl.trans a, b.ext e⟩
  | dK ds => obtain ⟨xs, a, b⟩ := h; exact ⟨xs, hl.trans a, b.ext e⟩
  | dT ds => obtain ⟨xs, a, b⟩ := h; exact ⟨xs, hl.trans a, b.ext e⟩
  | obj c fs => obtain ⟨C, dx, xs, n, a, b⟩ := h; exact ⟨C, dx, xs, n, hl.trans a, b.ext e⟩
  | _ => exact h.elim
theorem Obj.some {K : PySem.W.Frag} {G H : Hp} {l : Addr} {d : D} (h : Obj K G H l d) : ∃ o, H l = .some o := by
  cases d with
  | lst ds => obtain ⟨xs, a, b⟩ := h; exact ⟨_, a⟩
  | dK ds => obtain ⟨xs, a, b⟩ := h; exact ⟨_, a⟩
  | dT ds => obtain ⟨xs, a, b⟩ := h; exact ⟨_, a⟩
  | obj c fs => obtain ⟨C, dx, xs, n, a, b⟩ := h; exact ⟨_, a⟩
  | _ => exact h.elim
theorem Obj.notFrz {K : PySem.W.Frag} {G H : Hp} {l : Addr} {d : D} (h : Obj K G H l d) (o : PySem.Obj) (u : HO) : H l ≠ .some (.frz o u) := by
  intro z
  cases d with
  | lst ds => obtain ⟨xs, a, b⟩ := h; rw [a] at z; cases z
  | dK ds => obtain ⟨xs, a, b⟩ := h; rw [a] at z; cases z
  | dT ds => obtain ⟨xs, a, b⟩ := h; rw [a] at z; cases z
  | obj c fs => obtain ⟨C, dx, xs, n, a, b⟩ := h; rw [a] at z; cases z
  | _ => exact h.elim
theorem Obj.notTup {K : PySem.W.Frag} {G H : Hp} {l : Addr} {d : D} (h : Obj K G H l d) (xs : List V) : H l ≠ .some (.tup xs) := by
  intro z
  cases d with
  | lst ds => obtain ⟨xs, a, b⟩ := h; rw [a] at z; cases z
  | dK ds => obtain ⟨xs, a, b⟩ := h; rw [a] at z; cases z
  | dT ds => obtain ⟨xs, a, b⟩ := h; rw [a] at z; cases z
  | obj c fs => obtain ⟨C, dx, xs, n, a, b⟩ := h; rw [a] at z; cases z
  | _ => exact h.elim
/-- as frozen -/
theorem Obj.rep {K : PySem.W.Frag} {G H : Hp} {l : Addr} {d : D} (h : Obj K G H l d) (hl : G l = Option.none) {o : HO} (ho : H l = .some o) : Rep K (upd G l o) (.ref l) d := by
  have e : Ex G (upd G l o) := fun b x q => by
    rw [upd_ne (ne_of_none q hl)]
    exact q
  cases d with
  | lst ds => obtain ⟨xs, a, b⟩ := h; rw [a] at ho; cases ho; exact .lst upd_same (b.mono e)
  | dK ds => obtain ⟨xs, a, b⟩ := h; rw [a] at ho; cases ho; exact .dK (.inl upd_same) (b.mono e)
  | dT ds => obtain ⟨xs, a, b⟩ := h; rw [a] at ho; cases ho; exact .dT (.inl upd_same) (b.mono e)
  | obj c fs => obtain ⟨C, dx, xs, n, a, b⟩ := h; rw [a] at ho; cases ho; exact .obj n upd_same (b.mono e)
  | _ => exact h.elim

structure Fm where
  H0 : Hp
  G0 : Hp
  B : List (Nat × Addr)

structure CS (K : PySem.W.Frag) (F : Fm) (G H : Hp) (σ : St) (ρ : List Sl) : Prop where
  ex : Ex G H
  g0 : Ex F.G0 G
  fr : ∀ b o, F.H0 b = some o → (∀ i, (i, b) ∉ F.B) → H b = some o
  gn : ∀ b, F.G0 b = none → G b ≠ none → F.H0 b = none
  len : σ.length = ρ.length
  vals : ∀ (i : Nat) d, ρ[i]? = some (.val d) → ∃ v, σ[i]? = some (some v) ∧ Rep K G v d
  owns : ∀ (i : Nat) d, ρ[i]? = some (.own d) → ∃ l, σ[i]? = some (some (.ref l)) ∧ Obj K G H l d ∧ G l = none ∧ F.H0 l = none
  bors : ∀ (i : Nat) d, ρ[i]? = some (.bor d) → ∃ l, σ[i]? = some (some (.ref l)) ∧ Obj K G H l d ∧ G l = none ∧ (i, l) ∈ F.B
  bb : ∀ (i : Nat) l, (i, l) ∈ F.B → ∃ d, ρ[i]? = some (.bor d) ∧ σ[i]? = some (some (.ref l))
  sep : ∀ (i j : Nat) (s t : Sl) (d e : D) (l : Addr), i ≠ j → ρ[i]? = some s → s.mine = some d → ρ[j]? = some t → t.mine = some e → σ[i]? = some (some (.ref l)) → σ[j]? ≠ some (some (.ref l))

section
variable {K : PySem.W.Frag} {F : Fm} {G H : Hp} {σ : St} {ρ : List Sl}
theorem CS.mine (c : CS K F G H σ ρ) {i : Nat} {s : Sl} {d : D} (h : ρ[i]? = some s) (hm : s.mine = some d) : ∃ l, σ[i]? = some (some (.ref l)) ∧ Obj K G H l d ∧ G l = none ∧ (F.H0 l = none ∨ (i, l) ∈ F.B) := by
  cases s with
  | own e =>
    cases hm
    obtain ⟨l, a, b, x, y⟩ := c.owns i _ h
    exact ⟨l, a, b, x, .inl y⟩
  | bor e =>
    cases hm
    obtain ⟨l, a, b, x, y⟩ := c.bors i _ h
    exact ⟨l, a, b, x, .inr y⟩
  | no => cases hm
  | val e => cases hm
/-- what was fresh at the entry or is new -/
theorem CS.fresh (c : CS K F G H σ ρ) {p : Addr} (h : H p = none) : F.H0 p = none ∧ G p = none ∧ F.G0 p = none := by
  have hg : G p = none := Same.free c.ex h
  refine ⟨?_, hg, Same.free c.g0 hg⟩
  cases q : F.H0 p with
  | none => rfl
  | some o =>
    by_cases hb : ∃ i, (i, p) ∈ F.B
    · obtain ⟨i, hi⟩ := hb
      obtain ⟨d, h1, h2⟩ := c.bb i p hi
      obtain ⟨l, h3, h4, _⟩ := c.bors i d h1
      rw [h2] at h3
      cases h3
      obtain ⟨o', e⟩ := h4.some
      rw [h] at e
      cases e
    · have := c.fr p o q fun i hi => hb ⟨i, hi⟩
      rw [h] at this
      cases this
theorem CS.notMine (c : CS K F G H σ ρ) {p : Addr} (h : H p = none) {i : Nat} {s : Sl} {d : D} (hi : ρ[i]? = some s) (hm : s.mine = some d) : σ[i]? ≠ some (some (.ref p)) := by
  intro z
  obtain ⟨l, h1, h2, _⟩ := c.mine hi hm
  rw [z] at h1
  cases h1
  obtain ⟨o, e⟩ := h2.some
  rw [h] at e
  cases e
/-- a new object, kept in the frozen part -/
theorem CS.alloc (c : CS K F G H σ ρ) {p : Addr} (h : H p = none) (o : HO) : CS K F (upd G p o) (upd H p o) σ ρ := by
  obtain ⟨h0, hg, hg0⟩ := c.fresh h
  have eG : Ex G (upd G p o) := fun b x e => by
    rw [upd_ne (ne_of_none e hg)]
    exact e
  have keep : ∀ {l d}, Obj K G H l d → G l = none → Obj K (upd G p o) (upd H p o) l d ∧ (upd G p o) l = none := fun {l d} ho hl => by
    obtain ⟨u, e⟩ := ho.some
    have ne : l ≠ p := ne_of_none e h
    exact ⟨ho.mono eG.ext (upd_ne ne), by rw [upd_ne ne]; exact hl⟩
  refine ⟨fun b x e => ?_, c.g0.trans eG, fun b x e hb => ?_, fun b e1 e2 => ?_, c.len, fun i d e => ?_, fun i d e => ?_, fun i d e => ?_, c.bb, c.sep⟩
  · by_cases hb : b = p
    · subst hb
      rw [upd_same] at e ⊢
      exact e
    · rw [upd_ne hb] at e ⊢
      exact c.ex _ _ e
  · have e1 := c.fr b x e hb
    rw [upd_ne (ne_of_none e1 h)]
    exact e1
  · by_cases hb : b = p
    · subst hb; exact h0
    · rw [upd_ne hb] at e2
      exact c.gn b e1 e2
  · obtain ⟨v, a, b⟩ := c.vals i d e
    exact ⟨v, a, b.mono eG⟩
  · obtain ⟨l, a, b, x, y⟩ := c.owns i d e
    obtain ⟨k1, k2⟩ := keep b x
    exact ⟨l, a, k1, k2, y⟩
  · obtain ⟨l, a, b, x, y⟩ := c.bors i d e
    obtain ⟨k1, k2⟩ := keep b x
    exact ⟨l, a, k1, k2, y⟩
/-- a new object that is not frozen -/
theorem CS.allocN (c : CS K F G H σ ρ) {p : Addr} (h : H p = none) (o : HO) : CS K F G (upd H p o) σ ρ := by
  obtain ⟨h0, hg, hg0⟩ := c.fresh h
  have keep : ∀ {l d}, Obj K G H l d → Obj K G (upd H p o) l d := fun {l d} ho => by
    obtain ⟨u, e⟩ := ho.some
    exact ho.mono (Ex.ext (Same.refl G)) (upd_ne (ne_of_none e h))
  refine ⟨fun b x e => ?_, c.g0, fun b x e hb => ?_, c.gn, c.len, c.vals, fun i d e => ?_, fun i d e => ?_, c.bb, c.sep⟩
  · rw [upd_ne (ne_of_none e hg)]
    exact c.ex _ _ e
  · have e1 := c.fr b x e hb
    rw [upd_ne (ne_of_none e1 h)]
    exact e1
  · obtain ⟨l, a, b, x, y⟩ := c.owns i d e
    exact ⟨l, a, keep b, x, y⟩
  · obtain ⟨l, a, b, x, y⟩ := c.bors i d e
    exact ⟨l, a, keep b, x, y⟩
end

/-! ### a new tuple, kept either way -/
def layT (xs : List V) (H : Hp) (Q : VK) : Prop := (∀ p, H p = none → Q (.ref p) (upd H p (.tup xs))) ∨ ∀ p (o : PySem.Obj), H p = none → o.dict = none → Q (.ref p) (upd H p (.frz o (.tup xs)))
section
variable {X : Cx}
theorem lay_ok {pins : List (Addr × PySem.Obj)} {σ : St} {H : Hp} {s : Shared} {xs : List V} {its : List Value} {Q : VK} {ob : PySem.Obj} {n : Nat} (I : Inv X pins σ H s) (hz : xs.length ≤ sizeLine) (r : Vals xs its) (hc : ob.cls = .type "tuple") (hd : ob.dict = none) (ha : ob.data = .seq its.toArray n) (q : layT xs H Q) (hf : ob.isFreed = false := by rfl) :
    EP X pins σ Q (.ref s.heap.objs.size) { s with heap := s.heap.push ob } := by
  have g0 : (s.heap.push ob).get? s.heap.objs.size = some ob := Heap.get?_push_size _ hf
  have it : PyProof.Rows.IsTup (s.heap.push ob) s.heap.objs.size its.toArray := ⟨ob, g0, hc, n, ha⟩
  rcases q with q | q
  · exact ⟨.ref s.heap.objs.size, _, I.laid (t' := s.toks) (o := .tup xs) (fun b _ e => Heap.get?_push_of_some _ e) (Nat.le_refl _) ⟨hz, its, r, it⟩, rfl, q _ (I.hok.fresh (Nat.le_refl _))⟩
  · exact ⟨.ref s.heap.objs.size, _, I.laid (t' := s.toks) (o := .frz ob (.tup xs)) (fun b _ e => Heap.get?_push_of_some _ e) (Nat.le_refl _) ⟨g0, hz, its, r, it⟩, rfl, q _ ob (I.hok.fresh (Nat.le_refl _)) hd⟩

/-- a written tuple -/
def tTupL (t : TA) : TE := fun σ H Q => t σ H fun xs H1 => xs.length ≤ sizeLine ∧ layT xs H1 Q
theorem pe_tupL {es : List Expr} {t : TA} {x1 : _} {pos : Pos} (h : PA X es t) : PE X (.Tuple es x1 pos) (tTupL t) := ⟨fun pins s σ H Q I hq => by
  refine wpAny_Tuple_spliced (thn (h.run pos pins s σ H _ I hq) ?_)
  rintro us s1 ⟨xs, H1, I1, r, z, q⟩
  exact ⟨by rw [← r.length]; exact z, lay_ok I1 z r rfl rfl rfl q⟩⟩
/-- tuple(xs) -/
theorem call_tupleL : CallR X (.type "tuple") (fun xs H Q => ∃ p ys, xs = [.ref p] ∧ ((SqL X.K H p ys ∧ layT ys H Q) ∨ (SqT X.K H p ys ∧ Q (.ref p) H))) := fun pins s σ H xs us Q I r h => by
  obtain ⟨p, ys, ex, h⟩ := h
  subst ex
  obtain ⟨u, eu, rx⟩ := vals1 r
  subst eu
  cases rx
  rcases h with ⟨hq, q⟩ | ⟨hq, q⟩
  · obtain ⟨its, rv, pl, hz⟩ := I.list hq
    have hn := rv.length
    refine call_tuple_list pl.isList (fun hh kp => ?_) (by rw [List.size_toArray]; omega)
    have J : Inv X pins σ H { s with heap := hh } := I.kept (t' := s.toks) kp
    exact lay_ok J hz rv rfl rfl rfl q
  · obtain ⟨its, rv, pl, hz⟩ := I.tuple hq
    exact call_tuple_same pl ⟨.ref p, H, I, rfl, q⟩
/-- t + u -/
def rCatL (K : PySem.W.Frag) : R2 := fun x y H Q => ∃ a b xs ys, (x = .ref a ∧ y = .ref b ∧ SqT K H a xs ∧ SqT K H b ys ∧ xs.length + ys.length ≤ sizeLine) ∧
  (xs = [] → Q (.ref b) H) ∧ (xs ≠ [] → ys = [] → Q (.ref a) H) ∧ (xs ≠ [] → ys ≠ [] → layT (xs ++ ys) H Q)
theorem op_catL : OpR X (binaryOp .Add) (rCatL X.K) := fun pins s σ H x y v u Q I rx ry h => by
  obtain ⟨a, b, xs, ys, ⟨ex, ey, ha, hb, hz⟩, q0, q1, q2⟩ := h
  subst ex ey
  cases rx
  cases ry
  obtain ⟨its, r1, p1, _⟩ := I.tuple ha
  obtain ⟨jts, r2, p2, _⟩ := I.tuple hb
  by_cases hx : xs = []
  · subst hx
    cases r1
    exact cat_tup0 p1 p2 ⟨.ref b, H, I, rfl, q0 rfl⟩
  · refine HT.cat_tup p1 p2 (fun z => hx (r1.nil_iff.mp z)) (fun z => ⟨.ref a, H, I, rfl, q1 hx (r2.nil_iff.mp z)⟩) (fun z => ?_) (by rw [← r1.length, ← r2.length]; exact hz)
    exact lay_ok I (by rw [List.length_append]; exact hz) (r1.append r2) rfl rfl rfl (q2 hx fun w => z (r2.nil_iff.mpr w))
/-- t[lo:hi] -/
def rSlL2 (K : PySem.W.Frag) : V → Option Int → Option Int → Hp → VK → Prop := fun x lo hi H Q => ∃ a xs, (x = .ref a ∧ SqT K H a xs) ∧
  (HT.sIx xs.length 0 lo = 0 ∧ HT.sIx xs.length xs.length hi = xs.length → Q (.ref a) H) ∧ (¬ (HT.sIx xs.length 0 lo = 0 ∧ HT.sIx xs.length xs.length hi = xs.length) → layT (cutV xs lo hi) H Q)
theorem sl_tupL : SlR X (rSlL2 X.K) := fun pins s σ H x v vl vu lo hi sl Q I rx hs pl pu h => by
  obtain ⟨a, xs, ⟨ex, hx⟩, q1, q2⟩ := h
  subst ex
  cases rx
  obtain ⟨its, r, ht, hz⟩ := I.tuple hx
  have hn : its.toArray.size = xs.length := (List.size_toArray).trans r.length.symm
  refine ⟨"tuple", _, PyProof.Rows.slot_tuple_getitem.lookup, ht.typeIs, ?_⟩
  by_cases hw : HT.sIx xs.length 0 lo = 0 ∧ HT.sIx xs.length xs.length hi = xs.length
  · exact getItem_tuple_whole ht hs pl pu (by rw [hn]; exact hw) ⟨.ref a, H, I, rfl, q1 hw⟩
  · refine HT.getItem_tuple_cut ht hs pl pu (by rw [hn]; exact hw) ?_ (by rw [hn]; exact hz)
    rw [hn]
    exact lay_ok I (Nat.le_trans (cutV_length xs lo hi) hz) ((r.drop _).take _) rfl rfl rfl (q2 hw)
end
end NT

set_option Elab.async false
set_option linter.all false
set_option maxRecDepth 100000
set_option maxHeartbeats 4000000
namespace NT
open PySem L2

/-! results -/
inductive R (α : Type) where
  | ok (a : α) (ρ : List Sl) | ex (c : Nat) (ρ : List Sl) | bad
abbrev M (α : Type) := List Sl → R α
def mpure {α : Type} (a : α) : M α := fun ρ => .ok a ρ
def mbind {α β : Type} (m : M α) (k : α → M β) : M β := fun ρ => match m ρ with
  | .ok a ρ' => k a ρ'
  | .ex c ρ' => .ex c ρ'
  | .bad => .bad
def lift {α : Type} (o : Option α) : M α := fun ρ => match o with
  | some a => .ok a ρ
  | none => .bad
def wpR {α : Type} (r : R α) (P : α → List Sl → Prop) (E : Nat → List Sl → Prop) : Prop := match r with
  | .ok a ρ => P a ρ
  | .ex c ρ => E c ρ
  | .bad => False
theorem wpR_bind {α β : Type} {m : M α} {k : α → M β} {ρ : List Sl} {P : β → List Sl → Prop} {E : Nat → List Sl → Prop} (h : wpR (mbind m k ρ) P E) : wpR (m ρ) (fun a ρ' => wpR (k a ρ') P E) E := by
  unfold mbind at h
  cases e : m ρ with
  | ok a ρ' => rw [e] at h; exact h
  | ex c ρ' => rw [e] at h; exact h
  | bad => rw [e] at h; exact h
theorem wpR.mono {α : Type} {r : R α} {P P' : α → List Sl → Prop} {E E' : Nat → List Sl → Prop} (h : wpR r P E) (hp : ∀ a ρ, P a ρ → P' a ρ) (he : ∀ c ρ, E c ρ → E' c ρ) : wpR r P' E' := by
  cases r with
  | ok a ρ => exact hp _ _ h
  | ex c ρ => exact he _ _ h
  | bad => exact h
theorem wpR_lift {α : Type} {o : Option α} {ρ : List Sl} {P : α → List Sl → Prop} {E : Nat → List Sl → Prop} (h : wpR (lift o ρ) P E) : ∃ a, o = some a ∧ P a ρ := by
  unfold lift at h
  cases o with
  | some a => exact ⟨a, rfl, h⟩
  | none => exact h.elim

/-- no slot is owned -/
def NoOwn (ρ : List Sl) : Prop := ∀ (i : Nat) s, ρ[i]? = some s → s.mine = none
def Inert {α : Type} (f : M α) : Prop := ∀ ρ, NoOwn ρ → ∀ a ρ', f ρ = .ok a ρ' → ρ' = ρ
theorem inert_pure {α : Type} {a : α} : Inert (mpure a) := fun ρ _ b ρ' h => by
  cases h; rfl
theorem inert_lift {α : Type} {o : Option α} : Inert (lift o) := fun ρ _ b ρ' h => by
  unfold lift at h
  cases o with
  | some a => cases h; rfl
  | none => cases h
theorem inert_bind {α β : Type} {m : M α} {k : α → M β} (hm : Inert m) (hk : ∀ a, Inert (k a)) : Inert (mbind m k) := fun ρ n b ρ' h => by
  unfold mbind at h
  cases e : m ρ with
  | ok a ρ1 =>
    rw [e] at h
    have e1 := hm ρ n a ρ1 e
    subst e1
    exact hk a ρ1 n b ρ' h
  | ex c ρ' => rw [e] at h; cases h
  | bad => rw [e] at h; cases h

/-! simulation -/
section
variable (K : PySem.W.Frag) (cls : Nat → Value) (W : WX)
def POk (F : Fm) (G : Hp) (σ : St) (Q : VK) : D → List Sl → Prop := fun d ρ' => ∀ v G' H', Ex G G' → CS K F G' H' σ ρ' → Rep K G' v d → Q v H'
def PEx (F : Fm) (G : Hp) (σ : St) : Nat → List Sl → Prop := fun c ρ' => ∀ G' H', Ex G G' → CS K F G' H' σ ρ' → W (cls c) none σ H'
/-- a fresh object -/
structure Fr (F : Fm) (G H : Hp) (σ : St) (ρ : List Sl) (l : Addr) (d : D) : Prop where
  obj : Obj K G H l d
  g : G l = none
  h0 : F.H0 l = none
  nm : ∀ (i : Nat) s e, ρ[i]? = some s → s.mine = some e → σ[i]? ≠ some (some (.ref l))
def PNw (F : Fm) (G : Hp) (σ : St) (Q : VK) : D → List Sl → Prop := fun d ρ' => ∀ l G' H', Ex G G' → CS K F G' H' σ ρ' → Fr K F G' H' σ ρ' l d → Q (.ref l) H'
def PTt (F : Fm) (G : Hp) (σ : St) (Q : Bool → Hp → Prop) : Bool → List Sl → Prop := fun b ρ' => ∀ G' H', Ex G G' → CS K F G' H' σ ρ' → Q b H'
def PAr (F : Fm) (G : Hp) (σ : St) (Q : List V → Hp → Prop) : List D → List Sl → Prop := fun ds ρ' => ∀ vs G' H', Ex G G' → CS K F G' H' σ ρ' → RepL K G' vs ds → Q vs H'

def SimE (te : TE) (f : M D) : Prop := ∀ F ρ σ G H, CS K F G H σ ρ → ∀ Q : VK, wpR (f ρ) (POk K F G σ Q) (PEx K cls W F G σ) → te σ H Q
def SimN (te : TE) (f : M D) : Prop := ∀ F ρ σ G H, CS K F G H σ ρ → ∀ Q : VK, wpR (f ρ) (PNw K F G σ Q) (PEx K cls W F G σ) → te σ H Q
def SimT (tt : TT) (f : M Bool) : Prop := ∀ F ρ σ G H, CS K F G H σ ρ → ∀ Q : Bool → Hp → Prop, wpR (f ρ) (PTt K F G σ Q) (PEx K cls W F G σ) → tt σ H Q
def SimA (ta : TA) (f : M (List D)) : Prop := ∀ F ρ σ G H, CS K F G H σ ρ → ∀ Q : List V → Hp → Prop, wpR (f ρ) (PAr K F G σ Q) (PEx K cls W F G σ) → ta σ H Q
end

section
variable {K : PySem.W.Frag} {cls : Nat → Value} {W : WX} {F : Fm} {G H : Hp} {σ : St} {ρ : List Sl}
theorem PEx.mono {G1 : Hp} (e : Ex G G1) {c : Nat} {ρ' : List Sl} (h : PEx K cls W F G σ c ρ') : PEx K cls W F G1 σ c ρ' := fun G' H' e1 c1 => h G' H' (e.trans e1) c1
theorem POk.mono {G1 : Hp} (e : Ex G G1) {Q : VK} {d : D} {ρ' : List Sl} (h : POk K F G σ Q d ρ') : POk K F G1 σ Q d ρ' := fun v G' H' e1 c1 r => h v G' H' (e.trans e1) c1 r
theorem PNw.mono {G1 : Hp} (e : Ex G G1) {Q : VK} {d : D} {ρ' : List Sl} (h : PNw K F G σ Q d ρ') : PNw K F G1 σ Q d ρ' := fun v G' H' e1 c1 r => h v G' H' (e.trans e1) c1 r
theorem PTt.mono {G1 : Hp} (e : Ex G G1) {Q : Bool → Hp → Prop} {d : Bool} {ρ' : List Sl} (h : PTt K F G σ Q d ρ') : PTt K F G1 σ Q d ρ' := fun G' H' e1 c1 => h G' H' (e.trans e1) c1
theorem PAr.mono {G1 : Hp} (e : Ex G G1) {Q : List V → Hp → Prop} {d : List D} {ρ' : List Sl} (h : PAr K F G σ Q d ρ') : PAr K F G1 σ Q d ρ' := fun v G' H' e1 c1 r => h v G' H' (e.trans e1) c1 r

/-- a fresh object is frozen -/
theorem CS.freeze (c : CS K F G H σ ρ) {l : Addr} {d : D} (f : Fr K F G H σ ρ l d) : ∃ o, H l = some o ∧ CS K F (upd G l o) H σ ρ ∧ Rep K (upd G l o) (.ref l) d ∧ Ex G (upd G l o) := by
  obtain ⟨o, e⟩ := f.obj.some
  have eG : Ex G (upd G l o) := fun b x q => by
    rw [upd_ne (ne_of_none q f.g)]
    exact q
  refine ⟨o, e, ?_, f.obj.rep f.g e, eG⟩
  have keep : ∀ {i : Nat} {s : Sl} {d : D} {l' : Addr}, ρ[i]? = some s → s.mine = some d → σ[i]? = some (some (.ref l')) → Obj K G H l' d → G l' = none → Obj K (upd G l o) H l' d ∧ (upd G l o) l' = none := fun {i s d l'} h1 h2 h3 h4 h5 => by
    have ne : l' ≠ l := fun z => f.nm i s d h1 h2 (z ▸ h3)
    exact ⟨h4.mono eG.ext rfl, by rw [upd_ne ne]; exact h5⟩
  refine ⟨fun b x q => ?_, c.g0.trans eG, c.fr, fun b e1 e2 => ?_, c.len, fun i d e => ?_, fun i d e => ?_, fun i d e => ?_, c.bb, c.sep⟩
  · by_cases hb : b = l
    · subst hb
      rw [upd_same] at q
      rw [← q]
      exact e
    · rw [upd_ne hb] at q
      exact c.ex _ _ q
  · by_cases hb : b = l
    · subst hb; exact f.h0
    · rw [upd_ne hb] at e2
      exact c.gn b e1 e2
  · obtain ⟨v, a, b⟩ := c.vals i d e
    exact ⟨v, a, b.mono eG⟩
  · obtain ⟨l', a, b, x, y⟩ := c.owns i d e
    obtain ⟨k1, k2⟩ := keep e rfl a b x
    exact ⟨l', a, k1, k2, y⟩
  · obtain ⟨l', a, b, x, y⟩ := c.bors i d e
    obtain ⟨k1, k2⟩ := keep e rfl a b x
    exact ⟨l', a, k1, k2, y⟩
theorem SimN.frz {te : TE} {f : M D} (h : SimN K cls W te f) : SimE K cls W te f := fun F ρ σ G H c Q w =>
  h F ρ σ G H c Q (w.mono (fun d ρ' p l G' H' e c' fr => by
    obtain ⟨o, ho, c2, r, e2⟩ := c'.freeze fr
    exact p _ _ _ (e.trans e2) c2 r) fun _ _ p => p)
theorem fr_new (c : CS K F G H σ ρ) {p : Addr} (h : H p = none) {o : HO} {d : D} (ho : Obj K G (upd H p o) p d) : CS K F G (upd H p o) σ ρ ∧ Fr K F G (upd H p o) σ ρ p d := by
  obtain ⟨h0, hg, hg0⟩ := c.fresh h
  exact ⟨c.allocN h o, ho, hg, h0, fun i s e h1 h2 => c.notMine h h1 h2⟩
end

/-! values -/
def Val1 (K : PySem.W.Frag) (r : V → Hp → VK → Prop) (g : D → Option D) : Prop := ∀ F G H σ ρ x d z, CS K F G H σ ρ → Rep K G x d → g d = some z → ∀ Q : VK, POk K F G σ Q z ρ → r x H Q
def Val2 (K : PySem.W.Frag) (r : R2) (g : D → D → Option D) : Prop := ∀ F G H σ ρ x y d e z, CS K F G H σ ρ → Rep K G x d → Rep K G y e → g d e = some z → ∀ Q : VK, POk K F G σ Q z ρ → r x y H Q
def ValA (K : PySem.W.Frag) (r : List V → Hp → VK → Prop) (g : List D → Option D) : Prop := ∀ F G H σ ρ xs ds z, CS K F G H σ ρ → RepL K G xs ds → g ds = some z → ∀ Q : VK, POk K F G σ Q z ρ → r xs H Q
def New2 (K : PySem.W.Frag) (r : R2) (g : D → D → Option D) : Prop := ∀ F G H σ ρ x y d e z, CS K F G H σ ρ → Rep K G x d → Rep K G y e → g d e = some z → ∀ Q : VK, PNw K F G σ Q z ρ → r x y H Q
def NewA (K : PySem.W.Frag) (r : List V → Hp → VK → Prop) (g : List D → Option D) : Prop := ∀ F G H σ ρ xs ds z, CS K F G H σ ρ → RepL K G xs ds → g ds = some z → ∀ Q : VK, PNw K F G σ Q z ρ → r xs H Q

/-- expressions -/
structure QE (X : Cx) (cls : Nat → Value) (W : WX) (e : Expr) (f : M D) : Prop where
  sim : ∃ t, PE X e t ∧ SimE X.K cls W t f
  inert : Inert f
structure QN (X : Cx) (cls : Nat → Value) (W : WX) (e : Expr) (f : M D) : Prop where
  sim : ∃ t, PE X e t ∧ SimN X.K cls W t f
  inert : Inert f
structure QT (X : Cx) (cls : Nat → Value) (W : WX) (e : Expr) (f : M Bool) : Prop where
  sim : ∃ t, PT X e t ∧ SimT X.K cls W t f
  inert : Inert f
structure QW (X : Cx) (cls : Nat → Value) (W : WX) (e : Expr) (f : M Bool) : Prop where
  sim : ∃ t, PW X e t ∧ SimT X.K cls W t f
  inert : Inert f
structure QA (X : Cx) (cls : Nat → Value) (W : WX) (es : List Expr) (f : M (List D)) : Prop where
  sim : ∃ t, PA X es t ∧ SimA X.K cls W t f
  inert : Inert f

section
variable {X : Cx} {cls : Nat → Value} {W : WX} {e a b : Expr} {es : List Expr} {f g : M D} {pos : Pos}
theorem QN.frz (h : QN X cls W e f) : QE X cls W e f := ⟨let ⟨t, p, s⟩ := h.sim; ⟨t, p, s.frz⟩, h.inert⟩

/-! ### the denotations -/
def eVar (i : Nat) : M D := fun ρ => match ρ[i]? with
  | some (.val d) => .ok d ρ
  | _ => .bad
def eC (d : D) : M D := mpure d
def eBin (op : D → D → Option D) (a b : M D) : M D := mbind a fun x => mbind b fun y => lift (op x y)
def eUn (op : D → Option D) (a : M D) : M D := mbind a fun x => lift (op x)
def aNil : M (List D) := mpure []
def aCons (a : M D) (r : M (List D)) : M (List D) := mbind a fun x => mbind r fun xs => mpure (x :: xs)
def eFn (op : List D → Option D) (a : M (List D)) : M D := mbind a fun xs => lift (op xs)
def eTup (a : M (List D)) : M D := mbind a fun xs => lift (if xs.length ≤ 100000 then some (.tup xs) else none)
def eLst (a : M (List D)) : M D := mbind a fun xs => lift (if xs.length ≤ 100000 then some (.lst xs) else none)

theorem sz_of {n : Nat} (h : n ≤ 100000) : n ≤ sizeLine := Nat.le_trans h (by decide)
theorem sz_lt {n : Nat} (h : n ≤ 100000) : n < sizeLine := Nat.lt_of_le_of_lt h (by decide)

/-! ### the rules -/
theorem q_var (i : Nat) {x : Str} (h : PE X (.Name x pos) (tVar i)) : QE X cls W (.Name x pos) (eVar i) := by
  refine ⟨⟨_, h, fun F ρ σ G H c Q w => ?_⟩, fun ρ _ a ρ' e => ?_⟩
  · unfold eVar at w
    split at w
    · rename_i d e
      obtain ⟨v, hv, r⟩ := c.vals i d e
      exact ⟨v, hv, w v G H (Same.refl G) c r⟩
    · exact w.elim
  · unfold eVar at e
    split at e
    · cases e; rfl
    · cases e
theorem q_c {e : Expr} {v : V} {d : D} (h : PE X e (tC v)) (r : ∀ G, Rep X.K G v d) : QE X cls W e (eC d) :=
  ⟨⟨_, h, fun F ρ σ G H c Q w => w v G H (Same.refl G) c (r G)⟩, inert_pure⟩
theorem q_int {i j : _} : QE X cls W (.Constant (.int i) j pos) (eC (.int i)) := q_c pe_int fun _ => .int i
theorem q_str {x j} : QE X cls W (.Constant (.str x) j pos) (eC (.str x)) := q_c pe_str fun _ => .str x
theorem q_bl {x j} : QE X cls W (.Constant (.bool x) j pos) (eC (.bl x)) := q_c pe_bl fun _ => .bl x
theorem q_non {j} : QE X cls W (.Constant .none j pos) (eC .non) := q_c pe_non fun _ => .non

theorem sim_bin {K : PySem.W.Frag} {ta tb : TE} {f g : M D} {r : R2} {op : D → D → Option D} (ha : SimE K cls W ta f) (hb : SimE K cls W tb g) (hr : Val2 K r op) : SimE K cls W (tOp r ta tb) (eBin op f g) := fun F ρ σ G H c Q w => by
  refine ha F ρ σ G H c _ ((wpR_bind w).mono (fun x ρ1 w1 v1 G1 H1 e1 c1 r1 => ?_) fun _ _ p => p)
  refine hb F ρ1 σ G1 H1 c1 _ ((wpR_bind w1).mono (fun y ρ2 w2 v2 G2 H2 e2 c2 r2 => ?_) fun _ _ p => p.mono e1)
  obtain ⟨z, ez, p⟩ := wpR_lift w2
  exact hr F G2 H2 σ ρ2 v1 v2 x y z c2 (r1.mono e2) r2 ez Q (p.mono (e1.trans e2))
theorem sim_binN {K : PySem.W.Frag} {ta tb : TE} {f g : M D} {r : R2} {op : D → D → Option D} (ha : SimE K cls W ta f) (hb : SimE K cls W tb g) (hr : New2 K r op) : SimN K cls W (tOp r ta tb) (eBin op f g) := fun F ρ σ G H c Q w => by
  refine ha F ρ σ G H c _ ((wpR_bind w).mono (fun x ρ1 w1 v1 G1 H1 e1 c1 r1 => ?_) fun _ _ p => p)
  refine hb F ρ1 σ G1 H1 c1 _ ((wpR_bind w1).mono (fun y ρ2 w2 v2 G2 H2 e2 c2 r2 => ?_) fun _ _ p => p.mono e1)
  obtain ⟨z, ez, p⟩ := wpR_lift w2
  exact hr F G2 H2 σ ρ2 v1 v2 x y z c2 (r1.mono e2) r2 ez Q (p.mono (e1.trans e2))
theorem inert_bin {op : D → D → Option D} {f g : M D} (hf : Inert f) (hg : Inert g) : Inert (eBin op f g) := inert_bind hf fun _ => inert_bind hg fun _ => inert_lift
theorem q_bin {op : Operator} {r : R2} {h : D → D → Option D} (ho : OpR X (binaryOp op) r) (hv : Val2 X.K r h) (ha : QE X cls W a f) (hb : QE X cls W b g) : QE X cls W (.BinOp a op b pos) (eBin h f g) := by
  obtain ⟨⟨ta, pa, sa⟩, ia⟩ := ha
  obtain ⟨⟨tb, pb, sb⟩, ib⟩ := hb
  exact ⟨⟨_, pe_op ho pa pb, sim_bin sa sb hv⟩, inert_bin ia ib⟩
theorem q_binN {op : Operator} {r : R2} {h : D → D → Option D} (ho : OpR X (binaryOp op) r) (hv : New2 X.K r h) (ha : QE X cls W a f) (hb : QE X cls W b g) : QN X cls W (.BinOp a op b pos) (eBin h f g) := by
  obtain ⟨⟨ta, pa, sa⟩, ia⟩ := ha
  obtain ⟨⟨tb, pb, sb⟩, ib⟩ := hb
  exact ⟨⟨_, pe_op ho pa pb, sim_binN sa sb hv⟩, inert_bin ia ib⟩
theorem q_cmp {op : CmpOp} {r : R2} {h : D → D → Option D} (ho : OpR X (compareOp op) r) (hv : Val2 X.K r h) (ha : QE X cls W a f) (hb : QE X cls W b g) (hm : behindInMarks op b = false) : QE X cls W (.Compare a [op] [b] pos) (eBin h f g) := by
  obtain ⟨⟨ta, pa, sa⟩, ia⟩ := ha
  obtain ⟨⟨tb, pb, sb⟩, ib⟩ := hb
  exact ⟨⟨_, pe_cmpR ho pa pb hm, sim_bin sa sb hv⟩, inert_bin ia ib⟩
theorem q_ix {r : R2} {h : D → D → Option D} (ho : IxR X r) (hv : Val2 X.K r h) (ha : QE X cls W a f) (hb : QE X cls W b g) (hs : PlainIx b) : QE X cls W (.Subscript a b pos) (eBin h f g) := by
  obtain ⟨⟨ta, pa, sa⟩, ia⟩ := ha
  obtain ⟨⟨tb, pb, sb⟩, ib⟩ := hb
  exact ⟨⟨_, pe_ix ho pa pb hs, sim_bin sa sb hv⟩, inert_bin ia ib⟩
theorem q_un {op : UnaryOp} {r : V → Hp → VK → Prop} {h : D → Option D} (ho : UnR X (unaryOp op) r) (hv : Val1 X.K r h) (ha : QE X cls W a f) : QE X cls W (.UnaryOp op a pos) (eUn h f) := by
  obtain ⟨⟨ta, pa, sa⟩, ia⟩ := ha
  refine ⟨⟨_, pe_un ho pa, fun F ρ σ G H c Q w => ?_⟩, inert_bind ia fun _ => inert_lift⟩
  refine sa F ρ σ G H c _ ((wpR_bind w).mono (fun x ρ1 w1 v1 G1 H1 e1 c1 r1 => ?_) fun _ _ p => p)
  obtain ⟨z, ez, p⟩ := wpR_lift w1
  exact hv F G1 H1 σ ρ1 v1 x z c1 r1 ez Q (p.mono e1)

/-! arguments -/
theorem qa_nil : QA X cls W [] aNil := ⟨⟨_, pa_nil, fun F ρ σ G H c Q w => w [] G H (Same.refl G) c .nil⟩, inert_pure⟩
theorem qa_cons {r : M (List D)} (ha : QE X cls W a f) (hr : QA X cls W es r) (hs : starEach (a :: es) X.env = (false, eval a X.env) :: starEach es X.env := by rfl) : QA X cls W (a :: es) (aCons f r) := by
  obtain ⟨⟨ta, pa, sa⟩, ia⟩ := ha
  obtain ⟨⟨tr, pr, sr⟩, ir⟩ := hr
  refine ⟨⟨_, pa_cons pa pr hs, fun F ρ σ G H c Q w => ?_⟩, inert_bind ia fun _ => inert_bind ir fun _ => inert_pure⟩
  refine sa F ρ σ G H c _ ((wpR_bind w).mono (fun x ρ1 w1 v1 G1 H1 e1 c1 r1 => ?_) fun _ _ p => p)
  refine sr F ρ1 σ G1 H1 c1 _ ((wpR_bind w1).mono (fun y ρ2 w2 v2 G2 H2 e2 c2 r2 => ?_) fun _ _ p => p.mono e1)
  exact w2 (v1 :: v2) G2 H2 (e1.trans e2) c2 (.cons (r1.mono e2) r2)
/-- a new tuple -/
theorem pok_lay {K : PySem.W.Frag} {F : Fm} {G H : Hp} {σ : St} {ρ : List Sl} {Q : VK} {ds : List D} {vs : List V} (c : CS K F G H σ ρ) (q : POk K F G σ Q (.tup ds) ρ) (r : RepL K G vs ds) : layT vs H Q := by
  cases hf : flat ds with
  | true =>
    refine .inl fun p hp => ?_
    have e2 : Ex G (upd G p (.tup vs)) := fun b x e => by
      rw [upd_ne (ne_of_none e (c.fresh hp).2.1)]
      exact e
    exact q _ _ _ e2 (c.alloc hp _) (.tup (.inl ⟨hf, upd_same⟩) (r.mono e2))
  | false =>
    refine .inr fun p o hp ho => ?_
    have e2 : Ex G (upd G p (.frz o (.tup vs))) := fun b x e => by
      rw [upd_ne (ne_of_none e (c.fresh hp).2.1)]
      exact e
    exact q _ _ _ e2 (c.alloc hp _) (.tup (.inr ⟨hf, o, upd_same, ho⟩) (r.mono e2))
theorem pok_flat {K : PySem.W.Frag} {F : Fm} {G H : Hp} {σ : St} {ρ : List Sl} {Q : VK} {ds : List D} {vs : List V} (hf : flat ds = true) (c : CS K F G H σ ρ) (q : POk K F G σ Q (.tup ds) ρ) (r : RepL K G vs ds) {p : Addr} (hp : H p = none) : Q (.ref p) (upd H p (.tup vs)) := by
  have e2 : Ex G (upd G p (.tup vs)) := fun b x e => by
    rw [upd_ne (ne_of_none e (c.fresh hp).2.1)]
    exact e
  exact q _ _ _ e2 (c.alloc hp _) (.tup (.inl ⟨hf, upd_same⟩) (r.mono e2))
theorem q_tup {r : M (List D)} {x1} (ha : QA X cls W es r) : QE X cls W (.Tuple es x1 pos) (eTup r) := by
  obtain ⟨⟨ta, pa, sa⟩, ia⟩ := ha
  refine ⟨⟨_, pe_tupL pa, fun F ρ σ G H c Q w => ?_⟩, inert_bind ia fun _ => inert_lift⟩
  refine sa F ρ σ G H c _ ((wpR_bind w).mono (fun xs ρ1 w1 v1 G1 H1 e1 c1 r1 => ?_) fun _ _ p => p)
  obtain ⟨z, ez, p⟩ := wpR_lift w1
  split at ez
  · rename_i hl
    cases ez
    exact ⟨by rw [r1.length]; exact sz_of hl, pok_lay c1 (p.mono e1) r1⟩
  · cases ez
theorem q_lst {r : M (List D)} (ha : QA X cls W es r) : QN X cls W (.List es pos) (eLst r) := by
  obtain ⟨⟨ta, pa, sa⟩, ia⟩ := ha
  refine ⟨⟨_, pe_lst pa, fun F ρ σ G H c Q w => ?_⟩, inert_bind ia fun _ => inert_lift⟩
  refine sa F ρ σ G H c _ ((wpR_bind w).mono (fun xs ρ1 w1 v1 G1 H1 e1 c1 r1 => ?_) fun _ _ p => p)
  obtain ⟨z, ez, p⟩ := wpR_lift w1
  split at ez
  · rename_i hl
    cases ez
    refine ⟨by rw [r1.length]; exact sz_of hl, fun q hq => ?_⟩
    obtain ⟨c2, f2⟩ := fr_new c1 hq (o := .lst v1) (d := .lst xs) ⟨v1, upd_same, r1⟩
    exact p _ _ _ e1 c2 f2
  · cases ez
/-- a call of a built-in: hp from pe_callB, pe_callTy -/
theorem q_fn {e' : Expr} {r : List V → Hp → VK → Prop} {h : List D → Option D} {fa : M (List D)} (hp : ∀ ta, PA X es ta → PE X e' (tCB r ta)) (hv : ValA X.K r h) (ha : QA X cls W es fa) : QE X cls W e' (eFn h fa) := by
  obtain ⟨⟨ta, pa, sa⟩, ia⟩ := ha
  refine ⟨⟨_, hp _ pa, fun F ρ σ G H c Q w => ?_⟩, inert_bind ia fun _ => inert_lift⟩
  refine sa F ρ σ G H c _ ((wpR_bind w).mono (fun xs ρ1 w1 v1 G1 H1 e1 c1 r1 => ?_) fun _ _ p => p)
  obtain ⟨z, ez, p⟩ := wpR_lift w1
  exact hv F G1 H1 σ ρ1 v1 xs z c1 r1 ez Q (p.mono e1)
theorem q_fnN {e' : Expr} {r : List V → Hp → VK → Prop} {h : List D → Option D} {fa : M (List D)} (hp : ∀ ta, PA X es ta → PE X e' (tCB r ta)) (hv : NewA X.K r h) (ha : QA X cls W es fa) : QN X cls W e' (eFn h fa) := by
  obtain ⟨⟨ta, pa, sa⟩, ia⟩ := ha
  refine ⟨⟨_, hp _ pa, fun F ρ σ G H c Q w => ?_⟩, inert_bind ia fun _ => inert_lift⟩
  refine sa F ρ σ G H c _ ((wpR_bind w).mono (fun xs ρ1 w1 v1 G1 H1 e1 c1 r1 => ?_) fun _ _ p => p)
  obtain ⟨z, ez, p⟩ := wpR_lift w1
  exact hv F G1 H1 σ ρ1 v1 xs z c1 r1 ez Q (p.mono e1)

/-! tests -/
def asB (d : D) : Option Bool := match d with | .bl b => some b | _ => none
def tVal (a : M D) : M Bool := mbind a fun x => lift (asB x)
def mAnd (a b : M Bool) : M Bool := mbind a fun x => if x then b else mpure false
def mOr (a b : M Bool) : M Bool := mbind a fun x => if x then mpure true else b
def mNot (a : M Bool) : M Bool := mbind a fun x => mpure (!x)
def eB (a : M Bool) : M D := mbind a fun x => mpure (.bl x)
theorem asB_some {d : D} {b : Bool} (h : asB d = some b) : d = .bl b := by
  cases d <;> first | (cases h; rfl) | cases h
theorem q_tval (ha : QE X cls W a f) (he : ∀ whole, isTrue a X.env whole = (do let v ← whole; standAt a.pos; holding [v] (truthy v)) := by intro _; rfl) : QT X cls W a (tVal f) := by
  obtain ⟨⟨ta, pa, sa⟩, ia⟩ := ha
  refine ⟨⟨_, pt_val pa he, fun F ρ σ G H c Q w => ?_⟩, inert_bind ia fun _ => inert_lift⟩
  refine sa F ρ σ G H c _ ((wpR_bind w).mono (fun x ρ1 w1 v1 G1 H1 e1 c1 r1 => ?_) fun _ _ p => p)
  obtain ⟨z, ez, p⟩ := wpR_lift w1
  have := asB_some ez
  subst this
  cases r1
  exact ⟨z, rfl, p _ _ e1 c1⟩
theorem q_tcmp {op : CmpOp} {r : R2} {h : D → D → Option D} (ho : OpR X (compareOp op) r) (hv : Val2 X.K r h) (ha : QE X cls W a f) (hb : QE X cls W b g) (hm : behindInMarks op b = false) : QT X cls W (.Compare a [op] [b] pos) (tVal (eBin h f g)) := by
  obtain ⟨⟨ta, pa, sa⟩, ia⟩ := ha
  obtain ⟨⟨tb, pb, sb⟩, ib⟩ := hb
  refine ⟨⟨_, pt_cmpR ho pa pb hm, fun F ρ σ G H c Q w => ?_⟩, inert_bind (inert_bin ia ib) fun _ => inert_lift⟩
  refine sim_bin sa sb hv F ρ σ G H c _ ((wpR_bind w).mono (fun x ρ1 w1 v1 G1 H1 e1 c1 r1 => ?_) fun _ _ p => p)
  obtain ⟨z, ez, p⟩ := wpR_lift w1
  have := asB_some ez
  subst this
  cases r1
  exact ⟨z, rfl, p _ _ e1 c1⟩
variable {tf tg : M Bool} {rest : List Expr}
theorem sim_and {K : PySem.W.Frag} {t u : TT} (ha : SimT K cls W t tf) (hb : SimT K cls W u tg) : SimT K cls W (tAnd t u) (mAnd tf tg) := fun F ρ σ G H c Q w => by
  refine ha F ρ σ G H c _ ((wpR_bind w).mono (fun x ρ1 w1 G1 H1 e1 c1 => ?_) fun _ _ p => p)
  cases x with
  | true =>
    show u σ H1 Q
    exact hb F ρ1 σ G1 H1 c1 Q (w1.mono (fun _ _ p => p.mono e1) fun _ _ p => p.mono e1)
  | false => exact w1 G1 H1 e1 c1
theorem sim_or {K : PySem.W.Frag} {t u : TT} (ha : SimT K cls W t tf) (hb : SimT K cls W u tg) : SimT K cls W (tOr t u) (mOr tf tg) := fun F ρ σ G H c Q w => by
  refine ha F ρ σ G H c _ ((wpR_bind w).mono (fun x ρ1 w1 G1 H1 e1 c1 => ?_) fun _ _ p => p)
  cases x with
  | false =>
    show u σ H1 Q
    exact hb F ρ1 σ G1 H1 c1 Q (w1.mono (fun _ _ p => p.mono e1) fun _ _ p => p.mono e1)
  | true => exact w1 G1 H1 e1 c1
theorem inert_and (h1 : Inert tf) (h2 : Inert tg) : Inert (mAnd tf tg) := inert_bind h1 fun x => by
  cases x
  · exact inert_pure
  · exact h2
theorem inert_or (h1 : Inert tf) (h2 : Inert tg) : Inert (mOr tf tg) := inert_bind h1 fun x => by
  cases x
  · exact h2
  · exact inert_pure
theorem QW.qt (h : QW X cls W e tf) : QT X cls W e tf := ⟨let ⟨t, p, s⟩ := h.sim; ⟨t, p.pt, s⟩, h.inert⟩
theorem qw_and1 (ha : QT X cls W a tf) : QW X cls W (.BoolOp .And [a] pos) tf := ⟨let ⟨t, p, s⟩ := ha.sim; ⟨t, pw_and1 p, s⟩, ha.inert⟩
theorem qw_or1 (ha : QT X cls W a tf) : QW X cls W (.BoolOp .Or [a] pos) tf := ⟨let ⟨t, p, s⟩ := ha.sim; ⟨t, pw_or1 p, s⟩, ha.inert⟩
theorem qw_and (ha : QT X cls W a tf) (hb : QW X cls W (.BoolOp .And (b :: rest) pos) tg) : QW X cls W (.BoolOp .And (a :: b :: rest) pos) (mAnd tf tg) :=
  ⟨let ⟨t, p, s⟩ := ha.sim; let ⟨u, q, z⟩ := hb.sim; ⟨_, pw_and p q, sim_and s z⟩, inert_and ha.inert hb.inert⟩
theorem qw_or (ha : QT X cls W a tf) (hb : QW X cls W (.BoolOp .Or (b :: rest) pos) tg) : QW X cls W (.BoolOp .Or (a :: b :: rest) pos) (mOr tf tg) :=
  ⟨let ⟨t, p, s⟩ := ha.sim; let ⟨u, q, z⟩ := hb.sim; ⟨_, pw_or p q, sim_or s z⟩, inert_or ha.inert hb.inert⟩
theorem q_tnot (ha : QT X cls W a tf) : QT X cls W (.UnaryOp .Not a pos) (mNot tf) := by
  obtain ⟨⟨t, p, s⟩, i⟩ := ha
  refine ⟨⟨_, pt_not p, fun F ρ σ G H c Q w => ?_⟩, inert_bind i fun _ => inert_pure⟩
  exact s F ρ σ G H c _ ((wpR_bind w).mono (fun x ρ1 w1 G1 H1 e1 c1 => w1 G1 H1 e1 c1) fun _ _ p => p)

/-! bools as values -/
theorem sim_eB {K : PySem.W.Frag} {te : TE} {f : M D} (h : SimE K cls W te f) : ∀ F ρ σ G H, CS K F G H σ ρ → ∀ Q : Bool → Hp → Prop, wpR (tVal f ρ) (PTt K F G σ Q) (PEx K cls W F G σ) → te σ H fun x H1 => ∃ c, x = .bl c ∧ Q c H1 := fun F ρ σ G H c Q w => by
  refine h F ρ σ G H c _ ((wpR_bind w).mono (fun x ρ1 w1 v1 G1 H1 e1 c1 r1 => ?_) fun _ _ p => p)
  obtain ⟨z, ez, p⟩ := wpR_lift w1
  have := asB_some ez
  subst this
  cases r1
  exact ⟨z, rfl, p _ _ e1 c1⟩
theorem q_one {op : BoolOp} (ha : QE X cls W a f) : QE X cls W (.BoolOp op [a] pos) f := ⟨let ⟨t, p, s⟩ := ha.sim; ⟨t, pe_one p, s⟩, ha.inert⟩
def eAnd (a b : M D) : M D := mbind (tVal a) fun x => if x then b else mpure (.bl false)
def eOr (a b : M D) : M D := mbind (tVal a) fun x => if x then mpure (.bl true) else b
def eNot (a : M D) : M D := mbind (tVal a) fun x => mpure (.bl (!x))
theorem inert_tval (h : Inert f) : Inert (tVal f) := inert_bind h fun _ => inert_lift
theorem q_and (ha : QE X cls W a f) (hb : QE X cls W (.BoolOp .And (b :: rest) pos) g) : QE X cls W (.BoolOp .And (a :: b :: rest) pos) (eAnd f g) := by
  obtain ⟨⟨ta, pa, sa⟩, ia⟩ := ha
  obtain ⟨⟨tb, pb, sb⟩, ib⟩ := hb
  refine ⟨⟨_, pe_and pa pb, fun F ρ σ G H c Q w => ?_⟩, inert_bind (inert_tval ia) fun x => by cases x; exact inert_pure; exact ib⟩
  refine sim_eB sa F ρ σ G H c (fun c H1 => if c = true then tb σ H1 Q else Q (.bl false) H1) ((wpR_bind w).mono (fun x ρ1 w1 G1 H1 e1 c1 => ?_) fun _ _ p => p)
  cases x with
  | true => exact sb F ρ1 σ G1 H1 c1 Q (w1.mono (fun _ _ p => p.mono e1) fun _ _ p => p.mono e1)
  | false => exact w1 _ G1 H1 e1 c1 (.bl false)
theorem q_or (ha : QE X cls W a f) (hb : QE X cls W (.BoolOp .Or (b :: rest) pos) g) : QE X cls W (.BoolOp .Or (a :: b :: rest) pos) (eOr f g) := by
  obtain ⟨⟨ta, pa, sa⟩, ia⟩ := ha
  obtain ⟨⟨tb, pb, sb⟩, ib⟩ := hb
  refine ⟨⟨_, pe_or pa pb, fun F ρ σ G H c Q w => ?_⟩, inert_bind (inert_tval ia) fun x => by cases x; exact ib; exact inert_pure⟩
  refine sim_eB sa F ρ σ G H c (fun c H1 => if c = true then Q (.bl true) H1 else tb σ H1 Q) ((wpR_bind w).mono (fun x ρ1 w1 G1 H1 e1 c1 => ?_) fun _ _ p => p)
  cases x with
  | false => exact sb F ρ1 σ G1 H1 c1 Q (w1.mono (fun _ _ p => p.mono e1) fun _ _ p => p.mono e1)
  | true => exact w1 _ G1 H1 e1 c1 (.bl true)
theorem q_not (ha : QE X cls W a f) : QE X cls W (.UnaryOp .Not a pos) (eNot f) := by
  obtain ⟨⟨ta, pa, sa⟩, ia⟩ := ha
  refine ⟨⟨_, pe_not pa, fun F ρ σ G H c Q w => ?_⟩, inert_bind (inert_tval ia) fun x => inert_pure⟩
  exact sim_eB sa F ρ σ G H c (fun c H1 => Q (.bl (!c)) H1) ((wpR_bind w).mono (fun x ρ1 w1 G1 H1 e1 c1 => w1 _ G1 H1 e1 c1 (.bl _)) fun _ _ p => p)
/-- a < b < c -/
def eChain (h h' : D → D → Option D) (a b c : M D) : M D := mbind a fun x => mbind b fun y => mbind (lift (h x y)) fun z => mbind (lift (asB z)) fun k => if k then mbind c fun u => lift (h' y u) else mpure (.bl false)
theorem q_chain {op op' : CmpOp} {r r' : R2} {h h' : D → D → Option D} {c : Expr} {k : M D} (ho : OpR X (compareOp op) r) (ho' : OpR X (compareOp op') r') (hv : Val2 X.K r h) (hv' : Val2 X.K r' h') (ha : QE X cls W a f) (hb : QE X cls W b g) (hc : QE X cls W c k) (hm : lastMarks [op, op'] [b, c] = false := by rfl) :
    QE X cls W (.Compare a [op, op'] [b, c] pos) (eChain h h' f g k) := by
  obtain ⟨⟨ta, pa, sa⟩, ia⟩ := ha
  obtain ⟨⟨tb, pb, sb⟩, ib⟩ := hb
  obtain ⟨⟨tc, pc, sc⟩, ic⟩ := hc
  refine ⟨⟨_, pe_chain ho ho' pa pb pc hm, fun F ρ σ G H c Q w => ?_⟩, inert_bind ia fun _ => inert_bind ib fun _ => inert_bind inert_lift fun _ => inert_bind inert_lift fun z => by cases z; exact inert_pure; exact inert_bind ic fun _ => inert_lift⟩
  refine sa F ρ σ G H c _ ((wpR_bind w).mono (fun x ρ1 w1 v1 G1 H1 e1 c1 r1 => ?_) fun _ _ p => p)
  refine sb F ρ1 σ G1 H1 c1 _ ((wpR_bind w1).mono (fun y ρ2 w2 v2 G2 H2 e2 c2 r2 => ?_) fun _ _ p => p.mono e1)
  obtain ⟨z, ez, p⟩ := wpR_lift (wpR_bind w2)
  obtain ⟨kk, ek, p⟩ := wpR_lift (wpR_bind p)
  have := asB_some ek
  subst this
  refine hv F G2 H2 σ ρ2 v1 v2 x y _ c2 (r1.mono e2) r2 ez _ fun v3 G3 H3 e3 c3 r3 => ?_
  cases r3
  refine ⟨kk, rfl, ?_⟩
  cases kk with
  | false => exact p _ G3 H3 ((e1.trans e2).trans e3) c3 (.bl false)
  | true =>
    have p : wpR (mbind k (fun u => lift (h' y u)) ρ2) (POk X.K F G σ Q) (PEx X.K cls W F G σ) := p
    refine sc F ρ2 σ G3 H3 c3 _ ((wpR_bind p).mono (fun u ρ4 w4 v4 G4 H4 e4 c4 r4 => ?_) fun _ _ p => p.mono ((e1.trans e2).trans e3))
    obtain ⟨q, eq, pp⟩ := wpR_lift w4
    exact hv' F G4 H4 σ ρ4 v2 v4 y u q c4 (r2.mono (e3.trans e4)) r4 eq Q (pp.mono (((e1.trans e2).trans e3).trans e4))
end
end NT

set_option Elab.async false
set_option linter.all false
set_option maxRecDepth 100000
set_option maxHeartbeats 4000000
namespace NT
open PySem L2

/-! ### states: storing, writing, protecting -/
section
variable {K : PySem.W.Frag} {F : Fm} {G H : Hp} {σ : St} {ρ : List Sl}
theorem get_set_cases {α : Type} {l : List α} {i j : Nat} {a b : α} (h : (l.set i a)[j]? = some b) : (i = j ∧ a = b ∧ i < l.length) ∨ (i ≠ j ∧ l[j]? = some b) := by
  by_cases e : i = j
  · subst e
    by_cases hl : i < l.length
    · rw [List.getElem?_set_self hl] at h
      exact .inl ⟨rfl, Option.some.inj h, hl⟩
    · rw [List.getElem?_eq_none (by simpa using hl)] at h
      cases h
  · rw [List.getElem?_set_ne e] at h
    exact .inr ⟨e, h⟩
def notBor : Option Sl → Bool
  | some (.bor _) => false
  | some _ => true
  | none => false
theorem notBor_some {s : Option Sl} (h : notBor s = true) : ∃ t, s = some t ∧ ∀ d, t ≠ .bor d := by
  cases s with
  | none => cases h
  | some t =>
    refine ⟨t, rfl, fun d e => ?_⟩
    subst e
    cases h
theorem CS.setAny (c : CS K F G H σ ρ) {i : Nat} (hb : notBor ρ[i]? = true) {v : V} {s : Sl}
    (hv : ∀ d, s = .val d → Rep K G v d) (ho : ∀ d, s = .own d → ∃ l, v = .ref l ∧ Fr K F G H σ ρ l d) (hbr : ∀ d, s ≠ .bor d) : CS K F G H (σ.set i (some v)) (ρ.set i s) := by
  obtain ⟨t, et, nb⟩ := notBor_some hb
  have hi : i < ρ.length := (List.getElem?_eq_some_iff.mp et).1
  have hi' : i < σ.length := by rw [c.len]; exact hi
  refine ⟨c.ex, c.g0, c.fr, c.gn, by simpa using c.len, fun j d e => ?_, fun j d e => ?_, fun j d e => ?_, fun j l e => ?_, fun j k s1 s2 d1 d2 l hjk e1 m1 e2 m2 v1 v2 => ?_⟩
  · rcases get_set_cases e with ⟨rfl, e1, _⟩ | ⟨ne, e1⟩
    · exact ⟨v, List.getElem?_set_self hi', hv d e1⟩
    · rw [List.getElem?_set_ne ne]
      exact c.vals j d e1
  · rcases get_set_cases e with ⟨rfl, e1, _⟩ | ⟨ne, e1⟩
    · obtain ⟨l, rfl, f⟩ := ho d e1
      exact ⟨l, List.getElem?_set_self hi', f.obj, f.g, f.h0⟩
    · rw [List.getElem?_set_ne ne]
      exact c.owns j d e1
  · rcases get_set_cases e with ⟨rfl, e1, _⟩ | ⟨ne, e1⟩
    · exact (hbr d e1).elim
    · rw [List.getElem?_set_ne ne]
      exact c.bors j d e1
  · obtain ⟨d, h1, h2⟩ := c.bb j l e
    have ne : i ≠ j := fun z => by
      subst z
      rw [et] at h1
      cases h1
      exact nb d rfl
    exact ⟨d, by rw [List.getElem?_set_ne ne]; exact h1, by rw [List.getElem?_set_ne ne]; exact h2⟩
  · rcases get_set_cases e1 with ⟨rfl, a1, _⟩ | ⟨n1, a1⟩
    · rcases get_set_cases e2 with ⟨rfl, a2, _⟩ | ⟨n2, a2⟩
      · exact hjk rfl
      · rw [List.getElem?_set_ne n2] at v2
        rw [List.getElem?_set_self hi'] at v1
        cases v1
        subst a1
        cases s with
        | own d =>
          obtain ⟨l', e', f⟩ := ho d rfl
          cases e'
          exact f.nm k s2 d2 a2 m2 v2
        | bor d => exact hbr d rfl
        | no => cases m1
        | val d => cases m1
    · rw [List.getElem?_set_ne n1] at v1
      rcases get_set_cases e2 with ⟨rfl, a2, _⟩ | ⟨n2, a2⟩
      · rw [List.getElem?_set_self hi'] at v2
        cases v2
        subst a2
        cases s with
        | own d =>
          obtain ⟨l', e', f⟩ := ho d rfl
          cases e'
          exact f.nm j s1 d1 a1 m1 v1
        | bor d => exact hbr d rfl
        | no => cases m2
        | val d => cases m2
      · rw [List.getElem?_set_ne n2] at v2
        exact c.sep j k s1 s2 d1 d2 l hjk a1 m1 a2 m2 v1 v2
theorem CS.setVal (c : CS K F G H σ ρ) {i : Nat} (hb : notBor ρ[i]? = true) {v : V} {d : D} (r : Rep K G v d) : CS K F G H (σ.set i (some v)) (ρ.set i (.val d)) :=
  c.setAny hb (fun e h => by cases h; exact r) (fun e h => by cases h) (fun e h => by cases h)
theorem CS.setOwn (c : CS K F G H σ ρ) {i : Nat} (hb : notBor ρ[i]? = true) {l : Addr} {d : D} (r : Fr K F G H σ ρ l d) : CS K F G H (σ.set i (some (.ref l))) (ρ.set i (.own d)) :=
  c.setAny hb (fun e h => by cases h) (fun e h => by cases h; exact ⟨l, rfl, r⟩) (fun e h => by cases h)

/-- an owned object with another content -/
def Sl.with : Sl → D → Sl
  | .own _, d => .own d
  | .bor _, d => .bor d
  | s, _ => s
theorem CS.write (c : CS K F G H σ ρ) {i : Nat} {s : Sl} {d d' : D} {l : Addr} {o : HO} (h : ρ[i]? = some s) (hm : s.mine = some d) (hl : σ[i]? = some (some (.ref l))) (ho : Obj K G (upd H l o) l d') : CS K F G (upd H l o) σ (ρ.set i (s.with d')) := by
  obtain ⟨l', e1, o1, g1, f1⟩ := c.mine h hm
  rw [hl] at e1
  cases e1
  have hi : i < ρ.length := (List.getElem?_eq_some_iff.mp h).1
  have other : ∀ {j : Nat} {t : Sl} {e : D} {k : Addr}, i ≠ j → ρ[j]? = some t → t.mine = some e → σ[j]? = some (some (.ref k)) → k ≠ l := fun {j t e k} ne h1 h2 h3 z => by
    subst z
    exact c.sep i j s t d e k ne h hm h1 h2 hl h3
  refine ⟨fun b x e => ?_, c.g0, fun b x e hb => ?_, c.gn, by simpa using c.len, fun j d e => ?_, fun j d e => ?_, fun j d e => ?_, fun j k e => ?_, fun j k s1 s2 d1 d2 l hjk e1 m1 e2 m2 v1 v2 => ?_⟩
  · rw [upd_ne (ne_of_none e g1)]
    exact c.ex _ _ e
  · have ne : b ≠ l := fun z => by
      subst z
      rcases f1 with z | z
      · rw [z] at e; cases e
      · exact hb _ z
    rw [upd_ne ne]
    exact c.fr b x e hb
  · rcases get_set_cases e with ⟨rfl, e1, _⟩ | ⟨ne, e1⟩
    · cases s with
      | own x => exact nomatch (show Sl.own d' = Sl.val d from e1)
      | bor x => exact nomatch (show Sl.bor d' = Sl.val d from e1)
      | no => cases hm
      | val x => cases hm
    · exact c.vals j d e1
  · rcases get_set_cases e with ⟨rfl, e1, _⟩ | ⟨ne, e1⟩
    · cases s with
      | own x =>
        cases e1
        obtain ⟨l2, a, b, x, y⟩ := c.owns i _ h
        rw [hl] at a
        cases a
        exact ⟨l, hl, ho, g1, y⟩
      | bor x => cases e1
      | no => cases hm
      | val x => cases hm
    · obtain ⟨l2, a, b, x, y⟩ := c.owns j d e1
      have ne2 : l2 ≠ l := other ne e1 rfl a
      exact ⟨l2, a, b.mono (Ex.ext (Same.refl G)) (upd_ne ne2), x, y⟩
  · rcases get_set_cases e with ⟨rfl, e1, _⟩ | ⟨ne, e1⟩
    · cases s with
      | bor x =>
        cases e1
        obtain ⟨l2, a, b, x, y⟩ := c.bors i _ h
        rw [hl] at a
        cases a
        exact ⟨l, hl, ho, g1, y⟩
      | own x => cases e1
      | no => cases hm
      | val x => cases hm
    · obtain ⟨l2, a, b, x, y⟩ := c.bors j d e1
      have ne2 : l2 ≠ l := other ne e1 rfl a
      exact ⟨l2, a, b.mono (Ex.ext (Same.refl G)) (upd_ne ne2), x, y⟩
  · obtain ⟨d1, h1, h2⟩ := c.bb j k e
    by_cases ne : i = j
    · subst ne
      rw [h] at h1
      cases h1
      exact ⟨d', by rw [List.getElem?_set_self hi]; rfl, h2⟩
    · exact ⟨d1, by rw [List.getElem?_set_ne ne]; exact h1, h2⟩
  · have back : ∀ {j : Nat} {t : Sl} {e : D}, (ρ.set i (s.with d'))[j]? = some t → t.mine = some e → ∃ t' e', ρ[j]? = some t' ∧ t'.mine = some e' := fun {j t e} h1 h2 => by
      rcases get_set_cases h1 with ⟨rfl, _, _⟩ | ⟨_, h1⟩
      · exact ⟨s, d, h, hm⟩
      · exact ⟨t, e, h1, h2⟩
    obtain ⟨t1, x1, a1, b1⟩ := back e1 m1
    obtain ⟨t2, x2, a2, b2⟩ := back e2 m2
    exact c.sep j k t1 t2 x1 x2 l hjk a1 b1 a2 b2 v1 v2

/-- an object that no slot has is kept as it is -/
def Fm.with (F : Fm) (p : Addr) (o : HO) : Fm := ⟨upd F.H0 p o, F.G0, F.B⟩
theorem CS.protect (c : CS K F G H σ ρ) {p : Addr} {o : HO} (hp : H p = some o) (hg : G p = none) (hn : ∀ (i : Nat) s e, ρ[i]? = some s → s.mine = some e → σ[i]? ≠ some (some (.ref p))) : CS K (F.with p o) G H σ ρ := by
  refine ⟨c.ex, c.g0, fun b x e hb => ?_, fun b e1 e2 => ?_, c.len, c.vals, fun i d e => ?_, c.bors, c.bb, c.sep⟩
  · by_cases z : b = p
    · subst z
      have e : upd F.H0 b o b = some x := e
      rw [upd_same] at e
      rw [← e]
      exact hp
    · have e : upd F.H0 p o b = some x := e
      rw [upd_ne z] at e
      exact c.fr b x e hb
  · show upd F.H0 p o b = none
    have z : b ≠ p := fun z => by
      subst z
      exact e2 hg
    rw [upd_ne z]
    exact c.gn b e1 e2
  · obtain ⟨l, a, b, x, y⟩ := c.owns i d e
    refine ⟨l, a, b, x, ?_⟩
    show upd F.H0 p o l = none
    have z : l ≠ p := fun z => by
      subst z
      exact hn i _ d e rfl a
    rw [upd_ne z]
    exact y
theorem CS.unprotect {p : Addr} {o : HO} (c : CS K (F.with p o) G H σ ρ) (h0 : F.H0 p = none) (hg0 : F.G0 p = none) (hb : ∀ i, (i, p) ∉ F.B) : CS K F G H σ ρ ∧ H p = some o ∧ G p = none ∧ ∀ (i : Nat) s e, ρ[i]? = some s → s.mine = some e → σ[i]? ≠ some (some (.ref p)) := by
  have hH : H p = some o := c.fr p o (show upd F.H0 p o p = some o from upd_same) hb
  have hG : G p = none := by
    cases q : G p with
    | none => rfl
    | some x =>
      have z := c.gn p hg0 (by rw [q]; exact fun z => by cases z)
      have z : upd F.H0 p o p = none := z
      rw [upd_same] at z
      cases z
  refine ⟨⟨c.ex, c.g0, fun b x e hb => ?_, fun b e1 e2 => ?_, c.len, c.vals, fun i d e => ?_, c.bors, c.bb, c.sep⟩, hH, hG, fun i s e h1 h2 h3 => ?_⟩
  · have ne : b ≠ p := ne_of_none e h0
    exact c.fr b x (show upd F.H0 p o b = some x by rw [upd_ne ne]; exact e) hb
  · have ne : b ≠ p := fun z => by
      subst z
      exact e2 hG
    have z := c.gn b e1 e2
    have z : upd F.H0 p o b = none := z
    rw [upd_ne ne] at z
    exact z
  · obtain ⟨l, a, b, x, y⟩ := c.owns i d e
    have y : upd F.H0 p o l = none := y
    have ne : l ≠ p := fun z => by
      subst z
      rw [upd_same] at y
      cases y
    rw [upd_ne ne] at y
    exact ⟨l, a, b, x, y⟩
  · cases s with
    | own d =>
      obtain ⟨l, a, b, x, y⟩ := c.owns i d h1
      rw [h3] at a
      cases a
      have y : upd F.H0 p o p = none := y
      rw [upd_same] at y
      cases y
    | bor d =>
      obtain ⟨l, a, b, x, y⟩ := c.bors i d h1
      rw [h3] at a
      cases a
      exact hb i y
    | no => cases h2
    | val d => cases h2
end

/-! ### statements -/
inductive O where
  | nx (ρ : List Sl) | rt (d : D) (ρ : List Sl) | rtN (d : D) (ρ : List Sl) | ex (c : Nat) (ρ : List Sl) | bad
abbrev MS := List Sl → O
def PO (K : PySem.W.Frag) (cls : Nat → Value) (W : WX) (F : Fm) (G : Hp) (E : Ends) : O → Prop
  | .nx ρ' => ∀ σ' G' H', Ex G G' → CS K F G' H' σ' ρ' → E.nx σ' H'
  | .rt d ρ' => ∀ v σ' G' H', Ex G G' → CS K F G' H' σ' ρ' → Rep K G' v d → E.rt v H'
  | .rtN d ρ' => ∀ l σ' G' H', Ex G G' → CS K F G' H' σ' ρ' → Fr K F G' H' σ' ρ' l d → E.rt (.ref l) H'
  | .ex c ρ' => ∀ σ' G' H', Ex G G' → CS K F G' H' σ' ρ' → W (cls c) none σ' H'
  | .bad => False
def SimS (K : PySem.W.Frag) (cls : Nat → Value) (W : WX) (t : TS) (f : MS) : Prop := ∀ F ρ σ G H, CS K F G H σ ρ → ∀ E : Ends, PO K cls W F G E (f ρ) → t E σ H
theorem PO.mono {K : PySem.W.Frag} {cls : Nat → Value} {W : WX} {F : Fm} {G G1 : Hp} {E : Ends} (e : Ex G G1) {o : O} (h : PO K cls W F G E o) : PO K cls W F G1 E o := by
  cases o with
  | nx ρ => exact fun σ' G' H' e1 c => h σ' G' H' (e.trans e1) c
  | rt d ρ => exact fun v σ' G' H' e1 c r => h v σ' G' H' (e.trans e1) c r
  | rtN d ρ => exact fun v σ' G' H' e1 c r => h v σ' G' H' (e.trans e1) c r
  | ex c ρ => exact fun σ' G' H' e1 c => h σ' G' H' (e.trans e1) c
  | bad => exact h
/-- another next -/
theorem PO.ends {K : PySem.W.Frag} {cls : Nat → Value} {W : WX} {F : Fm} {G : Hp} {E E' : Ends} {o : O} (h : PO K cls W F G E o) (hr : E'.rt = E.rt) (hn : ∀ ρ', o = .nx ρ' → ∀ σ' G' H', Ex G G' → CS K F G' H' σ' ρ' → E'.nx σ' H') : PO K cls W F G E' o := by
  cases o with
  | nx ρ => exact hn ρ rfl
  | rt d ρ => show ∀ v σ' G' H', _ → _ → _ → E'.rt v H'; rw [hr]; exact h
  | rtN d ρ => show ∀ v σ' G' H', _ → _ → _ → E'.rt (.ref v) H'; rw [hr]; exact h
  | ex c ρ => exact h
  | bad => exact h
structure QS (X : Cx) (cls : Nat → Value) (W : WX) (st : Stmt) (f : MS) : Prop where
  sim : ∃ t, PS X st t ∧ SimS X.K cls W t f
structure QB (X : Cx) (cls : Nat → Value) (W : WX) (st : List Stmt) (f : MS) : Prop where
  sim : ∃ t, PSs X st t ∧ SimS X.K cls W t f

def sSkip : MS := fun ρ => .nx ρ
def sSeq (f g : MS) : MS := fun ρ => match f ρ with
  | .nx ρ' => g ρ'
  | o => o
/-- behind an expression -/
def sDo {α : Type} (f : M α) (k : α → MS) : MS := fun ρ => match f ρ with
  | .ok a ρ' => k a ρ'
  | .ex c ρ' => .ex c ρ'
  | .bad => .bad
def put (i : Nat) (s : Sl) : MS := fun ρ => if notBor ρ[i]? then .nx (ρ.set i s) else .bad
def sSet (i : Nat) (f : M D) : MS := sDo f fun d => put i (.val d)
def sSetN (i : Nat) (f : M D) : MS := sDo f fun d => put i (.own d)
def sRet (f : M D) : MS := sDo f fun d => fun ρ => .rt d ρ
def sRetN (f : M D) : MS := sDo f fun d => fun ρ => .rtN d ρ
def sExpr (f : M D) : MS := sDo f fun _ => sSkip
def sIf (c : M Bool) (f g : MS) : MS := sDo c fun b => if b then f else g
/-- return of an owned slot -/
def sRetO (i : Nat) : MS := fun ρ => match ρ[i]? with
  | some (.own d) => .rtN d (ρ.set i .no)
  | _ => .bad
/-- an owned slot is frozen -/
def sFz (i : Nat) : MS := fun ρ => match ρ[i]? with
  | some (.own d) => .nx (ρ.set i (.val d))
  | some (.val d) => .nx ρ
  | _ => .bad

section
variable {X : Cx} {cls : Nat → Value} {W : WX} {e a b : Expr} {es : List Expr} {f g : M D} {pos : Pos} {sf sg : MS} {st : Stmt} {sts : List Stmt}
theorem sim_seq {K : PySem.W.Frag} {t u : TS} (ha : SimS K cls W t sf) (hb : SimS K cls W u sg) : SimS K cls W (tSeq t u) (sSeq sf sg) := fun F ρ σ G H c E w => by
  refine ha F ρ σ G H c { E with nx := u E } ?_
  unfold sSeq at w
  cases q : sf ρ with
  | nx ρ' =>
    rw [q] at w
    exact fun σ' G' H' e1 c1 => hb F ρ' σ' G' H' c1 E (w.mono e1)
  | rt d ρ' => rw [q] at w; exact w
  | rtN d ρ' => rw [q] at w; exact w
  | ex c ρ' => rw [q] at w; exact w
  | bad => rw [q] at w; exact w
theorem sDo_wp {K : PySem.W.Frag} {F : Fm} {G : Hp} {σ : St} {E : Ends} {α : Type} {f : M α} {k : α → MS} {ρ : List Sl} {P : α → List Sl → Prop} (w : PO K cls W F G E (sDo f k ρ)) (h : ∀ a ρ', PO K cls W F G E (k a ρ') → P a ρ') : wpR (f ρ) P (PEx K cls W F G σ) := by
  unfold sDo at w
  cases q : f ρ with
  | ok a ρ' => rw [q] at w; exact h a ρ' w
  | ex c ρ' => rw [q] at w; exact fun G' H' e c => w σ G' H' e c
  | bad => rw [q] at w; exact w
theorem qb_nil : QB X cls W [] sSkip := ⟨⟨_, pss_nil, fun F ρ σ G H c E w => w σ G H (Same.refl G) c⟩⟩
theorem qb_one (h : QS X cls W st sf) : QB X cls W [st] sf := ⟨let ⟨t, p, s⟩ := h.sim; ⟨t, pss_one p, s⟩⟩
theorem qb_cons (h : QS X cls W st sf) (r : QB X cls W sts sg) : QB X cls W (st :: sts) (sSeq sf sg) := ⟨let ⟨t, p, s⟩ := h.sim; let ⟨u, q, z⟩ := r.sim; ⟨_, pss_cons p q, sim_seq s z⟩⟩
theorem put_ok {i : Nat} {s : Sl} {ρ : List Sl} {K : PySem.W.Frag} {F : Fm} {G : Hp} {E : Ends} (h : PO K cls W F G E (put i s ρ)) : notBor ρ[i]? = true ∧ ∀ σ' G' H', Ex G G' → CS K F G' H' σ' (ρ.set i s) → E.nx σ' H' := by
  unfold put at h
  split at h
  · rename_i hb
    exact ⟨hb, h⟩
  · exact h.elim
theorem sim_set {K : PySem.W.Frag} {te : TE} {i : Nat} (ha : SimE K cls W te f) : SimS K cls W (tAsg te (gName i)) (sSet i f) := fun F ρ σ G H c E w =>
  ha F ρ σ G H c _ (sDo_wp w fun d ρ' p v G1 H1 e1 c1 r1 => by
    obtain ⟨hb, q⟩ := put_ok p
    exact q _ _ _ e1 (c1.setVal hb r1))
theorem sim_setN {K : PySem.W.Frag} {te : TE} {i : Nat} (ha : SimN K cls W te f) : SimS K cls W (tAsg te (gName i)) (sSetN i f) := fun F ρ σ G H c E w =>
  ha F ρ σ G H c _ (sDo_wp w fun d ρ' p v G1 H1 e1 c1 r1 => by
    obtain ⟨hb, q⟩ := put_ok p
    exact q _ _ _ e1 (c1.setOwn hb r1))
/-- x = e: hp from ps_set -/
theorem q_set (i : Nat) (hp : ∀ te, PE X e te → PS X st (tAsg te (gName i))) (ha : QE X cls W e f) : QS X cls W st (sSet i f) := ⟨let ⟨t, p, s⟩ := ha.sim; ⟨_, hp t p, sim_set s⟩⟩
theorem q_setN (i : Nat) (hp : ∀ te, PE X e te → PS X st (tAsg te (gName i))) (ha : QN X cls W e f) : QS X cls W st (sSetN i f) := ⟨let ⟨t, p, s⟩ := ha.sim; ⟨_, hp t p, sim_setN s⟩⟩
theorem q_ret (ha : QE X cls W e f) : QS X cls W (.Return (some e) pos) (sRet f) := by
  obtain ⟨⟨t, p, s⟩, _⟩ := ha
  exact ⟨⟨_, ps_ret p, fun F ρ σ G H c E w => s F ρ σ G H c _ (sDo_wp w fun d ρ' p v G1 H1 e1 c1 r1 => p v σ G1 H1 e1 c1 r1)⟩⟩
theorem q_retN (ha : QN X cls W e f) : QS X cls W (.Return (some e) pos) (sRetN f) := by
  obtain ⟨⟨t, p, s⟩, _⟩ := ha
  exact ⟨⟨_, ps_ret p, fun F ρ σ G H c E w => s F ρ σ G H c _ (sDo_wp w fun d ρ' p v G1 H1 e1 c1 r1 => p v σ G1 H1 e1 c1 r1)⟩⟩
theorem q_expr (ha : QE X cls W e f) (hs : swapsWith e none pos.line X.env = pure false := by rfl) : QS X cls W (.Expr e pos) (sExpr f) := by
  obtain ⟨⟨t, p, s⟩, _⟩ := ha
  exact ⟨⟨_, ps_expr p hs, fun F ρ σ G H c E w => s F ρ σ G H c _ (sDo_wp w fun d ρ' p v G1 H1 e1 c1 r1 => p σ G1 H1 e1 c1)⟩⟩
theorem q_if {c : Expr} {cf : M Bool} {s1 s2 : List Stmt} (hc : QT X cls W c cf) (h1 : QB X cls W s1 sf) (h2 : QB X cls W s2 sg) : QS X cls W (.If c s1 s2 pos) (sIf cf sf sg) := by
  obtain ⟨⟨t, p, s⟩, _⟩ := hc
  obtain ⟨⟨t1, p1, m1⟩⟩ := h1
  obtain ⟨⟨t2, p2, m2⟩⟩ := h2
  refine ⟨⟨_, ps_if p p1 p2, fun F ρ σ G H c E w => s F ρ σ G H c _ (sDo_wp w fun b ρ' q G1 H1 e1 c1 => ?_)⟩⟩
  cases b with
  | true => exact m1 F ρ' σ G1 H1 c1 E (q.mono e1)
  | false => exact m2 F ρ' σ G1 H1 c1 E (q.mono e1)
/-- the owned slot leaves -/
theorem CS.drop {K : PySem.W.Frag} {F : Fm} {G H : Hp} {σ : St} {ρ : List Sl} (c : CS K F G H σ ρ) {i : Nat} {d : D} (h : ρ[i]? = some (.own d)) : ∃ l, σ[i]? = some (some (.ref l)) ∧ CS K F G H σ (ρ.set i .no) ∧ Fr K F G H σ (ρ.set i .no) l d := by
  obtain ⟨l, a, b, x, y⟩ := c.owns i d h
  have old : ∀ {j : Nat} {s : Sl} {e : D}, (ρ.set i .no)[j]? = some s → s.mine = some e → i ≠ j ∧ ρ[j]? = some s := fun {j s e} h1 h2 => by
    rcases get_set_cases h1 with ⟨_, z, _⟩ | z
    · subst z; cases h2
    · exact z
  refine ⟨l, a, ⟨c.ex, c.g0, c.fr, c.gn, by simpa using c.len, fun j d e => ?_, fun j d e => ?_, fun j d e => ?_, fun j l e => ?_, fun j k s1 s2 d1 d2 l hjk e1 m1 e2 m2 v1 v2 => ?_⟩, b, x, y, fun j s e h1 h2 h3 => ?_⟩
  · rcases get_set_cases e with ⟨_, z, _⟩ | ⟨_, z⟩
    · cases z
    · exact c.vals j d z
  · exact c.owns j d (old e rfl).2
  · exact c.bors j d (old e rfl).2
  · obtain ⟨d1, h1, h2⟩ := c.bb j l e
    have ne : i ≠ j := fun z => by
      subst z
      rw [h] at h1
      cases h1
    exact ⟨d1, by rw [List.getElem?_set_ne ne]; exact h1, h2⟩
  · exact c.sep j k s1 s2 d1 d2 l hjk (old e1 m1).2 m1 (old e2 m2).2 m2 v1 v2
  · obtain ⟨ne, h1⟩ := old h1 h2
    exact c.sep i j _ s d e l ne h rfl h1 h2 a h3
theorem q_retO (i : Nat) {x : Str} {p : Pos} (h : PE X (.Name x p) (tVar i)) : QS X cls W (.Return (some (.Name x p)) pos) (sRetO i) := by
  refine ⟨⟨_, ps_ret h, fun F ρ σ G H c E w => ?_⟩⟩
  unfold sRetO at w
  split at w
  · rename_i d e
    obtain ⟨l, a, c2, f⟩ := c.drop e
    exact ⟨.ref l, a, w l σ G H (Same.refl G) c2 f⟩
  · exact w.elim
theorem sim_fz {K : PySem.W.Frag} {t : TS} {i : Nat} (h : SimS K cls W t sf) : SimS K cls W t (sSeq (sFz i) sf) := fun F ρ σ G H c E w => by
  unfold sSeq sFz at w
  cases q : ρ[i]? with
  | none => rw [q] at w; exact w.elim
  | some s =>
    rw [q] at w
    cases s with
    | own d =>
      obtain ⟨l, a, c2, f⟩ := c.drop q
      obtain ⟨o, ho, c3, r, e3⟩ := c2.freeze f
      have hb : notBor (ρ.set i .no)[i]? = true := by
        rw [List.getElem?_set_self (List.getElem?_eq_some_iff.mp q).1]
        rfl
      have c4 := c3.setVal hb r
      have e5 : σ.set i (some (.ref l)) = σ := by
        obtain ⟨hl, e6⟩ := List.getElem?_eq_some_iff.mp a
        rw [← e6]
        exact List.set_getElem_self hl
      rw [e5, List.set_set] at c4
      exact h F _ σ _ H c4 E (PO.mono e3 w)
    | val d => exact h F _ σ G H c E w
    | no => exact w.elim
    | bor d => exact w.elim
theorem QS.fz (i : Nat) (h : QS X cls W st sf) : QS X cls W st (sSeq (sFz i) sf) := ⟨let ⟨t, p, s⟩ := h.sim; ⟨t, p, sim_fz s⟩⟩

/-! ### targets -/
abbrev MG := D → List Sl → Option (List Sl)
abbrev MGs := List D → List Sl → Option (List Sl)
/-- alike but at the slots ts -/
def But (ts : List Nat) (σ σ' : St) : Prop := σ'.length = σ.length ∧ ∀ j : Nat, j ∉ ts → σ'[j]? = σ[j]?
theorem But.trans {ts us : List Nat} {a b c : St} (h : But ts a b) (h' : But us b c) : But (ts ++ us) a c := ⟨h'.1.trans h.1, fun j hj => (h'.2 j fun z => hj (List.mem_append_right _ z)).trans (h.2 j fun z => hj (List.mem_append_left _ z))⟩
def SimG (K : PySem.W.Frag) (g : TG) (m : MG) (ts : List Nat) : Prop := ∀ F ρ σ G H v d ρ', CS K F G H σ ρ → Rep K G v d → m d ρ = some ρ' → ∀ Q : St → Hp → Prop, (∀ σ', But ts σ σ' → CS K F G H σ' ρ' → Q σ' H) → g v σ H Q
def SimGs (K : PySem.W.Frag) (g : TGs) (m : MGs) (ts : List Nat) : Prop := ∀ F ρ σ G H v d ρ', CS K F G H σ ρ → RepL K G v d → m d ρ = some ρ' → ∀ Q : St → Hp → Prop, (∀ σ', But ts σ σ' → CS K F G H σ' ρ' → Q σ' H) → g v σ H Q
def gN (i : Nat) : MG := fun d ρ => if notBor ρ[i]? then some (ρ.set i (.val d)) else none
def gsNil : MGs := fun ds ρ => match ds with | [] => some ρ | _ => none
def gsCons (m : MG) (r : MGs) : MGs := fun ds ρ => match ds with
  | d :: ds => (m d ρ).bind (r ds)
  | [] => none
def gT (m : MGs) : MG := fun d ρ => match d with
  | .tup ds => m ds ρ
  | .raw ds => m ds ρ
  | _ => none
structure QG (X : Cx) (tg : Expr) (m : MG) (ts : List Nat) : Prop where
  sim : ∃ g, PG X tg g ∧ SimG X.K g m ts
structure QGs (X : Cx) (tg : List Expr) (n : Nat) (m : MGs) (ts : List Nat) : Prop where
  sim : ∃ g, PGs X tg g ∧ SimGs X.K g m ts
  len : ∀ ds ρ ρ', m ds ρ = some ρ' → ds.length = n
theorem qg_name (i : Nat) (h : PG X e (gName i)) : QG X e (gN i) [i] := ⟨⟨_, h, fun F ρ σ G H v d ρ' c r m Q q => by
  unfold gN at m
  split at m
  · rename_i hb
    cases m
    exact q _ ⟨List.length_set, fun j hj => List.getElem?_set_ne (fun z => hj (by simp [z]))⟩ (c.setVal hb r)
  · cases m⟩⟩
theorem qgs_nil : QGs X [] 0 gsNil [] := ⟨⟨_, pgs_nil, fun F ρ σ G H v d ρ' c r m Q q => by
  cases r with
  | nil => cases m; exact ⟨rfl, q σ ⟨rfl, fun _ _ => rfl⟩ c⟩
  | cons _ _ => cases m⟩, fun ds ρ ρ' h => by
    cases ds with
    | nil => rfl
    | cons _ _ => cases h⟩
theorem qgs_cons {m : MG} {ms : MGs} {n : Nat} {ts us : List Nat} (h : QG X e m ts) (r : QGs X es n ms us) (hs : (assignEach (e :: es) X.env).map (·.2) = assign e X.env :: (assignEach es X.env).map (·.2) := by rfl) : QGs X (e :: es) (n + 1) (gsCons m ms) (ts ++ us) := by
  obtain ⟨⟨g, p, s⟩⟩ := h
  obtain ⟨⟨gs, ps, ss⟩, hl⟩ := r
  refine ⟨⟨_, pgs_cons p ps hs, fun F ρ σ G H v d ρ' c r m Q q => ?_⟩, fun ds ρ ρ' h => ?_⟩
  · cases r with
    | nil => cases m
    | cons r1 r2 =>
      rename_i v1 vs d1 ds1
      obtain ⟨ρ1, h1, h2⟩ := Option.bind_eq_some_iff.mp m
      exact ⟨v1, vs, rfl, s F ρ σ G H v1 d1 ρ1 c r1 h1 _ fun σ1 b1 c1 => ss F ρ1 σ1 G H vs ds1 ρ' c1 r2 h2 Q fun σ2 b2 c2 => q σ2 (b1.trans b2) c2⟩
  · cases ds with
    | nil => cases h
    | cons d ds =>
      obtain ⟨ρ1, h1, h2⟩ := Option.bind_eq_some_iff.mp h
      rw [List.length_cons, hl ds ρ1 ρ' h2]
theorem qg_tup {k : Nat} {n : Nat} {ms : MGs} {ts : List Nat} (h : QGs X es n ms ts) (hc : X.calm = true) (hn : (assignEach es X.env).length = n := by rfl) (hst : (assignEach es X.env).findIdx? (·.1) = none := by rfl) : QG X (.Tuple es k pos) (gT ms) ts := by
  obtain ⟨⟨gs, ps, ss⟩, hl⟩ := h
  refine ⟨⟨_, pg_tup hc ps hn hst, fun F ρ σ G H v d ρ' c r m Q q => ?_⟩⟩
  unfold gT at m
  cases r with
  | tup h r =>
    rename_i a xs ds
    exact ⟨a, xs, rfl, .inl (c.ex.rd h.rd), by rw [r.length]; exact hl ds ρ ρ' m, ss F ρ σ G H xs ds ρ' c r m Q q⟩
  | raw h r =>
    rename_i a xs ds
    exact ⟨a, xs, rfl, .inl (c.ex.rd h), by rw [r.length]; exact hl ds ρ ρ' m, ss F ρ σ G H xs ds ρ' c r m Q q⟩
  | _ => cases m
/-- a, b = e -/
def sAsg (f : M D) (m : MG) : MS := sDo f fun d => fun ρ => match m d ρ with
  | some ρ' => .nx ρ'
  | none => .bad
theorem q_asg {m : MG} {tg : Expr} {ts : List Nat} (hp : ∀ te g, PE X e te → PG X tg g → PS X st (tAsg te g)) (ha : QE X cls W e f) (hg : QG X tg m ts) : QS X cls W st (sAsg f m) := by
  obtain ⟨⟨t, p, s⟩, _⟩ := ha
  obtain ⟨⟨g, pg, sg⟩⟩ := hg
  refine ⟨⟨_, hp t g p pg, fun F ρ σ G H c E w => s F ρ σ G H c _ (sDo_wp w fun d ρ' q v G1 H1 e1 c1 r1 => ?_)⟩⟩
  cases h : m d ρ' with
  | none => rw [h] at q; exact q.elim
  | some ρ2 =>
    rw [h] at q
    exact sg F ρ' σ G1 H1 v d ρ2 c1 r1 h _ fun σ' _ c2 => q σ' G1 H1 e1 c2

/-! ### for -/
def Walks (K : PySem.W.Frag) (J : It) (G : Hp) (ds : List D) : Prop := ∀ F G1 H1 σ ρ, Ex G G1 → CS K F G1 H1 σ ρ →
  (∀ (i : Nat) d, ds[i]? = some d → J.go i H1 ∧ ∀ x H2, J.yld i H1 x H2 → ∃ G2, Ex G1 G2 ∧ CS K F G2 H2 σ ρ ∧ Rep K G2 x d) ∧ J.stop ds.length H1
def SimI (K : PySem.W.Frag) (cls : Nat → Value) (W : WX) (wi : TI) (f : M (List D)) : Prop := ∀ F ρ σ G H, CS K F G H σ ρ → ∀ Q : It → Hp → Prop, wpR (f ρ) (fun ds ρ' => ∀ J G' H', Ex G G' → CS K F G' H' σ ρ' → Walks K J G' ds → Q J H') (PEx K cls W F G σ) → wi σ H Q
structure QI (X : Cx) (cls : Nat → Value) (W : WX) (tg iter : Expr) (f : M (List D)) : Prop where
  sim : ∃ wi, PI X tg iter wi ∧ SimI X.K cls W wi f
  inert : Inert f
def loop (m : MG) (b : MS) : List D → MS
  | [] => sSkip
  | d :: ds => fun ρ => match m d ρ with
    | none => .bad
    | some ρ1 => match b ρ1 with
      | .nx ρ2 => loop m b ds ρ2
      | o => o
def sFor (f : M (List D)) (m : MG) (b : MS) : MS := sDo f fun ds => loop m b ds
theorem sim_for_at {K : PySem.W.Frag} {wi : TI} {fi : M (List D)} {g : TG} {m : MG} {tb : TS} {b : MS} {ts : List Nat} {F : Fm} {ρ : List Sl} {σ : St} {G H : Hp} (hi : ∀ Q : It → Hp → Prop, wpR (fi ρ) (fun ds ρ' => ∀ J G' H', Ex G G' → CS K F G' H' σ ρ' → Walks K J G' ds → Q J H') (PEx K cls W F G σ) → wi σ H Q) (hg : SimG K g m ts) (hb : SimS K cls W tb b) (E : Ends) (w : PO K cls W F G E (sFor fi m b ρ)) : tFor wi g tb E σ H := by
  refine hi _ (sDo_wp w fun ds ρ1 q J G1 H1 e1 c1 wk => ?_)
  refine ⟨fun i n σ2 H2 => ∃ ρ2 G2, i + n = ds.length ∧ Ex G1 G2 ∧ CS K F G2 H2 σ2 ρ2 ∧ PO K cls W F G E (loop m b (ds.drop i) ρ2), ⟨ds.length, ρ1, G1, by omega, Same.refl G1, c1, q⟩, ?_⟩
  rintro i n σ2 H2 ⟨ρ2, G2, hn, e2, c2, p⟩
  obtain ⟨wg, wst⟩ := wk F G2 H2 σ2 ρ2 e2 c2
  by_cases hlt : i < ds.length
  · have hd : ds[i]? = some ds[i] := List.getElem?_eq_getElem hlt
    obtain ⟨go, yl⟩ := wg i _ hd
    refine .inr ⟨go, fun σ3 H3 => ∃ ρ3 G3, Ex G1 G3 ∧ CS K F G3 H3 σ3 ρ3 ∧ PO K cls W F G E (loop m b (ds.drop (i + 1)) ρ3), fun σ3 H3 ⟨ρ3, G3, e3, c3, p3⟩ => ⟨n - 1, by omega, ρ3, G3, by omega, e3, c3, p3⟩, fun x H3 hy => ?_⟩
    obtain ⟨G3, e3, c3, r3⟩ := yl x H3 hy
    rw [List.drop_eq_getElem_cons hlt] at p
    unfold loop at p
    cases hm : m ds[i] ρ2 with
    | none => rw [hm] at p; exact p.elim
    | some ρ3 =>
      rw [hm] at p
      have p : PO K cls W F G E (match b ρ3 with
        | O.nx ρ2 => loop m b (ds.drop (i + 1)) ρ2
        | o => o) := p
      refine hg F ρ2 σ2 G3 H3 x _ ρ3 c3 r3 hm _ fun σ4 _ c4 => ?_
      refine hb F ρ3 σ4 G3 H3 c4 _ ?_
      cases hq : b ρ3 with
      | nx ρ4 =>
        rw [hq] at p
        exact fun σ5 G5 H5 e5 c5 => ⟨ρ4, G5, (e2.trans e3).trans e5, c5, p⟩
      | rt d ρ' => rw [hq] at p; exact PO.mono ((e1.trans e2).trans e3) (o := .rt d ρ') p
      | rtN d ρ' => rw [hq] at p; exact PO.mono ((e1.trans e2).trans e3) (o := .rtN d ρ') p
      | ex c ρ' => rw [hq] at p; exact PO.mono (E := E) ((e1.trans e2).trans e3) (o := .ex c ρ') p
      | bad => rw [hq] at p; exact p.elim
  · have e : i = ds.length := by omega
    subst e
    refine .inl ⟨wst, ?_⟩
    rw [List.drop_length] at p
    exact p σ2 G2 H2 (e1.trans e2) c2
theorem sim_for {K : PySem.W.Frag} {wi : TI} {fi : M (List D)} {g : TG} {m : MG} {tb : TS} {b : MS} {ts : List Nat} (hi : SimI K cls W wi fi) (hg : SimG K g m ts) (hb : SimS K cls W tb b) : SimS K cls W (tFor wi g tb) (sFor fi m b) := fun F ρ σ G H c E w => sim_for_at (hi F ρ σ G H c) hg hb E w
theorem q_for {tg iter : Expr} {fi : M (List D)} {m : MG} {body : List Stmt} {bf : MS} {ts : List Nat} (hi : QI X cls W tg iter fi) (hg : QG X tg m ts) (hb : QB X cls W body bf) (hp : ∀ wi g tb, PI X tg iter wi → PG X tg g → PSs X body tb → PS X st (tFor wi g tb)) : QS X cls W st (sFor fi m bf) := by
  obtain ⟨⟨wi, pi, si⟩, _⟩ := hi
  obtain ⟨⟨g, pg, sg⟩⟩ := hg
  obtain ⟨⟨tb, pb, sb⟩⟩ := hb
  exact ⟨⟨_, hp wi g tb pi pg pb, sim_for si sg sb⟩⟩
/-- what is walked -/
def items (d : D) : Option (List D) := match d with
  | .lst ds => some ds
  | .tup ds => some ds
  | .str x => some (x.cps.toList.map fun c => .str ⟨#[c]⟩)
  | _ => none
def iSeq (f : M D) : M (List D) := mbind f fun d => lift (match d with | .lst ds => some ds | .tup ds => some ds | .scr ns => some (ns.map D.int) | _ => none)
theorem pi_seq {tg l : Expr} {tl : TE} (hl : PE X l tl) : PI X tg l (fun σ H R => tl σ H fun x H1 => ∃ a, x = .ref a ∧ (((∃ xs, SqL X.K H1 a xs) ∧ R (Itl X.K a) H1) ∨ ((∃ xs, SqT X.K H1 a xs) ∧ R (Itt X.K a) H1))) := by
  refine ⟨fun pins s σ H R I h => ?_⟩
  refine thn (hl.run pins s σ H _ I h) fun v s1 ⟨x, H1, I1, r1, q1⟩ => ?_
  obtain ⟨a, e, q1⟩ := q1
  subst e
  cases r1
  rcases q1 with ⟨⟨xs, hq⟩, q⟩ | ⟨⟨xs, hq⟩, q⟩
  · obtain ⟨its, rv, p, hz⟩ := I1.list hq
    refine wpAny_pyIter_list p.isList ?_
    refine ⟨s1.heap.objs.size, [s1.heap.objs.size], _, _, H1, rfl, I1.kept (t' := s1.toks) fun b o e => Heap.get?_push_of_some _ e, turn_list a _, ⟨_, Heap.get?_push_size _ rfl, rfl, rfl⟩, fun b hb => ?_, q⟩
    have e : b = s1.heap.objs.size := by simpa using hb
    subst e
    exact I1.fpOk (Nat.le_refl _) (I1.hok.fresh (Nat.le_refl _))
  · obtain ⟨its, rv, p, hz⟩ := I1.tuple hq
    refine wpAny_pyIter_tuple (show s1.heap.IsTuple a its.toArray from p) ?_
    refine ⟨s1.heap.objs.size, [s1.heap.objs.size], _, _, H1, rfl, I1.kept (t' := s1.toks) fun b o e => Heap.get?_push_of_some _ e, turn_tuple a _, ⟨_, Heap.get?_push_size _ rfl, rfl, rfl⟩, fun b hb => ?_, q⟩
    have e : b = s1.heap.objs.size := by simpa using hb
    subst e
    exact I1.fpOk (Nat.le_refl _) (I1.hok.fresh (Nat.le_refl _))
theorem walks_lst {K : PySem.W.Frag} {G : Hp} {a : Addr} {xs : List V} {ds : List D} (h : SqL K G a xs) (r : RepL K G xs ds) : Walks K (Itl K a) G ds := fun F G1 H1 σ ρ e1 c1 => by
  have h1 : SqL K H1 a xs := Same.seq (e1.trans c1.ex) h
  refine ⟨fun i d hd => ?_, ⟨xs, h1, by rw [r.length]; exact Nat.le_refl _⟩⟩
  obtain ⟨u, hu, ru⟩ := r.get hd
  refine ⟨⟨xs, u, h1, hu⟩, fun x H2 ⟨e, y⟩ => ?_⟩
  subst e
  have hx := y xs h1
  rw [hu] at hx
  cases hx
  exact ⟨G1, Same.refl G1, c1, ru.mono e1⟩
theorem walks_tup {K : PySem.W.Frag} {G : Hp} {a : Addr} {xs : List V} {ds : List D} (h : Rd G a (.tup xs)) (r : RepL K G xs ds) : Walks K (Itt K a) G ds := fun F G1 H1 σ ρ e1 c1 => by
  have h1 : SqT K H1 a xs := .inl (c1.ex.rd (e1.rd h))
  refine ⟨fun i d hd => ?_, ⟨xs, h1, by rw [r.length]; exact Nat.le_refl _⟩⟩
  obtain ⟨u, hu, ru⟩ := r.get hd
  refine ⟨⟨xs, u, h1, hu⟩, fun x H2 ⟨e, y⟩ => ?_⟩
  subst e
  have hx := y xs h1
  rw [hu] at hx
  cases hx
  exact ⟨G1, Same.refl G1, c1, ru.mono e1⟩
theorem qi_seq {tg : Expr} (ha : QE X cls W e f) : QI X cls W tg e (iSeq f) := by
  obtain ⟨⟨t, p, s⟩, ia⟩ := ha
  refine ⟨⟨_, pi_seq p, fun F ρ σ G H c Q w => ?_⟩, inert_bind ia fun _ => inert_lift⟩
  refine s F ρ σ G H c _ ((wpR_bind w).mono (fun d ρ1 w1 v1 G1 H1 e1 c1 r1 => ?_) fun _ _ p => p)
  obtain ⟨ds, ed, p⟩ := wpR_lift w1
  cases r1 with
  | lst h r =>
    cases ed
    exact ⟨_, rfl, .inl ⟨⟨_, .inl (.inl (c1.ex _ _ h))⟩, p _ G1 H1 e1 c1 (walks_lst (.inl (.inl h)) r)⟩⟩
  | tup h r =>
    cases ed
    exact ⟨_, rfl, .inr ⟨⟨_, .inl (c1.ex.rd h.rd)⟩, p _ G1 H1 e1 c1 (walks_tup h.rd r)⟩⟩
  | scr h =>
    cases ed
    exact ⟨_, rfl, .inl ⟨⟨_, Same.seq c1.ex h⟩, p _ G1 H1 e1 c1 (walks_lst h (RepL.ints _))⟩⟩
  | _ => cases ed
def rng1 (ds : List D) : Option (List D) := match ds with
  | [.int j] => if -(2 ^ 62) ≤ j ∧ j < 2 ^ 62 then some ((List.range j.toNat).map fun k => D.int (k : Nat)) else none
  | _ => none
def rng2 (ds : List D) : Option (List D) := match ds with
  | [.int i, .int j] => if -(2 ^ 62) ≤ i ∧ i < 2 ^ 62 ∧ -(2 ^ 62) ≤ j ∧ j < 2 ^ 62 then some ((List.range (j - i).toNat).map fun k => D.int (i + (k : Nat))) else none
  | _ => none
def iRange1 (f : M (List D)) : M (List D) := mbind f fun ds => lift (rng1 ds)
def iRange2 (f : M (List D)) : M (List D) := mbind f fun ds => lift (rng2 ds)
theorem walks_rng {K : PySem.W.Frag} {G : Hp} {lo : Int} {n : Nat} : Walks K (Itr lo n) G ((List.range n).map fun k => D.int (lo + (k : Nat))) := fun F G1 H1 σ ρ e1 c1 => by
  refine ⟨fun i d hd => ?_, by show n ≤ _; simp⟩
  rw [List.getElem?_map] at hd
  cases h : (List.range n)[i]? with
  | none => rw [h] at hd; cases hd
  | some k =>
    rw [h] at hd
    cases hd
    obtain ⟨hi, e⟩ := List.getElem?_eq_some_iff.mp h
    rw [List.getElem_range] at e
    subst e
    rw [List.length_range] at hi
    refine ⟨hi, fun x H2 ⟨e, y⟩ => ?_⟩
    subst e
    subst y
    exact ⟨G1, Same.refl G1, c1, .int _⟩
theorem qi_range1 {tg iter : Expr} {fa : M (List D)} (hp : ∀ ta, PA X es ta → PI X tg iter (iRng1 ta)) (ha : QA X cls W es fa) : QI X cls W tg iter (iRange1 fa) := by
  obtain ⟨⟨t, p, s⟩, ia⟩ := ha
  refine ⟨⟨_, hp _ p, fun F ρ σ G H c Q w => ?_⟩, inert_bind ia fun _ => inert_lift⟩
  refine s F ρ σ G H c _ ((wpR_bind w).mono (fun d ρ1 w1 v1 G1 H1 e1 c1 r1 => ?_) fun _ _ p => p)
  obtain ⟨ds, ed, p⟩ := wpR_lift w1
  unfold rng1 at ed
  split at ed
  · rename_i j
    split at ed
    · rename_i hj
      cases ed
      cases r1 with
      | cons r0 rn =>
        cases rn
        cases r0
        refine ⟨j, rfl, hj.1, hj.2, p _ G1 H1 e1 c1 ?_⟩
        have hw := walks_rng (K := X.K) (G := G1) (lo := 0) (n := j.toNat)
        simpa using hw
    · cases ed
  · cases ed
theorem qi_range2 {tg iter : Expr} {fa : M (List D)} (hp : ∀ ta, PA X es ta → PI X tg iter (iRng2 ta)) (ha : QA X cls W es fa) : QI X cls W tg iter (iRange2 fa) := by
  obtain ⟨⟨t, p, s⟩, ia⟩ := ha
  refine ⟨⟨_, hp _ p, fun F ρ σ G H c Q w => ?_⟩, inert_bind ia fun _ => inert_lift⟩
  refine s F ρ σ G H c _ ((wpR_bind w).mono (fun d ρ1 w1 v1 G1 H1 e1 c1 r1 => ?_) fun _ _ p => p)
  obtain ⟨ds, ed, p⟩ := wpR_lift w1
  unfold rng2 at ed
  split at ed
  · rename_i i j
    split at ed
    · rename_i hj
      cases ed
      cases r1 with
      | cons r0 rn =>
        cases rn with
        | cons r1 rn =>
          cases rn
          cases r0
          cases r1
          exact ⟨i, j, rfl, hj, p _ G1 H1 e1 c1 walks_rng⟩
    · cases ed
  · cases ed
end
end NT

set_option Elab.async false
set_option linter.all false
set_option maxRecDepth 100000
set_option maxHeartbeats 4000000
namespace NT
open PySem L2

/-! ### owned slots seen as frozen ones -/
def mineAt (σ : St) (ρ : List Sl) (b : Addr) : Prop := ∃ (i : Nat) (s : Sl) (d : D), ρ[i]? = some s ∧ s.mine = some d ∧ σ[i]? = some (some (.ref b))
open Classical in
noncomputable def gPlus (σ : St) (ρ : List Sl) (G H : Hp) : Hp := fun b => if mineAt σ ρ b then H b else G b
open Classical in
noncomputable def gMinus (σ : St) (ρ : List Sl) (G : Hp) : Hp := fun b => if mineAt σ ρ b then none else G b
def viewS : Sl → Sl
  | .own d => .val d
  | .bor d => .val d
  | s => s
section
variable {K : PySem.W.Frag} {F : Fm} {G H G' H' : Hp} {σ : St} {ρ : List Sl} {cls : Nat → Value} {W : WX}
theorem gPlus_ex (c : CS K F G H σ ρ) : Ex G (gPlus σ ρ G H) := fun b o e => by
  unfold gPlus
  split
  · exact c.ex _ _ e
  · exact e
theorem gMinus_none {b : Addr} (h : mineAt σ ρ b) : gMinus σ ρ G b = none := by
  unfold gMinus
  rw [if_pos h]
theorem gMinus_eq {b : Addr} (h : ¬ mineAt σ ρ b) : gMinus σ ρ G b = G b := by
  unfold gMinus
  rw [if_neg h]
theorem mineAt_obj (c : CS K F G H σ ρ) {b : Addr} (h : mineAt σ ρ b) : ∃ d, Obj K G H b d ∧ G b = none ∧ (F.H0 b = none ∨ ∃ i, (i, b) ∈ F.B) := by
  obtain ⟨i, s, d, h1, h2, h3⟩ := h
  obtain ⟨l, a1, a2, a3, a4⟩ := c.mine h1 h2
  rw [h3] at a1
  cases a1
  exact ⟨d, a2, a3, a4.imp id fun z => ⟨i, z⟩⟩
theorem noOwn_view : NoOwn (ρ.map viewS) := fun i s h => by
  rw [List.getElem?_map] at h
  cases e : ρ[i]? with
  | none => rw [e] at h; cases h
  | some t =>
    rw [e] at h
    cases h
    cases t <;> rfl
theorem view_of {i : Nat} {s : Sl} (h : (ρ.map viewS)[i]? = some s) : ∃ t, ρ[i]? = some t ∧ viewS t = s := by
  rw [List.getElem?_map] at h
  cases e : ρ[i]? with
  | none => rw [e] at h; cases h
  | some t =>
    rw [e] at h
    cases h
    exact ⟨t, rfl, rfl⟩
theorem CS.view (c : CS K F G H σ ρ) : CS K ⟨H, gPlus σ ρ G H, []⟩ (gPlus σ ρ G H) H σ (ρ.map viewS) := by
  have eP := gPlus_ex c
  refine ⟨fun b o e => ?_, Same.refl _, fun b o e _ => e, fun b e1 e2 => (e2 e1).elim, by simpa using c.len, fun i d e => ?_, fun i d e => ?_, fun i d e => ?_, fun i l e => (by cases e), fun i j s t d e l _ h1 h2 _ _ _ _ => ?_⟩
  · unfold gPlus at e
    split at e
    · exact e
    · exact c.ex _ _ e
  · obtain ⟨t, h1, h2⟩ := view_of e
    have mine : ∀ s, ρ[i]? = some s → s.mine = some d → ∃ v, σ[i]? = some (some v) ∧ Rep K (gPlus σ ρ G H) v d := fun s h1 h2 => by
      obtain ⟨l, a1, a2, a3, a4⟩ := c.mine h1 h2
      obtain ⟨o, ho⟩ := a2.some
      refine ⟨_, a1, ?_⟩
      have hm : mineAt σ ρ l := ⟨i, s, d, h1, h2, a1⟩
      refine (a2.rep a3 ho).mono fun b x e => ?_
      by_cases hb : b = l
      · subst hb
        rw [upd_same] at e
        unfold gPlus
        rw [if_pos hm, ← e]
        exact ho
      · rw [upd_ne hb] at e
        exact eP b x e
    cases t with
    | val d' =>
      cases h2
      obtain ⟨v, a, b⟩ := c.vals i d h1
      exact ⟨v, a, b.mono eP⟩
    | own d' => cases h2; exact mine _ h1 rfl
    | bor d' => cases h2; exact mine _ h1 rfl
    | no => cases h2
  · obtain ⟨t, h1, h2⟩ := view_of e
    cases t <;> cases h2
  · obtain ⟨t, h1, h2⟩ := view_of e
    cases t <;> cases h2
  · have z := noOwn_view i s h1
    rw [z] at h2
    cases h2
theorem CS.unview (c : CS K F G H σ ρ) (c' : CS K ⟨H, gPlus σ ρ G H, []⟩ G' H' σ (ρ.map viewS)) : CS K F (gMinus σ ρ G') H' σ ρ ∧ Ex G (gMinus σ ρ G') := by
  have keep : ∀ b o, H b = some o → H' b = some o := fun b o e => c'.fr b o e fun i z => by cases z
  have eG : Ex G (gMinus σ ρ G') := fun b o e => by
    have nm : ¬ mineAt σ ρ b := fun z => by
      obtain ⟨d, _, g, _⟩ := mineAt_obj c z
      rw [g] at e
      cases e
    rw [gMinus_eq nm]
    exact c'.g0 b o (gPlus_ex c b o e)
  have obj : ∀ {l d}, Obj K G H l d → Obj K (gMinus σ ρ G') H' l d := fun {l d} h => by
    obtain ⟨o, ho⟩ := h.some
    exact h.mono eG.ext ((keep l o ho).trans ho.symm)
  refine ⟨⟨fun b o e => ?_, c.g0.trans eG, fun b o e hb => keep b o (c.fr b o e hb), fun b e1 e2 => ?_, c.len, fun i d e => ?_, fun i d e => ?_, fun i d e => ?_, c.bb, c.sep⟩, eG⟩
  · by_cases nm : mineAt σ ρ b
    · rw [gMinus_none nm] at e
      cases e
    · rw [gMinus_eq nm] at e
      exact c'.ex _ _ e
  · by_cases nm : mineAt σ ρ b
    · rw [gMinus_none nm] at e2
      exact (e2 rfl).elim
    · rw [gMinus_eq nm] at e2
      cases q : G b with
      | some o => exact c.gn b e1 (by rw [q]; exact fun z => by cases z)
      | none =>
        have hp : gPlus σ ρ G H b = none := by
          unfold gPlus
          rw [if_neg nm]
          exact q
        exact (c.fresh (c'.gn b hp e2)).1
  · obtain ⟨v, a, b⟩ := c.vals i d e
    exact ⟨v, a, b.mono eG⟩
  · obtain ⟨l, a, b, x, y⟩ := c.owns i d e
    exact ⟨l, a, obj b, gMinus_none ⟨i, _, d, e, rfl, a⟩, y⟩
  · obtain ⟨l, a, b, x, y⟩ := c.bors i d e
    exact ⟨l, a, obj b, gMinus_none ⟨i, _, d, e, rfl, a⟩, y⟩
theorem CS.viewFrz (c : CS K F G H σ ρ) (c' : CS K ⟨H, gPlus σ ρ G H, []⟩ G' H' σ (ρ.map viewS)) (a : Addr) (ob : PySem.Obj) (xs : List V) (h : G' a = some (.frz ob (.tup xs))) : gMinus σ ρ G' a = some (.frz ob (.tup xs)) := by
  have nm : ¬ mineAt σ ρ a := fun z => by
    obtain ⟨d, o, _, _⟩ := mineAt_obj c z
    obtain ⟨x, hx⟩ := o.some
    have e1 := c'.fr a x hx fun i z => by cases z
    have e2 := c'.ex a _ h
    rw [e1] at e2
    cases e2
    exact o.notFrz ob _ hx
  rw [gMinus_eq nm]
  exact h
theorem CS.viewTup (c : CS K F G H σ ρ) (c' : CS K ⟨H, gPlus σ ρ G H, []⟩ G' H' σ (ρ.map viewS)) (a : Addr) (xs : List V) (h : G' a = some (.tup xs)) : gMinus σ ρ G' a = some (.tup xs) := by
  have nm : ¬ mineAt σ ρ a := fun z => by
    obtain ⟨d, o, _, _⟩ := mineAt_obj c z
    obtain ⟨x, hx⟩ := o.some
    have e1 := c'.fr a x hx fun i z => by cases z
    have e2 := c'.ex a _ h
    rw [e1] at e2
    cases e2
    exact o.notTup xs hx
  rw [gMinus_eq nm]
  exact h
/-- the elements are plain -/
def plainK {κ : Type} : List (κ × D) → Bool
  | [] => true
  | (_, d) :: r => plain d && plainK r
def plainO : D → Bool
  | .lst ds => plainL ds
  | .dK kvs => plainK kvs
  | .dT kvs => plainK kvs
  | _ => false
theorem RepK.plain (e : (∀ a xs, G a = some (.tup xs) → G' a = some (.tup xs)) ∧ ∀ a o xs, G a = some (.frz o (.tup xs)) → G' a = some (.frz o (.tup xs))) : ∀ {v : List (Key × V)} {d : List (Key × D)}, RepK K G v d → plainK d = true → RepK K G' v d
  | _, _, .nil, _ => .nil
  | _, _, .cons h r, p => by
    simp [plainK] at p
    exact .cons (Rep.plain e h p.1) (RepK.plain e r p.2)
theorem RepT.plain (e : (∀ a xs, G a = some (.tup xs) → G' a = some (.tup xs)) ∧ ∀ a o xs, G a = some (.frz o (.tup xs)) → G' a = some (.frz o (.tup xs))) : ∀ {v : List (List Key × V)} {d : List (List Key × D)}, RepT K G v d → plainK d = true → RepT K G' v d
  | _, _, .nil, _ => .nil
  | _, _, .cons h r, p => by
    simp [plainK] at p
    exact .cons (Rep.plain e h p.1) (RepT.plain e r p.2)
theorem obj_plain (e : (∀ a xs, G a = some (.tup xs) → G' a = some (.tup xs)) ∧ ∀ a o xs, G a = some (.frz o (.tup xs)) → G' a = some (.frz o (.tup xs))) {l : Addr} {d : D} (h : Obj K G H l d) (p : plainO d = true) : Obj K G' H l d := by
  cases d with
  | lst ds => obtain ⟨xs, a, b⟩ := h; exact ⟨xs, a, b.plain e p⟩
  | dK ds => obtain ⟨xs, a, b⟩ := h; exact ⟨xs, a, b.plain e p⟩
  | dT ds => obtain ⟨xs, a, b⟩ := h; exact ⟨xs, a, b.plain e p⟩
  | obj c fs => cases p
  | _ => exact h.elim

def eView (f : M D) : M D := fun ρ => match f (ρ.map viewS) with
  | .ok d _ => if plain d then .ok d ρ else .bad
  | _ => .bad
def eViewN (f : M D) : M D := fun ρ => match f (ρ.map viewS) with
  | .ok d _ => if plainO d then .ok d ρ else .bad
  | _ => .bad
def tView (f : M Bool) : M Bool := fun ρ => match f (ρ.map viewS) with
  | .ok d _ => .ok d ρ
  | _ => .bad
def iView (f : M (List D)) : M (List D) := fun ρ => match f (ρ.map viewS) with
  | .ok d _ => if plainL d then .ok d ρ else .bad
  | _ => .bad
theorem sim_view {te : TE} {f : M D} (h : SimE K cls W te f) (hi : Inert f) : SimE K cls W te (eView f) := fun F ρ σ G H c Q w => by
  unfold eView at w
  refine h _ _ σ _ H c.view Q ?_
  cases q : f (ρ.map viewS) with
  | ok d ρ' =>
    rw [q] at w
    dsimp only at w
    have e := hi _ noOwn_view d ρ' q
    subst e
    intro v G' H' e' c' r
    by_cases hp : plain d = true
    · have w : POk K F G σ Q d ρ := by
        rw [if_pos hp] at w
        exact w
      obtain ⟨c2, e2⟩ := c.unview c'
      exact w v _ _ e2 c2 (r.plain ⟨c.viewTup c', c.viewFrz c'⟩ hp)
    · rw [if_neg hp] at w
      exact w.elim
  | ex c ρ' => rw [q] at w; exact w.elim
  | bad => rw [q] at w; exact w.elim
theorem sim_viewN {te : TE} {f : M D} (h : SimN K cls W te f) (hi : Inert f) : SimN K cls W te (eViewN f) := fun F ρ σ G H c Q w => by
  unfold eViewN at w
  refine h _ _ σ _ H c.view Q ?_
  cases q : f (ρ.map viewS) with
  | ok d ρ' =>
    rw [q] at w
    dsimp only at w
    have e := hi _ noOwn_view d ρ' q
    subst e
    intro l G' H' e' c' r
    by_cases hp : plainO d = true
    · have w : PNw K F G σ Q d ρ := by
        rw [if_pos hp] at w
        exact w
      obtain ⟨c2, e2⟩ := c.unview c'
      have hn : H l = none := r.h0
      have nm : ¬ mineAt σ ρ l := fun z => by
        obtain ⟨d, o, _, _⟩ := mineAt_obj c z
        obtain ⟨x, hx⟩ := o.some
        rw [hn] at hx
        cases hx
      refine w l _ _ e2 c2 ⟨obj_plain ⟨c.viewTup c', c.viewFrz c'⟩ r.obj hp, ?_, (c.fresh hn).1, fun i s e h1 h2 h3 => nm ⟨i, s, e, h1, h2, h3⟩⟩
      rw [gMinus_eq nm]
      exact r.g
    · rw [if_neg hp] at w
      exact w.elim
  | ex c ρ' => rw [q] at w; exact w.elim
  | bad => rw [q] at w; exact w.elim
theorem sim_viewT {te : TT} {f : M Bool} (h : SimT K cls W te f) (hi : Inert f) : SimT K cls W te (tView f) := fun F ρ σ G H c Q w => by
  unfold tView at w
  refine h _ _ σ _ H c.view Q ?_
  cases q : f (ρ.map viewS) with
  | ok d ρ' =>
    rw [q] at w
    dsimp only at w
    have e := hi _ noOwn_view d ρ' q
    subst e
    intro G' H' e' c'
    obtain ⟨c2, e2⟩ := c.unview c'
    exact w _ _ e2 c2
  | ex c ρ' => rw [q] at w; exact w.elim
  | bad => rw [q] at w; exact w.elim
theorem inert_view {f : M D} : Inert (eView f) := fun ρ n a ρ' h => by
  unfold eView at h
  split at h
  · split at h
    · cases h; rfl
    · cases h
  · cases h
theorem inert_viewN {f : M D} : Inert (eViewN f) := fun ρ n a ρ' h => by
  unfold eViewN at h
  split at h
  · split at h
    · cases h; rfl
    · cases h
  · cases h
theorem inert_viewT {f : M Bool} : Inert (tView f) := fun ρ n a ρ' h => by
  unfold tView at h
  split at h
  · cases h; rfl
  · cases h
end
section
variable {X : Cx} {cls : Nat → Value} {W : WX} {e a b : Expr} {es : List Expr} {f g : M D} {tf : M Bool} {pos : Pos} {sf sg : MS} {st : Stmt} {sts : List Stmt}
theorem QE.view (h : QE X cls W e f) : QE X cls W e (eView f) := ⟨let ⟨t, p, s⟩ := h.sim; ⟨t, p, sim_view s h.inert⟩, inert_view⟩
theorem QN.view (h : QN X cls W e f) : QN X cls W e (eViewN f) := ⟨let ⟨t, p, s⟩ := h.sim; ⟨t, p, sim_viewN s h.inert⟩, inert_viewN⟩
theorem QT.view (h : QT X cls W e tf) : QT X cls W e (tView tf) := ⟨let ⟨t, p, s⟩ := h.sim; ⟨t, p, sim_viewT s h.inert⟩, inert_viewT⟩

/-! ### methods that change an owned object -/
def Mut1 (K : PySem.W.Frag) (T : String) (r : V → List V → Hp → VK → Prop) (op : D → List D → Option (D × D)) : Prop := ∀ G H l d vs xs z d', Obj K G H l d → RepL K G vs xs → Ex G H → op d xs = some (z, d') → ∀ Q : VK, (∀ v o, Rep K G v z → Obj K G (upd H l o) l d' → Q v (upd H l o)) → r (.ref l) vs H Q
def isLst : D → Bool
  | .lst _ => true
  | _ => false
def isDct : D → Bool
  | .dK _ => true
  | .dT _ => true
  | _ => false
def mineOf (ρ : List Sl) (i : Nat) : Option (Sl × D) := match ρ[i]? with
  | some s => match s.mine with
    | some d => some (s, d)
    | none => none
  | none => none
theorem mineOf_some {ρ : List Sl} {i : Nat} {s : Sl} {d : D} (h : mineOf ρ i = some (s, d)) : ρ[i]? = some s ∧ s.mine = some d := by
  unfold mineOf at h
  split at h
  · rename_i s' e
    split at h
    · rename_i d' e2
      cases h
      exact ⟨e, e2⟩
    · cases h
  · cases h
def mutAt (i : Nat) (op : D → Option (D × D)) : M D := fun ρ => match mineOf ρ i with
  | some (s, d) => match op d with
    | some (z, d') => .ok z (ρ.set i (s.with d'))
    | none => .bad
  | none => .bad
def eMut (ok : D → Bool) (i : Nat) (op : D → List D → Option (D × D)) (fa : M (List D)) : M D := fun ρ => match mineOf ρ i with
  | some (_, d) => if ok d then mbind fa (fun xs => mutAt i fun d => op d xs) ρ else .bad
  | none => .bad
theorem inert_mutAt {i : Nat} {op : D → Option (D × D)} : Inert (mutAt i op) := fun ρ n a ρ' h => by
  unfold mutAt at h
  split at h
  · rename_i s d e
    obtain ⟨h1, h2⟩ := mineOf_some e
    rw [n i s h1] at h2
    cases h2
  · cases h
theorem inert_mut {ok : D → Bool} {i : Nat} {op : D → List D → Option (D × D)} {fa : M (List D)} : Inert (eMut ok i op fa) := fun ρ n a ρ' h => by
  unfold eMut at h
  split at h
  · rename_i s d e
    obtain ⟨h1, h2⟩ := mineOf_some e
    rw [n i _ h1] at h2
    cases h2
  · cases h
theorem mutAt_wp {i : Nat} {op : D → Option (D × D)} {ρ : List Sl} {P : D → List Sl → Prop} {E : Nat → List Sl → Prop} (h : wpR (mutAt i op ρ) P E) : ∃ s d z d', ρ[i]? = some s ∧ s.mine = some d ∧ op d = some (z, d') ∧ P z (ρ.set i (s.with d')) := by
  unfold mutAt at h
  split at h
  · rename_i s d e
    obtain ⟨h1, h2⟩ := mineOf_some e
    split at h
    · rename_i z d' e2
      exact ⟨s, d, z, d', h1, h2, e2, h⟩
    · exact h.elim
  · exact h.elim
/-- o.m(..), o an owned slot -/
theorem sim_bm {K : PySem.W.Frag} {T : String} {ok : D → Bool} {i : Nat} {r : V → List V → Hp → VK → Prop} {op : D → List D → Option (D × D)} {t : TA} {fa : M (List D)} (hr : Mut1 K T r op) (hT : ∀ G H l d, ok d = true → Obj K G H l d → tyV K T (.ref l) H) (ha : SimA K cls W t fa) : SimE K cls W (tBM K T r (tVar i) t) (eMut ok i op fa) := fun F ρ σ G H c Q w => by
  unfold eMut at w
  split at w
  · rename_i s d e
    obtain ⟨h1, h2⟩ := mineOf_some e
    obtain ⟨l, a1, a2, a3, a4⟩ := c.mine h1 h2
    split at w
    · rename_i hok
      refine ⟨.ref l, a1, hT G H l d hok a2, ?_⟩
      refine ha F ρ σ G H c _ ((wpR_bind w).mono (fun xs ρ1 w1 v1 G1 H1 e1 c1 r1 => ?_) fun _ _ p => p)
      obtain ⟨s1, d1, z, d', b1, b2, b3, b4⟩ := mutAt_wp w1
      obtain ⟨l1, x1, x2, x3, x4⟩ := c1.mine b1 b2
      rw [a1] at x1
      cases x1
      exact hr G1 H1 l d1 v1 xs z d' x2 r1 c1.ex b3 Q fun v o rv ho => b4 v G1 _ e1 (c1.write b1 b2 a1 ho) rv
    · exact w.elim
  · exact w.elim
theorem sim_bm0 {K : PySem.W.Frag} {T : String} {ok : D → Bool} {i : Nat} {r : V → List V → Hp → VK → Prop} {op : D → List D → Option (D × D)} (hr : Mut1 K T r op) (hT : ∀ G H l d, ok d = true → Obj K G H l d → tyV K T (.ref l) H) : SimE K cls W (tBM0 K T r (tVar i)) (eMut ok i op aNil) := fun F ρ σ G H c Q w => by
  unfold eMut at w
  split at w
  · rename_i s d e
    obtain ⟨h1, h2⟩ := mineOf_some e
    obtain ⟨l, a1, a2, a3, a4⟩ := c.mine h1 h2
    split at w
    · rename_i hok
      refine ⟨.ref l, a1, hT G H l d hok a2, ?_⟩
      obtain ⟨s1, d1, z, d', b1, b2, b3, b4⟩ := mutAt_wp w
      obtain ⟨l1, x1, x2, x3, x4⟩ := c.mine b1 b2
      rw [a1] at x1
      cases x1
      exact hr G H l d1 [] [] z d' x2 .nil c.ex b3 Q fun v o rv ho => b4 v G _ (Same.refl G) (c.write b1 b2 a1 ho) rv
    · exact w.elim
  · exact w.elim
theorem tyV_lst {K : PySem.W.Frag} (G H : Hp) (l : Addr) (d : D) (h : isLst d = true) (ho : Obj K G H l d) : tyV K "list" (.ref l) H := by
  cases d with
  | lst ds => obtain ⟨xs, e, _⟩ := ho; exact .inl ⟨rfl, xs, .inl (.inl e)⟩
  | _ => cases h
/-- x.m(e ..) of an owned list: hp from pe_bm -/
theorem q_lm (i : Nat) {r : V → List V → Hp → VK → Prop} {op : D → List D → Option (D × D)} {fa : M (List D)} (hp : ∀ t, PA X es t → PE X e (tBM X.K "list" r (tVar i) t)) (hr : Mut1 X.K "list" r op) (ha : QA X cls W es fa) : QE X cls W e (eMut isLst i op fa) := by
  obtain ⟨⟨t, p, s⟩, _⟩ := ha
  exact ⟨⟨_, hp t p, sim_bm hr (fun G H l d => tyV_lst G H l d) s⟩, inert_mut⟩
theorem q_lm0 (i : Nat) {r : V → List V → Hp → VK → Prop} {op : D → List D → Option (D × D)} (hp : PE X e (tBM0 X.K "list" r (tVar i))) (hr : Mut1 X.K "list" r op) : QE X cls W e (eMut isLst i op aNil) :=
  ⟨⟨_, hp, sim_bm0 hr (fun G H l d => tyV_lst G H l d)⟩, inert_mut⟩
def opAppend : D → List D → Option (D × D)
  | .lst ds, [x] => if ds.length ≤ 100000 then some (.non, .lst (ds ++ [x])) else none
  | _, _ => none
theorem mut_append {K : PySem.W.Frag} : Mut1 K "list" rAppend opAppend := fun G H l d vs xs z d' ho rv ex h Q q => by
  unfold opAppend at h
  split at h
  · split at h
    · rename_i hl
      cases h
      obtain ⟨ys, e, r⟩ := ho
      cases rv with
      | cons r1 r2 =>
        cases r2
        exact ⟨l, ys, _, rfl, rfl, e, by rw [r.length]; exact sz_lt hl, q _ _ .non ⟨_, upd_same, r.append (.cons r1 .nil)⟩⟩
    · cases h
  · cases h
def opPop : D → List D → Option (D × D)
  | .lst ds, [] => match ds[ds.length - 1]? with
    | some y => some (y, .lst ds.dropLast)
    | none => none
  | _, _ => none
theorem mut_pop {K : PySem.W.Frag} : Mut1 K "list" rPop opPop := fun G H l d vs xs z d' ho rv ex h Q q => by
  unfold opPop at h
  split at h
  · split at h
    · rename_i y e
      cases h
      obtain ⟨ys, eh, r⟩ := ho
      obtain ⟨u, hu, ru⟩ := r.get e
      cases rv
      exact ⟨l, ys, u, rfl, rfl, eh, by rw [r.length]; exact hu, q _ _ ru ⟨_, upd_same, r.dropLast⟩⟩
    · cases h
  · cases h
/-- x[k] = e, x an owned list or dict: first e, then k -/
def putAt (ok : D → Bool) (i : Nat) (op : D → D → D → Option D) (fk : M D) (v : D) : M D := fun ρ => match mineOf ρ i with
  | some (_, d) => if ok d then mbind fk (fun k => mutAt i fun d => (op d k v).map fun d' => (.non, d')) ρ else .bad
  | none => .bad
def sPutAt (ok : D → Bool) (i : Nat) (op : D → D → D → Option D) (fk fe : M D) : MS := sDo (mbind fe fun v => putAt ok i op fk v) fun _ => sSkip
def PutOk (K : PySem.W.Frag) (t : V → V → V → Hp → (Hp → Prop) → Prop) (op : D → D → D → Option D) : Prop := ∀ G H l d k kd v vd d', Ex G H → Obj K G H l d → Rep K G k kd → Rep K G v vd → op d kd vd = some d' → ∀ Q : Hp → Prop, (∀ o, Obj K G (upd H l o) l d' → Q (upd H l o)) → t (.ref l) k v H Q
theorem sim_putAt {K : PySem.W.Frag} {te tk : TE} {ok : D → Bool} {i : Nat} {fk fe : M D} {t : V → V → V → Hp → (Hp → Prop) → Prop} {op : D → D → D → Option D} (hr : PutOk K t op) (he : SimE K cls W te fe) (hk : SimE K cls W tk fk) :
    SimS K cls W (fun E σ H => te σ H fun v H1 => tVar i σ H1 fun o H2 => tk σ H2 fun k H3 => t o k v H3 fun H4 => E.nx σ H4) (sPutAt ok i op fk fe) := fun F ρ σ G H c E w => by
  have w : wpR _ (fun _ ρ' => ∀ σ' G' H', Ex G G' → CS K F G' H' σ' ρ' → E.nx σ' H') (PEx K cls W F G σ) := sDo_wp (σ := σ) w fun a ρ' p => p
  refine he F ρ σ G H c _ ((wpR_bind w).mono (fun v ρ1 w1 v1 G1 H1 e1 c1 r1 => ?_) fun _ _ p => p)
  unfold putAt at w1
  split at w1
  · rename_i s d e
    obtain ⟨h1, h2⟩ := mineOf_some e
    obtain ⟨l, a1, a2, a3, a4⟩ := c1.mine h1 h2
    split at w1
    · rename_i hok
      refine ⟨.ref l, a1, ?_⟩
      refine hk F ρ1 σ G1 H1 c1 _ ((wpR_bind w1).mono (fun k ρ2 w2 v2 G2 H2 e2 c2 r2 => ?_) fun _ _ p => p.mono e1)
      obtain ⟨s1, d1, z, d', b1, b2, b3, b4⟩ := mutAt_wp w2
      obtain ⟨d2, x1, x2⟩ := Option.map_eq_some_iff.mp b3
      cases x2
      obtain ⟨l1, y1, y2, y3, y4⟩ := c2.mine b1 b2
      rw [a1] at y1
      cases y1
      exact hr G2 H2 l d1 v2 k v1 v d' c2.ex y2 r2 (r1.mono e2) x1 _ fun o ho => b4 σ G2 _ (e1.trans e2) (c2.write b1 b2 a1 ho)
    · exact w1.elim
  · exact w1.elim
def opSetIx : D → D → D → Option D
  | .lst ds, .int k, v => (ixN ds.length k).map fun j => .lst (ds.set j v)
  | _, _, _ => none
theorem put_lst {K : PySem.W.Frag} : PutOk K rSetL opSetIx := fun G H l d k kd v vd d' ex ho rk rv h Q q => by
  unfold opSetIx at h
  split at h
  · rename_i ds k
    obtain ⟨j, h1, h2⟩ := Option.map_eq_some_iff.mp h
    cases h2
    obtain ⟨xs, e, r⟩ := ho
    cases rk
    exact ⟨l, xs, k, j, rfl, rfl, e, by rw [r.length]; exact h1, q _ ⟨_, upd_same, r.set rv j⟩⟩
  · cases h
/-- x[k] = e, x an owned list -/
theorem q_setIx (i : Nat) {k : Expr} {fk : M D} (hp : ∀ te tk, PE X e te → PE X k tk → PS X st (tAsg te (gSub (tVar i) tk rSetL))) (he : QE X cls W e f) (hk : QE X cls W k fk) : QS X cls W st (sPutAt isLst i opSetIx fk f) := by
  obtain ⟨⟨te, pe, se⟩, _⟩ := he
  obtain ⟨⟨tk, pk, sk⟩, _⟩ := hk
  exact ⟨⟨_, hp _ _ pe pk, sim_putAt put_lst se sk⟩⟩

/-! ### dicts -/
section
variable {κ : Type} [DecidableEq κ]
def lookD (kvs : List (κ × D)) (k : κ) : Option D := (kvs.find? fun kv => decide (kv.1 = k)).map (·.2)
def putD (kvs : List (κ × D)) (k : κ) (v : D) : List (κ × D) :=
  if (kvs.any fun kv => decide (kv.1 = k)) = true then kvs.map (fun kv => if kv.1 = k then (kv.1, v) else kv) else kvs ++ [(k, v)]
end
def keyK : D → Option Key
  | .int i => some (.inl i)
  | .str x => some (.inr x)
  | _ => none
def keysK : List D → Option (List Key)
  | [] => some []
  | d :: ds => match keyK d, keysK ds with
    | some k, some ks => some (k :: ks)
    | _, _ => none
def keyT : D → Option (List Key)
  | .tup (d :: ds) => keysK (d :: ds)
  | _ => none
theorem keysK_all : ∀ {ds : List D} {ks : List Key}, keysK ds = some ks → ds.all keyD = true
  | [], _, _ => rfl
  | d :: ds, _, h => by
    unfold keysK at h
    split at h
    · rename_i k ks h1 h2
      rw [List.all_cons, keysK_all h2, Bool.and_true]
      cases d <;> first | rfl | cases h1
    · cases h
theorem keyT_tp {G : Hp} {a : Addr} {xs : List V} {ds : List D} {ks : List Key} (h : keyT (.tup ds) = some ks) (t : Tp G a xs ds) : G a = some (.tup xs) ∧ keysK ds = some ks := by
  cases ds with
  | nil => cases h
  | cons d ds =>
    have h : keysK (d :: ds) = some ks := h
    have hf : flat (d :: ds) = true := keysK_all h
    rcases t with ⟨_, t⟩ | ⟨f, _⟩
    · exact ⟨t, h⟩
    · rw [hf] at f
      cases f
section
variable {K : PySem.W.Frag} {G : Hp}
theorem keyK_rep {d : D} {k : Key} (h : keyK d = some k) {v : V} (r : Rep K G v d) : v = kV k := by
  cases d with
  | int i => cases h; cases r; rfl
  | str i => cases h; cases r; rfl
  | _ => cases h
theorem keysK_rep : ∀ {ds : List D} {ks : List Key}, keysK ds = some ks → ∀ {vs : List V}, RepL K G vs ds → vs = ks.map kV
  | [], _, h, _, .nil => by cases h; rfl
  | d :: ds, _, h, _, .cons r1 r2 => by
    unfold keysK at h
    split at h
    · rename_i k ks h1 h2
      cases h
      rw [List.map_cons, keyK_rep h1 r1, keysK_rep h2 r2]
    · cases h
theorem RepK.look {k : Key} : ∀ {xs : List (Key × V)} {ds : List (Key × D)}, RepK K G xs ds → (lookD ds k = none ∧ valV xs k = none) ∨ ∃ d v, lookD ds k = some d ∧ valV xs k = some v ∧ Rep K G v d
  | _, _, .nil => .inl ⟨rfl, rfl⟩
  | _, _, .cons (k := j) (v := v) (vs := vs) (d := d) (ds := ds) h r => by
    by_cases e : j = k
    · exact .inr ⟨d, v, by simp [lookD, List.find?_cons, e], by simp [valV, List.find?_cons, e], h⟩
    · have e1 : lookD ((j, d) :: ds) k = lookD ds k := by simp [lookD, List.find?_cons, e]
      have e2 : valV ((j, v) :: vs) k = valV vs k := by simp [valV, List.find?_cons, e]
      rw [e1, e2]
      exact RepK.look r
theorem RepT.look {k : List Key} : ∀ {xs : List (List Key × V)} {ds : List (List Key × D)}, RepT K G xs ds → (lookD ds k = none ∧ valV xs k = none) ∨ ∃ d v, lookD ds k = some d ∧ valV xs k = some v ∧ Rep K G v d
  | _, _, .nil => .inl ⟨rfl, rfl⟩
  | _, _, .cons (k := j) (v := v) (vs := vs) (d := d) (ds := ds) h r => by
    by_cases e : j = k
    · exact .inr ⟨d, v, by simp [lookD, List.find?_cons, e], by simp [valV, List.find?_cons, e], h⟩
    · have e1 : lookD ((j, d) :: ds) k = lookD ds k := by simp [lookD, List.find?_cons, e]
      have e2 : valV ((j, v) :: vs) k = valV vs k := by simp [valV, List.find?_cons, e]
      rw [e1, e2]
      exact RepT.look r
theorem RepK.any {k : Key} : ∀ {xs : List (Key × V)} {ds : List (Key × D)}, RepK K G xs ds → (xs.any fun kv => decide (kv.1 = k)) = ds.any fun kv => decide (kv.1 = k)
  | _, _, .nil => rfl
  | _, _, .cons h r => by rw [List.any_cons, List.any_cons, RepK.any r]
theorem RepT.any {k : List Key} : ∀ {xs : List (List Key × V)} {ds : List (List Key × D)}, RepT K G xs ds → (xs.any fun kv => decide (kv.1 = k)) = ds.any fun kv => decide (kv.1 = k)
  | _, _, .nil => rfl
  | _, _, .cons h r => by rw [List.any_cons, List.any_cons, RepT.any r]
theorem RepK.mapPut {k : Key} {v : V} {d : D} (hv : Rep K G v d) : ∀ {xs : List (Key × V)} {ds : List (Key × D)}, RepK K G xs ds → RepK K G (xs.map fun kv => if kv.1 = k then (kv.1, v) else kv) (ds.map fun kv => if kv.1 = k then (kv.1, d) else kv)
  | _, _, .nil => .nil
  | _, _, .cons (k := j) h r => by
    rw [List.map_cons, List.map_cons]
    by_cases e : j = k
    · simp only [e, if_true]
      exact .cons hv (RepK.mapPut hv r)
    · simp only [e, if_false]
      exact .cons h (RepK.mapPut hv r)
theorem RepT.mapPut {k : List Key} {v : V} {d : D} (hv : Rep K G v d) : ∀ {xs : List (List Key × V)} {ds : List (List Key × D)}, RepT K G xs ds → RepT K G (xs.map fun kv => if kv.1 = k then (kv.1, v) else kv) (ds.map fun kv => if kv.1 = k then (kv.1, d) else kv)
  | _, _, .nil => .nil
  | _, _, .cons (k := j) h r => by
    rw [List.map_cons, List.map_cons]
    by_cases e : j = k
    · simp only [e, if_true]
      exact .cons hv (RepT.mapPut hv r)
    · simp only [e, if_false]
      exact .cons h (RepT.mapPut hv r)
theorem RepK.snoc {k : Key} {v : V} {d : D} (hv : Rep K G v d) : ∀ {xs : List (Key × V)} {ds : List (Key × D)}, RepK K G xs ds → RepK K G (xs ++ [(k, v)]) (ds ++ [(k, d)])
  | _, _, .nil => .cons hv .nil
  | _, _, .cons h r => .cons h (RepK.snoc hv r)
theorem RepT.snoc {k : List Key} {v : V} {d : D} (hv : Rep K G v d) : ∀ {xs : List (List Key × V)} {ds : List (List Key × D)}, RepT K G xs ds → RepT K G (xs ++ [(k, v)]) (ds ++ [(k, d)])
  | _, _, .nil => .cons hv .nil
  | _, _, .cons h r => .cons h (RepT.snoc hv r)
theorem RepK.put {k : Key} {v : V} {d : D} (hv : Rep K G v d) {xs : List (Key × V)} {ds : List (Key × D)} (h : RepK K G xs ds) : RepK K G (putK xs k v) (putD ds k d) := by
  unfold putK putD
  rw [h.any]
  split
  · exact h.mapPut hv
  · exact h.snoc hv
theorem RepT.put {k : List Key} {v : V} {d : D} (hv : Rep K G v d) {xs : List (List Key × V)} {ds : List (List Key × D)} (h : RepT K G xs ds) : RepT K G (putK xs k v) (putD ds k d) := by
  unfold putK putD
  rw [h.any]
  split
  · exact h.mapPut hv
  · exact h.snoc hv
theorem RepK.length : ∀ {xs : List (Key × V)} {ds : List (Key × D)}, RepK K G xs ds → xs.length = ds.length
  | _, _, .nil => rfl
  | _, _, .cons _ r => by rw [List.length_cons, List.length_cons, RepK.length r]
theorem RepT.length : ∀ {xs : List (List Key × V)} {ds : List (List Key × D)}, RepT K G xs ds → xs.length = ds.length
  | _, _, .nil => rfl
  | _, _, .cons _ r => by rw [List.length_cons, List.length_cons, RepT.length r]
end
def opPutD : D → D → D → Option D
  | .dK kvs, k, v => match keyK k with
    | some k => if kvs.length ≤ 100000 then some (.dK (putD kvs k v)) else none
    | none => none
  | .dT kvs, k, v => match keyT k with
    | some k => if kvs.length ≤ 100000 then some (.dT (putD kvs k v)) else none
    | none => none
  | _, _, _ => none
/-- d.get(k), by its outcome -/
def opGetD : D → D → Option (Option D)
  | .dK kvs, k => match keyK k with
    | some k => some (lookD kvs k)
    | none => none
  | .dT kvs, k => match keyT k with
    | some k => some (lookD kvs k)
    | none => none
  | _, _ => none
theorem put_dct {K : PySem.W.Frag} : PutOk K (fun o k v H Q => ∃ a H4, o = .ref a ∧ DPut H a k v H4 ∧ Q H4) opPutD := fun G H l d k kd v vd d' ex ho rk rv h Q q => by
  unfold opPutD at h
  split at h
  · split at h
    · rename_i kk hk
      split at h
      · rename_i hl
        cases h
        obtain ⟨xs, e, r⟩ := ho
        rw [keyK_rep hk rk]
        exact ⟨l, _, rfl, DPut.k e (by rw [r.length]; exact sz_lt hl), q _ ⟨_, upd_same, r.put rv⟩⟩
      · cases h
    · cases h
  · split at h
    · rename_i kk hk
      split at h
      · rename_i hl
        cases h
        obtain ⟨xs, e, r⟩ := ho
        cases rk with
        | tup ht rt =>
          obtain ⟨ht, hk⟩ := keyT_tp hk ht
          have e2 := keysK_rep hk rt
          subst e2
          exact ⟨l, _, rfl, DPut.t e (ex _ _ ht) (by rw [r.length]; exact sz_lt hl), q _ ⟨_, upd_same, r.put rv⟩⟩
        | _ => cases hk
      · cases h
    · cases h
  · cases h
theorem get_dct {K : PySem.W.Frag} {F : Fm} {G H : Hp} {σ : St} {ρ : List Sl} {x y : V} {d k : D} {o : Option D} (c : CS K F G H σ ρ) (rd : Rep K G x d) (rk : Rep K G y k) (h : opGetD d k = some o) : ∃ a r, x = .ref a ∧ IsD H a ∧ DGet H a y r ∧ ((o = none ∧ r = none) ∨ ∃ z v, o = some z ∧ r = some v ∧ Rep K G v z) := by
  unfold opGetD at h
  split at h
  · split at h
    · rename_i kk hk
      cases h
      rw [keyK_rep hk rk]
      cases rd with
      | dK hd r =>
        have hd := c.ex.rd hd
        exact ⟨_, _, rfl, .inl ⟨_, hd⟩, .inl ⟨_, _, hd, rfl, rfl⟩, r.look.imp (fun z => z) fun ⟨z, v, p, q, r⟩ => ⟨z, v, p, q, r⟩⟩
    · cases h
  · split at h
    · rename_i kk hk
      cases h
      cases rd with
      | dT hd r =>
        have hd := c.ex.rd hd
        cases rk with
        | tup ht rt =>
          obtain ⟨ht, hk⟩ := keyT_tp hk ht
          have e2 := keysK_rep hk rt
          subst e2
          exact ⟨_, _, rfl, .inr ⟨_, hd⟩, .inr ⟨_, _, _, hd, rfl, c.ex _ _ ht, rfl⟩, r.look.imp (fun z => z) fun ⟨z, v, p, q, r⟩ => ⟨z, v, p, q, r⟩⟩
        | _ => cases hk
    · cases h
  · cases h
/-- d[k] = e, d an owned dict -/
theorem q_setD (i : Nat) {k : Expr} {fk : M D} (hp : ∀ te tk, PE X e te → PE X k tk → PS X st (sDPut (tVar i) tk te)) (he : QE X cls W e f) (hk : QE X cls W k fk) : QS X cls W st (sPutAt isDct i opPutD fk f) := by
  obtain ⟨⟨te, pe, se⟩, _⟩ := he
  obtain ⟨⟨tk, pk, sk⟩, _⟩ := hk
  exact ⟨⟨_, hp _ _ pe pk, sim_putAt put_dct se sk⟩⟩
/-- d[k] -/
def opIxD (d k : D) : Option D := (opGetD d k).bind id
theorem q_dget {k : Expr} {fk : M D} (hp : ∀ td tk, PE X a td → PE X k tk → PE X e (tDGet td tk)) (ha : QE X cls W a f) (hk : QE X cls W k fk) : QE X cls W e (eBin opIxD f fk) := by
  obtain ⟨⟨ta, pa, sa⟩, ia⟩ := ha
  obtain ⟨⟨tk, pk, sk⟩, ik⟩ := hk
  refine ⟨⟨_, hp _ _ pa pk, fun F ρ σ G H c Q w => ?_⟩, inert_bin ia ik⟩
  refine sa F ρ σ G H c _ ((wpR_bind w).mono (fun x ρ1 w1 v1 G1 H1 e1 c1 r1 => ?_) fun _ _ p => p)
  refine sk F ρ1 σ G1 H1 c1 _ ((wpR_bind w1).mono (fun y ρ2 w2 v2 G2 H2 e2 c2 r2 => ?_) fun _ _ p => p.mono e1)
  obtain ⟨z, ez, p⟩ := wpR_lift w2
  obtain ⟨o, eo, e3⟩ := Option.bind_eq_some_iff.mp ez
  have e3 : o = some z := e3
  subst e3
  obtain ⟨aa, r, hx, _, hg, q⟩ := get_dct c2 (r1.mono e2) r2 eo
  rcases q with ⟨q, _⟩ | ⟨z', v, q1, q2, q3⟩
  · cases q
  · cases q1
    subst q2
    exact ⟨aa, v, hx, hg, p v G2 H2 (e1.trans e2) c2 q3⟩
/-- d.get(k, x) -/
def eGet2 (f fk fx : M D) : M D := mbind f fun d => fun ρ => if isDct d then mbind fk (fun k => mbind fx fun x => lift ((opGetD d k).map fun o => o.getD x)) ρ else .bad
theorem q_dget2 {k x : Expr} {fk fx : M D} (hp : ∀ td tk tx, PE X a td → PE X k tk → PE X x tx → PE X e (tDGet2 td tk tx)) (ha : QE X cls W a f) (hk : QE X cls W k fk) (hx : QE X cls W x fx) : QE X cls W e (eGet2 f fk fx) := by
  obtain ⟨⟨ta, pa, sa⟩, ia⟩ := ha
  obtain ⟨⟨tk, pk, sk⟩, ik⟩ := hk
  obtain ⟨⟨tx, px, sx⟩, ix⟩ := hx
  refine ⟨⟨_, hp _ _ _ pa pk px, fun F ρ σ G H c Q w => ?_⟩, inert_bind ia fun d ρ n y ρ' h => ?_⟩
  · refine sa F ρ σ G H c _ ((wpR_bind w).mono (fun d ρ1 w1 v1 G1 H1 e1 c1 r1 => ?_) fun _ _ p => p)
    split at w1
    · rename_i hd
      have isd : ∃ a, v1 = .ref a ∧ IsD H1 a := by
        cases r1 with
        | dK h _ => exact ⟨_, rfl, .inl ⟨_, c1.ex.rd h⟩⟩
        | dT h _ => exact ⟨_, rfl, .inr ⟨_, c1.ex.rd h⟩⟩
        | _ => cases hd
      obtain ⟨aa, rfl, hI⟩ := isd
      refine ⟨aa, rfl, hI, ?_⟩
      refine sk F ρ1 σ G1 H1 c1 _ ((wpR_bind w1).mono (fun y ρ2 w2 v2 G2 H2 e2 c2 r2 => ?_) fun _ _ p => p.mono e1)
      refine sx F ρ2 σ G2 H2 c2 _ ((wpR_bind w2).mono (fun u ρ3 w3 v3 G3 H3 e3 c3 r3 => ?_) fun _ _ p => p.mono (e1.trans e2))
      obtain ⟨z, ez, p⟩ := wpR_lift w3
      obtain ⟨o, eo, e4⟩ := Option.map_eq_some_iff.mp ez
      obtain ⟨a2, r, hx, _, hg, q⟩ := get_dct c3 (r1.mono (e2.trans e3)) (r2.mono e3) eo
      cases hx
      refine ⟨r, hg, p _ G3 H3 ((e1.trans e2).trans e3) c3 ?_⟩
      rcases q with ⟨q1, q2⟩ | ⟨z', v, q1, q2, q3⟩
      · subst q1; subst q2; subst e4; exact r3
      · subst q1; subst q2; subst e4; exact q3
    · exact w1.elim
  · split at h
    · exact inert_bind ik (fun _ => inert_bind ix fun _ => inert_lift) ρ n y ρ' h
    · cases h
/-- k in d, k not in d -/
def opInD (neg : Bool) (k d : D) : Option D := (opGetD d k).map fun o => .bl (if neg then !o.isSome else o.isSome)
theorem sim_inD {K : PySem.W.Frag} {td tk : TE} {fd fk : M D} (sk : SimE K cls W tk fk) (sd : SimE K cls W td fd) : SimE K cls W (tDIn tk td) (eBin (opInD false) fk fd) := fun F ρ σ G H c Q w => by
  refine sk F ρ σ G H c _ ((wpR_bind w).mono (fun x ρ1 w1 v1 G1 H1 e1 c1 r1 => ?_) fun _ _ p => p)
  refine sd F ρ1 σ G1 H1 c1 _ ((wpR_bind w1).mono (fun y ρ2 w2 v2 G2 H2 e2 c2 r2 => ?_) fun _ _ p => p.mono e1)
  obtain ⟨z, ez, p⟩ := wpR_lift w2
  obtain ⟨o, eo, e3⟩ := Option.map_eq_some_iff.mp ez
  obtain ⟨aa, r, hx, _, hg, q⟩ := get_dct c2 r2 (r1.mono e2) eo
  refine ⟨aa, r, hx, hg, p _ G2 H2 (e1.trans e2) c2 ?_⟩
  rcases q with ⟨q1, q2⟩ | ⟨z', v, q1, q2, q3⟩
  · subst q1; subst q2; subst e3; exact .bl _
  · subst q1; subst q2; subst e3; exact .bl _
theorem sim_ninD {K : PySem.W.Frag} {td tk : TE} {fd fk : M D} (sk : SimE K cls W tk fk) (sd : SimE K cls W td fd) : SimE K cls W (tDNotIn tk td) (eBin (opInD true) fk fd) := fun F ρ σ G H c Q w => by
  refine sk F ρ σ G H c _ ((wpR_bind w).mono (fun x ρ1 w1 v1 G1 H1 e1 c1 r1 => ?_) fun _ _ p => p)
  refine sd F ρ1 σ G1 H1 c1 _ ((wpR_bind w1).mono (fun y ρ2 w2 v2 G2 H2 e2 c2 r2 => ?_) fun _ _ p => p.mono e1)
  obtain ⟨z, ez, p⟩ := wpR_lift w2
  obtain ⟨o, eo, e3⟩ := Option.map_eq_some_iff.mp ez
  obtain ⟨aa, r, hx, _, hg, q⟩ := get_dct c2 r2 (r1.mono e2) eo
  refine ⟨aa, r, hx, hg, p _ G2 H2 (e1.trans e2) c2 ?_⟩
  rcases q with ⟨q1, q2⟩ | ⟨z', v, q1, q2, q3⟩
  · subst q1; subst q2; subst e3; exact .bl _
  · subst q1; subst q2; subst e3; exact .bl _
theorem q_inD (hu : X.A.units + 1 < cLine) (ha : QE X cls W a f) (hb : QE X cls W b g) (hm : behindInMarks .In b = false := by rfl) : QE X cls W (.Compare a [.In] [b] pos) (eBin (opInD false) f g) := by
  obtain ⟨⟨ta, pa, sa⟩, ia⟩ := ha
  obtain ⟨⟨tb, pb, sb⟩, ib⟩ := hb
  exact ⟨⟨_, pe_cmp (pc_din hu pa pb) hm, sim_inD sa sb⟩, inert_bin ia ib⟩
theorem q_ninD (hu : X.A.units + 1 < cLine) (ha : QE X cls W a f) (hb : QE X cls W b g) (hm : behindInMarks .NotIn b = false := by rfl) : QE X cls W (.Compare a [.NotIn] [b] pos) (eBin (opInD true) f g) := by
  obtain ⟨⟨ta, pa, sa⟩, ia⟩ := ha
  obtain ⟨⟨tb, pb, sb⟩, ib⟩ := hb
  exact ⟨⟨_, pe_cmp (pc_dnotin hu pa pb) hm, sim_ninD sa sb⟩, inert_bin ia ib⟩
theorem q_dict0 : QN X cls W (.Dict [] [] pos) (eC (.dK [])) := ⟨⟨_, pe_dnewK, fun F ρ σ G H c Q w p hp => by
  obtain ⟨c2, f2⟩ := fr_new c hp (o := .dK []) (d := .dK []) ⟨[], upd_same, .nil⟩
  exact w p G _ (Same.refl G) c2 f2⟩, inert_pure⟩
theorem q_dictT : QN X cls W (.Dict [] [] pos) (eC (.dT [])) := ⟨⟨_, pe_dnewT, fun F ρ σ G H c Q w p hp => by
  obtain ⟨c2, f2⟩ := fr_new c hp (o := .dT []) (d := .dT []) ⟨[], upd_same, .nil⟩
  exact w p G _ (Same.refl G) c2 f2⟩, inert_pure⟩
end
end NT

set_option Elab.async false
set_option linter.all false
set_option maxRecDepth 100000
set_option maxHeartbeats 4000000
namespace NT
open PySem L2

/-! ### comprehensions -/
def isFree (s : Option Sl) : Bool := match s with
  | some .no => true
  | some (.val _) => true
  | _ => false
def wipeS (ρ : List Sl) : List Nat → List Sl
  | [] => ρ
  | v :: vs => (wipeS ρ vs).set v .no
/-- the slots vs as they were -/
def backS (ρ : List Sl) : List Sl → List Nat → List Sl
  | r, [] => r
  | r, v :: vs => (backS ρ r vs).set v (ρ.getD v .no)
section
variable {K : PySem.W.Frag} {F : Fm} {G H G' H' : Hp} {σ σ' : St} {ρ ρ' : List Sl} {cls : Nat → Value} {W : WX}
theorem isFree_mine {i : Nat} (h : isFree ρ[i]? = true) {s : Sl} {d : D} (hs : ρ[i]? = some s) (hm : s.mine = some d) : False := by
  rw [hs] at h
  cases s with
  | own x => exact Bool.false_ne_true h
  | bor x => exact Bool.false_ne_true h
  | no => cases hm
  | val x => cases hm
theorem CS.clear (c : CS K F G H σ ρ) {i : Nat} (h : isFree ρ[i]? = true) : CS K F G H (σ.set i none) (ρ.set i .no) := by
  have old : ∀ {j : Nat} {s : Sl}, (ρ.set i .no)[j]? = some s → s ≠ .no → i ≠ j ∧ ρ[j]? = some s := fun {j s} h1 h2 => by
    rcases get_set_cases h1 with ⟨_, z, _⟩ | z
    · exact (h2 z.symm).elim
    · exact z
  have nn : ∀ {s : Sl} {d : D}, s.mine = some d → s ≠ .no := fun h z => by subst z; cases h
  refine ⟨c.ex, c.g0, c.fr, c.gn, by simpa using c.len, fun j d e => ?_, fun j d e => ?_, fun j d e => ?_, fun j l e => ?_, fun j k s1 s2 d1 d2 l hjk e1 m1 e2 m2 v1 v2 => ?_⟩
  · obtain ⟨ne, e⟩ := old e (fun z => by cases z)
    rw [List.getElem?_set_ne ne]
    exact c.vals j d e
  · obtain ⟨ne, e⟩ := old e (fun z => by cases z)
    rw [List.getElem?_set_ne ne]
    exact c.owns j d e
  · obtain ⟨ne, e⟩ := old e (fun z => by cases z)
    rw [List.getElem?_set_ne ne]
    exact c.bors j d e
  · obtain ⟨d, h1, h2⟩ := c.bb j l e
    have ne : i ≠ j := fun z => by
      subst z
      exact isFree_mine h h1 rfl
    exact ⟨d, by rw [List.getElem?_set_ne ne]; exact h1, by rw [List.getElem?_set_ne ne]; exact h2⟩
  · obtain ⟨n1, e1⟩ := old e1 (nn m1)
    obtain ⟨n2, e2⟩ := old e2 (nn m2)
    rw [List.getElem?_set_ne n1] at v1
    rw [List.getElem?_set_ne n2] at v2
    exact c.sep j k s1 s2 d1 d2 l hjk e1 m1 e2 m2 v1 v2
theorem wipeS_length : ∀ (vs : List Nat), (wipeS ρ vs).length = ρ.length
  | [] => rfl
  | v :: vs => by unfold wipeS; rw [List.length_set, wipeS_length vs]
theorem wipeS_free {i : Nat} (h : isFree ρ[i]? = true) : ∀ (vs : List Nat), isFree (wipeS ρ vs)[i]? = true
  | [] => h
  | v :: vs => by
    unfold wipeS
    by_cases e : v = i
    · subst e
      have hl : v < (wipeS ρ vs).length := by
        rw [wipeS_length]
        cases q : ρ[v]? with
        | none => rw [q] at h; cases h
        | some s => exact (List.getElem?_eq_some_iff.mp q).1
      rw [List.getElem?_set_self hl]
      rfl
    · rw [List.getElem?_set_ne e]
      exact wipeS_free h vs
theorem CS.wipe (c : CS K F G H σ ρ) : ∀ (vs : List Nat), (∀ v ∈ vs, isFree ρ[v]? = true) → CS K F G H (wipe σ vs) (wipeS ρ vs)
  | [], _ => c
  | v :: vs, h => (CS.wipe c vs fun u hu => h u (List.mem_cons_of_mem _ hu)).clear (wipeS_free (h v List.mem_cons_self) vs)
theorem backS_length : ∀ (vs : List Nat), (backS ρ ρ' vs).length = ρ'.length
  | [] => rfl
  | v :: vs => by unfold backS; rw [List.length_set, backS_length vs]
theorem backS_in {i : Nat} (hl : i < ρ'.length) : ∀ (vs : List Nat), i ∈ vs → (backS ρ ρ' vs)[i]? = some (ρ.getD i .no)
  | v :: vs, h => by
    unfold backS
    by_cases e : v = i
    · subst e
      rw [List.getElem?_set_self (by rw [backS_length]; exact hl)]
    · rw [List.getElem?_set_ne e]
      exact backS_in hl vs ((List.mem_cons.mp h).resolve_left fun z => e z.symm)
theorem backS_out {i : Nat} : ∀ (vs : List Nat), i ∉ vs → (backS ρ ρ' vs)[i]? = ρ'[i]?
  | [], _ => rfl
  | v :: vs, h => by
    unfold backS
    rw [List.getElem?_set_ne (fun e => h (by simp [e]))]
    exact backS_out vs fun z => h (List.mem_cons_of_mem _ z)
theorem CS.unwipe (c : CS K F G H σ ρ) (c' : CS K F G' H' σ' ρ') (e : Ex G G') {vs : List Nat} (hf : ∀ v ∈ vs, isFree ρ[v]? = true) (hs : ∀ j : Nat, j ∉ vs → σ'[j]? = σ[j]?) (hl : σ'.length = σ.length) : CS K F G' H' σ (backS ρ ρ' vs) := by
  have rl : ρ'.length = ρ.length := by rw [← c'.len, hl, c.len]
  have cas : ∀ {i : Nat} {s : Sl}, (backS ρ ρ' vs)[i]? = some s → (i ∈ vs ∧ ρ[i]? = some s) ∨ (i ∉ vs ∧ ρ'[i]? = some s) := fun {i s} h => by
    by_cases hi : i ∈ vs
    · have hlt : i < ρ'.length := by
        rw [← backS_length (ρ := ρ) vs]
        exact (List.getElem?_eq_some_iff.mp h).1
      rw [backS_in hlt vs hi] at h
      cases h
      refine .inl ⟨hi, ?_⟩
      rw [List.getD_eq_getElem?_getD, List.getElem?_eq_getElem (by rw [← rl]; exact hlt)]
      rfl
    · rw [backS_out vs hi] at h
      exact .inr ⟨hi, h⟩
  have mn : ∀ {i : Nat} {s : Sl} {d : D}, (backS ρ ρ' vs)[i]? = some s → s.mine = some d → i ∉ vs ∧ ρ'[i]? = some s := fun {i s d} h hm => by
    rcases cas h with ⟨a, b⟩ | z
    · exact (isFree_mine (hf i a) b hm).elim
    · exact z
  refine ⟨c'.ex, c'.g0, c'.fr, c'.gn, by rw [backS_length, rl]; exact c.len, fun j d q => ?_, fun j d q => ?_, fun j d q => ?_, fun j l q => ?_, fun j k s1 s2 d1 d2 l hjk e1 m1 e2 m2 v1 v2 => ?_⟩
  · rcases cas q with ⟨a, b⟩ | ⟨a, b⟩
    · obtain ⟨v, x, y⟩ := c.vals j d b
      exact ⟨v, x, y.mono e⟩
    · rw [← hs j a]
      exact c'.vals j d b
  · obtain ⟨a, b⟩ := mn q rfl
    rw [← hs j a]
    exact c'.owns j d b
  · obtain ⟨a, b⟩ := mn q rfl
    rw [← hs j a]
    exact c'.bors j d b
  · obtain ⟨d0, h1, h2⟩ := c.bb j l q
    have nv : j ∉ vs := fun z => isFree_mine (hf j z) h1 rfl
    obtain ⟨d, h3, h4⟩ := c'.bb j l q
    exact ⟨d, by rw [backS_out vs nv]; exact h3, h2⟩
  · obtain ⟨n1, e1⟩ := mn e1 m1
    obtain ⟨n2, e2⟩ := mn e2 m2
    rw [← hs j n1] at v1
    rw [← hs k n2] at v2
    exact c'.sep j k s1 s2 d1 d2 l hjk e1 m1 e2 m2 v1 v2
theorem wipe_get {σ : St} : ∀ (vs : List Nat) (j : Nat), j ∉ vs → (wipe σ vs)[j]? = σ[j]?
  | [], _, _ => rfl
  | v :: vs, j, h => by
    unfold wipe
    rw [List.getElem?_set_ne (fun e => h (by simp [e]))]
    exact wipe_get vs j fun z => h (List.mem_cons_of_mem _ z)
theorem wipe_at {σ : St} : ∀ (vs : List Nat) (j : Nat), j ∈ vs → j < σ.length → (wipe σ vs)[j]? = some none
  | v :: vs, j, h, hl => by
    unfold wipe
    by_cases e : v = j
    · subst e
      rw [List.getElem?_set_self (by rw [wipe_length]; exact hl)]
    · rw [List.getElem?_set_ne e]
      exact wipe_at vs j ((List.mem_cons.mp h).resolve_left fun z => e z.symm) hl
theorem wipe_but {σ σ2 : St} {vs ts : List Nat} (b : But ts (wipe σ vs) σ2) (hts : ∀ t ∈ ts, t ∈ vs) : wipe σ2 vs = wipe σ vs := by
  have hl : σ2.length = σ.length := by rw [b.1, wipe_length]
  refine List.ext_getElem? fun j => ?_
  by_cases hj : j ∈ vs
  · by_cases hlt : j < σ.length
    · rw [wipe_at vs j hj (by rw [hl]; exact hlt), wipe_at vs j hj hlt]
    · rw [List.getElem?_eq_none (by rw [wipe_length, hl]; omega), List.getElem?_eq_none (by rw [wipe_length]; omega)]
  · rw [wipe_get vs j hj, b.2 j fun z => hj (hts j z)]

def noW : WX := fun _ _ _ _ => False
def compL (m : MG) (t : M Bool) (e : M D) (vs : List Nat) : List D → List D → M (List D)
  | [], acc => mpure acc
  | d :: ds, acc => fun ρ => if (vs.all fun v => isFree ρ[v]?) then match m d (wipeS ρ vs) with
      | none => .bad
      | some ρ1 => match t ρ1 with
        | .ok true ρ2 => match e ρ2 with
          | .ok y ρ3 => if acc.length ≤ 100000 then compL m t e vs ds (acc ++ [y]) (backS ρ ρ3 vs) else .bad
          | _ => .bad
        | .ok false ρ2 => compL m t e vs ds acc (backS ρ ρ2 vs)
        | _ => .bad
    else .bad
def eComp (fi : M (List D)) (m : MG) (t : M Bool) (e : M D) (vs : List Nat) : M D := mbind fi fun ds => mbind (compL m t e vs ds []) fun ys => mpure (.lst ys)
theorem inert_compL {m : MG} {t : M Bool} {e : M D} {vs : List Nat} (hm : ∀ d ρ ρ', m d ρ = some ρ' → NoOwn ρ → NoOwn ρ' ∧ ρ'.length = ρ.length ∧ ∀ j, j ∉ vs → ρ'[j]? = ρ[j]?) (ht : Inert t) (he : Inert e) : ∀ ds acc, Inert (compL m t e vs ds acc)
  | [], acc => inert_pure
  | d :: ds, acc => fun ρ n a ρ' h => by
    unfold compL at h
    split at h
    · rename_i hall
      have hfr : ∀ v ∈ vs, isFree ρ[v]? = true := by simpa using hall
      have nw : NoOwn (wipeS ρ vs) := by
        have : ∀ vs : List Nat, NoOwn (wipeS ρ vs) := fun vs => by
          induction vs with
          | nil => exact n
          | cons v vs ih =>
            intro i s hs
            unfold wipeS at hs
            rcases get_set_cases hs with ⟨_, z, _⟩ | ⟨_, z⟩
            · rw [← z]; rfl
            · exact ih i s z
        exact this vs
      have wg : ∀ (vs : List Nat) (j : Nat), j ∉ vs → (wipeS ρ vs)[j]? = ρ[j]? := fun vs => by
        induction vs with
        | nil => exact fun _ _ => rfl
        | cons v vs ih =>
          intro j hj
          unfold wipeS
          rw [List.getElem?_set_ne (fun e => hj (by simp [e]))]
          exact ih j fun z => hj (List.mem_cons_of_mem _ z)
      split at h
      · cases h
      · rename_i ρ1 h1
        obtain ⟨n1, l1, g1⟩ := hm d _ ρ1 h1 nw
        have same : backS ρ ρ1 vs = ρ := by
          refine List.ext_getElem? fun j => ?_
          have rl : ρ1.length = ρ.length := by rw [l1, wipeS_length]
          by_cases hj : j ∈ vs
          · by_cases hlt : j < ρ.length
            · rw [backS_in (by rw [rl]; exact hlt) vs hj, List.getD_eq_getElem?_getD, List.getElem?_eq_getElem hlt]
              rfl
            · rw [List.getElem?_eq_none (by rw [backS_length, rl]; omega), List.getElem?_eq_none (by omega)]
          · rw [backS_out vs hj, g1 j hj, wg vs j hj]
        split at h
        · rename_i ρ2 h2
          have e2 := ht ρ1 n1 _ ρ2 h2
          subst e2
          split at h
          · rename_i y ρ3 h3
            have e3 := he ρ2 n1 _ ρ3 h3
            subst e3
            split at h
            · rw [same] at h
              exact inert_compL hm ht he ds _ ρ n a ρ' h
            · cases h
          · cases h
        · rename_i ρ2 h2
          have e2 := ht ρ1 n1 _ ρ2 h2
          subst e2
          rw [same] at h
          exact inert_compL hm ht he ds _ ρ n a ρ' h
        · cases h
    · cases h
/-- targets touch their slots alone -/
structure GOk (m : MG) (ts : List Nat) : Prop where
  run : ∀ d ρ ρ', m d ρ = some ρ' → NoOwn ρ → NoOwn ρ' ∧ ρ'.length = ρ.length ∧ ∀ j, j ∉ ts → ρ'[j]? = ρ[j]?
structure GsOk (m : MGs) (ts : List Nat) : Prop where
  run : ∀ d ρ ρ', m d ρ = some ρ' → NoOwn ρ → NoOwn ρ' ∧ ρ'.length = ρ.length ∧ ∀ j, j ∉ ts → ρ'[j]? = ρ[j]?
theorem gok_name {i : Nat} : GOk (gN i) [i] := ⟨fun d ρ ρ' h n => by
  unfold gN at h
  split at h
  · cases h
    refine ⟨fun j s hs => ?_, List.length_set, fun j hj => List.getElem?_set_ne fun z => hj (by simp [z])⟩
    rcases get_set_cases hs with ⟨_, z, _⟩ | ⟨_, z⟩
    · rw [← z]; rfl
    · exact n j s z
  · cases h⟩
theorem gok_nil : GsOk gsNil [] := ⟨fun d ρ ρ' h n => by
  unfold gsNil at h
  split at h
  · cases h; exact ⟨n, rfl, fun _ _ => rfl⟩
  · cases h⟩
theorem gok_cons {m : MG} {ms : MGs} {ts us : List Nat} (h1 : GOk m ts) (h2 : GsOk ms us) : GsOk (gsCons m ms) (ts ++ us) := ⟨fun d ρ ρ' h n => by
  unfold gsCons at h
  split at h
  · obtain ⟨ρ1, a, b⟩ := Option.bind_eq_some_iff.mp h
    obtain ⟨n1, l1, g1⟩ := h1.run _ _ _ a n
    obtain ⟨n2, l2, g2⟩ := h2.run _ _ _ b n1
    exact ⟨n2, l2.trans l1, fun j hj => (g2 j fun z => hj (List.mem_append_right _ z)).trans (g1 j fun z => hj (List.mem_append_left _ z))⟩
  · cases h⟩
theorem gok_tup {ms : MGs} {ts : List Nat} (h : GsOk ms ts) : GOk (gT ms) ts := ⟨fun d ρ ρ' q n => by
  unfold gT at q
  split at q
  · exact h.run _ _ _ q n
  · exact h.run _ _ _ q n
  · cases q⟩
end
section
variable {X : Cx} {cls : Nat → Value} {W : WX} {e a b : Expr} {es : List Expr} {f g : M D} {tf : M Bool} {pos : Pos} {sf sg : MS} {st : Stmt} {sts : List Stmt}
theorem sim_comp_at {K : PySem.W.Frag} {wi : TI} {fi : M (List D)} {g : TG} {m : MG} {tt : TT} {tm : M Bool} {te : TE} {em : M D} {vs ts : List Nat} {F : Fm} {ρ : List Sl} {σ : St} {G H : Hp} (hi : ∀ Q : It → Hp → Prop, wpR (fi ρ) (fun ds ρ' => ∀ J G' H', Ex G G' → CS K F G' H' σ ρ' → Walks K J G' ds → Q J H') (PEx K cls W F G σ) → wi σ H Q) (hg : SimG K g m ts) (ht : SimT K cls noW tt tm) (he : SimE K cls noW te em) (hts : ∀ t ∈ ts, t ∈ vs) (Q : VK)
    (w : wpR (eComp fi m tm em vs ρ) (PNw K F G σ Q) (PEx K cls W F G σ)) : tLc wi g tt te vs σ H Q := by
  refine hi _ ((wpR_bind w).mono (fun ds ρ1 w1 J G1 H1 e1 c1 wk => ?_) fun _ _ p => p)
  intro p hp
  obtain ⟨h0, hg0, hgg⟩ := c1.fresh hp
  have nB : ∀ i, (i, p) ∉ F.B := fun i hi => by
    obtain ⟨d, x1, x2⟩ := c1.bb i p hi
    exact c1.notMine hp x1 rfl x2
  refine ⟨fun i n H2 => ∃ ρ2 G2 acc ys, i + n = ds.length ∧ Ex G1 G2 ∧ CS K F G2 H2 σ ρ2 ∧ H2 p = some (.lst acc) ∧ G2 p = none ∧ (∀ (i : Nat) s e, ρ2[i]? = some s → s.mine = some e → σ[i]? ≠ some (some (.ref p))) ∧ RepL K G2 acc ys ∧
    wpR (compL m tm em vs (ds.drop i) ys ρ2) (fun ys ρ' => PNw K F G σ Q (.lst ys) ρ') (PEx K cls W F G σ), ?_, ?_⟩
  · obtain ⟨c2, f2⟩ := fr_new c1 hp (o := .lst []) (d := .lst []) ⟨[], upd_same, .nil⟩
    exact ⟨ds.length, ρ1, G1, [], [], by omega, Same.refl G1, c2, upd_same, f2.g, f2.nm, .nil, (wpR_bind w1).mono (fun _ _ p => p) fun _ _ p => p⟩
  · rintro i n H2 ⟨ρ2, G2, acc, ys, hn, e2, c2, hD, gD, nD, rA, wp⟩
    by_cases hlt : i < ds.length
    · obtain ⟨wg, wst⟩ := wk F G2 H2 σ ρ2 e2 c2
      have hd : ds[i]? = some ds[i] := List.getElem?_eq_getElem hlt
      refine .inr ⟨(wg i _ hd).1, fun H3 => ∃ ρ3 G3 acc ys, Ex G1 G3 ∧ CS K F G3 H3 σ ρ3 ∧ H3 p = some (.lst acc) ∧ G3 p = none ∧ (∀ (i : Nat) s e, ρ3[i]? = some s → s.mine = some e → σ[i]? ≠ some (some (.ref p))) ∧ RepL K G3 acc ys ∧
          wpR (compL m tm em vs (ds.drop (i + 1)) ys ρ3) (fun ys ρ' => PNw K F G σ Q (.lst ys) ρ') (PEx K cls W F G σ), fun H3 ⟨ρ3, G3, acc, ys, q1, q2, q3, q4, q5, q6, q7⟩ => ⟨n - 1, by omega, ρ3, G3, acc, ys, by omega, q1, q2, q3, q4, q5, q6, q7⟩, fun x H3 hy => ?_⟩
      -- the pair's heap: protect the list
      have c2p := c2.protect hD gD nD
      obtain ⟨wg2, _⟩ := wk (F.with p (.lst acc)) G2 H2 σ ρ2 e2 c2p
      obtain ⟨G3, e3, c3, r3⟩ := (wg2 i _ hd).2 x H3 hy
      rw [List.drop_eq_getElem_cons hlt] at wp
      unfold compL at wp
      split at wp
      · rename_i hall
        have hfr : ∀ v ∈ vs, isFree ρ2[v]? = true := by simpa using hall
        cases hm : m ds[i] (wipeS ρ2 vs) with
        | none => rw [hm] at wp; exact wp.elim
        | some ρ3 =>
          rw [hm] at wp
          dsimp only at wp
          refine hg _ _ (wipe σ vs) G3 H3 x _ ρ3 (c3.wipe vs hfr) r3 hm _ fun σ4 b4 c4 => ⟨wipe_but b4 hts, ?_⟩
          have hs4 : ∀ j : Nat, j ∉ vs → σ4[j]? = σ[j]? := fun j hj => (b4.2 j fun z => hj (hts j z)).trans (wipe_get vs j hj)
          have hl4 : σ4.length = σ.length := by rw [b4.1, wipe_length]
          refine ht _ ρ3 σ4 G3 H3 c4 _ ?_
          cases ht' : tm ρ3 with
          | bad => rw [ht'] at wp; exact wp.elim
          | ex n ρ' => rw [ht'] at wp; exact wp.elim
          | ok bb ρ5 =>
            rw [ht'] at wp
            intro G5 H5 e5 c5
            cases bb with
            | false =>
              dsimp only at wp
              have cu := c3.unwipe c5 e5 hfr hs4 hl4
              obtain ⟨k1, k2, k3, k4⟩ := cu.unprotect h0 hgg nB
              exact ⟨_, G5, acc, ys, (e2.trans e3).trans e5, k1, k2, k3, k4, rA.mono (e3.trans e5), wp⟩
            | true =>
              dsimp only at wp
              refine he _ ρ5 σ4 G5 H5 c5 _ ?_
              cases he' : em ρ5 with
              | bad => rw [he'] at wp; exact wp.elim
              | ex n ρ' => rw [he'] at wp; exact wp.elim
              | ok y ρ6 =>
                rw [he'] at wp
                dsimp only at wp
                intro v6 G6 H6 e6 c6 r6
                split at wp
                · rename_i hz
                  have cu := c3.unwipe c6 (e5.trans e6) hfr hs4 hl4
                  obtain ⟨k1, k2, k3, k4⟩ := cu.unprotect h0 hgg nB
                  refine ⟨acc, k2, by rw [rA.length]; exact sz_lt hz, _, G6, acc ++ [v6], ys ++ [y], ((e2.trans e3).trans e5).trans e6, ?_, upd_same, k3, k4, (rA.mono ((e3.trans e5).trans e6)).append (.cons r6 .nil), wp⟩
                  -- the list is written
                  refine ⟨fun b o e => ?_, k1.g0, fun b o e hb => ?_, k1.gn, k1.len, k1.vals, fun j d q => ?_, fun j d q => ?_, k1.bb, k1.sep⟩
                  · rw [upd_ne (ne_of_none e k3)]
                    exact k1.ex _ _ e
                  · rw [upd_ne (ne_of_none e h0)]
                    exact k1.fr b o e hb
                  · obtain ⟨l, x1, x2, x3, x4⟩ := k1.owns j d q
                    have ne : l ≠ p := fun z => k4 j _ d q rfl (z ▸ x1)
                    exact ⟨l, x1, x2.mono (Ex.ext (Same.refl _)) (upd_ne ne), x3, x4⟩
                  · obtain ⟨l, x1, x2, x3, x4⟩ := k1.bors j d q
                    have ne : l ≠ p := fun z => k4 j _ d q rfl (z ▸ x1)
                    exact ⟨l, x1, x2.mono (Ex.ext (Same.refl _)) (upd_ne ne), x3, x4⟩
                · exact wp.elim
      · exact wp.elim
    · have e : i = ds.length := by omega
      subst e
      obtain ⟨wg, wst⟩ := wk F G2 H2 σ ρ2 e2 c2
      refine .inl ⟨wst, ?_⟩
      rw [List.drop_length] at wp
      exact wp p G2 H2 (e1.trans e2) c2 ⟨⟨acc, hD, rA⟩, gD, h0, nD⟩
theorem sim_comp {K : PySem.W.Frag} {wi : TI} {fi : M (List D)} {g : TG} {m : MG} {tt : TT} {tm : M Bool} {te : TE} {em : M D} {vs ts : List Nat} (hi : SimI K cls W wi fi) (hg : SimG K g m ts) (ht : SimT K cls noW tt tm) (he : SimE K cls noW te em) (hts : ∀ t ∈ ts, t ∈ vs) :
    SimN K cls W (tLc wi g tt te vs) (eComp fi m tm em vs) := fun F ρ σ G H c Q w => sim_comp_at (hi F ρ σ G H c) hg ht he hts Q w
structure QTs (X : Cx) (cls : Nat → Value) (W : WX) (ifs : List Expr) (f : M Bool) : Prop where
  sim : ∃ t, PTs X ifs t ∧ SimT X.K cls W t f
  inert : Inert f
theorem qts_nil : QTs X cls W [] (mpure true) := ⟨⟨_, pts_nil, fun F ρ σ G H c Q w => w G H (Same.refl G) c⟩, inert_pure⟩
theorem qts_one (h : QT X cls W e tf) : QTs X cls W [e] tf := ⟨let ⟨t, p, s⟩ := h.sim; ⟨t, pts_one p, s⟩, h.inert⟩
end
end NT

set_option Elab.async false
set_option linter.all false
set_option maxRecDepth 100000
set_option maxHeartbeats 4000000
namespace NT
open PySem L2

/-! ### canonical readings -/
def tOfE (K : PySem.W.Frag) (cls : Nat → Value) (W : WX) (f : M D) : TE := fun σ H Q => ∃ F ρ G, CS K F G H σ ρ ∧ wpR (f ρ) (POk K F G σ Q) (PEx K cls W F G σ)
def tOfT (K : PySem.W.Frag) (cls : Nat → Value) (W : WX) (f : M Bool) : TT := fun σ H Q => ∃ F ρ G, CS K F G H σ ρ ∧ wpR (f ρ) (PTt K F G σ Q) (PEx K cls W F G σ)
def tOfG (K : PySem.W.Frag) (m : MG) (ts : List Nat) : TG := fun v σ H Q => ∃ F ρ G d ρ', CS K F G H σ ρ ∧ Rep K G v d ∧ m d ρ = some ρ' ∧ ∀ σ', But ts σ σ' → CS K F G H σ' ρ' → Q σ' H
section
variable {X : Cx} {cls : Nat → Value} {W : WX} {e a b : Expr} {es : List Expr} {f g : M D} {tf : M Bool} {pos : Pos} {sf sg : MS} {st : Stmt} {sts : List Stmt}
theorem QE.pe (h : QE X cls W e f) : PE X e (tOfE X.K cls W f) := by
  obtain ⟨⟨t, p, s⟩, _⟩ := h
  exact ⟨fun pins sh σ H Q I ⟨F, ρ, G, c, w⟩ => p.run pins sh σ H Q I (s F ρ σ G H c Q w)⟩
theorem QT.pt (h : QT X cls W e tf) : PT X e (tOfT X.K cls W tf) := by
  obtain ⟨⟨t, p, s⟩, _⟩ := h
  exact ⟨fun pins sh σ H Q I ⟨F, ρ, G, c, w⟩ => p.run pins sh σ H Q I (s F ρ σ G H c Q w)⟩
theorem QTs.pt (h : QTs X cls W es tf) : PTs X es (tOfT X.K cls W tf) := by
  obtain ⟨⟨t, p, s⟩, _⟩ := h
  exact ⟨fun pins sh σ H Q I ⟨F, ρ, G, c, w⟩ => p.run pins sh σ H Q I (s F ρ σ G H c Q w)⟩
theorem QG.pg {m : MG} {ts : List Nat} (h : QG X e m ts) : PG X e (tOfG X.K m ts) := by
  obtain ⟨⟨g, p, s⟩⟩ := h
  exact ⟨fun pins sh σ H v u Q I r ⟨F, ρ, G, d, ρ', c, rv, hm, q⟩ => p.run pins sh σ H v u Q I r (s F ρ σ G H v d ρ' c rv hm Q q)⟩
theorem simE_of {K : PySem.W.Frag} : SimE K cls W (tOfE K cls W f) f := fun F ρ σ G H c Q w => ⟨F, ρ, G, c, w⟩
theorem simT_of {K : PySem.W.Frag} : SimT K cls W (tOfT K cls W tf) tf := fun F ρ σ G H c Q w => ⟨F, ρ, G, c, w⟩
theorem simG_of {K : PySem.W.Frag} {m : MG} {ts : List Nat} : SimG K (tOfG K m ts) m ts := fun F ρ σ G H v d ρ' c r h Q q => ⟨F, ρ, G, d, ρ', c, r, h, q⟩

/-! ### comprehensions -/
variable {elt tg iter : Expr} {ifs : List Expr} {scope : Scope} {own : List (Str × Nat)} {fi : M (List D)} {m : MG} {tm : M Bool} {em : M D} {vs ts : List Nat}
theorem comp_inert (hi : Inert fi) (gok : GOk m ts) (hts : ∀ t ∈ ts, t ∈ vs) (ht : Inert tm) (he : Inert em) : Inert (eComp fi m tm em vs) :=
  inert_bind hi fun ds => inert_bind (inert_compL (fun d ρ ρ' h n => let ⟨a, b, c⟩ := gok.run d ρ ρ' h n; ⟨a, b, fun j hj => c j fun z => hj (hts j z)⟩) ht he ds []) fun _ => inert_pure
theorem q_comp (hc : X.calm = true) (hN : X.N.Nodup) (hi : QI X cls W tg iter fi) (ok : BlkOk X.N X.env.scope scope own)
    (hg : ∀ (s : Shared) (H : Hp) (C : Addr) (cl : List (Str × Addr)) (fp : List Addr), QG (X.blk s H scope (compEnvC scope cl C X.env) fp) tg m ts)
    (ht : ∀ (s : Shared) (H : Hp) (C : Addr) (cl : List (Str × Addr)) (fp : List Addr), QTs (X.blk s H scope (compEnvC scope cl C X.env) fp) cls noW ifs tm)
    (he : ∀ (s : Shared) (H : Hp) (C : Addr) (cl : List (Str × Addr)) (fp : List Addr), QE (X.blk s H scope (compEnvC scope cl C X.env) fp) cls noW elt em)
    (gok : GOk m ts) (hvs : own.map (·.2) = vs) (hts : ∀ t ∈ ts, t ∈ vs) (hs : ∀ x, foldedSetIterable iter X.env x = pure x := by intro _; rfl) :
    QN X cls W (.ListComp elt [⟨tg, iter, ifs, 0⟩] scope pos) (eComp fi m tm em vs) := by
  obtain ⟨⟨wi, pi, si⟩, ii⟩ := hi
  subst hvs
  refine ⟨⟨_, pe_lc hc hN pi ok (g := tOfG X.K m ts) (tt := tOfT X.K cls noW tm) (te := tOfE X.K cls noW em) (fun s H C cl fp => (hg s H C cl fp).pg) (fun s H C cl fp => (ht s H C cl fp).pt) (fun s H C cl fp => (he s H C cl fp).pe) hs, ?_⟩, comp_inert ii gok hts (ht X.s_0 X.H_0 0 [] []).inert (he X.s_0 X.H_0 0 [] []).inert⟩
  exact sim_comp si simG_of simT_of simE_of hts
/-- x = [..] -/
theorem q_setLcN (i : Nat) {y : Str} {py spos : Pos} (hc : X.calm = true) (hN : X.N.Nodup) (hy : X.N[i]? = some y) (hyl : X.env.scope.names.lookup y = some .local)
    (hsw : swapsWith (.ListComp elt [⟨tg, iter, ifs, 0⟩] scope pos) (some (.Name y py)) spos.line X.env = pure true) (hi : QI X cls W tg iter fi) (ok : BlkOk X.N X.env.scope scope own)
    (hg : ∀ (s : Shared) (H : Hp) (C : Addr) (cl : List (Str × Addr)) (fp : List Addr), QG (X.blk s H scope (compEnvC scope cl C X.env) fp) tg m ts)
    (ht : ∀ (s : Shared) (H : Hp) (C : Addr) (cl : List (Str × Addr)) (fp : List Addr), QTs (X.blk s H scope (compEnvC scope cl C X.env) fp) cls noW ifs tm)
    (he : ∀ (s : Shared) (H : Hp) (C : Addr) (cl : List (Str × Addr)) (fp : List Addr), QE (X.blk s H scope (compEnvC scope cl C X.env) fp) cls noW elt em)
    (gok : GOk m ts) (hvs : own.map (·.2) = vs) (hts : ∀ t ∈ ts, t ∈ vs) (hs : ∀ x, foldedSetIterable iter X.env x = pure x := by intro _; rfl) :
    QS X cls W (.Assign [.Name y py] (.ListComp elt [⟨tg, iter, ifs, 0⟩] scope pos) spos) (sSetN i (eComp fi m tm em vs)) := by
  obtain ⟨⟨wi, pi, si⟩, ii⟩ := hi
  subst hvs
  exact ⟨⟨_, ps_setLc hc hN hy hyl hsw pi ok (g := tOfG X.K m ts) (tt := tOfT X.K cls noW tm) (te := tOfE X.K cls noW em) (fun s H C cl fp => (hg s H C cl fp).pg) (fun s H C cl fp => (ht s H C cl fp).pt) (fun s H C cl fp => (he s H C cl fp).pe) hs, sim_setN (sim_comp si simG_of simT_of simE_of hts)⟩⟩
theorem q_setLc (i : Nat) {y : Str} {py spos : Pos} (hc : X.calm = true) (hN : X.N.Nodup) (hy : X.N[i]? = some y) (hyl : X.env.scope.names.lookup y = some .local)
    (hsw : swapsWith (.ListComp elt [⟨tg, iter, ifs, 0⟩] scope pos) (some (.Name y py)) spos.line X.env = pure true) (hi : QI X cls W tg iter fi) (ok : BlkOk X.N X.env.scope scope own)
    (hg : ∀ (s : Shared) (H : Hp) (C : Addr) (cl : List (Str × Addr)) (fp : List Addr), QG (X.blk s H scope (compEnvC scope cl C X.env) fp) tg m ts)
    (ht : ∀ (s : Shared) (H : Hp) (C : Addr) (cl : List (Str × Addr)) (fp : List Addr), QTs (X.blk s H scope (compEnvC scope cl C X.env) fp) cls noW ifs tm)
    (he : ∀ (s : Shared) (H : Hp) (C : Addr) (cl : List (Str × Addr)) (fp : List Addr), QE (X.blk s H scope (compEnvC scope cl C X.env) fp) cls noW elt em)
    (gok : GOk m ts) (hvs : own.map (·.2) = vs) (hts : ∀ t ∈ ts, t ∈ vs) (hs : ∀ x, foldedSetIterable iter X.env x = pure x := by intro _; rfl) :
    QS X cls W (.Assign [.Name y py] (.ListComp elt [⟨tg, iter, ifs, 0⟩] scope pos) spos) (sSet i (eComp fi m tm em vs)) := by
  obtain ⟨⟨wi, pi, si⟩, ii⟩ := hi
  subst hvs
  exact ⟨⟨_, ps_setLc hc hN hy hyl hsw pi ok (g := tOfG X.K m ts) (tt := tOfT X.K cls noW tm) (te := tOfE X.K cls noW em) (fun s H C cl fp => (hg s H C cl fp).pg) (fun s H C cl fp => (ht s H C cl fp).pt) (fun s H C cl fp => (he s H C cl fp).pe) hs, sim_set (sim_comp si simG_of simT_of simE_of hts).frz⟩⟩
end

/-! ### defs and calls -/
def spD (K : PySem.W.Frag) (cls : Nat → Value) (np ns : Nat) (den : MS) : Sp := fun vs H Q E => vs.length = np ∧ ∃ G B args, CS K ⟨H, G, B⟩ G H (vs.map some) args ∧
  PO K cls (fun c d _ H' => E c d H') ⟨H, G, B⟩ G ⟨fun _ H' => Q .non H', Q, fun _ _ => False, fun _ _ => False⟩ (den (args ++ List.replicate ns .no))
section
variable {K : PySem.W.Frag} {F : Fm} {G H G' H' : Hp} {σ σ' : St} {ρ ρ' : List Sl} {cls : Nat → Value} {W : WX}
theorem get_rep {n i : Nat} {α : Type} {l : List α} {a b : α} (h : (l ++ List.replicate n a)[i]? = some b) : l[i]? = some b ∨ (l.length ≤ i ∧ b = a) := by
  by_cases hi : i < l.length
  · rw [List.getElem?_append_left hi] at h
    exact .inl h
  · rw [List.getElem?_append_right (by omega)] at h
    exact .inr ⟨by omega, (List.eq_of_mem_replicate (List.mem_of_getElem? h))⟩
theorem CS.pad (c : CS K F G H σ ρ) (n : Nat) : CS K F G H (σ ++ List.replicate n none) (ρ ++ List.replicate n .no) := by
  have up : ∀ {i : Nat} {v : Option V}, σ[i]? = some v → (σ ++ List.replicate n none)[i]? = some v := fun {i v} h => by
    rw [List.getElem?_append_left (List.getElem?_eq_some_iff.mp h).1]
    exact h
  have upr : ∀ {i : Nat} {v : Sl}, ρ[i]? = some v → (ρ ++ List.replicate n .no)[i]? = some v := fun {i v} h => by
    rw [List.getElem?_append_left (List.getElem?_eq_some_iff.mp h).1]
    exact h
  have dn : ∀ {i : Nat} {s : Sl}, (ρ ++ List.replicate n .no)[i]? = some s → s ≠ .no → ρ[i]? = some s := fun {i s} h hn => (get_rep h).resolve_right fun z => hn z.2
  have nn : ∀ {s : Sl} {d : D}, s.mine = some d → s ≠ .no := fun h z => by subst z; cases h
  have back : ∀ {i : Nat} {s : Sl} {v : Option V}, ρ[i]? = some s → (σ ++ List.replicate n none)[i]? = some v → σ[i]? = some v := fun {i s v} h h' => by
    have hl : i < σ.length := by
      rw [c.len]
      exact (List.getElem?_eq_some_iff.mp h).1
    rw [List.getElem?_append_left hl] at h'
    exact h'
  refine ⟨c.ex, c.g0, c.fr, c.gn, by simp [c.len], fun j d e => ?_, fun j d e => ?_, fun j d e => ?_, fun j l e => ?_, fun j k s1 s2 d1 d2 l hjk e1 m1 e2 m2 v1 v2 => ?_⟩
  · obtain ⟨v, x, y⟩ := c.vals j d (dn e fun z => by cases z)
    exact ⟨v, up x, y⟩
  · obtain ⟨v, x, y⟩ := c.owns j d (dn e fun z => by cases z)
    exact ⟨v, up x, y⟩
  · obtain ⟨v, x, y⟩ := c.bors j d (dn e fun z => by cases z)
    exact ⟨v, up x, y⟩
  · obtain ⟨d, x, y⟩ := c.bb j l e
    exact ⟨d, upr x, up y⟩
  · have e1 := dn e1 (nn m1)
    have e2 := dn e2 (nn m2)
    exact c.sep j k s1 s2 d1 d2 l hjk e1 m1 e2 m2 (back e1 v1) (back e2 v2)
theorem CS.args (ex : Ex G H) {vs : List V} {ds : List D} (r : RepL K G vs ds) : CS K ⟨H, G, []⟩ G H (vs.map some) (ds.map .val) := by
  have val : ∀ {i : Nat} {s : Sl}, (ds.map Sl.val)[i]? = some s → ∃ d, ds[i]? = some d ∧ s = .val d := fun {i s} h => by
    rw [List.getElem?_map] at h
    cases q : ds[i]? with
    | none => rw [q] at h; cases h
    | some d => rw [q] at h; cases h; exact ⟨d, rfl, rfl⟩
  refine ⟨ex, Same.refl G, fun b o e _ => e, fun b e1 e2 => (e2 e1).elim, by simp [r.length], fun j d e => ?_, fun j d e => ?_, fun j d e => ?_, fun j l e => (by cases e), fun j k s1 s2 d1 d2 l hjk e1 m1 e2 m2 v1 v2 => ?_⟩
  · obtain ⟨d', h1, h2⟩ := val e
    cases h2
    obtain ⟨v, hv, rv⟩ := r.get h1
    exact ⟨v, by rw [List.getElem?_map, hv]; rfl, rv⟩
  · obtain ⟨d', h1, h2⟩ := val e; cases h2
  · obtain ⟨d', h1, h2⟩ := val e; cases h2
  · obtain ⟨d', h1, h2⟩ := val e1
    subst h2
    cases m1
/-- behind a call that borrows nothing -/
theorem CS.back0 (c : CS K F G H σ ρ) (c' : CS K ⟨H, G, []⟩ G' H' σ' ρ') : CS K F G' H' σ ρ := by
  have keep : ∀ b o, H b = some o → H' b = some o := fun b o e => c'.fr b o e fun i z => by cases z
  have eG : Ex G G' := c'.g0
  have obj : ∀ {l d}, Obj K G H l d → G l = none → Obj K G' H' l d ∧ G' l = none := fun {l d} h hg => by
    obtain ⟨o, ho⟩ := h.some
    refine ⟨h.mono eG.ext ((keep l o ho).trans ho.symm), ?_⟩
    cases q : G' l with
    | none => rfl
    | some x =>
      have z := c'.gn l hg (by rw [q]; exact fun z => by cases z)
      have z : H l = none := z
      rw [ho] at z
      cases z
  refine ⟨c'.ex, c.g0.trans eG, fun b o e hb => keep b o (c.fr b o e hb), fun b e1 e2 => ?_, c.len, fun j d e => ?_, fun j d e => ?_, fun j d e => ?_, c.bb, c.sep⟩
  · cases q : G b with
    | some o => exact c.gn b e1 (by rw [q]; exact fun z => by cases z)
    | none => exact (c.fresh (c'.gn b q e2)).1
  · obtain ⟨v, x, y⟩ := c.vals j d e
    exact ⟨v, x, y.mono eG⟩
  · obtain ⟨l, x, y, z, u⟩ := c.owns j d e
    obtain ⟨k1, k2⟩ := obj y z
    exact ⟨l, x, k1, k2, u⟩
  · obtain ⟨l, x, y, z, u⟩ := c.bors j d e
    obtain ⟨k1, k2⟩ := obj y z
    exact ⟨l, x, k1, k2, u⟩
theorem Fr.back0 (c : CS K F G H σ ρ) {l : Addr} {d : D} (f : Fr K ⟨H, G, []⟩ G' H' σ' ρ' l d) : Fr K F G' H' σ ρ l d := by
  have hn : H l = none := f.h0
  exact ⟨f.obj, f.g, (c.fresh hn).1, fun i s e h1 h2 => c.notMine hn h1 h2⟩
end
def eCall (np ns : Nat) (den : MS) (dds : List D) (fa : M (List D)) : M D := mbind fa fun ds => fun ρ => if (ds ++ dds).length = np then match den ((ds ++ dds).map .val ++ List.replicate ns .no) with
  | .rt d _ => .ok d ρ
  | .rtN d _ => .ok d ρ
  | .nx _ => .ok .non ρ
  | .ex c _ => .ex c ρ
  | .bad => .bad
  else .bad
def eCallN (np ns : Nat) (den : MS) (dds : List D) (fa : M (List D)) : M D := mbind fa fun ds => fun ρ => if (ds ++ dds).length = np then match den ((ds ++ dds).map .val ++ List.replicate ns .no) with
  | .rtN d _ => .ok d ρ
  | .ex c _ => .ex c ρ
  | _ => .bad
  else .bad
theorem inert_call {np ns : Nat} {den : MS} {dds : List D} {fa : M (List D)} (h : Inert fa) : Inert (eCall np ns den dds fa) := inert_bind h fun ds ρ n a ρ' q => by
  split at q
  · split at q <;> first | (cases q; rfl) | cases q
  · cases q
theorem inert_callN {np ns : Nat} {den : MS} {dds : List D} {fa : M (List D)} (h : Inert fa) : Inert (eCallN np ns den dds fa) := inert_bind h fun ds ρ n a ρ' q => by
  split at q
  · split at q <;> first | (cases q; rfl) | cases q
  · cases q
section
variable {X : Cx} {cls : Nat → Value} {W : WX} {e a b : Expr} {es : List Expr} {f g : M D} {tf : M Bool} {pos : Pos} {sf sg : MS} {st : Stmt} {sts : List Stmt}
theorem sim_call {K : PySem.W.Frag} {np ns : Nat} {den : MS} {dvs : List V} {dds : List D} {ta : TA} {fa : M (List D)} (hd : ∀ G, RepL K G dvs dds) (ha : SimA K cls W ta fa) : SimE K cls W (tCallSD (spD K cls np ns den) dvs (WE W) ta) (eCall np ns den dds fa) := fun F ρ σ G H c Q w => by
  refine ha F ρ σ G H c _ ((wpR_bind w).mono (fun xs ρ1 w1 v1 G1 H1 e1 c1 r1 => ?_) fun _ _ p => p)
  split at w1
  · rename_i hl
    have r2 : RepL K G1 (v1 ++ dvs) (xs ++ dds) := r1.append (hd G1)
    refine ⟨by rw [r2.length]; exact hl, G1, [], _, CS.args c1.ex r2, ?_⟩
    split at w1
    · rename_i d ρ' q
      rw [q]
      exact fun v σ' G' H' e' c' r => w1 v G' H' (e1.trans e') (c1.back0 c') r
    · rename_i d ρ' q
      rw [q]
      intro l σ' G' H' e' c' fr
      obtain ⟨o, ho, c2, r, e2⟩ := (c1.back0 c').freeze (fr.back0 c1)
      exact w1 _ _ _ ((e1.trans e').trans e2) c2 r
    · rename_i ρ' q
      rw [q]
      exact fun σ' G' H' e' c' => w1 _ G' H' (e1.trans e') (c1.back0 c') .non
    · rename_i n ρ' q
      rw [q]
      exact fun σ' G' H' e' c' => w1 G' H' (e1.trans e') (c1.back0 c')
    · exact w1.elim
  · exact w1.elim
theorem sim_callN {K : PySem.W.Frag} {np ns : Nat} {den : MS} {dvs : List V} {dds : List D} {ta : TA} {fa : M (List D)} (hd : ∀ G, RepL K G dvs dds) (ha : SimA K cls W ta fa) : SimN K cls W (tCallSD (spD K cls np ns den) dvs (WE W) ta) (eCallN np ns den dds fa) := fun F ρ σ G H c Q w => by
  refine ha F ρ σ G H c _ ((wpR_bind w).mono (fun xs ρ1 w1 v1 G1 H1 e1 c1 r1 => ?_) fun _ _ p => p)
  split at w1
  · rename_i hl
    have r2 : RepL K G1 (v1 ++ dvs) (xs ++ dds) := r1.append (hd G1)
    refine ⟨by rw [r2.length]; exact hl, G1, [], _, CS.args c1.ex r2, ?_⟩
    split at w1
    · rename_i d ρ' q
      rw [q]
      exact fun l σ' G' H' e' c' fr => w1 l G' H' (e1.trans e') (c1.back0 c') (fr.back0 c1)
    · rename_i n ρ' q
      rw [q]
      exact fun σ' G' H' e' c' => w1 G' H' (e1.trans e') (c1.back0 c')
    · exact w1.elim
  · exact w1.elim
theorem q_call {np ns : Nat} {den : MS} {dvs : List V} {dds : List D} {fa : M (List D)} (hp : ∀ ta, PA X es ta → PE X e (tCallSD (spD X.K cls np ns den) dvs (WE W) ta)) (hd : ∀ G, RepL X.K G dvs dds) (ha : QA X cls W es fa) : QE X cls W e (eCall np ns den dds fa) :=
  ⟨let ⟨t, p, s⟩ := ha.sim; ⟨_, hp t p, sim_call hd s⟩, inert_call ha.inert⟩
theorem q_callN {np ns : Nat} {den : MS} {dvs : List V} {dds : List D} {fa : M (List D)} (hp : ∀ ta, PA X es ta → PE X e (tCallSD (spD X.K cls np ns den) dvs (WE W) ta)) (hd : ∀ G, RepL X.K G dvs dds) (ha : QA X cls W es fa) : QN X cls W e (eCallN np ns den dds fa) :=
  ⟨let ⟨t, p, s⟩ := ha.sim; ⟨_, hp t p, sim_callN hd s⟩, inert_callN ha.inert⟩
end
/-! the def -/
theorem def_ok {P : Program} {w : World} {K : PySem.W.Frag} {mg : Str → Option Value} {base : Heap} {cls : Nat → Value} {x qual : Str} {st : Stmt} {f : Addr} {fd : FuncData} {N ps : List Str} {k np ns : Nat} {den : MS} (Fn : Fun K x qual st f fd) (S : FnScope N ps (defScope st)) (hp : ps.length = np) (hn : N.length = np + ns)
    (hb : ∀ (cdv : Value) (A : Around) (outer : List Env) (s : Shared) (H : Hp) (E : XK), Room k (A.deeper (PyProof.Rows.envOfC qual (defScope st) s.heap.objs.size f cdv)) →
      Takes (cxOf (L2.CX P w) P w K mg base N qual (defScope st) f cdv A outer s H E) (fun c d _ H' => E c d H') →
      QB (cxOf (L2.CX P w) P w K mg base N qual (defScope st) f cdv A outer s H E) cls (fun c d _ H' => E c d H') (defBody st) den) : FnOk P w K mg base (L2.CX P w) (k + 1) f fd ps (spD K cls np ns den) := by
  refine Fn.okX S (fun vs H Q E h => by rw [h.1, hp]) fun cdv A outer s H vs Q E hr h => ?_
  obtain ⟨hl, G, B, args, c, po⟩ := h
  obtain ⟨⟨t, pt, sim⟩⟩ := hb cdv A outer s H E hr (takes_of (E := E) rfl rfl rfl rfl)
  refine ⟨t, pt, ?_⟩
  have c2 := c.pad ns
  have e : L2.start N vs = vs.map some ++ List.replicate ns none := by
    unfold L2.start
    rw [hn, hl, Nat.add_sub_cancel_left]
  rw [e]
  exact sim _ _ _ G H c2 _ po
end NT

set_option Elab.async false
set_option linter.all false
set_option maxRecDepth 100000
set_option maxHeartbeats 4000000
namespace NT
open PySem L2

/-! ### calls that borrow an owned slot -/
section
variable {K : PySem.W.Frag} {F : Fm} {G H G' H' : Hp} {σ σ' : St} {ρ ρ' : List Sl} {cls : Nat → Value} {W : WX}
theorem mid_cases {α : Type} {l r : List α} {a x : α} {i : Nat} (h : (l ++ a :: r)[i]? = some x) : (i < l.length ∧ l[i]? = some x) ∨ (i = l.length ∧ x = a) ∨ ∃ j, i = l.length + 1 + j ∧ r[j]? = some x := by
  by_cases h1 : i < l.length
  · rw [List.getElem?_append_left h1] at h
    exact .inl ⟨h1, h⟩
  · rw [List.getElem?_append_right (by omega)] at h
    by_cases h2 : i = l.length
    · subst h2
      rw [Nat.sub_self] at h
      exact .inr (.inl ⟨rfl, (Option.some.inj h).symm⟩)
    · refine .inr (.inr ⟨i - l.length - 1, by omega, ?_⟩)
      have e : i - l.length = (i - l.length - 1) + 1 := by omega
      rw [e, List.getElem?_cons_succ] at h
      exact h
theorem mid_l {α : Type} {l r : List α} {a x : α} {i : Nat} (h : l[i]? = some x) : (l ++ a :: r)[i]? = some x := by
  rw [List.getElem?_append_left (List.getElem?_eq_some_iff.mp h).1]
  exact h
theorem mid_m {α : Type} {l r : List α} {a : α} : (l ++ a :: r)[l.length]? = some a := by
  rw [List.getElem?_append_right (Nat.le_refl _), Nat.sub_self]
  rfl
theorem mid_r {α : Type} {l r : List α} {a x : α} {j : Nat} (h : r[j]? = some x) : (l ++ a :: r)[l.length + 1 + j]? = some x := by
  rw [List.getElem?_append_right (by omega)]
  have e : l.length + 1 + j - l.length = j + 1 := by omega
  rw [e, List.getElem?_cons_succ]
  exact h
theorem map_val {ds : List D} {i : Nat} {s : Sl} (h : (ds.map Sl.val)[i]? = some s) : ∃ d, ds[i]? = some d ∧ s = .val d := by
  rw [List.getElem?_map] at h
  cases q : ds[i]? with
  | none => rw [q] at h; cases h
  | some d => rw [q] at h; cases h; exact ⟨d, rfl, rfl⟩
theorem map_some {vs : List V} {i : Nat} {v : V} (h : vs[i]? = some v) : (vs.map some)[i]? = some (some v) := by
  rw [List.getElem?_map, h]
  rfl
theorem CS.argsO (c : CS K F G H σ ρ) {j : Nat} {s : Sl} {d : D} {l : Addr} (hj : ρ[j]? = some s) (hm : s.mine = some d) (hl : σ[j]? = some (some (.ref l))) {vs1 vs2 : List V} {pre post : List D} (r1 : RepL K G vs1 pre) (r2 : RepL K G vs2 post) :
    CS K ⟨H, G, [(pre.length, l)]⟩ G H ((vs1 ++ .ref l :: vs2).map some) (pre.map .val ++ .bor d :: post.map .val) := by
  obtain ⟨l', a1, a2, a3, a4⟩ := c.mine hj hm
  rw [hl] at a1
  cases a1
  have e1 : (pre.map Sl.val).length = pre.length := List.length_map _
  have e2 : vs1.length = pre.length := r1.length
  have eσ : (vs1 ++ V.ref l :: vs2).map some = vs1.map some ++ some (V.ref l) :: vs2.map some := by simp
  rw [eσ]
  have el : (vs1.map some).length = pre.length := by rw [List.length_map, e2]
  have one : ∀ {i : Nat} {t : Sl} {x : D}, (pre.map Sl.val ++ Sl.bor d :: post.map Sl.val)[i]? = some t → t.mine = some x → i = pre.length ∧ t = .bor d := fun {i t x} h h2 => by
    rcases mid_cases h with ⟨_, z⟩ | ⟨z, z2⟩ | ⟨_, _, z⟩
    · obtain ⟨_, _, z⟩ := map_val z
      subst z; cases h2
    · exact ⟨by rw [z, e1], z2⟩
    · obtain ⟨_, _, z⟩ := map_val z
      subst z; cases h2
  refine ⟨c.ex, Same.refl G, fun b o e _ => e, fun b x y => (y x).elim, by simp [e2, r2.length], fun i x e => ?_, fun i x e => ?_, fun i x e => ?_, fun i k e => ?_, fun i k s1 s2 d1 d2 l hjk e1 m1 e2 m2 v1 v2 => ?_⟩
  · rcases mid_cases e with ⟨_, z⟩ | ⟨z, z2⟩ | ⟨m, z, z2⟩
    · obtain ⟨d', h1, h2⟩ := map_val z
      cases h2
      obtain ⟨v, hv, rv⟩ := r1.get h1
      exact ⟨v, mid_l (map_some hv), rv⟩
    · cases z2
    · obtain ⟨d', h1, h2⟩ := map_val z2
      cases h2
      obtain ⟨v, hv, rv⟩ := r2.get h1
      refine ⟨v, ?_, rv⟩
      rw [z, e1, ← el]
      exact mid_r (map_some hv)
  · obtain ⟨_, z⟩ := one e rfl
    cases z
  · obtain ⟨z1, z⟩ := one e rfl
    cases z
    subst z1
    refine ⟨l, ?_, a2, a3, List.mem_singleton.mpr rfl⟩
    rw [← el]
    exact mid_m
  · have e := List.mem_singleton.mp e
    cases e
    refine ⟨d, ?_, ?_⟩
    · rw [← e1]
      exact mid_m
    · rw [← el]
      exact mid_m
  · obtain ⟨z1, _⟩ := one e1 m1
    obtain ⟨z2, _⟩ := one e2 m2
    exact hjk (z1.trans z2.symm)
theorem CS.backO (c : CS K F G H σ ρ) {j k : Nat} {s : Sl} {d d' : D} {l : Addr} (hj : ρ[j]? = some s) (hm : s.mine = some d) (hl : σ[j]? = some (some (.ref l))) (c' : CS K ⟨H, G, [(k, l)]⟩ G' H' σ' ρ') (hk : ρ'[k]? = some (.bor d')) : CS K F G' H' σ (ρ.set j (s.with d')) := by
  obtain ⟨l', a1, a2, a3, a4⟩ := c.mine hj hm
  rw [hl] at a1
  cases a1
  obtain ⟨l', b1, b2, b3, b4⟩ := c'.bors k d' hk
  have b4 := List.mem_singleton.mp b4
  cases b4
  have keep : ∀ b o, H b = some o → b ≠ l → H' b = some o := fun b o e ne => c'.fr b o e fun i z => ne (by have z := List.mem_singleton.mp z; cases z; rfl)
  have eG : Ex G G' := c'.g0
  have jl : j < ρ.length := (List.getElem?_eq_some_iff.mp hj).1
  have obj : ∀ {m e}, Obj K G H m e → G m = none → m ≠ l → Obj K G' H' m e ∧ G' m = none := fun {m e} h hg ne => by
    obtain ⟨o, ho⟩ := h.some
    refine ⟨h.mono eG.ext ((keep m o ho ne).trans ho.symm), ?_⟩
    cases q : G' m with
    | none => rfl
    | some x =>
      have z := c'.gn m hg (by rw [q]; exact fun z => by cases z)
      have z : H m = none := z
      rw [ho] at z
      cases z
  have other : ∀ {i : Nat} {t : Sl} {e : D} {m : Addr}, j ≠ i → ρ[i]? = some t → t.mine = some e → σ[i]? = some (some (.ref m)) → m ≠ l := fun {i t e m} ne h1 h2 h3 z => by
    subst z
    exact c.sep j i s t d e m ne hj hm h1 h2 hl h3
  refine ⟨c'.ex, c.g0.trans eG, fun b o e hb => ?_, fun b e1 e2 => ?_, by simpa using c.len, fun i x e => ?_, fun i x e => ?_, fun i x e => ?_, fun i m e => ?_, fun i m s1 s2 d1 d2 l2 hjk e1 m1 e2 m2 v1 v2 => ?_⟩
  · have ne : b ≠ l := fun z => by
      subst z
      rcases a4 with z | z
      · rw [z] at e; cases e
      · exact hb _ z
    exact keep b o (c.fr b o e hb) ne
  · cases q : G b with
    | some o => exact c.gn b e1 (by rw [q]; exact fun z => by cases z)
    | none => exact (c.fresh (c'.gn b q e2)).1
  · rcases get_set_cases e with ⟨_, z, _⟩ | ⟨_, z⟩
    · cases s with
      | own y => exact nomatch (show Sl.own d' = Sl.val x from z)
      | bor y => exact nomatch (show Sl.bor d' = Sl.val x from z)
      | no => cases hm
      | val y => cases hm
    · obtain ⟨v, y, w⟩ := c.vals i x z
      exact ⟨v, y, w.mono eG⟩
  · rcases get_set_cases e with ⟨rfl, z, _⟩ | ⟨ne, z⟩
    · cases s with
      | own y =>
        cases z
        obtain ⟨l2, x1, x2, x3, x4⟩ := c.owns j _ hj
        rw [hl] at x1
        cases x1
        exact ⟨l, hl, b2, b3, x4⟩
      | bor y => exact nomatch (show Sl.bor d' = Sl.own x from z)
      | no => cases hm
      | val y => cases hm
    · obtain ⟨l2, x1, x2, x3, x4⟩ := c.owns i x z
      obtain ⟨k1, k2⟩ := obj x2 x3 (other ne z rfl x1)
      exact ⟨l2, x1, k1, k2, x4⟩
  · rcases get_set_cases e with ⟨rfl, z, _⟩ | ⟨ne, z⟩
    · cases s with
      | bor y =>
        cases z
        obtain ⟨l2, x1, x2, x3, x4⟩ := c.bors j _ hj
        rw [hl] at x1
        cases x1
        exact ⟨l, hl, b2, b3, x4⟩
      | own y => exact nomatch (show Sl.own d' = Sl.bor x from z)
      | no => cases hm
      | val y => cases hm
    · obtain ⟨l2, x1, x2, x3, x4⟩ := c.bors i x z
      obtain ⟨k1, k2⟩ := obj x2 x3 (other ne z rfl x1)
      exact ⟨l2, x1, k1, k2, x4⟩
  · obtain ⟨y, h1, h2⟩ := c.bb i m e
    by_cases ne : j = i
    · subst ne
      rw [hj] at h1
      cases h1
      exact ⟨d', by rw [List.getElem?_set_self jl]; rfl, h2⟩
    · exact ⟨y, by rw [List.getElem?_set_ne ne]; exact h1, h2⟩
  · have back : ∀ {i : Nat} {t : Sl} {e : D}, (ρ.set j (s.with d'))[i]? = some t → t.mine = some e → ∃ t' e', ρ[i]? = some t' ∧ t'.mine = some e' := fun {i t e} h1 h2 => by
      rcases get_set_cases h1 with ⟨rfl, _, _⟩ | ⟨_, h1⟩
      · exact ⟨s, d, hj, hm⟩
      · exact ⟨t, e, h1, h2⟩
    obtain ⟨t1, x1, y1, z1⟩ := back e1 m1
    obtain ⟨t2, x2, y2, z2⟩ := back e2 m2
    exact c.sep i m t1 t2 x1 x2 l2 hjk y1 z1 y2 z2 v1 v2
end
def SimAO (K : PySem.W.Frag) (cls : Nat → Value) (W : WX) (j : Nat) (ta : TA) (f : M (List D × List D)) : Prop := ∀ F ρ σ G H l, CS K F G H σ ρ → σ[j]? = some (some (.ref l)) → ∀ Q : List V → Hp → Prop,
  wpR (f ρ) (fun p ρ' => ∀ vs1 vs2 G' H', Ex G G' → CS K F G' H' σ ρ' → RepL K G' vs1 p.1 → RepL K G' vs2 p.2 → Q (vs1 ++ .ref l :: vs2) H') (PEx K cls W F G σ) → ta σ H Q
structure QAO (X : Cx) (cls : Nat → Value) (W : WX) (j : Nat) (es : List Expr) (f : M (List D × List D)) : Prop where
  sim : ∃ t, PA X es t ∧ SimAO X.K cls W j t f
def oHere (r : M (List D)) : M (List D × List D) := mbind r fun xs => mpure ([], xs)
def oThere (a : M D) (r : M (List D × List D)) : M (List D × List D) := mbind a fun x => mbind r fun p => mpure (x :: p.1, p.2)
def after {α : Type} (ρ ρ' : List Sl) (k j : Nat) (s : Sl) (r : α) : R α := match ρ'[k]? with
  | some (.bor d') => .ok r (ρ.set j (s.with d'))
  | _ => .bad
def afterX {α : Type} (ρ ρ' : List Sl) (k j : Nat) (s : Sl) (c : Nat) : R α := match ρ'[k]? with
  | some (.bor d') => .ex c (ρ.set j (s.with d'))
  | _ => .bad
def callO (np ns : Nat) (den : MS) (j : Nat) (p : List D × List D) : M D := fun ρ => match mineOf ρ j with
  | some (s, d) => if p.1.length + 1 + p.2.length = np then match den ((p.1.map .val ++ .bor d :: p.2.map .val) ++ List.replicate ns .no) with
    | .rt r ρ' => after ρ ρ' p.1.length j s r
    | .rtN r ρ' => after ρ ρ' p.1.length j s r
    | .nx ρ' => after ρ ρ' p.1.length j s .non
    | .ex c ρ' => afterX ρ ρ' p.1.length j s c
    | .bad => .bad
    else .bad
  | none => .bad
def callON (np ns : Nat) (den : MS) (j : Nat) (p : List D × List D) : M D := fun ρ => match mineOf ρ j with
  | some (s, d) => if p.1.length + 1 + p.2.length = np then match den ((p.1.map .val ++ .bor d :: p.2.map .val) ++ List.replicate ns .no) with
    | .rtN r ρ' => after ρ ρ' p.1.length j s r
    | .ex c ρ' => afterX ρ ρ' p.1.length j s c
    | _ => .bad
    else .bad
  | none => .bad
def eCallO (np ns : Nat) (den : MS) (j : Nat) (fa : M (List D × List D)) : M D := fun ρ => match mineOf ρ j with
  | some _ => mbind fa (callO np ns den j) ρ
  | none => .bad
def eCallON (np ns : Nat) (den : MS) (j : Nat) (fa : M (List D × List D)) : M D := fun ρ => match mineOf ρ j with
  | some _ => mbind fa (callON np ns den j) ρ
  | none => .bad
theorem inert_callO {np ns : Nat} {den : MS} {j : Nat} {fa : M (List D × List D)} : Inert (eCallO np ns den j fa) := fun ρ n a ρ' h => by
  unfold eCallO at h
  split at h
  · rename_i p e
    obtain ⟨h1, h2⟩ := mineOf_some (s := p.1) (d := p.2) e
    rw [n j _ h1] at h2
    cases h2
  · cases h
theorem inert_callON {np ns : Nat} {den : MS} {j : Nat} {fa : M (List D × List D)} : Inert (eCallON np ns den j fa) := fun ρ n a ρ' h => by
  unfold eCallON at h
  split at h
  · rename_i p e
    obtain ⟨h1, h2⟩ := mineOf_some (s := p.1) (d := p.2) e
    rw [n j _ h1] at h2
    cases h2
  · cases h
section
variable {X : Cx} {cls : Nat → Value} {W : WX} {e a b : Expr} {es : List Expr} {f g : M D} {tf : M Bool} {pos : Pos} {sf sg : MS} {st : Stmt} {sts : List Stmt}
theorem qao_here (j : Nat) {r : M (List D)} (hv : PE X a (tVar j)) (hr : QA X cls W es r) (hs : starEach (a :: es) X.env = (false, eval a X.env) :: starEach es X.env := by rfl) : QAO X cls W j (a :: es) (oHere r) := by
  obtain ⟨⟨t, p, s⟩, _⟩ := hr
  refine ⟨⟨_, pa_cons hv p hs, fun F ρ σ G H l c hl Q w => ⟨.ref l, hl, ?_⟩⟩⟩
  exact s F ρ σ G H c _ ((wpR_bind w).mono (fun xs ρ1 w1 v1 G1 H1 e1 c1 r1 => w1 [] v1 G1 H1 e1 c1 .nil r1) fun _ _ p => p)
theorem qao_there {j : Nat} {r : M (List D × List D)} (ha : QE X cls W a f) (hr : QAO X cls W j es r) (hs : starEach (a :: es) X.env = (false, eval a X.env) :: starEach es X.env := by rfl) : QAO X cls W j (a :: es) (oThere f r) := by
  obtain ⟨⟨ta, pa, sa⟩, _⟩ := ha
  obtain ⟨⟨t, p, s⟩⟩ := hr
  refine ⟨⟨_, pa_cons pa p hs, fun F ρ σ G H l c hl Q w => ?_⟩⟩
  refine sa F ρ σ G H c _ ((wpR_bind w).mono (fun x ρ1 w1 v1 G1 H1 e1 c1 r1 => ?_) fun _ _ p => p)
  refine s F ρ1 σ G1 H1 l c1 hl _ ((wpR_bind w1).mono (fun q ρ2 w2 vs1 vs2 G2 H2 e2 c2 k1 k2 => ?_) fun _ _ p => p.mono e1)
  exact w2 (v1 :: vs1) vs2 G2 H2 (e1.trans e2) c2 (.cons (r1.mono e2) k1) k2
theorem after_ok {α : Type} {ρ ρ' : List Sl} {k j : Nat} {s : Sl} {r : α} {P : α → List Sl → Prop} {E : Nat → List Sl → Prop} (h : wpR (after ρ ρ' k j s r) P E) : ∃ d', ρ'[k]? = some (.bor d') ∧ P r (ρ.set j (s.with d')) := by
  unfold after at h
  split at h
  · rename_i d' e; exact ⟨d', e, h⟩
  · exact h.elim
theorem afterX_ok {α : Type} {ρ ρ' : List Sl} {k j : Nat} {s : Sl} {c : Nat} {P : α → List Sl → Prop} {E : Nat → List Sl → Prop} (h : wpR (afterX ρ ρ' k j s c : R α) P E) : ∃ d', ρ'[k]? = some (.bor d') ∧ E c (ρ.set j (s.with d')) := by
  unfold afterX at h
  split at h
  · rename_i d' e; exact ⟨d', e, h⟩
  · exact h.elim
theorem fr_backO {K : PySem.W.Frag} {F : Fm} {G H G' H' : Hp} {σ σ' : St} {ρ ρ' : List Sl} {j k : Nat} {s : Sl} {d d' : D} {l m : Addr} {x : D} (c : CS K F G H σ ρ) (hj : ρ[j]? = some s) (hm : s.mine = some d) (f : Fr K ⟨H, G, [(k, l)]⟩ G' H' σ' ρ' m x) : Fr K F G' H' σ (ρ.set j (s.with d')) m x := by
  have hn : H m = none := f.h0
  refine ⟨f.obj, f.g, (c.fresh hn).1, fun i t e h1 h2 => ?_⟩
  rcases get_set_cases h1 with ⟨rfl, _, _⟩ | ⟨_, h1⟩
  · exact c.notMine hn hj hm
  · exact c.notMine hn h1 h2
theorem sim_callO {K : PySem.W.Frag} {np ns : Nat} {den : MS} {j : Nat} {ta : TA} {fa : M (List D × List D)} (ha : SimAO K cls W j ta fa) : SimE K cls W (tCallSD (spD K cls np ns den) [] (WE W) ta) (eCallO np ns den j fa) := fun F ρ σ G H c Q w => by
  unfold eCallO at w
  split at w
  · rename_i p0 e0
    obtain ⟨h1, h2⟩ := mineOf_some (s := p0.1) (d := p0.2) e0
    obtain ⟨l, a1, a2, a3, a4⟩ := c.mine h1 h2
    refine ha F ρ σ G H l c a1 _ ((wpR_bind w).mono (fun p ρ1 w1 vs1 vs2 G1 H1 e1 c1 r1 r2 => ?_) fun _ _ p => p)
    unfold callO at w1
    split at w1
    · rename_i s d es
      obtain ⟨b1, b2⟩ := mineOf_some es
      split at w1
      · rename_i hl
        have cc := c1.argsO b1 b2 a1 r1 r2
        refine ⟨?_, G1, [(p.1.length, l)], p.1.map .val ++ .bor d :: p.2.map .val, ?_, ?_⟩
        · rw [List.append_nil, List.length_append, List.length_cons, r1.length, r2.length]
          omega
        · rw [List.append_nil]
          exact cc
        · split at w1
          · rename_i r ρ' q
            rw [q]
            obtain ⟨d', k1, k2⟩ := after_ok w1
            exact fun v σ' G' H' e' c' rv => k2 v G' H' (e1.trans e') (c1.backO b1 b2 a1 c' k1) rv
          · rename_i r ρ' q
            rw [q]
            obtain ⟨d', k1, k2⟩ := after_ok w1
            intro m σ' G' H' e' c' fr
            obtain ⟨o, ho, c2, rr, e2⟩ := (c1.backO b1 b2 a1 c' k1).freeze (fr_backO c1 b1 b2 fr)
            exact k2 _ _ _ ((e1.trans e').trans e2) c2 rr
          · rename_i ρ' q
            rw [q]
            obtain ⟨d', k1, k2⟩ := after_ok w1
            exact fun σ' G' H' e' c' => k2 _ G' H' (e1.trans e') (c1.backO b1 b2 a1 c' k1) .non
          · rename_i n ρ' q
            rw [q]
            obtain ⟨d', k1, k2⟩ := afterX_ok w1
            exact fun σ' G' H' e' c' => k2 G' H' (e1.trans e') (c1.backO b1 b2 a1 c' k1)
          · exact w1.elim
      · exact w1.elim
    · exact w1.elim
  · exact w.elim
theorem sim_callON {K : PySem.W.Frag} {np ns : Nat} {den : MS} {j : Nat} {ta : TA} {fa : M (List D × List D)} (ha : SimAO K cls W j ta fa) : SimN K cls W (tCallSD (spD K cls np ns den) [] (WE W) ta) (eCallON np ns den j fa) := fun F ρ σ G H c Q w => by
  unfold eCallON at w
  split at w
  · rename_i p0 e0
    obtain ⟨h1, h2⟩ := mineOf_some (s := p0.1) (d := p0.2) e0
    obtain ⟨l, a1, a2, a3, a4⟩ := c.mine h1 h2
    refine ha F ρ σ G H l c a1 _ ((wpR_bind w).mono (fun p ρ1 w1 vs1 vs2 G1 H1 e1 c1 r1 r2 => ?_) fun _ _ p => p)
    unfold callON at w1
    split at w1
    · rename_i s d es
      obtain ⟨b1, b2⟩ := mineOf_some es
      split at w1
      · rename_i hl
        have cc := c1.argsO b1 b2 a1 r1 r2
        refine ⟨?_, G1, [(p.1.length, l)], p.1.map .val ++ .bor d :: p.2.map .val, ?_, ?_⟩
        · rw [List.append_nil, List.length_append, List.length_cons, r1.length, r2.length]
          omega
        · rw [List.append_nil]
          exact cc
        · split at w1
          · rename_i r ρ' q
            rw [q]
            obtain ⟨d', k1, k2⟩ := after_ok w1
            exact fun m σ' G' H' e' c' fr => k2 m G' H' (e1.trans e') (c1.backO b1 b2 a1 c' k1) (fr_backO c1 b1 b2 fr)
          · rename_i n ρ' q
            rw [q]
            obtain ⟨d', k1, k2⟩ := afterX_ok w1
            exact fun σ' G' H' e' c' => k2 G' H' (e1.trans e') (c1.backO b1 b2 a1 c' k1)
          · exact w1.elim
      · exact w1.elim
    · exact w1.elim
  · exact w.elim
theorem q_callO {np ns : Nat} {den : MS} {j : Nat} {fa : M (List D × List D)} (hp : ∀ ta, PA X es ta → PE X e (tCallSD (spD X.K cls np ns den) [] (WE W) ta)) (ha : QAO X cls W j es fa) : QE X cls W e (eCallO np ns den j fa) :=
  ⟨let ⟨t, p, s⟩ := ha.sim; ⟨_, hp t p, sim_callO s⟩, inert_callO⟩
theorem q_callON {np ns : Nat} {den : MS} {j : Nat} {fa : M (List D × List D)} (hp : ∀ ta, PA X es ta → PE X e (tCallSD (spD X.K cls np ns den) [] (WE W) ta)) (ha : QAO X cls W j es fa) : QN X cls W e (eCallON np ns den j fa) :=
  ⟨let ⟨t, p, s⟩ := ha.sim; ⟨_, hp t p, sim_callON s⟩, inert_callON⟩
end
end NT

set_option Elab.async false
set_option linter.all false
set_option maxRecDepth 100000
set_option maxHeartbeats 4000000
/-! two more calls of built-in types: list(reversed(xs)), dict(t) -/
namespace NT.RV
open PySem L2 PySem.Spec PyProof.Rows
section
variable {prog : Program} {w : World} {A : Around} {E : Value → Shared → Prop} {s : Shared}
theorem ext_rev {it l S : Addr} {items : Array Value} {c₀ : Nat} {R : Result → Shared → Prop} (hh : A.handled = none) (hit : s.heap.IsRevIter it l ((items.size : Int) - 1)) (hl : s.heap.IsList l items) (hne : l ≠ it) (hn : items.size ≤ sizeLine)
    (hS : s.heap.get? S = some { cls := .type "list", data := .seq #[] c₀ }) (hSi : S ≠ it) (hSl : S ≠ l)
    (hR : ∀ h' tk acc' c', (∀ b o, b ≠ S → b ≠ it → s.heap.get? b = some o → h'.get? b = some o) → h'.get? S = some { cls := .type "list", dict := none, data := .seq acc' c', slots := #[] } →
      ItemsOf (fun i v => items[items.size - 1 - i]? = some v) acc' items.size → R (.ok (.ret .none)) { s with heap := h', toks := tk }) :
    wpAny (model prog w) A.in1 (Builtin.List.listExtendWith (.ref S) (.ref it) .none) (fun fin s' => match fin with | .done f => R (.ok f) s' | .again c' => c'.quiet = true ∧ codeAny (model prog w) A c' R s') (fun e s' => R (.error e) s') s := by
  have W := (Walks.listRev (prog := prog) (w := w) (A := A.in1) hh it l hne items).toS
  have hSf : S ∉ [it, l] := by simp only [List.mem_cons, List.not_mem_nil, or_false, not_or]; exact ⟨hSi, hSl⟩
  have hT : s.TypeIs (.ref it) "list_reverseiterator" := hit.typeIs
  have h1 : Builtin.List.listSameRef (.ref S) (.ref it) = false := by simp [Builtin.List.listSameRef, hSi]
  unfold Builtin.List.listExtendWith
  refine wpAny_bind (wpAny_typeOf hT ?_)
  rw [if_neg (by rw [h1]; decide)]
  refine wpAny_bind (wpAny_pyIter_revIter hit ?_)
  refine wpAny_bind (wpAny_holding ?_)
  unfold Builtin.List.listLengthHint
  refine wpAny_bind (wpAny_specialOf hT RT.nolen_lri ?_)
  show wpAny _ A.in1 (specialOf (Value.ref it) (Str.ofString "__length_hint__") >>= _) _ _ _
  refine wpAny_bind (wpAny_specialOf hT RT.hint_lri ?_)
  generalize hid : ("list_reverseiterator.__length_hint__" : String) = id0
  wp_delta
  rw [show splitId id0 = some ("list_reverseiterator", "__length_hint__") from by subst hid; decide +kernel]
  subst hid
  refine wpAny_bind (wpAny_isInstance (b := true) hT (by rw [isSubtype_type]; kernel_rfl) ?_)
  refine wpAny_pure ?_
  rw [if_neg (by decide)]
  have e0 : ((items.size : Nat) : Int) - 1 - ((0 : Nat) : Int) = (items.size : Int) - 1 := by omega
  refine wpAny_pure ⟨plainId_quiet F.plain_extend_loop _, codeAny_extend_loopS W hn _ hSf _ items.size 0 _ _ _ rfl (Nat.zero_le _) ⟨Nat.zero_le _, by rw [e0]; exact hit, hl⟩ hS (ItemsOf.nil _) fun s' acc' c' hm hS' hacc => ?_⟩
  rw [Moved.eq_with hm]
  refine hR s'.heap s'.toks acc' c' (fun b o hb hb2 e => hm.heap b o (fun hmem => ?_) e) hS' hacc
  rcases List.mem_cons.mp hmem with e' | hmem
  · exact hb e'
  · exact hb2 (List.mem_singleton.mp hmem)
theorem init_rev {it l S : Addr} {items : Array Value} {R : Result → Shared → Prop} (hh : A.handled = none) (hit : s.heap.IsRevIter it l ((items.size : Int) - 1)) (hl : s.heap.IsList l items) (hne : l ≠ it) (hn : items.size ≤ sizeLine)
    (hS : s.heap.get? S = some { cls := .type "list", data := .seq #[] }) (hSi : S ≠ it) (hSl : S ≠ l)
    (hR : ∀ h' tk acc' c', (∀ b o, b ≠ S → b ≠ it → s.heap.get? b = some o → h'.get? b = some o) → h'.get? S = some { cls := .type "list", dict := none, data := .seq acc' c', slots := #[] } →
      ItemsOf (fun i v => items[items.size - 1 - i]? = some v) acc' items.size → R (.ok (.ret .none)) { s with heap := h', toks := tk }) :
    wpAny (model prog w) A.in1 (Builtin.«list.__init__» ⟨[.ref S, .ref it], []⟩) (fun fin s' => match fin with | .done f => R (.ok f) s' | .again c' => c'.quiet = true ∧ codeAny (model prog w) A c' R s') (fun e s' => R (.error e) s') s := by
  show wpAny _ _ (do let old ← Builtin.List.listItems (.ref S); Builtin.List.listUpdate (.ref S) (fun _ => #[]); letGo old.toList.reverse; Builtin.List.listExtendWith (.ref S) (.ref it) .none) _ _ s
  refine wpAny_bind ?_
  unfold Builtin.List.listItems
  refine wpAny_bind (wpAny_seqItems hS rfl (wpAny_pure ?_))
  show wpAny _ _ (updateSeq S (fun _ => #[]) >>= fun _ => letGo (#[] : Array Value).toList.reverse >>= fun _ => Builtin.List.listExtendWith (.ref S) (.ref it) .none) _ _ s
  refine wpAny_bind (wpAny_updateSeq hS rfl ?_)
  have hS₂ := Heap.get?_update_self (Obj.mapSeq (fun _ => (#[] : Array Value))) hS rfl
  have oth : ∀ b o, b ≠ S → s.heap.get? b = some o → (s.heap.update S (Obj.mapSeq (fun _ => (#[] : Array Value)))).get? b = some o := fun b o hb e => (Heap.get?_update_other _ _ (Ne.symm hb)).trans e
  refine wpAny_bind (wpAny_letGo ?_)
  refine ext_rev hh (hit.at fun o e => oth _ o (Ne.symm hSi) e) (hl.at fun o e => oth _ o (Ne.symm hSl) e) hne hn hS₂ hSi hSl fun h' tk acc' c' hk hS' hacc => ?_
  exact hR h' tk acc' c' (fun b o hb hb2 e => hk b o hb hb2 (oth b o hb e)) hS' hacc
theorem list_rev {it l : Addr} {items : Array Value} {Q : Value → Shared → Prop} (hh : A.handled = none) (hit : s.heap.IsRevIter it l ((items.size : Int) - 1)) (hl : s.heap.IsList l items) (hne : l ≠ it) (hn : items.size ≤ sizeLine)
    (hQ : ∀ h' tk acc' c', (∀ b o, b ≠ it → s.heap.get? b = some o → h'.get? b = some o) → h'.get? s.heap.objs.size = some { cls := .type "list", dict := none, data := .seq acc' c', slots := #[] } →
      ItemsOf (fun i v => items[items.size - 1 - i]? = some v) acc' items.size → Q (.ref s.heap.objs.size) { s with heap := h', toks := tk }) :
    wpAny (model prog w) A (call (.type "list") [.ref it]) Q E s := by
  refine callType_codes (Q₁ := fun obj s₁ => obj = .ref s.heap.objs.size ∧ s₁ = { s with heap := s.heap.push { cls := .type "list", data := .seq #[] } }) F.called_list (F.typeCall_list_1 _) F.entry_list_init
    (code_list_new _ ⟨rfl, rfl⟩) fun obj s₁ h₁ => ?_
  obtain ⟨rfl, rfl⟩ := h₁
  obtain ⟨oi, hoi, _⟩ := id hit
  obtain ⟨ol, hol, _⟩ := id hl
  have hS : (s.heap.push { cls := .type "list", data := .seq #[] }).get? s.heap.objs.size = some { cls := .type "list", data := .seq #[] } := Heap.get?_push_size _ rfl
  refine ⟨⟨_, hS, rfl⟩, F.args_list_init_2 _ _, init_rev (A := A.in1) hh (hit.at fun o e => Heap.get?_push_of_some _ e) (hl.push _) hne hn hS (Nat.ne_of_gt (Heap.lt_size hoi)) (Nat.ne_of_gt (Heap.lt_size hol)) fun h' tk acc' c' hk hS' hacc => ?_⟩
  exact ⟨rfl, hQ h' tk acc' c' (fun b o hb e => hk b o (Nat.ne_of_lt (Heap.lt_size e)) hb (Heap.get?_push_of_some _ e)) hS' hacc⟩
end
section
variable {X : Cx}
def tLstRev (K : PySem.W.Frag) (te : TE) : TE := fun σ H Q => te σ H fun v H1 => ∃ (a : Addr) (xs : List V), v = .ref a ∧ SqL K H1 a xs ∧ ∀ q, H1 q = none → Q (.ref q) (upd H1 q (.lst xs.reverse))
theorem pe_lstRev {e : Expr} {te : TE} {p p2 pos pos2 : Pos} (hc : X.calm = true) (hg : Gl X "list") (hm : X.mg "list" = none) (hg2 : Gl X "reversed") (hm2 : X.mg "reversed" = none) (he : PE X e te)
    (hs : starEach [e] X.env = (false, eval e X.env) :: starEach [] X.env := by rfl)
    (hs2 : starEach [.Call (.Name "reversed" p2) [e] [] pos2] X.env = (false, eval (.Call (.Name "reversed" p2) [e] [] pos2) X.env) :: starEach [] X.env := by rfl) :
    PE X (.Call (.Name "list" p) [.Call (.Name "reversed" p2) [e] [] pos2] [] pos) (tLstRev X.K te) := by
  refine ⟨fun pins s σ H Q I h => ?_⟩
  refine Call_ (ld_blt I hg hm (show bootBuiltins "list" = some (.type "list") by decide +kernel) (PyProof.Rows.callWith_type1 (args_cons (Call_ (ld_blt I hg2 hm2 PyProof.Rows.boot_reversed (PyProof.Rows.callWith_type1 (args_cons (thn (he.run pins s σ H _ I h) fun u s1 ⟨v, H1, I1, r1, q1⟩ => args_nil ?_) hs) hs rfl))) hs2) hs2 rfl))
  obtain ⟨a, xs, ev, hq, q⟩ := q1
  subst ev
  obtain rfl : u = Value.ref a := r1
  obtain ⟨its, rv, p', hz⟩ := I1.list hq
  refine call_reversed_list p'.isList (args_nil ?_)
  have k0 : ∀ b o, s1.heap.get? b = some o → (s1.heap.push (revObj a ((its.toArray.size : Int) - 1))).get? b = some o := fun b o e => Heap.get?_push_of_some _ e
  have I2 : Inv X pins σ H1 { s1 with heap := s1.heap.push (revObj a ((its.toArray.size : Int) - 1)) } := I1.kept (t' := s1.toks) k0
  obtain ⟨f0, f1, f2, f3, f4, f5⟩ := I1.fpOk (H' := H1) (b := s1.heap.objs.size) (Nat.le_refl _) (I1.hok.fresh (Nat.le_refl _))
  have hl := p'.isList
  obtain ⟨ol, hol, _⟩ := id hl
  have hne : a ≠ s1.heap.objs.size := Nat.ne_of_lt (Heap.lt_size hol)
  have hn : its.toArray.size ≤ sizeLine := by rw [List.size_toArray, ← rv.length]; exact hz
  refine list_rev (s := { s1 with heap := s1.heap.push (revObj a ((its.toArray.size : Int) - 1)) }) (I1.ok.hd hc) ⟨_, Heap.get?_push_size _ rfl, rfl, rfl⟩ (hl.push _) hne hn fun h' tk acc c' hk hS' hi => ?_
  generalize hit : s1.heap.objs.size = it at *
  generalize hs2' : s1.heap.push (revObj a ((its.toArray.size : Int) - 1)) = h2 at *
  have fS : H1 h2.objs.size = none := I2.hok.fresh (Nat.le_refl _)
  have lt : ∀ {b : Addr} {o : PySem.Obj}, h2.get? b = some o → b ≠ h2.objs.size := fun e => Nat.ne_of_lt (Heap.lt_size e)
  have nit : ∀ b u, H1 b = some u → b ≠ it := fun b u e z => by rw [z, f0] at e; cases e
  have vr : Vals xs.reverse acc.toList := RT.vals_rev rv hi
  refine ⟨.ref h2.objs.size, upd H1 h2.objs.size (.lst xs.reverse), ?_, rfl, q _ fS⟩
  refine I2.step (g' := s1.gens) (t' := tk) (d' := s1.drawn) (ch := [it]) (fun b hb => ?_) (fun b o _ _ hc e _ => hk b o (fun z => hc (by simp [z])) e) (fun b o _ _ hc e _ => ⟨o.slots, hk b o (fun z => hc (by simp [z])) e⟩)
    (fun b o hc e n => by rw [upd_ne (lt e)]; exact n) (fun b o hc e => ⟨o, hk b o (fun z => hc (by simp [z])) e⟩) (fun b ys e => by rw [upd_ne (ne_of_none e fS)]; exact e) (fun b o u e => by rw [upd_ne (ne_of_none e fS)]; exact e)
    (fun b ps e => ⟨#[], by rw [upd_ne (ne_of_none e fS), e]; simp⟩) (fun m hm => ?_) (fun b u e => ?_) I2.bare
  · have e : b = it := by simpa using hb
    subst e
    exact ⟨f3, f1, f4, f5⟩
  · obtain ⟨o, es, ep, ho, r⟩ := hm
    exact ⟨o, es, ep, hk _ o (Ne.symm f1) ho, r⟩
  · by_cases hb : b = h2.objs.size
    · subst hb
      rw [upd_same] at e
      cases e
      exact ⟨by rw [List.length_reverse]; exact hz, acc.toList, c', vr, by rw [Array.toArray_toList]; exact hS'⟩
    · rw [upd_ne hb] at e
      refine (I2.hok b u e).stay (fun c v hc q => hk c v ?_ q) (fun c q => by rw [upd_ne (ne_of_none q fS)]; exact q) fun c ys q => by rw [upd_ne (ne_of_none q fS)]; exact q
      rcases hc with z | z
      · rw [z]; exact nit b u e
      · exact nit c _ z
end
end NT.RV

set_option Elab.async false
set_option linter.all false
set_option maxRecDepth 100000
set_option maxHeartbeats 4000000
namespace NT
open PySem L2

/-! ### values: ints and texts -/
section
variable {K : PySem.W.Frag} {X : Cx}
theorem pok {F : Fm} {G H : Hp} {σ : St} {ρ : List Sl} {Q : VK} {z : D} {v : V} (c : CS K F G H σ ρ) (p : POk K F G σ Q z ρ) (r : Rep K G v z) : Q v H := p v G H (Same.refl G) c r
theorem pnw_lst {F : Fm} {G H : Hp} {σ : St} {ρ : List Sl} {Q : VK} {ds : List D} {vs : List V} (c : CS K F G H σ ρ) (q : PNw K F G σ Q (.lst ds) ρ) (r : RepL K G vs ds) {p : Addr} (hp : H p = none) : Q (.ref p) (upd H p (.lst vs)) := by
  obtain ⟨c2, f2⟩ := fr_new c hp (o := .lst vs) (d := .lst ds) ⟨vs, upd_same, r⟩
  exact q _ _ _ (Same.refl G) c2 f2
theorem pnw_dK {F : Fm} {G H : Hp} {σ : St} {ρ : List Sl} {Q : VK} {ds : List (Key × D)} {vs : List (Key × V)} (c : CS K F G H σ ρ) (q : PNw K F G σ Q (.dK ds) ρ) (r : RepK K G vs ds) {p : Addr} (hp : H p = none) : Q (.ref p) (upd H p (.dK vs)) := by
  obtain ⟨c2, f2⟩ := fr_new c hp (o := .dK vs) (d := .dK ds) ⟨vs, upd_same, r⟩
  exact q _ _ _ (Same.refl G) c2 f2

def op2 (g : Int → Int → D) : D → D → Option D
  | .int i, .int j => some (g i j)
  | _, _ => none
theorem val_I0 {g : Int → Int → V} {g' : Int → Int → D} (h : ∀ G i j, Rep K G (g i j) (g' i j)) : Val2 K (rI0 g) (op2 g') := fun F G H σ ρ x y d e z c rx ry hz Q p => by
  unfold op2 at hz
  split at hz
  · cases hz
    cases rx
    cases ry
    exact ⟨_, _, rfl, rfl, pok c p (h G _ _)⟩
  · cases hz
def op2C (C : Int → Int → Bool) (g : Int → Int → D) : D → D → Option D
  | .int i, .int j => if C i j then some (g i j) else none
  | _, _ => none
theorem val_I {C : Int → Int → Prop} {C' : Int → Int → Bool} {g : Int → Int → V} {g' : Int → Int → D} (hC : ∀ i j, C' i j = true → C i j) (h : ∀ G i j, Rep K G (g i j) (g' i j)) : Val2 K (rI C g) (op2C C' g') := fun F G H σ ρ x y d e z c rx ry hz Q p => by
  unfold op2C at hz
  split at hz
  · split at hz
    · rename_i hc
      cases hz
      cases rx
      cases ry
      exact ⟨_, _, rfl, rfl, hC _ _ hc, pok c p (h G _ _)⟩
    · cases hz
  · cases hz
theorem Val2.eq {r : R2} {g g' : D → D → Option D} (h : Val2 K r g) (e : ∀ d e, g' d e = g d e) : Val2 K r g' := fun F G H σ ρ x y d e' z c rx ry hz Q p => h F G H σ ρ x y d e' z c rx ry (by rw [← e]; exact hz) Q p

def opSub := op2 fun i j => D.int (i - j)
def opLt := op2 fun i j => D.bl (decide (i < j))
def intsOf : List D → Option (List Int)
  | [] => some []
  | .int i :: ds => (intsOf ds).map (i :: ·)
  | _ => none
theorem intsOf_some : ∀ {ds : List D} {ns : List Int}, intsOf ds = some ns → ds = ns.map D.int
  | [], _, h => by cases h; rfl
  | .int i :: ds, _, h => by
    obtain ⟨ms, h1, h2⟩ := Option.map_eq_some_iff.mp h
    subst h2
    rw [List.map_cons, intsOf_some h1]
/-- <= of tuples of ints -/
def leTup (ns ms : List Int) : Bool := Ob.lexAt (fun j => decide (ns.getD j 0 = ms.getD j 0)) (fun j => decide (ns.getD j 0 ≤ ms.getD j 0)) (decide (ns.length ≤ ms.length)) 0 (min ns.length ms.length)
def opLe : D → D → Option D
  | .int i, .int j => some (.bl (decide (i ≤ j)))
  | .tup ds, .tup es => match intsOf ds, intsOf es with
    | some ns, some ms => some (.bl (leTup ns ms))
    | _, _ => none
  | _, _ => none
def opGt := op2 fun i j => D.bl (decide (j < i))
def opGe := op2 fun i j => D.bl (decide (j ≤ i))
theorem val_sub : Val2 K (rI0 fun i j => .int (i - j)) opSub := val_I0 fun _ _ _ => .int _
theorem val_lt : Val2 K (rI0 fun i j => .bl (decide (i < j))) opLt := val_I0 fun _ _ _ => .bl _
theorem RepL.intsV {G : Hp} {vs : List V} {ds : List D} {ns : List Int} (r : RepL K G vs ds) (h : intsOf ds = some ns) : vs = ns.map V.int := by
  have := intsOf_some h
  subst this
  exact r.ints_inv
def rLeA (K : PySem.W.Frag) : R2 := fun x y H Q => rI0 (fun i j => .bl (decide (i ≤ j))) x y H Q ∨ rLeT K x y H Q
theorem op_leA (hu : X.A.units < cLine) : OpR X (compareOp .LtE) (rLeA X.K) := OpR.or op_le (op_leT hu)
theorem val_le : Val2 K (rLeA K) opLe := fun F G H σ ρ x y d e z c rx ry hz Q p => by
  unfold opLe at hz
  split at hz
  · cases hz
    cases rx
    cases ry
    exact .inl ⟨_, _, rfl, rfl, pok c p (.bl _)⟩
  · split at hz
    · rename_i ns ms h1 h2
      cases hz
      cases rx with
      | tup hx r1 =>
        cases ry with
        | tup hy r2 =>
          have e1 := r1.intsV h1
          have e2 := r2.intsV h2
          subst e1
          subst e2
          exact .inr ⟨_, _, ns, ms, rfl, rfl, .inl (c.ex.rd hx.rd), .inl (c.ex.rd hy.rd), pok c p (.bl _)⟩
    · cases hz
  · cases hz
theorem val_gt : Val2 K (rI0 fun i j => .bl (decide (j < i))) opGt := val_I0 fun _ _ _ => .bl _
theorem val_ge : Val2 K (rI0 fun i j => .bl (decide (j ≤ i))) opGe := val_I0 fun _ _ _ => .bl _
def mulOk (i j : Int) : Bool := decide ((-(2 ^ 64) < i ∧ i < 2 ^ 64) ∨ (-(2 ^ 64) < j ∧ j < 2 ^ 64))
def opMod := op2C (fun _ j => decide (0 < j)) fun i j => D.int (i % j)
def opFdiv := op2C (fun _ j => decide (0 < j ∧ j < 1073741824)) fun i j => D.int (i / j)
def opPow := op2C (fun i j => decide (0 ≤ j ∧ j ≤ 1000000 ∧ i.natAbs < 2 ^ 64)) fun i j => D.int (i ^ j.toNat)
theorem val_mod : Val2 K (rI (fun _ j => 0 < j) fun i j => .int (i % j)) opMod := val_I (fun i j h => of_decide_eq_true h) fun _ _ _ => .int _
theorem val_fdiv : Val2 K (rI CDiv fun i j => .int (i / j)) opFdiv := val_I (fun i j h => (show 0 < j ∧ j < 1073741824 from of_decide_eq_true h)) fun _ _ _ => .int _
theorem val_pow : Val2 K (rI CPow fun i j => .int (i ^ j.toNat)) opPow := val_I (fun i j h => (show 0 ≤ j ∧ j ≤ 1000000 ∧ i.natAbs < 2 ^ 64 from of_decide_eq_true h)) fun _ _ _ => .int _

/-! + of ints, texts, tuples -/
def opAdd : D → D → Option D
  | .int i, .int j => some (.int (i + j))
  | .str x, .str y => if x.length + y.length ≤ 100000 then some (.str (x ++ y)) else none
  | .tup xs, .tup ys => if xs.length + ys.length ≤ 100000 then some (.tup (xs ++ ys)) else none
  | _, _ => none
def rAddA (K : PySem.W.Frag) : R2 := fun x y H Q => rI0 (fun i j => .int (i + j)) x y H Q ∨ ((∃ i j, x = .str i ∧ y = .str j ∧ i.length + j.length ≤ sizeLine ∧ Q (.str (i ++ j)) H) ∨ rCatL K x y H Q)
theorem op_addA : OpR X (binaryOp .Add) (rAddA X.K) := OpR.or op_add (OpR.or op_add_str op_catL)
theorem val_add : Val2 K (rAddA K) opAdd := fun F G H σ ρ x y d e z c rx ry hz Q p => by
  unfold opAdd at hz
  split at hz
  · cases hz
    cases rx
    cases ry
    exact .inl ⟨_, _, rfl, rfl, pok c p (.int _)⟩
  · split at hz
    · rename_i hl
      cases hz
      cases rx
      cases ry
      exact .inr (.inl ⟨_, _, rfl, rfl, sz_of hl, pok c p (.str _)⟩)
    · cases hz
  · split at hz
    · rename_i hl
      cases hz
      cases rx with
      | tup hx r1 =>
        cases ry with
        | tup hy r2 =>
          refine .inr (.inr ⟨_, _, _, _, ⟨rfl, rfl, .inl (c.ex.rd hx.rd), .inl (c.ex.rd hy.rd), by rw [r1.length, r2.length]; exact sz_of hl⟩, fun e => ?_, fun _ e => ?_, fun _ _ => ?_⟩)
          · subst e
            cases r1
            exact pok c p (.tup hy r2)
          · subst e
            cases r2
            rw [List.append_nil] at p
            exact pok c p (.tup hx r1)
          · exact pok_lay c p (r1.append r2)
    · cases hz
  · cases hz
/-! * of ints, of a text and an int -/
def strRep (x : Str) (n : Int) : Str := Txt.mul x n
def rMulS : R2 := fun x y H Q => ∃ z n, x = .str z ∧ y = .int n ∧ z.length ≤ 1000 ∧ -1000 ≤ n ∧ n ≤ 1000 ∧ Q (.str (Txt.mul z n)) H
theorem op_mulS : OpR X (binaryOp .Mult) rMulS := by
  intro pins s σ H x y v u Q I rx ry h
  obtain ⟨z, n, rfl, rfl, hz, h1, h2, q⟩ := h
  obtain ⟨t, rfl⟩ := rx
  obtain ⟨t', rfl⟩ := ry
  refine SB.mul ⟨?_, fun h3 h4 => ?_, fun h3 h4 => ?_⟩ fun t' k => ⟨.str _, H, I.tok k, ⟨_, rfl⟩, q⟩
  · simp only [Bool.or_eq_false_iff, decide_eq_false_iff_not]
    omega
  · have h5 : (1 : Int) ≤ n := by omega
    have h6 : (1000 : Int) ≤ (2 ^ 63 - 1) / n := by
      refine (Int.le_ediv_iff_mul_le (by omega)).mpr ?_
      have : (1000 : Int) * n ≤ 1000 * 1000 := by omega
      have e : (2 : Int) ^ 63 - 1 = 9223372036854775807 := by decide
      omega
    have h7 : (z.length : Int) ≤ 1000 := by omega
    omega
  · show decide (z.length * n.toNat > sizeLine) = false
    have : z.length * n.toNat ≤ 1000 * 1000 := Nat.mul_le_mul hz (by omega)
    simp only [decide_eq_false_iff_not]
    have e := sizeLine_eq
    omega
def opMul : D → D → Option D
  | .int i, .int j => if mulOk i j then some (.int (i * j)) else none
  | .str x, .int n => if x.length ≤ 1000 ∧ -1000 ≤ n ∧ n ≤ 1000 then some (.str (strRep x n)) else none
  | _, _ => none
theorem op_mulA : OpR X (binaryOp .Mult) (fun x y H Q => rI CMul (fun i j => .int (i * j)) x y H Q ∨ rMulS x y H Q) := OpR.or op_mul op_mulS
theorem val_mul : Val2 K (fun x y H Q => rI CMul (fun i j => .int (i * j)) x y H Q ∨ rMulS x y H Q) opMul := fun F G H σ ρ x y d e z c rx ry hz Q p => by
  unfold opMul at hz
  split at hz
  · split at hz
    · rename_i hc
      cases hz
      cases rx
      cases ry
      exact .inl ⟨_, _, rfl, rfl, (show (-(2 ^ 64) < _ ∧ _ < 2 ^ 64) ∨ (-(2 ^ 64) < _ ∧ _ < 2 ^ 64) from of_decide_eq_true hc), pok c p (.int _)⟩
    · cases hz
  · split at hz
    · rename_i hc
      cases hz
      cases rx
      cases ry
      exact .inr ⟨_, _, rfl, rfl, hc.1, hc.2.1, hc.2.2, pok c p (.str _)⟩
    · cases hz
  · cases hz
def opNeg : D → Option D
  | .int i => some (.int (-i))
  | _ => none
theorem val_neg : Val1 K (rU fun i => .int (-i)) opNeg := fun F G H σ ρ x d z c rx hz Q p => by
  unfold opNeg at hz
  split at hz
  · cases hz
    cases rx
    exact ⟨_, rfl, pok c p (.int _)⟩
  · cases hz
/-! lists: + and * -/
def opCat : D → D → Option D
  | .lst xs, .lst ys => if xs.length + ys.length ≤ 100000 then some (.lst (xs ++ ys)) else none
  | _, _ => none
theorem new_cat : New2 K rCat opCat := fun F G H σ ρ x y d e z c rx ry hz Q p => by
  unfold opCat at hz
  split at hz
  · split at hz
    · rename_i hl
      cases hz
      cases rx with
      | lst hx r1 =>
        cases ry with
        | lst hy r2 => exact ⟨_, _, _, _, rfl, rfl, c.ex _ _ hx, c.ex _ _ hy, by rw [r1.length, r2.length]; exact sz_of hl, fun q hq => pnw_lst c p (r1.append r2) hq⟩
    · cases hz
  · cases hz
theorem RepL.flat {G : Hp} {vs : List V} {ds : List D} (r : RepL K G vs ds) : ∀ n : Nat, RepL K G (List.replicate n vs).flatten (List.replicate n ds).flatten
  | 0 => .nil
  | n + 1 => by
    rw [List.replicate_succ, List.replicate_succ, List.flatten_cons, List.flatten_cons]
    exact r.append (RepL.flat r n)
def opRepL : D → D → Option D
  | .lst xs, .int k => if -1000 ≤ k ∧ k ≤ 1000 ∧ xs.length ≤ 1000 then some (.lst (List.replicate k.toNat xs).flatten) else none
  | _, _ => none
theorem new_rep : New2 K rRep opRepL := fun F G H σ ρ x y d e z c rx ry hz Q p => by
  unfold opRepL at hz
  split at hz
  · split at hz
    · rename_i hl
      cases hz
      cases ry
      cases rx with
      | lst hx r1 =>
        refine ⟨_, _, _, rfl, rfl, c.ex _ _ hx, by omega, by omega, ?_, fun q hq => pnw_lst c p (r1.flat _) hq⟩
        rw [r1.length]
        exact Nat.le_trans (Nat.mul_le_mul hl.2.2 (show _ ≤ 1000 by omega)) (by decide)
    · cases hz
  · cases hz

/-! ### subscripts -/
theorem IxR.or {r r' : R2} (h : IxR X r) (h' : IxR X r') : IxR X (fun x y H Q => r x y H Q ∨ r' x y H Q) := fun value slice pins s σ H x y v u Q I rx ry q hs => q.elim (fun z => h value slice pins s σ H x y v u Q I rx ry z hs) fun z => h' value slice pins s σ H x y v u Q I rx ry z hs
theorem SlR.or {r r' : V → Option Int → Option Int → Hp → VK → Prop} (h : SlR X r) (h' : SlR X r') : SlR X (fun x lo hi H Q => r x lo hi H Q ∨ r' x lo hi H Q) := fun pins s σ H x v vl vu lo hi sl Q I rx hs pl pu q => q.elim (fun z => h pins s σ H x v vl vu lo hi sl Q I rx hs pl pu z) fun z => h' pins s σ H x v vl vu lo hi sl Q I rx hs pl pu z
def opIx : D → D → Option D
  | .lst ds, .int i => atI ds i
  | .tup ds, .int i => atI ds i
  | .scr ns, .int i => (atI ns i).map .int
  | .str x, .int i => if x.length ≤ 100000 then (atI x.cps.toList i).map fun c => .str ⟨#[c]⟩ else none
  | _, _ => none
def rIxA (K : PySem.W.Frag) : R2 := fun x y H Q => rIxL K x y H Q ∨ (rIxT K x y H Q ∨ rIxS x y H Q)
theorem ix_any : IxR X (rIxA X.K) := IxR.or ix_list (IxR.or ix_tup ix_str)
theorem RepL.atI {G : Hp} {vs : List V} {ds : List D} (r : RepL K G vs ds) {i : Int} {d : D} (h : L2.atI ds i = some d) : ∃ v, L2.atI vs i = some v ∧ Rep K G v d := by
  unfold L2.atI at h ⊢
  rw [r.length]
  obtain ⟨j, h1, h2⟩ := Option.bind_eq_some_iff.mp h
  obtain ⟨v, h3, h4⟩ := r.get h2
  exact ⟨v, by rw [h1]; exact h3, h4⟩
theorem val_ix : Val2 K (rIxA K) opIx := fun F G H σ ρ x y d e z c rx ry hz Q p => by
  unfold opIx at hz
  split at hz
  · cases ry
    cases rx with
    | lst hx r1 =>
      obtain ⟨v, h1, h2⟩ := r1.atI hz
      exact .inl ⟨_, _, _, v, rfl, rfl, .inl (.inl (c.ex _ _ hx)), h1, pok c p h2⟩
  · cases ry
    cases rx with
    | tup hx r1 =>
      obtain ⟨v, h1, h2⟩ := r1.atI hz
      exact .inr (.inl ⟨_, _, _, v, rfl, rfl, .inl (c.ex.rd hx.rd), h1, pok c p h2⟩)
  · cases ry
    cases rx with
    | scr hx =>
      obtain ⟨n, h1, h2⟩ := Option.map_eq_some_iff.mp hz
      subst h2
      refine .inl ⟨_, _, _, .int n, rfl, rfl, Same.seq c.ex hx, ?_, pok c p (.int _)⟩
      unfold L2.atI at h1 ⊢
      rw [List.length_map]
      obtain ⟨j, h3, h4⟩ := Option.bind_eq_some_iff.mp h1
      rw [h3]
      show (List.map V.int _)[j]? = _
      rw [List.getElem?_map, h4]
      rfl
  · split at hz
    · rename_i hl
      cases rx
      cases ry
      obtain ⟨n, h1, h2⟩ := Option.map_eq_some_iff.mp hz
      subst h2
      exact .inr (.inr ⟨_, _, _, rfl, rfl, sz_of hl, h1, pok c p (.str _)⟩)
    · cases hz
  · cases hz
/-! slices -/
def SimO (K : PySem.W.Frag) (cls : Nat → Value) (W : WX) (t : TO) (f : M (Option Int)) : Prop := ∀ F ρ σ G H, CS K F G H σ ρ → ∀ Q : Option Int → Hp → Prop, wpR (f ρ) (fun o ρ' => ∀ G' H', Ex G G' → CS K F G' H' σ ρ' → Q o H') (PEx K cls W F G σ) → t σ H Q
structure QO (X : Cx) (cls : Nat → Value) (W : WX) (e : Option Expr) (f : M (Option Int)) : Prop where
  sim : ∃ t, L2.PO X e t ∧ SimO X.K cls W t f
  inert : Inert f
def oNone : M (Option Int) := mpure none
def oSome (f : M D) : M (Option Int) := mbind f fun d => lift (match d with | .int i => some (some i) | _ => none)
theorem qo_none {cls : Nat → Value} {W : WX} : QO X cls W none oNone := ⟨⟨_, po_none, fun F ρ σ G H c Q w => w G H (Same.refl G) c⟩, inert_pure⟩
theorem qo_some {cls : Nat → Value} {W : WX} {e : Expr} {f : M D} (h : QE X cls W e f) : QO X cls W (some e) (oSome f) := by
  obtain ⟨⟨t, p, s⟩, i⟩ := h
  refine ⟨⟨_, po_some p, fun F ρ σ G H c Q w => ?_⟩, inert_bind i fun _ => inert_lift⟩
  refine s F ρ σ G H c _ ((wpR_bind w).mono (fun d ρ1 w1 v1 G1 H1 e1 c1 r1 => ?_) fun _ _ p => p)
  obtain ⟨z, ez, p⟩ := wpR_lift w1
  cases r1 with
  | int i => cases ez; exact ⟨i, rfl, p G1 H1 e1 c1⟩
  | _ => cases ez
def cutL {α : Type} (xs : List α) (lo hi : Option Int) : List α := List.take (HT.sIx xs.length xs.length hi - HT.sIx xs.length 0 lo) (List.drop (HT.sIx xs.length 0 lo) xs)
theorem cutV_eq (xs : List V) (lo hi : Option Int) : cutV xs lo hi = cutL xs lo hi := rfl
theorem RepL.cut {G : Hp} {vs : List V} {ds : List D} (r : RepL K G vs ds) (lo hi : Option Int) : RepL K G (cutV vs lo hi) (cutL ds lo hi) := by
  rw [cutV_eq]
  unfold cutL
  rw [r.length]
  exact (r.drop _).take _
def opSl (d : D) (lo hi : Option Int) : Option D := match d with
  | .tup ds => some (.tup (cutL ds lo hi))
  | .str x => if x.length ≤ 100000 then some (.str (cutS x lo hi)) else none
  | _ => none
def opSlL (d : D) (lo hi : Option Int) : Option D := match d with
  | .lst ds => some (.lst (cutL ds lo hi))
  | .scr ns => some (.lst ((cutL ns lo hi).map .int))
  | _ => none
def eSl (op : D → Option Int → Option Int → Option D) (f : M D) (lo hi : M (Option Int)) : M D := mbind f fun x => mbind lo fun l => mbind hi fun h => lift (op x l h)
theorem cut_whole {α : Type} {xs : List α} {lo hi : Option Int} (h : HT.sIx xs.length 0 lo = 0 ∧ HT.sIx xs.length xs.length hi = xs.length) : cutL xs lo hi = xs := by
  unfold cutL
  rw [h.1, h.2, Nat.sub_zero, List.drop_zero, List.take_length]
theorem q_sl {cls : Nat → Value} {W : WX} {e : Expr} {lo hi : Option Expr} {p2 pos : Pos} {f : M D} {fl fh : M (Option Int)} (ha : QE X cls W e f) (hl : QO X cls W lo fl) (hh : QO X cls W hi fh)
    (hp : ∀ te tl th, PE X e te → L2.PO X lo tl → L2.PO X hi th → PE X (.Subscript e (.Slice lo hi none p2) pos) (tSl (fun x lo hi H Q => rSlL2 X.K x lo hi H Q ∨ rSlS x lo hi H Q) te tl th)) : QE X cls W (.Subscript e (.Slice lo hi none p2) pos) (eSl opSl f fl fh) := by
  obtain ⟨⟨ta, pa, sa⟩, ia⟩ := ha
  obtain ⟨⟨tl, pl, sl⟩, il⟩ := hl
  obtain ⟨⟨th, ph, sh⟩, ih⟩ := hh
  refine ⟨⟨_, hp _ _ _ pa pl ph, fun F ρ σ G H c Q w => ?_⟩, inert_bind ia fun _ => inert_bind il fun _ => inert_bind ih fun _ => inert_lift⟩
  refine sa F ρ σ G H c _ ((wpR_bind w).mono (fun x ρ1 w1 v1 G1 H1 e1 c1 r1 => ?_) fun _ _ p => p)
  refine sl F ρ1 σ G1 H1 c1 _ ((wpR_bind w1).mono (fun l ρ2 w2 G2 H2 e2 c2 => ?_) fun _ _ p => p.mono e1)
  refine sh F ρ2 σ G2 H2 c2 _ ((wpR_bind w2).mono (fun h ρ3 w3 G3 H3 e3 c3 => ?_) fun _ _ p => p.mono (e1.trans e2))
  obtain ⟨z, ez, p⟩ := wpR_lift w3
  have p := p.mono ((e1.trans e2).trans e3)
  have r1 := r1.mono (e2.trans e3)
  unfold opSl at ez
  split at ez
  · cases ez
    cases r1 with
    | tup hx r =>
      refine .inl ⟨_, _, ⟨rfl, .inl (c3.ex.rd hx.rd)⟩, fun hw => ?_, fun hw => pok_lay c3 p (r.cut l h)⟩
      rw [r.length] at hw
      rw [cut_whole hw] at p
      exact pok c3 p (.tup hx r)
  · split at ez
    · rename_i hz
      cases ez
      cases r1
      exact .inr ⟨_, rfl, sz_of hz, pok c3 p (.str _)⟩
    · cases ez
  · cases ez
theorem q_slL {cls : Nat → Value} {W : WX} {e : Expr} {lo hi : Option Expr} {p2 pos : Pos} {f : M D} {fl fh : M (Option Int)} (ha : QE X cls W e f) (hl : QO X cls W lo fl) (hh : QO X cls W hi fh)
    (hp : ∀ te tl th, PE X e te → L2.PO X lo tl → L2.PO X hi th → PE X (.Subscript e (.Slice lo hi none p2) pos) (tSl (rSlL X.K) te tl th)) : QN X cls W (.Subscript e (.Slice lo hi none p2) pos) (eSl opSlL f fl fh) := by
  obtain ⟨⟨ta, pa, sa⟩, ia⟩ := ha
  obtain ⟨⟨tl, pl, sl⟩, il⟩ := hl
  obtain ⟨⟨th, ph, sh⟩, ih⟩ := hh
  refine ⟨⟨_, hp _ _ _ pa pl ph, fun F ρ σ G H c Q w => ?_⟩, inert_bind ia fun _ => inert_bind il fun _ => inert_bind ih fun _ => inert_lift⟩
  refine sa F ρ σ G H c _ ((wpR_bind w).mono (fun x ρ1 w1 v1 G1 H1 e1 c1 r1 => ?_) fun _ _ p => p)
  refine sl F ρ1 σ G1 H1 c1 _ ((wpR_bind w1).mono (fun l ρ2 w2 G2 H2 e2 c2 => ?_) fun _ _ p => p.mono e1)
  refine sh F ρ2 σ G2 H2 c2 _ ((wpR_bind w2).mono (fun h ρ3 w3 G3 H3 e3 c3 => ?_) fun _ _ p => p.mono (e1.trans e2))
  obtain ⟨z, ez, p⟩ := wpR_lift w3
  have p := p.mono ((e1.trans e2).trans e3)
  have r1 := r1.mono (e2.trans e3)
  unfold opSlL at ez
  split at ez
  · cases ez
    cases r1 with
    | lst hx r => exact ⟨_, _, rfl, .inl (.inl (c3.ex _ _ hx)), fun q hq => pnw_lst c3 p (r.cut l h) hq⟩
  · cases ez
    cases r1 with
    | scr hx =>
      refine ⟨_, _, rfl, Same.seq c3.ex hx, fun q hq => ?_⟩
      have r := (RepL.ints (K := X.K) (G := G3) ‹List Int›).cut l h
      refine pnw_lst c3 p ?_ hq
      have e : cutL (List.map D.int ‹List Int›) l h = (cutL ‹List Int› l h).map D.int := by
        unfold cutL
        rw [List.length_map, List.map_take, List.map_drop]
      rw [← e]
      exact r
  · cases ez
end
end NT

set_option Elab.async false
set_option linter.all false
set_option maxRecDepth 100000
set_option maxHeartbeats 4000000
namespace NT
open PySem L2

/-! ### equality of data -/
mutual
def py : D → PyData
  | .non => .none | .bl b => .bool b | .int i => .int i | .str x => .str x
  | .tup ds => .tuple (pys ds) | .lst ds => .list (pys ds)
  | .scr _ => .none | .dK _ => .none | .dT _ => .none | .exn _ => .none | .raw _ => .none | .obj _ _ => .none
def pys : List D → List PyData
  | [] => []
  | d :: ds => py d :: pys ds
end
mutual
def fit : Nat → D → Bool
  | _, .non => true | _, .bl _ => true | _, .int _ => true | _, .str x => PyData.strOk x
  | 0, .tup _ => false | 0, .lst _ => false
  | n + 1, .tup ds => fits n ds | n + 1, .lst ds => fits n ds
  | _, .scr _ => false | _, .dK _ => false | _, .dT _ => false | _, .exn _ => false | _, .raw _ => false | _, .obj _ _ => false
def fits : Nat → List D → Bool
  | _, [] => true
  | n, d :: ds => fit n d && fits n ds
end
mutual
def eqD : D → D → Bool
  | .non, .non => true
  | .bl a, .bl b => a == b
  | .bl a, .int j => (if a then 1 else 0) == j
  | .int i, .bl b => i == (if b then 1 else 0)
  | .int i, .int j => i == j
  | .str x, .str y => x == y
  | .tup xs, .tup ys => eqDs xs ys
  | .lst xs, .lst ys => eqDs xs ys
  | _, _ => false
def eqDs : List D → List D → Bool
  | [], [] => true
  | x :: xs, y :: ys => eqD x y && eqDs xs ys
  | _, _ => false
end
mutual
theorem fit_lay : ∀ (n : Nat) (d : D), fit n d = true → (py d).canLay0 = true ∧ (py d).depth ≤ n
  | n, .non, _ => ⟨rfl, Nat.zero_le _⟩
  | n, .bl _, _ => ⟨rfl, Nat.zero_le _⟩
  | n, .int _, _ => ⟨rfl, Nat.zero_le _⟩
  | n, .str x, h => ⟨by simpa [fit, py, PyData.canLay0] using h, Nat.zero_le _⟩
  | 0, .tup _, h => by simp [fit] at h
  | 0, .lst _, h => by simp [fit] at h
  | n + 1, .tup ds, h => by
    have ⟨a, b⟩ := fits_lay n ds (by simpa [fit] using h)
    exact ⟨by simpa [py, PyData.canLay0] using a, by simp only [py, PyData.depth]; omega⟩
  | n + 1, .lst ds, h => by
    have ⟨a, b⟩ := fits_lay n ds (by simpa [fit] using h)
    exact ⟨by simpa [py, PyData.canLay0] using a, by simp only [py, PyData.depth]; omega⟩
  | _, .scr _, h => by simp [fit] at h
  | _, .dK _, h => by simp [fit] at h
  | _, .dT _, h => by simp [fit] at h
  | _, .exn _, h => by simp [fit] at h
  | _, .raw _, h => by simp [fit] at h
  | _, .obj _ _, h => by simp [fit] at h
theorem fits_lay : ∀ (n : Nat) (ds : List D), fits n ds = true → PyData.canLayAll0 (pys ds) = true ∧ PyData.depthAll (pys ds) ≤ n
  | n, [], _ => ⟨by simp [pys, PyData.canLayAll0], by simp [pys, PyData.depthAll]⟩
  | n, d :: ds, h => by
    simp only [fits, Bool.and_eq_true] at h
    have ⟨a, b⟩ := fit_lay n d h.1
    have ⟨a2, b2⟩ := fits_lay n ds h.2
    exact ⟨by simp [pys, PyData.canLayAll0, a, a2], by simp only [pys, PyData.depthAll]; omega⟩
end
mutual
theorem eqD_py : ∀ (n m : Nat) (d e : D), fit n d = true → fit m e = true → PyData.eqv (py d) (py e) = eqD d e
  | n, m, d, e, hd, he => by
    cases d <;> cases e <;> first
      | rfl
      | (simp [fit] at hd; done)
      | (simp [fit] at he; done)
      | (rename_i xs ys
         cases n with
         | zero => simp [fit] at hd
         | succ n =>
           cases m with
           | zero => simp [fit] at he
           | succ m =>
             have e1 := eqDs_py n m xs ys (by simpa [fit] using hd) (by simpa [fit] using he)
             simpa [py, PyData.eqv, eqD] using e1)
theorem eqDs_py : ∀ (n m : Nat) (d e : List D), fits n d = true → fits m e = true → PyData.eqvAll (pys d) (pys e) = eqDs d e
  | n, m, [], [], _, _ => by simp [pys, PyData.eqvAll, eqDs]
  | n, m, [], _ :: _, _, _ => by simp [pys, PyData.eqvAll, eqDs]
  | n, m, _ :: _, [], _, _ => by simp [pys, PyData.eqvAll, eqDs]
  | n, m, d :: ds, e :: es, hd, he => by
    simp only [fits, Bool.and_eq_true] at hd he
    simp only [pys, PyData.eqvAll, eqDs, eqD_py n m d e hd.1 he.1, eqDs_py n m ds es hd.2 he.2]
end
section
variable {K : PySem.W.Frag} {X : Cx} {G H : Hp}
mutual
theorem Rep.dp (e : Ex G H) : ∀ {v : V} {d : D}, Rep K G v d → ∀ n, fit n d = true → Dp K H v (py d)
  | _, _, .non, _, _ => .non
  | _, _, .bl b, _, _ => .bl b
  | _, _, .int i, _, _ => .int i
  | _, _, .str x, _, _ => .str x
  | _, _, .tup h r, n, f => by
    cases n with
    | zero => simp [fit] at f
    | succ n => exact .tup (.inl (e.rd h.rd)) (RepL.dp e r n (by simpa [fit] using f))
  | _, _, .lst h r, n, f => by
    cases n with
    | zero => simp [fit] at f
    | succ n => exact .lst (.inl (.inl (e _ _ h))) (RepL.dp e r n (by simpa [fit] using f))
  | _, _, .scr _, n, f => by simp [fit] at f
  | _, _, .dK _ _, n, f => by simp [fit] at f
  | _, _, .dT _ _, n, f => by simp [fit] at f
  | _, _, .raw _ _, n, f => by simp [fit] at f
  | _, _, .obj _ _ _, n, f => by simp [fit] at f
theorem RepL.dp (e : Ex G H) : ∀ {v : List V} {d : List D}, RepL K G v d → ∀ n, fits n d = true → DpAll K H v (pys d)
  | _, _, .nil, _, _ => .nil
  | _, _, .cons h r, n, f => by
    simp only [fits, Bool.and_eq_true] at f
    exact .cons (Rep.dp e h n f.1) (RepL.dp e r n f.2)
end
theorem fit_shaped {d : D} (h : fit 60 d = true) : SeqAt.shaped (py d) = true := by
  have ⟨a, b⟩ := fit_lay 60 d h
  unfold SeqAt.shaped
  rw [a, Bool.true_and]
  exact decide_eq_true (by omega)
def opEq (d e : D) : Option D := if fit 60 d && fit 60 e then some (.bl (eqD d e)) else none
def opNe (d e : D) : Option D := if fit 60 d && fit 60 e then some (.bl (!eqD d e)) else none
theorem val_eq : Val2 K (rEqD K) opEq := fun F G H σ ρ x y d e z c rx ry hz Q p => by
  unfold opEq at hz
  split at hz
  · rename_i h
    cases hz
    simp only [Bool.and_eq_true] at h
    refine ⟨py d, py e, rx.dp c.ex 60 h.1, ry.dp c.ex 60 h.2, fit_shaped h.1, fit_shaped h.2, ?_⟩
    rw [eqD_py 60 60 d e h.1 h.2]
    exact pok c p (.bl _)
  · cases hz
theorem val_ne : Val2 K (rNeD K) opNe := fun F G H σ ρ x y d e z c rx ry hz Q p => by
  unfold opNe at hz
  split at hz
  · rename_i h
    cases hz
    simp only [Bool.and_eq_true] at h
    refine ⟨py d, py e, rx.dp c.ex 60 h.1, ry.dp c.ex 60 h.2, fit_shaped h.1, fit_shaped h.2, ?_⟩
    rw [eqD_py 60 60 d e h.1 h.2]
    exact pok c p (.bl _)
  · cases hz

/-! ### x in a list, a tuple, a text of one sign -/
def rInQ (K : PySem.W.Frag) (neg : Bool) : R2 := fun x y H Q => (∃ d ds, Dp K H x d ∧ (Dp K H y (.list ds) ∨ Dp K H y (.tuple ds)) ∧ SeqAt.shaped d = true ∧ SeqAt.shaped (.list ds) = true ∧ Q (.bl (if neg then !ds.any fun z => PyData.eqv z d else ds.any fun z => PyData.eqv z d)) H) ∨
  ∃ (c : Nat) (z : Str), x = .str ⟨#[c]⟩ ∧ y = .str z ∧ Q (.bl (if neg then !decide (c ∈ z.cps.toList) else decide (c ∈ z.cps.toList))) H
theorem op_inQ (hu : X.A.units + 65 < cLine) : OpR X (compareOp .In) (rInQ X.K false) := by
  intro pins s σ H x y v u Q I rx ry h
  rcases h with h | h
  · obtain ⟨d, ds, hd, he, sd, se, q⟩ := h
    rcases he with he | he
    · exact op_inD hu pins s σ H x y v u Q I rx ry ⟨d, ds, hd, he, sd, se, q⟩
    · obtain ⟨as, r1⟩ := Dp.reads I d x v hd rx
      obtain ⟨bs, r2⟩ := Dp.reads I (.tuple ds) y u he ry
      have hl : PyData.canLayAll0 ds = true := SeqAt.canLay_of_shaped se
      exact SeqAt.in_tuple_reads r2 r1 hl (SeqAt.canLay_of_shaped sd) (PyProof.Rows.room_in_shaped sd hu) ⟨.bl _, H, I, rfl, q⟩
  · exact op_in_sign pins s σ H x y v u Q I rx ry h
theorem op_notInQ (hu : X.A.units + 65 < cLine) : OpR X (compareOp .NotIn) (rInQ X.K true) := by
  intro pins s σ H x y v u Q I rx ry h
  rcases h with h | h
  · obtain ⟨d, ds, hd, he, sd, se, q⟩ := h
    rcases he with he | he
    · exact op_notInD hu pins s σ H x y v u Q I rx ry ⟨d, ds, hd, he, sd, se, q⟩
    · obtain ⟨as, r1⟩ := Dp.reads I d x v hd rx
      obtain ⟨bs, r2⟩ := Dp.reads I (.tuple ds) y u he ry
      have hl : PyData.canLayAll0 ds = true := SeqAt.canLay_of_shaped se
      exact SeqAt.notIn_tuple_reads r2 r1 hl (SeqAt.canLay_of_shaped sd) (PyProof.Rows.room_in_shaped sd hu) ⟨.bl _, H, I, rfl, q⟩
  · exact op_notIn_sign pins s σ H x y v u Q I rx ry h
def inD (d : D) (ds : List D) : Bool := ds.any fun z => eqD z d
def opIn (neg : Bool) (x y : D) : Option D := match y with
  | .lst ds => if fit 60 x && fits 60 ds then some (.bl (if neg then !inD x ds else inD x ds)) else none
  | .tup ds => if fit 60 x && fits 60 ds then some (.bl (if neg then !inD x ds else inD x ds)) else none
  | .str z => match x with
    | .str ⟨⟨[c]⟩⟩ => some (.bl (if neg then !decide (c ∈ z.cps.toList) else decide (c ∈ z.cps.toList)))
    | _ => none
  | _ => none
theorem any_py {n m : Nat} {d : D} (hd : fit n d = true) : ∀ {ds : List D}, fits m ds = true → ((pys ds).any fun z => PyData.eqv z (py d)) = inD d ds
  | [], _ => rfl
  | e :: ds, h => by
    simp only [fits, Bool.and_eq_true] at h
    unfold inD
    rw [pys, List.any_cons, List.any_cons, eqD_py m n e d h.1 hd]
    rw [any_py hd h.2]
    rfl
theorem val_in (neg : Bool) : Val2 K (rInQ K neg) (opIn neg) := fun F G H σ ρ x y d e z c rx ry hz Q p => by
  unfold opIn at hz
  split at hz
  · split at hz
    · rename_i ds h
      cases hz
      simp only [Bool.and_eq_true] at h
      have f61 : fit 61 (.lst ds) = true := by simpa [fit] using h.2
      refine .inl ⟨py d, pys ds, rx.dp c.ex 60 h.1, .inl (by simpa [py] using ry.dp c.ex 61 f61), fit_shaped h.1, ?_, ?_⟩
      · have ⟨a, b⟩ := fits_lay 60 ds h.2
        unfold SeqAt.shaped
        simp only [PyData.canLay0, PyData.depth, a, Bool.true_and]
        exact decide_eq_true (by omega)
      · rw [any_py h.1 h.2]
        exact pok c p (.bl _)
    · cases hz
  · split at hz
    · rename_i ds h
      cases hz
      simp only [Bool.and_eq_true] at h
      have f61 : fit 61 (.tup ds) = true := by simpa [fit] using h.2
      refine .inl ⟨py d, pys ds, rx.dp c.ex 60 h.1, .inr (by simpa [py] using ry.dp c.ex 61 f61), fit_shaped h.1, ?_, ?_⟩
      · have ⟨a, b⟩ := fits_lay 60 ds h.2
        unfold SeqAt.shaped
        simp only [PyData.canLay0, PyData.depth, a, Bool.true_and]
        exact decide_eq_true (by omega)
      · rw [any_py h.1 h.2]
        exact pok c p (.bl _)
    · cases hz
  · split at hz
    · cases hz
      cases rx
      cases ry
      exact .inr ⟨_, _, rfl, rfl, pok c p (.bl _)⟩
    · cases hz
  · cases hz

/-! ### is -/
def rIsA : R2 := fun x y H Q => (∃ a b : Bool, x = .bl a ∧ y = .bl b ∧ Q (.bl (decide (a = b))) H) ∨ (y = .non ∧ Q (.bl (decide (x = .non))) H)
def rIsNotA : R2 := fun x y H Q => (∃ a b : Bool, x = .bl a ∧ y = .bl b ∧ Q (.bl (!decide (a = b))) H) ∨ (y = .non ∧ Q (.bl (!decide (x = .non))) H)
theorem op_isA : OpR X (compareOp .Is) rIsA := OpR.or op_isBl op_isN
theorem op_isNotA : OpR X (compareOp .IsNot) rIsNotA := OpR.or op_notBl op_notN
def isNon : D → Bool
  | .non => true
  | _ => false
def opIs : D → D → Option D
  | .bl a, .bl b => some (.bl (a == b))
  | d, .non => some (.bl (isNon d))
  | _, _ => none
def opIsNot : D → D → Option D
  | .bl a, .bl b => some (.bl (!(a == b)))
  | d, .non => some (.bl (!isNon d))
  | _, _ => none
theorem isNon_rep {v : V} {d : D} (r : Rep K G v d) : decide (v = .non) = isNon d := by
  cases r <;> first | rfl | exact decide_eq_false (fun z => nomatch z)
theorem val_is : Val2 K rIsA opIs := fun F G H σ ρ x y d e z c rx ry hz Q p => by
  unfold opIs at hz
  split at hz
  · cases hz
    cases rx
    cases ry
    refine .inl ⟨_, _, rfl, rfl, ?_⟩
    have e : ∀ a b : Bool, decide (a = b) = (a == b) := by decide
    rw [e]
    exact pok c p (.bl _)
  · cases hz
    cases ry
    refine .inr ⟨rfl, ?_⟩
    rw [isNon_rep rx]
    exact pok c p (.bl _)
  · cases hz
theorem val_isNot : Val2 K rIsNotA opIsNot := fun F G H σ ρ x y d e z c rx ry hz Q p => by
  unfold opIsNot at hz
  split at hz
  · cases hz
    cases rx
    cases ry
    refine .inl ⟨_, _, rfl, rfl, ?_⟩
    have e : ∀ a b : Bool, decide (a = b) = (a == b) := by decide
    rw [e]
    exact pok c p (.bl _)
  · cases hz
    cases ry
    refine .inr ⟨rfl, ?_⟩
    rw [isNon_rep rx]
    exact pok c p (.bl _)
  · cases hz

/-! ### built-ins -/
def opLen : List D → Option D
  | [.lst ds] => some (.int ds.length)
  | [.tup ds] => some (.int ds.length)
  | [.scr ns] => some (.int ns.length)
  | [.str x] => if x.length ≤ 100000 then some (.int x.length) else none
  | _ => none
theorem val_len : ValA K (fun xs H Q => ∃ x n, xs = [x] ∧ LenV K x H n ∧ Q (.int (n : Nat)) H) opLen := fun F G H σ ρ xs ds z c r hz Q p => by
  unfold opLen at hz
  split at hz
  · cases hz
    cases r with
    | cons r1 r2 =>
      cases r2
      cases r1 with
      | lst h r => exact ⟨_, _, rfl, .inl ⟨_, .inl (.inl (c.ex _ _ h)), r.length.symm⟩, pok c p (.int _)⟩
  · cases hz
    cases r with
    | cons r1 r2 =>
      cases r2
      cases r1 with
      | tup h r => exact ⟨_, _, rfl, .inr ⟨_, .inl (c.ex.rd h.rd), r.length.symm⟩, pok c p (.int _)⟩
  · cases hz
    cases r with
    | cons r1 r2 =>
      cases r2
      cases r1 with
      | scr h => exact ⟨_, _, rfl, .inl ⟨_, Same.seq c.ex h, (List.length_map _).symm⟩, pok c p (.int _)⟩
  · split at hz
    · rename_i hl
      cases hz
      cases r with
      | cons r1 r2 =>
        cases r2
        cases r1
        exact ⟨_, _, rfl, ⟨sz_of hl, rfl⟩, pok c p (.int _)⟩
    · cases hz
  · cases hz
def opInt : List D → Option D
  | [.int i] => some (.int i)
  | [.bl b] => some (.int (if b then 1 else 0))
  | _ => none
theorem val_int : ValA K (fun xs H Q => (∃ i, xs = [.int i] ∧ Q (.int i) H) ∨ ∃ k, xs = [.bl k] ∧ Q (.int (if k = true then 1 else 0)) H) opInt := fun F G H σ ρ xs ds z c r hz Q p => by
  unfold opInt at hz
  split at hz
  · cases hz
    cases r with
    | cons r1 r2 =>
      cases r2
      cases r1
      exact .inl ⟨_, rfl, pok c p (.int _)⟩
  · cases hz
    cases r with
    | cons r1 r2 =>
      cases r2
      cases r1
      exact .inr ⟨_, rfl, pok c p (.int _)⟩
  · cases hz
def opTuple : List D → Option D
  | [.lst ds] => some (.tup ds)
  | [.tup ds] => some (.tup ds)
  | _ => none
theorem val_tuple : ValA K (fun xs H Q => ∃ p ys, xs = [.ref p] ∧ ((SqL K H p ys ∧ layT ys H Q) ∨ (SqT K H p ys ∧ Q (.ref p) H))) opTuple := fun F G H σ ρ xs ds z c r hz Q p => by
  unfold opTuple at hz
  split at hz
  · cases hz
    cases r with
    | cons r1 r2 =>
      cases r2
      cases r1 with
      | lst h r => exact ⟨_, _, rfl, .inl ⟨.inl (.inl (c.ex _ _ h)), pok_lay c p r⟩⟩
  · cases hz
    cases r with
    | cons r1 r2 =>
      cases r2
      cases r1 with
      | tup h r => exact ⟨_, _, rfl, .inr ⟨.inl (c.ex.rd h.rd), pok c p (.tup h r)⟩⟩
  · cases hz
def opList : List D → Option D
  | [.lst ds] => some (.lst ds)
  | [.tup ds] => some (.lst ds)
  | [.scr ns] => some (.lst (ns.map .int))
  | _ => none
theorem new_list : NewA K (fun xs H Q => ∃ p ys, xs = [.ref p] ∧ (SqL K H p ys ∨ SqT K H p ys) ∧ ∀ l, H l = none → Q (.ref l) (upd H l (.lst ys))) opList := fun F G H σ ρ xs ds z c r hz Q p => by
  unfold opList at hz
  split at hz
  · cases hz
    cases r with
    | cons r1 r2 =>
      cases r2
      cases r1 with
      | lst h r => exact ⟨_, _, rfl, .inl (.inl (.inl (c.ex _ _ h))), fun l hl => pnw_lst c p r hl⟩
  · cases hz
    cases r with
    | cons r1 r2 =>
      cases r2
      cases r1 with
      | tup h r => exact ⟨_, _, rfl, .inr (.inl (c.ex.rd h.rd)), fun l hl => pnw_lst c p r hl⟩
  · cases hz
    cases r with
    | cons r1 r2 =>
      cases r2
      cases r1 with
      | scr h => exact ⟨_, _, rfl, .inl (Same.seq c.ex h), fun l hl => pnw_lst c p (RepL.ints _) hl⟩
  · cases hz
def opMax2 : List D → Option D
  | [.int i, .int j] => some (.int (if j > i then j else i))
  | _ => none
def opMin2 : List D → Option D
  | [.int i, .int j] => some (.int (if j < i then j else i))
  | _ => none
theorem val_max2 : ValA K (fun xs H Q => ∃ i j, xs = [.int i, .int j] ∧ Q (.int (if j > i then j else i)) H) opMax2 := fun F G H σ ρ xs ds z c r hz Q p => by
  unfold opMax2 at hz
  split at hz
  · cases hz
    cases r with
    | cons r1 r2 =>
      cases r2 with
      | cons r3 r4 =>
        cases r4
        cases r1
        cases r3
        exact ⟨_, _, rfl, pok c p (.int _)⟩
  · cases hz
theorem val_min2 : ValA K (fun xs H Q => ∃ i j, xs = [.int i, .int j] ∧ Q (.int (if j < i then j else i)) H) opMin2 := fun F G H σ ρ xs ds z c r hz Q p => by
  unfold opMin2 at hz
  split at hz
  · cases hz
    cases r with
    | cons r1 r2 =>
      cases r2 with
      | cons r3 r4 =>
        cases r4
        cases r1
        cases r3
        exact ⟨_, _, rfl, pok c p (.int _)⟩
  · cases hz
/-! isinstance -/
def tyName : D → String
  | .non => "NoneType" | .bl _ => "bool" | .int _ => "int" | .str _ => "str" | .tup _ => "tuple" | .lst _ => "list" | .dK _ => "dict"
  | .scr _ => "" | .dT _ => "" | .exn _ => "" | .raw _ => "" | .obj _ _ => ""
def isT (T : String) (d : D) : Bool := T == tyName d || (T == "int" && tyName d == "bool")
def opIsi (T : String) (d : D) : Option D := if tyName d == "" then none else some (.bl (isT T d))
theorem kit_tab : ∀ a ∈ ["NoneType", "bool", "int", "str", "tuple", "list", "dict"], ∀ b ∈ ["bool", "int", "str", "tuple", "list", "dict"], kitB a b = some (b == a || (b == "int" && a == "bool")) := by decide +kernel
theorem tyX_rep {F : Fm} {σ : St} {ρ : List Sl} (c : CS K F G H σ ρ) {v : V} {d : D} (r : Rep K G v d) (hn : tyName d ≠ "") : TyX K H v (.type (tyName d)) := by
  cases r with
  | non => exact .base .non
  | bl b => exact .base (.bl b)
  | int i => exact .base (.int i)
  | str x => exact .base (.str x)
  | tup h _ =>
    rcases h with ⟨_, h⟩ | ⟨_, o, h, _⟩
    · exact .base (.tup (c.ex _ _ h))
    · exact .fTuple (c.ex _ _ h)
  | raw _ _ => exact (hn rfl).elim
  | obj _ _ _ => exact (hn rfl).elim
  | lst h _ => exact .base (.lst (c.ex _ _ h))
  | scr _ => exact (hn rfl).elim
  | dK h _ =>
    rcases h with h | ⟨o, h⟩
    · exact .base (.dK (c.ex _ _ h))
    · exact .fDict (c.ex _ _ h)
  | dT _ _ => exact (hn rfl).elim
  | exn => exact (hn rfl).elim
theorem q_isi (T : String) {cls : Nat → Value} {W : WX} {e a : Expr} {f : M D} (hT : T ∈ ["bool", "int", "str", "tuple", "list", "dict"]) (hp : ∀ te, PE X a te → PE X e (tCB (rIsi X.K) (tCons te (tCons (tC (.ty T)) tNil)))) (ha : QE X cls W a f) : QE X cls W e (eUn (opIsi T) f) := by
  obtain ⟨⟨ta, pa, sa⟩, ia⟩ := ha
  refine ⟨⟨_, hp _ pa, fun F ρ σ G H c Q w => ?_⟩, inert_bind ia fun _ => inert_lift⟩
  refine sa F ρ σ G H c _ ((wpR_bind w).mono (fun d ρ1 w1 v1 G1 H1 e1 c1 r1 => ?_) fun _ _ p => p)
  obtain ⟨z, ez, p⟩ := wpR_lift w1
  unfold opIsi at ez
  split at ez
  · cases ez
  · rename_i hn
    cases ez
    have hne : tyName d ≠ "" := by simpa using hn
    have hmem : tyName d ∈ ["NoneType", "bool", "int", "str", "tuple", "list", "dict"] := by
      cases d <;> first | (simp [tyName]; done) | exact (hne rfl).elim
    exact ⟨v1, .ty T, .type (tyName d), .type T, isT T d, rfl, .ty T, tyX_rep c1 r1 hne, kit_ty (kit_tab _ hmem _ hT), pok c1 (p.mono e1) (.bl _)⟩
/-! list(reversed(x)) -/
def opLstRev : D → Option D
  | .lst ds => some (.lst ds.reverse)
  | _ => none
theorem q_lstRev {cls : Nat → Value} {W : WX} {e a : Expr} {f : M D} (hp : ∀ te, PE X a te → PE X e (RV.tLstRev X.K te)) (ha : QE X cls W a f) : QN X cls W e (eUn opLstRev f) := by
  obtain ⟨⟨ta, pa, sa⟩, ia⟩ := ha
  refine ⟨⟨_, hp _ pa, fun F ρ σ G H c Q w => ?_⟩, inert_bind ia fun _ => inert_lift⟩
  refine sa F ρ σ G H c _ ((wpR_bind w).mono (fun d ρ1 w1 v1 G1 H1 e1 c1 r1 => ?_) fun _ _ p => p)
  obtain ⟨z, ez, p⟩ := wpR_lift w1
  cases r1 with
  | lst h r =>
    cases ez
    exact ⟨_, _, rfl, .inl (.inl (c1.ex _ _ h)), fun q hq => pnw_lst c1 (p.mono e1) r.reverse hq⟩
  | _ => cases ez
/-! sum of a list of ints -/
def opSum : List D → Option D
  | [.lst ds] => (intsOf ds).map fun ns => .int ns.sum
  | _ => none
theorem val_sum : ValA K (rSum K) opSum := fun F G H σ ρ xs ds z c r hz Q p => by
  unfold opSum at hz
  split at hz
  · obtain ⟨ns, h1, h2⟩ := Option.map_eq_some_iff.mp hz
    subst h2
    have := intsOf_some h1
    subst this
    cases r with
    | cons r1 r2 =>
      cases r2
      cases r1 with
      | lst h r =>
        have e := r.ints_inv
        subst e
        exact ⟨_, ns, rfl, .inl (.inl (c.ex _ _ h)), pok c p (.int _)⟩
  · cases hz
end
/-! raise -/
def sRaise (c : Nat) : MS := fun ρ => .ex c ρ
theorem q_raise {X : Cx} {cls : Nat → Value} {W : WX} {st : Stmt} (c : Nat) (hp : PS X st (fun _ σ H => W (cls c) none σ H)) : QS X cls W st (sRaise c) := ⟨⟨_, hp, fun F ρ σ G H cs E w => w σ G H (Same.refl G) cs⟩⟩
end NT

set_option Elab.async false
set_option linter.all false
set_option maxRecDepth 100000
set_option maxHeartbeats 4000000
namespace NT
open PySem L2
section
variable {X : Cx} {cls : Nat → Value} {W : WX} {e a b : Expr} {es : List Expr} {f g : M D} {tf : M Bool} {pos : Pos} {sf sg : MS} {st : Stmt} {sts : List Stmt}
theorem sim_tB {K : PySem.W.Frag} {te : TE} (h : SimE K cls W te f) : SimT K cls W (tB te) (tVal f) := fun F ρ σ G H c Q w => sim_eB h F ρ σ G H c Q w
theorem sim_tTest {K : PySem.W.Frag} {te : TE} (h : SimE K cls W te f) : SimT K cls W (tTest te) (tVal f) := fun F ρ σ G H c Q w => sim_eB h F ρ σ G H c Q w
theorem q_tinD (hu : X.A.units + 1 < cLine) (ha : QE X cls W a f) (hb : QE X cls W b g) (hm : behindInMarks .In b = false := by rfl) : QT X cls W (.Compare a [.In] [b] pos) (tVal (eBin (opInD false) f g)) := by
  obtain ⟨⟨ta, pa, sa⟩, ia⟩ := ha
  obtain ⟨⟨tb, pb, sb⟩, ib⟩ := hb
  exact ⟨⟨_, pt_cmp (pc_din hu pa pb) hm, sim_tB (sim_inD sa sb)⟩, inert_tval (inert_bin ia ib)⟩
theorem q_tninD (hu : X.A.units + 1 < cLine) (ha : QE X cls W a f) (hb : QE X cls W b g) (hm : behindInMarks .NotIn b = false := by rfl) : QT X cls W (.Compare a [.NotIn] [b] pos) (tVal (eBin (opInD true) f g)) := by
  obtain ⟨⟨ta, pa, sa⟩, ia⟩ := ha
  obtain ⟨⟨tb, pb, sb⟩, ib⟩ := hb
  exact ⟨⟨_, pt_cmp (pc_dnotin hu pa pb) hm, sim_tB (sim_ninD sa sb)⟩, inert_tval (inert_bin ia ib)⟩
theorem sim_chain {K : PySem.W.Frag} {r r' : R2} {h h' : D → D → Option D} {ta tb tc : TE} {k : M D} (hv : Val2 K r h) (hv' : Val2 K r' h') (sa : SimE K cls W ta f) (sb : SimE K cls W tb g) (sc : SimE K cls W tc k) : SimE K cls W (tChain r r' ta tb tc) (eChain h h' f g k) := fun F ρ σ G H c Q w => by
  refine sa F ρ σ G H c _ ((wpR_bind w).mono (fun x ρ1 w1 v1 G1 H1 e1 c1 r1 => ?_) fun _ _ p => p)
  refine sb F ρ1 σ G1 H1 c1 _ ((wpR_bind w1).mono (fun y ρ2 w2 v2 G2 H2 e2 c2 r2 => ?_) fun _ _ p => p.mono e1)
  obtain ⟨z, ez, p⟩ := wpR_lift (wpR_bind w2)
  obtain ⟨kk, ek, p⟩ := wpR_lift (wpR_bind p)
  have := asB_some ek
  subst this
  refine hv F G2 H2 σ ρ2 v1 v2 x y _ c2 (r1.mono e2) r2 ez _ fun v3 G3 H3 e3 c3 r3 => ?_
  cases r3
  refine ⟨kk, rfl, ?_⟩
  cases kk with
  | false => exact p _ G3 H3 ((e1.trans e2).trans e3) c3 (.bl false)
  | true =>
    have p : wpR (mbind k (fun u => lift (h' y u)) ρ2) (POk K F G σ Q) (PEx K cls W F G σ) := p
    refine sc F ρ2 σ G3 H3 c3 _ ((wpR_bind p).mono (fun u ρ4 w4 v4 G4 H4 e4 c4 r4 => ?_) fun _ _ p => p.mono ((e1.trans e2).trans e3))
    obtain ⟨q, eq, pp⟩ := wpR_lift w4
    exact hv' F G4 H4 σ ρ4 v2 v4 y u q c4 (r2.mono (e3.trans e4)) r4 eq Q (pp.mono (((e1.trans e2).trans e3).trans e4))
theorem q_tchain {op op' : CmpOp} {r r' : R2} {h h' : D → D → Option D} {c : Expr} {k : M D} (ho : OpR X (compareOp op) r) (ho' : OpR X (compareOp op') r') (hv : Val2 X.K r h) (hv' : Val2 X.K r' h') (ha : QE X cls W a f) (hb : QE X cls W b g) (hc : QE X cls W c k) (hm : lastMarks [op, op'] [b, c] = false := by rfl) :
    QT X cls W (.Compare a [op, op'] [b, c] pos) (tVal (eChain h h' f g k)) := by
  obtain ⟨⟨ta, pa, sa⟩, ia⟩ := ha
  obtain ⟨⟨tb, pb, sb⟩, ib⟩ := hb
  obtain ⟨⟨tc, pc, sc⟩, ic⟩ := hc
  exact ⟨⟨_, pt_chain ho ho' pa pb pc hm, sim_tTest (sim_chain hv hv' sa sb sc)⟩, inert_tval (inert_bind ia fun _ => inert_bind ib fun _ => inert_bind inert_lift fun _ => inert_bind inert_lift fun z => by cases z; exact inert_pure; exact inert_bind ic fun _ => inert_lift)⟩
/-! a loop over a text's signs -/
def signs (x : Str) : List D := x.cps.toList.map fun c => D.str ⟨#[c]⟩
def iSign (f : M D) : M (List D) := mbind f fun d => lift (match d with | .str x => some (signs x) | _ => none)
theorem walks_str {K : PySem.W.Frag} {G : Hp} {x : Str} : Walks K (Its x) G (signs x) := fun F G1 H1 σ ρ e1 c1 => by
  refine ⟨fun i d hd => ?_, ?_⟩
  · unfold signs at hd
    rw [List.getElem?_map] at hd
    cases h : x.cps.toList[i]? with
    | none => rw [h] at hd; cases hd
    | some k =>
      rw [h] at hd
      cases hd
      have hk : x.cps[i]? = some k := by simpa using h
      obtain ⟨hi, _⟩ := Array.getElem?_eq_some_iff.mp hk
      refine ⟨hi, fun v H2 ⟨e, c, hc, hv⟩ => ?_⟩
      subst e
      subst hv
      rw [hk] at hc
      cases hc
      exact ⟨G1, Same.refl G1, c1, .str _⟩
  · show x.cps.size ≤ _
    unfold signs
    simp
theorem qi_str {tg : Expr} (ha : QE X cls W e f) : QI X cls W tg e (iSign f) := by
  obtain ⟨⟨t, p, s⟩, ia⟩ := ha
  refine ⟨⟨_, pi_str p, fun F ρ σ G H c Q w => ?_⟩, inert_bind ia fun _ => inert_lift⟩
  refine s F ρ σ G H c _ ((wpR_bind w).mono (fun d ρ1 w1 v1 G1 H1 e1 c1 r1 => ?_) fun _ _ p => p)
  obtain ⟨ds, ed, p⟩ := wpR_lift w1
  cases r1 with
  | str x =>
    cases ed
    exact ⟨x, rfl, p _ G1 H1 e1 c1 walks_str⟩
  | _ => cases ed
end
/-! what a caller knows of a def; a constant of the module; an exception class of the module -/
structure Cal (P : Program) (w : World) (K : PySem.W.Frag) (mg : Str → Option Value) (base : Heap) (cls : Nat → Value) (x : Str) (ps : List Str) (k np ns : Nat) (den : MS) (ds : List Value) : Prop where
  ex : ∃ f fd, FnOk P w K mg base (L2.CX P w) k f fd ps (spD K cls np ns den) ∧ mg x = some (.ref f) ∧ PySem.W.keepIn K (.ref f) = true ∧ Binds K fd ps ds
structure Cst (mg : Str → Option Value) (x : Str) (v : V) : Prop where
  ex : ∃ u, mg x = some u ∧ RelV v u
structure Exn (K : PySem.W.Frag) (mg : Str → Option Value) (cls : Nat → Value) (x : Str) (c : Nat) : Prop where
  ex : ∃ C, cls c = .ref C ∧ mg x = some (.ref C) ∧ PySem.W.excIn K C [.type "ValueError", .type "Exception", .type "BaseException", .type "object"] "ValueError.__new__" = true ∧ PySem.W.keepIn K (.ref C) = true ∧
    PySem.W.subIn K (.ref C) (.type "BaseException") = some true ∧ PySem.W.typeIn K (.ref C) = some (.type "type")
section
variable {X : Cx} {cls : Nat → Value} {W : WX} {e a b : Expr} {es : List Expr} {f g : M D} {tf : M Bool} {p pos : Pos} {sf sg : MS} {st : Stmt} {sts : List Stmt} {x : Str} {ps : List Str} {k j np ns : Nat} {den : MS} {ds : List Value}
theorem pe_cal {dvs : List V} {ta : TA} (C : Cal X.prog X.w X.K X.mg X.base cls x ps k np ns den ds) (hr : Room j X.A) (hj : k ≤ j) (tk : Takes X W) (hd : Vals dvs ds) (ha : PA X (e :: es) ta) (hg : Gl X x) (hdb : (x == ("__debug__" : Str)) = false) (he : starEach (e :: es) X.env = (false, eval e X.env) :: starEach es X.env) (hpl : (backTo pos (starEach es X.env)).any (·.1) = false) :
    PE X (.Call (.Name x p) (e :: es) [] pos) (tCallSD (spD X.K cls np ns den) dvs (WE W) ta) := by
  obtain ⟨f, fd, F, hm, hk, hb⟩ := C.ex
  exact pe_callSD F (hr.mono hj) hg hm hk hb hd (fun σ => passAt tk σ) ha hdb he hpl
theorem q_cal {fa : M (List D)} (C : Cal X.prog X.w X.K X.mg X.base cls x ps k np ns den []) (hr : Room j X.A) (hj : k ≤ j) (tk : Takes X W) (ha : QA X cls W (e :: es) fa) (hg : Gl X x := by rfl) (hdb : (x == ("__debug__" : Str)) = false := by decide) (he : starEach (e :: es) X.env = (false, eval e X.env) :: starEach es X.env := by rfl) (hpl : (backTo pos (starEach es X.env)).any (·.1) = false := by rfl) :
    QE X cls W (.Call (.Name x p) (e :: es) [] pos) (eCall np ns den [] fa) := q_call (dvs := []) (fun _ pa => pe_cal C hr hj tk .nil pa hg hdb he hpl) (fun _ => .nil) ha
theorem q_calN {fa : M (List D)} (C : Cal X.prog X.w X.K X.mg X.base cls x ps k np ns den []) (hr : Room j X.A) (hj : k ≤ j) (tk : Takes X W) (ha : QA X cls W (e :: es) fa) (hg : Gl X x := by rfl) (hdb : (x == ("__debug__" : Str)) = false := by decide) (he : starEach (e :: es) X.env = (false, eval e X.env) :: starEach es X.env := by rfl) (hpl : (backTo pos (starEach es X.env)).any (·.1) = false := by rfl) :
    QN X cls W (.Call (.Name x p) (e :: es) [] pos) (eCallN np ns den [] fa) := q_callN (dvs := []) (fun _ pa => pe_cal C hr hj tk .nil pa hg hdb he hpl) (fun _ => .nil) ha
theorem q_calO {i : Nat} {fa : M (List D × List D)} (C : Cal X.prog X.w X.K X.mg X.base cls x ps k np ns den []) (hr : Room j X.A) (hj : k ≤ j) (tk : Takes X W) (ha : QAO X cls W i (e :: es) fa) (hg : Gl X x := by rfl) (hdb : (x == ("__debug__" : Str)) = false := by decide) (he : starEach (e :: es) X.env = (false, eval e X.env) :: starEach es X.env := by rfl) (hpl : (backTo pos (starEach es X.env)).any (·.1) = false := by rfl) :
    QE X cls W (.Call (.Name x p) (e :: es) [] pos) (eCallO np ns den i fa) := q_callO (fun _ pa => pe_cal C hr hj tk .nil pa hg hdb he hpl) ha
theorem q_calON {i : Nat} {fa : M (List D × List D)} (C : Cal X.prog X.w X.K X.mg X.base cls x ps k np ns den []) (hr : Room j X.A) (hj : k ≤ j) (tk : Takes X W) (ha : QAO X cls W i (e :: es) fa) (hg : Gl X x := by rfl) (hdb : (x == ("__debug__" : Str)) = false := by decide) (he : starEach (e :: es) X.env = (false, eval e X.env) :: starEach es X.env := by rfl) (hpl : (backTo pos (starEach es X.env)).any (·.1) = false := by rfl) :
    QN X cls W (.Call (.Name x p) (e :: es) [] pos) (eCallON np ns den i fa) := q_callON (fun _ pa => pe_cal C hr hj tk .nil pa hg hdb he hpl) ha
/-- a constant of the module -/
theorem q_cst {v : V} {d : D} (C : Cst X.mg x v) (r : ∀ G, Rep X.K G v d) (hg : Gl X x := by rfl) (hdb : (x == ("__debug__" : Str)) = false := by decide) : QE X cls W (.Name x pos) (eC d) := by
  obtain ⟨u, h1, h2⟩ := C.ex
  exact q_c (pe_glob hg h1 h2 hdb) r
/-- raise X('..') -/
theorem q_exn {c : Nat} {m : Str} {i : Nat} {p2 pos2 : Pos} (C : Exn X.K X.mg cls x c) (hc : X.calm = true) (tk : Takes X W) (hg : Gl X x := by rfl) (hdb : (x == ("__debug__" : Str)) = false := by decide) : QS X cls W (.Raise (some (.Call (.Name x p) [.Constant (.str m) i p2] [] pos2)) none pos) (sRaise c) := by
  obtain ⟨A, h0, h1, h2, h3, h4, h5⟩ := C.ex
  refine q_raise c ?_
  have hp := ps_raise (pos := pos) hc tk (pmk_own (p := p) (p2 := p2) (pos := pos2) (m := m) (j := i) PySem.F.excBase_ValueError h2 h1 h3 (raises_own h4 h5) hg hdb)
  rw [h0]
  exact hp
end
/-- no built-in that is used is covered by a name of the module -/
structure Bt (mg : Str → Option Value) : Prop where
  len : mg "len" = none
  isinstance : mg "isinstance" = none
  int : mg "int" = none
  bool : mg "bool" = none
  str : mg "str" = none
  tuple : mg "tuple" = none
  list : mg "list" = none
  dict : mg "dict" = none
  range : mg "range" = none
  reversed : mg "reversed" = none
  sum : mg "sum" = none
  max : mg "max" = none
  min : mg "min" = none
  sorted : mg "sorted" = none
  zip : mg "zip" = none
  enumerate : mg "enumerate" = none
  set : mg "set" = none
theorem hu65 {A : Around} {k : Nat} (hr : Room k A) : A.units + 65 < cLine := by
  have := hr.un
  omega
theorem q_pass {X : Cx} {cls : Nat → Value} {W : WX} {pos : Pos} : QS X cls W (.Pass pos) sSkip := ⟨⟨_, ps_pass, fun F ρ σ G H c E w => w σ G H (Same.refl G) c⟩⟩
theorem no_exc {P : Program} {w : World} {l : List Env} {H : Hp} {s : Shared} {e : Value} {s' : Shared} (h : L2.CX P w l H s (fun _ _ _ => False) e s') : False := by
  obtain ⟨_, _, _, _, _, _, _, _, _, _, _, _, z⟩ := h
  exact z
/-- the def as its callers see it -/
theorem cal_mk {P : Program} {w : World} {K : PySem.W.Frag} {mg : Str → Option Value} {base : Heap} {cls : Nat → Value} {x qual : Str} {st : Stmt} {f : Addr} {fd : FuncData} {ps : List Str} {k np ns : Nat} {den : MS} (Fn : Fun K x qual st f fd) (hm : mg x = some (.ref f)) (ok : FnOk P w K mg base (L2.CX P w) k f fd ps (spD K cls np ns den)) (hb : Binds K fd ps []) : Cal P w K mg base cls x ps k np ns den [] :=
  ⟨⟨f, fd, ok, hm, Fn.kp, hb⟩⟩
end NT

set_option Elab.async false
set_option linter.all false
set_option maxRecDepth 100000
set_option maxHeartbeats 4000000
namespace NT
open PySem L2 PySem.W
/-! ### sorted(xs), xs a list or a tuple of data that are alike -/
section
variable {prog : Program} {w : World} {A : Around} {E : Value → Shared → Prop} {s : Shared}
theorem sorted_seq {it : Addr} {T : String} {o : PySem.Obj} {items : Array Value} {n : Nat} {Q : Value → Shared → Prop} {ds : List PyData} (hT : T = "list" ∨ T = "tuple") (ho : s.heap.get? it = some o) (hc : o.cls = .type T) (hd : o.data = .seq items n) (hsz : items.size ≤ sizeLine)
    (he : ∀ h' : Heap, (∀ b o', s.heap.get? b = some o' → h'.get? b = some o') → EachIs (fun v d => ∃ as, Reads h' v d as) items.toList ds) (hal : AllAlike ds) (hk : Sortable ds) (hu : ∀ d, d ∈ ds → A.in1.in1.units + d.depth < cLine)
    (h : ∀ (h1 h' : Heap) (m : Nat) (out : List Value), (∀ b o', s.heap.get? b = some o' → h1.get? b = some o') → (∀ b o', h1.get? b = some o' → h'.get? b = some o') → KeyedOut false ds items.toList out → h'.get? h1.objs.size = some (PyProof.Rows.seqObj "list" out.toArray m) → Q (.ref h1.objs.size) { s with heap := h' }) :
    wpAny (model prog w) A (call (.builtin "sorted") [.ref it]) Q E s := by
  refine Calls.call_function_entry PyProof.Rows.kind_sorted PyProof.Rows.plain_sorted PyProof.Rows.entry_sorted (PyProof.Rows.args_sorted1 _) ?_
  unfold Builtin.«sorted»
  refine wpAny_bind (m := checkCount "sorted" 1 1 _) (wpAny_pure ?_)
  refine wpAny_bind (wpAny_collect_seq it hT ho hc hd (fun h1 k1 => ?_) hsz)
  have hl : items.toList.length ≤ sizeLine := by rw [Array.length_toList]; exact hsz
  refine wpAny_bind (wpAny_newList ?_ hl)
  have hoL : (h1.push (PyProof.Rows.seqObj "list" items.toList.toArray 0)).get? h1.objs.size = some (PyProof.Rows.seqObj "list" items.toList.toArray 0) := Heap.get?_push_size _ rfl
  have k2 : ∀ b o', h1.get? b = some o' → (h1.push (PyProof.Rows.seqObj "list" items.toList.toArray 0)).get? b = some o' := fun b o' e => Heap.get?_push_of_some _ e
  have lt1 : ∀ b o', h1.get? b = some o' → b ≠ h1.objs.size := fun b o' e => Nat.ne_of_lt (Heap.lt_size e)
  have k3 : ∀ b o', h1.get? b = some o' → (sortingHeap (h1.push (PyProof.Rows.seqObj "list" items.toList.toArray 0)) h1.objs.size items.toList).get? b = some o' := fun b o' e => sortingHeap_old (lt1 b o' e) (k2 b o' e)
  have e3 := he _ fun b o' e => k3 b o' (k1 b o' e)
  have S := SortsAt.data (prog := prog) (w := w) (A := A.in1.in1) (s := { s with heap := sortingHeap (h1.push (PyProof.Rows.seqObj "list" items.toList.toArray 0)) h1.objs.size items.toList }) e3 hal hk hu
  refine wpAny_bind (wpAny_holding (wpAny_call_entry PyProof.Rows.slot_list_sort ⟨_, hoL, rfl⟩ PyProof.Rows.entry_list_sort ?b (PyProof.Rows.args_list_sort _)))
  case b =>
    refine list_sort_vals (s := { s with heap := h1.push (PyProof.Rows.seqObj "list" items.toList.toArray 0) }) hoL S hl ⟨_, rfl, wpAny_pure ⟨_, rfl, ?_⟩⟩
    obtain ⟨m, hm⟩ : ∃ m, (PyProof.Rows.sortedHeap (h1.push (PyProof.Rows.seqObj "list" items.toList.toArray 0)) h1.objs.size items.toList (sortVals (dataKind (sortingHeap (h1.push (PyProof.Rows.seqObj "list" items.toList.toArray 0)) h1.objs.size items.toList) ds) false items.toList items.toList).toArray).get? h1.objs.size = some (PyProof.Rows.seqObj "list" (sortVals (dataKind (sortingHeap (h1.push (PyProof.Rows.seqObj "list" items.toList.toArray 0)) h1.objs.size items.toList) ds) false items.toList items.toList).toArray m) := PyProof.Rows.sortedHeap_at hoL
    refine h h1 _ m _ k1 (fun b o' e => ?_) ⟨_, _, hal, rfl, e3⟩ hm
    rw [PyProof.Rows.sortedHeap_old (lt1 b o' e) (Heap.lt_size (k2 b o' e))]
    exact k2 b o' e
end
theorem each_of_reads {h : Heap} : ∀ {us : List Value} {ds : List PyData} {as : List Addr}, ReadsAll h us ds as → EachIs (fun v d => ∃ as, Reads h v d as) us ds
  | _, _, _, .nil => .nil
  | _, _, _, .cons r rs => .cons ⟨_, r⟩ (each_of_reads rs)
theorem each_zip {us : List Value} : ∀ {xs : List V} {ds : List PyData}, Vals xs us → xs.length = ds.length → EachIs (fun u (p : V × PyData) => RelV p.1 u) us (xs.zip ds) := by
  induction us with
  | nil =>
    intro xs ds r hl
    cases r
    exact .nil
  | cons u us ih =>
    intro xs ds r hl
    cases r with
    | cons r1 r2 =>
      cases ds with
      | nil => cases hl
      | cons d ds => exact .cons r1 (ih r2 (by simpa using hl))
theorem vals_of_each : ∀ {us : List Value} {ps : List (V × PyData)}, EachIs (fun u (p : V × PyData) => RelV p.1 u) us ps → Vals (ps.map (·.1)) us
  | _, _, .nil => .nil
  | _, _, .cons r rs => .cons r (vals_of_each rs)
def rSortedD (K : PySem.W.Frag) : List V → Hp → VK → Prop := fun vs H Q => ∃ (a : Addr) (xs : List V) (ds : List PyData), vs = [.ref a] ∧ (SqL K H a xs ∨ SqT K H a xs) ∧ DpAll K H xs ds ∧ xs.length = ds.length ∧ AllAlike ds ∧ Sortable ds ∧ (∀ d ∈ ds, d.depth ≤ 60) ∧
  ∀ l, H l = none → Q (.ref l) (upd H l (.lst (((xs.zip ds).mergeSort (dataLe false (·.2))).map (·.1))))
theorem cr_sortedD {X : Cx} (hu : X.A.units + 65 < cLine) : CallR X (.builtin "sorted") (rSortedD X.K) := by
  intro pins s σ H vs us Q I r h
  obtain ⟨a, xs, ds, rfl, hq, hd, hl, hal, hk, hdep, q⟩ := h
  obtain ⟨u, rfl, ru⟩ := vals1 r
  obtain rfl : u = Value.ref a := ru
  have fin : ∀ (its : List Value) (T : String) (o : PySem.Obj) (n : Nat), (T = "list" ∨ T = "tuple") → s.heap.get? a = some o → o.cls = .type T → o.data = .seq its.toArray n → Vals xs its → xs.length ≤ sizeLine → wpAny (model X.prog X.w) X.A (call (.builtin "sorted") [.ref a]) (EP X pins σ Q) X.xe s := fun its T o n hT ho hc hdt rv hz => by
    have hlen : its.length = xs.length := rv.length.symm
    refine sorted_seq (ds := ds) hT ho hc hdt (by rw [List.size_toArray, hlen]; exact hz) (fun h' k => ?_) hal hk (fun d m => ?_) fun h1 h' m out k1 k2 ko hg => ?_
    · have I1 : Inv X pins σ H { s with heap := h' } := I.kept (t' := s.toks) k
      obtain ⟨as, ra⟩ := Dp.readsAll I1 ds xs its hd rv
      exact each_of_reads ra
    · have := hdep d m
      have e : X.A.in1.in1.units = X.A.units + 2 := rfl
      omega
    · have I1 : Inv X pins σ H { s with heap := h1 } := I.kept (t' := s.toks) k1
      have em : (xs.zip ds).map (·.2) = ds := List.map_snd_zip (by omega)
      have ek : EachIs (fun u (p : V × PyData) => RelV p.1 u) out ((xs.zip ds).mergeSort (dataLe false (·.2))) := keyedOut_each (bs := xs.zip ds) (·.2) (by rw [em]; exact ko) (each_zip rv hl)
      have hv := vals_of_each ek
      have hz2 : (((xs.zip ds).mergeSort (dataLe false (·.2))).map (·.1)).length ≤ sizeLine := by
        rw [List.length_map, List.length_mergeSort, List.length_zip]
        omega
      have I2 : Inv X pins σ (upd H h1.objs.size (.lst (((xs.zip ds).mergeSort (dataLe false (·.2))).map (·.1)))) { s with heap := h' } :=
        I1.laid (t' := s.toks) k2 (Nat.le_refl _) (show ObjOk X.prog X.w _ _ _ (.lst _) from ⟨hz2, out, m, hv, hg⟩)
      exact ⟨.ref h1.objs.size, _, I2, rfl, q _ (I1.hok.fresh (Nat.le_refl _))⟩
  rcases hq with hq | hq
  · obtain ⟨its, r', pl, hz⟩ := I.list hq
    obtain ⟨o, ho, hc, n, hd⟩ := pl.isList
    exact fin its "list" o n (.inl rfl) ho hc hd r' hz
  · obtain ⟨its, r', pl, hz⟩ := I.tuple hq
    obtain ⟨o, ho, hc, n, hd⟩ := pl
    exact fin its "tuple" o n (.inr rfl) ho hc hd r' hz
def leD (a b : D) : Bool := dataLe false py a b
def sortD (ds : List D) : List D := ds.mergeSort leD
def alikes (ds : List D) : Bool := ds.all fun a => ds.all fun b => alike (py a) (py b)
def tupD : D → Bool
  | .tup (_ :: _) => true
  | _ => false
def oneD : D → Bool
  | .bl _ => true | .int _ => true | .str _ => true | .lst _ => true
  | _ => false
def opSorted : List D → Option D
  | [.lst ds] => if fits 60 ds && (alikes ds && (ds.all tupD || ds.all oneD)) then some (.lst (sortD ds)) else none
  | [.tup ds] => if fits 60 ds && (alikes ds && (ds.all tupD || ds.all oneD)) then some (.lst (sortD ds)) else none
  | _ => none
theorem pys_map : ∀ {ds : List D}, pys ds = ds.map py
  | [] => rfl
  | d :: ds => by rw [pys, List.map_cons, pys_map]
theorem RepL.zip {K : PySem.W.Frag} {G : Hp} : ∀ {vs : List V} {ds : List D}, RepL K G vs ds → ∀ p ∈ vs.zip ds, Rep K G p.1 p.2
  | _, _, .nil, p, h => by cases h
  | _, _, .cons r rs, p, h => by
    rw [List.zip_cons_cons] at h
    rcases List.mem_cons.mp h with h | h
    · subst h
      exact r
    · exact rs.zip p h
theorem RepL.merge {K : PySem.W.Frag} {G : Hp} {vs : List V} {ds : List D} (r : RepL K G vs ds) : RepL K G (((vs.zip (ds.map py)).mergeSort (dataLe false (·.2))).map (·.1)) (sortD ds) := by
  have e1 : vs.zip (ds.map py) = (vs.zip ds).map fun p => (p.1, py p.2) := by
    rw [List.zip_map_right]
    rfl
  have e2 : ds = (vs.zip ds).map (·.2) := (List.map_snd_zip (by rw [r.length]; exact Nat.le_refl _)).symm
  have m1 : ((vs.zip ds).map fun p => (p.1, py p.2)).mergeSort (dataLe false (·.2)) = ((vs.zip ds).mergeSort fun a b => leD a.2 b.2).map fun p => (p.1, py p.2) := by
    refine (List.map_mergeSort (s := dataLe false (fun x : V × PyData => x.2)) ?_).symm
    intro a _ b _
    rfl
  have m2 : sortD ds = ((vs.zip ds).mergeSort fun a b => leD a.2 b.2).map (·.2) := by
    unfold sortD
    conv => lhs; rw [e2]
    refine (List.map_mergeSort (s := leD) ?_).symm
    intro a _ b _
    rfl
  rw [e1, m1, m2, List.map_map]
  have hm : ∀ p ∈ (vs.zip ds).mergeSort (fun a b => leD a.2 b.2), Rep K G p.1 p.2 := fun p hp => by
    rw [List.mem_mergeSort] at hp
    exact r.zip p hp
  generalize (vs.zip ds).mergeSort (fun a b => leD a.2 b.2) = L at hm
  induction L with
  | nil => exact .nil
  | cons p L ih => exact .cons (hm p List.mem_cons_self) (ih fun q hq => hm q (List.mem_cons_of_mem _ hq))
theorem depth_mem : ∀ {ds : List PyData} {d : PyData}, d ∈ ds → d.depth ≤ PyData.depthAll ds
  | x :: ds, d, h => by
    rw [PyData.depthAll]
    rcases List.mem_cons.mp h with h | h
    · subst h
      omega
    · have := depth_mem h
      omega
theorem new_sorted {K : PySem.W.Frag} : NewA K (rSortedD K) opSorted := fun F G H σ ρ xs ds z c r hz Q p => by
  have go : ∀ (a : Addr) (vs : List V) (es : List D), (SqL K H a vs ∨ SqT K H a vs) → RepL K G vs es → (fits 60 es && (alikes es && (es.all tupD || es.all oneD))) = true → PNw K F G σ Q (.lst (sortD es)) ρ → rSortedD K [.ref a] H Q := fun a vs es hq rr hb pp => by
    simp only [Bool.and_eq_true, Bool.or_eq_true] at hb
    obtain ⟨h1, h2, h3⟩ := hb
    refine ⟨a, vs, pys es, rfl, hq, rr.dp c.ex 60 h1, ?_, ?_, ?_, ?_, fun l hl => ?_⟩
    · rw [pys_map, List.length_map, rr.length]
    · rw [pys_map]
      intro d hd d' hd'
      obtain ⟨e, he, rfl⟩ := List.mem_map.mp hd
      obtain ⟨e', he', rfl⟩ := List.mem_map.mp hd'
      unfold alikes at h2
      rw [List.all_eq_true] at h2
      have := h2 e he
      rw [List.all_eq_true] at this
      exact this e' he'
    · rw [pys_map]
      rcases h3 with h3 | h3 <;> rw [List.all_eq_true] at h3
      · refine .inl fun d hd => ?_
        obtain ⟨e, he, rfl⟩ := List.mem_map.mp hd
        have := h3 e he
        unfold tupD at this
        split at this
        · rw [py, pys]
          exact ⟨_, _, rfl⟩
        · cases this
      · refine .inr fun d hd => ?_
        obtain ⟨e, he, rfl⟩ := List.mem_map.mp hd
        have := h3 e he
        cases e <;> first | (cases this; done) | (constructor <;> simp [py])
    · have := (fits_lay 60 es h1).2
      intro d hd
      exact Nat.le_trans (depth_mem hd) this
    · rw [pys_map]
      exact pnw_lst c pp rr.merge hl
  unfold opSorted at hz
  split at hz
  · split at hz
    · rename_i hb
      cases hz
      cases r with
      | cons r1 r2 =>
        cases r2
        cases r1 with
        | lst h r => exact go _ _ _ (.inl (.inl (.inl (c.ex _ _ h)))) r hb p
    · cases hz
  · split at hz
    · rename_i hb
      cases hz
      cases r with
      | cons r1 r2 =>
        cases r2
        cases r1 with
        | tup h r => exact go _ _ _ (.inr (.inl (c.ex.rd h.rd))) r hb p
    · cases hz
  · cases hz
end NT

set_option Elab.async false
set_option linter.all false
set_option maxRecDepth 100000
set_option maxHeartbeats 4000000
namespace NT
open PySem L2
/-! ### try .. except X: .. -/
def hand : List ((Nat → Option Bool) × MS) → Nat → MS
  | [], c => fun ρ => .ex c ρ
  | (t, g) :: r, c => fun ρ => match t c with
    | some true => match g ρ with
      | .ex _ _ => .bad
      | o => o
    | some false => hand r c ρ
    | none => .bad
def sTry (hs : List ((Nat → Option Bool) × MS)) (f : MS) : MS := fun ρ => match f ρ with
  | .ex c ρ' => hand hs c ρ'
  | o => o
/-- the one reading of a suite -/
def tOfS (K : PySem.W.Frag) (cls : Nat → Value) (W : WX) (f : MS) : TS := fun E σ H => ∃ F ρ G, CS K F G H σ ρ ∧ PO K cls W F G E (f ρ)
section
variable {X : Cx} {cls : Nat → Value} {W : WX}
theorem QB.pss {st : List Stmt} {f : MS} (h : QB X cls W st f) : PSs X st (tOfS X.K cls W f) := by
  obtain ⟨t, p, s⟩ := h.sim
  exact ⟨fun pins s' σ H D I ⟨F, ρ, G, c, po⟩ => p.run pins s' σ H D I (s F ρ σ G H c D po)⟩
inductive QH (X : Cx) (cls : Nat → Value) : List ExceptHandler → List ((Nat → Option Bool) × MS) → Prop
  | nil : QH X cls [] []
  | cons {x : Str} {cv : Value} {t : Nat → Option Bool} {g : MS} {b₀ : Stmt} {suite : List Stmt} {np pos' : Pos} {hds : List ExceptHandler} {hs : List ((Nat → Option Bool) × MS)} (hc : Names X x cv) (ht : ∀ c b, t c = some b → PySem.W.exmOne X.K (cls c) cv = some b)
      (hsu : ∀ (a : Addr) (oe : PySem.Obj) (pn : List (Addr × PySem.Obj)), QB (X.suite a ((a, oe) :: pn)) cls noW (b₀ :: suite) g) (r : QH X cls hds hs) :
      QH X cls (.ExceptHandler (some (.Name x np)) none (b₀ :: suite) pos' :: hds) ((t, g) :: hs)
theorem PO.noW {K : PySem.W.Frag} {F : Fm} {G : Hp} {E : Ends} {o : O} (h : PO K cls W F G E o) (hn : ∀ c ρ, o ≠ .ex c ρ) : PO K cls NT.noW F G E o := by
  cases o with
  | ex c ρ => exact absurd rfl (hn c ρ)
  | _ => exact h
theorem qh_ok {hds : List ExceptHandler} {hs : List ((Nat → Option Bool) × MS)} (q : QH X cls hds hs) : ∃ l, HdsOk X hds l ∧ ∀ D c ρ F G σ H, CS X.K F G H σ ρ → PO X.K cls W F G D (hand hs c ρ) → wMany X.K W D l (cls c) none σ H := by
  induction q with
  | nil => exact ⟨[], .nil, fun D c ρ F G σ H cs po => po σ G H (Same.refl G) cs⟩
  | @cons x cv t g b₀ suite np pos' hds hs hc ht hsu r ih =>
    obtain ⟨l, h1, h2⟩ := ih
    refine ⟨(cv, fun _ _ _ => tOfS X.K cls NT.noW g) :: l, .cons hc (fun a oe _ _ pn _ _ => (hsu a oe pn).pss) h1, fun D c ρ F G σ H cs po => ?_⟩
    unfold hand at po
    cases e : t c with
    | none =>
      rw [e] at po
      exact po.elim
    | some b =>
      rw [e] at po
      refine ⟨b, ht c b e, fun hb a ha => ?_, fun hb => ?_⟩
      · subst hb
        dsimp only at po
        refine ⟨F, ρ, G, cs, ?_⟩
        split at po
        · exact po.elim
        · rename_i hn
          exact PO.noW po fun c' ρ' q => hn c' ρ' q
      · subst hb
        exact h2 D c ρ F G σ H cs po
theorem q_try {body : List Stmt} {h₀ : ExceptHandler} {hds : List ExceptHandler} {hs : List ((Nat → Option Bool) × MS)} {f : MS} {pos : Pos} (hst : X.stack = X.env :: X.outer) (hf : X.env.frame = some X.env.locals) (tk : Takes X W)
    (hb : ∀ (W : WX) (pn : List (Addr × PySem.Obj)) (xe : Value → Shared → Prop), Takes (X.tr pn xe) W → QB (X.tr pn xe) cls W body f) (hh : QH X cls (h₀ :: hds) hs) : QS X cls W (.Try body (h₀ :: hds) [] [] pos) (sTry hs f) := by
  obtain ⟨l, h1, h2⟩ := qh_ok (W := W) hh
  refine ⟨⟨_, ps_try_many (tb := fun W => tOfS X.K cls W f) hst hf tk (fun W pn xe t _ => (hb W pn xe t).pss) h1, fun F ρ σ G H c E po => ⟨F, ρ, G, c, ?_⟩⟩⟩
  unfold sTry at po
  cases e : f ρ with
  | ex n ρ' =>
    rw [e] at po
    exact fun σ' G' H' ex c' => h2 E n ρ' F G' σ' H' c' (PO.mono ex po)
  | nx ρ' => rw [e] at po; exact po
  | rt d ρ' => rw [e] at po; exact po
  | rtN d ρ' => rw [e] at po; exact po
  | bad => rw [e] at po; exact po
end
end NT

set_option Elab.async false
set_option linter.all false
set_option maxRecDepth 100000
set_option maxHeartbeats 4000000
namespace NT
open PySem L2
/-! ### try .. except X as n: .. -/
def wipeO (i : Nat) : O → O
  | .nx ρ => if isFree ρ[i]? then .nx (ρ.set i .no) else .bad
  | .rt d ρ => if isFree ρ[i]? then .rt d (ρ.set i .no) else .bad
  | _ => .bad
def sTryAs (i : Nat) (t : Nat → Option Bool) (g : Nat → Addr → MS) (f : MS) : MS := fun ρ => match f ρ with
  | .ex c ρ' => match t c with
    | some true => if isFree ρ'[i]? then wipeO i (g c 0 (ρ'.set i (.val (.exn 0)))) else .bad
    | some false => .ex c ρ'
    | none => .bad
  | o => o
section
variable {X : Cx} {cls : Nat → Value} {W : WX} {K : PySem.W.Frag} {F : Fm} {G H : Hp} {σ : St} {ρ : List Sl}
theorem free_notBor {s : Option Sl} (h : isFree s = true) : notBor s = true := by
  cases s with
  | none => cases h
  | some s => cases s <;> first | rfl | cases h
theorem CS.blank (c : CS K F G H σ ρ) {i : Nat} (hb : isFree ρ[i]? = true) (x : Option V) : CS K F G H (σ.set i x) (ρ.set i .no) :=
  match x with
  | none => c.clear hb
  | some v => c.setAny (s := .no) (v := v) (free_notBor hb) (fun e h => by cases h) (fun e h => by cases h) (fun e h => by cases h)
theorem set_back {σ : St} {i : Nat} : ∃ x, σ.set i x = σ := by
  cases e : σ[i]? with
  | none =>
    refine ⟨none, ?_⟩
    rw [List.set_eq_of_length_le]
    exact List.getElem?_eq_none_iff.mp e
  | some y =>
    refine ⟨y, ?_⟩
    obtain ⟨hl, e⟩ := List.getElem?_eq_some_iff.mp e
    rw [← e]
    exact List.set_getElem_self hl
theorem CS.forget (c : CS K F G H σ ρ) {i : Nat} (hb : isFree ρ[i]? = true) : CS K F G H σ (ρ.set i .no) := by
  obtain ⟨x, e⟩ := set_back (σ := σ) (i := i)
  have h := c.blank hb x
  rwa [e] at h
theorem q_tryAs {x n : Str} {cv : Value} {i : Nat} {t : Nat → Option Bool} {g : Nat → Addr → MS} {f : MS} {body suite : List Stmt} {b₀ : Stmt} {np pos pos' : Pos} (hst : X.stack = X.env :: X.outer) (hf : X.env.frame = some X.env.locals) (hN : X.N.Nodup) (hi : X.N[i]? = some n) (hln : X.env.kindOf n = some .local)
    (hc : Names X x cv) (tk : Takes X W) (ht : ∀ c b, t c = some b → PySem.W.exmOne X.K (cls c) cv = some b)
    (hb : ∀ (W : WX) (pn : List (Addr × PySem.Obj)) (xe : Value → Shared → Prop), Takes (X.tr pn xe) W → QB (X.tr pn xe) cls W body f)
    (hsu : ∀ (c : Nat) (a : Addr) (oe : PySem.Obj) (pn : List (Addr × PySem.Obj)), t c = some true → Zc (cls c) none oe → (∃ vs, oe.data = .fields vs) → QB (X.suite a ((a, oe) :: pn)) cls noW (b₀ :: suite) (g c a))
    (hnat : ∀ (c : Nat) (a : Addr) (ρ : List Sl), isFree ρ[i]? = true → wipeO i (g c a (ρ.set i (.val (.exn a)))) = wipeO i (g c 0 (ρ.set i (.val (.exn 0))))) :
    QS X cls W (.Try body [.ExceptHandler (some (.Name x np)) (some n) (b₀ :: suite) pos'] [] [] pos) (sTryAs i t g f) := by
  refine ⟨⟨_, ps_try_as (tb := fun W => tOfS X.K cls W f) (ts := fun a cl d E σ H => ∃ c, cl = cls c ∧ d = none ∧ t c = some true ∧ tOfS X.K cls NT.noW (g c a) E σ H) hst hf hN hi hln hc tk (fun W pn xe q _ => (hb W pn xe q).pss)
    (fun a oe cl d pn hz hv => ⟨fun pins s σ H D I h => ?_⟩), fun F ρ σ G H c E po => ⟨F, ρ, G, c, ?_⟩⟩⟩
  · obtain ⟨c, rfl, rfl, h1, h2⟩ := h
    exact ((hsu c a oe pn h1 hz hv).pss).run pins s σ H D I h2
  · unfold sTryAs at po
    cases e : f ρ with
    | ex n' ρ' =>
      rw [e] at po
      dsimp only at po
      intro σ' G' H' ex c'
      cases e2 : t n' with
      | none =>
        rw [e2] at po
        exact po.elim
      | some b =>
        rw [e2] at po
        refine ⟨b, ht n' b e2, fun hb a ha => ?_, fun hb => ?_⟩
        · subst hb
          dsimp only at po
          split at po
          · rename_i hfree
            refine ⟨n', rfl, rfl, e2, F, ρ'.set i (.val (.exn a)), G', c'.setVal (free_notBor hfree) .exn, ?_⟩
            rw [← hnat n' a ρ' hfree] at po
            cases e3 : g n' a (ρ'.set i (.val (.exn a))) with
            | nx ρ2 =>
              rw [e3] at po
              unfold wipeO at po
              dsimp only at po
              split at po
              · rename_i hf2
                exact fun σ2 G2 H2 ex2 c2 => po _ G2 H2 (ex.trans ex2) (c2.blank hf2 none)
              · exact po.elim
            | rt d ρ2 =>
              rw [e3] at po
              unfold wipeO at po
              dsimp only at po
              split at po
              · rename_i hf2
                exact fun v σ2 G2 H2 ex2 c2 r => po v σ2 G2 H2 (ex.trans ex2) (c2.forget hf2) r
              · exact po.elim
            | rtN d ρ2 => rw [e3] at po; exact po.elim
            | ex c2 ρ2 => rw [e3] at po; exact po.elim
            | bad => rw [e3] at po; exact po.elim
          · exact po.elim
        · subst hb
          exact po σ' G' H' ex c'
    | nx ρ' => rw [e] at po; exact po
    | rt d ρ' => rw [e] at po; exact po
    | rtN d ρ' => rw [e] at po; exact po
    | bad => rw [e] at po; exact po
end
/-! isinstance(error, C), isinstance(error, (C1, ..)) -/
def rIsET (K : PySem.W.Frag) (D a : Addr) : List V → Hp → VK → Prop := fun xs H Q => ∃ (tp : Addr) (cs : List V) (us : List Value) (b : Bool), xs = [.ref a, .ref tp] ∧ H tp = some (.tup cs) ∧ Paired ClsV cs us ∧ PySem.W.kitAny K (.ref D) us = some b ∧ Q (.bl b) H
theorem call_isET {X : Cx} {a D : Addr} {oe : PySem.Obj} {pn : List (Addr × PySem.Obj)} (C : ExcC X.K D) (hz : Zc (.ref D) none oe) (hf : ∃ vs, oe.data = .fields vs) : CallR (X.suite a ((a, oe) :: pn)) (.builtin "isinstance") (rIsET X.K D a) := by
  intro pins s σ H xs us Q I r h
  obtain ⟨tp, cs, ws, b, rfl, hT, k, e, q⟩ := h
  obtain ⟨u1, u2, rfl, r1, r2⟩ := vals2 r
  cases (show u2 = Value.ref tp from r2)
  cases (show u1 = Value.ref a from r1)
  obtain ⟨hget, _⟩ := I.pin (a, oe) (List.mem_append.mpr (.inl List.mem_cons_self))
  obtain ⟨vs, hv⟩ := hf
  have J : PySem.W.InstAt s.heap a oe D none := by
    obtain ⟨c1, c2, c3, c4⟩ := oe
    obtain ⟨z1, z2⟩ := hz
    dsimp only at z1 z2 hv
    subst z1 z2 hv
    exact ⟨hget, rfl, rfl, trivial⟩
  obtain ⟨_, its, rv, o, h1, h2, n, h3⟩ := (show ObjOk X.prog X.w H s.heap tp (.tup cs) from I.hok tp _ hT)
  have e3 := ClsV.all k rv
  subst e3
  obtain ⟨oc, od, dt, sl⟩ := o
  simp only at h2 h3
  subst h2 h3
  exact PySem.W.kia_tup (PySem.W.handS_kitx_exc C.hg C.hk C.hs C.hd C.ha C.hn C.ht C.hm) I.kIn J h1 e (fun z => nomatch z) fun tk => ⟨.bl b, H, I.kept (t' := tk) fun _ _ z => z, rfl, q⟩

def eIsE (a : Addr) (i : Nat) (b : Bool) : M D := fun ρ => match ρ[i]? with
  | some (.val (.exn a')) => if a' = a then .ok (.bl b) ρ else .bad
  | _ => .bad
theorem isE_ok {a : Addr} {i : Nat} {b : Bool} {ρ : List Sl} {d : D} {ρ' : List Sl} (h : eIsE a i b ρ = .ok d ρ') : ρ' = ρ ∧ d = .bl b ∧ ρ[i]? = some (.val (.exn a)) := by
  unfold eIsE at h
  split at h
  · rename_i a' e
    split at h
    · rename_i e2
      cases h
      subst e2
      exact ⟨rfl, rfl, e⟩
    · cases h
  · cases h
section
variable {X : Cx} {cls : Nat → Value} {W : WX}
theorem wpR_isE {a : Addr} {i : Nat} {b : Bool} {ρ : List Sl} {P : D → List Sl → Prop} {E : Nat → List Sl → Prop} (w : wpR (eIsE a i b ρ) P E) : ρ[i]? = some (.val (.exn a)) ∧ P (.bl b) ρ := by
  cases e : eIsE a i b ρ with
  | ok d ρ' =>
    obtain ⟨rfl, rfl, h⟩ := isE_ok e
    rw [e] at w
    exact ⟨h, w⟩
  | ex c ρ' =>
    exfalso
    unfold eIsE at e
    split at e
    · split at e <;> cases e
    · cases e
  | bad => rw [e] at w; exact w.elim
theorem inert_isE {a : Addr} {i : Nat} {b : Bool} : Inert (eIsE a i b) := fun ρ n d ρ' e => by
  obtain ⟨rfl, _, _⟩ := isE_ok e
  first | exact n | exact ⟨n, rfl⟩ | exact ⟨rfl, n⟩ | exact rfl
theorem q_isE {a D : Addr} {i : Nat} {b : Bool} {cv : V} {u : Value} {e : Expr} (hp : PE X e (tCB (rIsE X.K D a) (tCons (tVar i) (tCons (tC cv) tNil)))) (hu : ∀ w, RelV cv w → w = u) (hk : PySem.W.kitOne X.K (.ref D) u = some b) : QE X cls W e (eIsE a i b) := by
  refine ⟨⟨_, hp, fun F ρ σ G H c Q w => ?_⟩, inert_isE⟩
  obtain ⟨h1, h2⟩ := wpR_isE w
  obtain ⟨v, hv, r⟩ := c.vals i _ h1
  cases r
  exact ⟨_, hv, cv, u, b, rfl, hu, hk, h2 _ G H (Same.refl G) c (.bl b)⟩
theorem q_isET {a D : Addr} {i : Nat} {b : Bool} {cs : List V} {us : List Value} {e : Expr} {ta : TA} (hp : PE X e (tCB (rIsET X.K D a) (tCons (tVar i) (tCons (tTup ta) tNil)))) (ht : ∀ σ H (Q : List V → Hp → Prop), Q cs H → ta σ H Q) (hl : cs.length ≤ sizeLine) (hu : Paired ClsV cs us) (hk : PySem.W.kitAny X.K (.ref D) us = some b) : QE X cls W e (eIsE a i b) := by
  refine ⟨⟨_, hp, fun F ρ σ G H c Q w => ?_⟩, inert_isE⟩
  obtain ⟨h1, h2⟩ := wpR_isE w
  obtain ⟨v, hv, r⟩ := c.vals i _ h1
  cases r
  refine ⟨_, hv, ht _ _ _ ⟨hl, fun p hq => ⟨p, cs, us, b, rfl, upd_same, hu, hk, ?_⟩⟩⟩
  exact h2 _ G _ (Same.refl G) (c.allocN hq _) (.bl b)
end

/-! tables of classes -/
def tbl : List (Nat × Bool) → Nat → Option Bool
  | [], _ => none
  | (n, b) :: r, c => if c = n then some b else tbl r c
def tblB (l : List (Nat × Bool)) (c : Nat) : Bool := (tbl l c).getD false
def tAll (P : Nat → Bool → Prop) : List (Nat × Bool) → Prop
  | [] => True
  | (n, b) :: r => P n b ∧ tAll P r
theorem tbl_ok {P : Nat → Bool → Prop} : ∀ {l : List (Nat × Bool)}, tAll P l → ∀ (c : Nat) (b : Bool), tbl l c = some b → P c b
  | [], _, c, b, e => by cases e
  | (n, x) :: r, h, c, b, e => by
    unfold tbl at e
    split at e
    · rename_i q
      cases e
      subst q
      exact h.1
    · exact tbl_ok h.2 c b e
def clsV : Value → V
  | .ref a => .ref a
  | _ => .non
section
variable {X : Cx} {cls : Nat → Value} {W : WX} {x : Str} {n : Nat}
theorem names_exn (E : Exn X.K X.mg cls x n) (hg : Gl X x := by rfl) (hdb : (x == ("__debug__" : Str)) = false := by decide) : Names X x (cls n) := by
  obtain ⟨C, h1, h2, _⟩ := E.ex
  rw [h1]
  exact ⟨hg, hdb, .inl h2⟩
theorem pe_exn {p : Pos} (E : Exn X.K X.mg cls x n) (hg : Gl X x := by rfl) (hdb : (x == ("__debug__" : Str)) = false := by decide) : PE X (.Name x p) (tC (clsV (cls n))) := by
  obtain ⟨C, h1, h2, _⟩ := E.ex
  rw [h1]
  exact pe_glob hg h2 (show RelV (.ref C) (.ref C) from rfl) hdb
theorem cls_exn {K : PySem.W.Frag} {mg : Str → Option Value} (E : Exn K mg cls x n) : ClsV (clsV (cls n)) (cls n) := by
  obtain ⟨C, h1, _⟩ := E.ex
  rw [h1]
  exact .own C
def IsX (K : PySem.W.Frag) (cls : Nat → Value) (c : Nat) : Prop := ∃ D, cls c = .ref D ∧ ExcC K D
theorem q_isX {a : Addr} {oe : PySem.Obj} {pn : List (Addr × PySem.Obj)} {c i : Nat} {b : Bool} {cv : V} {u : Value} {m y : Str} {p p1 p3 pos : Pos} (I : IsX X.K cls c) (hz : Zc (cls c) none oe) (hv : ∃ vs, oe.data = .fields vs) (hm : X.mg "isinstance" = none) (hn : PE (X.suite a ((a, oe) :: pn)) (.Name m p1) (tVar i)) (hc : PE (X.suite a ((a, oe) :: pn)) (.Name y p3) (tC cv)) (hu : ClsV cv u) (hk : PySem.W.kitOne X.K (cls c) u = some b) (hg : Gl (X.suite a ((a, oe) :: pn)) "isinstance" := by rfl) :
    QE (X.suite a ((a, oe) :: pn)) cls W (.Call (.Name "isinstance" p) [.Name m p1, .Name y p3] [] pos) (eIsE a i b) := by
  obtain ⟨D, h1, C⟩ := I
  rw [h1] at hz hk
  exact q_isE (pe_callB (call_isE (X := X) C hz hv) hg hm (by decide +kernel) (pa_cons hn (pa_cons hc pa_nil))) (fun w r => hu.eq r) hk
theorem q_isXT {a : Addr} {oe : PySem.Obj} {pn : List (Addr × PySem.Obj)} {c i : Nat} {b : Bool} {cs : List V} {us : List Value} {m : Str} {es : List Expr} {x1 : _} {p p1 p2 pos : Pos} {ta : TA} (I : IsX X.K cls c) (hz : Zc (cls c) none oe) (hv : ∃ vs, oe.data = .fields vs) (hm : X.mg "isinstance" = none) (hn : PE (X.suite a ((a, oe) :: pn)) (.Name m p1) (tVar i)) (hc : PA (X.suite a ((a, oe) :: pn)) es ta) (ht : ∀ σ H (Q : List V → Hp → Prop), Q cs H → ta σ H Q) (hl : cs.length ≤ sizeLine) (hu : Paired ClsV cs us) (hk : PySem.W.kitAny X.K (cls c) us = some b) (hg : Gl (X.suite a ((a, oe) :: pn)) "isinstance" := by rfl) :
    QE (X.suite a ((a, oe) :: pn)) cls W (.Call (.Name "isinstance" p) [.Name m p1, .Tuple es x1 p2] [] pos) (eIsE a i b) := by
  obtain ⟨D, h1, C⟩ := I
  rw [h1] at hz hk
  exact q_isET (pe_callB (call_isET (X := X) C hz hv) hg hm (by decide +kernel) (pa_cons hn (pa_cons (pe_tup hc) pa_nil))) ht hl hu hk
end

/-! f() -/
def eCall0 (ns : Nat) (den : MS) : M D := fun ρ => match den (List.replicate ns .no) with
  | .rt d _ => .ok d ρ
  | .rtN d _ => .ok d ρ
  | .nx _ => .ok .non ρ
  | _ => .bad
def eCall0N (ns : Nat) (den : MS) : M D := fun ρ => match den (List.replicate ns .no) with
  | .rtN d _ => .ok d ρ
  | _ => .bad
theorem inert_call0 {ns : Nat} {den : MS} : Inert (eCall0 ns den) := fun ρ n a ρ' q => by
  unfold eCall0 at q
  split at q <;> first | (cases q; rfl) | cases q
theorem inert_call0N {ns : Nat} {den : MS} : Inert (eCall0N ns den) := fun ρ n a ρ' q => by
  unfold eCall0N at q
  split at q <;> first | (cases q; rfl) | cases q
section
variable {X : Cx} {cls : Nat → Value} {W : WX} {x : Str} {p pos : Pos} {k j ns : Nat} {den : MS}
theorem pe_cal0 (C : Cal X.prog X.w X.K X.mg X.base cls x [] k 0 ns den []) (hr : Room j X.A) (hj : k ≤ j) (hg : Gl X x) (hdb : (x == ("__debug__" : Str)) = false) :
    PE X (.Call (.Name x p) [] [] pos) (tCall (spD X.K cls 0 ns den) [] (fun _ _ _ => False) tNil) := by
  obtain ⟨f, fd, F, hm, hk, hb⟩ := C.ex
  exact pe_call0 F (hr.mono hj) hg hm hk hb .nil (fun _ _ _ _ _ _ _ z => (no_exc z).elim) hdb
theorem q_cal0 (C : Cal X.prog X.w X.K X.mg X.base cls x [] k 0 ns den []) (hr : Room j X.A) (hj : k ≤ j) (hg : Gl X x := by rfl) (hdb : (x == ("__debug__" : Str)) = false := by decide) : QE X cls W (.Call (.Name x p) [] [] pos) (eCall0 ns den) := by
  refine ⟨⟨_, pe_cal0 C hr hj hg hdb, fun F ρ σ G H c Q w => ?_⟩, inert_call0⟩
  refine ⟨rfl, G, [], [], CS.args (ds := []) c.ex .nil, ?_⟩
  rw [List.nil_append]
  unfold eCall0 at w
  split at w
  · rename_i d ρ' q
    rw [q]
    exact fun v σ' G' H' e' c' r => w v G' H' e' (c.back0 c') r
  · rename_i d ρ' q
    rw [q]
    intro l σ' G' H' e' c' fr
    obtain ⟨o, ho, c2, r, e2⟩ := (c.back0 c').freeze (fr.back0 c)
    exact w _ _ _ (e'.trans e2) c2 r
  · rename_i ρ' q
    rw [q]
    exact fun σ' G' H' e' c' => w _ G' H' e' (c.back0 c') .non
  · exact w.elim
theorem q_cal0N (C : Cal X.prog X.w X.K X.mg X.base cls x [] k 0 ns den []) (hr : Room j X.A) (hj : k ≤ j) (hg : Gl X x := by rfl) (hdb : (x == ("__debug__" : Str)) = false := by decide) : QN X cls W (.Call (.Name x p) [] [] pos) (eCall0N ns den) := by
  refine ⟨⟨_, pe_cal0 C hr hj hg hdb, fun F ρ σ G H c Q w => ?_⟩, inert_call0N⟩
  refine ⟨rfl, G, [], [], CS.args (ds := []) c.ex .nil, ?_⟩
  rw [List.nil_append]
  unfold eCall0N at w
  split at w
  · rename_i d ρ' q
    rw [q]
    exact fun l σ' G' H' e' c' fr => w l G' H' e' (c.back0 c') (fr.back0 c)
  · exact w.elim
end

theorem kit_own {K : PySem.W.Frag} {D C : Addr} {b : Bool} (h0 : PySem.W.subIn K (.ref D) (.ref D) = some true) (hd : PySem.W.hasDictIn K C = true) (et : PySem.W.typeIn K (.ref C) = some (.type "type")) (hs : PySem.W.subIn K (.ref D) (.ref C) = some b) : PySem.W.kitOne K (.ref D) (.ref C) = some b := by
  obtain ⟨cd, hc, _⟩ := PySem.W.any_some hd
  unfold PySem.W.kitOne
  by_cases h : (Value.ref D == Value.ref C) = true
  · rw [if_pos h]
    have e : Value.ref D = Value.ref C := eq_of_beq h
    cases e
    rw [h0] at hs
    exact hs
  · rw [if_neg h]
    show (if ((PySem.W.clsIn K C).isSome && PySem.W.typeIn K (.ref C) == some (.type "type")) = true then PySem.W.subIn K (.ref D) (.ref C) else none) = some b
    rw [if_pos (by rw [hc, et]; rfl)]
    exact hs
theorem kit_VE {K : PySem.W.Frag} {D : Addr} {b : Bool} (hs : PySem.W.subIn K (.ref D) (.type "ValueError") = some b) : PySem.W.kitOne K (.ref D) (.type "ValueError") = some b := by
  unfold PySem.W.kitOne
  rw [if_neg (by intro h; cases h)]
  show (if PySem.W.kitMeta "ValueError" = true then PySem.W.subIn K (.ref D) (.type "ValueError") else none) = some b
  rw [if_pos (by decide +kernel)]
  exact hs
end NT

set_option Elab.async false
set_option linter.all false
set_option maxRecDepth 100000
set_option maxHeartbeats 4000000
namespace NT
open PySem L2
/-! ### evaluation by rewriting: each form, applied to its slots -/
class KR (α β : Type) where
  run : α → List Sl → R β
def bnd {α β : Type} (r : R α) [k : KR α β] : R β := match r with
  | .ok a ρ => k.run a ρ
  | .ex c ρ => .ex c ρ
  | .bad => .bad
class KO (α : Type) where
  run : α → List Sl → O
def bndO {α : Type} (r : R α) [k : KO α] : O := match r with
  | .ok a ρ => k.run a ρ
  | .ex c ρ => .ex c ρ
  | .bad => .bad
class KN where
  run : List Sl → O
def nxt (o : O) [k : KN] : O := match o with
  | .nx ρ => k.run ρ
  | o => o
def lft {α : Type} (o : Option α) (ρ : List Sl) : R α := match o with
  | some a => .ok a ρ
  | none => .bad
section
variable {α β : Type} {a : α} {ρ ρ' : List Sl} {c : Nat} {k : KR α β} {ko : KO α} {kn : KN} {d : D}
theorem bnd_ok : bnd (.ok a ρ) (k := k) = k.run a ρ := id rfl
theorem bnd_ex : bnd (.ex c ρ) (k := k) = .ex c ρ := id rfl
theorem bnd_bad : bnd (.bad : R α) (k := k) = .bad := id rfl
theorem bndO_ok : bndO (.ok a ρ) (k := ko) = ko.run a ρ := id rfl
theorem bndO_ex : bndO (.ex c ρ : R α) (k := ko) = .ex c ρ := id rfl
theorem bndO_bad : bndO (.bad : R α) (k := ko) = .bad := id rfl
theorem nxt_nx : nxt (.nx ρ) (k := kn) = kn.run ρ := id rfl
theorem nxt_rt : nxt (.rt d ρ) (k := kn) = .rt d ρ := id rfl
theorem nxt_rtN : nxt (.rtN d ρ) (k := kn) = .rtN d ρ := id rfl
theorem nxt_ex : nxt (.ex c ρ) (k := kn) = .ex c ρ := id rfl
theorem nxt_bad : nxt .bad (k := kn) = .bad := id rfl
theorem lft_some : lft (some a) ρ = .ok a ρ := id rfl
theorem lft_none : lft (none : Option α) ρ = .bad := id rfl
end
section
variable {α β : Type} {m : M α} {km : α → M β} {ρ : List Sl} {f g h : M D} {fa : M (List D)} {t u : M Bool} {sf sg : MS} {i j np ns : Nat} {den : MS} {dds : List D} {op op' : D → D → Option D} {o1 : D → Option D} {oA : List D → Option D} {d : D} {a : α}
theorem mbind_ap : mbind m km ρ = bnd (m ρ) (k := ⟨fun a ρ => km a ρ⟩) := id (by
  first
  | rfl
  | (
      exact by unfold mbind bnd; rfl))
theorem mpure_ap : mpure a ρ = .ok a ρ := id rfl
theorem lift_ap {o : Option α} : lift o ρ = lft o ρ := id (by
  first
  | rfl
  | (
      exact by unfold lift lft; rfl))
theorem eC_ap : eC d ρ = .ok d ρ := id rfl
def rdV (s : Option Sl) (ρ : List Sl) : R D := match s with
  | some (.val d) => .ok d ρ
  | _ => .bad
theorem rdV_val : rdV (some (.val d)) ρ = .ok d ρ := id rfl
theorem eVar_ap : eVar i ρ = rdV ρ[i]? ρ := id (by
  first
  | rfl
  | (
      unfold eVar rdV
      split <;> split <;> simp_all))
theorem eBin_ap : eBin op f g ρ = bnd (f ρ) (k := ⟨fun x ρ => bnd (g ρ) (k := ⟨fun y ρ => lft (op x y) ρ⟩)⟩) := id (by
  first
  | rfl
  | (
      unfold eBin
      rw [mbind_ap]
      congr 1))
theorem eUn_ap : eUn o1 f ρ = bnd (f ρ) (k := ⟨fun x ρ => lft (o1 x) ρ⟩) := id (by
  first
  | rfl
  | (
      unfold eUn
      rw [mbind_ap]
      congr 1))
theorem aNil_ap : aNil ρ = .ok [] ρ := id rfl
theorem aCons_ap : aCons f fa ρ = bnd (f ρ) (k := ⟨fun x ρ => bnd (fa ρ) (k := ⟨fun xs ρ => .ok (x :: xs) ρ⟩)⟩) := id (by
  first
  | rfl
  | (
      unfold aCons
      rw [mbind_ap]
      congr 1))
theorem eFn_ap : eFn oA fa ρ = bnd (fa ρ) (k := ⟨fun xs ρ => lft (oA xs) ρ⟩) := id (by
  first
  | rfl
  | (
      unfold eFn
      rw [mbind_ap]
      congr 1))
def tupO (xs : List D) : Option D := if xs.length ≤ 100000 then some (.tup xs) else none
def lstO (xs : List D) : Option D := if xs.length ≤ 100000 then some (.lst xs) else none
theorem eTup_ap : eTup fa ρ = bnd (fa ρ) (k := ⟨fun xs ρ => lft (tupO xs) ρ⟩) := id (by
  first
  | rfl
  | (
      unfold eTup
      rw [mbind_ap]
      congr 1))
theorem eLst_ap : eLst fa ρ = bnd (fa ρ) (k := ⟨fun xs ρ => lft (lstO xs) ρ⟩) := id (by
  first
  | rfl
  | (
      unfold eLst
      rw [mbind_ap]
      congr 1))
theorem tVal_ap : tVal f ρ = bnd (f ρ) (k := ⟨fun x ρ => lft (asB x) ρ⟩) := id (by
  first
  | rfl
  | (
      unfold tVal
      rw [mbind_ap]
      congr 1))
theorem asB_bl {b : Bool} : asB (.bl b) = some b := id rfl
class KI (α : Type) where
  t : R α
  e : R α
def iteR {α : Type} (b : Bool) [k : KI α] : R α := if b then k.t else k.e
class KJ where
  t : O
  e : O
def iteO (b : Bool) [k : KJ] : O := if b then k.t else k.e
theorem iteR_t {x y : R α} : iteR true (k := ⟨x, y⟩) = x := id rfl
theorem iteR_f {x y : R α} : iteR false (k := ⟨x, y⟩) = y := id rfl
theorem iteO_t {x y : O} : iteO true (k := ⟨x, y⟩) = x := id rfl
theorem iteO_f {x y : O} : iteO false (k := ⟨x, y⟩) = y := id rfl
theorem mAnd_ap : mAnd t u ρ = bnd (t ρ) (k := ⟨fun x ρ => iteR x (k := ⟨(u ρ), (.ok false ρ)⟩)⟩) := id (by
  first
  | rfl
  | (
      unfold mAnd
      rw [mbind_ap]
      congr 1
      congr 1
      funext x ρ
      cases x <;> rfl))
theorem mOr_ap : mOr t u ρ = bnd (t ρ) (k := ⟨fun x ρ => iteR x (k := ⟨(.ok true ρ), (u ρ)⟩)⟩) := id (by
  first
  | rfl
  | (
      unfold mOr
      rw [mbind_ap]
      congr 1
      congr 1
      funext x ρ
      cases x <;> rfl))
theorem mNot_ap : mNot t ρ = bnd (t ρ) (k := ⟨fun x ρ => .ok (!x) ρ⟩) := id (by
  first
  | rfl
  | (
      unfold mNot
      rw [mbind_ap]
      rfl))
theorem eAnd_ap : eAnd f g ρ = bnd (tVal f ρ) (k := ⟨fun x ρ => iteR x (k := ⟨(g ρ), (.ok (.bl false) ρ)⟩)⟩) := id (by
  first
  | rfl
  | (
      unfold eAnd
      rw [mbind_ap]
      congr 1
      congr 1
      funext x ρ
      cases x <;> rfl))
theorem eOr_ap : eOr f g ρ = bnd (tVal f ρ) (k := ⟨fun x ρ => iteR x (k := ⟨(.ok (.bl true) ρ), (g ρ)⟩)⟩) := id (by
  first
  | rfl
  | (
      unfold eOr
      rw [mbind_ap]
      congr 1
      congr 1
      funext x ρ
      cases x <;> rfl))
theorem eNot_ap : eNot f ρ = bnd (tVal f ρ) (k := ⟨fun x ρ => .ok (.bl (!x)) ρ⟩) := id (by
  first
  | rfl
  | (
      unfold eNot
      rw [mbind_ap]
      rfl))
theorem eChain_ap : eChain op op' f g h ρ = bnd (f ρ) (k := ⟨fun x ρ => bnd (g ρ) (k := ⟨fun y ρ => bnd (lft (op x y) ρ) (k := ⟨fun z ρ => bnd (lft (asB z) ρ) (k := ⟨fun k ρ => iteR k (k := ⟨(bnd (h ρ) (k := ⟨fun u ρ => lft (op' y u) ρ⟩)), (.ok (.bl false) ρ)⟩)⟩)⟩)⟩)⟩) := id (by
  first
  | rfl
  | (
      unfold eChain
      rw [mbind_ap]
      congr 1
      congr 1
      funext x ρ
      rw [mbind_ap]
      congr 1
      congr 1
      funext y ρ
      rw [mbind_ap]
      congr 1
      congr 1
      funext z ρ
      rw [mbind_ap]
      congr 1
      congr 1
      funext k ρ
      cases k
      · rfl
      · show mbind h _ ρ = _
        rw [mbind_ap]
        rfl))
def vw (r : R D) (ρ : List Sl) : R D := match r with
  | .ok d _ => iteR (plain d) (k := ⟨(.ok d ρ), .bad⟩)
  | _ => .bad
def vwN (r : R D) (ρ : List Sl) : R D := match r with
  | .ok d _ => iteR (plainO d) (k := ⟨(.ok d ρ), .bad⟩)
  | _ => .bad
def vwT (r : R Bool) (ρ : List Sl) : R Bool := match r with
  | .ok d _ => .ok d ρ
  | _ => .bad
theorem vw_ok {ρ' : List Sl} : vw (.ok d ρ') ρ = iteR (plain d) (k := ⟨(.ok d ρ), .bad⟩) := id rfl
theorem vwN_ok {ρ' : List Sl} : vwN (.ok d ρ') ρ = iteR (plainO d) (k := ⟨(.ok d ρ), .bad⟩) := id rfl
theorem vwT_ok {b : Bool} {ρ' : List Sl} : vwT (.ok b ρ') ρ = .ok b ρ := id rfl
theorem eView_ap : eView f ρ = vw (f (ρ.map viewS)) ρ := id (by
  first
  | rfl
  | (
      unfold eView vw
      cases f (ρ.map viewS) <;> rfl))
theorem eViewN_ap : eViewN f ρ = vwN (f (ρ.map viewS)) ρ := id (by
  first
  | rfl
  | (
      unfold eViewN vwN
      cases f (ρ.map viewS) <;> rfl))
theorem tView_ap : tView t ρ = vwT (t (ρ.map viewS)) ρ := id (by
  first
  | rfl
  | (
      unfold tView vwT
      cases t (ρ.map viewS) <;> rfl))
/-! statements -/
theorem sDo_ap {k : α → MS} : sDo m k ρ = bndO (m ρ) (k := ⟨fun a ρ => k a ρ⟩) := id (by
  first
  | rfl
  | (
      exact by unfold sDo bndO; rfl))
theorem sSeq_ap : sSeq sf sg ρ = nxt (sf ρ) (k := ⟨fun ρ => sg ρ⟩) := id (by
  first
  | rfl
  | (
      unfold sSeq nxt
      cases sf ρ <;> rfl))
theorem sSkip_ap : sSkip ρ = .nx ρ := id rfl
theorem put_ap {s : Sl} : put i s ρ = iteO (notBor ρ[i]?) (k := ⟨(.nx (ρ.set i s)), .bad⟩) := id rfl
theorem sSet_ap : sSet i f ρ = bndO (f ρ) (k := ⟨fun d ρ => iteO (notBor ρ[i]?) (k := ⟨(.nx (ρ.set i (.val d))), .bad⟩)⟩) := id (by
  first
  | rfl
  | (
      unfold sSet
      rw [sDo_ap]
      rfl))
theorem sSetN_ap : sSetN i f ρ = bndO (f ρ) (k := ⟨fun d ρ => iteO (notBor ρ[i]?) (k := ⟨(.nx (ρ.set i (.own d))), .bad⟩)⟩) := id (by
  first
  | rfl
  | (
      unfold sSetN
      rw [sDo_ap]
      rfl))
theorem sRet_ap : sRet f ρ = bndO (f ρ) (k := ⟨fun d ρ => .rt d ρ⟩) := id (by
  first
  | rfl
  | (
      exact by unfold sRet; rw [sDo_ap]))
theorem sRetN_ap : sRetN f ρ = bndO (f ρ) (k := ⟨fun d ρ => .rtN d ρ⟩) := id (by
  first
  | rfl
  | (
      exact by unfold sRetN; rw [sDo_ap]))
theorem sExpr_ap : sExpr f ρ = bndO (f ρ) (k := ⟨fun d ρ => .nx ρ⟩) := id (by
  first
  | rfl
  | (
      exact by unfold sExpr; rw [sDo_ap]; rfl))
theorem sIf_ap : sIf t sf sg ρ = bndO (t ρ) (k := ⟨fun b ρ => iteO b (k := ⟨(sf ρ), (sg ρ)⟩)⟩) := id (by
  first
  | rfl
  | (
      unfold sIf
      rw [sDo_ap]
      congr 1
      congr 1
      funext b ρ
      cases b <;> rfl))
def retO (s : Option Sl) (i : Nat) (ρ : List Sl) : O := match s with
  | some (.own d) => .rtN d (ρ.set i .no)
  | _ => .bad
theorem sRetO_ap : sRetO i ρ = retO ρ[i]? i ρ := id (by
  first
  | rfl
  | (
      unfold sRetO retO
      split <;> split <;> simp_all))
theorem retO_own : retO (some (.own d)) i ρ = .rtN d (ρ.set i .no) := id rfl
theorem sRaise_ap {c : Nat} : sRaise c ρ = .ex c ρ := id rfl
theorem sFor_ap {fi : M (List D)} {mg : MG} : sFor fi mg sf ρ = bndO (fi ρ) (k := ⟨fun ds ρ => loop mg sf ds ρ⟩) := id (by
  first
  | rfl
  | (
      exact by unfold sFor; rw [sDo_ap]))
theorem loop_nil {mg : MG} : loop mg sf [] ρ = .nx ρ := id rfl
def optO (o : Option (List Sl)) [k : KN] : O := match o with
  | some ρ => k.run ρ
  | none => .bad
theorem optO_some {k : KN} : optO (some ρ) (k := k) = k.run ρ := id rfl
theorem loop_cons {mg : MG} {ds : List D} : loop mg sf (d :: ds) ρ = optO (mg d ρ) (k := ⟨fun ρ => nxt (sf ρ) (k := ⟨fun ρ => loop mg sf ds ρ⟩)⟩) := id (by
  first
  | rfl
  | (
      show (match mg d ρ with | none => O.bad | some ρ1 => match sf ρ1 with | .nx ρ2 => loop mg sf ds ρ2 | o => o) = _
      unfold optO nxt
      cases mg d ρ with
      | none => rfl
      | some ρ1 =>
        cases sf ρ1 <;> rfl))
theorem sAsg_ap {mg : MG} : sAsg f mg ρ = bndO (f ρ) (k := ⟨fun d ρ => optO (mg d ρ) (k := ⟨fun ρ => .nx ρ⟩)⟩) := id (by
  first
  | rfl
  | (
      unfold sAsg
      rw [sDo_ap]
      congr 1))
def iteS (b : Bool) (x : List Sl) : Option (List Sl) := if b then some x else none
theorem iteS_t {x : List Sl} : iteS true x = some x := id rfl
theorem gN_ap : gN i d ρ = iteS (notBor ρ[i]?) (ρ.set i (.val d)) := id rfl
theorem gT_ap {ms : MGs} {ds : List D} : gT ms (.tup ds) ρ = ms ds ρ := id rfl
theorem gsNil_ap : gsNil [] ρ = some ρ := id rfl
class KS where
  run : List Sl → Option (List Sl)
def bS (o : Option (List Sl)) [k : KS] : Option (List Sl) := o.bind k.run
theorem bS_some {k : KS} : bS (some ρ) (k := k) = k.run ρ := id rfl
theorem gsCons_ap {mg : MG} {ms : MGs} {ds : List D} : gsCons mg ms (d :: ds) ρ = bS (mg d ρ) (k := ⟨fun ρ => ms ds ρ⟩) := id rfl
theorem notBor_val : notBor (some (.val d)) = true := id rfl
theorem notBor_own : notBor (some (.own d)) = true := id rfl
theorem notBor_no : notBor (some .no) = true := id rfl
/-! owned slots -/
def mineO : Option Sl → Option (Sl × D)
  | some (.own d) => some (.own d, d)
  | some (.bor d) => some (.bor d, d)
  | _ => none
theorem mineOf_ap : mineOf ρ i = mineO ρ[i]? := id (by
  first
  | rfl
  | (
      unfold mineOf mineO
      cases ρ[i]? with
      | none => rfl
      | some s => cases s <;> rfl))
theorem mineO_own : mineO (some (.own d)) = some (.own d, d) := id rfl
theorem mineO_bor : mineO (some (.bor d)) = some (.bor d, d) := id rfl
theorem with_own {e : D} : (Sl.own d).with e = .own e := id rfl
theorem with_bor {e : D} : (Sl.bor d).with e = .bor e := id rfl
class KP (α β : Type) where
  run : α → R β
def optR {α β : Type} (o : Option α) [k : KP α β] : R β := match o with
  | some a => k.run a
  | none => .bad
theorem optR_some {k : KP α β} : optR (some a) (k := k) = k.run a := id rfl
theorem mutAt_ap {mo : D → Option (D × D)} : mutAt i mo ρ = optR (mineO ρ[i]?) (k := ⟨fun p => optR (mo p.2) (k := ⟨fun q => .ok q.1 (ρ.set i (p.1.with q.2))⟩)⟩) := id (by
  first
  | rfl
  | (
      unfold mutAt
      rw [mineOf_ap]
      unfold optR
      cases mineO ρ[i]? with
      | none => rfl
      | some p =>
        obtain ⟨s, d⟩ := p
        dsimp only
        cases mo d with
        | none => rfl
        | some q => rfl))
theorem eMut_ap {ok : D → Bool} {mo : D → List D → Option (D × D)} : eMut ok i mo fa ρ = optR (mineO ρ[i]?) (k := ⟨fun p => iteR (ok p.2) (k := ⟨(bnd (fa ρ) (k := ⟨fun xs ρ => mutAt i (fun d => mo d xs) ρ⟩)), .bad⟩)⟩) := id (by
  first
  | rfl
  | (
      unfold eMut
      rw [mineOf_ap]
      unfold optR
      cases mineO ρ[i]? with
      | none => rfl
      | some p =>
        obtain ⟨s, d⟩ := p
        dsimp only
        rw [mbind_ap]
        cases ok d <;> rfl))
theorem sPutAt_ap {ok : D → Bool} {mo : D → D → D → Option D} : sPutAt ok i mo f g ρ = bndO (g ρ) (k := ⟨fun v ρ => bndO (optR (mineO ρ[i]?) (k := ⟨fun p => iteR (ok p.2) (k := ⟨(bnd (f ρ) (k := ⟨fun k ρ => mutAt i (fun d => (mo d k v).map fun d' => (.non, d')) ρ⟩)), .bad⟩)⟩)) (k := ⟨fun _ ρ => .nx ρ⟩)⟩) := id (by
  first
  | rfl
  | (
      unfold sPutAt
      rw [sDo_ap, mbind_ap]
      cases g ρ with
      | bad => rfl
      | ex c ρ => rfl
      | ok v ρ =>
        show bndO (putAt ok i mo f v ρ) (k := _) = bndO (optR (mineO ρ[i]?) (k := _)) (k := _)
        unfold putAt
        rw [mineOf_ap]
        unfold optR
        cases mineO ρ[i]? with
        | none => rfl
        | some p =>
          obtain ⟨s, d⟩ := p
          dsimp only
          rw [mbind_ap]
          cases ok d <;> rfl))
/-! calls -/
def outE (o : O) (ρ : List Sl) : R D := match o with
  | .rt d _ => .ok d ρ
  | .rtN d _ => .ok d ρ
  | .nx _ => .ok .non ρ
  | .ex c _ => .ex c ρ
  | .bad => .bad
def outN (o : O) (ρ : List Sl) : R D := match o with
  | .rtN d _ => .ok d ρ
  | .ex c _ => .ex c ρ
  | _ => .bad
theorem outE_rt {ρ' : List Sl} : outE (.rt d ρ') ρ = .ok d ρ := id rfl
theorem outE_rtN {ρ' : List Sl} : outE (.rtN d ρ') ρ = .ok d ρ := id rfl
theorem outE_nx {ρ' : List Sl} : outE (.nx ρ') ρ = .ok .non ρ := id rfl
theorem outE_ex {c : Nat} {ρ' : List Sl} : outE (.ex c ρ') ρ = .ex c ρ := id rfl
theorem outN_rtN {ρ' : List Sl} : outN (.rtN d ρ') ρ = .ok d ρ := id rfl
theorem outN_ex {c : Nat} {ρ' : List Sl} : outN (.ex c ρ') ρ = .ex c ρ := id rfl
theorem eCall_ap : eCall np ns den dds fa ρ = bnd (fa ρ) (k := ⟨fun ds ρ => iteR (decide ((ds ++ dds).length = np)) (k := ⟨(outE (den ((ds ++ dds).map .val ++ List.replicate ns .no)) ρ), .bad⟩)⟩) := id (by
  first
  | rfl
  | (
      unfold eCall
      rw [mbind_ap]
      congr 1
      congr 1
      funext ds ρ
      unfold iteR outE
      by_cases h : (ds ++ dds).length = np
      · rw [if_pos h, if_pos (decide_eq_true h)]
        cases den ((ds ++ dds).map .val ++ List.replicate ns .no) <;> rfl
      · rw [if_neg h, if_neg (by simpa using h)]; try rfl))
theorem eCallN_ap : eCallN np ns den dds fa ρ = bnd (fa ρ) (k := ⟨fun ds ρ => iteR (decide ((ds ++ dds).length = np)) (k := ⟨(outN (den ((ds ++ dds).map .val ++ List.replicate ns .no)) ρ), .bad⟩)⟩) := id (by
  first
  | rfl
  | (
      unfold eCallN
      rw [mbind_ap]
      congr 1
      congr 1
      funext ds ρ
      unfold iteR outN
      by_cases h : (ds ++ dds).length = np
      · rw [if_pos h, if_pos (decide_eq_true h)]
        cases den ((ds ++ dds).map .val ++ List.replicate ns .no) <;> rfl
      · rw [if_neg h, if_neg (by simpa using h)]; try rfl))
class KB where
  run : D → R D
def borO (s : Option Sl) [k : KB] : R D := match s with
  | some (.bor d) => k.run d
  | _ => .bad
theorem borO_bor {k : KB} : borO (some (.bor d)) (k := k) = k.run d := id rfl
def outO (o : O) (n j : Nat) (s : Sl) (ρ : List Sl) : R D := match o with
  | .rt d ρ' => borO ρ'[n]? (k := ⟨fun e => .ok d (ρ.set j (s.with e))⟩)
  | .rtN d ρ' => borO ρ'[n]? (k := ⟨fun e => .ok d (ρ.set j (s.with e))⟩)
  | .nx ρ' => borO ρ'[n]? (k := ⟨fun e => .ok .non (ρ.set j (s.with e))⟩)
  | .ex c ρ' => borO ρ'[n]? (k := ⟨fun e => .ex c (ρ.set j (s.with e))⟩)
  | .bad => .bad
def outON (o : O) (n j : Nat) (s : Sl) (ρ : List Sl) : R D := match o with
  | .rtN d ρ' => borO ρ'[n]? (k := ⟨fun e => .ok d (ρ.set j (s.with e))⟩)
  | .ex c ρ' => borO ρ'[n]? (k := ⟨fun e => .ex c (ρ.set j (s.with e))⟩)
  | _ => .bad
theorem outO_rt {n j : Nat} {s : Sl} {ρ' : List Sl} : outO (.rt d ρ') n j s ρ = borO ρ'[n]? (k := ⟨fun e => .ok d (ρ.set j (s.with e))⟩) := id rfl
theorem outO_rtN {n j : Nat} {s : Sl} {ρ' : List Sl} : outO (.rtN d ρ') n j s ρ = borO ρ'[n]? (k := ⟨fun e => .ok d (ρ.set j (s.with e))⟩) := id rfl
theorem outO_nx {n j : Nat} {s : Sl} {ρ' : List Sl} : outO (.nx ρ') n j s ρ = borO ρ'[n]? (k := ⟨fun e => .ok .non (ρ.set j (s.with e))⟩) := id rfl
theorem outO_ex {c n j : Nat} {s : Sl} {ρ' : List Sl} : outO (.ex c ρ') n j s ρ = borO ρ'[n]? (k := ⟨fun e => .ex c (ρ.set j (s.with e))⟩) := id rfl
theorem outON_rtN {n j : Nat} {s : Sl} {ρ' : List Sl} : outON (.rtN d ρ') n j s ρ = borO ρ'[n]? (k := ⟨fun e => .ok d (ρ.set j (s.with e))⟩) := id rfl
theorem outON_ex {c n j : Nat} {s : Sl} {ρ' : List Sl} : outON (.ex c ρ') n j s ρ = borO ρ'[n]? (k := ⟨fun e => .ex c (ρ.set j (s.with e))⟩) := id rfl
theorem after_ap {α : Type} {ρ' : List Sl} {k : Nat} {s : Sl} {r : D} : after ρ ρ' k j s r = borO ρ'[k]? (k := ⟨fun e => .ok r (ρ.set j (s.with e))⟩) := id (by
  first
  | rfl
  | (
      unfold after borO
      split <;> split <;> simp_all))
theorem afterX_ap {ρ' : List Sl} {k c : Nat} {s : Sl} : (afterX ρ ρ' k j s c : R D) = borO ρ'[k]? (k := ⟨fun e => .ex c (ρ.set j (s.with e))⟩) := id (by
  first
  | rfl
  | (
      unfold afterX borO
      split <;> split <;> simp_all))
theorem callO_ap {p : List D × List D} : callO np ns den j p ρ = optR (mineO ρ[j]?) (k := ⟨fun q => iteR (decide (p.1.length + 1 + p.2.length = np)) (k := ⟨(outO (den ((p.1.map .val ++ .bor q.2 :: p.2.map .val) ++ List.replicate ns .no)) p.1.length j q.1 ρ), .bad⟩)⟩) := id (by
  first
  | rfl
  | (
      unfold callO
      rw [mineOf_ap]
      unfold optR
      cases mineO ρ[j]? with
      | none => rfl
      | some q =>
        obtain ⟨s, d⟩ := q
        dsimp only
        unfold iteR
        by_cases h : p.1.length + 1 + p.2.length = np
        · rw [if_pos h, if_pos (decide_eq_true h)]
          unfold outO
          show _ = outO (den ((p.1.map .val ++ .bor d :: p.2.map .val) ++ List.replicate ns .no)) p.1.length j s ρ
          cases den ((p.1.map .val ++ .bor d :: p.2.map .val) ++ List.replicate ns .no) <;> first | rfl | exact after_ap (α := Unit) | exact afterX_ap
        · rw [if_neg h, if_neg (by simpa using h)]; try rfl))
theorem callON_ap {p : List D × List D} : callON np ns den j p ρ = optR (mineO ρ[j]?) (k := ⟨fun q => iteR (decide (p.1.length + 1 + p.2.length = np)) (k := ⟨(outON (den ((p.1.map .val ++ .bor q.2 :: p.2.map .val) ++ List.replicate ns .no)) p.1.length j q.1 ρ), .bad⟩)⟩) := id (by
  first
  | rfl
  | (
      unfold callON
      rw [mineOf_ap]
      unfold optR
      cases mineO ρ[j]? with
      | none => rfl
      | some q =>
        obtain ⟨s, d⟩ := q
        dsimp only
        unfold iteR
        by_cases h : p.1.length + 1 + p.2.length = np
        · rw [if_pos h, if_pos (decide_eq_true h)]
          unfold outON
          show _ = outON (den ((p.1.map .val ++ .bor d :: p.2.map .val) ++ List.replicate ns .no)) p.1.length j s ρ
          cases den ((p.1.map .val ++ .bor d :: p.2.map .val) ++ List.replicate ns .no) <;> first | rfl | exact after_ap (α := Unit) | exact afterX_ap
        · rw [if_neg h, if_neg (by simpa using h)]; try rfl))
theorem eCallO_ap {fo : M (List D × List D)} : eCallO np ns den j fo ρ = optR (mineO ρ[j]?) (k := ⟨fun _ => bnd (fo ρ) (k := ⟨fun p ρ => callO np ns den j p ρ⟩)⟩) := id (by
  first
  | rfl
  | (
      unfold eCallO
      rw [mineOf_ap]
      unfold optR
      cases mineO ρ[j]? with
      | none => rfl
      | some q => exact mbind_ap))
theorem eCallON_ap {fo : M (List D × List D)} : eCallON np ns den j fo ρ = optR (mineO ρ[j]?) (k := ⟨fun _ => bnd (fo ρ) (k := ⟨fun p ρ => callON np ns den j p ρ⟩)⟩) := id (by
  first
  | rfl
  | (
      unfold eCallON
      rw [mineOf_ap]
      unfold optR
      cases mineO ρ[j]? with
      | none => rfl
      | some q => exact mbind_ap))
theorem oHere_ap : oHere fa ρ = bnd (fa ρ) (k := ⟨fun xs ρ => .ok ([], xs) ρ⟩) := id (by
  first
  | rfl
  | (
      unfold oHere
      rw [mbind_ap]
      rfl))
theorem oThere_ap {fo : M (List D × List D)} : oThere f fo ρ = bnd (f ρ) (k := ⟨fun x ρ => bnd (fo ρ) (k := ⟨fun p ρ => .ok (x :: p.1, p.2) ρ⟩)⟩) := id (by
  first
  | rfl
  | (
      unfold oThere
      rw [mbind_ap]
      congr 1))
/-! sources of loops -/
def seqO : D → Option (List D)
  | .lst ds => some ds
  | .tup ds => some ds
  | .scr ns => some (ns.map D.int)
  | _ => none
theorem seqO_lst {ds : List D} : seqO (.lst ds) = some ds := id rfl
theorem seqO_tup {ds : List D} : seqO (.tup ds) = some ds := id rfl
theorem seqO_scr {ns : List Int} : seqO (.scr ns) = some (ns.map D.int) := id rfl
theorem iSeq_ap : iSeq f ρ = bnd (f ρ) (k := ⟨fun d ρ => lft (seqO d) ρ⟩) := id (by
  first
  | rfl
  | (
      unfold iSeq
      rw [mbind_ap]
      congr 1))
def sgnO : D → Option (List D)
  | .str x => some (signs x)
  | _ => none
theorem sgnO_str {x : Str} : sgnO (.str x) = some (signs x) := id rfl
theorem iSign_ap : iSign f ρ = bnd (f ρ) (k := ⟨fun d ρ => lft (sgnO d) ρ⟩) := id (by
  first
  | rfl
  | (
      unfold iSign
      rw [mbind_ap]
      congr 1))
theorem iRange1_ap : iRange1 fa ρ = bnd (fa ρ) (k := ⟨fun ds ρ => lft (rng1 ds) ρ⟩) := id (by
  first
  | rfl
  | (
      unfold iRange1
      rw [mbind_ap]
      congr 1))
theorem iRange2_ap : iRange2 fa ρ = bnd (fa ρ) (k := ⟨fun ds ρ => lft (rng2 ds) ρ⟩) := id (by
  first
  | rfl
  | (
      unfold iRange2
      rw [mbind_ap]
      congr 1))
theorem eComp_ap {fi : M (List D)} {mg : MG} {vs : List Nat} : eComp fi mg t f vs ρ = bnd (fi ρ) (k := ⟨fun ds ρ => bnd (compL mg t f vs ds [] ρ) (k := ⟨fun ys ρ => .ok (.lst ys) ρ⟩)⟩) := id (by
  first
  | rfl
  | (
      unfold eComp
      rw [mbind_ap]
      congr 1))
theorem eSl_ap {os : D → Option Int → Option Int → Option D} {lo hi : M (Option Int)} : eSl os f lo hi ρ = bnd (f ρ) (k := ⟨fun x ρ => bnd (lo ρ) (k := ⟨fun l ρ => bnd (hi ρ) (k := ⟨fun h ρ => lft (os x l h) ρ⟩)⟩)⟩) := id (by
  first
  | rfl
  | (
      unfold eSl
      rw [mbind_ap]
      congr 1))
theorem oNone_ap : oNone ρ = .ok none ρ := id rfl
def intO : D → Option (Option Int)
  | .int i => some (some i)
  | _ => none
theorem intO_int {i : Int} : intO (.int i) = some (some i) := id rfl
theorem oSome_ap : oSome f ρ = bnd (f ρ) (k := ⟨fun d ρ => lft (intO d) ρ⟩) := id (by
  first
  | rfl
  | (
      unfold oSome
      rw [mbind_ap]
      congr 1))
theorem eGet2_ap : eGet2 f g h ρ = bnd (f ρ) (k := ⟨fun d ρ => iteR (isDct d) (k := ⟨(bnd (g ρ) (k := ⟨fun k ρ => bnd (h ρ) (k := ⟨fun x ρ => lft ((opGetD d k).map fun o => o.getD x) ρ⟩)⟩)), .bad⟩)⟩) := id (by
  first
  | rfl
  | (
      unfold eGet2
      rw [mbind_ap]
      congr 1))
end
/-! the operations on data -/
section
variable {i j : Int} {x y : Str} {ds es : List D} {b : Bool} {d : D} {C : Int → Int → Bool} {g : Int → Int → D}
theorem op2_int : op2 g (.int i) (.int j) = some (g i j) := id rfl
theorem op2C_int : op2C C g (.int i) (.int j) = if C i j then some (g i j) else none := id rfl
theorem add_int : opAdd (.int i) (.int j) = some (.int (i + j)) := id rfl
theorem neg_int : opNeg (.int i) = some (.int (-i)) := id rfl
theorem mul_int : opMul (.int i) (.int j) = if mulOk i j then some (.int (i * j)) else none := id rfl
theorem sub_int : opSub (.int i) (.int j) = some (.int (i - j)) := id rfl
theorem lt_int : opLt (.int i) (.int j) = some (.bl (decide (i < j))) := id rfl
theorem le_int : opLe (.int i) (.int j) = some (.bl (decide (i ≤ j))) := id rfl
theorem gt_int : opGt (.int i) (.int j) = some (.bl (decide (j < i))) := id rfl
theorem ge_int : opGe (.int i) (.int j) = some (.bl (decide (j ≤ i))) := id rfl
theorem mod_int : opMod (.int i) (.int j) = if decide (0 < j) then some (.int (i % j)) else none := id rfl
theorem fdiv_int : opFdiv (.int i) (.int j) = if decide (0 < j ∧ j < 1073741824) then some (.int (i / j)) else none := id rfl
theorem len_lst : opLen [.lst ds] = some (.int ds.length) := id rfl
theorem len_tup : opLen [.tup ds] = some (.int ds.length) := id rfl
theorem len_scr {ns : List Int} : opLen [.scr ns] = some (.int ns.length) := id rfl
theorem len_str : opLen [.str x] = if x.length ≤ 100000 then some (.int x.length) else none := id rfl
theorem ix_tup' : opIx (.tup ds) (.int i) = atI ds i := id rfl
theorem ix_lst' : opIx (.lst ds) (.int i) = atI ds i := id rfl
theorem ix_str' : opIx (.str x) (.int i) = if x.length ≤ 100000 then (atI x.cps.toList i).map fun c => .str ⟨#[c]⟩ else none := id rfl
theorem tuple_lst : opTuple [.lst ds] = some (.tup ds) := id rfl
theorem tuple_tup : opTuple [.tup ds] = some (.tup ds) := id rfl
theorem list_lst : opList [.lst ds] = some (.lst ds) := id rfl
theorem list_tup : opList [.tup ds] = some (.lst ds) := id rfl
theorem append_lst : opAppend (.lst ds) [d] = if ds.length ≤ 100000 then some (.non, .lst (ds ++ [d])) else none := id rfl
theorem isLst_lst : isLst (.lst ds) = true := id rfl
theorem isDct_dK {kvs : List (Key × D)} : isDct (.dK kvs) = true := id rfl
theorem isDct_dT {kvs : List (List Key × D)} : isDct (.dT kvs) = true := id rfl
theorem is_bl {a : Bool} : opIs (.bl a) (.bl b) = some (.bl (a == b)) := id rfl
theorem isNot_bl {a : Bool} : opIsNot (.bl a) (.bl b) = some (.bl (!(a == b))) := id rfl
theorem plain_int : plain (.int i) = true := id rfl
theorem plain_str : plain (.str x) = true := id rfl
theorem plain_bl : plain (.bl b) = true := id rfl
theorem plain_non : plain .non = true := id rfl
theorem plain_tup : plain (.tup ds) = plainL ds := id (by
  first
  | rfl
  | (
      exact by simp [plain]))
theorem plainL_nil : plainL [] = true := id (by
  first
  | rfl
  | (
      exact by simp [plainL]))
theorem plainL_cons : plainL (d :: ds) = (plain d && plainL ds) := id (by
  first
  | rfl
  | (
      exact by simp [plainL]))
theorem int_bl : opInt [.bl b] = some (.int (if b then 1 else 0)) := id rfl
theorem int_int : opInt [.int i] = some (.int i) := id rfl
theorem viewS_val : viewS (.val d) = .val d := id rfl
theorem viewS_own : viewS (.own d) = .val d := id rfl
theorem viewS_bor : viewS (.bor d) = .val d := id rfl
theorem viewS_no : viewS .no = .no := id rfl
theorem atI_0 : atI (d :: ds) 0 = some d := by
  exact atI_nat (j := 0) rfl
theorem atI_1 {e : D} : atI (d :: e :: ds) 1 = some e := atI_nat (j := 1) rfl
theorem atI_2 {e f : D} : atI (d :: e :: f :: ds) 2 = some f := atI_nat (j := 2) rfl
theorem atI_3 {e f h : D} : atI (d :: e :: f :: h :: ds) 3 = some h := atI_nat (j := 3) rfl
theorem rng1_int (h : -(2 ^ 62) ≤ j ∧ j < 2 ^ 62) : rng1 [.int j] = some ((List.range j.toNat).map fun k => D.int (k : Nat)) := by
  show (if _ then _ else _) = _
  rw [if_pos h]
end
end NT

set_option Elab.async false
set_option linter.all false
set_option maxRecDepth 100000
set_option maxHeartbeats 4000000
namespace NT
open PySem L2
/-! calls -/
theorem call_rt {np ns : Nat} {den : MS} {dds : List D} {fa : M (List D)} {ρ ρ1 ρ' : List Sl} {ds : List D} {r : D} (ha : fa ρ = .ok ds ρ1) (hl : (ds ++ dds).length = np) (h : den ((ds ++ dds).map .val ++ List.replicate ns .no) = .rt r ρ') : eCall np ns den dds fa ρ = .ok r ρ1 := by
  unfold eCall mbind
  rw [ha]
  simp only [hl, if_true, h]
theorem call_rtN {np ns : Nat} {den : MS} {dds : List D} {fa : M (List D)} {ρ ρ1 ρ' : List Sl} {ds : List D} {r : D} (ha : fa ρ = .ok ds ρ1) (hl : (ds ++ dds).length = np) (h : den ((ds ++ dds).map .val ++ List.replicate ns .no) = .rtN r ρ') : eCall np ns den dds fa ρ = .ok r ρ1 := by
  unfold eCall mbind
  rw [ha]
  simp only [hl, if_true, h]
theorem callN_rtN {np ns : Nat} {den : MS} {dds : List D} {fa : M (List D)} {ρ ρ1 ρ' : List Sl} {ds : List D} {r : D} (ha : fa ρ = .ok ds ρ1) (hl : (ds ++ dds).length = np) (h : den ((ds ++ dds).map .val ++ List.replicate ns .no) = .rtN r ρ') : eCallN np ns den dds fa ρ = .ok r ρ1 := by
  unfold eCallN mbind
  rw [ha]
  simp only [hl, if_true, h]
theorem bind_ok {α β : Type} {m : M α} {k : α → M β} {ρ ρ1 : List Sl} {a : α} (h : m ρ = .ok a ρ1) : mbind m k ρ = k a ρ1 := by
  unfold mbind
  rw [h]
theorem do_ok {α : Type} {m : M α} {k : α → MS} {ρ ρ1 : List Sl} {a : α} (h : m ρ = .ok a ρ1) : sDo m k ρ = k a ρ1 := by
  unfold sDo
  rw [h]
theorem seq_nx {f g : MS} {ρ ρ1 : List Sl} (h : f ρ = .nx ρ1) : sSeq f g ρ = g ρ1 := by
  unfold sSeq
  rw [h]
theorem seq_rt {f g : MS} {ρ ρ1 : List Sl} {d : D} (h : f ρ = .rt d ρ1) : sSeq f g ρ = .rt d ρ1 := by
  unfold sSeq
  rw [h]
theorem seq_ex {f g : MS} {ρ ρ1 : List Sl} {c : Nat} (h : f ρ = .ex c ρ1) : sSeq f g ρ = .ex c ρ1 := by
  unfold sSeq
  rw [h]
theorem if_ok {c : M Bool} {f g : MS} {ρ ρ1 : List Sl} {b : Bool} (h : c ρ = .ok b ρ1) : sIf c f g ρ = if b then f ρ1 else g ρ1 := by
  unfold sIf sDo
  rw [h]
  cases b <;> rfl
theorem ret_ok {f : M D} {ρ ρ1 : List Sl} {d : D} (h : f ρ = .ok d ρ1) : sRet f ρ = .rt d ρ1 := by
  unfold sRet sDo
  rw [h]
theorem retN_ok {f : M D} {ρ ρ1 : List Sl} {d : D} (h : f ρ = .ok d ρ1) : sRetN f ρ = .rtN d ρ1 := by
  unfold sRetN sDo
  rw [h]
theorem tval_ok {f : M D} {ρ ρ1 : List Sl} {b : Bool} (h : f ρ = .ok (.bl b) ρ1) : tVal f ρ = .ok b ρ1 := by
  unfold tVal mbind
  rw [h]
  rfl
theorem mor_ok {a b : M Bool} {ρ ρ1 ρ2 : List Sl} {x y : Bool} (h : a ρ = .ok x ρ1) (h2 : x = false → b ρ1 = .ok y ρ1) : mOr a b ρ = .ok (x || y) ρ1 := by
  unfold mOr
  rw [bind_ok h]
  cases x with
  | true => rfl
  | false => exact h2 rfl
theorem mand_ok {a b : M Bool} {ρ ρ1 : List Sl} {x y : Bool} (h : a ρ = .ok x ρ1) (h2 : x = true → b ρ1 = .ok y ρ1) : mAnd a b ρ = .ok (x && y) ρ1 := by
  unfold mAnd
  rw [bind_ok h]
  cases x with
  | false => rfl
  | true => exact h2 rfl
theorem mnot_ok {a : M Bool} {ρ ρ1 : List Sl} {x : Bool} (h : a ρ = .ok x ρ1) : mNot a ρ = .ok (!x) ρ1 := by
  unfold mNot
  rw [bind_ok h]
  rfl
theorem bin_ok {op : D → D → Option D} {a b : M D} {ρ ρ1 ρ2 : List Sl} {x y z : D} (h : a ρ = .ok x ρ1) (h2 : b ρ1 = .ok y ρ2) (h3 : op x y = some z) : eBin op a b ρ = .ok z ρ2 := by
  unfold eBin
  rw [bind_ok h, bind_ok h2, h3]
  rfl
theorem fn_ok {op : List D → Option D} {fa : M (List D)} {ρ ρ1 : List Sl} {xs : List D} {z : D} (h : fa ρ = .ok xs ρ1) (h3 : op xs = some z) : eFn op fa ρ = .ok z ρ1 := by
  unfold eFn
  rw [bind_ok h, h3]
  rfl
theorem acons_ok {a : M D} {r : M (List D)} {ρ ρ1 ρ2 : List Sl} {x : D} {xs : List D} (h : a ρ = .ok x ρ1) (h2 : r ρ1 = .ok xs ρ2) : aCons a r ρ = .ok (x :: xs) ρ2 := by
  unfold aCons
  rw [bind_ok h, bind_ok h2]
  rfl
theorem set_self_at {ρ : List Sl} {i : Nat} {s : Sl} (h : ρ[i]? = some s) : ρ.set i s = ρ := by
  obtain ⟨hl, e⟩ := List.getElem?_eq_some_iff.mp h
  rw [← e]
  exact List.set_getElem_self hl
/-- a loop that looks at each item, and leaves with False where one is not as wanted -/
theorem loop_look {i : Nat} {b : MS} {P : D → Bool} : ∀ {items : List D} {ρ : List Sl}, notBor ρ[i]? = true → (∀ d ∈ items, P d = true → b (ρ.set i (.val d)) = .nx (ρ.set i (.val d))) → (∀ d ∈ items, P d = false → ∃ ρ', b (ρ.set i (.val d)) = .rt (.bl false) ρ') →
    (items.all P = true → ∃ s, notBor (some s) = true ∧ loop (gN i) b items ρ = .nx (ρ.set i s)) ∧ (items.all P = false → ∃ ρ', loop (gN i) b items ρ = .rt (.bl false) ρ')
  | [], ρ, hb, _, _ => by
    refine ⟨fun _ => ?_, fun h => by cases h⟩
    obtain ⟨t, e, nb⟩ := notBor_some hb
    refine ⟨t, by rw [← e]; exact hb, ?_⟩
    rw [set_self_at e]
    rfl
  | d :: ds, ρ, hb, ht, hf => by
    obtain ⟨t, e, nb⟩ := notBor_some hb
    have hl : i < ρ.length := (List.getElem?_eq_some_iff.mp e).1
    have hm : gN i d ρ = some (ρ.set i (.val d)) := by
      unfold gN
      rw [if_pos hb]
    have hb2 : notBor (ρ.set i (.val d))[i]? = true := by
      rw [List.getElem?_set_self hl]
      rfl
    cases hp : P d with
    | true =>
      have e1 : loop (gN i) b (d :: ds) ρ = loop (gN i) b ds (ρ.set i (.val d)) := by
        show (match gN i d ρ with | none => O.bad | some ρ1 => match b ρ1 with | .nx ρ2 => loop (gN i) b ds ρ2 | o => o) = _
        rw [hm]
        dsimp only
        rw [ht d List.mem_cons_self hp]
      have ih := loop_look (b := b) (P := P) (items := ds) (ρ := ρ.set i (.val d)) hb2 (fun x hx q => by rw [List.set_set]; exact ht x (List.mem_cons_of_mem _ hx) q) (fun x hx q => by rw [List.set_set]; exact hf x (List.mem_cons_of_mem _ hx) q)
      rw [e1, List.all_cons, hp, Bool.true_and]
      refine ⟨fun q => ?_, ih.2⟩
      obtain ⟨s, h1, h2⟩ := ih.1 q
      exact ⟨s, h1, by rw [h2, List.set_set]⟩
    | false =>
      refine ⟨fun q => (by rw [List.all_cons, hp, Bool.false_and] at q; cases q), fun _ => ?_⟩
      obtain ⟨ρ', h⟩ := hf d List.mem_cons_self hp
      refine ⟨ρ', ?_⟩
      show (match gN i d ρ with | none => O.bad | some ρ1 => match b ρ1 with | .nx ρ2 => loop (gN i) b ds ρ2 | o => o) = _
      rw [hm]
      dsimp only
      rw [h]
/-- [e for x in items], nothing else changed -/
theorem comp_map {i : Nat} {e : M D} {f : D → D} : ∀ {items acc : List D} {ρ : List Sl}, isFree ρ[i]? = true → acc.length + items.length ≤ 100000 → (∀ d ∈ items, e ((ρ.set i .no).set i (.val d)) = .ok (f d) (ρ.set i (.val d))) →
    compL (gN i) (mpure true) e [i] items acc ρ = .ok (acc ++ items.map f) ρ
  | [], acc, ρ, _, _, _ => by
    show R.ok acc ρ = _
    rw [List.map_nil, List.append_nil]
  | d :: ds, acc, ρ, hf, hl, he => by
    obtain ⟨s, hs⟩ : ∃ s, ρ[i]? = some s := by
      cases q : ρ[i]? with
      | none => rw [q] at hf; cases hf
      | some s => exact ⟨s, rfl⟩
    have hlt : i < ρ.length := (List.getElem?_eq_some_iff.mp hs).1
    have hall : (([i] : List Nat).all fun v => isFree ρ[v]?) = true := by simp [hf]
    unfold compL
    rw [if_pos hall]
    have hm : gN i d (wipeS ρ [i]) = some ((ρ.set i .no).set i (.val d)) := by
      show (if notBor (ρ.set i Sl.no)[i]? = true then _ else _) = _
      rw [List.getElem?_set_self hlt]
      rfl
    rw [hm]
    dsimp only [mpure]
    rw [he d List.mem_cons_self]
    dsimp only
    rw [List.length_cons] at hl
    rw [if_pos (by omega)]
    have hb : backS ρ (ρ.set i (.val d)) [i] = ρ := by
      show (ρ.set i (.val d)).set i (ρ.getD i .no) = ρ
      rw [List.set_set, List.getD_eq_getElem?_getD, hs]
      exact set_self_at hs
    rw [hb, comp_map hf (by rw [List.length_append, List.length_singleton]; omega) fun x hx => he x (List.mem_cons_of_mem _ hx)]
    rw [List.append_assoc]
    rfl


/-- a loop with an invariant over what is still to come -/
theorem loop_ind {mg : MG} {b : MS} {I : List D → List Sl → Prop} (hs : ∀ d ds ρ, I (d :: ds) ρ → ∃ ρ1 ρ2, mg d ρ = some ρ1 ∧ b ρ1 = .nx ρ2 ∧ I ds ρ2) : ∀ {items : List D} {ρ : List Sl}, I items ρ → ∃ ρ', loop mg b items ρ = .nx ρ' ∧ I [] ρ'
  | [], ρ, h => ⟨ρ, rfl, h⟩
  | d :: ds, ρ, h => by
    obtain ⟨ρ1, ρ2, h1, h2, h3⟩ := hs d ds ρ h
    obtain ⟨ρ', h4, h5⟩ := loop_ind hs h3
    refine ⟨ρ', ?_, h5⟩
    rw [loop_cons, h1, optO_some]
    show nxt (b ρ1) (k := _) = _
    rw [h2, nxt_nx]
    exact h4
def rtv : O → Option D
  | .rt d _ => some d
  | _ => none
def rtvN : O → Option D
  | .rtN d _ => some d
  | _ => none
theorem rtv_rt {d : D} {ρ : List Sl} : rtv (.rt d ρ) = some d := rfl
theorem rtvN_rtN {d : D} {ρ : List Sl} : rtvN (.rtN d ρ) = some d := rfl
theorem of_rtv {o : O} {d : D} (h : rtv o = some d) : ∃ ρ', o = .rt d ρ' := by
  cases o <;> first | cases h; exact ⟨_, rfl⟩ | cases h
theorem of_rtvN {o : O} {d : D} (h : rtvN o = some d) : ∃ ρ', o = .rtN d ρ' := by
  cases o <;> first | cases h; exact ⟨_, rfl⟩ | cases h
theorem eq_int {i j : Int} : opEq (.int i) (.int j) = some (.bl (i == j)) := id rfl
theorem ne_int {i j : Int} : opNe (.int i) (.int j) = some (.bl (!(i == j))) := id rfl
theorem ne_bl {i j : Bool} : opNe (.bl i) (.bl j) = some (.bl (!(i == j))) := id rfl
theorem eq_bl {i j : Bool} : opEq (.bl i) (.bl j) = some (.bl (i == j)) := id rfl
theorem sl_tup {ds : List D} {lo hi : Option Int} : opSl (.tup ds) lo hi = some (.tup (cutL ds lo hi)) := id rfl
theorem cut_to {α : Type} {xs : List α} {i : Int} (h : 0 ≤ i) : cutL xs none (some i) = xs.take i.toNat := by
  unfold cutL
  rw [HT.sIx_none, show HT.sIx xs.length xs.length (some i) = min i.toNat xs.length from if_neg (by omega), List.drop_zero, Nat.sub_zero, List.take_eq_take_iff]
  omega
theorem cut_from {α : Type} {xs : List α} {i : Int} (h : 0 ≤ i) : cutL xs (some i) none = xs.drop i.toNat := by
  unfold cutL
  rw [HT.sIx_none, show HT.sIx xs.length 0 (some i) = min i.toNat xs.length from if_neg (by omega)]
  by_cases hl : i.toNat ≤ xs.length
  · rw [Nat.min_eq_left hl, List.take_of_length_le (by rw [List.length_drop]; exact Nat.le_refl _)]
  · rw [Nat.min_eq_right (by omega), List.drop_of_length_le (Nat.le_refl _), List.take_nil, List.drop_of_length_le (by omega)]
theorem if_t {α : Sort _} {p : Prop} [Decidable p] {x y : α} (h : p) : (if p then x else y) = x := if_pos h
theorem atI_some {α : Type} {xs : List α} {i : Int} {v : α} (h0 : 0 ≤ i) (h : xs[i.toNat]? = some v) : atI xs i = some v := by
  have e := atI_nat h
  rwa [Int.toNat_of_nonneg h0] at e
end NT

set_option Elab.async false
set_option linter.all false
set_option maxRecDepth 100000
set_option maxHeartbeats 4000000
namespace NT
open PySem L2
/-! the law as its caller sees it -/
def spLaw (K : PySem.W.Frag) : Sp := fun vs H Q _ => ∃ (a : Addr) (ns : List Int), vs = [.ref a] ∧ SqL K H a (ns.map V.int) ∧ ns.length ≤ 63 ∧ ∀ H', Q (.bl true) H'
theorem law_sp {K : PySem.W.Frag} {cls : Nat → Value} {n : Nat} {den : MS} (hd : ∀ ns : List Int, ns.length ≤ 63 → ∃ ρ', den (.val (.scr ns) :: List.replicate n .no) = .rt (.bl true) ρ') : ∀ vs H Q E, spLaw K vs H Q E → spD K cls 1 n den vs H Q E := by
  rintro vs H Q E ⟨a, ns, rfl, hS, hl, hq⟩
  obtain ⟨ρ', e⟩ := hd ns hl
  refine ⟨rfl, H, [], [.val (.scr ns)], CS.args (ds := [.scr ns]) (Same.refl _) (.cons (.scr hS) .nil), ?_⟩
  show PO K cls _ _ _ _ (den (.val (.scr ns) :: List.replicate n .no))
  rw [e]
  intro v σ' G' H' _ c r
  cases r
  exact hq H'
end NT

set_option Elab.async false
set_option linter.all false
set_option maxRecDepth 100000
set_option maxHeartbeats 4000000
namespace NT
open PySem L2

/-! ### while -/
def wloop (t : M Bool) (b : MS) : Nat → MS
  | 0 => fun _ => .bad
  | n + 1 => fun ρ => match t ρ with
    | .ok true ρ1 => match b ρ1 with
      | .nx ρ2 => wloop t b n ρ2
      | o => o
    | .ok false ρ1 => .nx ρ1
    | .ex c ρ1 => .ex c ρ1
    | .bad => .bad
def fuel : Nat := 1000000
def sWhile (n : Nat) (t : M Bool) (b : MS) : MS := wloop t b n
section
variable {X : Cx} {cls : Nat → Value} {W : WX} {e a b : Expr} {es : List Expr} {f g : M D} {tf : M Bool} {pos : Pos} {sf sg : MS} {st : Stmt} {sts : List Stmt}
theorem sim_while {K : PySem.W.Frag} {tc : TT} {tb : TS} {n : Nat} (hc : SimT K cls W tc tf) (hb : SimS K cls W tb sf) : SimS K cls W (tWhile tc tb) (sWhile n tf sf) := fun F ρ σ G H c E w => by
  refine ⟨fun m σ2 H2 => ∃ ρ2 G2, Ex G G2 ∧ CS K F G2 H2 σ2 ρ2 ∧ PO K cls W F G E (wloop tf sf m ρ2), ⟨n, ρ, G, Same.refl G, c, w⟩, ?_⟩
  rintro m σ2 H2 ⟨ρ2, G2, e2, c2, p⟩
  cases m with
  | zero => exact p.elim
  | succ m =>
    unfold wloop at p
    refine hc F ρ2 σ2 G2 H2 c2 _ ?_
    cases q : tf ρ2 with
    | bad => rw [q] at p; exact p.elim
    | ex c ρ' =>
      rw [q] at p
      exact fun G' H' e' c' => p σ2 G' H' (e2.trans e') c'
    | ok v ρ3 =>
      rw [q] at p
      intro G3 H3 e3 c3
      cases v with
      | false => exact p σ2 G3 H3 (e2.trans e3) c3
      | true =>
        have p : PO K cls W F G E (match sf ρ3 with
          | O.nx ρ2 => wloop tf sf m ρ2
          | o => o) := p
        refine ⟨fun σ4 H4 => ∃ ρ4 G4, Ex G G4 ∧ CS K F G4 H4 σ4 ρ4 ∧ PO K cls W F G E (wloop tf sf m ρ4), fun σ4 H4 h => ⟨m, Nat.lt_succ_self m, h⟩, ?_⟩
        refine hb F ρ3 σ2 G3 H3 c3 _ ?_
        cases hq : sf ρ3 with
        | nx ρ4 =>
          rw [hq] at p
          exact fun σ5 G5 H5 e5 c5 => ⟨ρ4, G5, (e2.trans e3).trans e5, c5, p⟩
        | rt d ρ' => rw [hq] at p; exact PO.mono (E := E) (e2.trans e3) (o := .rt d ρ') p
        | rtN d ρ' => rw [hq] at p; exact PO.mono (E := E) (e2.trans e3) (o := .rtN d ρ') p
        | ex c ρ' => rw [hq] at p; exact PO.mono (E := E) (e2.trans e3) (o := .ex c ρ') p
        | bad => rw [hq] at p; exact p.elim
theorem q_while {c : Expr} {body : List Stmt} (n : Nat) (hp : ∀ tc tb, PT X c tc → PSs X body tb → PS X st (tWhile tc tb)) (hc : QT X cls W c tf) (hb : QB X cls W body sf) : QS X cls W st (sWhile n tf sf) := by
  obtain ⟨⟨t, p, s⟩, _⟩ := hc
  obtain ⟨⟨tb, pb, sb⟩⟩ := hb
  exact ⟨⟨_, hp t tb p pb, sim_while s sb⟩⟩
end

/-! ### xs.pop(i) -/
theorem RepL.eraseIdx {K : PySem.W.Frag} {G : Hp} : ∀ {v : List V} {d : List D} (i : Nat), RepL K G v d → RepL K G (v.eraseIdx i) (d.eraseIdx i)
  | _, _, _, .nil => .nil
  | _, _, 0, .cons _ r => r
  | _, _, i + 1, .cons h r => .cons h (RepL.eraseIdx i r)
def opPopAt : D → List D → Option (D × D)
  | .lst ds, [.int i] => if -(2 ^ 63) ≤ i ∧ i < 2 ^ 63 then match seqIndex? i ds.length with
    | some k => match ds[k]? with
      | some y => some (y, .lst (ds.eraseIdx k))
      | none => none
    | none => none
    else none
  | _, _ => none
theorem mut_popAt {K : PySem.W.Frag} : Mut1 K "list" rPopAt opPopAt := fun G H l d vs xs z d' ho rv ex h Q q => by
  unfold opPopAt at h
  split at h
  · rename_i ds i
    split at h
    · rename_i hi
      split at h
      · rename_i k hk
        split at h
        · rename_i y e
          cases h
          obtain ⟨ys, eh, r⟩ := ho
          obtain ⟨u, hu, ru⟩ := r.get e
          cases rv with
          | cons r1 r2 =>
            cases r2
            cases r1
            exact ⟨l, ys, i, k, u, rfl, rfl, eh, hi.1, hi.2, by rw [r.length]; exact hk, hu, q _ _ ru ⟨_, upd_same, r.eraseIdx k⟩⟩
        · cases h
      · cases h
    · cases h
  · cases h

/-! ### a dict locked and let go -/
theorem ext_upd {K : PySem.W.Frag} {G : Hp} {a : Addr} {x y : HO} (hG : G a = some x) (ht : ∀ xs, x ≠ .tup xs) (hl : ∀ xs, x ≠ .lst xs) (hf : ∀ o xs, x ≠ .frz o (.lst xs)) (hft : ∀ o xs, x ≠ .frz o (.tup xs)) (hi : ∀ C dx xs, x ≠ .ins C dx xs)
    (hk : ∀ kvs, (x = .dK kvs ∨ ∃ o, x = .frz o (.dK kvs)) → (y = .dK kvs ∨ ∃ o, y = .frz o (.dK kvs))) (hT : ∀ kvs, (x = .dT kvs ∨ ∃ o, x = .frz o (.dT kvs)) → (y = .dT kvs ∨ ∃ o, y = .frz o (.dT kvs))) : Ext K G (upd G a y) := by
  refine ⟨fun b xs h => ?_, fun b o xs h => ?_, fun b C dx xs h => ?_, fun b xs h => ?_, fun b xs h => ?_, fun b xs h => ?_, fun b xs h => ?_⟩
  · rw [upd_ne (fun z => by rw [z, hG] at h; cases h; exact ht _ rfl)]; exact h
  · rw [upd_ne (fun z => by rw [z, hG] at h; cases h; exact hft _ _ rfl)]; exact h
  · rw [upd_ne (fun z => by rw [z, hG] at h; cases h; exact hi _ _ _ rfl)]; exact h
  · rw [upd_ne (fun z => by rw [z, hG] at h; cases h; exact hl _ rfl)]; exact h
  · rcases h with h | h
    · refine .inl ?_
      have ne : b ≠ a := fun z => by
        subst z
        rcases h with h | ⟨o, h⟩ <;> rw [hG] at h <;> cases h
        · exact hl _ rfl
        · exact hf _ _ rfl
      rcases h with h | ⟨o, h⟩
      · exact .inl (by rw [upd_ne ne]; exact h)
      · exact .inr ⟨o, by rw [upd_ne ne]; exact h⟩
    · exact .inr h
  · by_cases z : b = a
    · subst z
      have h2 : x = .dK xs ∨ ∃ o, x = .frz o (.dK xs) := by
        rcases h with h | ⟨o, h⟩ <;> rw [hG] at h <;> cases h
        · exact .inl rfl
        · exact .inr ⟨o, rfl⟩
      rcases hk xs h2 with h | ⟨o, h⟩
      · exact .inl (by rw [upd_same, h])
      · exact .inr ⟨o, by rw [upd_same, h]⟩
    · rcases h with h | ⟨o, h⟩
      · exact .inl (by rw [upd_ne z]; exact h)
      · exact .inr ⟨o, by rw [upd_ne z]; exact h⟩
  · by_cases z : b = a
    · subst z
      have h2 : x = .dT xs ∨ ∃ o, x = .frz o (.dT xs) := by
        rcases h with h | ⟨o, h⟩ <;> rw [hG] at h <;> cases h
        · exact .inl rfl
        · exact .inr ⟨o, rfl⟩
      rcases hT xs h2 with h | ⟨o, h⟩
      · exact .inl (by rw [upd_same, h])
      · exact .inr ⟨o, by rw [upd_same, h]⟩
    · rcases h with h | ⟨o, h⟩
      · exact .inl (by rw [upd_ne z]; exact h)
      · exact .inr ⟨o, by rw [upd_ne z]; exact h⟩
theorem ext_lock {K : PySem.W.Frag} {G : Hp} {a : Addr} {kvs : List (Key × V)} {o : PySem.Obj} (hG : G a = some (.dK kvs)) : Ext K G (upd G a (.frz o (.dK kvs))) :=
  ext_upd hG (fun _ z => by cases z) (fun _ z => by cases z) (fun _ _ z => by cases z) (fun _ _ z => by cases z) (fun _ _ _ z => by cases z) (fun k h => by
    rcases h with h | ⟨o, h⟩ <;> cases h
    exact .inr ⟨_, rfl⟩) (fun k h => by rcases h with h | ⟨o, h⟩ <;> cases h)
theorem ext_unlock {K : PySem.W.Frag} {G : Hp} {a : Addr} {kvs : List (Key × V)} {o : PySem.Obj} (hG : G a = some (.frz o (.dK kvs))) : Ext K G (upd G a (.dK kvs)) :=
  ext_upd hG (fun _ z => by cases z) (fun _ z => by cases z) (fun _ _ z => by cases z) (fun _ _ z => by cases z) (fun _ _ _ z => by cases z) (fun k h => by
    rcases h with h | ⟨o, h⟩ <;> cases h
    exact .inl rfl) (fun k h => by rcases h with h | ⟨o, h⟩ <;> cases h)
def relk (H : Hp) (a : Addr) (w : HO) : Hp := match H a with
  | none => H
  | some _ => upd H a w
theorem relk_ne {H : Hp} {a b : Addr} {w : HO} (h : b ≠ a) : relk H a w b = H b := by
  unfold relk
  cases H a with
  | none => rfl
  | some o => exact upd_ne h
theorem relk_none {H : Hp} {a : Addr} {w : HO} (h : H a = none) : relk H a w a = none := by
  unfold relk
  rw [h]
  exact h
theorem relk_some {H : Hp} {a : Addr} {w o : HO} (h : H a = some o) : relk H a w a = some w := by
  unfold relk
  rw [h]
  exact upd_same
def Fm.lock (F : Fm) (a : Addr) (w : HO) : Fm := ⟨relk F.H0 a w, relk F.G0 a w, F.B⟩
section
variable {K : PySem.W.Frag} {F F' : Fm} {G H G' H' : Hp} {σ σ' : St} {ρ ρ' : List Sl} {cls : Nat → Value} {W : WX}
theorem CS.swap (c : CS K F G H σ ρ) {a : Addr} {x y : HO} (hG : G a = some x) (E : Ext K G (upd G a y)) (hB : F'.B = F.B) (h0 : ∀ b, b ≠ a → F'.H0 b = F.H0 b) (h1 : ∀ b, b ≠ a → F'.G0 b = F.G0 b)
    (k0 : (F'.H0 a = none ∧ F.H0 a = none) ∨ (F'.H0 a = some y ∧ F.H0 a ≠ none)) (k1 : (F'.G0 a = none ∧ F.G0 a = none) ∨ (F'.G0 a = some y ∧ F.G0 a ≠ none)) : CS K F' (upd G a y) (upd H a y) σ ρ := by
  have keep : ∀ {l : Addr} {d : D}, Obj K G H l d → G l = none → Obj K (upd G a y) (upd H a y) l d ∧ (upd G a y) l = none ∧ l ≠ a := fun {l d} ho hl => by
    have ne : l ≠ a := fun z => by rw [z, hG] at hl; cases hl
    exact ⟨ho.mono E (upd_ne ne), by rw [upd_ne ne]; exact hl, ne⟩
  refine ⟨fun b o e => ?_, fun b o e => ?_, fun b o e hb => ?_, fun b e1 e2 => ?_, c.len, fun i d e => ?_, fun i d e => ?_, fun i d e => ?_, fun i l e => ?_, c.sep⟩
  · by_cases z : b = a
    · subst z; rw [upd_same] at e ⊢; exact e
    · rw [upd_ne z] at e ⊢; exact c.ex _ _ e
  · by_cases z : b = a
    · subst z
      rcases k1 with ⟨q, _⟩ | ⟨q, _⟩
      · rw [q] at e; cases e
      · rw [q] at e; rw [upd_same]; exact e
    · rw [h1 b z] at e; rw [upd_ne z]; exact c.g0 _ _ e
  · by_cases z : b = a
    · subst z
      rcases k0 with ⟨q, _⟩ | ⟨q, _⟩
      · rw [q] at e; cases e
      · rw [q] at e; rw [upd_same]; exact e
    · rw [h0 b z] at e; rw [upd_ne z]; exact c.fr b o e fun i => by rw [← hB]; exact hb i
  · by_cases z : b = a
    · subst z
      rcases k1 with ⟨_, q⟩ | ⟨q, _⟩
      · have w := c.gn b q (by rw [hG]; exact fun z => by cases z)
        rcases k0 with ⟨r, _⟩ | ⟨_, r⟩
        · exact r
        · exact (r w).elim
      · rw [q] at e1; cases e1
    · rw [h1 b z] at e1; rw [upd_ne z] at e2; rw [h0 b z]; exact c.gn b e1 e2
  · obtain ⟨v, p, q⟩ := c.vals i d e
    exact ⟨v, p, q.ext E⟩
  · obtain ⟨l, p, q, r, s⟩ := c.owns i d e
    obtain ⟨t1, t2, t3⟩ := keep q r
    exact ⟨l, p, t1, t2, by rw [h0 l t3]; exact s⟩
  · obtain ⟨l, p, q, r, s⟩ := c.bors i d e
    obtain ⟨t1, t2, t3⟩ := keep q r
    exact ⟨l, p, t1, t2, by rw [hB]; exact s⟩
  · rw [hB] at e
    exact c.bb i l e
theorem CS.notB (c : CS K F G H σ ρ) {a : Addr} {x : HO} (hG : G a = some x) : ∀ i, (i, a) ∉ F.B := fun i h => by
  obtain ⟨d, h1, h2⟩ := c.bb i a h
  obtain ⟨l, q1, _, q2, _⟩ := c.bors i d h1
  rw [h2] at q1
  cases q1
  rw [hG] at q2
  cases q2
theorem CS.lock (c : CS K F G H σ ρ) {a : Addr} {kvs : List (Key × V)} (o : PySem.Obj) (hG : G a = some (.dK kvs)) : CS K (F.lock a (.frz o (.dK kvs))) (upd G a (.frz o (.dK kvs))) (upd H a (.frz o (.dK kvs))) σ ρ := by
  refine c.swap hG (ext_lock hG) rfl (fun b z => relk_ne z) (fun b z => relk_ne z) ?_ ?_
  · cases q : F.H0 a with
    | none => exact .inl ⟨relk_none q, rfl⟩
    | some x => exact .inr ⟨relk_some q, fun z => by cases z⟩
  · cases q : F.G0 a with
    | none => exact .inl ⟨relk_none q, rfl⟩
    | some x => exact .inr ⟨relk_some q, fun z => by cases z⟩
theorem CS.unlock (c : CS K F G H σ ρ) {a : Addr} {kvs : List (Key × V)} {o : PySem.Obj} (hG : G a = some (.dK kvs)) (e' : Ex (upd G a (.frz o (.dK kvs))) G') (c' : CS K (F.lock a (.frz o (.dK kvs))) G' H' σ' ρ') :
    CS K F (upd G' a (.dK kvs)) (upd H' a (.dK kvs)) σ' ρ' ∧ Ex G (upd G' a (.dK kvs)) ∧ H' a = some (.frz o (.dK kvs)) ∧ Ext K G' (upd G' a (.dK kvs)) := by
  have hG' : G' a = some (.frz o (.dK kvs)) := e' a _ upd_same
  have hx := ext_unlock (K := K) hG'
  refine ⟨c'.swap hG' hx rfl (fun b z => (relk_ne z).symm) (fun b z => (relk_ne z).symm) ?_ ?_, fun b x e => ?_, c'.ex _ _ hG', hx⟩
  · cases q : F.H0 a with
    | none => exact .inl ⟨rfl, relk_none q⟩
    | some x =>
      have h1 := c.fr a x q (c.notB hG)
      have h2 := c.ex _ _ hG
      rw [h1] at h2
      cases h2
      exact .inr ⟨rfl, by rw [show (F.lock a (.frz o (.dK kvs))).H0 a = some _ from relk_some q]; exact fun z => by cases z⟩
  · cases q : F.G0 a with
    | none => exact .inl ⟨rfl, relk_none q⟩
    | some x =>
      have h1 := c.g0 a x q
      rw [hG] at h1
      cases h1
      exact .inr ⟨rfl, by rw [show (F.lock a (.frz o (.dK kvs))).G0 a = some _ from relk_some q]; exact fun z => by cases z⟩
  · by_cases z : b = a
    · subst z; rw [hG] at e; cases e; exact upd_same
    · rw [upd_ne z]
      exact e' b x (by rw [upd_ne z]; exact e)
theorem Fr.unlock {l a : Addr} {d : D} {u y : HO} (f : Fr K (F.lock a y) G H σ ρ l d) (hG : G a = some y) (E : Ext K G (upd G a u)) : Fr K F (upd G a u) (upd H a u) σ ρ l d := by
  have ne : l ≠ a := fun z => by have := f.g; rw [z, hG] at this; cases this
  refine ⟨f.obj.mono E (upd_ne ne), by rw [upd_ne ne]; exact f.g, ?_, f.nm⟩
  have := f.h0
  rwa [show (F.lock a y).H0 l = F.H0 l from relk_ne ne] at this
end

/-! ### places of frozen dicts, and walks over them -/
def plV (i : Nat) (ρ : List Sl) : Option D := match ρ[i]? with
  | some (.val d) => some d
  | _ => none
structure Place (K : PySem.W.Frag) (te : TE) (pl : List Sl → Option D) : Prop where
  find : ∀ F ρ σ G H d, CS K F G H σ ρ → pl ρ = some d → ∃ v, Rep K G v d ∧ (∀ Q : VK, Q v H → te σ H Q) ∧ ∀ a kvs o, G a = some (.dK kvs) → ∀ Q : VK, Q v (upd H a (.frz o (.dK kvs))) → te σ (upd H a (.frz o (.dK kvs))) Q
theorem place_var {K : PySem.W.Frag} {i : Nat} : Place K (tVar i) (plV i) := ⟨fun F ρ σ G H d c h => by
  unfold plV at h
  split at h
  · rename_i d' e
    cases h
    obtain ⟨v, hv, r⟩ := c.vals i d e
    exact ⟨v, r, fun Q q => ⟨v, hv, q⟩, fun a kvs o _ Q q => ⟨v, hv, q⟩⟩
  · cases h⟩
def kD : Key → D
  | .inl i => .int i
  | .inr x => .str x
theorem rep_key {K : PySem.W.Frag} {G : Hp} (k : Key) : Rep K G (kV k) (kD k) := by
  cases k with
  | inl i => exact .int i
  | inr x => exact .str x
/-- a way to walk a locked dict -/
structure DWalk (K : PySem.W.Frag) (wi : TE → TI) (mk : List (Key × D) → List D) : Prop where
  walk : ∀ te σ H a o xs kvs G, G a = some (.frz o (.dK xs)) → H a = some (.frz o (.dK xs)) → RepK K G xs kvs → (∀ Q : VK, Q (.ref a) H → te σ H Q) → ∀ Q : It → Hp → Prop, (∀ J, Walks K J G (mk kvs) → Q J H) → wi te σ H Q
def iDct (pl : List Sl → Option D) (mk : List (Key × D) → List D) : M (List D) := fun ρ => match pl ρ with
  | some (.dK kvs) => .ok (mk kvs) ρ
  | _ => .bad
theorem iDct_ok {pl : List Sl → Option D} {mk : List (Key × D) → List D} {ρ : List Sl} {P : List D → List Sl → Prop} {E : Nat → List Sl → Prop} (h : wpR (iDct pl mk ρ) P E) : ∃ kvs, pl ρ = some (.dK kvs) ∧ P (mk kvs) ρ := by
  unfold iDct at h
  split at h
  · rename_i kvs e
    exact ⟨kvs, e, h⟩
  · exact h.elim
def mkKeys (kvs : List (Key × D)) : List D := kvs.map fun kv => kD kv.1
def mkVals (kvs : List (Key × D)) : List D := kvs.map fun kv => kv.2
def mkItems (kvs : List (Key × D)) : List D := kvs.map fun kv => .raw [kD kv.1, kv.2]
theorem RepK.get {K : PySem.W.Frag} {G : Hp} : ∀ {v : List (Key × V)} {d : List (Key × D)} {i : Nat} {x : Key × D}, RepK K G v d → d[i]? = some x → ∃ u, v[i]? = some (x.1, u) ∧ Rep K G u x.2
  | _, _, _, _, .nil, e => by simp at e
  | _, _, 0, _, .cons h _, e => by simp at e; subst e; exact ⟨_, rfl, h⟩
  | _, _, i + 1, x, .cons _ r, e => by
    obtain ⟨u, h1, h2⟩ := RepK.get (i := i) (x := x) r (by simpa using e)
    exact ⟨u, by simpa using h1, h2⟩
theorem map_get {α β : Type} {f : α → β} {l : List α} {i : Nat} {y : β} (h : (l.map f)[i]? = some y) : ∃ x, l[i]? = some x ∧ f x = y := by
  rw [List.getElem?_map] at h
  cases q : l[i]? with
  | none => rw [q] at h; cases h
  | some x => rw [q] at h; cases h; exact ⟨x, rfl, rfl⟩
theorem walks_keys {K : PySem.W.Frag} {G : Hp} {a : Addr} {o : PySem.Obj} {xs : List (Key × V)} {kvs : List (Key × D)} (h : G a = some (.frz o (.dK xs))) (r : RepK K G xs kvs) : Walks K (Itk a o xs) G (mkKeys kvs) := fun F G1 H1 σ ρ e1 c1 => by
  have h1 : H1 a = some (.frz o (.dK xs)) := c1.ex _ _ (e1 _ _ h)
  refine ⟨fun i d hd => ?_, ⟨h1, by rw [r.length]; unfold mkKeys; rw [List.length_map]; exact Nat.le_refl _⟩⟩
  obtain ⟨kv, hk, e⟩ := map_get hd
  subst e
  obtain ⟨u, hu, ru⟩ := r.get hk
  refine ⟨⟨h1, (List.getElem?_eq_some_iff.mp hu).1⟩, fun x H2 ⟨e, k, v, q, y⟩ => ?_⟩
  subst e
  rw [hu] at q
  cases q
  subst y
  exact ⟨G1, Same.refl G1, c1, rep_key _⟩
theorem walks_vals {K : PySem.W.Frag} {G : Hp} {a : Addr} {o : PySem.Obj} {xs : List (Key × V)} {kvs : List (Key × D)} (h : G a = some (.frz o (.dK xs))) (r : RepK K G xs kvs) : Walks K (Itd a o xs) G (mkVals kvs) := fun F G1 H1 σ ρ e1 c1 => by
  have h1 : H1 a = some (.frz o (.dK xs)) := c1.ex _ _ (e1 _ _ h)
  refine ⟨fun i d hd => ?_, ⟨h1, by rw [r.length]; unfold mkVals; rw [List.length_map]; exact Nat.le_refl _⟩⟩
  obtain ⟨kv, hk, e⟩ := map_get hd
  subst e
  obtain ⟨u, hu, ru⟩ := r.get hk
  refine ⟨⟨h1, (List.getElem?_eq_some_iff.mp hu).1⟩, fun x H2 ⟨e, k, q⟩ => ?_⟩
  subst e
  rw [hu] at q
  cases q
  exact ⟨G1, Same.refl G1, c1, ru.mono e1⟩
theorem walks_items {K : PySem.W.Frag} {G : Hp} {a : Addr} {o : PySem.Obj} {xs : List (Key × V)} {kvs : List (Key × D)} (h : G a = some (.frz o (.dK xs))) (r : RepK K G xs kvs) : Walks K (Iti a o xs) G (mkItems kvs) := fun F G1 H1 σ ρ e1 c1 => by
  have h1 : H1 a = some (.frz o (.dK xs)) := c1.ex _ _ (e1 _ _ h)
  refine ⟨fun i d hd => ?_, ⟨h1, by rw [r.length]; unfold mkItems; rw [List.length_map]; exact Nat.le_refl _⟩⟩
  obtain ⟨kv, hk, e⟩ := map_get hd
  subst e
  obtain ⟨u, hu, ru⟩ := r.get hk
  refine ⟨⟨h1, (List.getElem?_eq_some_iff.mp hu).1⟩, fun x H2 ⟨T, k, v, q, y, hT, e⟩ => ?_⟩
  subst e
  rw [hu] at q
  cases q
  subst y
  have e2 : Ex G1 (upd G1 T (.tup [kV kv.1, u])) := fun b x e => by
    rw [upd_ne (ne_of_none e (c1.fresh hT).2.1)]
    exact e
  exact ⟨_, e2, c1.alloc hT _, .raw (.inl upd_same) (.cons (rep_key _) (.cons ((ru.mono e1).mono e2) .nil))⟩
theorem dw_keys {K : PySem.W.Frag} : DWalk K iKeys mkKeys := ⟨fun te σ H a o xs kvs G hG hH r ht Q q => ht _ ⟨a, o, rfl, .inl ⟨xs, hH, q _ (walks_keys hG r)⟩⟩⟩
theorem dw_keysM {K : PySem.W.Frag} : DWalk K iKeysM mkKeys := ⟨fun te σ H a o xs kvs G hG hH r ht Q q => ht _ ⟨a, o, xs, rfl, hH, q _ (walks_keys hG r)⟩⟩
theorem dw_vals {K : PySem.W.Frag} : DWalk K iVals mkVals := ⟨fun te σ H a o xs kvs G hG hH r ht Q q => ht _ ⟨a, o, xs, rfl, hH, q _ (walks_vals hG r)⟩⟩
theorem dw_items {K : PySem.W.Frag} : DWalk K iItems mkItems := ⟨fun te σ H a o xs kvs G hG hH r ht Q q => ht _ ⟨a, o, xs, rfl, hH, q _ (walks_items hG r)⟩⟩
/-- nothing is raised -/
def sCalm (f : MS) : MS := fun ρ => match f ρ with
  | .ex _ _ => .bad
  | o => o
theorem PS.or {X : Cx} {st : Stmt} {t u : TS} (h1 : PS X st t) (h2 : PS X st u) : PS X st (fun D σ H => t D σ H ∨ u D σ H) := ⟨fun pins s σ H D I h => h.elim (h1.run pins s σ H D I) (h2.run pins s σ H D I)⟩
theorem PE.or {X : Cx} {e : Expr} {t u : TE} (h1 : PE X e t) (h2 : PE X e u) : PE X e (fun σ H Q => t σ H Q ∨ u σ H Q) := ⟨fun pins s σ H D I h => h.elim (h1.run pins s σ H D I) (h2.run pins s σ H D I)⟩
section
variable {X : Cx} {cls : Nat → Value} {W : WX} {e a b : Expr} {es : List Expr} {f g : M D} {tf : M Bool} {pos : Pos} {sf sg : MS} {st : Stmt} {sts : List Stmt}
theorem sim_forD {K : PySem.W.Frag} {te : TE} {pl : List Sl → Option D} {wi : TE → TI} {mk : List (Key × D) → List D} {g : TG} {m : MG} {tb : TS} {b : MS} {ts : List Nat} (hpl : Place K te pl) (hw : DWalk K wi mk) (hg : SimG K g m ts) (hb : SimS K cls W tb b) :
    SimS K cls W (fun D σ H => tFor (wi te) g tb D σ H ∨ tLock (tFor (wi te) g tb) D σ H) (sCalm (sFor (iDct pl mk) m b)) := fun F ρ σ G H c E w => by
  have hk : ∃ kvs, pl ρ = some (.dK kvs) := by
    cases q : iDct pl mk ρ with
    | ok ds ρ' =>
      unfold iDct at q
      split at q
      · rename_i kvs e
        exact ⟨kvs, e⟩
      · cases q
    | ex c ρ' =>
      unfold iDct at q
      split at q <;> cases q
    | bad =>
      unfold sCalm sFor sDo at w
      rw [q] at w
      exact w.elim
  obtain ⟨kvs, hk⟩ := hk
  obtain ⟨v, r, ev, evl⟩ := hpl.find F ρ σ G H _ c hk
  have w0 : ∀ o, sFor (iDct pl mk) m b ρ = o → (∀ c ρ', o ≠ .ex c ρ') → PO K cls W F G E o := fun o ho hne => by
    unfold sCalm at w
    rw [ho] at w
    cases o with
    | ex c ρ' => exact (hne c ρ' rfl).elim
    | _ => exact w
  have nex : ∀ c ρ', sFor (iDct pl mk) m b ρ ≠ .ex c ρ' := fun c ρ' h => by
    unfold sCalm at w
    rw [h] at w
    exact w
  cases r with
  | dK hd rk =>
    rename_i a xs
    rcases hd with hd | ⟨o, hd⟩
    · -- it is locked
      refine .inr ⟨a, .dK xs, c.ex _ _ hd, trivial, fun od => ?_⟩
      have c1 := c.lock od hd
      have rk1 := rk.ext (ext_lock (o := od) hd)
      refine sim_for_at (fi := iDct pl mk) (F := F.lock a (.frz od (.dK xs))) (ρ := ρ) (G := upd G a (.frz od (.dK xs))) (fun Q q => ?_) hg hb _ ?_
      · obtain ⟨kvs', e1, q⟩ := iDct_ok q
        rw [hk] at e1
        cases e1
        exact hw.walk te σ _ a od xs kvs _ upd_same upd_same rk1 (evl a xs od hd) Q fun J wk => q J _ _ (Same.refl _) c1 wk
      · have w1 := w0 _ rfl nex
        cases ho : sFor (iDct pl mk) m b ρ with
        | ex c ρ' => exact (nex c ρ' ho).elim
        | bad => rw [ho] at w1; exact w1
        | nx ρ' =>
          rw [ho] at w1
          intro σ' G' H' e' c'
          obtain ⟨k1, k2, k3, k4⟩ := c.unlock hd e' c'
          exact ⟨k3, w1 σ' _ _ k2 k1⟩
        | rt d ρ' =>
          rw [ho] at w1
          intro v σ' G' H' e' c' rv
          obtain ⟨k1, k2, k3, k4⟩ := c.unlock hd e' c'
          exact ⟨k3, w1 v σ' _ _ k2 k1 (rv.ext k4)⟩
        | rtN d ρ' =>
          rw [ho] at w1
          intro l σ' G' H' e' c' fr
          obtain ⟨k1, k2, k3, k4⟩ := c.unlock hd e' c'
          exact ⟨k3, w1 l σ' _ _ k2 k1 (fr.unlock (e' a _ upd_same) k4)⟩
    · refine .inl (sim_for_at (fi := iDct pl mk) (F := F) (ρ := ρ) (G := G) (fun Q q => ?_) hg hb _ (w0 _ rfl nex))
      obtain ⟨kvs', e1, q⟩ := iDct_ok q
      rw [hk] at e1
      cases e1
      exact hw.walk te σ H a o xs kvs G hd (c.ex _ _ hd) rk ev Q fun J wk => q J G H (Same.refl _) c wk
theorem sim_compD {K : PySem.W.Frag} {te : TE} {pl : List Sl → Option D} {wi : TE → TI} {mk : List (Key × D) → List D} {g : TG} {m : MG} {tt : TT} {tm : M Bool} {tx : TE} {em : M D} {vs ts : List Nat} (hpl : Place K te pl) (hw : DWalk K wi mk) (hg : SimG K g m ts) (ht : SimT K cls noW tt tm) (he : SimE K cls noW tx em) (hts : ∀ t ∈ ts, t ∈ vs) :
    SimN K cls W (fun σ H Q => tLc (wi te) g tt tx vs σ H Q ∨ tLockE (tLc (wi te) g tt tx vs) σ H Q) (eComp (iDct pl mk) m tm em vs) := fun F ρ σ G H c Q w => by
  obtain ⟨kvs, hk, _⟩ := iDct_ok (wpR_bind w)
  obtain ⟨v, r, ev, evl⟩ := hpl.find F ρ σ G H _ c hk
  have nex : ∀ c ρ', eComp (iDct pl mk) m tm em vs ρ ≠ .ex c ρ' := fun c ρ' h => by
    have key : ∀ (ds acc : List D) (ρ : List Sl), compL m tm em vs ds acc ρ ≠ .ex c ρ' := fun ds => by
      induction ds with
      | nil => exact fun acc ρ h => by cases h
      | cons d ds ih =>
        intro acc ρ h
        unfold compL at h
        split at h
        · split at h
          · cases h
          · split at h
            · split at h
              · split at h
                · exact ih _ _ h
                · cases h
              · cases h
            · exact ih _ _ h
            · cases h
        · cases h
    unfold eComp mbind iDct at h
    rw [hk] at h
    dsimp only at h
    cases q : compL m tm em vs (mk kvs) [] ρ with
    | ok ys ρ1 => rw [q] at h; cases h
    | ex c1 ρ1 => rw [q] at h; cases h; exact key _ _ _ q
    | bad => rw [q] at h; cases h
  cases r with
  | dK hd rk =>
    rename_i a xs
    rcases hd with hd | ⟨o, hd⟩
    · refine .inr ⟨a, .dK xs, c.ex _ _ hd, trivial, fun od => ?_⟩
      have c1 := c.lock od hd
      have rk1 := rk.ext (ext_lock (o := od) hd)
      refine sim_comp_at (W := W) (fi := iDct pl mk) (F := F.lock a (.frz od (.dK xs))) (ρ := ρ) (G := upd G a (.frz od (.dK xs))) (fun Q q => ?_) hg ht he hts _ ?_
      · obtain ⟨kvs', e1, q⟩ := iDct_ok q
        rw [hk] at e1
        cases e1
        exact hw.walk te σ _ a od xs kvs _ upd_same upd_same rk1 (evl a xs od hd) Q fun J wk => q J _ _ (Same.refl _) c1 wk
      · cases ho : eComp (iDct pl mk) m tm em vs ρ with
        | ex c ρ' => exact (nex c ρ' ho).elim
        | bad => rw [ho] at w; exact w
        | ok d ρ' =>
          rw [ho] at w
          intro l G' H' e' c' fr
          obtain ⟨k1, k2, k3, k4⟩ := c.unlock hd e' c'
          exact ⟨k3, w l _ _ k2 k1 (fr.unlock (e' a _ upd_same) k4)⟩
    · refine .inl (sim_comp_at (W := W) (fi := iDct pl mk) (F := F) (ρ := ρ) (G := G) (fun Q q => ?_) hg ht he hts _ w)
      obtain ⟨kvs', e1, q⟩ := iDct_ok q
      rw [hk] at e1
      cases e1
      exact hw.walk te σ H a o xs kvs G hd (c.ex _ _ hd) rk ev Q fun J wk => q J G H (Same.refl _) c wk
theorem inert_iDct {pl : List Sl → Option D} {mk : List (Key × D) → List D} : Inert (iDct pl mk) := fun ρ n a ρ' h => by
  unfold iDct at h
  split at h
  · cases h; rfl
  · cases h
/-- for k in d (a name) -/
theorem q_forD {te : TE} {pl : List Sl → Option D} {wi : TE → TI} {mk : List (Key × D) → List D} {tg iter : Expr} {m : MG} {body : List Stmt} {bf : MS} {ts : List Nat} (hpi : PI X tg iter (wi te)) (hpl : Place X.K te pl) (hw : DWalk X.K wi mk) (hg : QG X tg m ts) (hb : QB X cls W body bf) (hp : ∀ wi g tb, PI X tg iter wi → PG X tg g → PSs X body tb → PS X st (tFor wi g tb)) : QS X cls W st (sCalm (sFor (iDct pl mk) m bf)) := by
  obtain ⟨⟨g, pg, sg⟩⟩ := hg
  obtain ⟨⟨tb, pb, sb⟩⟩ := hb
  exact ⟨⟨_, PS.or (hp _ g tb hpi pg pb) (ps_lock (hp _ g tb hpi pg pb)), sim_forD hpl hw sg sb⟩⟩
variable {elt tg iter : Expr} {ifs : List Expr} {scope : Scope} {own : List (Str × Nat)} {m : MG} {tm : M Bool} {em : M D} {vs ts : List Nat}
theorem q_compD {te : TE} {pl : List Sl → Option D} {wi : TE → TI} {mk : List (Key × D) → List D} (hpi : PI X tg iter (wi te)) (hpl : Place X.K te pl) (hw : DWalk X.K wi mk) (hc : X.calm = true) (hN : X.N.Nodup) (ok : BlkOk X.N X.env.scope scope own)
    (hg : ∀ (s : Shared) (H : Hp) (C : Addr) (cl : List (Str × Addr)) (fp : List Addr), QG (X.blk s H scope (compEnvC scope cl C X.env) fp) tg m ts)
    (ht : ∀ (s : Shared) (H : Hp) (C : Addr) (cl : List (Str × Addr)) (fp : List Addr), QTs (X.blk s H scope (compEnvC scope cl C X.env) fp) cls noW ifs tm)
    (he : ∀ (s : Shared) (H : Hp) (C : Addr) (cl : List (Str × Addr)) (fp : List Addr), QE (X.blk s H scope (compEnvC scope cl C X.env) fp) cls noW elt em)
    (gok : GOk m ts) (hvs : own.map (·.2) = vs) (hts : ∀ t ∈ ts, t ∈ vs) (hs : ∀ x, foldedSetIterable iter X.env x = pure x := by intro _; rfl) :
    QN X cls W (.ListComp elt [⟨tg, iter, ifs, 0⟩] scope pos) (eComp (iDct pl mk) m tm em vs) := by
  subst hvs
  have p := pe_lc hc hN hpi ok (g := tOfG X.K m ts) (tt := tOfT X.K cls noW tm) (te := tOfE X.K cls noW em) (fun s H C cl fp => (hg s H C cl fp).pg) (fun s H C cl fp => (ht s H C cl fp).pt) (fun s H C cl fp => (he s H C cl fp).pe) hs (pos := pos)
  exact ⟨⟨_, PE.or p (pe_lock p), sim_compD hpl hw simG_of simT_of simE_of hts⟩, comp_inert inert_iDct gok hts (ht X.s_0 X.H_0 0 [] []).inert (he X.s_0 X.H_0 0 [] []).inert⟩
/-- x = [.. for k in d ..] -/
theorem sim_setLcD {K : PySem.W.Frag} {t : TE} {i : Nat} {f : M D} (h : SimN K cls W (fun σ H Q => t σ H Q ∨ tLockE t σ H Q) f) : SimS K cls W (fun D σ H => tAsg t (gName i) D σ H ∨ tLock (tAsg t (gName i)) D σ H) (sSetN i f) := fun F ρ σ G H c E w =>
  (h F ρ σ G H c (fun v H1 => E.nx (σ.set i (some v)) H1) (sDo_wp w fun d ρ' p v G1 H1 e1 c1 r1 => by
    obtain ⟨hb, q⟩ := put_ok p
    exact q _ _ _ e1 (c1.setOwn hb r1))).imp (fun z => z) fun ⟨d, u, h1, h2, h3⟩ => ⟨d, u, h1, h2, h3⟩
theorem sim_setLcDF {K : PySem.W.Frag} {t : TE} {i : Nat} {f : M D} (h : SimE K cls W (fun σ H Q => t σ H Q ∨ tLockE t σ H Q) f) : SimS K cls W (fun D σ H => tAsg t (gName i) D σ H ∨ tLock (tAsg t (gName i)) D σ H) (sSet i f) := fun F ρ σ G H c E w =>
  (h F ρ σ G H c (fun v H1 => E.nx (σ.set i (some v)) H1) (sDo_wp w fun d ρ' p v G1 H1 e1 c1 r1 => by
    obtain ⟨hb, q⟩ := put_ok p
    exact q _ _ _ e1 (c1.setVal hb r1))).imp (fun z => z) fun ⟨d, u, h1, h2, h3⟩ => ⟨d, u, h1, h2, h3⟩
theorem q_setLcDN (i : Nat) {y : Str} {py spos : Pos} {te : TE} {pl : List Sl → Option D} {wi : TE → TI} {mk : List (Key × D) → List D} (hpi : PI X tg iter (wi te)) (hpl : Place X.K te pl) (hw : DWalk X.K wi mk) (hc : X.calm = true) (hN : X.N.Nodup) (hy : X.N[i]? = some y) (hyl : X.env.scope.names.lookup y = some .local)
    (hsw : swapsWith (.ListComp elt [⟨tg, iter, ifs, 0⟩] scope pos) (some (.Name y py)) spos.line X.env = pure true) (ok : BlkOk X.N X.env.scope scope own)
    (hg : ∀ (s : Shared) (H : Hp) (C : Addr) (cl : List (Str × Addr)) (fp : List Addr), QG (X.blk s H scope (compEnvC scope cl C X.env) fp) tg m ts)
    (ht : ∀ (s : Shared) (H : Hp) (C : Addr) (cl : List (Str × Addr)) (fp : List Addr), QTs (X.blk s H scope (compEnvC scope cl C X.env) fp) cls noW ifs tm)
    (he : ∀ (s : Shared) (H : Hp) (C : Addr) (cl : List (Str × Addr)) (fp : List Addr), QE (X.blk s H scope (compEnvC scope cl C X.env) fp) cls noW elt em)
    (gok : GOk m ts) (hvs : own.map (·.2) = vs) (hts : ∀ t ∈ ts, t ∈ vs) (hs : ∀ x, foldedSetIterable iter X.env x = pure x := by intro _; rfl) :
    QS X cls W (.Assign [.Name y py] (.ListComp elt [⟨tg, iter, ifs, 0⟩] scope pos) spos) (sSetN i (eComp (iDct pl mk) m tm em vs)) := by
  subst hvs
  have p := ps_setLc hc hN hy hyl hsw hpi ok (g := tOfG X.K m ts) (tt := tOfT X.K cls noW tm) (te := tOfE X.K cls noW em) (fun s H C cl fp => (hg s H C cl fp).pg) (fun s H C cl fp => (ht s H C cl fp).pt) (fun s H C cl fp => (he s H C cl fp).pe) hs
  exact ⟨⟨_, PS.or p (ps_lock p), sim_setLcD (sim_compD hpl hw simG_of simT_of simE_of hts)⟩⟩
theorem q_setLcD (i : Nat) {y : Str} {py spos : Pos} {te : TE} {pl : List Sl → Option D} {wi : TE → TI} {mk : List (Key × D) → List D} (hpi : PI X tg iter (wi te)) (hpl : Place X.K te pl) (hw : DWalk X.K wi mk) (hc : X.calm = true) (hN : X.N.Nodup) (hy : X.N[i]? = some y) (hyl : X.env.scope.names.lookup y = some .local)
    (hsw : swapsWith (.ListComp elt [⟨tg, iter, ifs, 0⟩] scope pos) (some (.Name y py)) spos.line X.env = pure true) (ok : BlkOk X.N X.env.scope scope own)
    (hg : ∀ (s : Shared) (H : Hp) (C : Addr) (cl : List (Str × Addr)) (fp : List Addr), QG (X.blk s H scope (compEnvC scope cl C X.env) fp) tg m ts)
    (ht : ∀ (s : Shared) (H : Hp) (C : Addr) (cl : List (Str × Addr)) (fp : List Addr), QTs (X.blk s H scope (compEnvC scope cl C X.env) fp) cls noW ifs tm)
    (he : ∀ (s : Shared) (H : Hp) (C : Addr) (cl : List (Str × Addr)) (fp : List Addr), QE (X.blk s H scope (compEnvC scope cl C X.env) fp) cls noW elt em)
    (gok : GOk m ts) (hvs : own.map (·.2) = vs) (hts : ∀ t ∈ ts, t ∈ vs) (hs : ∀ x, foldedSetIterable iter X.env x = pure x := by intro _; rfl) :
    QS X cls W (.Assign [.Name y py] (.ListComp elt [⟨tg, iter, ifs, 0⟩] scope pos) spos) (sSet i (eComp (iDct pl mk) m tm em vs)) := by
  subst hvs
  have p := ps_setLc hc hN hy hyl hsw hpi ok (g := tOfG X.K m ts) (tt := tOfT X.K cls noW tm) (te := tOfE X.K cls noW em) (fun s H C cl fp => (hg s H C cl fp).pg) (fun s H C cl fp => (ht s H C cl fp).pt) (fun s H C cl fp => (he s H C cl fp).pe) hs
  exact ⟨⟨_, PS.or p (ps_lock p), sim_setLcDF (sim_compD hpl hw simG_of simT_of simE_of hts).frz⟩⟩
variable {fi : M (List D)}
/-- x = [..] seen as a whole -/
theorem q_setLcVN (i : Nat) {y : Str} {py spos : Pos} (hc : X.calm = true) (hN : X.N.Nodup) (hy : X.N[i]? = some y) (hyl : X.env.scope.names.lookup y = some .local)
    (hsw : swapsWith (.ListComp elt [⟨tg, iter, ifs, 0⟩] scope pos) (some (.Name y py)) spos.line X.env = pure true) (hi : QI X cls W tg iter fi) (ok : BlkOk X.N X.env.scope scope own)
    (hg : ∀ (s : Shared) (H : Hp) (C : Addr) (cl : List (Str × Addr)) (fp : List Addr), QG (X.blk s H scope (compEnvC scope cl C X.env) fp) tg m ts)
    (ht : ∀ (s : Shared) (H : Hp) (C : Addr) (cl : List (Str × Addr)) (fp : List Addr), QTs (X.blk s H scope (compEnvC scope cl C X.env) fp) cls noW ifs tm)
    (he : ∀ (s : Shared) (H : Hp) (C : Addr) (cl : List (Str × Addr)) (fp : List Addr), QE (X.blk s H scope (compEnvC scope cl C X.env) fp) cls noW elt em)
    (gok : GOk m ts) (hvs : own.map (·.2) = vs) (hts : ∀ t ∈ ts, t ∈ vs) (hs : ∀ x, foldedSetIterable iter X.env x = pure x := by intro _; rfl) :
    QS X cls W (.Assign [.Name y py] (.ListComp elt [⟨tg, iter, ifs, 0⟩] scope pos) spos) (sSetN i (eViewN (eComp fi m tm em vs))) := by
  obtain ⟨⟨wi, pi, si⟩, ii⟩ := hi
  subst hvs
  exact ⟨⟨_, ps_setLc hc hN hy hyl hsw pi ok (g := tOfG X.K m ts) (tt := tOfT X.K cls noW tm) (te := tOfE X.K cls noW em) (fun s H C cl fp => (hg s H C cl fp).pg) (fun s H C cl fp => (ht s H C cl fp).pt) (fun s H C cl fp => (he s H C cl fp).pe) hs, sim_setN (sim_viewN (sim_comp si simG_of simT_of simE_of hts) (comp_inert ii gok hts (ht X.s_0 X.H_0 0 [] []).inert (he X.s_0 X.H_0 0 [] []).inert))⟩⟩
theorem q_setLcV (i : Nat) {y : Str} {py spos : Pos} (hc : X.calm = true) (hN : X.N.Nodup) (hy : X.N[i]? = some y) (hyl : X.env.scope.names.lookup y = some .local)
    (hsw : swapsWith (.ListComp elt [⟨tg, iter, ifs, 0⟩] scope pos) (some (.Name y py)) spos.line X.env = pure true) (hi : QI X cls W tg iter fi) (ok : BlkOk X.N X.env.scope scope own)
    (hg : ∀ (s : Shared) (H : Hp) (C : Addr) (cl : List (Str × Addr)) (fp : List Addr), QG (X.blk s H scope (compEnvC scope cl C X.env) fp) tg m ts)
    (ht : ∀ (s : Shared) (H : Hp) (C : Addr) (cl : List (Str × Addr)) (fp : List Addr), QTs (X.blk s H scope (compEnvC scope cl C X.env) fp) cls noW ifs tm)
    (he : ∀ (s : Shared) (H : Hp) (C : Addr) (cl : List (Str × Addr)) (fp : List Addr), QE (X.blk s H scope (compEnvC scope cl C X.env) fp) cls noW elt em)
    (gok : GOk m ts) (hvs : own.map (·.2) = vs) (hts : ∀ t ∈ ts, t ∈ vs) (hs : ∀ x, foldedSetIterable iter X.env x = pure x := by intro _; rfl) :
    QS X cls W (.Assign [.Name y py] (.ListComp elt [⟨tg, iter, ifs, 0⟩] scope pos) spos) (sSet i (eViewN (eComp fi m tm em vs))) := by
  obtain ⟨⟨wi, pi, si⟩, ii⟩ := hi
  subst hvs
  exact ⟨⟨_, ps_setLc hc hN hy hyl hsw pi ok (g := tOfG X.K m ts) (tt := tOfT X.K cls noW tm) (te := tOfE X.K cls noW em) (fun s H C cl fp => (hg s H C cl fp).pg) (fun s H C cl fp => (ht s H C cl fp).pt) (fun s H C cl fp => (he s H C cl fp).pe) hs, sim_set (sim_viewN (sim_comp si simG_of simT_of simE_of hts) (comp_inert ii gok hts (ht X.s_0 X.H_0 0 [] []).inert (he X.s_0 X.H_0 0 [] []).inert)).frz⟩⟩
end
end NT

set_option Elab.async false
set_option linter.all false
set_option maxRecDepth 100000
set_option maxHeartbeats 4000000
namespace NT
open PySem L2
/-! ### what an outcome has to keep -/
class KW where
  N : List Sl → Prop
  R : D → List Sl → Prop
  RN : D → List Sl → Prop
  E : Nat → Prop
def wO0 (o : O) (k : KW) : Prop := match o with
  | .nx ρ => k.N ρ
  | .rt d ρ => k.R d ρ
  | .rtN d ρ => k.RN d ρ
  | .ex c _ => k.E c
  | .bad => False
/-- kept closed: tactics must not evaluate it -/
structure wO (o : O) [k : KW] : Prop where
  out : wO0 o k
theorem wO.g {o : O} {k : KW} (h : wO o (k := k)) : wO0 o k := @wO.out o k h
theorem wO.c {o : O} {k : KW} (h : wO0 o k) : wO o (k := k) := @wO.mk o k h
section
variable {k : KW} {kn : KN} {ρ : List Sl} {d : D} {c : Nat} {o : O}
theorem wO_nx : wO (.nx ρ) (k := k) = k.N ρ := propext ⟨fun h => h.g, fun h => .c h⟩
theorem wO_rt : wO (.rt d ρ) (k := k) = k.R d ρ := propext ⟨fun h => h.g, fun h => .c h⟩
theorem wO_rtN : wO (.rtN d ρ) (k := k) = k.RN d ρ := propext ⟨fun h => h.g, fun h => .c h⟩
theorem wO_ex : wO (.ex c ρ) (k := k) = k.E c := propext ⟨fun h => h.g, fun h => .c h⟩
theorem wO_nxt (h : wO o (k := ⟨fun ρ => wO (kn.run ρ) (k := k), k.R, k.RN, k.E⟩)) : wO (nxt o (k := kn)) (k := k) := by
  cases o with
  | nx ρ => exact h.g
  | rt d ρ => exact (.c h.g)
  | rtN d ρ => exact (.c h.g)
  | ex c ρ => exact (.c h.g)
  | bad => exact (.c h.g)
theorem of_rt {d : D} (h : wO o (k := ⟨fun _ => False, fun d' _ => d' = d, fun _ _ => False, fun _ => False⟩)) : ∃ ρ', o = .rt d ρ' := by
  cases o with
  | rt d' ρ => exact ⟨ρ, by rw [show d' = d from h.g]⟩
  | _ => exact h.g.elim
theorem of_rtN {d : D} (h : wO o (k := ⟨fun _ => False, fun _ _ => False, fun d' _ => d' = d, fun _ => False⟩)) : ∃ ρ', o = .rtN d ρ' := by
  cases o with
  | rtN d' ρ => exact ⟨ρ, by rw [show d' = d from h.g]⟩
  | _ => exact h.g.elim
theorem of_rtP {P : D → List Sl → Prop} (h : wO o (k := ⟨fun _ => False, P, fun _ _ => False, fun _ => False⟩)) : ∃ d ρ', o = .rt d ρ' ∧ P d ρ' := by
  cases o with
  | rt d' ρ => exact ⟨d', ρ, rfl, h.g⟩
  | _ => exact h.g.elim
theorem of_rtNP {P : D → List Sl → Prop} (h : wO o (k := ⟨fun _ => False, fun _ _ => False, P, fun _ => False⟩)) : ∃ d ρ', o = .rtN d ρ' ∧ P d ρ' := by
  cases o with
  | rtN d' ρ => exact ⟨d', ρ, rfl, h.g⟩
  | _ => exact h.g.elim
theorem of_nxP {P : List Sl → Prop} (h : wO o (k := ⟨P, fun _ _ => False, fun _ _ => False, fun _ => False⟩)) : ∃ ρ', o = .nx ρ' ∧ P ρ' := by
  cases o with
  | nx ρ => exact ⟨ρ, rfl, h.g⟩
  | _ => exact h.g.elim
theorem wO_rw {o' : O} (e : o = o') (h : wO o' (k := k)) : wO o (k := k) := e ▸ h
end
/-- a value returned, and the first slot -/
def rtb : O → Option (D × Sl)
  | .rt d (s :: _) => some (d, s)
  | _ => none
theorem rtb_rt {d : D} {s : Sl} {ρ : List Sl} : rtb (.rt d (s :: ρ)) = some (d, s) := id rfl
theorem of_rtb {o : O} {d : D} {s : Sl} (h : rtb o = some (d, s)) : ∃ ρ', o = .rt d (s :: ρ') := by
  cases o with
  | rt e ρ =>
    cases ρ with
    | nil => cases h
    | cons a b => cases h; exact ⟨b, rfl⟩
  | _ => cases h
/-! loops -/
def stp (m : MG) (b : MS) (d : D) (ρ : List Sl) : O := optO (m d ρ) (k := ⟨fun ρ => b ρ⟩)
theorem stp_ap {m : MG} {b : MS} {d : D} {ρ : List Sl} : stp m b d ρ = optO (m d ρ) (k := ⟨fun ρ => b ρ⟩) := id rfl
theorem loop_stp {m : MG} {b : MS} {d : D} {ds : List D} {ρ : List Sl} : loop m b (d :: ds) ρ = nxt (stp m b d ρ) (k := ⟨fun ρ => loop m b ds ρ⟩) := by
  rw [loop_cons, stp_ap]
  cases m d ρ <;> rfl
section
variable {m : MG} {b : MS} {kn : KN} {k : KW} {ρ : List Sl} {α : Type}
theorem wO_loop {f : α → D} {N : List Sl → Prop} (I : List α → List Sl → Prop) (hs : ∀ x xs ρ, I (x :: xs) ρ → wO (stp m b (f x) ρ) (k := ⟨fun ρ2 => I xs ρ2, k.R, k.RN, k.E⟩)) (hd : ∀ ρ, I [] ρ → k.N ρ) : ∀ {xs : List α} {ρ : List Sl}, I xs ρ → wO (loop m b (xs.map f) ρ) (k := k)
  | [], ρ, h0 => .c (hd ρ h0)
  | x :: xs, ρ, h0 => by
    rw [List.map_cons, loop_stp]
    have h := hs x xs ρ h0
    cases q : stp m b (f x) ρ with
    | nx ρ2 => rw [q] at h; exact wO_loop (N := N) I hs hd h.g
    | rt d ρ2 => rw [q] at h; exact (.c h.g)
    | rtN d ρ2 => rw [q] at h; exact (.c h.g)
    | ex c ρ2 => rw [q] at h; exact (.c h.g)
    | bad => rw [q] at h; exact h.g.elim
/-- a loop and what follows -/
theorem wO_for {f : α → D} {xs : List α} (I : List α → List Sl → Prop) (h0 : I xs ρ) (hs : ∀ x xs ρ, I (x :: xs) ρ → wO (stp m b (f x) ρ) (k := ⟨fun ρ2 => I xs ρ2, k.R, k.RN, k.E⟩)) (hd : ∀ ρ, I [] ρ → wO (kn.run ρ) (k := k)) : wO (nxt (loop m b (xs.map f) ρ) (k := kn)) (k := k) :=
  wO_nxt (wO_loop (k := ⟨fun ρ => wO (kn.run ρ) (k := k), k.R, k.RN, k.E⟩) (N := k.N) I hs (fun ρ h => hd ρ h) h0)
theorem wO_forD {xs : List D} (I : List D → List Sl → Prop) (h0 : I xs ρ) (hs : ∀ x xs ρ, I (x :: xs) ρ → wO (stp m b x ρ) (k := ⟨fun ρ2 => I xs ρ2, k.R, k.RN, k.E⟩)) (hd : ∀ ρ, I [] ρ → wO (kn.run ρ) (k := k)) : wO (nxt (loop m b xs ρ) (k := kn)) (k := k) := by
  have h := wO_for (f := id) (m := m) (b := b) (kn := kn) (k := k) (xs := xs) I h0 hs hd
  rwa [List.map_id] at h
def calmO (o : O) : O := match o with
  | .ex _ _ => .bad
  | o => o
theorem sCalm_ap {f : MS} : sCalm f ρ = calmO (f ρ) := id (by unfold sCalm calmO; cases f ρ <;> rfl)
theorem wO_forC {f : α → D} {xs : List α} (I : List α → List Sl → Prop) (h0 : I xs ρ) (hs : ∀ x xs ρ, I (x :: xs) ρ → wO (stp m b (f x) ρ) (k := ⟨fun ρ2 => I xs ρ2, k.R, k.RN, fun _ => False⟩)) (hd : ∀ ρ, I [] ρ → wO (kn.run ρ) (k := k)) : wO (nxt (calmO (loop m b (xs.map f) ρ)) (k := kn)) (k := k) := by
  have h : wO (loop m b (xs.map f) ρ) (k := ⟨fun ρ => wO (kn.run ρ) (k := k), k.R, k.RN, fun _ => False⟩) := wO_loop (k := ⟨fun ρ => wO (kn.run ρ) (k := k), k.R, k.RN, fun _ => False⟩) (N := k.N) I hs hd h0
  refine wO_nxt ?_
  cases q : loop m b (xs.map f) ρ with
  | ex c ρ => rw [q] at h; exact h.g.elim
  | nx ρ => rw [q] at h; exact (.c h.g)
  | rt d ρ => rw [q] at h; exact (.c h.g)
  | rtN d ρ => rw [q] at h; exact (.c h.g)
  | bad => rw [q] at h; exact (.c h.g)
/-! while -/
class KT where
  run : Bool → List Sl → Prop
def wT0 (r : R Bool) (k : KT) : Prop := match r with
  | .ok v ρ => k.run v ρ
  | _ => False
structure wT (r : R Bool) [k : KT] : Prop where
  out : wT0 r k
theorem wT.g {o : R Bool} {k : KT} (h : wT o (k := k)) : wT0 o k := @wT.out o k h
theorem wT.c {o : R Bool} {k : KT} (h : wT0 o k) : wT o (k := k) := @wT.mk o k h
theorem wT_ok {v : Bool} {kt : KT} : wT (.ok v ρ) (k := kt) = kt.run v ρ := propext ⟨fun h => h.g, fun h => .c h⟩
theorem sWhile_ap {n : Nat} {t : M Bool} : sWhile n t b ρ = wloop t b n ρ := id rfl
theorem wO_wloop {t : M Bool} (I : Nat → List Sl → Prop) (hs : ∀ m ρ, I m ρ → wT (t ρ) (k := ⟨fun v ρ1 => (v = true → wO (b ρ1) (k := ⟨fun ρ2 => ∃ m', m' < m ∧ I m' ρ2, k.R, k.RN, k.E⟩)) ∧ (v = false → k.N ρ1)⟩)) : ∀ {n m : Nat} {ρ : List Sl}, I m ρ → m < n → wO (wloop t b n ρ) (k := k)
  | 0, m, ρ, _, h => (by omega)
  | n + 1, m, ρ, h0, hn => by
    have h := hs m ρ h0
    unfold wloop
    cases q : t ρ with
    | ok v ρ1 =>
      rw [q] at h
      cases v with
      | false => exact (.c (h.g.2 rfl))
      | true =>
        have h := h.g.1 rfl
        dsimp only
        cases q2 : b ρ1 with
        | nx ρ2 =>
          rw [q2] at h
          obtain ⟨m', hm, hi⟩ := h.g
          exact wO_wloop I hs hi (by omega)
        | rt d ρ2 => rw [q2] at h; exact (.c h.g)
        | rtN d ρ2 => rw [q2] at h; exact (.c h.g)
        | ex c ρ2 => rw [q2] at h; exact (.c h.g)
        | bad => rw [q2] at h; exact h.g.elim
    | ex c ρ1 => rw [q] at h; exact h.g.elim
    | bad => rw [q] at h; exact h.g.elim
theorem wO_while {t : M Bool} {n : Nat} (I : Nat → List Sl → Prop) (m0 : Nat) (h0 : I m0 ρ) (hn : m0 < n) (hs : ∀ m ρ, I m ρ → wT (t ρ) (k := ⟨fun v ρ1 => (v = true → wO (b ρ1) (k := ⟨fun ρ2 => ∃ m', m' < m ∧ I m' ρ2, k.R, k.RN, k.E⟩)) ∧ (v = false → wO (kn.run ρ1) (k := k))⟩)) : wO (nxt (wloop t b n ρ) (k := kn)) (k := k) :=
  wO_nxt (wO_wloop (k := ⟨fun ρ => wO (kn.run ρ) (k := k), k.R, k.RN, k.E⟩) I hs h0 hn)
end
theorem cast_0 : ((0 : Nat) : Int) = 0 := id rfl
theorem cast_1 : ((1 : Nat) : Int) = 1 := id rfl
theorem cast_2 : ((2 : Nat) : Int) = 2 := id rfl
theorem cast_3 : ((3 : Nat) : Int) = 3 := id rfl
theorem cast_4 : ((4 : Nat) : Int) = 4 := id rfl
theorem cast_5 : ((5 : Nat) : Int) = 5 := id rfl
theorem cast_6 : ((6 : Nat) : Int) = 6 := id rfl
theorem cast_7 : ((7 : Nat) : Int) = 7 := id rfl
theorem cast_8 : ((8 : Nat) : Int) = 8 := id rfl
/-- a fact that rewriting does not see -/
structure Hid (p : Prop) : Prop where
  out : p
theorem lt_fuel {n : Nat} (h : n < 1000000) : n < fuel := h
/-! comprehensions -/
theorem comp_ok {i : Nat} {e : M D} {f : D → D} {items : List D} {ρ : List Sl} (hf : isFree ρ[i]? = true) (hl : items.length ≤ 100000) (he : ∀ d ∈ items, e (ρ.set i (.val d)) = .ok (f d) (ρ.set i (.val d))) : compL (gN i) (mpure true) e [i] items [] ρ = .ok (items.map f) ρ := by
  rw [comp_map hf (by rw [List.length_nil]; omega) (fun d hd => by rw [List.set_set]; exact he d hd), List.nil_append]
/-- over typed items -/
theorem comp_okM {α : Type} {i : Nat} {e : M D} {g : α → D} {f : α → D} {xs : List α} {ρ : List Sl} (hf : isFree ρ[i]? = true) (hl : xs.length ≤ 100000) (he : ∀ x ∈ xs, e (ρ.set i (.val (g x))) = .ok (f x) (ρ.set i (.val (g x)))) : compL (gN i) (mpure true) e [i] (xs.map g) [] ρ = .ok (xs.map f) ρ := by
  have key : ∀ (xs : List α) (acc : List D), acc.length + xs.length ≤ 100000 → (∀ x ∈ xs, e (ρ.set i (.val (g x))) = .ok (f x) (ρ.set i (.val (g x)))) → compL (gN i) (mpure true) e [i] (xs.map g) acc ρ = .ok (acc ++ xs.map f) ρ := fun xs => by
    induction xs with
    | nil => intro acc _ _; rw [List.map_nil, List.map_nil, List.append_nil]; rfl
    | cons x xs ih =>
      intro acc hl he
      obtain ⟨s, hs⟩ : ∃ s, ρ[i]? = some s := by
        cases q : ρ[i]? with
        | none => rw [q] at hf; cases hf
        | some s => exact ⟨s, rfl⟩
      have hlt : i < ρ.length := (List.getElem?_eq_some_iff.mp hs).1
      have hall : (([i] : List Nat).all fun v => isFree ρ[v]?) = true := by simp [hf]
      rw [List.map_cons]
      unfold compL
      rw [if_pos hall]
      have hm : gN i (g x) (wipeS ρ [i]) = some (ρ.set i (.val (g x))) := by
        show (if notBor (ρ.set i Sl.no)[i]? = true then some ((ρ.set i Sl.no).set i _) else none) = _
        rw [List.getElem?_set_self hlt, List.set_set]
        rfl
      rw [hm]
      dsimp only [mpure]
      rw [he x List.mem_cons_self]
      dsimp only
      rw [List.length_cons] at hl
      rw [if_pos (by omega)]
      have hb : backS ρ (ρ.set i (.val (g x))) [i] = ρ := by
        show (ρ.set i (.val (g x))).set i (ρ.getD i .no) = ρ
        rw [List.set_set, List.getD_eq_getElem?_getD, hs]
        exact set_self_at hs
      rw [hb, ih _ (by rw [List.length_append, List.length_singleton]; omega) fun x hx => he x (List.mem_cons_of_mem _ hx), List.append_assoc, List.map_cons]
      rfl
  have := key xs [] (by rw [List.length_nil]; omega) he
  rwa [List.nil_append] at this
/-- with a test -/
theorem comp_filM {α : Type} {i : Nat} {t : M Bool} {e : M D} {g : α → D} {p : α → Bool} {f : α → D} {xs : List α} {ρ : List Sl} (hf : isFree ρ[i]? = true) (hl : xs.length ≤ 100000) (ht : ∀ x ∈ xs, t (ρ.set i (.val (g x))) = .ok (p x) (ρ.set i (.val (g x)))) (he : ∀ x ∈ xs, p x = true → e (ρ.set i (.val (g x))) = .ok (f x) (ρ.set i (.val (g x)))) : compL (gN i) t e [i] (xs.map g) [] ρ = .ok ((xs.filter p).map f) ρ := by
  have key : ∀ (xs : List α) (acc : List D), acc.length + xs.length ≤ 100000 → (∀ x ∈ xs, t (ρ.set i (.val (g x))) = .ok (p x) (ρ.set i (.val (g x)))) → (∀ x ∈ xs, p x = true → e (ρ.set i (.val (g x))) = .ok (f x) (ρ.set i (.val (g x)))) → compL (gN i) t e [i] (xs.map g) acc ρ = .ok (acc ++ (xs.filter p).map f) ρ := fun xs => by
    induction xs with
    | nil => intro acc _ _ _; rw [List.map_nil, List.filter_nil, List.map_nil, List.append_nil]; rfl
    | cons x xs ih =>
      intro acc hl ht he
      obtain ⟨s, hs⟩ : ∃ s, ρ[i]? = some s := by
        cases q : ρ[i]? with
        | none => rw [q] at hf; cases hf
        | some s => exact ⟨s, rfl⟩
      have hlt : i < ρ.length := (List.getElem?_eq_some_iff.mp hs).1
      have hall : (([i] : List Nat).all fun v => isFree ρ[v]?) = true := by simp [hf]
      rw [List.map_cons]
      unfold compL
      rw [if_pos hall]
      have hm : gN i (g x) (wipeS ρ [i]) = some (ρ.set i (.val (g x))) := by
        show (if notBor (ρ.set i Sl.no)[i]? = true then some ((ρ.set i Sl.no).set i _) else none) = _
        rw [List.getElem?_set_self hlt, List.set_set]
        rfl
      rw [hm]
      have hb : backS ρ (ρ.set i (.val (g x))) [i] = ρ := by
        show (ρ.set i (.val (g x))).set i (ρ.getD i .no) = ρ
        rw [List.set_set, List.getD_eq_getElem?_getD, hs]
        exact set_self_at hs
      rw [List.length_cons] at hl
      dsimp only
      rw [ht x List.mem_cons_self]
      cases hp : p x with
      | false =>
        dsimp only
        rw [hb, ih _ (by omega) (fun x hx => ht x (List.mem_cons_of_mem _ hx)) (fun x hx => he x (List.mem_cons_of_mem _ hx)), List.filter_cons_of_neg (by rw [hp]; exact Bool.false_ne_true)]
      | true =>
        dsimp only
        rw [he x List.mem_cons_self hp]
        dsimp only
        rw [if_pos (by omega), hb, ih _ (by rw [List.length_append, List.length_singleton]; omega) (fun x hx => ht x (List.mem_cons_of_mem _ hx)) (fun x hx => he x (List.mem_cons_of_mem _ hx)), List.append_assoc, List.filter_cons_of_pos hp, List.map_cons]
        rfl
  have := key xs [] (by rw [List.length_nil]; omega) ht he
  rwa [List.nil_append] at this
/-! walks over dicts -/
def dctI (s : Option Sl) (mk : List (Key × D) → List D) (ρ : List Sl) : R (List D) := match s with
  | some (.val (.dK kvs)) => .ok (mk kvs) ρ
  | _ => .bad
theorem iDct_ap {i : Nat} {mk : List (Key × D) → List D} {ρ : List Sl} : iDct (plV i) mk ρ = dctI ρ[i]? mk ρ := id (by
  unfold iDct plV dctI
  cases q : ρ[i]? with
  | none => rfl
  | some s => cases s with
    | val d => cases d <;> rfl
    | _ => rfl)
theorem dctI_val {kvs : List (Key × D)} {mk : List (Key × D) → List D} {ρ : List Sl} : dctI (some (.val (.dK kvs))) mk ρ = .ok (mk kvs) ρ := id rfl
theorem popAt_ok {ds : List D} {i : Int} {d : D} (h0 : 0 ≤ i) (h1 : i < 1000000) (h : ds[i.toNat]? = some d) : opPopAt (.lst ds) [.int i] = some (d, .lst (ds.eraseIdx i.toNat)) := by
  show (if -(2 ^ 63) ≤ i ∧ i < 2 ^ 63 then match seqIndex? i ds.length with
    | some k => match ds[k]? with
      | some y => some (y, D.lst (ds.eraseIdx k))
      | none => none
    | none => none
    else none) = _
  rw [if_pos (by omega)]
  have hl : i.toNat < ds.length := (List.getElem?_eq_some_iff.mp h).1
  have e : seqIndex? i ds.length = some i.toNat := by
    unfold seqIndex?
    simp only
    split <;> split <;> simp_all <;> omega
  rw [e]
  dsimp only
  rw [h]
end NT

set_option Elab.async false
set_option linter.all false
set_option maxRecDepth 100000
set_option maxHeartbeats 4000000
namespace PySem.W
open PySem PySem.Spec PySem.Calls PyProof.Rows
section
variable {M : Model} {K : Frag} {A : Around} {E : Value → Shared → Prop} {s : Shared}
theorem nt_forIn_all {f : Value → PUnit → Sem (ForInStep PUnit)} {R : PUnit → Shared → Prop} (hR : R PUnit.unit s) : ∀ (ds : List Value), (∀ c ∈ ds, ∀ T : ForInStep PUnit → Shared → Prop, T (.yield PUnit.unit) s → wpAny M A (f c PUnit.unit) T E s) → wpAny M A (forIn ds PUnit.unit f) R E s
  | [], _ => by rw [List.forIn_nil]; exact wpAny_pure hR
  | c :: ds, h => by
    rw [List.forIn_cons]
    exact wpAny_bind (h c List.mem_cons_self _ (nt_forIn_all hR ds fun x hx => h x (List.mem_cons_of_mem _ hx)))
theorem nt_forIn_any {f : Value → Option Bool × Unit → Sem (ForInStep (Option Bool × Unit))} {bs : Value → Bool} {R : Option Bool × Unit → Shared → Prop} : ∀ (ds : List Value), R (if ds.any bs then (some true, ()) else (none, ())) s → (∀ c ∈ ds, ∀ T : ForInStep (Option Bool × Unit) → Shared → Prop, T (if bs c then .done (some true, ()) else .yield (none, ())) s → wpAny M A (f c (none, ())) T E s) → wpAny M A (forIn ds (none, ()) f) R E s
  | [], hR, _ => by rw [List.forIn_nil]; exact wpAny_pure hR
  | c :: ds, hR, h => by
    rw [List.forIn_cons]
    refine wpAny_bind (h c List.mem_cons_self _ ?_)
    rw [List.any_cons] at hR
    cases q : bs c with
    | true =>
      rw [q] at hR
      exact wpAny_pure hR
    | false =>
      rw [q, Bool.false_or] at hR
      exact nt_forIn_any ds hR fun x hx => h x (List.mem_cons_of_mem _ hx)
theorem nt_any_all {cls : Value} : ∀ {cs : List Value} {b : Bool}, exmAny K cls cs = some b → (∀ c ∈ cs, ∃ v, exmOne K cls c = some v) ∧ b = cs.any fun c => exmOne K cls c == some true
  | [], b, h => by cases h; exact ⟨fun c hc => (by cases hc), rfl⟩
  | c :: cs, b, h => by
    obtain ⟨b1, d1, h1, h2, h3⟩ := exmAny_cons h
    obtain ⟨i1, i2⟩ := nt_any_all h2
    refine ⟨fun x hx => ?_, ?_⟩
    · rcases List.mem_cons.mp hx with e | e
      · rw [e]; exact ⟨b1, h1⟩
      · exact i1 x e
    · rw [List.any_cons, h3, i2, h1]
      congr 1
      cases b1 <;> rfl
theorem nt_exm_tups {cs : List Value} {cls : Value} {tp e : Addr} {b : Bool} {h : Heap} (X : K.In h) (LT : Looks M h (typeOf (.ref e)) cls) (hp : h.get? tp = some { cls := .type "tuple", data := .seq cs.toArray }) (hx : exmAny K cls cs = some b) :
    Looks M h (excMatches (.ref e) (.ref tp)) b := by
  intro A Q E s k₀ q
  obtain ⟨hh, g, d, tk, os⟩ := s
  have k : ∀ b o, h.get? b = some o → hh.get? b = some o := k₀
  have LT0 : Looks M h (isInstance (.ref tp) (.type "tuple")) true := ((Looks.ld hp).andThen .now).andThen (Looks.of_pure isSubtype_tuple_tuple)
  have LT := LT.keeps k
  have LT0 := LT0.keeps k
  have hp' := k _ _ hp
  obtain ⟨h1, h2⟩ := nt_any_all hx
  unfold excMatches
  refine wpAny_bind (LT0.at ?_)
  dsimp only
  rw [if_pos rfl]
  first
    | refine wpAny_bind (wpAny_seqItems hp' rfl ?_)
    | refine wpAny_bind (wpAny_bind (wpAny_seqItems hp' rfl (wpAny_pure ?_)))
  dsimp only [Option.getD_some, Option.getD]
  refine wpAny_bind (wpAny_pure (wpAny_bind (nt_forIn_all ?_ cs fun c hc T hT => ?_)))
  · refine wpAny_bind (LT.at ?_)
    refine wpAny_bind (nt_forIn_any (bs := fun c => exmOne K cls c == some true) cs ?_ fun c hc T hT => ?_)
    · rw [← h2]
      cases b <;> exact wpAny_pure q
    · obtain ⟨v, hv⟩ := h1 c hc
      obtain ⟨_, S1⟩ := exm_cls (M := M) X hv
      refine wpAny_bind ((S1.keeps k).at ?_)
      rw [hv] at hT
      cases v <;> exact wpAny_pure hT
  · obtain ⟨v, hv⟩ := h1 c hc
    obtain ⟨e1, _⟩ := exm_cls (M := M) X hv
    refine wpAny_bind ((e1.keeps k).at ?_)
    exact wpAny_pure hT
end
end PySem.W

set_option Elab.async false
set_option linter.all false
set_option maxRecDepth 100000
set_option maxHeartbeats 4000000
namespace L2
open PySem PySem.Spec PyProof.Rows
/-! several except clauses: each names a class or a tuple of classes, and may bind a name -/
/-- what an except clause's test does -/
def Tst (X : Cx) (e : Expr) (t : Value → Option Bool) : Prop :=
  ∀ {a : Addr} {oe : Obj} {pn : List (Addr × Obj)} {σ : St} {H : Hp} {s : Shared} {cls : Value} {b : Bool}, Inv (X.suite a ((a, oe) :: pn)) [] σ H s → PySem.W.Looks (model X.prog X.w) s.heap (typeOf (.ref a)) cls → t cls = some b →
    ∀ {Q : Bool → Shared → Prop} {E E' : Value → Shared → Prop}, (∀ h', (∀ b o, s.heap.get? b = some o → h'.get? b = some o) → Q b { s with heap := h' }) →
      wpAny (model X.prog X.w) (X.A.mark (some (.ref a))) (eval e X.env) (fun c s₁ => wpAny (model X.prog X.w) (X.A.mark (some (.ref a))) (excMatches (.ref a) c) Q E' s₁) E s
section
variable {X : Cx}
theorem names_ld {x : Str} {c : Value} {np : Pos} {pins : List (Addr × Obj)} {σ : St} {H : Hp} {s : Shared} (hc : Names X x c) (S : Inv X pins σ H s) {Q : Value → Shared → Prop} {E : Value → Shared → Prop} (q : Q c s) : wpAny (model X.prog X.w) X.A (eval (.Name x np) X.env) Q E s := by
  obtain ⟨hg, hdbg, hm | ⟨hm, hv, hnn⟩⟩ := hc
  · exact ld_glob S hg hm q hdbg
  · exact ld_blt S hg hm hv q hnn hdbg
theorem Names.suite {x : Str} {c : Value} {a : Addr} {pn : List (Addr × Obj)} (h : Names X x c) : Names (X.suite a pn) x c := h
theorem tst_one {x : Str} {c : Value} {np : Pos} (hc : Names X x c) : Tst X (.Name x np) (fun cls => PySem.W.exmOne X.K cls c) := by
  intro a oe pn σ H s cls b S LT hb Q E E' q
  refine names_ld (X := X.suite a ((a, oe) :: pn)) hc.suite S ?_
  exact (PySem.W.exm_one (M := model X.prog X.w) S.kIn LT hb).here (q s.heap fun _ _ z => z)
inductive NamesL (X : Cx) : List Expr → List Value → Prop
  | nil : NamesL X [] []
  | cons {x : Str} {c : Value} {np : Pos} {es : List Expr} {cs : List Value} (h : Names X x c) (r : NamesL X es cs) : NamesL X (.Name x np :: es) (c :: cs)
theorem namesL_suite {a : Addr} {pn : List (Addr × Obj)} {es : List Expr} {cs : List Value} (h : NamesL X es cs) : NamesL (X.suite a pn) es cs := by
  induction h with
  | nil => exact .nil
  | cons h r ih => exact .cons h.suite ih
theorem namesL_ld {es : List Expr} {cs : List Value} {pos : Pos} {pins : List (Addr × Obj)} {σ : St} {H : Hp} {s : Shared} (hn : NamesL X es cs) (S : Inv X pins σ H s) {E : Value → Shared → Prop} : ∀ {Q : List Value → Shared → Prop}, Q cs s → wpAny (model X.prog X.w) X.A (spliced (backTo pos (starEach es X.env))) Q E s := by
  induction hn with
  | nil => exact fun {Q} q => Calls.spliced_nil q
  | @cons x c np es cs h r ih =>
    intro Q q
    show wpAny _ _ (spliced ((false, eval (.Name x np) X.env) :: backTo pos (starEach es X.env))) _ _ s
    exact Calls.spliced_cons (names_ld h S (ih q))
theorem tst_tup {es : List Expr} {cs : List Value} {x1 : _} {pos : Pos} (hn : NamesL X es cs) (hl : cs.length ≤ sizeLine) : Tst X (.Tuple es x1 pos) (fun cls => PySem.W.exmAny X.K cls cs) := by
  intro a oe pn σ H s cls b S LT hb Q E E' q
  refine wpAny_Tuple_spliced (namesL_ld (X := X.suite a ((a, oe) :: pn)) (namesL_suite hn) S ⟨hl, ?_⟩)
  have k : ∀ b o, s.heap.get? b = some o → (s.heap.push { cls := .type "tuple", data := .seq cs.toArray }).get? b = some o := fun b o e => Heap.get?_push_of_some _ e
  exact (PySem.W.nt_exm_tups (M := model X.prog X.w) (S.kIn.keeps k) (LT.keeps k) (Heap.get?_push_size _ rfl) hb).here (q _ k)
theorem flying_keeps {base : Heap} {l : List Env} {e : Addr} {Z : Obj → Prop} {h h' : Heap} (k : ∀ b o, h.get? b = some o → h'.get? b = some o) (f : HandSPX.FlyingZ base l e Z h) : HandSPX.FlyingZ base l e Z h' := by
  obtain ⟨f1, f2, f3, oe, vs, T, oT, ts, g1, g2, g3, g4, g5, g6, g7, g8, g9⟩ := f
  exact ⟨fun b o z => k b o (f1 b o z), f2, f3.of_keeps fun b o z _ => ⟨o, k b o z, rfl⟩, oe, vs, T, oT, ts, k _ _ g1, g2, g3, g4, g5, g6, k _ _ g7, g8, g9⟩
end
/-- a clause: its test, its name's slot, its suite -/
abbrev ClD := (Value → Option Bool) × Option Nat × (Addr → Value → Option Addr → TS)
def wCls (Wout : WX) (D : Ends) : List ClD → WX
  | [] => Wout
  | (t, none, ts) :: r => fun cls d σ H => ∃ b, t cls = some b ∧ (b = true → ∀ a, H a = none → ts a cls d D σ H) ∧ (b = false → wCls Wout D r cls d σ H)
  | (t, some i, ts) :: r => fun cls d σ H => ∃ b, t cls = some b ∧ (b = true → ∀ a, H a = none → ts a cls d { nx := fun σ' H' => D.nx (σ'.set i none) H', rt := D.rt, bk := fun σ' H' => D.bk (σ'.set i none) H', ct := fun σ' H' => D.ct (σ'.set i none) H' } (σ.set i (some (.ref a))) H) ∧ (b = false → wCls Wout D r cls d σ H)
inductive ClsOk (X : Cx) : List ExceptHandler → List ClD → Prop
  | nil : ClsOk X [] []
  | cons {e : Expr} {t : Value → Option Bool} {ts : Addr → Value → Option Addr → TS} {b₀ : Stmt} {suite : List Stmt} {pos' : Pos} {hds : List ExceptHandler} {l : List ClD} (hc : Tst X e t)
      (hsu : ∀ (a : Addr) (oe : Obj) (cls : Value) (d : Option Addr) (pn : List (Addr × Obj)), Zc cls d oe → (∃ vs, oe.data = .fields vs) → PSs (X.suite a ((a, oe) :: pn)) (b₀ :: suite) (ts a cls d)) (r : ClsOk X hds l) :
      ClsOk X (.ExceptHandler (some e) none (b₀ :: suite) pos' :: hds) ((t, none, ts) :: l)
  | consAs {e : Expr} {n : Str} {i : Nat} {t : Value → Option Bool} {ts : Addr → Value → Option Addr → TS} {b₀ : Stmt} {suite : List Stmt} {pos' : Pos} {hds : List ExceptHandler} {l : List ClD} (hc : Tst X e t) (hN : X.N.Nodup) (hi : X.N[i]? = some n) (hln : X.env.kindOf n = some .local)
      (hsu : ∀ (a : Addr) (oe : Obj) (cls : Value) (d : Option Addr) (pn : List (Addr × Obj)), Zc cls d oe → (∃ vs, oe.data = .fields vs) → PSs (X.suite a ((a, oe) :: pn)) (b₀ :: suite) (ts a cls d)) (r : ClsOk X hds l) :
      ClsOk X (.ExceptHandler (some e) (some n) (b₀ :: suite) pos' :: hds) ((t, some i, ts) :: l)
section
variable {X : Cx} {body : List Stmt} {h₀ : ExceptHandler} {hds : List ExceptHandler} {l : List ClD} {pos : Pos} {tb : WX → TS} {Wout : WX}
theorem ps_try_cls (hs : X.stack = X.env :: X.outer) (hf : X.env.frame = some X.env.locals) (tk : Takes X Wout)
    (hb : ∀ (W : WX) (pn : List (Addr × Obj)) (xe : Value → Shared → Prop), Takes (X.tr pn xe) W → PassesOwn (model X.prog X.w) X.A X.env xe → PSs (X.tr pn xe) body (tb W))
    (hh : ClsOk X (h₀ :: hds) l) : PS X (.Try body (h₀ :: hds) [] [] pos) (fun D σ H => tb (wCls Wout D l) D σ H) := by
  refine ⟨fun pins s σ H D I h => ?_⟩
  have ok := I.ok
  have hfr : X.A.frames = some (X.env :: X.outer) := by rw [ok.frames, hs]
  refine wpAny_Try_except ?_
  refine wpAny_mono ((hb (wCls Wout D l) (X.pn ++ pins) (fun e s₁ => wpAny (model X.prog X.w) X.A (noteFrame e X.env) (fun _ s₂ => wpAny (model X.prog X.w) X.A (setFlight e none) (fun _ s₃ =>
    wpAny (model X.prog X.w) X.A (handleBy e X.env (h₀ :: hds)) (SP X pins D) X.xe s₃) X.xe s₂) X.xe s₁) (fun u s' xx => ?_) PassesOwn.looking).run [] s σ H D (I.toTry _) h) (fun f s1 hsp => ?_) (fun e s1 he => he)
  · obtain ⟨a, B, sI, pins', σ', H', cls, d, rfl, J', nb, up, sky, na, os, ag, w⟩ := xx
    have J : Inv X pins σ' H' sI := J'.ofTry ok
    have sky' : Sky B (X.env :: X.outer) a (Zc cls d) X.env.locals s'.heap := by rw [← hs]; exact sky
    show wpAny (model X.prog X.w) X.A (noteFrame (.ref a) X.env) _ _ _
    refine Sky.land Zc.steady hfr hf sky' fun h3 fl3 up3 => ?_
    have notFr : ∀ {h : Heap} {o : Obj} {vs : Array Value}, h.FunFrames B (X.env :: X.outer) → h.get? a = some o → o.data = .fields vs → a ∉ frs (X.env :: X.outer) := fun {h o vs} ff e dd hm => by
      obtain ⟨_, o', e', hnf⟩ := ff.mem hm
      rw [e] at e'; cases e'
      exact hnf _ dd
    obtain ⟨oe3, vs3, he3, hz3, hd3⟩ := fl3.there
    have nfr := notFr fl3.2.2.1 he3 hd3
    have nL : a ≠ X.env.locals := fun z => nfr (List.mem_filterMap.mpr ⟨X.env, List.mem_cons_self, by rw [hf, z]⟩)
    have nF : a ∉ X.fs := fun hm => by
      obtain ⟨e, he, q⟩ := List.mem_filterMap.mp hm
      exact nfr (List.mem_filterMap.mpr ⟨e, List.mem_cons_of_mem _ he, q⟩)
    have go : ∀ {hds' : List ExceptHandler} {l' : List ClD}, ClsOk X hds' l' → ∀ (h3 : Heap), HandSPX.FlyingZ B (X.env :: X.outer) a (Zc cls d) h3 → sI.heap.UpToSlots h3 → wCls Wout D l' cls d σ' H' →
        wpAny (model X.prog X.w) X.A (handleBy (.ref a) X.env hds') (SP X pins D) X.xe { s' with heap := h3 } := by
      intro hds' l' hk
      induction hk with
      | nil =>
        intro h3 fl3 up3 w
        refine wpAny_handleBy_nil ?_
        obtain ⟨k1, k2, k3, oe, vs, T, oT, ts', he, hz, hd, h1, hr⟩ := id fl3
        unfold PySem.passOn
        refine wpAny_bind (wpAny_field he hd h1 ?_)
        rw [if_neg (show ¬ ((Value.ref T == Value.none) = true) from by simp)]
        have fin : wpAny (model X.prog X.w) X.A (setFlight (.ref a) X.env.frame) (fun _ s4 => wpAny (model X.prog X.w) X.A (throw (.ref a) : Sem Flow) (SP X pins D) X.xe s4) X.xe { s' with heap := h3 } := by
          rw [hf]
          refine HandSPX.setFlight_upZ fl3 fun h4 hh4 up4 => wpAny_throw (tk _ _ ?_)
          exact ⟨a, B, sI, pins, σ', H', cls, d, rfl, J, nb, up3.trans up4, .inr (.inr (by rw [hs]; exact hh4)), na, os, ag, w⟩
        first
          | exact wpAny_bind (wpAny_pure (wpAny_bind fin))
          | exact wpAny_bind fin
      | @cons e t ts b₀ suite pos' hds2 l2 hc hsu r ih =>
        intro h3 fl3 up3 w
        obtain ⟨b, hb1, hyes, hno⟩ := w
        have J3 : Inv X pins σ' H' { s' with heap := h3 } := J.landed nb fl3.1 up3 os ag
        obtain ⟨oe3, vs3, he3, hz3, hd3⟩ := fl3.there
        have S3 := J3.suite he3 hd3 na nL nF
        refine wpAny_handleBy_cons (codeAny_handlers_test ?_) (by intro q; cases q)
        have LT : PySem.W.Looks (model X.prog X.w) h3 (typeOf (.ref a)) cls := fun A Q E s k q => wpAny_typeOf_ref (k _ _ he3) (by rw [hz3.1]; exact q)
        refine hc S3 LT hb1 fun h5 k5 => ?_
        have fl5 := flying_keeps k5 fl3
        have up5 : sI.heap.UpToSlots h5 := up3.trans (Heap.UpToSlots.of_keeps k5)
        cases b with
        | true =>
          refine codeAny_handlers_suite ?_
          refine HandSPX.lands_againZ fl5 fun h4 fl4 up4 => ?_
          have J4 : Inv X pins σ' H' { s' with heap := h4 } := J.landed nb fl4.1 (up5.trans up4) os ag
          obtain ⟨oe4, vs4, he4, hz4, hd4⟩ := fl4.there
          have S4 := J4.suite he4 hd4 na nL nF
          refine wpAny_mono ((hsu a oe4 cls d (X.pn ++ pins) hz4 ⟨_, hd4⟩).run [] _ _ H' _ S4 (hyes rfl a na)) (fun f s6 hsp => ?_) (fun _ _ z => False.elim z)
          cases f with
          | next =>
            obtain ⟨σ6, H6, S6, q6⟩ := hsp
            exact ⟨_, _, S6.unsuite ok, q6⟩
          | brk =>
            obtain ⟨σ6, H6, S6, q6⟩ := hsp
            exact ⟨_, _, S6.unsuite ok, q6⟩
          | cont =>
            obtain ⟨σ6, H6, S6, q6⟩ := hsp
            exact ⟨_, _, S6.unsuite ok, q6⟩
          | ret u =>
            obtain ⟨v6, σ6, H6, S6, r6, q6⟩ := hsp
            exact ⟨_, _, _, S6.unsuite ok, r6, q6⟩
        | false =>
          show wpAny _ X.A (handleBy (.ref a) X.env hds2) _ _ _
          exact ih h5 fl5 up5 (hno rfl)
      | @consAs e n i t ts b₀ suite pos' hds2 l2 hc hN hi hln hsu r ih =>
        intro h3 fl3 up3 w
        obtain ⟨b, hb1, hyes, hno⟩ := w
        have hloc : Loc X.env.scope n := .inl hln
        have J3 : Inv X pins σ' H' { s' with heap := h3 } := J.landed nb fl3.1 up3 os ag
        obtain ⟨oe3, vs3, he3, hz3, hd3⟩ := fl3.there
        have S3 := J3.suite he3 hd3 na nL nF
        refine wpAny_handleBy_cons (codeAny_handlers_test ?_) (by intro q; cases q)
        have LT : PySem.W.Looks (model X.prog X.w) h3 (typeOf (.ref a)) cls := fun A Q E s k q => wpAny_typeOf_ref (k _ _ he3) (by rw [hz3.1]; exact q)
        refine hc S3 LT hb1 fun h5 k5 => ?_
        have fl5 := flying_keeps k5 fl3
        have up5 : sI.heap.UpToSlots h5 := up3.trans (Heap.UpToSlots.of_keeps k5)
        cases b with
        | true =>
          refine codeAny_handlers_suite_as ?_
          refine HandSPX.lands_againZ fl5 fun h4 fl4 up4 => ?_
          have J4 : Inv X pins σ' H' { s' with heap := h4 } := J.landed nb fl4.1 (up5.trans up4) os ag
          obtain ⟨oe4, vs4, he4, hz4, hd4⟩ := fl4.there
          have S4 := J4.suite he4 hd4 na nL nF
          refine store_ok (X := X.suite a ((a, oe4) :: (X.pn ++ pins))) (v := .ref a) S4 hN hi hloc rfl (fun s5 S5 => ?_) (.inr hln)
          refine wpAny_mono ((hsu a oe4 cls d (X.pn ++ pins) hz4 ⟨_, hd4⟩).run [] s5 _ H' _ S5 (hyes rfl a na)) (fun f s6 hsp => ?_) (fun _ _ z => False.elim z)
          have end_ : ∀ {σ6 : St} {H6 : Hp} {Q : Shared → Prop}, Inv (X.suite a ((a, oe4) :: (X.pn ++ pins))) [] σ6 H6 s6 → (∀ s7, Inv X pins (σ6.set i none) H6 s7 → Q s7) →
              wpAny (model X.prog X.w) X.A (do bindName X.env n .none; unbindBehindTheSuite X.env n pos') (fun _ s7 => Q s7) X.xe s6 := fun {σ6 H6 Q} S6 hq => gone_ok (S6.unsuite ok) hN hi hln hq
          cases f with
          | next =>
            obtain ⟨σ6, H6, S6, q6⟩ := hsp
            exact end_ S6 fun s7 J7 => ⟨_, _, J7, q6⟩
          | brk =>
            obtain ⟨σ6, H6, S6, q6⟩ := hsp
            exact end_ S6 fun s7 J7 => ⟨_, _, J7, q6⟩
          | cont =>
            obtain ⟨σ6, H6, S6, q6⟩ := hsp
            exact end_ S6 fun s7 J7 => ⟨_, _, J7, q6⟩
          | ret u =>
            obtain ⟨v6, σ6, H6, S6, r6, q6⟩ := hsp
            exact end_ S6 fun s7 J7 => ⟨_, _, _, J7, r6, q6⟩
        | false =>
          show wpAny _ X.A (handleBy (.ref a) X.env hds2) _ _ _
          exact ih h5 fl5 up5 (hno rfl)
    exact go hh h3 fl3 (up.trans up3) w
  · cases f with
    | next =>
      obtain ⟨σ', H', J', q⟩ := hsp
      exact wpAny_execs_nil ⟨σ', H', J'.ofTry ok, q⟩
    | brk =>
      obtain ⟨σ', H', J', q⟩ := hsp
      exact ⟨σ', H', J'.ofTry ok, q⟩
    | cont =>
      obtain ⟨σ', H', J', q⟩ := hsp
      exact ⟨σ', H', J'.ofTry ok, q⟩
    | ret u =>
      obtain ⟨v, σ', H', J', r, q⟩ := hsp
      exact ⟨v, σ', H', J'.ofTry ok, r, q⟩
end
end L2

namespace NT
open PySem L2
/-! ### the plain reading of such a try -/
def plainH (g : MS) : Nat → MS := fun _ ρ => match g ρ with
  | .ex _ _ => .bad
  | o => o
def nameH (i : Nat) (g : Nat → Addr → MS) : Nat → MS := fun c ρ => if isFree ρ[i]? then wipeO i (g c 0 (ρ.set i (.val (.exn 0)))) else .bad
def handG : List ((Nat → Option Bool) × (Nat → MS)) → Nat → MS
  | [], c => fun ρ => .ex c ρ
  | (t, g) :: r, c => fun ρ => match t c with
    | some true => g c ρ
    | some false => handG r c ρ
    | none => .bad
def sTryG (hs : List ((Nat → Option Bool) × (Nat → MS))) (f : MS) : MS := fun ρ => match f ρ with
  | .ex c ρ' => handG hs c ρ'
  | o => o
section
variable {X : Cx} {cls : Nat → Value} {W : WX}
inductive QHG (X : Cx) (cls : Nat → Value) : List ExceptHandler → List ((Nat → Option Bool) × (Nat → MS)) → Prop
  | nil : QHG X cls [] []
  | cons {e : Expr} {tv : Value → Option Bool} {t : Nat → Option Bool} {g : MS} {b₀ : Stmt} {suite : List Stmt} {pos' : Pos} {hds : List ExceptHandler} {hs : List ((Nat → Option Bool) × (Nat → MS))} (hc : Tst X e tv) (ht : ∀ c b, t c = some b → tv (cls c) = some b)
      (hsu : ∀ (a : Addr) (oe : PySem.Obj) (pn : List (Addr × PySem.Obj)), QB (X.suite a ((a, oe) :: pn)) cls noW (b₀ :: suite) g) (r : QHG X cls hds hs) :
      QHG X cls (.ExceptHandler (some e) none (b₀ :: suite) pos' :: hds) ((t, plainH g) :: hs)
  | consAs {e : Expr} {n : Str} {i : Nat} {tv : Value → Option Bool} {t : Nat → Option Bool} {g : Nat → Addr → MS} {b₀ : Stmt} {suite : List Stmt} {pos' : Pos} {hds : List ExceptHandler} {hs : List ((Nat → Option Bool) × (Nat → MS))} (hc : Tst X e tv) (hN : X.N.Nodup) (hi : X.N[i]? = some n) (hln : X.env.kindOf n = some .local) (ht : ∀ c b, t c = some b → tv (cls c) = some b)
      (hsu : ∀ (c : Nat) (a : Addr) (oe : PySem.Obj) (pn : List (Addr × PySem.Obj)), t c = some true → Zc (cls c) none oe → (∃ vs, oe.data = .fields vs) → QB (X.suite a ((a, oe) :: pn)) cls noW (b₀ :: suite) (g c a))
      (hnat : ∀ (c : Nat) (a : Addr) (ρ : List Sl), isFree ρ[i]? = true → wipeO i (g c a (ρ.set i (.val (.exn a)))) = wipeO i (g c 0 (ρ.set i (.val (.exn 0))))) (r : QHG X cls hds hs) :
      QHG X cls (.ExceptHandler (some e) (some n) (b₀ :: suite) pos' :: hds) ((t, nameH i g) :: hs)
theorem qg_ok {hds : List ExceptHandler} {hs : List ((Nat → Option Bool) × (Nat → MS))} (q : QHG X cls hds hs) : ∃ l, ClsOk X hds l ∧ ∀ D c ρ F G σ H, CS X.K F G H σ ρ → PO X.K cls W F G D (handG hs c ρ) → wCls W D l (cls c) none σ H := by
  induction q with
  | nil => exact ⟨[], .nil, fun D c ρ F G σ H cs po => po σ G H (Same.refl G) cs⟩
  | @cons e tv t g b₀ suite pos' hds hs hc ht hsu r ih =>
    obtain ⟨l, h1, h2⟩ := ih
    refine ⟨(tv, none, fun _ _ _ => tOfS X.K cls NT.noW g) :: l, .cons hc (fun a oe _ _ pn _ _ => (hsu a oe pn).pss) h1, fun D c ρ F G σ H cs po => ?_⟩
    unfold handG at po
    cases e : t c with
    | none =>
      rw [e] at po
      exact po.elim
    | some b =>
      rw [e] at po
      refine ⟨b, ht c b e, fun hb a ha => ?_, fun hb => ?_⟩
      · subst hb
        dsimp only at po
        refine ⟨F, ρ, G, cs, ?_⟩
        unfold plainH at po
        split at po
        · exact po.elim
        · rename_i hn
          exact PO.noW po fun c' ρ' q => hn c' ρ' q
      · subst hb
        exact h2 D c ρ F G σ H cs po
  | @consAs e n i tv t g b₀ suite pos' hds hs hc hN hi hln ht hsu hnat r ih =>
    obtain ⟨l, h1, h2⟩ := ih
    refine ⟨(tv, some i, fun a cl d E σ H => ∃ c, cl = cls c ∧ d = none ∧ t c = some true ∧ tOfS X.K cls NT.noW (g c a) E σ H) :: l, .consAs hc hN hi hln (fun a oe cl d pn hz hv => ⟨fun pins s σ H D I h => ?_⟩) h1, fun D c ρ F G σ H cs po => ?_⟩
    · obtain ⟨c, rfl, rfl, h1, h2⟩ := h
      exact ((hsu c a oe pn h1 hz hv).pss).run pins s σ H D I h2
    unfold handG at po
    cases e : t c with
    | none =>
      rw [e] at po
      exact po.elim
    | some b =>
      rw [e] at po
      refine ⟨b, ht c b e, fun hb a ha => ?_, fun hb => ?_⟩
      · subst hb
        dsimp only at po
        unfold nameH at po
        split at po
        · rename_i hfree
          refine ⟨c, rfl, rfl, e, F, ρ.set i (.val (.exn a)), G, cs.setVal (free_notBor hfree) .exn, ?_⟩
          rw [← hnat c a ρ hfree] at po
          cases e3 : g c a (ρ.set i (.val (.exn a))) with
          | nx ρ2 =>
            rw [e3] at po
            unfold wipeO at po
            dsimp only at po
            split at po
            · rename_i hf2
              exact fun σ2 G2 H2 ex2 c2 => po _ G2 H2 ex2 (c2.blank hf2 none)
            · exact po.elim
          | rt d ρ2 =>
            rw [e3] at po
            unfold wipeO at po
            dsimp only at po
            split at po
            · rename_i hf2
              exact fun v σ2 G2 H2 ex2 c2 r => po v σ2 G2 H2 ex2 (c2.forget hf2) r
            · exact po.elim
          | rtN d ρ2 => rw [e3] at po; exact po.elim
          | ex c2 ρ2 => rw [e3] at po; exact po.elim
          | bad => rw [e3] at po; exact po.elim
        · exact po.elim
      · subst hb
        exact h2 D c ρ F G σ H cs po
theorem q_tryG {body : List Stmt} {h₀ : ExceptHandler} {hds : List ExceptHandler} {hs : List ((Nat → Option Bool) × (Nat → MS))} {f : MS} {pos : Pos} (hst : X.stack = X.env :: X.outer) (hf : X.env.frame = some X.env.locals) (tk : Takes X W)
    (hb : ∀ (W : WX) (pn : List (Addr × PySem.Obj)) (xe : Value → Shared → Prop), Takes (X.tr pn xe) W → QB (X.tr pn xe) cls W body f) (hh : QHG X cls (h₀ :: hds) hs) : QS X cls W (.Try body (h₀ :: hds) [] [] pos) (sTryG hs f) := by
  obtain ⟨l, h1, h2⟩ := qg_ok (W := W) hh
  refine ⟨⟨_, ps_try_cls (tb := fun W => tOfS X.K cls W f) hst hf tk (fun W pn xe t _ => (hb W pn xe t).pss) h1, fun F ρ σ G H c E po => ⟨F, ρ, G, c, ?_⟩⟩⟩
  unfold sTryG at po
  cases e : f ρ with
  | ex n ρ' =>
    rw [e] at po
    exact fun σ' G' H' ex c' => h2 E n ρ' F G' σ' H' c' (PO.mono ex po)
  | nx ρ' => rw [e] at po; exact po
  | rt d ρ' => rw [e] at po; exact po
  | rtN d ρ' => rw [e] at po; exact po
  | bad => rw [e] at po; exact po
theorem exmAny_mk {K : PySem.W.Frag} {c d : Value} {ds : List Value} {b1 b2 : Bool} (h1 : PySem.W.exmOne K c d = some b1) (h2 : PySem.W.exmAny K c ds = some b2) : PySem.W.exmAny K c (d :: ds) = some (b1 || b2) := by
  unfold PySem.W.exmAny
  rw [h1, h2]
end
end NT

set_option Elab.async false
set_option linter.all false
set_option maxRecDepth 100000
set_option maxHeartbeats 4000000
/-! t[::-1] of a tuple -/
namespace L2
open NT (layT lay_ok)
open PySem PySem.Spec PyProof.Rows
section
variable {prog : Program} {w : World} {A : Around} {E : Value → Shared → Prop} {s : Shared}
theorem adjust_rev (n : Nat) : Builtin.Slice.sliceAdjust none none (-1) (n : Int) = ((n : Int) - 1, -1) := rfl
theorem places_rev (n : Nat) : Builtin.Slice.slicePlaces ((n : Int) - 1) (-1) (-1) = n := by
  unfold Builtin.Slice.slicePlaces
  have h1 : ¬ ((-1 : Int) > 0) := by omega
  have h2 : (-(-1 : Int)) = 1 := rfl
  simp only [h1, if_false, h2, Int.ediv_one]
  split <;> omega
theorem pick_rev (xs : Array Value) : ((List.range xs.size).filterMap fun (m : Nat) => xs[(((xs.size : Int) - 1) + (m : Int) * (-1)).toNat]?).toArray = xs.toList.reverse.toArray := by
  have e : (List.range xs.size).filterMap (fun (m : Nat) => xs[(((xs.size : Int) - 1) + (m : Int) * (-1)).toNat]?) = ((List.range xs.size).map fun k => xs.size - 1 - k).filterMap (xs[·]?) := by
    rw [List.filterMap_map]
    congr 1
    funext m
    have : (((xs.size : Int) - 1) + (m : Int) * (-1)).toNat = xs.size - 1 - m := by omega
    rw [this]
    rfl
  rw [e, PySem.W.krv_range, List.filterMap_reverse, PySem.W.krv_all]
theorem sliceApplied_rev {sl : Addr} {vs : Value} {n : Nat} {Q : Int × Int × Nat → Shared → Prop} (hs : s.heap.IsSliceOf sl .none .none vs) (ps : IsPart vs (some (-1)))
    (h : Q ((n : Int) - 1, -1, n) s) : wpAny (model prog w) A (Builtin.Slice.sliceApplied (.ref sl) (pure (n : Int))) Q E s := by
  obtain ⟨os, hos, hcs, hds⟩ := id hs
  unfold Builtin.Slice.sliceApplied Builtin.Slice.sliceFields
  refine wpAny_bind (wpAny_bind (wpAny_field hos hds (x := .none) rfl (wpAny_bind (wpAny_field hos hds (x := .none) rfl (wpAny_bind (wpAny_field hos hds (x := vs) rfl (wpAny_pure ?_)))))))
  refine wpAny_bind (HT.slicePart_ ps ?_)
  show wpAny _ _ (if ((-1 : Int) == 0) = true then _ else _) _ _ s
  rw [if_neg (by decide)]
  refine wpAny_bind (HT.slicePart_ .none (wpAny_bind (HT.slicePart_ .none (wpAny_bind (wpAny_pure ?_)))))
  show wpAny _ _ (match Builtin.Slice.sliceAdjust none none (-1) (n : Int) with | (lo, hi) => pure (lo, (-1 : Int), Builtin.Slice.slicePlaces lo hi (-1))) _ _ s
  rw [adjust_rev n]
  show wpAny _ _ (pure ((n : Int) - 1, (-1 : Int), Builtin.Slice.slicePlaces ((n : Int) - 1) (-1) (-1))) _ _ s
  rw [places_rev]
  exact wpAny_pure h
theorem getItem_tuple_rev {t sl : Addr} {items : Array Value} {vs : Value} {Q : Value → Shared → Prop} (ht : IsTup s.heap t items) (hs : s.heap.IsSliceOf sl .none .none vs) (ps : IsPart vs (some (-1)))
    (h : Q (.ref s.heap.objs.size) { s with heap := s.heap.push { cls := .type "tuple", data := .seq items.toList.reverse.toArray } })
    (hsz : items.size ≤ sizeLine) : wpAny (model prog w) A (getItem (.ref t) (.ref sl)) Q E s := by
  have htake : sizeOk (.seq items.toList.reverse.toArray) := by
    show items.toList.reverse.toArray.size ≤ sizeLine
    rw [List.size_toArray, List.length_reverse, Array.length_toList]
    exact hsz
  obtain ⟨os, hos, hcs, hds⟩ := id hs
  have hTs : s.TypeIs (.ref sl) "slice" := ⟨os, hos, hcs⟩
  unfold getItem
  try with_reducible refine wpAny_holding ?_
  first | refine wpAny_bind (wpAny_pure ?_) | skip
  refine wpAny_bind (wpAny_sequenceKey ht.typeIs (by decide) ?_)
  refine wpAny_bind (wpAny_callSpecial?_slot (name := Str.ofString "__getitem__") ht.typeIs PyProof.Rows.slot_tuple_getitem
    (wpAny_call_entry PyProof.Rows.slot_tuple_getitem ht.typeIs entry_tuple_getitem ?_ (args_tuple_getitem _ _)))
  show wpAny _ _ (Builtin.Tuple.tupleItemsOf (.ref t) >>= _) _ _ s
  refine wpAny_bind (tupleItemsOf_ ht ?_)
  refine wpAny_bind (wpAny_typeOf hTs ?_)
  rw [if_pos (by decide)]
  refine wpAny_bind (sliceApplied_rev hs ps ?_)
  have hno : ¬ ((((items.size : Int) - 1) == 0 && (-1 : Int) == 1 && items.size == items.size) = true) := by
    intro q
    rw [Bool.and_eq_true, Bool.and_eq_true] at q
    exact absurd q.1.2 (by decide)
  show wpAny _ _ (if (((items.size : Int) - 1) == 0 && (-1 : Int) == 1 && items.size == items.size) = true then _ else _) _ _ s
  rw [if_neg hno, pick_rev]
  first
    | exact wpAny_bind (m := Builtin.Tuple.tupleExact _) (wpAny_newObj_type (wpAny_pure ⟨_, rfl, wpAny_pure h⟩) htake)
    | exact wpAny_bind (m := Builtin.Tuple.tupleExact _) (wpAny_newObj_type (wpAny_bind (wpAny_pure (wpAny_pure ⟨_, rfl, wpAny_pure h⟩))) htake)
end
section
variable {X : Cx}
def tRevT (K : PySem.W.Frag) (te : TE) : TE := fun σ H Q => te σ H fun x H1 => ∃ a xs, x = .ref a ∧ SqT K H1 a xs ∧ layT xs.reverse H1 Q
theorem pe_revT {e : Expr} {te : TE} {k : _} {p1 p2 p3 pos : Pos} (he : PE X e te) : PE X (.Subscript e (.Slice none none (some (.UnaryOp .USub (.Constant (.int 1) k p1) p2)) p3) pos) (tRevT X.K te) := by
  refine ⟨fun pins s σ H Q I h => ?_⟩
  refine Subscript_ (thn (he.run pins s σ H _ I h) fun v s1 ⟨x, H1, I1, r1, q1⟩ => ?_)
  obtain ⟨a, xs, ex, hx, q⟩ := q1
  subst ex
  cases r1
  have hst : PO X (some (.UnaryOp .USub (.Constant (.int 1) k p1) p2)) (tPart (tUn (rU fun i => .int (-i)) (tC (.int 1)))) := po_some (pe_un un_neg pe_int)
  refine wpAny_Slice (thn (po_none.run pins s1 σ H1 (fun o H2 => o = none ∧ H2 = H1) I1 ⟨rfl, rfl⟩) fun vl s2 ⟨l, H2, I2, pl, el, e2⟩ => ?_)
  subst el e2
  refine thn (po_none.run pins s2 σ H2 (fun o H3 => o = none ∧ H3 = H2) I2 ⟨rfl, rfl⟩) fun vu s3 ⟨u, H3, I3, pu, eu, e3⟩ => ?_
  subst eu e3
  refine thn (hst.run pins s3 σ H3 (fun o H4 => o = some (-1) ∧ H4 = H3) I3 ⟨1, rfl, -1, rfl, rfl, rfl⟩) fun vs s4 ⟨o, H4, I4, ps, eo, e4⟩ => ?_
  subst eo e4
  cases pl
  cases pu
  have I5 : Inv X pins σ H4 { s4 with heap := s4.heap.push { cls := .type "slice", data := .fields #[.none, .none, vs] } } := I4.kept (t' := s4.toks) fun b ob q => Heap.get?_push_of_some _ q
  obtain ⟨its, r, ht, hz⟩ := I5.tuple hx
  have hlen : its.toArray.size = xs.length := by rw [List.size_toArray]; exact r.length.symm
  show wpAny (model X.prog X.w) X.A (subscriptTail e (.Slice none none (some (.UnaryOp .USub (.Constant (.int 1) k p1) p2)) p3) (.ref a) (.ref s4.heap.objs.size)) (EP X pins σ Q) X.xe { s4 with heap := s4.heap.push { cls := .type "slice", data := .fields #[.none, .none, vs] } }
  refine tail_any (ops := [.ref a, .ref s4.heap.objs.size]) ht.typeIs (PyProof.Rows.slot_tuple_getitem.lookup) ?_ (by with_unfolding_all rfl)
  refine getItem_tuple_rev ht (Heap.IsSliceOf.new _ .none .none vs) ps ?_ (by rw [hlen]; exact hz)
  exact lay_ok I5 (by rw [List.length_reverse]; exact hz) r.reverse rfl rfl rfl q
end
end L2
namespace NT
open PySem L2
section
variable {X : Cx} {cls : Nat → Value} {W : WX}
def opRev (d : D) : Option D := match d with
  | .tup ds => some (.tup ds.reverse)
  | _ => none
theorem q_rev {e : Expr} {k : _} {p1 p2 p3 pos : Pos} {f : M D} (ha : QE X cls W e f) : QE X cls W (.Subscript e (.Slice none none (some (.UnaryOp .USub (.Constant (.int 1) k p1) p2)) p3) pos) (eUn opRev f) := by
  obtain ⟨⟨ta, pa, sa⟩, ia⟩ := ha
  refine ⟨⟨_, pe_revT pa, fun F ρ σ G H c Q w => ?_⟩, inert_bind ia fun _ => inert_lift⟩
  refine sa F ρ σ G H c _ ((wpR_bind w).mono (fun x ρ1 w1 v1 G1 H1 e1 c1 r1 => ?_) fun _ _ p => p)
  obtain ⟨z, ez, p⟩ := wpR_lift w1
  have p := p.mono e1
  unfold opRev at ez
  split at ez
  · cases ez
    cases r1 with
    | tup hx r => exact ⟨_, _, rfl, .inl (c1.ex.rd hx.rd), pok_lay c1 p r.reverse⟩
  · cases ez
end
end NT

set_option Elab.async false
set_option linter.all false
set_option maxRecDepth 100000
set_option maxHeartbeats 4000000
/-! xs + ys, where xs names a list of our own: its members are frozen already -/
namespace NT
open PySem L2
def lstIn : Option Sl → Option (List D)
  | some (.own (.lst xs)) => some xs
  | some (.bor (.lst xs)) => some xs
  | some (.val (.lst xs)) => some xs
  | _ => none
def eCatO (i : Nat) (g : M D) : M D := fun ρ => match lstIn ρ[i]? with
  | none => .bad
  | some _ => match g ρ with
    | .ok (.lst ys) ρ' => match lstIn ρ'[i]? with
      | some xs => if xs.length + ys.length ≤ 100000 then .ok (.lst (xs ++ ys)) ρ' else .bad
      | none => .bad
    | _ => .bad
section
variable {X : Cx} {cls : Nat → Value} {W : WX} {K : PySem.W.Frag} {F : Fm} {G H : Hp} {σ : St} {ρ : List Sl}
theorem CS.lstIn (c : CS K F G H σ ρ) {i : Nat} {xs : List D} (h : NT.lstIn ρ[i]? = some xs) : ∃ l vs, σ[i]? = some (some (.ref l)) ∧ H l = some (.lst vs) ∧ RepL K G vs xs := by
  unfold NT.lstIn at h
  split at h
  · rename_i ys e
    cases h
    obtain ⟨l, h1, h2, _⟩ := c.owns i _ e
    obtain ⟨vs, h3, h4⟩ := h2
    exact ⟨l, vs, h1, h3, h4⟩
  · rename_i ys e
    cases h
    obtain ⟨l, h1, h2, _⟩ := c.bors i _ e
    obtain ⟨vs, h3, h4⟩ := h2
    exact ⟨l, vs, h1, h3, h4⟩
  · rename_i ys e
    cases h
    obtain ⟨v, h1, h2⟩ := c.vals i _ e
    cases h2 with
    | lst hx r => exact ⟨_, _, h1, c.ex _ _ hx, r⟩
  · cases h
theorem q_catO {i : Nat} {a b : Expr} {g : M D} {pos : Pos} (pa : PE X a (tVar i)) (hb : QE X cls W b g) : QN X cls W (.BinOp a .Add b pos) (eCatO i g) := by
  obtain ⟨⟨tb, pb, sb⟩, ib⟩ := hb
  refine ⟨⟨_, pe_op op_cat pa pb, fun F ρ σ G H c Q w => ?_⟩, fun ρ n d ρ' e => ?_⟩
  · unfold eCatO at w
    split at w
    · exact w.elim
    · rename_i xs0 e0
      obtain ⟨l, vs0, h1, _, _⟩ := c.lstIn e0
      refine ⟨_, h1, sb F ρ σ G H c _ ?_⟩
      split at w
      · rename_i ys ρ1 e1
        rw [e1]
        intro v2 G2 H2 e2 c2 r2
        split at w
        · rename_i xs e3
          split at w
          · rename_i hl
            obtain ⟨l', vs, h1', h2, h3⟩ := c2.lstIn e3
            rw [h1] at h1'
            cases h1'
            cases r2 with
            | lst hy r2 => exact ⟨_, _, _, _, rfl, rfl, h2, c2.ex _ _ hy, by rw [h3.length, r2.length]; exact sz_of hl, fun q hq => pnw_lst c2 (PNw.mono e2 w) (h3.append r2) hq⟩
          · exact w.elim
        · exact w.elim
      · exact w.elim
  · unfold eCatO at e
    split at e
    · cases e
    · split at e
      · rename_i ys ρ1 e1
        split at e
        · split at e
          · cases e
            exact ib ρ n _ _ e1
          · cases e
        · cases e
      · cases e
end
/-! t * n of a tuple -/
theorem rep_all {ds : List D} (h : ds.all keyD = true) : ∀ n : Nat, (List.replicate n ds).flatten.all keyD = true
  | 0 => rfl
  | n + 1 => by rw [List.replicate_succ, List.flatten_cons, List.all_append, h, rep_all h n, Bool.and_true]
theorem rep_flat {x : D} {xs : List D} (h : (x :: xs).all keyD = true) : ∀ {n : Nat}, 1 ≤ n → flat (List.replicate n (x :: xs)).flatten = true
  | 0, z => by omega
  | n + 1, _ => by
    have := rep_all h (n + 1)
    unfold flat
    rw [this, List.replicate_succ, List.flatten_cons]
    rfl
def opRepT : D → D → Option D
  | .tup (x :: xs), .int k => if (2 ≤ k ∧ k ≤ 1000 ∧ (x :: xs).length ≤ 1000) ∧ (x :: xs).all keyD = true then some (.tup (List.replicate k.toNat (x :: xs)).flatten) else none
  | _, _ => none
theorem val_repT {K : PySem.W.Frag} : Val2 K (rRepT K) opRepT := fun F G H σ ρ x y d e z c rx ry hz Q p => by
  unfold opRepT at hz
  split at hz
  · split at hz
    · rename_i hc
      cases hz
      cases ry
      cases rx with
      | tup hx r =>
        refine ⟨_, _, _, rfl, rfl, .inl (c.ex.rd hx.rd), fun h => ?_, hc.1.1, hc.1.2.1, by rw [r.length]; exact hc.1.2.2, fun q hq => ?_⟩
        · subst h
          cases r
        · exact pok_flat (rep_flat hc.2 (by have := hc.1.1; omega)) c p (r.flat _) hq
    · cases hz
  · cases hz
end NT

set_option Elab.async false
set_option linter.all false
set_option maxRecDepth 100000
set_option maxHeartbeats 4000000
/-! dict(xs) of a list or a tuple of pairs, of a dict -/
namespace NT
open PySem L2
section
variable {X : Cx}
theorem CallR.or {f : Value} {r r' : List V → Hp → VK → Prop} (h : CallR X f r) (h' : CallR X f r') : CallR X f (fun xs H Q => r xs H Q ∨ r' xs H Q) := fun pins s σ H xs us Q I rv q =>
  q.elim (h pins s σ H xs us Q I rv) (h' pins s σ H xs us Q I rv)
theorem prs_of {pins : List (Addr × PySem.Obj)} {σ : St} {H : Hp} {s : Shared} (I : Inv X pins σ H s) : ∀ {ps : List Addr} {kvs : List (Key × V)}, Paired (fun p kv => SqT X.K H p [kV kv.1, kv.2]) ps kvs →
    ∃ (prs : List (Key × Value)) (pvs : List (Value × Value)), KV kvs prs ∧ prs.length = ps.length ∧ pvs.length = ps.length ∧
      ∀ (j : Nat) (u v : Value), pvs[j]? = some (u, v) → ∃ b k, ps[j]? = some b ∧ prs[j]? = some (k, v) ∧ PyProof.Rows.IsTup s.heap b #[u, v] ∧ keyIs k u = true
  | _, _, .nil => ⟨[], [], .nil, rfl, rfl, fun j u v e => by simp at e⟩
  | _, _, .cons (a := p) (b := kv) h t => by
    obtain ⟨prs, pvs, r, l1, l2, hp⟩ := prs_of I t
    obtain ⟨its, rv, ht, _⟩ := I.tuple h
    obtain ⟨u, y, ei, ru, ry⟩ := vals2 rv
    subst ei
    refine ⟨(kv.1, y) :: prs, (u, y) :: pvs, .cons ⟨rfl, ry⟩ r, by simp [l1], by simp [l2], fun j u1 v1 e => ?_⟩
    cases j with
    | zero =>
      cases e
      exact ⟨p, kv.1, rfl, rfl, ht, kV_is (P := X.prog) (w := X.w) ru⟩
    | succ j =>
      obtain ⟨b, k, e1, e2, e3, e4⟩ := hp j u1 v1 (by simpa using e)
      exact ⟨b, k, by simpa using e1, by simpa using e2, e3, e4⟩
/-- dict(t), t a tuple of pairs that is known to have no dict of its own -/
def rDictT (K : PySem.W.Frag) : List V → Hp → VK → Prop := fun xs H Q => ∃ (a : Addr) (o : PySem.Obj) (ps : List Addr) (kvs : List (Key × V)), xs = [.ref a] ∧ H a = some (.frz o (.tup (ps.map V.ref))) ∧ o.dict = none ∧ Paired (fun p kv => SqT K H p [kV kv.1, kv.2]) ps kvs ∧
    ∀ p, H p = none → Q (.ref p) (upd H p (.dK (mergeK [] kvs)))
theorem call_dictT (hcalm : X.calm = true) : CallR X (.type "dict") (rDictT X.K) := fun pins s σ H xs us Q I r q => by
  obtain ⟨a, o, ps, kvs, ex, hq, hd, hp, q⟩ := q
  subst ex
  obtain ⟨u, eu, rx⟩ := vals1 r
  subst eu
  cases rx
  obtain ⟨hget, hz, its, rv, o', hg2, hc, n, hdat⟩ := (show ObjOk X.prog X.w H s.heap a (.frz o (.tup (ps.map V.ref))) from I.hok a _ hq)
  rw [hget] at hg2
  cases hg2
  have ei := refs_at rv
  subst ei
  rw [List.length_map] at hz
  obtain ⟨prs, pvs, rel, l1, l2, hpr⟩ := prs_of I hp
  refine PySem.call_dict_pairs (knd := mixKind X.prog X.w) (kvs := prs) (PairArg.tuple a (ps.map Value.ref).toArray (fun j => ps.getD j 0) pvs) (I.ok.hd hcalm) ⟨⟨o, n, hget, hc, hd, hdat⟩, ⟨by simp [l2], fun j k v e => ?_⟩⟩ ⟨by rw [l1, l2], fun j k v e => ?_⟩ (by rw [l2]; exact hz) fun h' tk hd' k => ?_
  · obtain ⟨b, kk, e1, e2, e3, e4⟩ := hpr j k v e
    have eb : ps.getD j 0 = b := by rw [List.getD_eq_getElem?_getD, e1]; rfl
    show (List.map Value.ref ps).toArray[j]? = some (Value.ref (ps.getD j 0)) ∧ PairAt s.heap (ps.getD j 0) k v
    rw [eb]
    exact ⟨by simp [e1], .inl e3⟩
  · obtain ⟨b, kk, e1, e2, e3, e4⟩ := hpr j k v e
    exact ⟨kk, e2, e4⟩
  · have hm : (s.heap.objs.size == sysModules) = false := beq_eq_false_iff_ne.mpr (Nat.ne_of_gt I.big)
    have hlen : (mergeK [] kvs).length ≤ sizeLine := by
      refine Nat.le_trans (length_mergeK kvs []) ?_
      rw [List.length_nil, Nat.zero_add, rel.length, l1]
      exact hz
    exact ⟨.ref s.heap.objs.size, upd H s.heap.objs.size (.dK (mergeK [] kvs)), I.laid (t' := tk) (fun b ob e => k b ob (by simp) e) (Nat.le_refl _) (show ObjOk X.prog X.w _ _ _ (.dK (mergeK [] kvs)) from ⟨hlen, hm, merged [] prs, KV.merge rel .nil, hd'⟩), rfl, q _ (I.hok.fresh (Nat.le_refl _))⟩
/-! the denotation -/
def pairsD : List D → Option (List (Key × D))
  | [] => some []
  | .tup [k, v] :: r => match keyK k, pairsD r with
    | some k, some r => some ((k, v) :: r)
    | _, _ => none
  | _ => none
def mergeD (acc more : List (Key × D)) : List (Key × D) := more.foldl (fun acc kv => putD acc kv.1 kv.2) acc
def opDict : List D → Option D
  | [.tup ds] => if flat ds then none else (pairsD ds).map fun kvs => .dK (mergeD [] kvs)
  | [.lst ds] => (pairsD ds).map fun kvs => .dK (mergeD [] kvs)
  | [.dK kvs] => some (.dK kvs)
  | _ => none
section
variable {K : PySem.W.Frag} {G : Hp}
theorem RepK.merge : ∀ {more : List (Key × V)} {ds : List (Key × D)} {acc : List (Key × V)} {as : List (Key × D)}, RepK K G more ds → RepK K G acc as → RepK K G (mergeK acc more) (mergeD as ds)
  | _, _, _, _, .nil, h => h
  | _, _, acc, as, .cons (k := k) (v := v) (vs := vs) (d := d) (ds := ds) h r, q => by
    show RepK K G (mergeK (putK acc k v) vs) (mergeD (putD as k d) ds)
    exact RepK.merge r (RepK.put h q)
theorem pairs_rep : ∀ {ds : List D} {kvs : List (Key × D)} {vs : List V}, pairsD ds = some kvs → RepL K G vs ds → ∃ (ps : List Addr) (xs : List (Key × V)), vs = ps.map V.ref ∧ Paired (fun p (kv : Key × V) => SqT K G p [kV kv.1, kv.2]) ps xs ∧ RepK K G xs kvs
  | [], _, _, h, .nil => by cases h; exact ⟨[], [], rfl, .nil, .nil⟩
  | d :: ds, kvs, _, h, .cons (v := v) r1 r2 => by
    unfold pairsD at h
    split at h
    · rename_i e; cases e
    · rename_i k x r e
      cases e
      split at h
      · rename_i kk rr h1 h2
        cases h
        obtain ⟨ps, xs, e1, e2, e3⟩ := pairs_rep h2 r2
        cases r1 with
        | tup ht rt =>
          cases rt with
          | cons q1 q2 =>
            cases q2 with
            | cons q3 q4 =>
              cases q4
              have ek := keyK_rep h1 q1
              subst ek
              exact ⟨_ :: ps, (kk, _) :: xs, by rw [e1]; rfl, .cons (.inl ht.rd) e2, .cons q3 e3⟩
      · cases h
    · cases h
end
theorem Paired.ex {K : PySem.W.Frag} {G H : Hp} (e : Ex G H) : ∀ {ps : List Addr} {xs : List (Key × V)}, Paired (fun p (kv : Key × V) => SqT K G p [kV kv.1, kv.2]) ps xs → Paired (fun p (kv : Key × V) => SqT K H p [kV kv.1, kv.2]) ps xs
  | _, _, .nil => .nil
  | _, _, .cons h t => .cons (h.elim (fun z => .inl (e.rd z)) .inr) (Paired.ex e t)
def rDict (K : PySem.W.Frag) : List V → Hp → VK → Prop := fun xs H Q => (rDictT K xs H Q ∨ ∃ (a : Addr) (ps : List Addr) (kvs : List (Key × V)), xs = [.ref a] ∧ SqL K H a (ps.map V.ref) ∧ Paired (fun p kv => SqT K H p [kV kv.1, kv.2]) ps kvs ∧
    ∀ p, H p = none → Q (.ref p) (upd H p (.dK (mergeK [] kvs)))) ∨ ∃ (a : Addr) (kvs : List (Key × V)), xs = [.ref a] ∧ Rd H a (.dK kvs) ∧ ∀ p, H p = none → Q (.ref p) (upd H p (.dK kvs))
theorem call_dictAny (hcalm : X.calm = true) : CallR X (.type "dict") (rDict X.K) := CallR.or (CallR.or (call_dictT hcalm) (call_dictP hcalm)) call_dictD
theorem new_dict {K : PySem.W.Frag} : NewA K (rDict K) opDict := fun F G H σ ρ xs ds z c r hz Q p => by
  unfold opDict at hz
  split at hz
  · split at hz
    · cases hz
    · rename_i hf
      obtain ⟨kvs, e1, e2⟩ := Option.map_eq_some_iff.mp hz
      subst e2
      cases r with
      | cons r1 r2 =>
        cases r2
        cases r1 with
        | tup h r =>
          obtain ⟨ps, ys, e3, e4, e5⟩ := pairs_rep e1 r
          subst e3
          rcases h with ⟨f, _⟩ | ⟨_, o, h, hd⟩
          · exact absurd f hf
          · exact .inl (.inl ⟨_, o, ps, ys, rfl, c.ex _ _ h, hd, Paired.ex c.ex e4, fun q hq => pnw_dK c p (e5.merge .nil) hq⟩)
  · obtain ⟨kvs, e1, e2⟩ := Option.map_eq_some_iff.mp hz
    subst e2
    cases r with
    | cons r1 r2 =>
      cases r2
      cases r1 with
      | lst h r =>
        obtain ⟨ps, ys, e3, e4, e5⟩ := pairs_rep e1 r
        subst e3
        exact .inl (.inr ⟨_, ps, ys, rfl, .inl (.inl (c.ex _ _ h)), Paired.ex c.ex e4, fun q hq => pnw_dK c p (e5.merge .nil) hq⟩)
  · cases hz
    cases r with
    | cons r1 r2 =>
      cases r2
      cases r1 with
      | dK h r => exact .inr ⟨_, _, rfl, c.ex.rd h, fun q hq => pnw_dK c p r hq⟩
  · cases hz
end
end NT

set_option Elab.async false
set_option linter.all false
set_option maxRecDepth 100000
set_option maxHeartbeats 8000000
namespace NT.Den
open PySem L2 NT
def d_law_mixed : MS := (sSeq (sSet 2 (eBin opMod (eBin opAdd (eBin opAdd (eVar 0) (eBin opMul (eBin opMul (eVar 1) (eVar 1)) (eC (.int 40503)))) (eC (.int 12345))) (eC (.int 2305843009213693951))))
    (sSeq (sSet 2 (eBin opMod (eBin opMul (eVar 2) (eVar 2)) (eC (.int 2305843009213693951))))
    (sSeq (sSet 2 (eBin opMod (eBin opMul (eBin opAdd (eBin opAdd (eVar 2) (eBin opMul (eVar 1) (eC (.int 7919)))) (eC (.int 1))) (eC (.int 48271))) (eC (.int 2305843009213693951))))
    (sRet (eBin opFdiv (eBin opMod (eBin opMul (eVar 2) (eVar 2)) (eC (.int 2305843009213693951))) (eC (.int 1024)))))))
def d_law_deck : MS := (sSeq (sSet 2 (eBin opCat (eFn opList (aCons (eSl opSlL (eVar 0) oNone (oSome (eC (.int 60)))) aNil)) (eBin opRepL (eLst (aCons (eC (.int 0)) aNil)) (eFn opInt (aCons (eBin opEq (eFn opLen (aCons (eVar 0) aNil)) (eC (.int 0))) aNil)))))
    (sSeq (sSetN 3 (eComp (iSeq (eVar 2)) (gN 7) (mpure true) (eBin opMul (eVar 7) (eFn opInt (aCons (eBin opGe (eVar 7) (eBin opPow (eC (.int 10)) (eC (.int 18)))) aNil))) [7]))
    (sSeq (sSetN 4 (eLst aNil))
    (sSeq (sFor (iRange1 (aCons (eVar 1) aNil)) (gN 5) (sSeq (sSet 6 (eBin opMod (eVar 5) (eFn opLen (aCons (eVar 2) aNil))))
    (sIf (tVal (eBin opGt (eView (eBin opIx (eVar 3) (eVar 6))) (eC (.int 0)))) (sSeq (sExpr (eMut isLst 4 opAppend (aCons (eBin opMod (eView (eBin opIx (eVar 3) (eVar 6))) (eC (.int 1000))) aNil)))
    (sPutAt isLst 3 opSetIx (eVar 6) (eBin opFdiv (eView (eBin opIx (eVar 3) (eVar 6))) (eC (.int 1000))))) (sExpr (eMut isLst 4 opAppend (aCons (eBin opMod (eCall 2 1 d_law_mixed [] (aCons (eBin opIx (eVar 2) (eVar 6)) (aCons (eBin opAdd (eVar 5) (eC (.int 1))) aNil))) (eC (.int 1000))) aNil))))))
    (sRetN (eViewN (eUn opLstRev (eVar 4))))))))
def d_law_is : MS := (sRet (eAnd (eUn (opIsi "int") (eVar 0)) (eAnd (eNot (eUn (opIsi "bool") (eVar 0))) (eBin opEq (eVar 0) (eVar 1)))))
def d_law_next : MS := (sSeq (sIf (tVal (eBin opGt (eView (eFn opLen (aCons (eVar 0) aNil))) (eC (.int 0)))) (sRet (eMut isLst 0 opPop aNil)) sSkip)
    (sRet (eC (.int 0))))
def d_law_names : MS := (sSeq (sSetN 3 (eLst aNil))
    (sSeq (sSet 4 (eUn opNeg (eC (.int 1))))
    (sSeq (sFor (iRange1 (aCons (eVar 1) aNil)) (gN 5) (sSeq (sSet 4 (eBin opAdd (eBin opAdd (eVar 4) (eC (.int 1))) (eBin opMul (eBin opMod (eCallO 1 0 d_law_next 0 (oHere aNil)) (eC (.int 3))) (eVar 2))))
    (sExpr (eMut isLst 3 opAppend (aCons (eVar 4) aNil)))))
    (sRetO 3))))
def d_law_net : MS := (sSeq (sSet 4 (eCallO 1 0 d_law_next 0 (oHere aNil)))
    (sSeq (sSet 5 (eBin opAdd (eC (.int 1)) (eBin opMod (eVar 4) (eVar 1))))
    (sSeq (sSetN 6 (eLst aNil))
    (sSeq (sFor (iSeq (eCallON 3 3 d_law_names 0 (oHere (aCons (eVar 5) (aCons (eVar 3) aNil))))) (gN 7) (sExpr (eMut isLst 6 opAppend (aCons (eTup (aCons (eVar 7) (aCons (eBin opIx (eC (.str "aab")) (eBin opMod (eCallO 1 0 d_law_next 0 (oHere aNil)) (eC (.int 3)))) aNil))) aNil))))
    (sSeq (sSetN 8 (eLst aNil))
    (sSeq (sFor (iSeq (eCallON 3 3 d_law_names 0 (oHere (aCons (eBin opMod (eCallO 1 0 d_law_next 0 (oHere aNil)) (eBin opAdd (eVar 2) (eC (.int 1)))) (aCons (eVar 3) aNil))))) (gN 7) (sSeq (sSet 4 (eCallO 1 0 d_law_next 0 (oHere aNil)))
    (sExpr (eMut isLst 8 opAppend (aCons (eTup (aCons (eVar 7) (aCons (eBin opIx (eC (.str "eef")) (eBin opMod (eVar 4) (eC (.int 3)))) (aCons (eBin opIx (eView (eBin opIx (eVar 6) (eBin opMod (eBin opFdiv (eVar 4) (eC (.int 3))) (eVar 5)))) (eC (.int 0))) (aCons (eBin opIx (eView (eBin opIx (eVar 6) (eBin opMod (eBin opFdiv (eVar 4) (eC (.int 30))) (eVar 5)))) (eC (.int 0))) aNil))))) aNil)))))
    (sRet (eTup (aCons (eView (eFn opTuple (aCons (eVar 6) aNil))) (aCons (eView (eFn opTuple (aCons (eVar 8) aNil))) aNil))))))))))
def d_law_weighed : MS := (sSeq (sSetN 2 (eLst aNil))
    (sSeq (sFor (iSign (eVar 1)) (gN 3) (sSeq (sSet 4 (eCallO 1 0 d_law_next 0 (oHere aNil)))
    (sIf (tVal (eBin opGt (eBin opMod (eVar 4) (eC (.int 4))) (eC (.int 0)))) (sExpr (eMut isLst 2 opAppend (aCons (eTup (aCons (eVar 3) (aCons (eBin opIx (eLst (aCons (eBin opMod (eBin opFdiv (eVar 4) (eC (.int 4))) (eC (.int 4))) (aCons (eBin opAdd (eBin opMul (eVar 4) (eBin opPow (eC (.int 10)) (eC (.int 14)))) (eC (.int 1))) (aCons (eCallO 1 0 d_law_next 0 (oHere aNil)) aNil)))) (eBin opSub (eBin opMod (eVar 4) (eC (.int 4))) (eC (.int 1)))) aNil))) aNil))) sSkip)))
    (sRet (eView (eFn opTuple (aCons (eVar 2) aNil))))))
def d_law_weighs : MS := (sSeq (sSet 2 (eC (.int 0)))
    (sSeq (sFor (iRange1 (aCons (eC (.int 2)) aNil)) (gN 3) (sSeq (sSet 4 (eFn opDict (aCons (eBin opIx (eVar 1) (eVar 3)) aNil)))
    (sSet 2 (eBin opAdd (eVar 2) (eFn opSum (aCons (eComp (iSeq (eBin opIx (eVar 0) (eVar 3))) (gN 5) (mpure true) (eGet2 (eVar 4) (eBin opIx (eVar 5) (eC (.int 1))) (eC (.int 0))) [5]) aNil))))))
    (sRet (eVar 2))))
def d_together : MS := (sSeq (sSet 2 (eFn opDict (aCons (eVar 1) aNil)))
    (sRet (eFn opSum (aCons (eComp (iSeq (eVar 0)) (gN 3) (mpure true) (eGet2 (eVar 2) (eBin opIx (eVar 3) (eC (.int 1))) (eC (.int 0))) [3]) aNil))))
def d_weight : MS := (sRet (eBin opAdd (eCall 2 2 d_together [] (aCons (eBin opIx (eVar 0) (eC (.int 0))) (aCons (eBin opIx (eVar 1) (eC (.int 0))) aNil))) (eCall 2 2 d_together [] (aCons (eBin opIx (eVar 0) (eC (.int 1))) (aCons (eBin opIx (eVar 1) (eC (.int 1))) aNil)))))
def d_law : MS := (sSeq (sSetN 1 (eCallN 2 6 d_law_deck [] (aCons (eVar 0) (aCons (eC (.int 120)) aNil))))
    (sSeq (sFor (iRange1 (aCons (eC (.int 3)) aNil)) (gN 2) (sSeq (sSet 4 (eCallO 4 5 d_law_net 1 (oHere (aCons (eC (.int 8)) (aCons (eC (.int 10)) (aCons (eVar 2) aNil))))))
    (sSeq (sSet 5 (eTup (aCons (eCallO 2 3 d_law_weighed 1 (oHere (aCons (eC (.str "abc")) aNil))) (aCons (eCallO 2 3 d_law_weighed 1 (oHere (aCons (eC (.str "efg")) aNil))) aNil))))
    (sSeq (sIf (mNot (tVal (eCall 2 0 d_law_is [] (aCons (eCall 2 0 d_weight [] (aCons (eVar 4) (aCons (eVar 5) aNil))) (aCons (eCall 2 4 d_law_weighs [] (aCons (eVar 4) (aCons (eVar 5) aNil))) aNil))))) (sRet (eC (.bl false))) sSkip)
    (sIf (mOr (mNot (tVal (eCall 2 0 d_law_is [] (aCons (eCall 2 0 d_weight [] (aCons (eTup (aCons (eTup aNil) (aCons (eTup aNil) aNil))) (aCons (eVar 5) aNil))) (aCons (eC (.int 0)) aNil))))) (mNot (tVal (eCall 2 0 d_law_is [] (aCons (eCall 2 0 d_weight [] (aCons (eVar 4) (aCons (eTup (aCons (eTup aNil) (aCons (eTup aNil) aNil))) aNil))) (aCons (eC (.int 0)) aNil)))))) (sRet (eC (.bl false))) sSkip)))))
    (sSeq (sSet 3 (eTup (aCons (eTup (aCons (eTup (aCons (eC (.int 0)) (aCons (eC (.str "e")) aNil))) aNil)) (aCons (eTup (aCons (eTup (aCons (eC (.int 0)) (aCons (eC (.str "e")) (aCons (eC (.int 0)) (aCons (eC (.int 0)) aNil))))) aNil)) aNil))))
    (sSeq (sIf (mNot (tVal (eCall 2 0 d_law_is [] (aCons (eCall 2 0 d_weight [] (aCons (eVar 3) (aCons (eTup (aCons (eTup (aCons (eTup (aCons (eC (.str "e")) (aCons (eC (.int 5)) aNil))) aNil)) (aCons (eTup (aCons (eTup (aCons (eC (.str "e")) (aCons (eC (.int 7)) aNil))) aNil)) aNil))) aNil))) (aCons (eC (.int 12)) aNil))))) (sRet (eC (.bl false))) sSkip)
    (sRet (eCall 2 0 d_law_is [] (aCons (eCall 2 0 d_weight [] (aCons (eVar 3) (aCons (eTup (aCons (eTup (aCons (eTup (aCons (eC (.str "e")) (aCons (eC (.int 5)) aNil))) aNil)) (aCons (eTup aNil) aNil))) aNil))) (aCons (eC (.int 5)) aNil))))))))
end NT.Den

set_option Elab.async false
set_option linter.all false
set_option maxRecDepth 100000
set_option maxHeartbeats 8000000
namespace Lk50
open PySem L2 NT NT.Den
def topS (i : Nat) : Stmt := PySem.Challenge.pw_netturns_k50_weights.main.body.getD i (.Pass ⟨0, 0, 0, 0⟩)
theorem sc_law_mixed : FnScope ["_law_cell", "_law_k", "_law_number"] ["_law_cell", "_law_k"] (defScope (topS 4)) := ⟨rfl, rfl, rfl, by decide +kernel, rfl, by decide +kernel, by decide +kernel⟩
theorem ok_law_mixed {P : Program} {w : World} {K : PySem.W.Frag} {mg : Str → Option Value} {base : Heap} {cls : Nat → Value} {f : Addr} {fd : FuncData} (B : Bt mg) (Fn : Fun K "_law_mixed" "_law_mixed" (topS 4) f fd)  :
    FnOk P w K mg base (L2.CX P w) 1 f fd ["_law_cell", "_law_k"] (spD K cls 2 1 d_law_mixed) :=
  def_ok Fn sc_law_mixed rfl rfl fun cdv A outer s H E hr tk =>
    (qb_cons (q_set 2 (fun _ p => ps_set (i := 2) sc_law_mixed.nd rfl (by first | exact Or.inl rfl | exact Or.inr rfl) p) (q_bin op_mod val_mod (q_bin op_addA val_add (q_bin op_addA val_add (q_var 0 (pv 0)) (q_bin op_mulA val_mul (q_bin op_mulA val_mul (q_var 1 (pv 1)) (q_var 1 (pv 1))) q_int)) q_int) q_int))
    (qb_cons (q_set 2 (fun _ p => ps_set (i := 2) sc_law_mixed.nd rfl (by first | exact Or.inl rfl | exact Or.inr rfl) p) (q_bin op_mod val_mod (q_bin op_mulA val_mul (q_var 2 (pv 2)) (q_var 2 (pv 2))) q_int))
    (qb_cons (q_set 2 (fun _ p => ps_set (i := 2) sc_law_mixed.nd rfl (by first | exact Or.inl rfl | exact Or.inr rfl) p) (q_bin op_mod val_mod (q_bin op_mulA val_mul (q_bin op_addA val_add (q_bin op_addA val_add (q_var 2 (pv 2)) (q_bin op_mulA val_mul (q_var 1 (pv 1)) q_int)) q_int) q_int) q_int))
    (qb_one (q_ret (q_bin op_fdiv val_fdiv (q_bin op_mod val_mod (q_bin op_mulA val_mul (q_var 2 (pv 2)) (q_var 2 (pv 2))) q_int) q_int))))))
theorem sc_law_deck : FnScope ["_law_script", "_law_many", "_law_own", "_law_rest", "_law_deck_here", "_law_k", "_law_at", "_law_cell"] ["_law_script", "_law_many"] (defScope (topS 5)) := ⟨rfl, rfl, rfl, by decide +kernel, rfl, by decide +kernel, by decide +kernel⟩
theorem ok_law_deck {P : Program} {w : World} {K : PySem.W.Frag} {mg : Str → Option Value} {base : Heap} {cls : Nat → Value} {f : Addr} {fd : FuncData} (B : Bt mg) (Fn : Fun K "_law_deck" "_law_deck" (topS 5) f fd) (C__law_mixed : Cal P w K mg base cls "_law_mixed" ["_law_cell", "_law_k"] 1 2 1 d_law_mixed []) :
    FnOk P w K mg base (L2.CX P w) 2 f fd ["_law_script", "_law_many"] (spD K cls 2 6 d_law_deck) :=
  def_ok Fn sc_law_deck rfl rfl fun cdv A outer s H E hr tk =>
    (qb_cons (q_set 2 (fun _ p => ps_set (i := 2) sc_law_deck.nd rfl (by first | exact Or.inl rfl | exact Or.inr rfl) p) (QN.frz (q_binN op_cat new_cat (QN.frz (q_fnN (fun _ pa => pe_callTy call_list_of (by rfl) B.list (by decide +kernel) pa) new_list (qa_cons (QN.frz (q_slL (q_var 0 (pv 0)) qo_none (qo_some q_int) fun _ _ _ p l h => pe_slice sl_list p l h)) qa_nil))) (QN.frz (q_binN op_rep new_rep (QN.frz (q_lst (qa_cons q_int qa_nil))) (q_fn (fun _ pa => pe_callTy call_int1 (by rfl) B.int (by decide +kernel) pa) val_int (qa_cons (q_cmp (op_eqD hr.units) val_eq (q_fn (fun _ pa => pe_callB call_len (by rfl) B.len PySem.boot_len pa) val_len (qa_cons (q_var 0 (pv 0)) qa_nil)) q_int (nomark _)) qa_nil)))))))
    (qb_cons (q_setLcN 3 rfl sc_law_deck.nd rfl rfl (sw_true rfl rfl rfl (by decide +kernel)) (qi_seq (q_var 2 (pv 2))) (blkOk_by (own := [("_law_cell", 7)]) (N := ["_law_script", "_law_many", "_law_own", "_law_rest", "_law_deck_here", "_law_k", "_law_at", "_law_cell"]) (sc := (defScope (topS 5))) (by decide +kernel)) (fun _ _ _ _ _ => (qg_name 7 (pg_name (i := 7) sc_law_deck.nd rfl (by first | exact Or.inl rfl | exact Or.inr rfl)))) (fun _ _ _ _ _ => qts_nil) (fun _ _ _ _ _ => (q_bin op_mulA val_mul (q_var 7 (pv 7)) (q_fn (fun _ pa => pe_callTy call_int1 (by rfl) B.int (by decide +kernel) pa) val_int (qa_cons (q_cmp op_ge val_ge (q_var 7 (pv 7)) (q_bin op_pow val_pow q_int q_int) (nomark _)) qa_nil)))) gok_name rfl (by decide))
    (qb_cons (q_setN 4 (fun _ p => ps_set (i := 4) sc_law_deck.nd rfl (by first | exact Or.inl rfl | exact Or.inr rfl) p) (q_lst qa_nil))
    (qb_cons (q_for (qi_range1 (fun _ pa => pi_range1 (by rfl) B.range pa) (qa_cons (q_var 1 (pv 1)) qa_nil)) (qg_name 5 (pg_name (i := 5) sc_law_deck.nd rfl (by first | exact Or.inl rfl | exact Or.inr rfl))) (qb_cons (q_set 6 (fun _ p => ps_set (i := 6) sc_law_deck.nd rfl (by first | exact Or.inl rfl | exact Or.inr rfl) p) (q_bin op_mod val_mod (q_var 5 (pv 5)) (q_fn (fun _ pa => pe_callB call_len (by rfl) B.len PySem.boot_len pa) val_len (qa_cons (q_var 2 (pv 2)) qa_nil))))
    (qb_one (q_if (q_tcmp op_gt val_gt (QE.view (q_ix ix_any val_ix (q_var 3 (pv 3)) (q_var 6 (pv 6)) (fun _ _ => rfl))) q_int (nomark _)) (qb_cons (q_expr (q_lm 4 (fun _ pa => pe_bm PySem.F.plainAttrs_list PySem.F.slot_list_append PySem.F.type_list_append mt_append (pv 4) pa) mut_append (qa_cons (q_bin op_mod val_mod (QE.view (q_ix ix_any val_ix (q_var 3 (pv 3)) (q_var 6 (pv 6)) (fun _ _ => rfl))) q_int) qa_nil)))
    (qb_one (q_setIx 3 (fun _ _ p q => ps_asg p (pg_sub (pv 3) q set_list)) (q_bin op_fdiv val_fdiv (QE.view (q_ix ix_any val_ix (q_var 3 (pv 3)) (q_var 6 (pv 6)) (fun _ _ => rfl))) q_int) (q_var 6 (pv 6))))) (qb_one (q_expr (q_lm 4 (fun _ pa => pe_bm PySem.F.plainAttrs_list PySem.F.slot_list_append PySem.F.type_list_append mt_append (pv 4) pa) mut_append (qa_cons (q_bin op_mod val_mod (q_cal C__law_mixed hr (by decide) tk (qa_cons (q_ix ix_any val_ix (q_var 2 (pv 2)) (q_var 6 (pv 6)) (fun _ _ => rfl)) (qa_cons (q_bin op_addA val_add (q_var 5 (pv 5)) q_int) qa_nil))) q_int) qa_nil))))))) (fun _ _ _ i t b => ps_for (passes_of rfl) rfl i t b))
    (qb_one (q_retN (QN.view (q_lstRev (fun _ p => RV.pe_lstRev rfl (by rfl) B.list (by rfl) B.reversed p) (q_var 4 (pv 4))))))))))
theorem sc_law_is : FnScope ["_law_found", "_law_due"] ["_law_found", "_law_due"] (defScope (topS 9)) := ⟨rfl, rfl, rfl, by decide +kernel, rfl, by decide +kernel, by decide +kernel⟩
theorem ok_law_is {P : Program} {w : World} {K : PySem.W.Frag} {mg : Str → Option Value} {base : Heap} {cls : Nat → Value} {f : Addr} {fd : FuncData} (B : Bt mg) (Fn : Fun K "_law_is" "_law_is" (topS 9) f fd)  :
    FnOk P w K mg base (L2.CX P w) 1 f fd ["_law_found", "_law_due"] (spD K cls 2 0 d_law_is) :=
  def_ok Fn sc_law_is rfl rfl fun cdv A outer s H E hr tk =>
    (qb_one (q_ret (q_and (q_isi "int" (by decide) (fun _ p => pe_callB call_isi (by rfl) B.isinstance (by decide +kernel) (pa_cons p (pa_cons (pe_bltn (v := .ty "int") (by rfl) B.int (show bootBuiltins "int" = some (.type "int") by decide +kernel) rfl) pa_nil))) (q_var 0 (pv 0))) (q_and (q_not (q_isi "bool" (by decide) (fun _ p => pe_callB call_isi (by rfl) B.isinstance (by decide +kernel) (pa_cons p (pa_cons (pe_bltn (v := .ty "bool") (by rfl) B.bool (show bootBuiltins "bool" = some (.type "bool") by decide +kernel) rfl) pa_nil))) (q_var 0 (pv 0)))) (q_one (q_cmp (op_eqD hr.units) val_eq (q_var 0 (pv 0)) (q_var 1 (pv 1)) (nomark _)))))))
theorem sc_law_next : FnScope ["_law_deck_here"] ["_law_deck_here"] (defScope (topS 6)) := ⟨rfl, rfl, rfl, by decide +kernel, rfl, by decide +kernel, by decide +kernel⟩
theorem ok_law_next {P : Program} {w : World} {K : PySem.W.Frag} {mg : Str → Option Value} {base : Heap} {cls : Nat → Value} {f : Addr} {fd : FuncData} (B : Bt mg) (Fn : Fun K "_law_next" "_law_next" (topS 6) f fd)  :
    FnOk P w K mg base (L2.CX P w) 1 f fd ["_law_deck_here"] (spD K cls 1 0 d_law_next) :=
  def_ok Fn sc_law_next rfl rfl fun cdv A outer s H E hr tk =>
    (qb_cons (q_if (q_tcmp op_gt val_gt (QE.view (q_fn (fun _ pa => pe_callB call_len (by rfl) B.len PySem.boot_len pa) val_len (qa_cons (q_var 0 (pv 0)) qa_nil))) q_int (nomark _)) (qb_one (q_ret (q_lm0 0 (pe_bm0 PySem.F.plainAttrs_list PySem.F.slot_list_pop PySem.F.type_list_pop mt_pop (pv 0)) mut_pop))) qb_nil)
    (qb_one (q_ret q_int)))
theorem sc_law_names : FnScope ["_law_deck_here", "_law_many", "_law_far", "_law_found", "_law_last", "_law_k"] ["_law_deck_here", "_law_many", "_law_far"] (defScope (topS 7)) := ⟨rfl, rfl, rfl, by decide +kernel, rfl, by decide +kernel, by decide +kernel⟩
theorem ok_law_names {P : Program} {w : World} {K : PySem.W.Frag} {mg : Str → Option Value} {base : Heap} {cls : Nat → Value} {f : Addr} {fd : FuncData} (B : Bt mg) (Fn : Fun K "_law_names" "_law_names" (topS 7) f fd) (C__law_next : Cal P w K mg base cls "_law_next" ["_law_deck_here"] 1 1 0 d_law_next []) :
    FnOk P w K mg base (L2.CX P w) 2 f fd ["_law_deck_here", "_law_many", "_law_far"] (spD K cls 3 3 d_law_names) :=
  def_ok Fn sc_law_names rfl rfl fun cdv A outer s H E hr tk =>
    (qb_cons (q_setN 3 (fun _ p => ps_set (i := 3) sc_law_names.nd rfl (by first | exact Or.inl rfl | exact Or.inr rfl) p) (q_lst qa_nil))
    (qb_cons (q_set 4 (fun _ p => ps_set (i := 4) sc_law_names.nd rfl (by first | exact Or.inl rfl | exact Or.inr rfl) p) (q_un un_neg val_neg q_int))
    (qb_cons (q_for (qi_range1 (fun _ pa => pi_range1 (by rfl) B.range pa) (qa_cons (q_var 1 (pv 1)) qa_nil)) (qg_name 5 (pg_name (i := 5) sc_law_names.nd rfl (by first | exact Or.inl rfl | exact Or.inr rfl))) (qb_cons (q_set 4 (fun _ p => ps_set (i := 4) sc_law_names.nd rfl (by first | exact Or.inl rfl | exact Or.inr rfl) p) (q_bin op_addA val_add (q_bin op_addA val_add (q_var 4 (pv 4)) q_int) (q_bin op_mulA val_mul (q_bin op_mod val_mod (q_calO C__law_next hr (by decide) tk (qao_here 0 (pv 0) qa_nil)) q_int) (q_var 2 (pv 2)))))
    (qb_one (q_expr (q_lm 3 (fun _ pa => pe_bm PySem.F.plainAttrs_list PySem.F.slot_list_append PySem.F.type_list_append mt_append (pv 3) pa) mut_append (qa_cons (q_var 4 (pv 4)) qa_nil))))) (fun _ _ _ i t b => ps_for (passes_of rfl) rfl i t b))
    (qb_one (q_retO 3 (pv 3))))))
theorem sc_law_net : FnScope ["_law_deck_here", "_law_most_points", "_law_most_ties", "_law_far", "_law_cell", "_law_many", "_law_points", "_law_name", "_law_ties"] ["_law_deck_here", "_law_most_points", "_law_most_ties", "_law_far"] (defScope (topS 8)) := ⟨rfl, rfl, rfl, by decide +kernel, rfl, by decide +kernel, by decide +kernel⟩
theorem ok_law_net {P : Program} {w : World} {K : PySem.W.Frag} {mg : Str → Option Value} {base : Heap} {cls : Nat → Value} {f : Addr} {fd : FuncData} (B : Bt mg) (Fn : Fun K "_law_net" "_law_net" (topS 8) f fd) (C__law_names : Cal P w K mg base cls "_law_names" ["_law_deck_here", "_law_many", "_law_far"] 2 3 3 d_law_names []) (C__law_next : Cal P w K mg base cls "_law_next" ["_law_deck_here"] 1 1 0 d_law_next []) :
    FnOk P w K mg base (L2.CX P w) 3 f fd ["_law_deck_here", "_law_most_points", "_law_most_ties", "_law_far"] (spD K cls 4 5 d_law_net) :=
  def_ok Fn sc_law_net rfl rfl fun cdv A outer s H E hr tk =>
    (qb_cons (q_set 4 (fun _ p => ps_set (i := 4) sc_law_net.nd rfl (by first | exact Or.inl rfl | exact Or.inr rfl) p) (q_calO C__law_next hr (by decide) tk (qao_here 0 (pv 0) qa_nil)))
    (qb_cons (q_set 5 (fun _ p => ps_set (i := 5) sc_law_net.nd rfl (by first | exact Or.inl rfl | exact Or.inr rfl) p) (q_bin op_addA val_add q_int (q_bin op_mod val_mod (q_var 4 (pv 4)) (q_var 1 (pv 1)))))
    (qb_cons (q_setN 6 (fun _ p => ps_set (i := 6) sc_law_net.nd rfl (by first | exact Or.inl rfl | exact Or.inr rfl) p) (q_lst qa_nil))
    (qb_cons (q_for (qi_seq (QN.frz (q_calON C__law_names hr (by decide) tk (qao_here 0 (pv 0) (qa_cons (q_var 5 (pv 5)) (qa_cons (q_var 3 (pv 3)) qa_nil)))))) (qg_name 7 (pg_name (i := 7) sc_law_net.nd rfl (by first | exact Or.inl rfl | exact Or.inr rfl))) (qb_one (q_expr (q_lm 6 (fun _ pa => pe_bm PySem.F.plainAttrs_list PySem.F.slot_list_append PySem.F.type_list_append mt_append (pv 6) pa) mut_append (qa_cons (q_tup (qa_cons (q_var 7 (pv 7)) (qa_cons (q_ix ix_any val_ix q_str (q_bin op_mod val_mod (q_calO C__law_next hr (by decide) tk (qao_here 0 (pv 0) qa_nil)) q_int) (fun _ _ => rfl)) qa_nil))) qa_nil)))) (fun _ _ _ i t b => ps_for (passes_of rfl) rfl i t b))
    (qb_cons (q_setN 8 (fun _ p => ps_set (i := 8) sc_law_net.nd rfl (by first | exact Or.inl rfl | exact Or.inr rfl) p) (q_lst qa_nil))
    (qb_cons (q_for (qi_seq (QN.frz (q_calON C__law_names hr (by decide) tk (qao_here 0 (pv 0) (qa_cons (q_bin op_mod val_mod (q_calO C__law_next hr (by decide) tk (qao_here 0 (pv 0) qa_nil)) (q_bin op_addA val_add (q_var 2 (pv 2)) q_int)) (qa_cons (q_var 3 (pv 3)) qa_nil)))))) (qg_name 7 (pg_name (i := 7) sc_law_net.nd rfl (by first | exact Or.inl rfl | exact Or.inr rfl))) (qb_cons (q_set 4 (fun _ p => ps_set (i := 4) sc_law_net.nd rfl (by first | exact Or.inl rfl | exact Or.inr rfl) p) (q_calO C__law_next hr (by decide) tk (qao_here 0 (pv 0) qa_nil)))
    (qb_one (q_expr (q_lm 8 (fun _ pa => pe_bm PySem.F.plainAttrs_list PySem.F.slot_list_append PySem.F.type_list_append mt_append (pv 8) pa) mut_append (qa_cons (q_tup (qa_cons (q_var 7 (pv 7)) (qa_cons (q_ix ix_any val_ix q_str (q_bin op_mod val_mod (q_var 4 (pv 4)) q_int) (fun _ _ => rfl)) (qa_cons (q_ix ix_any val_ix (QE.view (q_ix ix_any val_ix (q_var 6 (pv 6)) (q_bin op_mod val_mod (q_bin op_fdiv val_fdiv (q_var 4 (pv 4)) q_int) (q_var 5 (pv 5))) (fun _ _ => rfl))) q_int (fun _ _ => rfl)) (qa_cons (q_ix ix_any val_ix (QE.view (q_ix ix_any val_ix (q_var 6 (pv 6)) (q_bin op_mod val_mod (q_bin op_fdiv val_fdiv (q_var 4 (pv 4)) q_int) (q_var 5 (pv 5))) (fun _ _ => rfl))) q_int (fun _ _ => rfl)) qa_nil))))) qa_nil))))) (fun _ _ _ i t b => ps_for (passes_of rfl) rfl i t b))
    (qb_one (q_ret (q_tup (qa_cons (QE.view (q_fn (fun _ pa => pe_callTy call_tupleL (by rfl) B.tuple (by decide +kernel) pa) val_tuple (qa_cons (q_var 6 (pv 6)) qa_nil))) (qa_cons (QE.view (q_fn (fun _ pa => pe_callTy call_tupleL (by rfl) B.tuple (by decide +kernel) pa) val_tuple (qa_cons (q_var 8 (pv 8)) qa_nil))) qa_nil)))))))))))
theorem sc_law_weighed : FnScope ["_law_deck_here", "_law_kinds", "_law_found", "_law_kind", "_law_cell"] ["_law_deck_here", "_law_kinds"] (defScope (topS 11)) := ⟨rfl, rfl, rfl, by decide +kernel, rfl, by decide +kernel, by decide +kernel⟩
theorem ok_law_weighed {P : Program} {w : World} {K : PySem.W.Frag} {mg : Str → Option Value} {base : Heap} {cls : Nat → Value} {f : Addr} {fd : FuncData} (B : Bt mg) (Fn : Fun K "_law_weighed" "_law_weighed" (topS 11) f fd) (C__law_next : Cal P w K mg base cls "_law_next" ["_law_deck_here"] 1 1 0 d_law_next []) :
    FnOk P w K mg base (L2.CX P w) 2 f fd ["_law_deck_here", "_law_kinds"] (spD K cls 2 3 d_law_weighed) :=
  def_ok Fn sc_law_weighed rfl rfl fun cdv A outer s H E hr tk =>
    (qb_cons (q_setN 2 (fun _ p => ps_set (i := 2) sc_law_weighed.nd rfl (by first | exact Or.inl rfl | exact Or.inr rfl) p) (q_lst qa_nil))
    (qb_cons (q_for (qi_str (q_var 1 (pv 1))) (qg_name 3 (pg_name (i := 3) sc_law_weighed.nd rfl (by first | exact Or.inl rfl | exact Or.inr rfl))) (qb_cons (q_set 4 (fun _ p => ps_set (i := 4) sc_law_weighed.nd rfl (by first | exact Or.inl rfl | exact Or.inr rfl) p) (q_calO C__law_next hr (by decide) tk (qao_here 0 (pv 0) qa_nil)))
    (qb_one (q_if (q_tcmp op_gt val_gt (q_bin op_mod val_mod (q_var 4 (pv 4)) q_int) q_int (nomark _)) (qb_one (q_expr (q_lm 2 (fun _ pa => pe_bm PySem.F.plainAttrs_list PySem.F.slot_list_append PySem.F.type_list_append mt_append (pv 2) pa) mut_append (qa_cons (q_tup (qa_cons (q_var 3 (pv 3)) (qa_cons (q_ix ix_any val_ix (QN.frz (q_lst (qa_cons (q_bin op_mod val_mod (q_bin op_fdiv val_fdiv (q_var 4 (pv 4)) q_int) q_int) (qa_cons (q_bin op_addA val_add (q_bin op_mulA val_mul (q_var 4 (pv 4)) (q_bin op_pow val_pow q_int q_int)) q_int) (qa_cons (q_calO C__law_next hr (by decide) tk (qao_here 0 (pv 0) qa_nil)) qa_nil))))) (q_bin op_sub val_sub (q_bin op_mod val_mod (q_var 4 (pv 4)) q_int) q_int) (fun _ _ => rfl)) qa_nil))) qa_nil)))) qb_nil))) (fun _ _ _ i t b => ps_for (passes_of rfl) rfl i t b))
    (qb_one (q_ret (QE.view (q_fn (fun _ pa => pe_callTy call_tupleL (by rfl) B.tuple (by decide +kernel) pa) val_tuple (qa_cons (q_var 2 (pv 2)) qa_nil)))))))
theorem sc_law_weighs : FnScope ["_law_net_here", "_law_numbers", "_law_total", "_law_sort", "_law_known", "_law_item"] ["_law_net_here", "_law_numbers"] (defScope (topS 10)) := ⟨rfl, rfl, rfl, by decide +kernel, rfl, by decide +kernel, by decide +kernel⟩
theorem ok_law_weighs {P : Program} {w : World} {K : PySem.W.Frag} {mg : Str → Option Value} {base : Heap} {cls : Nat → Value} {f : Addr} {fd : FuncData} (B : Bt mg) (Fn : Fun K "_law_weighs" "_law_weighs" (topS 10) f fd)  :
    FnOk P w K mg base (L2.CX P w) 1 f fd ["_law_net_here", "_law_numbers"] (spD K cls 2 4 d_law_weighs) :=
  def_ok Fn sc_law_weighs rfl rfl fun cdv A outer s H E hr tk =>
    (qb_cons (q_set 2 (fun _ p => ps_set (i := 2) sc_law_weighs.nd rfl (by first | exact Or.inl rfl | exact Or.inr rfl) p) q_int)
    (qb_cons (q_for (qi_range1 (fun _ pa => pi_range1 (by rfl) B.range pa) (qa_cons q_int qa_nil)) (qg_name 3 (pg_name (i := 3) sc_law_weighs.nd rfl (by first | exact Or.inl rfl | exact Or.inr rfl))) (qb_cons (q_set 4 (fun _ p => ps_set (i := 4) sc_law_weighs.nd rfl (by first | exact Or.inl rfl | exact Or.inr rfl) p) (QN.frz (q_fnN (fun _ pa => pe_callTy (call_dictAny rfl) (by rfl) B.dict (by decide +kernel) pa) new_dict (qa_cons (q_ix ix_any val_ix (q_var 1 (pv 1)) (q_var 3 (pv 3)) (fun _ _ => rfl)) qa_nil))))
    (qb_one (q_set 2 (fun _ p => ps_set (i := 2) sc_law_weighs.nd rfl (by first | exact Or.inl rfl | exact Or.inr rfl) p) (q_bin op_addA val_add (q_var 2 (pv 2)) (q_fn (fun _ pa => pe_callB (cr_sum rfl) (by rfl) B.sum (by decide +kernel) pa) val_sum (qa_cons (QN.frz (q_comp (by rfl) sc_law_weighs.nd (qi_seq (q_ix ix_any val_ix (q_var 0 (pv 0)) (q_var 3 (pv 3)) (fun _ _ => rfl))) (blkOk_by (own := [("_law_item", 5)]) (N := ["_law_net_here", "_law_numbers", "_law_total", "_law_sort", "_law_known", "_law_item"]) (sc := (defScope (topS 10))) (by decide +kernel)) (fun _ _ _ _ _ => (qg_name 5 (pg_name (i := 5) sc_law_weighs.nd rfl (by first | exact Or.inl rfl | exact Or.inr rfl)))) (fun _ _ _ _ _ => qts_nil) (fun _ _ _ _ _ => (q_dget2 (fun _ _ _ p k x => pe_dget2 (hu_of hr) p k x ⟨rfl, rfl, rfl, rfl⟩) (q_var 4 (pv 4)) (q_ix ix_any val_ix (q_var 5 (pv 5)) q_int (fun _ _ => rfl)) q_int)) gok_name rfl (by decide))) qa_nil)))))) (fun _ _ _ i t b => ps_for (passes_of rfl) rfl i t b))
    (qb_one (q_ret (q_var 2 (pv 2))))))
theorem sc_together : FnScope ["items", "weighed", "known", "item"] ["items", "weighed"] (defScope (topS 1)) := ⟨rfl, rfl, rfl, by decide +kernel, rfl, by decide +kernel, by decide +kernel⟩
theorem ok_together {P : Program} {w : World} {K : PySem.W.Frag} {mg : Str → Option Value} {base : Heap} {cls : Nat → Value} {f : Addr} {fd : FuncData} (B : Bt mg) (Fn : Fun K "together" "together" (topS 1) f fd)  :
    FnOk P w K mg base (L2.CX P w) 1 f fd ["items", "weighed"] (spD K cls 2 2 d_together) :=
  def_ok Fn sc_together rfl rfl fun cdv A outer s H E hr tk =>
    (qb_cons (q_set 2 (fun _ p => ps_set (i := 2) sc_together.nd rfl (by first | exact Or.inl rfl | exact Or.inr rfl) p) (QN.frz (q_fnN (fun _ pa => pe_callTy (call_dictAny rfl) (by rfl) B.dict (by decide +kernel) pa) new_dict (qa_cons (q_var 1 (pv 1)) qa_nil))))
    (qb_one (q_ret (q_fn (fun _ pa => pe_callB (cr_sum rfl) (by rfl) B.sum (by decide +kernel) pa) val_sum (qa_cons (QN.frz (q_comp (by rfl) sc_together.nd (qi_seq (q_var 0 (pv 0))) (blkOk_by (own := [("item", 3)]) (N := ["items", "weighed", "known", "item"]) (sc := (defScope (topS 1))) (by decide +kernel)) (fun _ _ _ _ _ => (qg_name 3 (pg_name (i := 3) sc_together.nd rfl (by first | exact Or.inl rfl | exact Or.inr rfl)))) (fun _ _ _ _ _ => qts_nil) (fun _ _ _ _ _ => (q_dget2 (fun _ _ _ p k x => pe_dget2 (hu_of hr) p k x ⟨rfl, rfl, rfl, rfl⟩) (q_var 2 (pv 2)) (q_ix ix_any val_ix (q_var 3 (pv 3)) q_int (fun _ _ => rfl)) q_int)) gok_name rfl (by decide))) qa_nil)))))
theorem sc_weight : FnScope ["net", "numbers"] ["net", "numbers"] (defScope (topS 2)) := ⟨rfl, rfl, rfl, by decide +kernel, rfl, by decide +kernel, by decide +kernel⟩
theorem ok_weight {P : Program} {w : World} {K : PySem.W.Frag} {mg : Str → Option Value} {base : Heap} {cls : Nat → Value} {f : Addr} {fd : FuncData} (B : Bt mg) (Fn : Fun K "weight" "weight" (topS 2) f fd) (C_together : Cal P w K mg base cls "together" ["items", "weighed"] 1 2 2 d_together []) :
    FnOk P w K mg base (L2.CX P w) 2 f fd ["net", "numbers"] (spD K cls 2 0 d_weight) :=
  def_ok Fn sc_weight rfl rfl fun cdv A outer s H E hr tk =>
    (qb_one (q_ret (q_bin op_addA val_add (q_cal C_together hr (by decide) tk (qa_cons (q_ix ix_any val_ix (q_var 0 (pv 0)) q_int (fun _ _ => rfl)) (qa_cons (q_ix ix_any val_ix (q_var 1 (pv 1)) q_int (fun _ _ => rfl)) qa_nil))) (q_cal C_together hr (by decide) tk (qa_cons (q_ix ix_any val_ix (q_var 0 (pv 0)) q_int (fun _ _ => rfl)) (qa_cons (q_ix ix_any val_ix (q_var 1 (pv 1)) q_int (fun _ _ => rfl)) qa_nil))))))
theorem sc_law : FnScope ["_law_script", "_law_deck_here", "_law_k", "_law_same", "_law_net_here", "_law_numbers"] ["_law_script"] (defScope (topS 12)) := ⟨rfl, rfl, rfl, by decide +kernel, rfl, by decide +kernel, by decide +kernel⟩
theorem ok_law {P : Program} {w : World} {K : PySem.W.Frag} {mg : Str → Option Value} {base : Heap} {cls : Nat → Value} {f : Addr} {fd : FuncData} (B : Bt mg) (Fn : Fun K "law" "law" (topS 12) f fd) (C__law_deck : Cal P w K mg base cls "_law_deck" ["_law_script", "_law_many"] 2 2 6 d_law_deck []) (C__law_is : Cal P w K mg base cls "_law_is" ["_law_found", "_law_due"] 1 2 0 d_law_is []) (C__law_net : Cal P w K mg base cls "_law_net" ["_law_deck_here", "_law_most_points", "_law_most_ties", "_law_far"] 3 4 5 d_law_net []) (C__law_weighed : Cal P w K mg base cls "_law_weighed" ["_law_deck_here", "_law_kinds"] 2 2 3 d_law_weighed []) (C__law_weighs : Cal P w K mg base cls "_law_weighs" ["_law_net_here", "_law_numbers"] 1 2 4 d_law_weighs []) (C_weight : Cal P w K mg base cls "weight" ["net", "numbers"] 2 2 0 d_weight []) :
    FnOk P w K mg base (L2.CX P w) 4 f fd ["_law_script"] (spD K cls 1 5 d_law) :=
  def_ok Fn sc_law rfl rfl fun cdv A outer s H E hr tk =>
    (qb_cons (q_setN 1 (fun _ p => ps_set (i := 1) sc_law.nd rfl (by first | exact Or.inl rfl | exact Or.inr rfl) p) (q_calN C__law_deck hr (by decide) tk (qa_cons (q_var 0 (pv 0)) (qa_cons q_int qa_nil))))
    (qb_cons (q_for (qi_range1 (fun _ pa => pi_range1 (by rfl) B.range pa) (qa_cons q_int qa_nil)) (qg_name 2 (pg_name (i := 2) sc_law.nd rfl (by first | exact Or.inl rfl | exact Or.inr rfl))) (qb_cons (q_set 4 (fun _ p => ps_set (i := 4) sc_law.nd rfl (by first | exact Or.inl rfl | exact Or.inr rfl) p) (q_calO C__law_net hr (by decide) tk (qao_here 1 (pv 1) (qa_cons q_int (qa_cons q_int (qa_cons (q_var 2 (pv 2)) qa_nil))))))
    (qb_cons (q_set 5 (fun _ p => ps_set (i := 5) sc_law.nd rfl (by first | exact Or.inl rfl | exact Or.inr rfl) p) (q_tup (qa_cons (q_calO C__law_weighed hr (by decide) tk (qao_here 1 (pv 1) (qa_cons q_str qa_nil))) (qa_cons (q_calO C__law_weighed hr (by decide) tk (qao_here 1 (pv 1) (qa_cons q_str qa_nil))) qa_nil))))
    (qb_cons (q_if (q_tnot (q_tval (q_cal C__law_is hr (by decide) tk (qa_cons (q_cal C_weight hr (by decide) tk (qa_cons (q_var 4 (pv 4)) (qa_cons (q_var 5 (pv 5)) qa_nil))) (qa_cons (q_cal C__law_weighs hr (by decide) tk (qa_cons (q_var 4 (pv 4)) (qa_cons (q_var 5 (pv 5)) qa_nil))) qa_nil))))) (qb_one (q_ret q_bl)) qb_nil)
    (qb_one (q_if (QW.qt (qw_or (q_tnot (q_tval (q_cal C__law_is hr (by decide) tk (qa_cons (q_cal C_weight hr (by decide) tk (qa_cons (q_tup (qa_cons (q_tup qa_nil) (qa_cons (q_tup qa_nil) qa_nil))) (qa_cons (q_var 5 (pv 5)) qa_nil))) (qa_cons q_int qa_nil))))) (qw_or1 (q_tnot (q_tval (q_cal C__law_is hr (by decide) tk (qa_cons (q_cal C_weight hr (by decide) tk (qa_cons (q_var 4 (pv 4)) (qa_cons (q_tup (qa_cons (q_tup qa_nil) (qa_cons (q_tup qa_nil) qa_nil))) qa_nil))) (qa_cons q_int qa_nil)))))))) (qb_one (q_ret q_bl)) qb_nil))))) (fun _ _ _ i t b => ps_for (passes_of rfl) rfl i t b))
    (qb_cons (q_set 3 (fun _ p => ps_set (i := 3) sc_law.nd rfl (by first | exact Or.inl rfl | exact Or.inr rfl) p) (q_tup (qa_cons (q_tup (qa_cons (q_tup (qa_cons q_int (qa_cons q_str qa_nil))) qa_nil)) (qa_cons (q_tup (qa_cons (q_tup (qa_cons q_int (qa_cons q_str (qa_cons q_int (qa_cons q_int qa_nil))))) qa_nil)) qa_nil))))
    (qb_cons (q_if (q_tnot (q_tval (q_cal C__law_is hr (by decide) tk (qa_cons (q_cal C_weight hr (by decide) tk (qa_cons (q_var 3 (pv 3)) (qa_cons (q_tup (qa_cons (q_tup (qa_cons (q_tup (qa_cons q_str (qa_cons q_int qa_nil))) qa_nil)) (qa_cons (q_tup (qa_cons (q_tup (qa_cons q_str (qa_cons q_int qa_nil))) qa_nil)) qa_nil))) qa_nil))) (qa_cons q_int qa_nil))))) (qb_one (q_ret q_bl)) qb_nil)
    (qb_one (q_ret (q_cal C__law_is hr (by decide) tk (qa_cons (q_cal C_weight hr (by decide) tk (qa_cons (q_var 3 (pv 3)) (qa_cons (q_tup (qa_cons (q_tup (qa_cons (q_tup (qa_cons q_str (qa_cons q_int qa_nil))) qa_nil)) (qa_cons (q_tup qa_nil) qa_nil))) qa_nil))) (qa_cons q_int qa_nil)))))))))
end Lk50

set_option Elab.async false
set_option linter.all false
set_option maxRecDepth 100000
set_option maxHeartbeats 4000000
namespace NT.Pure
open PySem L2 NT NT.Den
local macro_rules | `(tactic| walk_at "ev") => `(tactic| simp (maxSteps := 100000000) only [rtb_rt, wO_nx, wO_rt, wO_rtN, wO_ex, stp_ap, sWhile_ap, wT_ok, sCalm_ap, iDct_ap, dctI_val, rtv_rt, rtvN_rtN, bnd_ok, bnd_ex, bnd_bad, bndO_ok, bndO_ex, bndO_bad, nxt_nx, nxt_rt, nxt_rtN, nxt_ex, nxt_bad, lft_some, mbind_ap, mpure_ap, lift_ap, eC_ap, rdV_val, eVar_ap, eBin_ap, eUn_ap, aNil_ap, aCons_ap, eFn_ap, eTup_ap, eLst_ap, tupO, lstO, tVal_ap, asB_bl, iteR_t, iteR_f, iteO_t, iteO_f, mAnd_ap, mOr_ap, mNot_ap, eAnd_ap, eOr_ap, eNot_ap, eChain_ap, vw_ok, vwN_ok, vwT_ok, eView_ap, eViewN_ap, tView_ap, sDo_ap, sSeq_ap, sSkip_ap, put_ap, sSet_ap, sSetN_ap, sRet_ap, sRetN_ap, sExpr_ap, sIf_ap, sRetO_ap, retO_own, sRaise_ap, sFor_ap, loop_nil, optO_some, sAsg_ap, iteS_t, gN_ap, gT_ap, gsNil_ap, bS_some, gsCons_ap, notBor_val, notBor_own, notBor_no, mineO_own, mineO_bor, with_own, with_bor, optR_some, mutAt_ap, eMut_ap, sPutAt_ap, outE_rt, outE_rtN, outE_nx, outE_ex, outN_rtN, outN_ex, eCall_ap, eCallN_ap, borO_bor, outO_rt, outO_rtN, outO_nx, outO_ex, outON_rtN, outON_ex, callO_ap, callON_ap, eCallO_ap, eCallON_ap, oHere_ap, oThere_ap, seqO_lst, seqO_tup, seqO_scr, iSeq_ap, sgnO_str, iSign_ap, iRange1_ap, iRange2_ap, eComp_ap, eSl_ap, oNone_ap, intO_int, oSome_ap, eGet2_ap, add_int, neg_int, mul_int, sub_int, lt_int, le_int, gt_int, ge_int, mod_int, fdiv_int, len_lst, len_tup, len_scr, len_str, ix_tup', ix_lst', tuple_lst, tuple_tup, list_lst, list_tup, append_lst, isLst_lst, isDct_dK, isDct_dT, is_bl, isNot_bl, plain_int, plain_str, plain_bl, plain_non, plain_tup, plainL_nil, plainL_cons, int_bl, int_int, viewS_val, viewS_own, viewS_bor, viewS_no, atI_0, atI_1, atI_2, atI_3, eq_int, ne_int, eq_bl, ne_bl, sl_tup,
  List.map_cons, List.map_nil, List.replicate_succ, List.replicate_zero, List.append_nil, List.nil_append, List.cons_append, List.length_cons, List.length_nil, List.getElem?_cons_zero, List.getElem?_cons_succ, List.set_cons_zero, List.set_cons_succ, Nat.reduceAdd, Nat.reduceLeDiff, Nat.reduceEqDiff, Int.reduceLT, Int.reduceLE, Int.reduceAdd, Int.reduceSub, Int.reduceNeg, Int.reduceBEq, cast_0, cast_1, cast_2, cast_3, cast_4, cast_5, cast_6, cast_7, cast_8, Int.reduceToNat, decide_true, decide_false, decide_eq_true_eq, if_true, if_false, ite_true, ite_false, reduceIte, Bool.and_true, Bool.true_and, Bool.and_false, Bool.false_and, Bool.or_false, Bool.false_or, Bool.or_true, Bool.true_or, Bool.not_true, Bool.not_false, eq_self, Bool.false_eq_true, and_true, true_and, beq_self_eq_true, Option.map_some, Option.bind_some, *])
/-! base -/
def isKindS (x : Str) : Bool := decide (1 ≤ x.length) && (decide (x.length ≤ 8) && x.cps.toList.all fun c => decide (c ∈ ("abcdefghijklmnopqrstuvwxyz" : Str).cps.toList))
theorem isi_str {x : Str} : opIsi "str" (.str x) = some (.bl true) := rfl
theorem isi_tup {ds : List D} : opIsi "tuple" (.tup ds) = some (.bl true) := rfl
theorem inS {c : Nat} {z : Str} : opIn true (.str ⟨⟨[c]⟩⟩) (.str z) = some (.bl (!decide (c ∈ z.cps.toList))) := rfl
theorem free_nb {o : Option Sl} (h : isFree o = true) : notBor o = true := by
  cases o with
  | none => cases h
  | some s => cases s <;> first | rfl | cases h
/-- a loop that only looks -/
theorem loop_all {i : Nat} {b : MS} : ∀ {items : List D} {ρ : List Sl}, isFree ρ[i]? = true → (∀ d ∈ items, b (ρ.set i (.val d)) = .nx (ρ.set i (.val d))) → ∃ s, isFree (some s) = true ∧ loop (gN i) b items ρ = .nx (ρ.set i s)
  | [], ρ, hb, h => by
    cases q : ρ[i]? with
    | none => rw [q] at hb; cases hb
    | some s =>
      rw [q] at hb
      exact ⟨s, hb, by rw [set_self_at q]; rfl⟩
  | d :: ds, ρ, hb, h => by
    have hlt : i < ρ.length := by
      cases q : ρ[i]? with
      | none => rw [q] at hb; cases hb
      | some s => exact (List.getElem?_eq_some_iff.mp q).1
    obtain ⟨s, h1, h2⟩ := loop_all (i := i) (b := b) (items := ds) (ρ := ρ.set i (.val d)) (by rw [List.getElem?_set_self hlt]; rfl) (fun x hx => by rw [List.set_set]; exact h x (List.mem_cons_of_mem _ hx))
    refine ⟨s, h1, ?_⟩
    rw [loop_cons, gN_ap, free_nb hb, iteS_t, optO_some]
    show nxt (b (ρ.set i (.val d))) (k := _) = _
    rw [h d List.mem_cons_self, nxt_nx]
    show loop (gN i) b ds _ = _
    rw [h2, List.set_set]
abbrev P2 := Int × Str
abbrev T4 := Int × Str × Int × Int
def ptD (p : P2) : D := .tup [.int p.1, .str p.2]
def tieD (t : T4) : D := .tup [.int t.1, .str t.2.1, .int t.2.2.1, .int t.2.2.2]
def netD (ps : List P2) (ts : List T4) : D := .tup [.tup (ps.map ptD), .tup (ts.map tieD)]
def nameOk (i : Int) : Prop := 0 ≤ i ∧ i ≤ 1000000
theorem rng2_int {i j : Int} (h : (-(2 ^ 62) ≤ i ∧ i < 2 ^ 62) ∧ -(2 ^ 62) ≤ j ∧ j < 2 ^ 62) : ∃ items, rng2 [.int i, .int j] = some items ∧ ∀ d ∈ items, ∃ k : Int, d = .int k ∧ i ≤ k ∧ k < j := by
  refine ⟨_, if_pos (by omega), fun d hd => ?_⟩
  obtain ⟨k, hk, e⟩ := List.mem_map.mp hd
  subst e
  rw [List.mem_range] at hk
  exact ⟨_, rfl, by omega, by omega⟩
theorem rng2_eq {i j : Int} (h : (-(2 ^ 62) ≤ i ∧ i < 2 ^ 62) ∧ -(2 ^ 62) ≤ j ∧ j < 2 ^ 62) : rng2 [.int i, .int j] = some ((List.range (j - i).toNat).map fun k => D.int (i + (k : Nat))) := if_pos (by omega)
/-! the deck -/
theorem mulOk_r {i j : Int} (h : -18446744073709551616 < j ∧ j < 18446744073709551616) : mulOk i j = true := decide_eq_true (.inr h)
theorem mulOk_l {i j : Int} (h : -18446744073709551616 < i ∧ i < 18446744073709551616) : mulOk i j = true := decide_eq_true (.inl h)
def isRtI : O → Bool
  | .rt (.int _) _ => true
  | _ => false
theorem of_rtI {o : O} (h : isRtI o = true) : ∃ v ρ', o = .rt (.int v) ρ' := by
  unfold isRtI at h
  split at h
  · exact ⟨_, _, rfl⟩
  · cases h
theorem rtI_rt {v : Int} {ρ : List Sl} : isRtI (.rt (.int v) ρ) = true := id rfl
theorem mixed_t (c k : Int) (hk : -1000000 ≤ k ∧ k ≤ 1000000) : ∃ v ρ', d_law_mixed [.val (.int c), .val (.int k), .no] = .rt (.int v) ρ' := by
  have m1 : ∀ i, mulOk i 40503 = true := fun i => mulOk_r (by omega)
  have m2 : ∀ i, mulOk i 7919 = true := fun i => mulOk_r (by omega)
  have m3 : ∀ i, mulOk i 48271 = true := fun i => mulOk_r (by omega)
  have m4 : mulOk k k = true := mulOk_r (by omega)
  have m5 : ∀ i : Int, mulOk (i % 2305843009213693951) (i % 2305843009213693951) = true := fun i => mulOk_r (by omega)
  clear hk
  have m6 := @rtI_rt
  refine of_rtI ?_
  unfold d_law_mixed
  walk_at "ev"
def Dk (cs : List Int) : Prop := ∀ c ∈ cs, 0 ≤ c ∧ c < 1000
def deckD (cs : List Int) : D := .lst (cs.reverse.map .int)
theorem plainL_ints {xs : List Int} : plainL (xs.map .int) = true := by
  induction xs with
  | nil => exact plainL_nil
  | cons x xs ih => rw [List.map_cons, plainL_cons, ih]; rfl
theorem plainO_ints {xs : List Int} : plainO (.lst (xs.map .int)) = true := plainL_ints
theorem plainO_deck {xs : List Int} : plainO (deckD xs) = true := plainL_ints
theorem at_ints {xs : List Int} {i : Int} (h0 : 0 ≤ i) (h : i < xs.length) : ∃ v, atI (xs.map D.int) i = some (.int v) := by
  have a1 : i.toNat < xs.length := by omega
  exact ⟨xs[i.toNat], atI_some h0 (by rw [List.getElem?_map, List.getElem?_eq_getElem a1]; rfl)⟩
theorem seti {xs : List Int} {i v : Int} (h0 : 0 ≤ i) (h : i < xs.length) : opSetIx (.lst (xs.map D.int)) (.int i) (.int v) = some (.lst ((xs.set i.toNat v).map .int)) := by
  show (ixN (xs.map D.int).length i).map _ = _
  unfold ixN
  rw [if_pos h0, if_pos (by rw [List.length_map]; exact h)]
  show some (D.lst ((xs.map D.int).set i.toNat (.int v))) = _
  rw [List.map_set]
def deckB : MS := (sSeq (sSet 6 (eBin opMod (eVar 5) (eFn opLen (aCons (eVar 2) aNil))))
    (sIf (tVal (eBin opGt (eView (eBin opIx (eVar 3) (eVar 6))) (eC (.int 0)))) (sSeq (sExpr (eMut isLst 4 opAppend (aCons (eBin opMod (eView (eBin opIx (eVar 3) (eVar 6))) (eC (.int 1000))) aNil)))
    (sPutAt isLst 3 opSetIx (eVar 6) (eBin opFdiv (eView (eBin opIx (eVar 3) (eVar 6))) (eC (.int 1000))))) (sExpr (eMut isLst 4 opAppend (aCons (eBin opMod (eCall 2 1 d_law_mixed [] (aCons (eBin opIx (eVar 2) (eVar 6)) (aCons (eBin opAdd (eVar 5) (eC (.int 1))) aNil))) (eC (.int 1000))) aNil)))))
theorem app_ints {xs : List Int} {v : Int} (h : xs.length ≤ 100000) : opAppend (.lst (xs.map D.int)) [.int v] = some (.non, .lst ((xs ++ [v]).map .int)) := by
  rw [append_lst, if_pos (by rw [List.length_map]; exact h), List.map_append]
  rfl
theorem ints_map : ∀ {xs : List Int}, (xs.map D.int).map Sl.val = (xs.map fun x => Sl.val (.int x)) := by
  intro xs
  rw [List.map_map]
  rfl
theorem deck_step {z y : D} {xs us cs : List Int} {k : Int} {s5 s6 s7 : Sl} (hx : xs ≠ []) (hu : us.length = xs.length) (hc : Dk cs) (hl : cs.length ≤ 90000) (hk : 0 ≤ k ∧ k < 90000) (f6 : isFree (some s6) = true) :
    ∃ (us' : List Int) (c k' : Int), us'.length = xs.length ∧ (0 ≤ c ∧ c < 1000) ∧ deckB [.val z, .val y, .val (.lst (xs.map .int)), .own (.lst (us.map .int)), .own (.lst (cs.map .int)), .val (.int k), s6, s7] = .nx [.val z, .val y, .val (.lst (xs.map .int)), .own (.lst (us'.map .int)), .own (.lst ((cs ++ [c]).map .int)), .val (.int k), .val (.int k'), s7] := by
  have hn : 0 < xs.length := List.length_pos_iff.mpr hx
  have h6 := free_nb f6
  have n1 : (0 : Int) < (xs.map D.int).length := by rw [List.length_map]; omega
  have b1 : 0 ≤ k % ((xs.map D.int).length : Int) := Int.emod_nonneg _ (by omega)
  have b2 : k % ((xs.map D.int).length : Int) < xs.length := by
    have := Int.emod_lt_of_pos k n1
    rw [List.length_map] at this ⊢
    exact this
  obtain ⟨v, hv⟩ := at_ints (xs := us) b1 (by rw [hu]; exact b2)
  obtain ⟨w, hw⟩ := at_ints (xs := xs) b1 b2
  have e1 := fun v => app_ints (xs := cs) (v := v) (by omega)
  by_cases hp : 0 < v
  · have e2 := seti (xs := us) (v := v / 1000) b1 (by rw [hu]; exact b2)
    refine ⟨us.set (k % ((xs.map D.int).length : Int)).toNat (v / 1000), v % 1000, k % ((xs.map D.int).length : Int), by rw [List.length_set]; exact hu, by omega, ?_⟩
    clear hc hl hk f6 b1 b2 hw hu hx hn
    unfold deckB
    walk_at "ev"
  · obtain ⟨m, ρ', e3⟩ := mixed_t w (k + 1) (by omega)
    refine ⟨us, m % 1000, k % ((xs.map D.int).length : Int), hu, by omega, ?_⟩
    clear hc hl hk f6 b1 b2 hu hx hn
    unfold deckB
    walk_at "ev"
theorem deck_loop {z y : D} {xs : List Int} {s7 : Sl} (hx : xs ≠ []) : ∀ {items : List D} {us cs : List Int} {s5 s6 : Sl}, us.length = xs.length → Dk cs → cs.length + items.length ≤ 90000 → (∀ d ∈ items, ∃ k : Int, d = .int k ∧ 0 ≤ k ∧ k < 90000) → isFree (some s5) = true → isFree (some s6) = true →
    ∃ (us' cs' : List Int) (s5' s6' : Sl), Dk cs' ∧ cs'.length = cs.length + items.length ∧ loop (gN 5) deckB items [.val z, .val y, .val (.lst (xs.map .int)), .own (.lst (us.map .int)), .own (.lst (cs.map .int)), s5, s6, s7] = .nx [.val z, .val y, .val (.lst (xs.map .int)), .own (.lst (us'.map .int)), .own (.lst (cs'.map .int)), s5', s6', s7]
  | [], us, cs, s5, s6, hu, hc, _, _, _, _ => ⟨us, cs, s5, s6, hc, rfl, rfl⟩
  | d :: ds, us, cs, s5, s6, hu, hc, hl, hd, f5, f6 => by
    obtain ⟨k, e, hk⟩ := hd d List.mem_cons_self
    subst e
    rw [List.length_cons] at hl
    obtain ⟨us1, c, k1, h1, h2, h3⟩ := deck_step (z := z) (y := y) (s5 := s5) (s7 := s7) hx hu hc (by omega) hk f6
    obtain ⟨us', cs', s5', s6', q1, q2, q3⟩ := deck_loop (z := z) (y := y) (s7 := s7) hx (items := ds) (us := us1) (cs := cs ++ [c]) (s5 := .val (.int k)) (s6 := .val (.int k1)) h1 (fun x hx => by
      rcases List.mem_append.mp hx with h | h
      · exact hc x h
      · rw [List.mem_singleton] at h; subst h; exact h2) (by rw [List.length_append, List.length_singleton]; omega) (fun x hx => hd x (List.mem_cons_of_mem _ hx)) rfl rfl
    refine ⟨us', cs', s5', s6', q1, by rw [q2, List.length_append, List.length_singleton, List.length_cons]; omega, ?_⟩
    have f5 := free_nb f5
    rw [loop_cons]
    clear hl hd hc hu h1 h2 hk q1 q2 f6 hx
    walk_at "ev"
theorem cut60 {ns : List Int} (h : ns.length ≤ 63) : cutL ns none (some 60) = ns.take 60 := by
  unfold cutL
  rw [HT.sIx_none, show HT.sIx ns.length ns.length (some 60) = min 60 ns.length from HT.sIx_nat _ _ 60, List.drop_zero, Nat.sub_zero]
  rw [List.take_eq_take_iff]
  omega
theorem deck_t {ns : List Int} {m : Int} (hl : ns.length ≤ 63) (hm : 0 ≤ m ∧ m ≤ 80000) : ∃ cs ρ', Dk cs ∧ cs.length = m.toNat ∧ d_law_deck [.val (.scr ns), .val (.int m), .no, .no, .no, .no, .no, .no] = .rtN (deckD cs) ρ' := by
  obtain ⟨xs, hx, hxl, h1⟩ : ∃ xs : List Int, xs ≠ [] ∧ xs.length ≤ 63 ∧ (eBin opCat (eFn opList (aCons (eSl opSlL (eVar 0) oNone (oSome (eC (.int 60)))) aNil)) (eBin opRepL (eLst (aCons (eC (.int 0)) aNil)) (eFn opInt (aCons (eBin opEq (eFn opLen (aCons (eVar 0) aNil)) (eC (.int 0))) aNil)))) [.val (.scr ns), .val (.int m), .no, .no, .no, .no, .no, .no] = .ok (.lst (xs.map .int)) [.val (.scr ns), .val (.int m), .no, .no, .no, .no, .no, .no] := by
    have s1 : opSlL (.scr ns) none (some 60) = some (.lst ((ns.take 60).map .int)) := by
      show some (D.lst ((cutL ns none (some 60)).map .int)) = _
      rw [cut60 hl]
    have s4 := fun i j => @eq_int i j
    cases ns with
    | nil =>
      refine ⟨[0], by simp, by decide, ?_⟩
      have s2 : opRepL (.lst [.int 0]) (.int 1) = some (.lst [.int 0]) := rfl
      have s3 : opCat (.lst []) (.lst [.int 0]) = some (.lst [.int 0]) := rfl
      have s5 : ((0 : Nat) : Int) = 0 := rfl
      walk_at "ev"
      simp only [List.take_nil, List.map_nil, list_lst, lft_some, bnd_ok, s3]
    | cons n ns =>
      refine ⟨(n :: ns).take 60, by simp, by rw [List.length_take]; omega, ?_⟩
      have s2 : opRepL (.lst [.int 0]) (.int 0) = some (.lst []) := rfl
      have s3 : opCat (.lst ((List.take 60 (n :: ns)).map .int)) (.lst []) = some (.lst ((List.take 60 (n :: ns)).map .int)) := by
        show (if _ then _ else _) = _
        rw [if_pos (by simp; omega), List.append_nil]
      have s5 : ((((n :: ns).length : Nat) : Int) == 0) = false := by
        rw [beq_eq_false_iff_ne, List.length_cons]
        omega
      generalize hz : (n :: ns) = zs at *
      clear hl hz
      walk_at "ev"
  have p1 : opPow (.int 10) (.int 18) = some (.int 1000000000000000000) := rfl
  have h2 : ∃ us : List Int, us.length = xs.length ∧ compL (gN 7) (mpure true) (eBin opMul (eVar 7) (eFn opInt (aCons (eBin opGe (eVar 7) (eBin opPow (eC (.int 10)) (eC (.int 18)))) aNil))) [7] (xs.map .int) [] [.val (.scr ns), .val (.int m), .val (.lst (xs.map .int)), .no, .no, .no, .no, .no] = .ok (us.map .int) [.val (.scr ns), .val (.int m), .val (.lst (xs.map .int)), .no, .no, .no, .no, .no] := by
    refine ⟨xs.map fun n => n * (if decide (1000000000000000000 ≤ n) then 1 else 0), by rw [List.length_map], ?_⟩
    rw [comp_map (f := fun d => match d with | .int n => .int (n * (if decide (1000000000000000000 ≤ n) then 1 else 0)) | d => d) rfl (by rw [List.length_map]; simp; omega) fun d hd => ?_]
    · rw [List.nil_append, List.map_map, List.map_map]
      rfl
    · obtain ⟨n, _, e⟩ := List.mem_map.mp hd
      subst e
      have m1 : mulOk n (if 1000000000000000000 ≤ n then 1 else 0) = true := mulOk_r (by split <;> omega)
      clear hd h1
      walk_at "ev"
  obtain ⟨us, hu, h2⟩ := h2
  have r1 := rng1_int (j := m) (by omega)
  obtain ⟨us', cs, s5, s6, q1, q2, q3⟩ := deck_loop (z := .scr ns) (y := .int m) (s7 := .no) hx (items := (List.range m.toNat).map fun k => D.int (k : Nat)) (us := us) (cs := []) (s5 := .no) (s6 := .no) hu (fun _ h => by cases h) (by rw [List.length_map, List.length_range, List.length_nil]; omega) (fun d hd => by
    obtain ⟨k, hk, e⟩ := List.mem_map.mp hd
    rw [List.mem_range] at hk
    exact ⟨k, e.symm, by omega, by omega⟩) rfl rfl
  refine ⟨cs, ?_⟩
  rw [exists_and_left, exists_and_left]
  refine ⟨q1, by rw [q2, List.length_map, List.length_range, List.length_nil]; omega, of_rtvN ?_⟩
  have p2 := @plainO_deck cs
  have p3 : opLstRev (.lst (cs.map .int)) = some (deckD cs) := by
    show some (D.lst (cs.map D.int).reverse) = _
    rw [← List.map_reverse]
    rfl
  have q3 : loop (gN 5) _ _ [.val (.scr ns), .val (.int m), .val (.lst (xs.map .int)), .own (.lst (us.map .int)), .own (.lst []), .no, .no, .no] = _ := q3
  unfold deckB at q3
  clear q1 q2 hu hx hxl hl hm
  unfold d_law_deck
  rw [sSeq_ap, sSet_ap, h1, bndO_ok]
  clear h1
  walk_at "ev"
theorem isLst_deck {cs : List Int} : isLst (deckD cs) = true := rfl
theorem len_deck {cs : List Int} : opLen [deckD cs] = some (.int cs.length) := by
  show some (D.int ((cs.reverse.map D.int).length : Nat)) = _
  rw [List.length_map, List.length_reverse]
theorem pop_deck {c : Int} {cs : List Int} : opPop (deckD (c :: cs)) [] = some (.int c, deckD cs) := by
  have e : (c :: cs).reverse.map D.int = cs.reverse.map D.int ++ [.int c] := by
    rw [List.reverse_cons, List.map_append]
    rfl
  unfold deckD
  rw [e]
  show (match (cs.reverse.map D.int ++ [D.int c])[(cs.reverse.map D.int ++ [D.int c]).length - 1]? with | some y => some (y, D.lst (cs.reverse.map D.int ++ [D.int c]).dropLast) | none => none) = _
  rw [List.dropLast_concat, List.length_append, List.length_singleton, Nat.add_sub_cancel, List.getElem?_append_right (Nat.le_refl _), Nat.sub_self]
  rfl
theorem next_t {cs : List Int} : d_law_next [.bor (deckD cs)] = .rt (.int (cs.headD 0)) [.bor (deckD cs.tail)] := by
  have h1 := @isLst_deck cs
  have h2 := @len_deck cs
  cases cs with
  | nil => rfl
  | cons c cs =>
    have h3 := @pop_deck c cs
    have h4 : (0 : Int) < ((c :: cs).length : Nat) := by rw [List.length_cons]; omega
    have h5 : (c :: cs).headD 0 = c := rfl
    have h6 : (c :: cs).tail = cs := rfl
    rw [h5, h6]
    generalize (c :: cs).length = n at *
    unfold d_law_next
    walk_at "ev"
theorem Dk.hd {cs : List Int} (h : Dk cs) : 0 ≤ cs.headD 0 ∧ cs.headD 0 < 1000 := by
  cases cs with
  | nil => simp
  | cons c cs => exact h c List.mem_cons_self
theorem Dk.tl {cs : List Int} (h : Dk cs) : Dk cs.tail := fun c hc => h c (List.mem_of_mem_tail hc)
def namesB : MS := (sSeq (sSet 4 (eBin opAdd (eBin opAdd (eVar 4) (eC (.int 1))) (eBin opMul (eBin opMod (eCallO 1 0 d_law_next 0 (oHere aNil)) (eC (.int 3))) (eVar 2))))
    (sExpr (eMut isLst 3 opAppend (aCons (eVar 4) aNil))))
theorem names_loop {m far : Int} (hf : 0 ≤ far ∧ far ≤ 2) : ∀ {items : List D} {cs xs : List Int} {last : Int} {s5 : Sl}, Dk cs → xs.length + items.length ≤ 5000 → -1 ≤ last → xs.Pairwise (· < ·) → (∀ x ∈ xs, 0 ≤ x ∧ x ≤ last) → isFree (some s5) = true →
    ∃ (cs' xs' : List Int) (last' : Int) (s5' : Sl), Dk cs' ∧ xs'.length = xs.length + items.length ∧ xs'.Pairwise (· < ·) ∧ (∀ x ∈ xs', 0 ≤ x ∧ x ≤ last + 5 * items.length) ∧ loop (gN 5) namesB items [.bor (deckD cs), .val (.int m), .val (.int far), .own (.lst (xs.map .int)), .val (.int last), s5] = .nx [.bor (deckD cs'), .val (.int m), .val (.int far), .own (.lst (xs'.map .int)), .val (.int last'), s5']
  | [], cs, xs, last, s5, hd, hl, h0, hp, hb, f5 => ⟨cs, xs, last, s5, hd, rfl, hp, fun x hx => by have := hb x hx; simp; omega, rfl⟩
  | d :: ds, cs, xs, last, s5, hd, hl, h0, hp, hb, f5 => by
    rw [List.length_cons] at hl
    have hm : 0 ≤ cs.headD 0 % 3 * far ∧ cs.headD 0 % 3 * far ≤ 4 := by
      have h1 : far = 0 ∨ far = 1 ∨ far = 2 := by omega
      rcases h1 with h1 | h1 | h1 <;> rw [h1] <;> omega
    obtain ⟨cs', xs', last', s5', q1, q2, q3, q4, q5⟩ := names_loop (m := m) (far := far) hf (items := ds) (cs := cs.tail) (xs := xs ++ [last + 1 + cs.headD 0 % 3 * far]) (last := last + 1 + cs.headD 0 % 3 * far) (s5 := .val d) hd.tl (by rw [List.length_append, List.length_singleton]; omega) (by omega) (by
      rw [List.pairwise_append]
      refine ⟨hp, List.pairwise_singleton _ _, fun a ha b hb2 => ?_⟩
      rw [List.mem_singleton] at hb2
      have := hb a ha
      omega) (fun x hx => by
      rcases List.mem_append.mp hx with h | h
      · have := hb x h
        omega
      · rw [List.mem_singleton] at h
        omega) rfl
    refine ⟨cs', xs', last', s5', q1, by rw [q2, List.length_append, List.length_singleton, List.length_cons]; omega, q3, fun x hx => by have := q4 x hx; rw [List.length_cons]; omega, ?_⟩
    have f5 := free_nb f5
    have e1 := @next_t cs
    have e2 : mulOk (cs.headD 0 % 3) far = true := mulOk_r (by omega)
    have e3 := app_ints (xs := xs) (v := last + 1 + cs.headD 0 % 3 * far) (by omega)
    rw [loop_cons]
    clear hl hd h0 hp hb hm q1 q2 q3 q4 hf
    unfold namesB at q5 ⊢
    walk_at "ev"
theorem names_t {cs : List Int} {m far : Int} (hd : Dk cs) (hm : 0 ≤ m ∧ m ≤ 4000) (hf : 0 ≤ far ∧ far ≤ 2) : ∃ (xs cs' : List Int) (ρ' : List Sl), Dk cs' ∧ xs.length = m.toNat ∧ xs.Pairwise (· < ·) ∧ (∀ x ∈ xs, 0 ≤ x ∧ x < 5 * m) ∧ d_law_names [.bor (deckD cs), .val (.int m), .val (.int far), .no, .no, .no] = .rtN (.lst (xs.map .int)) (.bor (deckD cs') :: ρ') := by
  obtain ⟨cs', xs', last', s5', q1, q2, q3, q4, q5⟩ := names_loop (m := m) (far := far) hf (items := (List.range m.toNat).map fun k => D.int (k : Nat)) (cs := cs) (xs := []) (last := -1) (s5 := .no) hd (by rw [List.length_map, List.length_range, List.length_nil]; omega) (by omega) List.Pairwise.nil (fun _ h => by cases h) rfl
  rw [List.length_map, List.length_range] at q4
  rw [List.length_map, List.length_range, List.length_nil] at q2
  refine ⟨xs', cs', [.val (.int m), .val (.int far), .no, .val (.int last'), s5'], q1, by omega, q3, fun x hx => by have := q4 x hx; omega, ?_⟩
  have r1 := rng1_int (j := m) (by omega)
  have q5 : loop (gN 5) namesB _ [.bor (deckD cs), .val (.int m), .val (.int far), .own (.lst []), .val (.int (-1)), .no] = _ := q5
  clear q1 q2 q3 q4 hd hm hf
  unfold namesB at q5
  unfold d_law_names
  walk_at "ev"
theorem aab_ix {i : Int} (h : 0 ≤ i ∧ i < 3) : ∃ x : Str, (x = "a" ∨ x = "b") ∧ opIx (.str "aab") (.int i) = some (.str x) := by
  have h1 : i = 0 ∨ i = 1 ∨ i = 2 := by omega
  rcases h1 with h1 | h1 | h1 <;> subst h1
  · exact ⟨"a", .inl rfl, rfl⟩
  · exact ⟨"a", .inl rfl, rfl⟩
  · exact ⟨"b", .inr rfl, rfl⟩
theorem eef_ix {i : Int} (h : 0 ≤ i ∧ i < 3) : ∃ x : Str, (x = "e" ∨ x = "f") ∧ opIx (.str "eef") (.int i) = some (.str x) := by
  have h1 : i = 0 ∨ i = 1 ∨ i = 2 := by omega
  rcases h1 with h1 | h1 | h1 <;> subst h1
  · exact ⟨"e", .inl rfl, rfl⟩
  · exact ⟨"e", .inl rfl, rfl⟩
  · exact ⟨"f", .inr rfl, rfl⟩
def netB1 : MS := (sExpr (eMut isLst 6 opAppend (aCons (eTup (aCons (eVar 7) (aCons (eBin opIx (eC (.str "aab")) (eBin opMod (eCallO 1 0 d_law_next 0 (oHere aNil)) (eC (.int 3)))) aNil))) aNil)))
def netB2 : MS := (sSeq (sSet 4 (eCallO 1 0 d_law_next 0 (oHere aNil)))
    (sExpr (eMut isLst 8 opAppend (aCons (eTup (aCons (eVar 7) (aCons (eBin opIx (eC (.str "eef")) (eBin opMod (eVar 4) (eC (.int 3)))) (aCons (eBin opIx (eView (eBin opIx (eVar 6) (eBin opMod (eBin opFdiv (eVar 4) (eC (.int 3))) (eVar 5)))) (eC (.int 0))) (aCons (eBin opIx (eView (eBin opIx (eVar 6) (eBin opMod (eBin opFdiv (eVar 4) (eC (.int 30))) (eVar 5)))) (eC (.int 0))) aNil))))) aNil))))
def abP (p : P2) : Prop := p.2 = "a" ∨ p.2 = "b"
theorem net_loop1 {a1 a2 a3 a4 a5 : D} {s8 : Sl} : ∀ {ns cs : List Int} {ps : List P2} {s7 : Sl}, Dk cs → ps.length + ns.length ≤ 5000 → (∀ p ∈ ps, abP p) → isFree (some s7) = true →
    ∃ (cs' : List Int) (ps' : List P2) (s7' : Sl), Dk cs' ∧ ps'.map (·.1) = ps.map (·.1) ++ ns ∧ (∀ p ∈ ps', abP p) ∧ isFree (some s7') = true ∧ loop (gN 7) netB1 (ns.map .int) [.bor (deckD cs), .val a1, .val a2, .val a3, .val a4, .val a5, .own (.lst (ps.map ptD)), s7, s8] = .nx [.bor (deckD cs'), .val a1, .val a2, .val a3, .val a4, .val a5, .own (.lst (ps'.map ptD)), s7', s8]
  | [], cs, ps, s7, hd, hl, hp, f7 => ⟨cs, ps, s7, hd, by rw [List.append_nil], hp, f7, rfl⟩
  | n :: ns, cs, ps, s7, hd, hl, hp, f7 => by
    rw [List.length_cons] at hl
    obtain ⟨x, hx, e0⟩ := aab_ix (i := cs.headD 0 % 3) (by omega)
    obtain ⟨cs', ps', s7', q1, q2, q3, q4, q5⟩ := net_loop1 (a1 := a1) (a2 := a2) (a3 := a3) (a4 := a4) (a5 := a5) (s8 := s8) (ns := ns) (cs := cs.tail) (ps := ps ++ [(n, x)]) (s7 := .val (.int n)) hd.tl (by rw [List.length_append, List.length_singleton]; omega) (fun p h => by
      rcases List.mem_append.mp h with h | h
      · exact hp p h
      · rw [List.mem_singleton] at h; subst h; exact hx) rfl
    refine ⟨cs', ps', s7', q1, by rw [q2, List.map_append, List.append_assoc]; rfl, q3, q4, ?_⟩
    have f7 := free_nb f7
    have e1 := @next_t cs
    have e2 : (ps.map ptD).length ≤ 100000 := by rw [List.length_map]; omega
    have e3 : ps.map ptD ++ [.tup [.int n, .str x]] = (ps ++ [(n, x)]).map ptD := by rw [List.map_append]; rfl
    rw [List.map_cons, loop_cons]
    clear hl hd hp hx q1 q2 q3 q4
    unfold netB1 at q5 ⊢
    walk_at "ev"
theorem plain_pt {p : P2} : plain (ptD p) = true := by
  unfold ptD
  rw [plain_tup, plainL_cons, plainL_cons, plainL_nil]
  rfl
theorem at_pts {ps : List P2} {i : Int} (h0 : 0 ≤ i) (h : i < ps.length) : ∃ p ∈ ps, atI (ps.map ptD) i = some (ptD p) := by
  have a1 : i.toNat < ps.length := by omega
  exact ⟨ps[i.toNat], List.getElem_mem a1, atI_some h0 (by rw [List.getElem?_map, List.getElem?_eq_getElem a1]; rfl)⟩
def efT (ps : List P2) (t : T4) : Prop := (t.2.1 = "e" ∨ t.2.1 = "f") ∧ (∃ p ∈ ps, p.1 = t.2.2.1) ∧ ∃ p ∈ ps, p.1 = t.2.2.2
theorem net_loop2 {a1 a2 a3 : D} {ps : List P2} (hps : 0 < ps.length) : ∀ {ns cs : List Int} {ts : List T4} {c4 : Int} {s7 : Sl}, Dk cs → ts.length + ns.length ≤ 5000 → (∀ t ∈ ts, efT ps t) → isFree (some s7) = true →
    ∃ (cs' : List Int) (ts' : List T4) (c4' : Int) (s7' : Sl), Dk cs' ∧ ts'.map (·.1) = ts.map (·.1) ++ ns ∧ (∀ t ∈ ts', efT ps t) ∧ isFree (some s7') = true ∧ loop (gN 7) netB2 (ns.map .int) [.bor (deckD cs), .val a1, .val a2, .val a3, .val (.int c4), .val (.int ps.length), .own (.lst (ps.map ptD)), s7, .own (.lst (ts.map tieD))] = .nx [.bor (deckD cs'), .val a1, .val a2, .val a3, .val (.int c4'), .val (.int ps.length), .own (.lst (ps.map ptD)), s7', .own (.lst (ts'.map tieD))]
  | [], cs, ts, c4, s7, hd, hl, hp, f7 => ⟨cs, ts, c4, s7, hd, by rw [List.append_nil], hp, f7, rfl⟩
  | n :: ns, cs, ts, c4, s7, hd, hl, hp, f7 => by
    rw [List.length_cons] at hl
    obtain ⟨x, hx, e0⟩ := eef_ix (i := cs.headD 0 % 3) (by omega)
    have n1 : (0 : Int) < ps.length := by omega
    obtain ⟨p, hp1, g1⟩ := at_pts (ps := ps) (i := cs.headD 0 / 3 % ps.length) (Int.emod_nonneg _ (by omega)) (Int.emod_lt_of_pos _ n1)
    obtain ⟨q, hq1, g2⟩ := at_pts (ps := ps) (i := cs.headD 0 / 30 % ps.length) (Int.emod_nonneg _ (by omega)) (Int.emod_lt_of_pos _ n1)
    obtain ⟨cs', ts', c4', s7', q1, q2, q3, q4, q5⟩ := net_loop2 (a1 := a1) (a2 := a2) (a3 := a3) (ps := ps) hps (ns := ns) (cs := cs.tail) (ts := ts ++ [(n, x, p.1, q.1)]) (c4 := cs.headD 0) (s7 := .val (.int n)) hd.tl (by rw [List.length_append, List.length_singleton]; omega) (fun t h => by
      rcases List.mem_append.mp h with h | h
      · exact hp t h
      · rw [List.mem_singleton] at h; subst h; exact ⟨hx, ⟨p, hp1, rfl⟩, ⟨q, hq1, rfl⟩⟩) rfl
    refine ⟨cs', ts', c4', s7', q1, by rw [q2, List.map_append, List.append_assoc]; rfl, q3, q4, ?_⟩
    have f7 := free_nb f7
    have e1 := @next_t cs
    have e2 : (ts.map tieD).length ≤ 100000 := by rw [List.length_map]; omega
    have e3 : ts.map tieD ++ [.tup [.int n, .str x, .int p.1, .int q.1]] = (ts ++ [(n, x, p.1, q.1)]).map tieD := by rw [List.map_append]; rfl
    have e4 := @plain_pt p
    have e5 := @plain_pt q
    have e6 : opIx (ptD p) (.int 0) = some (.int p.1) := rfl
    have e7 : opIx (ptD q) (.int 0) = some (.int q.1) := rfl
    rw [List.map_cons, loop_cons]
    clear hl hd hp hx q1 q2 q3 q4 hps hp1 hq1
    unfold netB2 at q5 ⊢
    walk_at "ev"
theorem plainL_pts : ∀ {ps : List P2}, plainL (ps.map ptD) = true
  | [] => plainL_nil
  | p :: ps => by rw [List.map_cons, plainL_cons, plain_pt, plainL_pts]; rfl
theorem plain_tie {t : T4} : plain (tieD t) = true := by
  unfold tieD
  rw [plain_tup, plainL_cons, plainL_cons, plainL_cons, plainL_cons, plainL_nil]
  rfl
theorem plainL_ties : ∀ {ts : List T4}, plainL (ts.map tieD) = true
  | [] => plainL_nil
  | t :: ts => by rw [List.map_cons, plainL_cons, plain_tie, plainL_ties]; rfl
/-- a net as the law's maker gives it -/
structure Made (mp mt : Int) (ps : List P2) (ts : List T4) : Prop where
  p0 : 1 ≤ ps.length
  pl : (ps.length : Int) ≤ mp
  tl : (ts.length : Int) ≤ mt
  pk : ∀ p ∈ ps, 0 ≤ p.1 ∧ p.1 < 5 * mp ∧ abP p
  tk : ∀ t ∈ ts, 0 ≤ t.1 ∧ t.1 < 5 * (mt + 1) ∧ efT ps t
  pr : (ps.map (·.1)).Pairwise (· < ·)
  tr : (ts.map (·.1)).Pairwise (· < ·)
theorem net_t {cs : List Int} {mp mt far : Int} (hd : Dk cs) (hp : 1 ≤ mp ∧ mp ≤ 1000) (ht : 0 ≤ mt ∧ mt ≤ 1000) (hf : 0 ≤ far ∧ far ≤ 2) : ∃ (ps : List P2) (ts : List T4) (cs' : List Int) (ρ' : List Sl), Made mp mt ps ts ∧ Dk cs' ∧ d_law_net [.bor (deckD cs), .val (.int mp), .val (.int mt), .val (.int far), .no, .no, .no, .no, .no] = .rt (netD ps ts) (.bor (deckD cs') :: ρ') := by
  have n1 := @next_t cs
  have b1 : 0 ≤ cs.headD 0 % mp := Int.emod_nonneg _ (by omega)
  have b2 : cs.headD 0 % mp < mp := Int.emod_lt_of_pos _ (by omega)
  obtain ⟨xs, cs1, ρ1, d1, l1, r1, k1, e1⟩ := names_t hd.tl (m := 1 + cs.headD 0 % mp) (far := far) (by omega) hf
  obtain ⟨cs2, ps, s7, d2, l2, k2, f7, e2⟩ := net_loop1 (a1 := .int mp) (a2 := .int mt) (a3 := .int far) (a4 := .int (cs.headD 0)) (a5 := .int (1 + cs.headD 0 % mp)) (s8 := .no) (ns := xs) (cs := cs1) (ps := []) (s7 := .no) d1 (by rw [l1, List.length_nil]; omega) (fun _ h => by cases h) rfl
  have l3 : ps.length = xs.length := by
    have := congrArg List.length l2
    rwa [List.length_map, List.map_nil, List.nil_append] at this
  have l4 : (1 + cs.headD 0 % mp) = (ps.length : Int) := by rw [l3, l1]; omega
  have n2 := @next_t cs2
  have b3 : 0 ≤ cs2.headD 0 % (mt + 1) := Int.emod_nonneg _ (by omega)
  have b4 : cs2.headD 0 % (mt + 1) < mt + 1 := Int.emod_lt_of_pos _ (by omega)
  obtain ⟨ys, cs3, ρ3, d3, l5, r3, k3, e3⟩ := names_t d2.tl (m := cs2.headD 0 % (mt + 1)) (far := far) (by omega) hf
  obtain ⟨cs4, ts, c4, s7', d4, l6, k4, f7', e4⟩ := net_loop2 (a1 := .int mp) (a2 := .int mt) (a3 := .int far) (ps := ps) (by omega) (ns := ys) (cs := cs3) (ts := []) (c4 := cs.headD 0) (s7 := s7) d3 (by rw [l5, List.length_nil]; omega) (fun _ h => by cases h) f7
  rw [List.map_nil, List.nil_append] at l2 l6
  have l7 : ts.length = ys.length := by
    have := congrArg List.length l6
    rwa [List.length_map] at this
  refine ⟨ps, ts, cs4, [.val (.int mp), .val (.int mt), .val (.int far), .val (.int c4), .val (.int ps.length), .own (.lst (ps.map ptD)), s7', .own (.lst (ts.map tieD))], ⟨by omega, by omega, by omega, fun p hp => ?_, fun t ht => ?_, by rw [l2]; exact r1, by rw [l6]; exact r3⟩, d4, ?_⟩
  · have hx : p.1 ∈ xs := by rw [← l2]; exact List.mem_map.mpr ⟨p, hp, rfl⟩
    have := k1 _ hx
    exact ⟨this.1, by omega, k2 p hp⟩
  · have hx : t.1 ∈ ys := by rw [← l6]; exact List.mem_map.mpr ⟨t, ht, rfl⟩
    have := k3 _ hx
    exact ⟨this.1, by omega, k4 t ht⟩
  · have c1 : 0 < mp := by omega
    have c2 : 0 < mt + 1 := by omega
    have e2 : loop (gN 7) netB1 _ [.bor (deckD cs1), .val (.int mp), .val (.int mt), .val (.int far), .val (.int (cs.headD 0)), .val (.int (1 + cs.headD 0 % mp)), .own (.lst []), .no, .no] = _ := e2
    have e4 : loop (gN 7) netB2 _ [.bor (deckD cs3), .val (.int mp), .val (.int mt), .val (.int far), .val (.int (cs.headD 0)), .val (.int ps.length), .own (.lst (ps.map ptD)), s7, .own (.lst [])] = _ := e4
    rw [l4] at e1 e2
    have p1 := @plainL_pts ps
    have p2 := @plainL_ties ts
    have f7 := free_nb f7
    have f7' := free_nb f7'
    clear hd hp ht hf b1 b2 b3 b4 d1 d2 d3 d4 l1 l2 l3 l5 l6 l7 k1 k2 k3 k4 r1 r3
    unfold netB1 at e2
    unfold netB2 at e4
    unfold d_law_net netD
    walk_at "ev"
end NT.Pure

set_option Elab.async false
set_option linter.all false
set_option maxRecDepth 100000
set_option maxHeartbeats 4000000
namespace NT.Pure
open PySem L2 NT NT.Den
local macro_rules | `(tactic| walk_at "ev") => `(tactic| simp (maxSteps := 100000000) only [rtb_rt, wO_nx, wO_rt, wO_rtN, wO_ex, stp_ap, sWhile_ap, wT_ok, sCalm_ap, iDct_ap, dctI_val, rtv_rt, rtvN_rtN, bnd_ok, bnd_ex, bnd_bad, bndO_ok, bndO_ex, bndO_bad, nxt_nx, nxt_rt, nxt_rtN, nxt_ex, nxt_bad, lft_some, mbind_ap, mpure_ap, lift_ap, eC_ap, rdV_val, eVar_ap, eBin_ap, eUn_ap, aNil_ap, aCons_ap, eFn_ap, eTup_ap, eLst_ap, tupO, lstO, tVal_ap, asB_bl, iteR_t, iteR_f, iteO_t, iteO_f, mAnd_ap, mOr_ap, mNot_ap, eAnd_ap, eOr_ap, eNot_ap, eChain_ap, vw_ok, vwN_ok, vwT_ok, eView_ap, eViewN_ap, tView_ap, sDo_ap, sSeq_ap, sSkip_ap, put_ap, sSet_ap, sSetN_ap, sRet_ap, sRetN_ap, sExpr_ap, sIf_ap, sRetO_ap, retO_own, sRaise_ap, sFor_ap, loop_nil, optO_some, sAsg_ap, iteS_t, gN_ap, gT_ap, gsNil_ap, bS_some, gsCons_ap, notBor_val, notBor_own, notBor_no, mineO_own, mineO_bor, with_own, with_bor, optR_some, mutAt_ap, eMut_ap, sPutAt_ap, outE_rt, outE_rtN, outE_nx, outE_ex, outN_rtN, outN_ex, eCall_ap, eCallN_ap, borO_bor, outO_rt, outO_rtN, outO_nx, outO_ex, outON_rtN, outON_ex, callO_ap, callON_ap, eCallO_ap, eCallON_ap, oHere_ap, oThere_ap, seqO_lst, seqO_tup, seqO_scr, iSeq_ap, sgnO_str, iSign_ap, iRange1_ap, iRange2_ap, eComp_ap, eSl_ap, oNone_ap, intO_int, oSome_ap, eGet2_ap, add_int, neg_int, mul_int, sub_int, lt_int, le_int, gt_int, ge_int, mod_int, fdiv_int, len_lst, len_tup, len_scr, len_str, ix_tup', ix_lst', tuple_lst, tuple_tup, list_lst, list_tup, append_lst, isLst_lst, isDct_dK, isDct_dT, is_bl, isNot_bl, plain_int, plain_str, plain_bl, plain_non, plain_tup, plainL_nil, plainL_cons, int_bl, int_int, viewS_val, viewS_own, viewS_bor, viewS_no, atI_0, atI_1, atI_2, atI_3, eq_int, ne_int, eq_bl, ne_bl, sl_tup,
  List.map_cons, List.map_nil, List.replicate_succ, List.replicate_zero, List.append_nil, List.nil_append, List.cons_append, List.length_cons, List.length_nil, List.getElem?_cons_zero, List.getElem?_cons_succ, List.set_cons_zero, List.set_cons_succ, Nat.reduceAdd, Nat.reduceLeDiff, Nat.reduceEqDiff, Int.reduceLT, Int.reduceLE, Int.reduceAdd, Int.reduceSub, Int.reduceNeg, Int.reduceBEq, cast_0, cast_1, cast_2, cast_3, cast_4, cast_5, cast_6, cast_7, cast_8, Int.reduceToNat, decide_true, decide_false, decide_eq_true_eq, if_true, if_false, ite_true, ite_false, reduceIte, Bool.and_true, Bool.true_and, Bool.and_false, Bool.false_and, Bool.or_false, Bool.false_or, Bool.or_true, Bool.true_or, Bool.not_true, Bool.not_false, eq_self, Bool.false_eq_true, and_true, true_and, beq_self_eq_true, Option.map_some, Option.bind_some, *])
/-! weights -/
def wD (w : Str × Int) : D := .tup [.str w.1, .int w.2]
def wK (ws : List (Str × Int)) : List (Key × D) := mergeD [] (ws.map fun w => (.inr w.1, .int w.2))
def AllI (kvs : List (Key × D)) : Prop := ∀ kv ∈ kvs, ∃ n, kv.2 = .int n
theorem AllI.put {kvs : List (Key × D)} {k : Key} {n : Int} (h : AllI kvs) : AllI (putD kvs k (.int n)) := by
  intro kv hk
  unfold putD at hk
  split at hk
  · obtain ⟨x, hx, e⟩ := List.mem_map.mp hk
    subst e
    split
    · exact ⟨n, rfl⟩
    · exact h x hx
  · rcases List.mem_append.mp hk with hk | hk
    · exact h kv hk
    · rw [List.mem_singleton] at hk
      subst hk
      exact ⟨n, rfl⟩
theorem AllI.merge : ∀ {ws : List (Str × Int)} {kvs : List (Key × D)}, AllI kvs → AllI (mergeD kvs (ws.map fun w => (.inr w.1, .int w.2)))
  | [], _, h => h
  | w :: ws, kvs, h => by
    show AllI (mergeD (putD kvs (.inr w.1) (.int w.2)) _)
    exact AllI.merge h.put
theorem wK_all {ws : List (Str × Int)} : AllI (wK ws) := AllI.merge (fun _ h => by cases h)
theorem pairs_w : ∀ {ws : List (Str × Int)}, pairsD (ws.map wD) = some (ws.map fun w => (.inr w.1, .int w.2))
  | [] => rfl
  | w :: ws => by
    rw [List.map_cons]
    show (match keyK (.str w.1), pairsD (ws.map wD) with
      | some k, some r => some ((k, D.int w.2) :: r)
      | _, _ => none) = _
    rw [pairs_w]
    rfl
theorem dict_w {ws : List (Str × Int)} : opDict [.tup (ws.map wD)] = some (.dK (wK ws)) := by
  have hf : flat (ws.map wD) = false := by
    cases ws with
    | nil => rfl
    | cons w ws => rfl
  show (if flat (ws.map wD) = true then none else _) = _
  rw [hf, pairs_w]
  rfl
def kindAt (d : D) : Option Str := match opIx d (.int 1) with
  | some (.str x) => some x
  | _ => none
def numD (kvs : List (Key × D)) (d : D) : Int := match kindAt d with
  | some x => match lookD kvs (.inr x) with
    | some (.int n) => n
    | _ => 0
  | none => 0
theorem look_int {kvs : List (Key × D)} {x : Key} (h : AllI kvs) : lookD kvs x = none ∨ ∃ n, lookD kvs x = some (.int n) := by
  unfold lookD
  cases e : kvs.find? fun kv => decide (kv.1 = x) with
  | none => exact .inl rfl
  | some kv =>
    obtain ⟨n, hn⟩ := h kv (List.mem_of_find?_eq_some e)
    exact .inr ⟨n, by rw [← hn]; rfl⟩
theorem get_w {kvs : List (Key × D)} {d : D} {x : Str} (h : AllI kvs) (e : opIx d (.int 1) = some (.str x)) : (opGetD (.dK kvs) (.str x)).map (fun o => o.getD (.int 0)) = some (.int (numD kvs d)) := by
  have e2 : kindAt d = some x := by unfold kindAt; rw [e]
  show some ((lookD kvs (.inr x)).getD (.int 0)) = _
  unfold numD
  rw [e2]
  rcases look_int (x := .inr x) h with q | ⟨n, q⟩ <;> simp only [q] <;> rfl
def Kd (items : List D) : Prop := items.length ≤ 1000 ∧ ∀ d ∈ items, ∃ x, opIx d (.int 1) = some (.str x)
theorem comp_w {kvs : List (Key × D)} {items : List D} {i j : Nat} {ρ : List Sl} (hi : isFree ρ[i]? = true) (hj : ρ[j]? = some (.val (.dK kvs))) (ne : i ≠ j) (ha : AllI kvs) (hk : Kd items) :
    compL (gN i) (mpure true) (eGet2 (eVar j) (eBin opIx (eVar i) (eC (.int 1))) (eC (.int 0))) [i] items [] ρ = .ok (items.map fun d => .int (numD kvs d)) ρ := by
  rw [comp_map (f := fun d => .int (numD kvs d)) hi (by have := hk.1; simp; omega) fun d hd => ?_]
  · rfl
  · obtain ⟨x, e⟩ := hk.2 d hd
    have hlt : i < ρ.length := by
      cases q : ρ[i]? with
      | none => rw [q] at hi; cases hi
      | some s => exact (List.getElem?_eq_some_iff.mp q).1
    have e1 : ((ρ.set i .no).set i (.val d))[j]? = some (.val (.dK kvs)) := by rw [List.set_set, List.getElem?_set_ne ne]; exact hj
    have e2 : ((ρ.set i .no).set i (.val d))[i]? = some (.val d) := by rw [List.set_set, List.getElem?_set_self hlt]
    have e3 := get_w ha e
    have e4 : (ρ.set i .no).set i (.val d) = ρ.set i (.val d) := List.set_set ..
    rw [e4] at e1 e2 ⊢
    clear e4 hd hk hi hj
    walk_at "ev"
theorem sum_w {kvs : List (Key × D)} {items : List D} : opSum [.lst (items.map fun d => .int (numD kvs d))] = some (.int (items.map (numD kvs)).sum) := by
  show (intsOf _).map _ = _
  have : intsOf (items.map fun d => .int (numD kvs d)) = some (items.map (numD kvs)) := by
    induction items with
    | nil => rfl
    | cons d ds ih =>
      rw [List.map_cons, List.map_cons]
      show (intsOf _).map _ = _
      rw [ih]
      rfl
  rw [this]
  rfl
theorem together_t {items : List D} {ws : List (Str × Int)} (hk : Kd items) : ∃ ρ', d_together [.val (.tup items), .val (.tup (ws.map wD)), .no, .no] = .rt (.int (items.map (numD (wK ws))).sum) ρ' := by
  have e1 := @dict_w ws
  have e2 := comp_w (kvs := wK ws) (items := items) (i := 3) (j := 2) (ρ := [.val (.tup items), .val (.tup (ws.map wD)), .val (.dK (wK ws)), .no]) rfl rfl (by decide) wK_all hk
  have e3 := @sum_w (wK ws) items
  refine of_rtv ?_
  have l : (items.map fun d => D.int (numD (wK ws) d)).length ≤ 100000 := by have := hk.1; simp; omega
  clear hk
  generalize List.map wD ws = xs at *
  generalize wK ws = kvs at *
  unfold d_together
  walk_at "ev"
theorem weight_t {is js : List D} {ws vs : List (Str × Int)} (hi : Kd is) (hj : Kd js) : ∃ ρ', d_weight [.val (.tup [.tup is, .tup js]), .val (.tup [.tup (ws.map wD), .tup (vs.map wD)])] = .rt (.int ((is.map (numD (wK ws))).sum + (js.map (numD (wK vs))).sum)) ρ' := by
  obtain ⟨ρ1, e1⟩ := together_t (ws := ws) hi
  obtain ⟨ρ2, e2⟩ := together_t (ws := vs) hj
  refine of_rtv ?_
  clear hi hj
  generalize List.map wD ws = xs at *
  generalize List.map wD vs = ys at *
  unfold d_weight
  walk_at "ev"
theorem weighs_t {is js : List D} {ws vs : List (Str × Int)} (hi : Kd is) (hj : Kd js) : ∃ ρ', d_law_weighs [.val (.tup [.tup is, .tup js]), .val (.tup [.tup (ws.map wD), .tup (vs.map wD)]), .no, .no, .no, .no] = .rt (.int ((is.map (numD (wK ws))).sum + (js.map (numD (wK vs))).sum)) ρ' := by
  have r2 : rng1 [.int 2] = some [.int 0, .int 1] := rfl
  have d1 := @dict_w ws
  have d2 := @dict_w vs
  have s1 := @sum_w (wK ws) is
  have s2 := @sum_w (wK vs) js
  obtain ⟨xs, ex⟩ : ∃ xs, xs = List.map wD ws := ⟨_, rfl⟩
  obtain ⟨ys, ey⟩ : ∃ ys, ys = List.map wD vs := ⟨_, rfl⟩
  rw [← ex] at d1
  rw [← ey] at d2
  have c1 := comp_w (kvs := wK ws) (items := is) (i := 5) (j := 4) (ρ := [.val (.tup [.tup is, .tup js]), .val (.tup [.tup xs, .tup ys]), .val (.int 0), .val (.int 0), .val (.dK (wK ws)), .no]) rfl rfl (by decide) wK_all hi
  have c2 := comp_w (kvs := wK vs) (items := js) (i := 5) (j := 4) (ρ := [.val (.tup [.tup is, .tup js]), .val (.tup [.tup xs, .tup ys]), .val (.int (0 + (is.map (numD (wK ws))).sum)), .val (.int 1), .val (.dK (wK vs)), .no]) rfl rfl (by decide) wK_all hj
  have l1 : (is.map fun d => D.int (numD (wK ws) d)).length ≤ 100000 := by have := hi.1; simp; omega
  have l2 : (js.map fun d => D.int (numD (wK vs) d)).length ≤ 100000 := by have := hj.1; simp; omega
  rw [← ex, ← ey]
  refine of_rtv ?_
  clear hi hj ex ey
  generalize wK ws = k1 at *
  generalize wK vs = k2 at *
  rw [← Int.zero_add (is.map (numD k1)).sum]
  unfold d_law_weighs
  walk_at "ev"
  rw [loop_cons]
  walk_at "ev"
  rw [loop_cons]
  walk_at "ev"
end NT.Pure

set_option Elab.async false
set_option linter.all false
set_option maxRecDepth 100000
set_option maxHeartbeats 4000000
namespace NT.Pure
open PySem L2 NT NT.Den
local macro_rules | `(tactic| walk_at "ev") => `(tactic| simp (maxSteps := 100000000) only [rtb_rt, wO_nx, wO_rt, wO_rtN, wO_ex, stp_ap, sWhile_ap, wT_ok, sCalm_ap, iDct_ap, dctI_val, rtv_rt, rtvN_rtN, bnd_ok, bnd_ex, bnd_bad, bndO_ok, bndO_ex, bndO_bad, nxt_nx, nxt_rt, nxt_rtN, nxt_ex, nxt_bad, lft_some, mbind_ap, mpure_ap, lift_ap, eC_ap, rdV_val, eVar_ap, eBin_ap, eUn_ap, aNil_ap, aCons_ap, eFn_ap, eTup_ap, eLst_ap, tupO, lstO, tVal_ap, asB_bl, iteR_t, iteR_f, iteO_t, iteO_f, mAnd_ap, mOr_ap, mNot_ap, eAnd_ap, eOr_ap, eNot_ap, eChain_ap, vw_ok, vwN_ok, vwT_ok, eView_ap, eViewN_ap, tView_ap, sDo_ap, sSeq_ap, sSkip_ap, put_ap, sSet_ap, sSetN_ap, sRet_ap, sRetN_ap, sExpr_ap, sIf_ap, sRetO_ap, retO_own, sRaise_ap, sFor_ap, loop_nil, optO_some, sAsg_ap, iteS_t, gN_ap, gT_ap, gsNil_ap, bS_some, gsCons_ap, notBor_val, notBor_own, notBor_no, mineO_own, mineO_bor, with_own, with_bor, optR_some, mutAt_ap, eMut_ap, sPutAt_ap, outE_rt, outE_rtN, outE_nx, outE_ex, outN_rtN, outN_ex, eCall_ap, eCallN_ap, borO_bor, outO_rt, outO_rtN, outO_nx, outO_ex, outON_rtN, outON_ex, callO_ap, callON_ap, eCallO_ap, eCallON_ap, oHere_ap, oThere_ap, seqO_lst, seqO_tup, seqO_scr, iSeq_ap, sgnO_str, iSign_ap, iRange1_ap, iRange2_ap, eComp_ap, eSl_ap, oNone_ap, intO_int, oSome_ap, eGet2_ap, add_int, neg_int, mul_int, sub_int, lt_int, le_int, gt_int, ge_int, mod_int, fdiv_int, len_lst, len_tup, len_scr, len_str, ix_tup', ix_lst', tuple_lst, tuple_tup, list_lst, list_tup, append_lst, isLst_lst, isDct_dK, isDct_dT, is_bl, isNot_bl, plain_int, plain_str, plain_bl, plain_non, plain_tup, plainL_nil, plainL_cons, int_bl, int_int, viewS_val, viewS_own, viewS_bor, viewS_no, atI_0, atI_1, atI_2, atI_3, eq_int, ne_int, eq_bl, ne_bl, sl_tup,
  List.map_cons, List.map_nil, List.replicate_succ, List.replicate_zero, List.append_nil, List.nil_append, List.cons_append, List.length_cons, List.length_nil, List.getElem?_cons_zero, List.getElem?_cons_succ, List.set_cons_zero, List.set_cons_succ, Nat.reduceAdd, Nat.reduceLeDiff, Nat.reduceEqDiff, Int.reduceLT, Int.reduceLE, Int.reduceAdd, Int.reduceSub, Int.reduceNeg, Int.reduceBEq, cast_0, cast_1, cast_2, cast_3, cast_4, cast_5, cast_6, cast_7, cast_8, Int.reduceToNat, decide_true, decide_false, decide_eq_true_eq, if_true, if_false, ite_true, ite_false, reduceIte, Bool.and_true, Bool.true_and, Bool.and_false, Bool.false_and, Bool.or_false, Bool.false_or, Bool.or_true, Bool.true_or, Bool.not_true, Bool.not_false, eq_self, Bool.false_eq_true, and_true, true_and, beq_self_eq_true, Option.map_some, Option.bind_some, *])
def weighedB : MS := (sSeq (sSet 4 (eCallO 1 0 d_law_next 0 (oHere aNil)))
    (sIf (tVal (eBin opGt (eBin opMod (eVar 4) (eC (.int 4))) (eC (.int 0)))) (sExpr (eMut isLst 2 opAppend (aCons (eTup (aCons (eVar 3) (aCons (eBin opIx (eLst (aCons (eBin opMod (eBin opFdiv (eVar 4) (eC (.int 4))) (eC (.int 4))) (aCons (eBin opAdd (eBin opMul (eVar 4) (eBin opPow (eC (.int 10)) (eC (.int 14)))) (eC (.int 1))) (aCons (eCallO 1 0 d_law_next 0 (oHere aNil)) aNil)))) (eBin opSub (eBin opMod (eVar 4) (eC (.int 4))) (eC (.int 1)))) aNil))) aNil))) sSkip))
theorem weighed_loop {a1 : D} : ∀ {xs : List Str} {cs : List Int} {ws : List (Str × Int)} {s3 s4 : Sl}, ws.length + xs.length ≤ 5000 → isFree (some s3) = true → isFree (some s4) = true →  Dk cs →
    ∃ (cs' : List Int) (ws' : List (Str × Int)) (s3' s4' : Sl), Dk cs' ∧ loop (gN 3) weighedB (xs.map .str) [.bor (deckD cs), .val a1, .own (.lst (ws.map wD)), s3, s4] = .nx [.bor (deckD cs'), .val a1, .own (.lst (ws'.map wD)), s3', s4']
  | [], cs, ws, s3, s4, _, _, _, hd => ⟨cs, ws, s3, s4, hd, rfl⟩
  | x :: xs, cs, ws, s3, s4, hl, f3, f4, hd => by
    rw [List.length_cons] at hl
    have f3 := free_nb f3
    have f4 := free_nb f4
    have n1 := @next_t cs
    have n2 := @next_t cs.tail
    have h4 : cs.headD 0 % 4 = 0 ∨ cs.headD 0 % 4 = 1 ∨ cs.headD 0 % 4 = 2 ∨ cs.headD 0 % 4 = 3 := by omega
    have e2 : (ws.map wD).length ≤ 100000 := by rw [List.length_map]; omega
    have e3 : ∀ n, ws.map wD ++ [.tup [.str x, .int n]] = (ws ++ [(x, n)]).map wD := fun n => by rw [List.map_append]; rfl
    have p1 : opPow (.int 10) (.int 14) = some (.int 100000000000000) := rfl
    have m1 : mulOk (cs.headD 0) 100000000000000 = true := mulOk_r (by omega)
    have hl' : ∀ n, (ws ++ [(x, n)]).length + xs.length ≤ 5000 := fun n => by rw [List.length_append, List.length_singleton]; omega
    have hd1 := hd.tl
    have hd2 := hd.tl.tl
    clear hl hd
    rcases h4 with h4 | h4 | h4 | h4
    · obtain ⟨cs', ws', s3', s4', q1, q2⟩ := weighed_loop (a1 := a1) (xs := xs) (cs := cs.tail) (ws := ws) (s3 := .val (.str x)) (s4 := .val (.int (cs.headD 0))) (by have := hl' 0; rw [List.length_append, List.length_singleton] at this; omega) rfl rfl hd1
      refine ⟨cs', ws', s3', s4', q1, ?_⟩
      rw [List.map_cons, loop_cons]
      clear q1 hd1 hd2 hl'
      unfold weighedB at q2 ⊢
      walk_at "ev"
    · obtain ⟨cs', ws', s3', s4', q1, q2⟩ := weighed_loop (a1 := a1) (xs := xs) (cs := cs.tail.tail) (ws := ws ++ [(x, cs.headD 0 / 4 % 4)]) (s3 := .val (.str x)) (s4 := .val (.int (cs.headD 0))) (hl' _) rfl rfl hd2
      refine ⟨cs', ws', s3', s4', q1, ?_⟩
      rw [List.map_cons, loop_cons]
      clear q1 hd1 hd2 hl'
      unfold weighedB at q2 ⊢
      walk_at "ev"
    · obtain ⟨cs', ws', s3', s4', q1, q2⟩ := weighed_loop (a1 := a1) (xs := xs) (cs := cs.tail.tail) (ws := ws ++ [(x, cs.headD 0 * 100000000000000 + 1)]) (s3 := .val (.str x)) (s4 := .val (.int (cs.headD 0))) (hl' _) rfl rfl hd2
      refine ⟨cs', ws', s3', s4', q1, ?_⟩
      rw [List.map_cons, loop_cons]
      clear q1 hd1 hd2 hl'
      unfold weighedB at q2 ⊢
      walk_at "ev"
    · obtain ⟨cs', ws', s3', s4', q1, q2⟩ := weighed_loop (a1 := a1) (xs := xs) (cs := cs.tail.tail) (ws := ws ++ [(x, cs.tail.headD 0)]) (s3 := .val (.str x)) (s4 := .val (.int (cs.headD 0))) (hl' _) rfl rfl hd2
      refine ⟨cs', ws', s3', s4', q1, ?_⟩
      rw [List.map_cons, loop_cons]
      clear q1 hd1 hd2 hl'
      unfold weighedB at q2 ⊢
      walk_at "ev"
theorem plainL_w : ∀ {ws : List (Str × Int)}, plainL (ws.map wD) = true
  | [] => plainL_nil
  | w :: ws => by
    rw [List.map_cons, plainL_cons, plainL_w, Bool.and_true]
    unfold wD
    rw [plain_tup, plainL_cons, plainL_cons, plainL_nil]
    rfl
theorem weighed_t {cs : List Int} {z : Str} {xs : List Str} (hz : sgnO (.str z) = some (xs.map .str)) (hx : xs.length ≤ 4000) (hd : Dk cs) : ∃ (cs' : List Int) (ws : List (Str × Int)) (ρ' : List Sl), Dk cs' ∧ d_law_weighed [.bor (deckD cs), .val (.str z), .no, .no, .no] = .rt (.tup (ws.map wD)) (.bor (deckD cs') :: ρ') := by
  obtain ⟨cs', ws', s3', s4', q1, q2⟩ := weighed_loop (a1 := .str z) (xs := xs) (cs := cs) (ws := []) (s3 := .no) (s4 := .no) (by simp; omega) rfl rfl hd
  refine ⟨cs', ws', [.val (.str z), .own (.lst (ws'.map wD)), s3', s4'], q1, ?_⟩
  have p1 := @plainL_w ws'
  have q2 : loop (gN 3) weighedB _ [.bor (deckD cs), .val (.str z), .own (.lst []), .no, .no] = _ := q2
  clear hd q1 hx
  unfold weighedB at q2
  unfold d_law_weighed
  generalize List.map wD ws' = ys at *
  generalize List.map D.str xs = us at *
  simp only [sgnO_str] at hz
  walk_at "ev"
end NT.Pure

set_option Elab.async false
set_option linter.all false
set_option maxRecDepth 100000
set_option maxHeartbeats 4000000
namespace NT.Pure
open PySem L2 NT NT.Den
local macro_rules | `(tactic| walk_at "ev") => `(tactic| simp (maxSteps := 100000000) only [rtb_rt, wO_nx, wO_rt, wO_rtN, wO_ex, stp_ap, sWhile_ap, wT_ok, sCalm_ap, iDct_ap, dctI_val, rtv_rt, rtvN_rtN, bnd_ok, bnd_ex, bnd_bad, bndO_ok, bndO_ex, bndO_bad, nxt_nx, nxt_rt, nxt_rtN, nxt_ex, nxt_bad, lft_some, mbind_ap, mpure_ap, lift_ap, eC_ap, rdV_val, eVar_ap, eBin_ap, eUn_ap, aNil_ap, aCons_ap, eFn_ap, eTup_ap, eLst_ap, tupO, lstO, tVal_ap, asB_bl, iteR_t, iteR_f, iteO_t, iteO_f, mAnd_ap, mOr_ap, mNot_ap, eAnd_ap, eOr_ap, eNot_ap, eChain_ap, vw_ok, vwN_ok, vwT_ok, eView_ap, eViewN_ap, tView_ap, sDo_ap, sSeq_ap, sSkip_ap, put_ap, sSet_ap, sSetN_ap, sRet_ap, sRetN_ap, sExpr_ap, sIf_ap, sRetO_ap, retO_own, sRaise_ap, sFor_ap, loop_nil, optO_some, sAsg_ap, iteS_t, gN_ap, gT_ap, gsNil_ap, bS_some, gsCons_ap, notBor_val, notBor_own, notBor_no, mineO_own, mineO_bor, with_own, with_bor, optR_some, mutAt_ap, eMut_ap, sPutAt_ap, outE_rt, outE_rtN, outE_nx, outE_ex, outN_rtN, outN_ex, eCall_ap, eCallN_ap, borO_bor, outO_rt, outO_rtN, outO_nx, outO_ex, outON_rtN, outON_ex, callO_ap, callON_ap, eCallO_ap, eCallON_ap, oHere_ap, oThere_ap, seqO_lst, seqO_tup, seqO_scr, iSeq_ap, sgnO_str, iSign_ap, iRange1_ap, iRange2_ap, eComp_ap, eSl_ap, oNone_ap, intO_int, oSome_ap, eGet2_ap, add_int, neg_int, mul_int, sub_int, lt_int, le_int, gt_int, ge_int, mod_int, fdiv_int, len_lst, len_tup, len_scr, len_str, ix_tup', ix_lst', tuple_lst, tuple_tup, list_lst, list_tup, append_lst, isLst_lst, isDct_dK, isDct_dT, is_bl, isNot_bl, plain_int, plain_str, plain_bl, plain_non, plain_tup, plainL_nil, plainL_cons, int_bl, int_int, viewS_val, viewS_own, viewS_bor, viewS_no, atI_0, atI_1, atI_2, atI_3, eq_int, ne_int, eq_bl, ne_bl, sl_tup,
  List.map_cons, List.map_nil, List.replicate_succ, List.replicate_zero, List.append_nil, List.nil_append, List.cons_append, List.length_cons, List.length_nil, List.getElem?_cons_zero, List.getElem?_cons_succ, List.set_cons_zero, List.set_cons_succ, Nat.reduceAdd, Nat.reduceLeDiff, Nat.reduceEqDiff, Int.reduceLT, Int.reduceLE, Int.reduceAdd, Int.reduceSub, Int.reduceNeg, Int.reduceBEq, cast_0, cast_1, cast_2, cast_3, cast_4, cast_5, cast_6, cast_7, cast_8, Int.reduceToNat, decide_true, decide_false, decide_eq_true_eq, if_true, if_false, ite_true, ite_false, reduceIte, Bool.and_true, Bool.true_and, Bool.and_false, Bool.false_and, Bool.or_false, Bool.false_or, Bool.or_true, Bool.true_or, Bool.not_true, Bool.not_false, eq_self, Bool.false_eq_true, and_true, true_and, beq_self_eq_true, Option.map_some, Option.bind_some, *])
theorem is50_t {a : Int} : ∃ ρ', d_law_is [.val (.int a), .val (.int a)] = .rt (.bl true) ρ' := by
  have i1 : opIsi "int" (.int a) = some (.bl true) := rfl
  have i2 : opIsi "bool" (.int a) = some (.bl false) := rfl
  refine of_rtv ?_
  unfold d_law_is
  walk_at "ev"
def law50B : MS := (sSeq (sSet 4 (eCallO 4 5 d_law_net 1 (oHere (aCons (eC (.int 8)) (aCons (eC (.int 10)) (aCons (eVar 2) aNil))))))
    (sSeq (sSet 5 (eTup (aCons (eCallO 2 3 d_law_weighed 1 (oHere (aCons (eC (.str "abc")) aNil))) (aCons (eCallO 2 3 d_law_weighed 1 (oHere (aCons (eC (.str "efg")) aNil))) aNil))))
    (sSeq (sIf (mNot (tVal (eCall 2 0 d_law_is [] (aCons (eCall 2 0 d_weight [] (aCons (eVar 4) (aCons (eVar 5) aNil))) (aCons (eCall 2 4 d_law_weighs [] (aCons (eVar 4) (aCons (eVar 5) aNil))) aNil))))) (sRet (eC (.bl false))) sSkip)
    (sIf (mOr (mNot (tVal (eCall 2 0 d_law_is [] (aCons (eCall 2 0 d_weight [] (aCons (eTup (aCons (eTup aNil) (aCons (eTup aNil) aNil))) (aCons (eVar 5) aNil))) (aCons (eC (.int 0)) aNil))))) (mNot (tVal (eCall 2 0 d_law_is [] (aCons (eCall 2 0 d_weight [] (aCons (eVar 4) (aCons (eTup (aCons (eTup aNil) (aCons (eTup aNil) aNil))) aNil))) (aCons (eC (.int 0)) aNil)))))) (sRet (eC (.bl false))) sSkip))))
theorem kd_pts {ps : List P2} (h : ps.length ≤ 1000) : Kd (ps.map ptD) := ⟨by rw [List.length_map]; exact h, fun d hd => by
  obtain ⟨p, _, e⟩ := List.mem_map.mp hd
  subst e
  exact ⟨p.2, rfl⟩⟩
theorem kd_ties {ts : List T4} (h : ts.length ≤ 1000) : Kd (ts.map tieD) := ⟨by rw [List.length_map]; exact h, fun d hd => by
  obtain ⟨p, _, e⟩ := List.mem_map.mp hd
  subst e
  exact ⟨p.2.1, rfl⟩⟩
theorem kd_nil : Kd [] := ⟨by simp, fun _ h => by cases h⟩
theorem num0 {d : D} : numD (wK []) d = 0 := by
  unfold numD
  cases kindAt d <;> rfl
theorem sum0 {ds : List D} : (ds.map (numD (wK []))).sum = 0 := by
  induction ds with
  | nil => rfl
  | cons d ds ih => rw [List.map_cons, List.sum_cons, num0, ih]; rfl
theorem law50_step {ns cs : List Int} {k : Int} {s4 s5 : Sl} (hd : Dk cs) (hk : 0 ≤ k ∧ k ≤ 2) (f4 : isFree (some s4) = true) (f5 : isFree (some s5) = true) :
    ∃ (cs' : List Int) (s4' s5' : Sl), Dk cs' ∧ isFree (some s4') = true ∧ isFree (some s5') = true ∧ law50B [.val (.scr ns), .own (deckD cs), .val (.int k), .no, s4, s5] = .nx [.val (.scr ns), .own (deckD cs'), .val (.int k), .no, s4', s5'] := by
  obtain ⟨ps, ts, cs1, ρ1, m, d1, e1⟩ := net_t (mp := 8) (mt := 10) (far := k) hd (by omega) (by omega) hk
  obtain ⟨cs2, ws, ρ2, d2, e2⟩ := weighed_t (cs := cs1) (z := "abc") (xs := ["a", "b", "c"]) rfl (by decide) d1
  obtain ⟨cs3, vs, ρ3, d3, e3⟩ := weighed_t (cs := cs2) (z := "efg") (xs := ["e", "f", "g"]) rfl (by decide) d2
  have k1 : Kd (ps.map ptD) := kd_pts (by have := m.pl; omega)
  have k2 : Kd (ts.map tieD) := kd_ties (by have := m.tl; omega)
  obtain ⟨ρ4, e4⟩ := weight_t (ws := ws) (vs := vs) k1 k2
  obtain ⟨ρ5, e5⟩ := weighs_t (ws := ws) (vs := vs) k1 k2
  obtain ⟨ρ6, e6⟩ := weight_t (ws := ws) (vs := vs) kd_nil kd_nil
  obtain ⟨ρ7, e7⟩ := weight_t (ws := []) (vs := []) k1 k2
  obtain ⟨ρ8, e8⟩ := is50_t (a := ((ps.map ptD).map (numD (wK ws))).sum + ((ts.map tieD).map (numD (wK vs))).sum)
  obtain ⟨ρ9, e9⟩ := is50_t (a := 0)
  rw [sum0, sum0, Int.add_zero] at e7
  replace e7 : d_weight [.val (.tup [.tup (ps.map ptD), .tup (ts.map tieD)]), .val (.tup [.tup [], .tup []])] = .rt (.int 0) ρ7 := e7
  replace e6 : d_weight [.val (.tup [.tup [], .tup []]), .val (.tup [.tup (ws.map wD), .tup (vs.map wD)])] = .rt (.int 0) ρ6 := e6
  refine ⟨cs3, .val (netD ps ts), .val (.tup [.tup (ws.map wD), .tup (vs.map wD)]), d3, rfl, rfl, ?_⟩
  have f4 := free_nb f4
  have f5 := free_nb f5
  generalize hz : ((ps.map ptD).map (numD (wK ws))).sum + ((ts.map tieD).map (numD (wK vs))).sum = total at *
  clear hz m d1 d2 d3 k1 k2 hd hk
  unfold netD at *
  generalize List.map wD ws = xs at *
  generalize List.map wD vs = ys at *
  generalize List.map ptD ps = is at *
  generalize List.map tieD ts = js at *
  unfold law50B
  walk_at "ev"
theorem law_t {ns : List Int} (hl : ns.length ≤ 63) : ∃ ρ', d_law [.val (.scr ns), .no, .no, .no, .no, .no] = .rt (.bl true) ρ' := by
  obtain ⟨cs, ρ1, d1, _, e1⟩ := deck_t (m := 120) hl (by omega)
  have r3 : rng1 [.int 3] = some [.int 0, .int 1, .int 2] := rfl
  obtain ⟨cs1, s4, s5, d2, f4, f5, q1⟩ := law50_step (ns := ns) (cs := cs) (k := 0) (s4 := .no) (s5 := .no) d1 (by omega) rfl rfl
  obtain ⟨cs2, s4', s5', d3, f4', f5', q2⟩ := law50_step (ns := ns) (cs := cs1) (k := 1) (s4 := s4) (s5 := s5) d2 (by omega) f4 f5
  obtain ⟨cs3, s4'', s5'', d4, f4'', f5'', q3⟩ := law50_step (ns := ns) (cs := cs2) (k := 2) (s4 := s4') (s5 := s5') d3 (by omega) f4' f5'
  obtain ⟨ρ4, e4⟩ := weight_t (is := [ptD (0, "e")]) (js := [tieD (0, "e", 0, 0)]) (ws := [("e", 5)]) (vs := [("e", 7)]) (kd_pts (ps := [(0, "e")]) (by decide)) (kd_ties (ts := [(0, "e", 0, 0)]) (by decide))
  obtain ⟨ρ5, e5⟩ := weight_t (is := [ptD (0, "e")]) (js := [tieD (0, "e", 0, 0)]) (ws := [("e", 5)]) (vs := []) (kd_pts (ps := [(0, "e")]) (by decide)) (kd_ties (ts := [(0, "e", 0, 0)]) (by decide))
  replace e4 : d_weight [.val (.tup [.tup [.tup [.int 0, .str "e"]], .tup [.tup [.int 0, .str "e", .int 0, .int 0]]]), .val (.tup [.tup [.tup [.str "e", .int 5]], .tup [.tup [.str "e", .int 7]]])] = .rt (.int 12) ρ4 := e4
  replace e5 : d_weight [.val (.tup [.tup [.tup [.int 0, .str "e"]], .tup [.tup [.int 0, .str "e", .int 0, .int 0]]]), .val (.tup [.tup [.tup [.str "e", .int 5]], .tup []])] = .rt (.int 5) ρ5 := e5
  obtain ⟨ρ6, e6⟩ := is50_t (a := 12)
  obtain ⟨ρ7, e7⟩ := is50_t (a := 5)
  have lp : loop (gN 2) law50B [.int 0, .int 1, .int 2] [.val (.scr ns), .own (deckD cs), .no, .no, .no, .no] = .nx [.val (.scr ns), .own (deckD cs3), .val (.int 2), .no, s4'', s5''] := by
    clear e4 e5 e6 e7 e1 r3 d1 d2 d3 d4 f4 f5 f4' f5' f4'' f5'' hl
    rw [loop_cons]
    walk_at "ev"
    rw [loop_cons]
    walk_at "ev"
    rw [loop_cons]
    walk_at "ev"
  refine of_rtv ?_
  clear d1 d2 d3 d4 f4 f5 f4' f5' f4'' f5'' hl q1 q2 q3
  unfold law50B at lp
  unfold d_law
  walk_at "ev"
end NT.Pure

namespace Lk50
open PySem L2 NT NT.Den
theorem all_mk {P : Program} {w : World} {K : PySem.W.Frag} {h : Heap} {mg : Str → Option Value} {fa : Addr} (X : K.In h) (G : h.Ns mainGlobals mg) (hfa : mg "law" = some (.ref fa))
    {f0 : Addr} {od0 an0 : Option Addr} {sl0 : Array (Option Value)} {oc0 kV0 dc0 pm0 cd0 ct0 : Value} {f1 : Addr} {od1 an1 : Option Addr} {sl1 : Array (Option Value)} {oc1 kV1 dc1 pm1 cd1 ct1 : Value} {f2 : Addr} {od2 an2 : Option Addr} {sl2 : Array (Option Value)} {oc2 kV2 dc2 pm2 cd2 ct2 : Value} {f3 : Addr} {od3 an3 : Option Addr} {sl3 : Array (Option Value)} {oc3 kV3 dc3 pm3 cd3 ct3 : Value} {f4 : Addr} {od4 an4 : Option Addr} {sl4 : Array (Option Value)} {oc4 kV4 dc4 pm4 cd4 ct4 : Value} {f5 : Addr} {od5 an5 : Option Addr} {sl5 : Array (Option Value)} {oc5 kV5 dc5 pm5 cd5 ct5 : Value} {f6 : Addr} {od6 an6 : Option Addr} {sl6 : Array (Option Value)} {oc6 kV6 dc6 pm6 cd6 ct6 : Value} {f7 : Addr} {od7 an7 : Option Addr} {sl7 : Array (Option Value)} {oc7 kV7 dc7 pm7 cd7 ct7 : Value} {f8 : Addr} {od8 an8 : Option Addr} {sl8 : Array (Option Value)} {oc8 kV8 dc8 pm8 cd8 ct8 : Value} {f9 : Addr} {od9 an9 : Option Addr} {sl9 : Array (Option Value)} {oc9 kV9 dc9 pm9 cd9 ct9 : Value} {f10 : Addr} {od10 an10 : Option Addr} {sl10 : Array (Option Value)} {oc10 kV10 dc10 pm10 cd10 ct10 : Value}
    (a0 : PySem.W.nsIn K mainGlobals "_law_mixed" = some (some (.ref f0)))
    (l0 : K.lookup f0 = some ⟨oc0, od0, .func (PySem.W.fnOf "_law_mixed" "_law_mixed" (defArgs (topS 4)) (defBody (topS 4)) (defScope (topS 4)) .none kV0 dc0 pm0 an0 cd0 ct0), sl0⟩)
    (c0 : PySem.W.codeIn K cd0 "_law_mixed" = true)
    (k0 : PySem.W.keepIn K (.ref f0) = true)
    (a1 : PySem.W.nsIn K mainGlobals "_law_deck" = some (some (.ref f1)))
    (l1 : K.lookup f1 = some ⟨oc1, od1, .func (PySem.W.fnOf "_law_deck" "_law_deck" (defArgs (topS 5)) (defBody (topS 5)) (defScope (topS 5)) .none kV1 dc1 pm1 an1 cd1 ct1), sl1⟩)
    (c1 : PySem.W.codeIn K cd1 "_law_deck" = true)
    (k1 : PySem.W.keepIn K (.ref f1) = true)
    (a2 : PySem.W.nsIn K mainGlobals "_law_is" = some (some (.ref f2)))
    (l2 : K.lookup f2 = some ⟨oc2, od2, .func (PySem.W.fnOf "_law_is" "_law_is" (defArgs (topS 9)) (defBody (topS 9)) (defScope (topS 9)) .none kV2 dc2 pm2 an2 cd2 ct2), sl2⟩)
    (c2 : PySem.W.codeIn K cd2 "_law_is" = true)
    (k2 : PySem.W.keepIn K (.ref f2) = true)
    (a3 : PySem.W.nsIn K mainGlobals "_law_next" = some (some (.ref f3)))
    (l3 : K.lookup f3 = some ⟨oc3, od3, .func (PySem.W.fnOf "_law_next" "_law_next" (defArgs (topS 6)) (defBody (topS 6)) (defScope (topS 6)) .none kV3 dc3 pm3 an3 cd3 ct3), sl3⟩)
    (c3 : PySem.W.codeIn K cd3 "_law_next" = true)
    (k3 : PySem.W.keepIn K (.ref f3) = true)
    (a4 : PySem.W.nsIn K mainGlobals "_law_names" = some (some (.ref f4)))
    (l4 : K.lookup f4 = some ⟨oc4, od4, .func (PySem.W.fnOf "_law_names" "_law_names" (defArgs (topS 7)) (defBody (topS 7)) (defScope (topS 7)) .none kV4 dc4 pm4 an4 cd4 ct4), sl4⟩)
    (c4 : PySem.W.codeIn K cd4 "_law_names" = true)
    (k4 : PySem.W.keepIn K (.ref f4) = true)
    (a5 : PySem.W.nsIn K mainGlobals "_law_net" = some (some (.ref f5)))
    (l5 : K.lookup f5 = some ⟨oc5, od5, .func (PySem.W.fnOf "_law_net" "_law_net" (defArgs (topS 8)) (defBody (topS 8)) (defScope (topS 8)) .none kV5 dc5 pm5 an5 cd5 ct5), sl5⟩)
    (c5 : PySem.W.codeIn K cd5 "_law_net" = true)
    (k5 : PySem.W.keepIn K (.ref f5) = true)
    (a6 : PySem.W.nsIn K mainGlobals "_law_weighed" = some (some (.ref f6)))
    (l6 : K.lookup f6 = some ⟨oc6, od6, .func (PySem.W.fnOf "_law_weighed" "_law_weighed" (defArgs (topS 11)) (defBody (topS 11)) (defScope (topS 11)) .none kV6 dc6 pm6 an6 cd6 ct6), sl6⟩)
    (c6 : PySem.W.codeIn K cd6 "_law_weighed" = true)
    (k6 : PySem.W.keepIn K (.ref f6) = true)
    (a7 : PySem.W.nsIn K mainGlobals "_law_weighs" = some (some (.ref f7)))
    (l7 : K.lookup f7 = some ⟨oc7, od7, .func (PySem.W.fnOf "_law_weighs" "_law_weighs" (defArgs (topS 10)) (defBody (topS 10)) (defScope (topS 10)) .none kV7 dc7 pm7 an7 cd7 ct7), sl7⟩)
    (c7 : PySem.W.codeIn K cd7 "_law_weighs" = true)
    (k7 : PySem.W.keepIn K (.ref f7) = true)
    (a8 : PySem.W.nsIn K mainGlobals "together" = some (some (.ref f8)))
    (l8 : K.lookup f8 = some ⟨oc8, od8, .func (PySem.W.fnOf "together" "together" (defArgs (topS 1)) (defBody (topS 1)) (defScope (topS 1)) .none kV8 dc8 pm8 an8 cd8 ct8), sl8⟩)
    (c8 : PySem.W.codeIn K cd8 "together" = true)
    (k8 : PySem.W.keepIn K (.ref f8) = true)
    (a9 : PySem.W.nsIn K mainGlobals "weight" = some (some (.ref f9)))
    (l9 : K.lookup f9 = some ⟨oc9, od9, .func (PySem.W.fnOf "weight" "weight" (defArgs (topS 2)) (defBody (topS 2)) (defScope (topS 2)) .none kV9 dc9 pm9 an9 cd9 ct9), sl9⟩)
    (c9 : PySem.W.codeIn K cd9 "weight" = true)
    (k9 : PySem.W.keepIn K (.ref f9) = true)
    (a10 : PySem.W.nsIn K mainGlobals "law" = some (some (.ref f10)))
    (l10 : K.lookup f10 = some ⟨oc10, od10, .func (PySem.W.fnOf "law" "law" (defArgs (topS 12)) (defBody (topS 12)) (defScope (topS 12)) .none kV10 dc10 pm10 an10 cd10 ct10), sl10⟩)
    (c10 : PySem.W.codeIn K cd10 "law" = true)
    (k10 : PySem.W.keepIn K (.ref f10) = true)
    (z0 : PySem.W.nsIn K mainGlobals "len" = some none)
    (z1 : PySem.W.nsIn K mainGlobals "isinstance" = some none)
    (z2 : PySem.W.nsIn K mainGlobals "int" = some none)
    (z3 : PySem.W.nsIn K mainGlobals "bool" = some none)
    (z4 : PySem.W.nsIn K mainGlobals "str" = some none)
    (z5 : PySem.W.nsIn K mainGlobals "tuple" = some none)
    (z6 : PySem.W.nsIn K mainGlobals "list" = some none)
    (z7 : PySem.W.nsIn K mainGlobals "dict" = some none)
    (z8 : PySem.W.nsIn K mainGlobals "range" = some none)
    (z9 : PySem.W.nsIn K mainGlobals "reversed" = some none)
    (z10 : PySem.W.nsIn K mainGlobals "sum" = some none)
    (z11 : PySem.W.nsIn K mainGlobals "max" = some none)
    (z12 : PySem.W.nsIn K mainGlobals "min" = some none)
    (z13 : PySem.W.nsIn K mainGlobals "sorted" = some none)
    (z14 : PySem.W.nsIn K mainGlobals "zip" = some none)
    (z15 : PySem.W.nsIn K mainGlobals "enumerate" = some none)
    (z16 : PySem.W.nsIn K mainGlobals "set" = some none) :
    ∃ fd : FuncData, (∀ (s : Shared) (v : Value), BindsTo s fd ⟨[v], []⟩ [("_law_script", v)]) ∧ ∀ base : Heap, K.In base → base.Ns mainGlobals mg → FnOk P w K mg base (L2.CX P w) 4 fa fd ["_law_script"] (spLaw K) := by
  have e := hfa.symm.trans (PySem.W.mg_of X G a10)
  cases e
  have B : Bt mg := ⟨PySem.W.mg_none_of X G z0, PySem.W.mg_none_of X G z1, PySem.W.mg_none_of X G z2, PySem.W.mg_none_of X G z3, PySem.W.mg_none_of X G z4, PySem.W.mg_none_of X G z5, PySem.W.mg_none_of X G z6, PySem.W.mg_none_of X G z7, PySem.W.mg_none_of X G z8, PySem.W.mg_none_of X G z9, PySem.W.mg_none_of X G z10, PySem.W.mg_none_of X G z11, PySem.W.mg_none_of X G z12, PySem.W.mg_none_of X G z13, PySem.W.mg_none_of X G z14, PySem.W.mg_none_of X G z15, PySem.W.mg_none_of X G z16⟩
  obtain ⟨cls, hcls⟩ : ∃ cls : Nat → Value, True := ⟨fun n => .none, trivial⟩
  have F0 := fun_mk (st := topS 4) l0 c0 k0
  have F1 := fun_mk (st := topS 5) l1 c1 k1
  have F2 := fun_mk (st := topS 9) l2 c2 k2
  have F3 := fun_mk (st := topS 6) l3 c3 k3
  have F4 := fun_mk (st := topS 7) l4 c4 k4
  have F5 := fun_mk (st := topS 8) l5 c5 k5
  have F6 := fun_mk (st := topS 11) l6 c6 k6
  have F7 := fun_mk (st := topS 10) l7 c7 k7
  have F8 := fun_mk (st := topS 1) l8 c8 k8
  have F9 := fun_mk (st := topS 2) l9 c9 k9
  have F10 := fun_mk (st := topS 12) l10 c10 k10
  refine ⟨PySem.W.fnOf "law" "law" (defArgs (topS 12)) (defBody (topS 12)) (defScope (topS 12)) .none kV10 dc10 pm10 an10 cd10 ct10, fun s v => .of_eq rfl, fun base _ _ => ?_⟩
  have C__law_mixed := cal_mk F0 (PySem.W.mg_of X G a0) (ok_law_mixed (base := base) (P := P) (w := w) (cls := cls) B F0 ) (F0.binds (ps := ["_law_cell", "_law_k"]) fun _ _ _ _ _ _ us hl => match us, hl with | [_, _], _ => rfl)
  have C__law_deck := cal_mk F1 (PySem.W.mg_of X G a1) (ok_law_deck (base := base) (P := P) (w := w) (cls := cls) B F1 C__law_mixed) (F1.binds (ps := ["_law_script", "_law_many"]) fun _ _ _ _ _ _ us hl => match us, hl with | [_, _], _ => rfl)
  have C__law_is := cal_mk F2 (PySem.W.mg_of X G a2) (ok_law_is (base := base) (P := P) (w := w) (cls := cls) B F2 ) (F2.binds (ps := ["_law_found", "_law_due"]) fun _ _ _ _ _ _ us hl => match us, hl with | [_, _], _ => rfl)
  have C__law_next := cal_mk F3 (PySem.W.mg_of X G a3) (ok_law_next (base := base) (P := P) (w := w) (cls := cls) B F3 ) (F3.binds (ps := ["_law_deck_here"]) fun _ _ _ _ _ _ us hl => match us, hl with | [_], _ => rfl)
  have C__law_names := cal_mk F4 (PySem.W.mg_of X G a4) (ok_law_names (base := base) (P := P) (w := w) (cls := cls) B F4 C__law_next) (F4.binds (ps := ["_law_deck_here", "_law_many", "_law_far"]) fun _ _ _ _ _ _ us hl => match us, hl with | [_, _, _], _ => rfl)
  have C__law_net := cal_mk F5 (PySem.W.mg_of X G a5) (ok_law_net (base := base) (P := P) (w := w) (cls := cls) B F5 C__law_names C__law_next) (F5.binds (ps := ["_law_deck_here", "_law_most_points", "_law_most_ties", "_law_far"]) fun _ _ _ _ _ _ us hl => match us, hl with | [_, _, _, _], _ => rfl)
  have C__law_weighed := cal_mk F6 (PySem.W.mg_of X G a6) (ok_law_weighed (base := base) (P := P) (w := w) (cls := cls) B F6 C__law_next) (F6.binds (ps := ["_law_deck_here", "_law_kinds"]) fun _ _ _ _ _ _ us hl => match us, hl with | [_, _], _ => rfl)
  have C__law_weighs := cal_mk F7 (PySem.W.mg_of X G a7) (ok_law_weighs (base := base) (P := P) (w := w) (cls := cls) B F7 ) (F7.binds (ps := ["_law_net_here", "_law_numbers"]) fun _ _ _ _ _ _ us hl => match us, hl with | [_, _], _ => rfl)
  have C_together := cal_mk F8 (PySem.W.mg_of X G a8) (ok_together (base := base) (P := P) (w := w) (cls := cls) B F8 ) (F8.binds (ps := ["items", "weighed"]) fun _ _ _ _ _ _ us hl => match us, hl with | [_, _], _ => rfl)
  have C_weight := cal_mk F9 (PySem.W.mg_of X G a9) (ok_weight (base := base) (P := P) (w := w) (cls := cls) B F9 C_together) (F9.binds (ps := ["net", "numbers"]) fun _ _ _ _ _ _ us hl => match us, hl with | [_, _], _ => rfl)
  exact (ok_law (base := base) (P := P) (w := w) (cls := cls) B F10 C__law_deck C__law_is C__law_net C__law_weighed C__law_weighs C_weight).imp (law_sp fun ns h => NT.Pure.law_t h)
end Lk50
open PySem PySem.W PyProof.Rows
set_option maxHeartbeats 0 in
theorem PySem.Challenge.cw_netturns_k50_weights_holds : PySem.Challenge.rw_netturns_k50_weights.Holds := by
  w_on; o_law; k_head; (case hw => w_witness2)
  k_fill
  refine L2.walk_of (l := PySem.Challenge.rw_netturns_k50_weights) (n := 63) (k := 4) (x := "_law_script") (CX := fun w => L2.CX (PySem.Challenge.rw_netturns_k50_weights).prog w) (sp := fun w => NT.spLaw _) rfl (by decide) rfl ⟨rfl, by decide, by decide⟩ (fun w h Y => PySem.W.kIn_of Y) ?F (fun _ _ a ns hl _ hS => ⟨a, ns, rfl, hS, hl, fun _ => rfl⟩) (fun w H s e s' h => NT.no_exc h)
  case F =>
    intro w mg fa h KX G hmg
    refine' Lk50.all_mk KX G hmg ?a0 ?l0 ?c0 ?k0 ?a1 ?l1 ?c1 ?k1 ?a2 ?l2 ?c2 ?k2 ?a3 ?l3 ?c3 ?k3 ?a4 ?l4 ?c4 ?k4 ?a5 ?l5 ?c5 ?k5 ?a6 ?l6 ?c6 ?k6 ?a7 ?l7 ?c7 ?k7 ?a8 ?l8 ?c8 ?k8 ?a9 ?l9 ?c9 ?k9 ?a10 ?l10 ?c10 ?k10 ?z0 ?z1 ?z2 ?z3 ?z4 ?z5 ?z6 ?z7 ?z8 ?z9 ?z10 ?z11 ?z12 ?z13 ?z14 ?z15 ?z16
    (case a0 => k_is)
    (case l0 => k_is)
    (case c0 => k_is)
    (case k0 => k_is)
    (case a1 => k_is)
    (case l1 => k_is)
    (case c1 => k_is)
    (case k1 => k_is)
    (case a2 => k_is)
    (case l2 => k_is)
    (case c2 => k_is)
    (case k2 => k_is)
    (case a3 => k_is)
    (case l3 => k_is)
    (case c3 => k_is)
    (case k3 => k_is)
    (case a4 => k_is)
    (case l4 => k_is)
    (case c4 => k_is)
    (case k4 => k_is)
    (case a5 => k_is)
    (case l5 => k_is)
    (case c5 => k_is)
    (case k5 => k_is)
    (case a6 => k_is)
    (case l6 => k_is)
    (case c6 => k_is)
    (case k6 => k_is)
    (case a7 => k_is)
    (case l7 => k_is)
    (case c7 => k_is)
    (case k7 => k_is)
    (case a8 => k_is)
    (case l8 => k_is)
    (case c8 => k_is)
    (case k8 => k_is)
    (case a9 => k_is)
    (case l9 => k_is)
    (case c9 => k_is)
    (case k9 => k_is)
    (case a10 => k_is)
    (case l10 => k_is)
    (case c10 => k_is)
    (case k10 => k_is)
    (case z0 => k_is)
    (case z1 => k_is)
    (case z2 => k_is)
    (case z3 => k_is)
    (case z4 => k_is)
    (case z5 => k_is)
    (case z6 => k_is)
    (case z7 => k_is)
    (case z8 => k_is)
    (case z9 => k_is)
    (case z10 => k_is)
    (case z11 => k_is)
    (case z12 => k_is)
    (case z13 => k_is)
    (case z14 => k_is)
    (case z15 => k_is)
    (case z16 => k_is)
