import PyProof.Rows.All
import HandS.ForMost
import HandS.ForExc
import HandS.IsInst
import HandS.Rev
import HandS.Zip
import HandS.Defaults
import HandS.CallSlots
import HandS.TupAny
import HandS.RevTup
import HandS.Style
import HandS.Deep
import PyProof.StrBlock2
import HandS.TupLe
import KE.SortCalls
import KE.SortKeyed
import KE.SortData
import HandS.TryMany
import HandS.ExcIs
import HandS.TupMul
import KE.KDictPairs
import HandS.More
import KE.GoesMore
import HandS.Conv
import PySem.Challenge.RW_netturns_k27_namings_looked_at
set_option Elab.async false
set_option linter.all false
set_option maxRecDepth 100000
set_option maxHeartbeats 4000000
namespace NT
open PySem L2

/-! data -/
inductive D where
  | non | bl (b : Bool) | int (i : Int) | str (x : Str)
  | tup (ds : List D) | lst (ds : List D) | scr (ns : List Int)
  | dK (kvs : List (Key × D)) | dT (kvs : List (List Key × D)) | exn (a : Addr)
  | raw (ds : List D) | obj (c : Str) (fs : List (Str × D))

instance : Inhabited D := ⟨.non⟩

/-- a tuple of ints and texts is kept as a tuple, any other one is known to have no dict of its own -/
def keyD : D → Bool
  | .int _ => true | .str _ => true | _ => false
def flat (ds : List D) : Bool := !ds.isEmpty && ds.all keyD
def Tp (G : Hp) (a : Addr) (xs : List V) (ds : List D) : Prop := (flat ds = true ∧ G a = some (.tup xs)) ∨ (flat ds = false ∧ ∃ o, G a = some (.frz o (.tup xs)) ∧ o.dict = none)
theorem Tp.rd {G : Hp} {a : Addr} {xs : List V} {ds : List D} (h : Tp G a xs ds) : Rd G a (.tup xs) := by
  rcases h with ⟨_, h⟩ | ⟨_, o, h, _⟩
  · exact .inl h
  · exact .inr ⟨o, h⟩
theorem Tp.ext {G G' : Hp} {a : Addr} {xs : List V} {ds : List D} (h : Tp G a xs ds) (e1 : ∀ a xs, G a = some (.tup xs) → G' a = some (.tup xs)) (e2 : ∀ a o xs, G a = some (.frz o (.tup xs)) → G' a = some (.frz o (.tup xs))) : Tp G' a xs ds := by
  rcases h with ⟨f, h⟩ | ⟨f, o, h, d⟩
  · exact .inl ⟨f, e1 _ _ h⟩
  · exact .inr ⟨f, o, e2 _ _ _ h, d⟩
theorem rd_ext {G G' : Hp} {a : Addr} {xs : List V} (h : Rd G a (.tup xs)) (e1 : ∀ a xs, G a = some (.tup xs) → G' a = some (.tup xs)) (e2 : ∀ a o xs, G a = some (.frz o (.tup xs)) → G' a = some (.frz o (.tup xs))) : Rd G' a (.tup xs) := by
  rcases h with h | ⟨o, h⟩
  · exact .inl (e1 _ _ h)
  · exact .inr ⟨o, e2 _ _ _ h⟩

mutual
inductive Rep (K : PySem.W.Frag) (G : Hp) : V → D → Prop
  | non : Rep K G .non .non
  | bl (b : Bool) : Rep K G (.bl b) (.bl b)
  | int (i : Int) : Rep K G (.int i) (.int i)
  | str (x : Str) : Rep K G (.str x) (.str x)
  | tup {a : Addr} {xs : List V} {ds : List D} : Tp G a xs ds → RepL K G xs ds → Rep K G (.ref a) (.tup ds)
  | lst {a : Addr} {xs : List V} {ds : List D} : G a = some (.lst xs) → RepL K G xs ds → Rep K G (.ref a) (.lst ds)
  | scr {a : Addr} {ns : List Int} : SqL K G a (ns.map V.int) → Rep K G (.ref a) (.scr ns)
  | exn {a : Addr} : Rep K G (.ref a) (.exn a)
  | dK {a : Addr} {xs : List (Key × V)} {ds : List (Key × D)} : Rd G a (.dK xs) → RepK K G xs ds → Rep K G (.ref a) (.dK ds)
  | dT {a : Addr} {xs : List (List Key × V)} {ds : List (List Key × D)} : Rd G a (.dT xs) → RepT K G xs ds → Rep K G (.ref a) (.dT ds)
  | raw {a : Addr} {xs : List V} {ds : List D} : Rd G a (.tup xs) → RepL K G xs ds → Rep K G (.ref a) (.raw ds)
  | obj {a C dx : Addr} {c : Str} {xs : List (Str × V)} {fs : List (Str × D)} : PySem.W.nsIn K mainGlobals c = some (some (.ref C)) → G a = some (.ins C dx xs) → RepF K G xs fs → Rep K G (.ref a) (.obj c fs)
inductive RepL (K : PySem.W.Frag) (G : Hp) : List V → List D → Prop
  | nil : RepL K G [] []
  | cons {v : V} {vs : List V} {d : D} {ds : List D} : Rep K G v d → RepL K G vs ds → RepL K G (v :: vs) (d :: ds)
inductive RepK (K : PySem.W.Frag) (G : Hp) : List (Key × V) → List (Key × D) → Prop
  | nil : RepK K G [] []
  | cons {k : Key} {v : V} {vs : List (Key × V)} {d : D} {ds : List (Key × D)} : Rep K G v d → RepK K G vs ds → RepK K G ((k, v) :: vs) ((k, d) :: ds)
inductive RepT (K : PySem.W.Frag) (G : Hp) : List (List Key × V) → List (List Key × D) → Prop
  | nil : RepT K G [] []
  | cons {k : List Key} {v : V} {vs : List (List Key × V)} {d : D} {ds : List (List Key × D)} : Rep K G v d → RepT K G vs ds → RepT K G ((k, v) :: vs) ((k, d) :: ds)
inductive RepF (K : PySem.W.Frag) (G : Hp) : List (Str × V) → List (Str × D) → Prop
  | nil : RepF K G [] []
  | cons {k : Str} {v : V} {vs : List (Str × V)} {d : D} {ds : List (Str × D)} : Rep K G v d → RepF K G vs ds → RepF K G ((k, v) :: vs) ((k, d) :: ds)
end

/-- what G holds may be read in G' -/
structure Ext (K : PySem.W.Frag) (G G' : Hp) : Prop where
  tup : ∀ a xs, G a = some (.tup xs) → G' a = some (.tup xs)
  tupF : ∀ a o xs, G a = some (.frz o (.tup xs)) → G' a = some (.frz o (.tup xs))
  ins : ∀ a C dx xs, G a = some (.ins C dx xs) → G' a = some (.ins C dx xs)
  lst : ∀ a xs, G a = some (.lst xs) → G' a = some (.lst xs)
  scr : ∀ a xs, SqL K G a xs → SqL K G' a xs
  dK : ∀ a xs, Rd G a (.dK xs) → Rd G' a (.dK xs)
  dT : ∀ a xs, Rd G a (.dT xs) → Rd G' a (.dT xs)

mutual
theorem Rep.ext {K : PySem.W.Frag} {G G' : Hp} (e : Ext K G G') : ∀ {v : V} {d : D}, Rep K G v d → Rep K G' v d
  | _, _, .non => .non
  | _, _, .bl b => .bl b
  | _, _, .int i => .int i
  | _, _, .str x => .str x
  | _, _, .tup h r => .tup (h.ext e.tup e.tupF) (RepL.ext e r)
  | _, _, .lst h r => .lst (e.lst _ _ h) (RepL.ext e r)
  | _, _, .scr h => .scr (e.scr _ _ h)
  | _, _, .exn => .exn
  | _, _, .dK h r => .dK (e.dK _ _ h) (RepK.ext e r)
  | _, _, .dT h r => .dT (e.dT _ _ h) (RepT.ext e r)
  | _, _, .raw h r => .raw (rd_ext h e.tup e.tupF) (RepL.ext e r)
  | _, _, .obj h1 h2 r => .obj h1 (e.ins _ _ _ _ h2) (RepF.ext e r)
theorem RepL.ext {K : PySem.W.Frag} {G G' : Hp} (e : Ext K G G') : ∀ {v : List V} {d : List D}, RepL K G v d → RepL K G' v d
  | _, _, .nil => .nil
  | _, _, .cons h r => .cons (Rep.ext e h) (RepL.ext e r)
theorem RepK.ext {K : PySem.W.Frag} {G G' : Hp} (e : Ext K G G') : ∀ {v : List (Key × V)} {d : List (Key × D)}, RepK K G v d → RepK K G' v d
  | _, _, .nil => .nil
  | _, _, .cons h r => .cons (Rep.ext e h) (RepK.ext e r)
theorem RepT.ext {K : PySem.W.Frag} {G G' : Hp} (e : Ext K G G') : ∀ {v : List (List Key × V)} {d : List (List Key × D)}, RepT K G v d → RepT K G' v d
  | _, _, .nil => .nil
  | _, _, .cons h r => .cons (Rep.ext e h) (RepT.ext e r)
theorem RepF.ext {K : PySem.W.Frag} {G G' : Hp} (e : Ext K G G') : ∀ {v : List (Str × V)} {d : List (Str × D)}, RepF K G v d → RepF K G' v d
  | _, _, .nil => .nil
  | _, _, .cons h r => .cons (Rep.ext e h) (RepF.ext e r)
end

abbrev Ex (G H : Hp) : Prop := Same G H
theorem Ex.rd {G H : Hp} (e : Ex G H) {a : Addr} {u : HO} (h : Rd G a u) : Rd H a u := by
  rcases h with h | ⟨o, h⟩
  · exact .inl (e _ _ h)
  · exact .inr ⟨o, e _ _ h⟩
theorem Ex.ext {K : PySem.W.Frag} {G H : Hp} (e : Ex G H) : Ext K G H := ⟨fun _ _ h => e _ _ h, fun _ _ _ h => e _ _ h, fun _ _ _ _ h => e _ _ h, fun _ _ h => e _ _ h, fun _ _ h => Same.seq e h, fun _ _ h => e.rd h, fun _ _ h => e.rd h⟩
theorem Rep.mono {K : PySem.W.Frag} {G H : Hp} (e : Ex G H) {v : V} {d : D} (h : Rep K G v d) : Rep K H v d := h.ext e.ext
theorem RepL.mono {K : PySem.W.Frag} {G H : Hp} (e : Ex G H) {v : List V} {d : List D} (h : RepL K G v d) : RepL K H v d := h.ext e.ext
theorem RepK.mono {K : PySem.W.Frag} {G H : Hp} (e : Ex G H) {v : List (Key × V)} {d : List (Key × D)} (h : RepK K G v d) : RepK K H v d := h.ext e.ext
theorem RepT.mono {K : PySem.W.Frag} {G H : Hp} (e : Ex G H) {v : List (List Key × V)} {d : List (List Key × D)} (h : RepT K G v d) : RepT K H v d := h.ext e.ext
theorem RepF.mono {K : PySem.W.Frag} {G H : Hp} (e : Ex G H) {v : List (Str × V)} {d : List (Str × D)} (h : RepF K G v d) : RepF K H v d := h.ext e.ext
theorem RepL.length {K : PySem.W.Frag} {G : Hp} : ∀ {v : List V} {d : List D}, RepL K G v d → v.length = d.length
  | _, _, .nil => rfl
  | _, _, .cons _ r => by rw [List.length_cons, List.length_cons, RepL.length r]
theorem RepL.append {K : PySem.W.Frag} {G : Hp} : ∀ {v w : List V} {d e : List D}, RepL K G v d → RepL K G w e → RepL K G (v ++ w) (d ++ e)
  | _, _, _, _, .nil, h => h
  | _, _, _, _, .cons h r, q => .cons h (RepL.append r q)
theorem RepL.get {K : PySem.W.Frag} {G : Hp} : ∀ {v : List V} {d : List D} {i : Nat} {x : D}, RepL K G v d → d[i]? = some x → ∃ u, v[i]? = some u ∧ Rep K G u x
  | _, _, _, _, .nil, e => by simp at e
  | _, _, 0, _, .cons h _, e => by simp at e; subst e; exact ⟨_, rfl, h⟩
  | _, _, i + 1, x, .cons _ r, e => by
    obtain ⟨u, h1, h2⟩ := RepL.get (i := i) (x := x) r (by simpa using e)
    exact ⟨u, by simpa using h1, h2⟩
theorem RepL.getV {K : PySem.W.Frag} {G : Hp} : ∀ {v : List V} {d : List D} {i : Nat} {u : V}, RepL K G v d → v[i]? = some u → ∃ x, d[i]? = some x ∧ Rep K G u x
  | _, _, _, _, .nil, e => by simp at e
  | _, _, 0, _, .cons h _, e => by simp at e; subst e; exact ⟨_, rfl, h⟩
  | _, _, i + 1, x, .cons _ r, e => by
    obtain ⟨u, h1, h2⟩ := RepL.getV (i := i) (u := x) r (by simpa using e)
    exact ⟨u, by simpa using h1, h2⟩
theorem RepL.set {K : PySem.W.Frag} {G : Hp} {u : V} {x : D} (hx : Rep K G u x) : ∀ {v : List V} {d : List D} (i : Nat), RepL K G v d → RepL K G (v.set i u) (d.set i x)
  | _, _, _, .nil => .nil
  | _, _, 0, .cons _ r => .cons hx r
  | _, _, i + 1, .cons h r => .cons h (RepL.set hx i r)
theorem RepL.take {K : PySem.W.Frag} {G : Hp} : ∀ {v : List V} {d : List D} (i : Nat), RepL K G v d → RepL K G (v.take i) (d.take i)
  | _, _, 0, _ => .nil
  | _, _, _ + 1, .nil => .nil
  | _, _, i + 1, .cons h r => .cons h (RepL.take i r)
theorem RepL.drop {K : PySem.W.Frag} {G : Hp} : ∀ {v : List V} {d : List D} (i : Nat), RepL K G v d → RepL K G (v.drop i) (d.drop i)
  | _, _, 0, h => h
  | _, _, _ + 1, .nil => .nil
  | _, _, i + 1, .cons _ r => RepL.drop i r
theorem RepL.reverse {K : PySem.W.Frag} {G : Hp} : ∀ {v : List V} {d : List D}, RepL K G v d → RepL K G v.reverse d.reverse
  | _, _, .nil => .nil
  | _, _, .cons h r => by
    rw [List.reverse_cons, List.reverse_cons]
    exact RepL.append (RepL.reverse r) (.cons h .nil)
theorem RepL.dropLast {K : PySem.W.Frag} {G : Hp} {v : List V} {d : List D} (h : RepL K G v d) : RepL K G v.dropLast d.dropLast := by
  rw [List.dropLast_eq_take, List.dropLast_eq_take, h.length]
  exact h.take _
theorem RepL.ints {K : PySem.W.Frag} {G : Hp} : ∀ (ns : List Int), RepL K G (ns.map V.int) (ns.map D.int)
  | [] => .nil
  | n :: ns => .cons (.int n) (RepL.ints ns)
theorem RepL.ints_inv {K : PySem.W.Frag} {G : Hp} : ∀ {ns : List Int} {vs : List V}, RepL K G vs (ns.map D.int) → vs = ns.map V.int
  | [], _, .nil => rfl
  | n :: ns, _, .cons h r => by
    cases h
    rw [List.map_cons, RepL.ints_inv r]

/-! only scalars and tuples -/
mutual
def plain : D → Bool
  | .non => true | .bl _ => true | .int _ => true | .str _ => true
  | .tup ds => plainL ds
  | _ => false
def plainL : List D → Bool
  | [] => true
  | d :: ds => plain d && plainL ds
end
mutual
theorem Rep.plain {K : PySem.W.Frag} {G G' : Hp} (e : (∀ a xs, G a = some (.tup xs) → G' a = some (.tup xs)) ∧ ∀ a o xs, G a = some (.frz o (.tup xs)) → G' a = some (.frz o (.tup xs))) : ∀ {v : V} {d : D}, Rep K G v d → NT.plain d = true → Rep K G' v d
  | _, _, .non, _ => .non
  | _, _, .bl b, _ => .bl b
  | _, _, .int i, _ => .int i
  | _, _, .str x, _ => .str x
  | _, _, .tup h r, p => .tup (h.ext e.1 e.2) (RepL.plain e r (by simpa [NT.plain] using p))
  | _, _, .lst _ _, p => by simp [NT.plain] at p
  | _, _, .scr _, p => by simp [NT.plain] at p
  | _, _, .dK _ _, p => by simp [NT.plain] at p
  | _, _, .dT _ _, p => by simp [NT.plain] at p
  | _, _, .raw _ _, p => by simp [NT.plain] at p
  | _, _, .obj _ _ _, p => by simp [NT.plain] at p
theorem RepL.plain {K : PySem.W.Frag} {G G' : Hp} (e : (∀ a xs, G a = some (.tup xs) → G' a = some (.tup xs)) ∧ ∀ a o xs, G a = some (.frz o (.tup xs)) → G' a = some (.frz o (.tup xs))) : ∀ {v : List V} {d : List D}, RepL K G v d → plainL d = true → RepL K G' v d
  | _, _, .nil, _ => .nil
  | _, _, .cons h r, p => by
    simp [plainL] at p
    exact .cons (Rep.plain e h p.1) (RepL.plain e r p.2)
end

/-! slots and states -/
inductive Sl where
  | no | val (d : D) | own (d : D) | bor (d : D)
instance : Inhabited Sl := ⟨.no⟩
def Sl.mine : Sl → Option D
  | .own d => some d
  | .bor d => some d
  | _ => none

/-- an object that is owned: its children are in G -/
def Obj (K : PySem.W.Frag) (G H : Hp) (l : Addr) : D → Prop
  | .lst ds => ∃ xs, H l = some (.lst xs) ∧ RepL K G xs ds
  | .dK kvs => ∃ xs, H l = some (.dK xs) ∧ RepK K G xs kvs
  | .dT kvs => ∃ xs, H l = some (.dT xs) ∧ RepT K G xs kvs
  | .obj c fs => ∃ C dx xs, PySem.W.nsIn K mainGlobals c = some (some (.ref C)) ∧ H l = some (.ins C dx xs) ∧ RepF K G xs fs
  | _ => False
theorem Obj.mono {K : PySem.W.Frag} {G G' H H' : Hp} {l : Addr} {d : D} (e : Ext K G G') (h : Obj K G H l d) (hl : H' l = H l) : Obj K G' H' l d := by
  cases d with
  | lst ds => obtain ⟨xs, a, b⟩ := h; exact ⟨xs, hl.trans a, b.ext e⟩
  | dK ds => obtain ⟨xs, a, b⟩ := h; exact ⟨xs, hl.trans a, b.ext e⟩
  | dT ds => obtain ⟨xs, a, b⟩ := h; exact ⟨xs, hl.trans a, b.ext e⟩
  | obj c fs => obtain ⟨C, dx, xs, n, a, b⟩ := h; exact ⟨C, dx, xs, n, hl.trans a, b.ext e⟩
  | _ => exact h.elim
theorem Obj.some {K : PySem.W.Frag} {G H : Hp} {l : Addr} {d : D} (h : Obj K G H l d) : ∃ o, H l = .some o := by
  cases d with
  | lst ds => obtain ⟨xs, a, b⟩ := h; exact ⟨_, a⟩
  | dK ds => obtain ⟨xs, a, b⟩ := h; exact ⟨_, a⟩
  | dT ds => obtain ⟨xs, a, b⟩ := h; exact ⟨_, a⟩
  | obj c fs => obtain ⟨C, dx, xs, n, a, b⟩ := h; exact ⟨_, a⟩
  | _ => exact h.elim
theorem Obj.notFrz {K : PySem.W.Frag} {G H : Hp} {l : Addr} {d : D} (h : Obj K G H l d) (o : PySem.Obj) (u : HO) : H l ≠ .some (.frz o u) := by
  intro z
  cases d with
  | lst ds => obtain ⟨xs, a, b⟩ := h; rw [a] at z; cases z
  | dK ds => obtain ⟨xs, a, b⟩ := h; rw [a] at z; cases z
  | dT ds => obtain ⟨xs, a, b⟩ := h; rw [a] at z; cases z
  | obj c fs => obtain ⟨C, dx, xs, n, a, b⟩ := h; rw [a] at z; cases z
  | _ => exact h.elim
theorem Obj.notTup {K : PySem.W.Frag} {G H : Hp} {l : Addr} {d : D} (h : Obj K G H l d) (xs : List V) : H l ≠ .some (.tup xs) := by
  intro z
  cases d with
  | lst ds => obtain ⟨xs, a, b⟩ := h; rw [a] at z; cases z
  | dK ds => obtain ⟨xs, a, b⟩ := h; rw [a] at z; cases z
  | dT ds => obtain ⟨xs, a, b⟩ := h; rw [a] at z; cases z
  | obj c fs => obtain ⟨C, dx, xs, n, a, b⟩ := h; rw [a] at z; cases z
  | _ => exact h.elim
/-- as frozen -/
theorem Obj.rep {K : PySem.W.Frag} {G H : Hp} {l : Addr} {d : D} (h : Obj K G H l d) (hl : G l = Option.none) {o : HO} (ho : H l = .some o) : Rep K (upd G l o) (.ref l) d := by
  have e : Ex G (upd G l o) := fun b x q => by
    rw [upd_ne (ne_of_none q hl)]
    exact q
  cases d with
  | lst ds => obtain ⟨xs, a, b⟩ := h; rw [a] at ho; cases ho; exact .lst upd_same (b.mono e)
  | dK ds => obtain ⟨xs, a, b⟩ := h; rw [a] at ho; cases ho; exact .dK (.inl upd_same) (b.mono e)
  | dT ds => obtain ⟨xs, a, b⟩ := h; rw [a] at ho; cases ho; exact .dT (.inl upd_same) (b.mono e)
  | obj c fs => obtain ⟨C, dx, xs, n, a, b⟩ := h; rw [a] at ho; cases ho; exact .obj n upd_same (b.mono e)
  | _ => exact h.elim

structure Fm where
  H0 : Hp
  G0 : Hp
  B : List (Nat × Addr)

structure CS (K : PySem.W.Frag) (F : Fm) (G H : Hp) (σ : St) (ρ : List Sl) : Prop where
  ex : Ex G H
  g0 : Ex F.G0 G
  fr : ∀ b o, F.H0 b = some o → (∀ i, (i, b) ∉ F.B) → H b = some o
  gn : ∀ b, F.G0 b = none → G b ≠ none → F.H0 b = none
  len : σ.length = ρ.length
  vals : ∀ (i : Nat) d, ρ[i]? = some (.val d) → ∃ v, σ[i]? = some (some v) ∧ Rep K G v d
  owns : ∀ (i : Nat) d, ρ[i]? = some (.own d) → ∃ l, σ[i]? = some (some (.ref l)) ∧ Obj K G H l d ∧ G l = none ∧ F.H0 l = none
  bors : ∀ (i : Nat) d, ρ[i]? = some (.bor d) → ∃ l, σ[i]? = some (some (.ref l)) ∧ Obj K G H l d ∧ G l = none ∧ (i, l) ∈ F.B
  bb : ∀ (i : Nat) l, (i, l) ∈ F.B → ∃ d, ρ[i]? = some (.bor d) ∧ σ[i]? = some (some (.ref l))
  sep : ∀ (i j : Nat) (s t : Sl) (d e : D) (l : Addr), i ≠ j → ρ[i]? = some s → s.mine = some d → ρ[j]? = some t → t.mine = some e → σ[i]? = some (some (.ref l)) → σ[j]? ≠ some (some (.ref l))

section
variable {K : PySem.W.Frag} {F : Fm} {G H : Hp} {σ : St} {ρ : List Sl}
theorem CS.mine (c : CS K F G H σ ρ) {i : Nat} {s : Sl} {d : D} (h : ρ[i]? = some s) (hm : s.mine = some d) : ∃ l, σ[i]? = some (some (.ref l)) ∧ Obj K G H l d ∧ G l = none ∧ (F.H0 l = none ∨ (i, l) ∈ F.B) := by
  cases s with
  | own e =>
    cases hm
    obtain ⟨l, a, b, x, y⟩ := c.owns i _ h
    exact ⟨l, a, b, x, .inl y⟩
  | bor e =>
    cases hm
    obtain ⟨l, a, b, x, y⟩ := c.bors i _ h
    exact ⟨l, a, b, x, .inr y⟩
  | no => cases hm
  | val e => cases hm
/-- what was fresh at the entry or is new -/
theorem CS.fresh (c : CS K F G H σ ρ) {p : Addr} (h : H p = none) : F.H0 p = none ∧ G p = none ∧ F.G0 p = none := by
  have hg : G p = none := Same.free c.ex h
  refine ⟨?_, hg, Same.free c.g0 hg⟩
  cases q : F.H0 p with
  | none => rfl
  | some o =>
    by_cases hb : ∃ i, (i, p) ∈ F.B
    · obtain ⟨i, hi⟩ := hb
      obtain ⟨d, h1, h2⟩ := c.bb i p hi
      obtain ⟨l, h3, h4, _⟩ := c.bors i d h1
      rw [h2] at h3
      cases h3
      obtain ⟨o', e⟩ := h4.some
      rw [h] at e
      cases e
    · have := c.fr p o q fun i hi => hb ⟨i, hi⟩
      rw [h] at this
      cases this
theorem CS.notMine (c : CS K F G H σ ρ) {p : Addr} (h : H p = none) {i : Nat} {s : Sl} {d : D} (hi : ρ[i]? = some s) (hm : s.mine = some d) : σ[i]? ≠ some (some (.ref p)) := by
  intro z
  obtain ⟨l, h1, h2, _⟩ := c.mine hi hm
  rw [z] at h1
  cases h1
  obtain ⟨o, e⟩ := h2.some
  rw [h] at e
  cases e
/-- a new object, kept in the frozen part -/
theorem CS.alloc (c : CS K F G H σ ρ) {p : Addr} (h : H p = none) (o : HO) : CS K F (upd G p o) (upd H p o) σ ρ := by
  obtain ⟨h0, hg, hg0⟩ := c.fresh h
  have eG : Ex G (upd G p o) := fun b x e => by
    rw [upd_ne (ne_of_none e hg)]
    exact e
  have keep : ∀ {l d}, Obj K G H l d → G l = none → Obj K (upd G p o) (upd H p o) l d ∧ (upd G p o) l = none := fun {l d} ho hl => by
    obtain ⟨u, e⟩ := ho.some
    have ne : l ≠ p := ne_of_none e h
    exact ⟨ho.mono eG.ext (upd_ne ne), by rw [upd_ne ne]; exact hl⟩
  refine ⟨fun b x e => ?_, c.g0.trans eG, fun b x e hb => ?_, fun b e1 e2 => ?_, c.len, fun i d e => ?_, fun i d e => ?_, fun i d e => ?_, c.bb, c.sep⟩
  · by_cases hb : b = p
    · subst hb
      rw [upd_same] at e ⊢
      exact e
    · rw [upd_ne hb] at e ⊢
      exact c.ex _ _ e
  · have e1 := c.fr b x e hb
    rw [upd_ne (ne_of_none e1 h)]
    exact e1
  · by_cases hb : b = p
    · subst hb; exact h0
    · rw [upd_ne hb] at e2
      exact c.gn b e1 e2
  · obtain ⟨v, a, b⟩ := c.vals i d e
    exact ⟨v, a, b.mono eG⟩
  · obtain ⟨l, a, b, x, y⟩ := c.owns i d e
    obtain ⟨k1, k2⟩ := keep b x
    exact ⟨l, a, k1, k2, y⟩
  · obtain ⟨l, a, b, x, y⟩ := c.bors i d e
    obtain ⟨k1, k2⟩ := keep b x
    exact ⟨l, a, k1, k2, y⟩
/-- a new object that is not frozen -/
theorem CS.allocN (c : CS K F G H σ ρ) {p : Addr} (h : H p = none) (o : HO) : CS K F G (upd H p o) σ ρ := by
  obtain ⟨h0, hg, hg0⟩ := c.fresh h
  have keep : ∀ {l d}, Obj K G H l d → Obj K G (upd H p o) l d := fun {l d} ho => by
    obtain ⟨u, e⟩ := ho.some
    exact ho.mono (Ex.ext (Same.refl G)) (upd_ne (ne_of_none e h))
  refine ⟨fun b x e => ?_, c.g0, fun b x e hb => ?_, c.gn, c.len, c.vals, fun i d e => ?_, fun i d e => ?_, c.bb, c.sep⟩
  · rw [upd_ne (ne_of_none e hg)]
    exact c.ex _ _ e
  · have e1 := c.fr b x e hb
    rw [upd_ne (ne_of_none e1 h)]
    exact e1
  · obtain ⟨l, a, b, x, y⟩ := c.owns i d e
    exact ⟨l, a, keep b, x, y⟩
  · obtain ⟨l, a, b, x, y⟩ := c.bors i d e
    exact ⟨l, a, keep b, x, y⟩
end

/-! ### a new tuple, kept either way -/
def layT (xs : List V) (H : Hp) (Q : VK) : Prop := (∀ p, H p = none → Q (.ref p) (upd H p (.tup xs))) ∨ ∀ p (o : PySem.Obj), H p = none → o.dict = none → Q (.ref p) (upd H p (.frz o (.tup xs)))
section
variable {X : Cx}
theorem lay_ok {pins : List (Addr × PySem.Obj)} {σ : St} {H : Hp} {s : Shared} {xs : List V} {its : List Value} {Q : VK} {ob : PySem.Obj} {n : Nat} (I : Inv X pins σ H s) (hz : xs.length ≤ sizeLine) (r : Vals xs its) (hc : ob.cls = .type "tuple") (hd : ob.dict = none) (ha : ob.data = .seq its.toArray n) (q : layT xs H Q) (hf : ob.isFreed = false := by rfl) :
    EP X pins σ Q (.ref s.heap.objs.size) { s with heap := s.heap.push ob } := by
  have g0 : (s.heap.push ob).get? s.heap.objs.size = some ob := Heap.get?_push_size _ hf
  have it : PyProof.Rows.IsTup (s.heap.push ob) s.heap.objs.size its.toArray := ⟨ob, g0, hc, n, ha⟩
  rcases q with q | q
  · exact ⟨.ref s.heap.objs.size, _, I.laid (t' := s.toks) (o := .tup xs) (fun b _ e => Heap.get?_push_of_some _ e) (Nat.le_refl _) ⟨hz, its, r, it⟩, rfl, q _ (I.hok.fresh (Nat.le_refl _))⟩
  · exact ⟨.ref s.heap.objs.size, _, I.laid (t' := s.toks) (o := .frz ob (.tup xs)) (fun b _ e => Heap.get?_push_of_some _ e) (Nat.le_refl _) ⟨g0, hz, its, r, it⟩, rfl, q _ ob (I.hok.fresh (Nat.le_refl _)) hd⟩

/-- a written tuple -/
def tTupL (t : TA) : TE := fun σ H Q => t σ H fun xs H1 => xs.length ≤ sizeLine ∧ layT xs H1 Q
theorem pe_tupL {es : List Expr} {t : TA} {x1 : _} {pos : Pos} (h : PA X es t) : PE X (.Tuple es x1 pos) (tTupL t) := ⟨fun pins s σ H Q I hq => by
  refine wpAny_Tuple_spliced (thn (h.run pos pins s σ H _ I hq) ?_)
  rintro us s1 ⟨xs, H1, I1, r, z, q⟩
  exact ⟨by rw [← r.length]; exact z, lay_ok I1 z r rfl rfl rfl q⟩⟩
/-- tuple(xs) -/
theorem call_tupleL : CallR X (.type "tuple") (fun xs H Q => ∃ p ys, xs = [.ref p] ∧ ((SqL X.K H p ys ∧ layT ys H Q) ∨ (SqT X.K H p ys ∧ Q (.ref p) H))) := fun pins s σ H xs us Q I r h => by
  obtain ⟨p, ys, ex, h⟩ := h
  subst ex
  obtain ⟨u, eu, rx⟩ := vals1 r
  subst eu
  cases rx
  rcases h with ⟨hq, q⟩ | ⟨hq, q⟩
  · obtain ⟨its, rv, pl, hz⟩ := I.list hq
    have hn := rv.length
    refine call_tuple_list pl.isList (fun hh kp => ?_) (by rw [List.size_toArray]; omega)
    have J : Inv X pins σ H { s with heap := hh } := I.kept (t' := s.toks) kp
    exact lay_ok J hz rv rfl rfl rfl q
  · obtain ⟨its, rv, pl, hz⟩ := I.tuple hq
    exact call_tuple_same pl ⟨.ref p, H, I, rfl, q⟩
/-- t + u -/
def rCatL (K : PySem.W.Frag) : R2 := fun x y H Q => ∃ a b xs ys, (x = .ref a ∧ y = .ref b ∧ SqT K H a xs ∧ SqT K H b ys ∧ xs.length + ys.length ≤ sizeLine) ∧
  (xs = [] → Q (.ref b) H) ∧ (xs ≠ [] → ys = [] → Q (.ref a) H) ∧ (xs ≠ [] → ys ≠ [] → layT (xs ++ ys) H Q)
theorem op_catL : OpR X (binaryOp .Add) (rCatL X.K) := fun pins s σ H x y v u Q I rx ry h => by
  obtain ⟨a, b, xs, ys, ⟨ex, ey, ha, hb, hz⟩, q0, q1, q2⟩ := h
  subst ex ey
  cases rx
  cases ry
  obtain ⟨its, r1, p1, _⟩ := I.tuple ha
  obtain ⟨jts, r2, p2, _⟩ := I.tuple hb
  by_cases hx : xs = []
  · subst hx
    cases r1
    exact cat_tup0 p1 p2 ⟨.ref b, H, I, rfl, q0 rfl⟩
  · refine HT.cat_tup p1 p2 (fun z => hx (r1.nil_iff.mp z)) (fun z => ⟨.ref a, H, I, rfl, q1 hx (r2.nil_iff.mp z)⟩) (fun z => ?_) (by rw [← r1.length, ← r2.length]; exact hz)
    exact lay_ok I (by rw [List.length_append]; exact hz) (r1.append r2) rfl rfl rfl (q2 hx fun w => z (r2.nil_iff.mpr w))
/-- t[lo:hi] -/
def rSlL2 (K : PySem.W.Frag) : V → Option Int → Option Int → Hp → VK → Prop := fun x lo hi H Q => ∃ a xs, (x = .ref a ∧ SqT K H a xs) ∧
  (HT.sIx xs.length 0 lo = 0 ∧ HT.sIx xs.length xs.length hi = xs.length → Q (.ref a) H) ∧ (¬ (HT.sIx xs.length 0 lo = 0 ∧ HT.sIx xs.length xs.length hi = xs.length) → layT (cutV xs lo hi) H Q)
theorem sl_tupL : SlR X (rSlL2 X.K) := fun pins s σ H x v vl vu lo hi sl Q I rx hs pl pu h => by
  obtain ⟨a, xs, ⟨ex, hx⟩, q1, q2⟩ := h
  subst ex
  cases rx
  obtain ⟨its, r, ht, hz⟩ := I.tuple hx
  have hn : its.toArray.size = xs.length := (List.size_toArray).trans r.length.symm
  refine ⟨"tuple", _, PyProof.Rows.slot_tuple_getitem.lookup, ht.typeIs, ?_⟩
  by_cases hw : HT.sIx xs.length 0 lo = 0 ∧ HT.sIx xs.length xs.length hi = xs.length
  · exact getItem_tuple_whole ht hs pl pu (by rw [hn]; exact hw) ⟨.ref a, H, I, rfl, q1 hw⟩
  · refine HT.getItem_tuple_cut ht hs pl pu (by rw [hn]; exact hw) ?_ (by rw [hn]; exact hz)
    rw [hn]
    exact lay_ok I (Nat.le_trans (cutV_length xs lo hi) hz) ((r.drop _).take _) rfl rfl rfl (q2 hw)
end
end NT

set_option Elab.async false
set_option linter.all false
set_option maxRecDepth 100000
set_option maxHeartbeats 4000000
namespace NT
open PySem L2

/-! results -/
inductive R (α : Type) where
  | ok (a : α) (ρ : List Sl) | ex (c : Nat) (ρ : List Sl) | bad
abbrev M (α : Type) := List Sl → R α
def mpure {α : Type} (a : α) : M α := fun ρ => .ok a ρ
def mbind {α β : Type} (m : M α) (k : α → M β) : M β := fun ρ => match m ρ with
  | .ok a ρ' => k a ρ'
  | .ex c ρ' => .ex c ρ'
  | .bad => .bad
def lift {α : Type} (o : Option α) : M α := fun ρ => match o with
  | some a => .ok a ρ
  | none => .bad
def wpR {α : Type} (r : R α) (P : α → List Sl → Prop) (E : Nat → List Sl → Prop) : Prop := match r with
  | .ok a ρ => P a ρ
  | .ex c ρ => E c ρ
  | .bad => False
theorem wpR_bind {α β : Type} {m : M α} {k : α → M β} {ρ : List Sl} {P : β → List Sl → Prop} {E : Nat → List Sl → Prop} (h : wpR (mbind m k ρ) P E) : wpR (m ρ) (fun a ρ' => wpR (k a ρ') P E) E := by
  unfold mbind at h
  cases e : m ρ with
  | ok a ρ' => rw [e] at h; exact h
  | ex c ρ' => rw [e] at h; exact h
  | bad => rw [e] at h; exact h
theorem wpR.mono {α : Type} {r : R α} {P P' : α → List Sl → Prop} {E E' : Nat → List Sl → Prop} (h : wpR r P E) (hp : ∀ a ρ, P a ρ → P' a ρ) (he : ∀ c ρ, E c ρ → E' c ρ) : wpR r P' E' := by
  cases r with
  | ok a ρ => exact hp _ _ h
  | ex c ρ => exact he _ _ h
  | bad => exact h
theorem wpR_lift {α : Type} {o : Option α} {ρ : List Sl} {P : α → List Sl → Prop} {E : Nat → List Sl → Prop} (h : wpR (lift o ρ) P E) : ∃ a, o = some a ∧ P a ρ := by
  unfold lift at h
  cases o with
  | some a => exact ⟨a, rfl, h⟩
  | none => exact h.elim

/-- no slot is owned -/
def NoOwn (ρ : List Sl) : Prop := ∀ (i : Nat) s, ρ[i]? = some s → s.mine = none
def Inert {α : Type} (f : M α) : Prop := ∀ ρ, NoOwn ρ → ∀ a ρ', f ρ = .ok a ρ' → ρ' = ρ
theorem inert_pure {α : Type} {a : α} : Inert (mpure a) := fun ρ _ b ρ' h => by
  cases h; rfl
theorem inert_lift {α : Type} {o : Option α} : Inert (lift o) := fun ρ _ b ρ' h => by
  unfold lift at h
  cases o with
  | some a => cases h; rfl
  | none => cases h
theorem inert_bind {α β : Type} {m : M α} {k : α → M β} (hm : Inert m) (hk : ∀ a, Inert (k a)) : Inert (mbind m k) := fun ρ n b ρ' h => by
  unfold mbind at h
  cases e : m ρ with
  | ok a ρ1 =>
    rw [e] at h
    have e1 := hm ρ n a ρ1 e
    subst e1
    exact hk a ρ1 n b ρ' h
  | ex c ρ' => rw [e] at h; cases h
  | bad => rw [e] at h; cases h

/-! simulation -/
section
variable (K : PySem.W.Frag) (cls : Nat → Value) (W : WX)
def POk (F : Fm) (G : Hp) (σ : St) (Q : VK) : D → List Sl → Prop := fun d ρ' => ∀ v G' H', Ex G G' → CS K F G' H' σ ρ' → Rep K G' v d → Q v H'
def PEx (F : Fm) (G : Hp) (σ : St) : Nat → List Sl → Prop := fun c ρ' => ∀ G' H', Ex G G' → CS K F G' H' σ ρ' → W (cls c) none σ H'
/-- a fresh object -/
structure Fr (F : Fm) (G H : Hp) (σ : St) (ρ : List Sl) (l : Addr) (d : D) : Prop where
  obj : Obj K G H l d
  g : G l = none
  h0 : F.H0 l = none
  nm : ∀ (i : Nat) s e, ρ[i]? = some s → s.mine = some e → σ[i]? ≠ some (some (.ref l))
def PNw (F : Fm) (G : Hp) (σ : St) (Q : VK) : D → List Sl → Prop := fun d ρ' => ∀ l G' H', Ex G G' → CS K F G' H' σ ρ' → Fr K F G' H' σ ρ' l d → Q (.ref l) H'
def PTt (F : Fm) (G : Hp) (σ : St) (Q : Bool → Hp → Prop) : Bool → List Sl → Prop := fun b ρ' => ∀ G' H', Ex G G' → CS K F G' H' σ ρ' → Q b H'
def PAr (F : Fm) (G : Hp) (σ : St) (Q : List V → Hp → Prop) : List D → List Sl → Prop := fun ds ρ' => ∀ vs G' H', Ex G G' → CS K F G' H' σ ρ' → RepL K G' vs ds → Q vs H'

def SimE (te : TE) (f : M D) : Prop := ∀ F ρ σ G H, CS K F G H σ ρ → ∀ Q : VK, wpR (f ρ) (POk K F G σ Q) (PEx K cls W F G σ) → te σ H Q
def SimN (te : TE) (f : M D) : Prop := ∀ F ρ σ G H, CS K F G H σ ρ → ∀ Q : VK, wpR (f ρ) (PNw K F G σ Q) (PEx K cls W F G σ) → te σ H Q
def SimT (tt : TT) (f : M Bool) : Prop := ∀ F ρ σ G H, CS K F G H σ ρ → ∀ Q : Bool → Hp → Prop, wpR (f ρ) (PTt K F G σ Q) (PEx K cls W F G σ) → tt σ H Q
def SimA (ta : TA) (f : M (List D)) : Prop := ∀ F ρ σ G H, CS K F G H σ ρ → ∀ Q : List V → Hp → Prop, wpR (f ρ) (PAr K F G σ Q) (PEx K cls W F G σ) → ta σ H Q
end

section
variable {K : PySem.W.Frag} {cls : Nat → Value} {W : WX} {F : Fm} {G H : Hp} {σ : St} {ρ : List Sl}
theorem PEx.mono {G1 : Hp} (e : Ex G G1) {c : Nat} {ρ' : List Sl} (h : PEx K cls W F G σ c ρ') : PEx K cls W F G1 σ c ρ' := fun G' H' e1 c1 => h G' H' (e.trans e1) c1
theorem POk.mono {G1 : Hp} (e : Ex G G1) {Q : VK} {d : D} {ρ' : List Sl} (h : POk K F G σ Q d ρ') : POk K F G1 σ Q d ρ' := fun v G' H' e1 c1 r => h v G' H' (e.trans e1) c1 r
theorem PNw.mono {G1 : Hp} (e : Ex G G1) {Q : VK} {d : D} {ρ' : List Sl} (h : PNw K F G σ Q d ρ') : PNw K F G1 σ Q d ρ' := fun v G' H' e1 c1 r => h v G' H' (e.trans e1) c1 r
theorem PTt.mono {G1 : Hp} (e : Ex G G1) {Q : Bool → Hp → Prop} {d : Bool} {ρ' : List Sl} (h : PTt K F G σ Q d ρ') : PTt K F G1 σ Q d ρ' := fun G' H' e1 c1 => h G' H' (e.trans e1) c1
theorem PAr.mono {G1 : Hp} (e : Ex G G1) {Q : List V → Hp → Prop} {d : List D} {ρ' : List Sl} (h : PAr K F G σ Q d ρ') : PAr K F G1 σ Q d ρ' := fun v G' H' e1 c1 r => h v G' H' (e.trans e1) c1 r

/-- a fresh object is frozen -/
theorem CS.freeze (c : CS K F G H σ ρ) {l : Addr} {d : D} (f : Fr K F G H σ ρ l d) : ∃ o, H l = some o ∧ CS K F (upd G l o) H σ ρ ∧ Rep K (upd G l o) (.ref l) d ∧ Ex G (upd G l o) := by
  obtain ⟨o, e⟩ := f.obj.some
  have eG : Ex G (upd G l o) := fun b x q => by
    rw [upd_ne (ne_of_none q f.g)]
    exact q
  refine ⟨o, e, ?_, f.obj.rep f.g e, eG⟩
  have keep : ∀ {i : Nat} {s : Sl} {d : D} {l' : Addr}, ρ[i]? = some s → s.mine = some d → σ[i]? = some (some (.ref l')) → Obj K G H l' d → G l' = none → Obj K (upd G l o) H l' d ∧ (upd G l o) l' = none := fun {i s d l'} h1 h2 h3 h4 h5 => by
    have ne : l' ≠ l := fun z => f.nm i s d h1 h2 (z ▸ h3)
    exact ⟨h4.mono eG.ext rfl, by rw [upd_ne ne]; exact h5⟩
  refine ⟨fun b x q => ?_, c.g0.trans eG, c.fr, fun b e1 e2 => ?_, c.len, fun i d e => ?_, fun i d e => ?_, fun i d e => ?_, c.bb, c.sep⟩
  · by_cases hb : b = l
    · subst hb
      rw [upd_same] at q
      rw [← q]
      exact e
    · rw [upd_ne hb] at q
      exact c.ex _ _ q
  · by_cases hb : b = l
    · subst hb; exact f.h0
    · rw [upd_ne hb] at e2
      exact c.gn b e1 e2
  · obtain ⟨v, a, b⟩ := c.vals i d e
    exact ⟨v, a, b.mono eG⟩
  · obtain ⟨l', a, b, x, y⟩ := c.owns i d e
    obtain ⟨k1, k2⟩ := keep e rfl a b x
    exact ⟨l', a, k1, k2, y⟩
  · obtain ⟨l', a, b, x, y⟩ := c.bors i d e
    obtain ⟨k1, k2⟩ := keep e rfl a b x
    exact ⟨l', a, k1, k2, y⟩
theorem SimN.frz {te : TE} {f : M D} (h : SimN K cls W te f) : SimE K cls W te f := fun F ρ σ G H c Q w =>
  h F ρ σ G H c Q (w.mono (fun d ρ' p l G' H' e c' fr => by
    obtain ⟨o, ho, c2, r, e2⟩ := c'.freeze fr
    exact p _ _ _ (e.trans e2) c2 r) fun _ _ p => p)
theorem fr_new (c : CS K F G H σ ρ) {p : Addr} (h : H p = none) {o : HO} {d : D} (ho : Obj K G (upd H p o) p d) : CS K F G (upd H p o) σ ρ ∧ Fr K F G (upd H p o) σ ρ p d := by
  obtain ⟨h0, hg, hg0⟩ := c.fresh h
  exact ⟨c.allocN h o, ho, hg, h0, fun i s e h1 h2 => c.notMine h h1 h2⟩
end

/-! values -/
def Val1 (K : PySem.W.Frag) (r : V → Hp → VK → Prop) (g : D → Option D) : Prop := ∀ F G H σ ρ x d z, CS K F G H σ ρ → Rep K G x d → g d = some z → ∀ Q : VK, POk K F G σ Q z ρ → r x H Q
def Val2 (K : PySem.W.Frag) (r : R2) (g : D → D → Option D) : Prop := ∀ F G H σ ρ x y d e z, CS K F G H σ ρ → Rep K G x d → Rep K G y e → g d e = some z → ∀ Q : VK, POk K F G σ Q z ρ → r x y H Q
def ValA (K : PySem.W.Frag) (r : List V → Hp → VK → Prop) (g : List D → Option D) : Prop := ∀ F G H σ ρ xs ds z, CS K F G H σ ρ → RepL K G xs ds → g ds = some z → ∀ Q : VK, POk K F G σ Q z ρ → r xs H Q
def New2 (K : PySem.W.Frag) (r : R2) (g : D → D → Option D) : Prop := ∀ F G H σ ρ x y d e z, CS K F G H σ ρ → Rep K G x d → Rep K G y e → g d e = some z → ∀ Q : VK, PNw K F G σ Q z ρ → r x y H Q
def NewA (K : PySem.W.Frag) (r : List V → Hp → VK → Prop) (g : List D → Option D) : Prop := ∀ F G H σ ρ xs ds z, CS K F G H σ ρ → RepL K G xs ds → g ds = some z → ∀ Q : VK, PNw K F G σ Q z ρ → r xs H Q

/-- expressions -/
structure QE (X : Cx) (cls : Nat → Value) (W : WX) (e : Expr) (f : M D) : Prop where
  sim : ∃ t, PE X e t ∧ SimE X.K cls W t f
  inert : Inert f
structure QN (X : Cx) (cls : Nat → Value) (W : WX) (e : Expr) (f : M D) : Prop where
  sim : ∃ t, PE X e t ∧ SimN X.K cls W t f
  inert : Inert f
structure QT (X : Cx) (cls : Nat → Value) (W : WX) (e : Expr) (f : M Bool) : Prop where
  sim : ∃ t, PT X e t ∧ SimT X.K cls W t f
  inert : Inert f
structure QW (X : Cx) (cls : Nat → Value) (W : WX) (e : Expr) (f : M Bool) : Prop where
  sim : ∃ t, PW X e t ∧ SimT X.K cls W t f
  inert : Inert f
structure QA (X : Cx) (cls : Nat → Value) (W : WX) (es : List Expr) (f : M (List D)) : Prop where
  sim : ∃ t, PA X es t ∧ SimA X.K cls W t f
  inert : Inert f

section
variable {X : Cx} {cls : Nat → Value} {W : WX} {e a b : Expr} {es : List Expr} {f g : M D} {pos : Pos}
theorem QN.frz (h : QN X cls W e f) : QE X cls W e f := ⟨let ⟨t, p, s⟩ := h.sim; ⟨t, p, s.frz⟩, h.inert⟩

/-! ### the denotations -/
def eVar (i : Nat) : M D := fun ρ => match ρ[i]? with
  | some (.val d) => .ok d ρ
  | _ => .bad
def eC (d : D) : M D := mpure d
def eBin (op : D → D → Option D) (a b : M D) : M D := mbind a fun x => mbind b fun y => lift (op x y)
def eUn (op : D → Option D) (a : M D) : M D := mbind a fun x => lift (op x)
def aNil : M (List D) := mpure []
def aCons (a : M D) (r : M (List D)) : M (List D) := mbind a fun x => mbind r fun xs => mpure (x :: xs)
def eFn (op : List D → Option D) (a : M (List D)) : M D := mbind a fun xs => lift (op xs)
def eTup (a : M (List D)) : M D := mbind a fun xs => lift (if xs.length ≤ 100000 then some (.tup xs) else none)
def eLst (a : M (List D)) : M D := mbind a fun xs => lift (if xs.length ≤ 100000 then some (.lst xs) else none)

theorem sz_of {n : Nat} (h : n ≤ 100000) : n ≤ sizeLine := Nat.le_trans h (by decide)
theorem sz_lt {n : Nat} (h : n ≤ 100000) : n < sizeLine := Nat.lt_of_le_of_lt h (by decide)

/-! ### the rules -/
theorem q_var (i : Nat) {x : Str} (h : PE X (.Name x pos) (tVar i)) : QE X cls W (.Name x pos) (eVar i) := by
  refine ⟨⟨_, h, fun F ρ σ G H c Q w => ?_⟩, fun ρ _ a ρ' e => ?_⟩
  · unfold eVar at w
    split at w
    · rename_i d e
      obtain ⟨v, hv, r⟩ := c.vals i d e
      exact ⟨v, hv, w v G H (Same.refl G) c r⟩
    · exact w.elim
  · unfold eVar at e
    split at e
    · cases e; rfl
    · cases e
theorem q_c {e : Expr} {v : V} {d : D} (h : PE X e (tC v)) (r : ∀ G, Rep X.K G v d) : QE X cls W e (eC d) :=
  ⟨⟨_, h, fun F ρ σ G H c Q w => w v G H (Same.refl G) c (r G)⟩, inert_pure⟩
theorem q_int {i j : _} : QE X cls W (.Constant (.int i) j pos) (eC (.int i)) := q_c pe_int fun _ => .int i
theorem q_str {x j} : QE X cls W (.Constant (.str x) j pos) (eC (.str x)) := q_c pe_str fun _ => .str x
theorem q_bl {x j} : QE X cls W (.Constant (.bool x) j pos) (eC (.bl x)) := q_c pe_bl fun _ => .bl x
theorem q_non {j} : QE X cls W (.Constant .none j pos) (eC .non) := q_c pe_non fun _ => .non

theorem sim_bin {K : PySem.W.Frag} {ta tb : TE} {f g : M D} {r : R2} {op : D → D → Option D} (ha : SimE K cls W ta f) (hb : SimE K cls W tb g) (hr : Val2 K r op) : SimE K cls W (tOp r ta tb) (eBin op f g) := fun F ρ σ G H c Q w => by
  refine ha F ρ σ G H c _ ((wpR_bind w).mono (fun x ρ1 w1 v1 G1 H1 e1 c1 r1 => ?_) fun _ _ p => p)
  refine hb F ρ1 σ G1 H1 c1 _ ((wpR_bind w1).mono (fun y ρ2 w2 v2 G2 H2 e2 c2 r2 => ?_) fun _ _ p => p.mono e1)
  obtain ⟨z, ez, p⟩ := wpR_lift w2
  exact hr F G2 H2 σ ρ2 v1 v2 x y z c2 (r1.mono e2) r2 ez Q (p.mono (e1.trans e2))
theorem sim_binN {K : PySem.W.Frag} {ta tb : TE} {f g : M D} {r : R2} {op : D → D → Option D} (ha : SimE K cls W ta f) (hb : SimE K cls W tb g) (hr : New2 K r op) : SimN K cls W (tOp r ta tb) (eBin op f g) := fun F ρ σ G H c Q w => by
  refine ha F ρ σ G H c _ ((wpR_bind w).mono (fun x ρ1 w1 v1 G1 H1 e1 c1 r1 => ?_) fun _ _ p => p)
  refine hb F ρ1 σ G1 H1 c1 _ ((wpR_bind w1).mono (fun y ρ2 w2 v2 G2 H2 e2 c2 r2 => ?_) fun _ _ p => p.mono e1)
  obtain ⟨z, ez, p⟩ := wpR_lift w2
  exact hr F G2 H2 σ ρ2 v1 v2 x y z c2 (r1.mono e2) r2 ez Q (p.mono (e1.trans e2))
theorem inert_bin {op : D → D → Option D} {f g : M D} (hf : Inert f) (hg : Inert g) : Inert (eBin op f g) := inert_bind hf fun _ => inert_bind hg fun _ => inert_lift
theorem q_bin {op : Operator} {r : R2} {h : D → D → Option D} (ho : OpR X (binaryOp op) r) (hv : Val2 X.K r h) (ha : QE X cls W a f) (hb : QE X cls W b g) : QE X cls W (.BinOp a op b pos) (eBin h f g) := by
  obtain ⟨⟨ta, pa, sa⟩, ia⟩ := ha
  obtain ⟨⟨tb, pb, sb⟩, ib⟩ := hb
  exact ⟨⟨_, pe_op ho pa pb, sim_bin sa sb hv⟩, inert_bin ia ib⟩
theorem q_binN {op : Operator} {r : R2} {h : D → D → Option D} (ho : OpR X (binaryOp op) r) (hv : New2 X.K r h) (ha : QE X cls W a f) (hb : QE X cls W b g) : QN X cls W (.BinOp a op b pos) (eBin h f g) := by
  obtain ⟨⟨ta, pa, sa⟩, ia⟩ := ha
  obtain ⟨⟨tb, pb, sb⟩, ib⟩ := hb
  exact ⟨⟨_, pe_op ho pa pb, sim_binN sa sb hv⟩, inert_bin ia ib⟩
theorem q_cmp {op : CmpOp} {r : R2} {h : D → D → Option D} (ho : OpR X (compareOp op) r) (hv : Val2 X.K r h) (ha : QE X cls W a f) (hb : QE X cls W b g) (hm : behindInMarks op b = false) : QE X cls W (.Compare a [op] [b] pos) (eBin h f g) := by
  obtain ⟨⟨ta, pa, sa⟩, ia⟩ := ha
  obtain ⟨⟨tb, pb, sb⟩, ib⟩ := hb
  exact ⟨⟨_, pe_cmpR ho pa pb hm, sim_bin sa sb hv⟩, inert_bin ia ib⟩
theorem q_ix {r : R2} {h : D → D → Option D} (ho : IxR X r) (hv : Val2 X.K r h) (ha : QE X cls W a f) (hb : QE X cls W b g) (hs : PlainIx b) : QE X cls W (.Subscript a b pos) (eBin h f g) := by
  obtain ⟨⟨ta, pa, sa⟩, ia⟩ := ha
  obtain ⟨⟨tb, pb, sb⟩, ib⟩ := hb
  exact ⟨⟨_, pe_ix ho pa pb hs, sim_bin sa sb hv⟩, inert_bin ia ib⟩
theorem q_un {op : UnaryOp} {r : V → Hp → VK → Prop} {h : D → Option D} (ho : UnR X (unaryOp op) r) (hv : Val1 X.K r h) (ha : QE X cls W a f) : QE X cls W (.UnaryOp op a pos) (eUn h f) := by
  obtain ⟨⟨ta, pa, sa⟩, ia⟩ := ha
  refine ⟨⟨_, pe_un ho pa, fun F ρ σ G H c Q w => ?_⟩, inert_bind ia fun _ => inert_lift⟩
  refine sa F ρ σ G H c _ ((wpR_bind w).mono (fun x ρ1 w1 v1 G1 H1 e1 c1 r1 => ?_) fun _ _ p => p)
  obtain ⟨z, ez, p⟩ := wpR_lift w1
  exact hv F G1 H1 σ ρ1 v1 x z c1 r1 ez Q (p.mono e1)

/-! arguments -/
theorem qa_nil : QA X cls W [] aNil := ⟨⟨_, pa_nil, fun F ρ σ G H c Q w => w [] G H (Same.refl G) c .nil⟩, inert_pure⟩
theorem qa_cons {r : M (List D)} (ha : QE X cls W a f) (hr : QA X cls W es r) (hs : starEach (a :: es) X.env = (false, eval a X.env) :: starEach es X.env := by rfl) : QA X cls W (a :: es) (aCons f r) := by
  obtain ⟨⟨ta, pa, sa⟩, ia⟩ := ha
  obtain ⟨⟨tr, pr, sr⟩, ir⟩ := hr
  refine ⟨⟨_, pa_cons pa pr hs, fun F ρ σ G H c Q w => ?_⟩, inert_bind ia fun _ => inert_bind ir fun _ => inert_pure⟩
  refine sa F ρ σ G H c _ ((wpR_bind w).mono (fun x ρ1 w1 v1 G1 H1 e1 c1 r1 => ?_) fun _ _ p => p)
  refine sr F ρ1 σ G1 H1 c1 _ ((wpR_bind w1).mono (fun y ρ2 w2 v2 G2 H2 e2 c2 r2 => ?_) fun _ _ p => p.mono e1)
  exact w2 (v1 :: v2) G2 H2 (e1.trans e2) c2 (.cons (r1.mono e2) r2)
/-- a new tuple -/
theorem pok_lay {K : PySem.W.Frag} {F : Fm} {G H : Hp} {σ : St} {ρ : List Sl} {Q : VK} {ds : List D} {vs : List V} (c : CS K F G H σ ρ) (q : POk K F G σ Q (.tup ds) ρ) (r : RepL K G vs ds) : layT vs H Q := by
  cases hf : flat ds with
  | true =>
    refine .inl fun p hp => ?_
    have e2 : Ex G (upd G p (.tup vs)) := fun b x e => by
      rw [upd_ne (ne_of_none e (c.fresh hp).2.1)]
      exact e
    exact q _ _ _ e2 (c.alloc hp _) (.tup (.inl ⟨hf, upd_same⟩) (r.mono e2))
  | false =>
    refine .inr fun p o hp ho => ?_
    have e2 : Ex G (upd G p (.frz o (.tup vs))) := fun b x e => by
      rw [upd_ne (ne_of_none e (c.fresh hp).2.1)]
      exact e
    exact q _ _ _ e2 (c.alloc hp _) (.tup (.inr ⟨hf, o, upd_same, ho⟩) (r.mono e2))
theorem pok_flat {K : PySem.W.Frag} {F : Fm} {G H : Hp} {σ : St} {ρ : List Sl} {Q : VK} {ds : List D} {vs : List V} (hf : flat ds = true) (c : CS K F G H σ ρ) (q : POk K F G σ Q (.tup ds) ρ) (r : RepL K G vs ds) {p : Addr} (hp : H p = none) : Q (.ref p) (upd H p (.tup vs)) := by
  have e2 : Ex G (upd G p (.tup vs)) := fun b x e => by
    rw [upd_ne (ne_of_none e (c.fresh hp).2.1)]
    exact e
  exact q _ _ _ e2 (c.alloc hp _) (.tup (.inl ⟨hf, upd_same⟩) (r.mono e2))
theorem q_tup {r : M (List D)} {x1} (ha : QA X cls W es r) : QE X cls W (.Tuple es x1 pos) (eTup r) := by
  obtain ⟨⟨ta, pa, sa⟩, ia⟩ := ha
  refine ⟨⟨_, pe_tupL pa, fun F ρ σ G H c Q w => ?_⟩, inert_bind ia fun _ => inert_lift⟩
  refine sa F ρ σ G H c _ ((wpR_bind w).mono (fun xs ρ1 w1 v1 G1 H1 e1 c1 r1 => ?_) fun _ _ p => p)
  obtain ⟨z, ez, p⟩ := wpR_lift w1
  split at ez
  · rename_i hl
    cases ez
    exact ⟨by rw [r1.length]; exact sz_of hl, pok_lay c1 (p.mono e1) r1⟩
  · cases ez
theorem q_lst {r : M (List D)} (ha : QA X cls W es r) : QN X cls W (.List es pos) (eLst r) := by
  obtain ⟨⟨ta, pa, sa⟩, ia⟩ := ha
  refine ⟨⟨_, pe_lst pa, fun F ρ σ G H c Q w => ?_⟩, inert_bind ia fun _ => inert_lift⟩
  refine sa F ρ σ G H c _ ((wpR_bind w).mono (fun xs ρ1 w1 v1 G1 H1 e1 c1 r1 => ?_) fun _ _ p => p)
  obtain ⟨z, ez, p⟩ := wpR_lift w1
  split at ez
  · rename_i hl
    cases ez
    refine ⟨by rw [r1.length]; exact sz_of hl, fun q hq => ?_⟩
    obtain ⟨c2, f2⟩ := fr_new c1 hq (o := .lst v1) (d := .lst xs) ⟨v1, upd_same, r1⟩
    exact p _ _ _ e1 c2 f2
  · cases ez
/-- a call of a built-in: hp from pe_callB, pe_callTy -/
theorem q_fn {e' : Expr} {r : List V → Hp → VK → Prop} {h : List D → Option D} {fa : M (List D)} (hp : ∀ ta, PA X es ta → PE X e' (tCB r ta)) (hv : ValA X.K r h) (ha : QA X cls W es fa) : QE X cls W e' (eFn h fa) := by
  obtain ⟨⟨ta, pa, sa⟩, ia⟩ := ha
  refine ⟨⟨_, hp _ pa, fun F ρ σ G H c Q w => ?_⟩, inert_bind ia fun _ => inert_lift⟩
  refine sa F ρ σ G H c _ ((wpR_bind w).mono (fun xs ρ1 w1 v1 G1 H1 e1 c1 r1 => ?_) fun _ _ p => p)
  obtain ⟨z, ez, p⟩ := wpR_lift w1
  exact hv F G1 H1 σ ρ1 v1 xs z c1 r1 ez Q (p.mono e1)
theorem q_fnN {e' : Expr} {r : List V → Hp → VK → Prop} {h : List D → Option D} {fa : M (List D)} (hp : ∀ ta, PA X es ta → PE X e' (tCB r ta)) (hv : NewA X.K r h) (ha : QA X cls W es fa) : QN X cls W e' (eFn h fa) := by
  obtain ⟨⟨ta, pa, sa⟩, ia⟩ := ha
  refine ⟨⟨_, hp _ pa, fun F ρ σ G H c Q w => ?_⟩, inert_bind ia fun _ => inert_lift⟩
  refine sa F ρ σ G H c _ ((wpR_bind w).mono (fun xs ρ1 w1 v1 G1 H1 e1 c1 r1 => ?_) fun _ _ p => p)
  obtain ⟨z, ez, p⟩ := wpR_lift w1
  exact hv F G1 H1 σ ρ1 v1 xs z c1 r1 ez Q (p.mono e1)

/-! tests -/
def asB (d : D) : Option Bool := match d with | .bl b => some b | _ => none
def tVal (a : M D) : M Bool := mbind a fun x => lift (asB x)
def mAnd (a b : M Bool) : M Bool := mbind a fun x => if x then b else mpure false
def mOr (a b : M Bool) : M Bool := mbind a fun x => if x then mpure true else b
def mNot (a : M Bool) : M Bool := mbind a fun x => mpure (!x)
def eB (a : M Bool) : M D := mbind a fun x => mpure (.bl x)
theorem asB_some {d : D} {b : Bool} (h : asB d = some b) : d = .bl b := by
  cases d <;> first | (cases h; rfl) | cases h
theorem q_tval (ha : QE X cls W a f) (he : ∀ whole, isTrue a X.env whole = (do let v ← whole; standAt a.pos; holding [v] (truthy v)) := by intro _; rfl) : QT X cls W a (tVal f) := by
  obtain ⟨⟨ta, pa, sa⟩, ia⟩ := ha
  refine ⟨⟨_, pt_val pa he, fun F ρ σ G H c Q w => ?_⟩, inert_bind ia fun _ => inert_lift⟩
  refine sa F ρ σ G H c _ ((wpR_bind w).mono (fun x ρ1 w1 v1 G1 H1 e1 c1 r1 => ?_) fun _ _ p => p)
  obtain ⟨z, ez, p⟩ := wpR_lift w1
  have := asB_some ez
  subst this
  cases r1
  exact ⟨z, rfl, p _ _ e1 c1⟩
theorem q_tcmp {op : CmpOp} {r : R2} {h : D → D → Option D} (ho : OpR X (compareOp op) r) (hv : Val2 X.K r h) (ha : QE X cls W a f) (hb : QE X cls W b g) (hm : behindInMarks op b = false) : QT X cls W (.Compare a [op] [b] pos) (tVal (eBin h f g)) := by
  obtain ⟨⟨ta, pa, sa⟩, ia⟩ := ha
  obtain ⟨⟨tb, pb, sb⟩, ib⟩ := hb
  refine ⟨⟨_, pt_cmpR ho pa pb hm, fun F ρ σ G H c Q w => ?_⟩, inert_bind (inert_bin ia ib) fun _ => inert_lift⟩
  refine sim_bin sa sb hv F ρ σ G H c _ ((wpR_bind w).mono (fun x ρ1 w1 v1 G1 H1 e1 c1 r1 => ?_) fun _ _ p => p)
  obtain ⟨z, ez, p⟩ := wpR_lift w1
  have := asB_some ez
  subst this
  cases r1
  exact ⟨z, rfl, p _ _ e1 c1⟩
variable {tf tg : M Bool} {rest : List Expr}
theorem sim_and {K : PySem.W.Frag} {t u : TT} (ha : SimT K cls W t tf) (hb : SimT K cls W u tg) : SimT K cls W (tAnd t u) (mAnd tf tg) := fun F ρ σ G H c Q w => by
  refine ha F ρ σ G H c _ ((wpR_bind w).mono (fun x ρ1 w1 G1 H1 e1 c1 => ?_) fun _ _ p => p)
  cases x with
  | true =>
    show u σ H1 Q
    exact hb F ρ1 σ G1 H1 c1 Q (w1.mono (fun _ _ p => p.mono e1) fun _ _ p => p.mono e1)
  | false => exact w1 G1 H1 e1 c1
theorem sim_or {K : PySem.W.Frag} {t u : TT} (ha : SimT K cls W t tf) (hb : SimT K cls W u tg) : SimT K cls W (tOr t u) (mOr tf tg) := fun F ρ σ G H c Q w => by
  refine ha F ρ σ G H c _ ((wpR_bind w).mono (fun x ρ1 w1 G1 H1 e1 c1 => ?_) fun _ _ p => p)
  cases x with
  | false =>
    show u σ H1 Q
    exact hb F ρ1 σ G1 H1 c1 Q (w1.mono (fun _ _ p => p.mono e1) fun _ _ p => p.mono e1)
  | true => exact w1 G1 H1 e1 c1
theorem inert_and (h1 : Inert tf) (h2 : Inert tg) : Inert (mAnd tf tg) := inert_bind h1 fun x => by
  cases x
  · exact inert_pure
  · exact h2
theorem inert_or (h1 : Inert tf) (h2 : Inert tg) : Inert (mOr tf tg) := inert_bind h1 fun x => by
  cases x
  · exact h2
  · exact inert_pure
theorem QW.qt (h : QW X cls W e tf) : QT X cls W e tf := ⟨let ⟨t, p, s⟩ := h.sim; ⟨t, p.pt, s⟩, h.inert⟩
theorem qw_and1 (ha : QT X cls W a tf) : QW X cls W (.BoolOp .And [a] pos) tf := ⟨let ⟨t, p, s⟩ := ha.sim; ⟨t, pw_and1 p, s⟩, ha.inert⟩
theorem qw_or1 (ha : QT X cls W a tf) : QW X cls W (.BoolOp .Or [a] pos) tf := ⟨let ⟨t, p, s⟩ := ha.sim; ⟨t, pw_or1 p, s⟩, ha.inert⟩
theorem qw_and (ha : QT X cls W a tf) (hb : QW X cls W (.BoolOp .And (b :: rest) pos) tg) : QW X cls W (.BoolOp .And (a :: b :: rest) pos) (mAnd tf tg) :=
  ⟨let ⟨t, p, s⟩ := ha.sim; let ⟨u, q, z⟩ := hb.sim; ⟨_, pw_and p q, sim_and s z⟩, inert_and ha.inert hb.inert⟩
theorem qw_or (ha : QT X cls W a tf) (hb : QW X cls W (.BoolOp .Or (b :: rest) pos) tg) : QW X cls W (.BoolOp .Or (a :: b :: rest) pos) (mOr tf tg) :=
  ⟨let ⟨t, p, s⟩ := ha.sim; let ⟨u, q, z⟩ := hb.sim; ⟨_, pw_or p q, sim_or s z⟩, inert_or ha.inert hb.inert⟩
theorem q_tnot (ha : QT X cls W a tf) : QT X cls W (.UnaryOp .Not a pos) (mNot tf) := by
  obtain ⟨⟨t, p, s⟩, i⟩ := ha
  refine ⟨⟨_, pt_not p, fun F ρ σ G H c Q w => ?_⟩, inert_bind i fun _ => inert_pure⟩
  exact s F ρ σ G H c _ ((wpR_bind w).mono (fun x ρ1 w1 G1 H1 e1 c1 => w1 G1 H1 e1 c1) fun _ _ p => p)

/-! bools as values -/
theorem sim_eB {K : PySem.W.Frag} {te : TE} {f : M D} (h : SimE K cls W te f) : ∀ F ρ σ G H, CS K F G H σ ρ → ∀ Q : Bool → Hp → Prop, wpR (tVal f ρ) (PTt K F G σ Q) (PEx K cls W F G σ) → te σ H fun x H1 => ∃ c, x = .bl c ∧ Q c H1 := fun F ρ σ G H c Q w => by
  refine h F ρ σ G H c _ ((wpR_bind w).mono (fun x ρ1 w1 v1 G1 H1 e1 c1 r1 => ?_) fun _ _ p => p)
  obtain ⟨z, ez, p⟩ := wpR_lift w1
  have := asB_some ez
  subst this
  cases r1
  exact ⟨z, rfl, p _ _ e1 c1⟩
theorem q_one {op : BoolOp} (ha : QE X cls W a f) : QE X cls W (.BoolOp op [a] pos) f := ⟨let ⟨t, p, s⟩ := ha.sim; ⟨t, pe_one p, s⟩, ha.inert⟩
def eAnd (a b : M D) : M D := mbind (tVal a) fun x => if x then b else mpure (.bl false)
def eOr (a b : M D) : M D := mbind (tVal a) fun x => if x then mpure (.bl true) else b
def eNot (a : M D) : M D := mbind (tVal a) fun x => mpure (.bl (!x))
theorem inert_tval (h : Inert f) : Inert (tVal f) := inert_bind h fun _ => inert_lift
theorem q_and (ha : QE X cls W a f) (hb : QE X cls W (.BoolOp .And (b :: rest) pos) g) : QE X cls W (.BoolOp .And (a :: b :: rest) pos) (eAnd f g) := by
  obtain ⟨⟨ta, pa, sa⟩, ia⟩ := ha
  obtain ⟨⟨tb, pb, sb⟩, ib⟩ := hb
  refine ⟨⟨_, pe_and pa pb, fun F ρ σ G H c Q w => ?_⟩, inert_bind (inert_tval ia) fun x => by cases x; exact inert_pure; exact ib⟩
  refine sim_eB sa F ρ σ G H c (fun c H1 => if c = true then tb σ H1 Q else Q (.bl false) H1) ((wpR_bind w).mono (fun x ρ1 w1 G1 H1 e1 c1 => ?_) fun _ _ p => p)
  cases x with
  | true => exact sb F ρ1 σ G1 H1 c1 Q (w1.mono (fun _ _ p => p.mono e1) fun _ _ p => p.mono e1)
  | false => exact w1 _ G1 H1 e1 c1 (.bl false)
theorem q_or (ha : QE X cls W a f) (hb : QE X cls W (.BoolOp .Or (b :: rest) pos) g) : QE X cls W (.BoolOp .Or (a :: b :: rest) pos) (eOr f g) := by
  obtain ⟨⟨ta, pa, sa⟩, ia⟩ := ha
  obtain ⟨⟨tb, pb, sb⟩, ib⟩ := hb
  refine ⟨⟨_, pe_or pa pb, fun F ρ σ G H c Q w => ?_⟩, inert_bind (inert_tval ia) fun x => by cases x; exact ib; exact inert_pure⟩
  refine sim_eB sa F ρ σ G H c (fun c H1 => if c = true then Q (.bl true) H1 else tb σ H1 Q) ((wpR_bind w).mono (fun x ρ1 w1 G1 H1 e1 c1 => ?_) fun _ _ p => p)
  cases x with
  | false => exact sb F ρ1 σ G1 H1 c1 Q (w1.mono (fun _ _ p => p.mono e1) fun _ _ p => p.mono e1)
  | true => exact w1 _ G1 H1 e1 c1 (.bl true)
theorem q_not (ha : QE X cls W a f) : QE X cls W (.UnaryOp .Not a pos) (eNot f) := by
  obtain ⟨⟨ta, pa, sa⟩, ia⟩ := ha
  refine ⟨⟨_, pe_not pa, fun F ρ σ G H c Q w => ?_⟩, inert_bind (inert_tval ia) fun x => inert_pure⟩
  exact sim_eB sa F ρ σ G H c (fun c H1 => Q (.bl (!c)) H1) ((wpR_bind w).mono (fun x ρ1 w1 G1 H1 e1 c1 => w1 _ G1 H1 e1 c1 (.bl _)) fun _ _ p => p)
/-- a < b < c -/
def eChain (h h' : D → D → Option D) (a b c : M D) : M D := mbind a fun x => mbind b fun y => mbind (lift (h x y)) fun z => mbind (lift (asB z)) fun k => if k then mbind c fun u => lift (h' y u) else mpure (.bl false)
theorem q_chain {op op' : CmpOp} {r r' : R2} {h h' : D → D → Option D} {c : Expr} {k : M D} (ho : OpR X (compareOp op) r) (ho' : OpR X (compareOp op') r') (hv : Val2 X.K r h) (hv' : Val2 X.K r' h') (ha : QE X cls W a f) (hb : QE X cls W b g) (hc : QE X cls W c k) (hm : lastMarks [op, op'] [b, c] = false := by rfl) :
    QE X cls W (.Compare a [op, op'] [b, c] pos) (eChain h h' f g k) := by
  obtain ⟨⟨ta, pa, sa⟩, ia⟩ := ha
  obtain ⟨⟨tb, pb, sb⟩, ib⟩ := hb
  obtain ⟨⟨tc, pc, sc⟩, ic⟩ := hc
  refine ⟨⟨_, pe_chain ho ho' pa pb pc hm, fun F ρ σ G H c Q w => ?_⟩, inert_bind ia fun _ => inert_bind ib fun _ => inert_bind inert_lift fun _ => inert_bind inert_lift fun z => by cases z; exact inert_pure; exact inert_bind ic fun _ => inert_lift⟩
  refine sa F ρ σ G H c _ ((wpR_bind w).mono (fun x ρ1 w1 v1 G1 H1 e1 c1 r1 => ?_) fun _ _ p => p)
  refine sb F ρ1 σ G1 H1 c1 _ ((wpR_bind w1).mono (fun y ρ2 w2 v2 G2 H2 e2 c2 r2 => ?_) fun _ _ p => p.mono e1)
  obtain ⟨z, ez, p⟩ := wpR_lift (wpR_bind w2)
  obtain ⟨kk, ek, p⟩ := wpR_lift (wpR_bind p)
  have := asB_some ek
  subst this
  refine hv F G2 H2 σ ρ2 v1 v2 x y _ c2 (r1.mono e2) r2 ez _ fun v3 G3 H3 e3 c3 r3 => ?_
  cases r3
  refine ⟨kk, rfl, ?_⟩
  cases kk with
  | false => exact p _ G3 H3 ((e1.trans e2).trans e3) c3 (.bl false)
  | true =>
    have p : wpR (mbind k (fun u => lift (h' y u)) ρ2) (POk X.K F G σ Q) (PEx X.K cls W F G σ) := p
    refine sc F ρ2 σ G3 H3 c3 _ ((wpR_bind p).mono (fun u ρ4 w4 v4 G4 H4 e4 c4 r4 => ?_) fun _ _ p => p.mono ((e1.trans e2).trans e3))
    obtain ⟨q, eq, pp⟩ := wpR_lift w4
    exact hv' F G4 H4 σ ρ4 v2 v4 y u q c4 (r2.mono (e3.trans e4)) r4 eq Q (pp.mono (((e1.trans e2).trans e3).trans e4))
end
end NT

set_option Elab.async false
set_option linter.all false
set_option maxRecDepth 100000
set_option maxHeartbeats 4000000
namespace NT
open PySem L2

/-! ### states: storing, writing, protecting -/
section
variable {K : PySem.W.Frag} {F : Fm} {G H : Hp} {σ : St} {ρ : List Sl}
theorem get_set_cases {α : Type} {l : List α} {i j : Nat} {a b : α} (h : (l.set i a)[j]? = some b) : (i = j ∧ a = b ∧ i < l.length) ∨ (i ≠ j ∧ l[j]? = some b) := by
  by_cases e : i = j
  · subst e
    by_cases hl : i < l.length
    · rw [List.getElem?_set_self hl] at h
      exact .inl ⟨rfl, Option.some.inj h, hl⟩
    · rw [List.getElem?_eq_none (by simpa using hl)] at h
      cases h
  · rw [List.getElem?_set_ne e] at h
    exact .inr ⟨e, h⟩
def notBor : Option Sl → Bool
  | some (.bor _) => false
  | some _ => true
  | none => false
theorem notBor_some {s : Option Sl} (h : notBor s = true) : ∃ t, s = some t ∧ ∀ d, t ≠ .bor d := by
  cases s with
  | none => cases h
  | some t =>
    refine ⟨t, rfl, fun d e => ?_⟩
    subst e
    cases h
theorem CS.setAny (c : CS K F G H σ ρ) {i : Nat} (hb : notBor ρ[i]? = true) {v : V} {s : Sl}
    (hv : ∀ d, s = .val d → Rep K G v d) (ho : ∀ d, s = .own d → ∃ l, v = .ref l ∧ Fr K F G H σ ρ l d) (hbr : ∀ d, s ≠ .bor d) : CS K F G H (σ.set i (some v)) (ρ.set i s) := by
  obtain ⟨t, et, nb⟩ := notBor_some hb
  have hi : i < ρ.length := (List.getElem?_eq_some_iff.mp et).1
  have hi' : i < σ.length := by rw [c.len]; exact hi
  refine ⟨c.ex, c.g0, c.fr, c.gn, by simpa using c.len, fun j d e => ?_, fun j d e => ?_, fun j d e => ?_, fun j l e => ?_, fun j k s1 s2 d1 d2 l hjk e1 m1 e2 m2 v1 v2 => ?_⟩
  · rcases get_set_cases e with ⟨rfl, e1, _⟩ | ⟨ne, e1⟩
    · exact ⟨v, List.getElem?_set_self hi', hv d e1⟩
    · rw [List.getElem?_set_ne ne]
      exact c.vals j d e1
  · rcases get_set_cases e with ⟨rfl, e1, _⟩ | ⟨ne, e1⟩
    · obtain ⟨l, rfl, f⟩ := ho d e1
      exact ⟨l, List.getElem?_set_self hi', f.obj, f.g, f.h0⟩
    · rw [List.getElem?_set_ne ne]
      exact c.owns j d e1
  · rcases get_set_cases e with ⟨rfl, e1, _⟩ | ⟨ne, e1⟩
    · exact (hbr d e1).elim
    · rw [List.getElem?_set_ne ne]
      exact c.bors j d e1
  · obtain ⟨d, h1, h2⟩ := c.bb j l e
    have ne : i ≠ j := fun z => by
      subst z
      rw [et] at h1
      cases h1
      exact nb d rfl
    exact ⟨d, by rw [List.getElem?_set_ne ne]; exact h1, by rw [List.getElem?_set_ne ne]; exact h2⟩
  · rcases get_set_cases e1 with ⟨rfl, a1, _⟩ | ⟨n1, a1⟩
    · rcases get_set_cases e2 with ⟨rfl, a2, _⟩ | ⟨n2, a2⟩
      · exact hjk rfl
      · rw [List.getElem?_set_ne n2] at v2
        rw [List.getElem?_set_self hi'] at v1
        cases v1
        subst a1
        cases s with
        | own d =>
          obtain ⟨l', e', f⟩ := ho d rfl
          cases e'
          exact f.nm k s2 d2 a2 m2 v2
        | bor d => exact hbr d rfl
        | no => cases m1
        | val d => cases m1
    · rw [List.getElem?_set_ne n1] at v1
      rcases get_set_cases e2 with ⟨rfl, a2, _⟩ | ⟨n2, a2⟩
      · rw [List.getElem?_set_self hi'] at v2
        cases v2
        subst a2
        cases s with
        | own d =>
          obtain ⟨l', e', f⟩ := ho d rfl
          cases e'
          exact f.nm j s1 d1 a1 m1 v1
        | bor d => exact hbr d rfl
        | no => cases m2
        | val d => cases m2
      · rw [List.getElem?_set_ne n2] at v2
        exact c.sep j k s1 s2 d1 d2 l hjk a1 m1 a2 m2 v1 v2
theorem CS.setVal (c : CS K F G H σ ρ) {i : Nat} (hb : notBor ρ[i]? = true) {v : V} {d : D} (r : Rep K G v d) : CS K F G H (σ.set i (some v)) (ρ.set i (.val d)) :=
  c.setAny hb (fun e h => by cases h; exact r) (fun e h => by cases h) (fun e h => by cases h)
theorem CS.setOwn (c : CS K F G H σ ρ) {i : Nat} (hb : notBor ρ[i]? = true) {l : Addr} {d : D} (r : Fr K F G H σ ρ l d) : CS K F G H (σ.set i (some (.ref l))) (ρ.set i (.own d)) :=
  c.setAny hb (fun e h => by cases h) (fun e h => by cases h; exact ⟨l, rfl, r⟩) (fun e h => by cases h)

/-- an owned object with another content -/
def Sl.with : Sl → D → Sl
  | .own _, d => .own d
  | .bor _, d => .bor d
  | s, _ => s
theorem CS.write (c : CS K F G H σ ρ) {i : Nat} {s : Sl} {d d' : D} {l : Addr} {o : HO} (h : ρ[i]? = some s) (hm : s.mine = some d) (hl : σ[i]? = some (some (.ref l))) (ho : Obj K G (upd H l o) l d') : CS K F G (upd H l o) σ (ρ.set i (s.with d')) := by
  obtain ⟨l', e1, o1, g1, f1⟩ := c.mine h hm
  rw [hl] at e1
  cases e1
  have hi : i < ρ.length := (List.getElem?_eq_some_iff.mp h).1
  have other : ∀ {j : Nat} {t : Sl} {e : D} {k : Addr}, i ≠ j → ρ[j]? = some t → t.mine = some e → σ[j]? = some (some (.ref k)) → k ≠ l := fun {j t e k} ne h1 h2 h3 z => by
    subst z
    exact c.sep i j s t d e k ne h hm h1 h2 hl h3
  refine ⟨fun b x e => ?_, c.g0, fun b x e hb => ?_, c.gn, by simpa using c.len, fun j d e => ?_, fun j d e => ?_, fun j d e => ?_, fun j k e => ?_, fun j k s1 s2 d1 d2 l hjk e1 m1 e2 m2 v1 v2 => ?_⟩
  · rw [upd_ne (ne_of_none e g1)]
    exact c.ex _ _ e
  · have ne : b ≠ l := fun z => by
      subst z
      rcases f1 with z | z
      · rw [z] at e; cases e
      · exact hb _ z
    rw [upd_ne ne]
    exact c.fr b x e hb
  · rcases get_set_cases e with ⟨rfl, e1, _⟩ | ⟨ne, e1⟩
    · cases s with
      | own x => exact nomatch (show Sl.own d' = Sl.val d from e1)
      | bor x => exact nomatch (show Sl.bor d' = Sl.val d from e1)
      | no => cases hm
      | val x => cases hm
    · exact c.vals j d e1
  · rcases get_set_cases e with ⟨rfl, e1, _⟩ | ⟨ne, e1⟩
    · cases s with
      | own x =>
        cases e1
        obtain ⟨l2, a, b, x, y⟩ := c.owns i _ h
        rw [hl] at a
        cases a
        exact ⟨l, hl, ho, g1, y⟩
      | bor x => cases e1
      | no => cases hm
      | val x => cases hm
    · obtain ⟨l2, a, b, x, y⟩ := c.owns j d e1
      have ne2 : l2 ≠ l := other ne e1 rfl a
      exact ⟨l2, a, b.mono (Ex.ext (Same.refl G)) (upd_ne ne2), x, y⟩
  · rcases get_set_cases e with ⟨rfl, e1, _⟩ | ⟨ne, e1⟩
    · cases s with
      | bor x =>
        cases e1
        obtain ⟨l2, a, b, x, y⟩ := c.bors i _ h
        rw [hl] at a
        cases a
        exact ⟨l, hl, ho, g1, y⟩
      | own x => cases e1
      | no => cases hm
      | val x => cases hm
    · obtain ⟨l2, a, b, x, y⟩ := c.bors j d e1
      have ne2 : l2 ≠ l := other ne e1 rfl a
      exact ⟨l2, a, b.mono (Ex.ext (Same.refl G)) (upd_ne ne2), x, y⟩
  · obtain ⟨d1, h1, h2⟩ := c.bb j k e
    by_cases ne : i = j
    · subst ne
      rw [h] at h1
      cases h1
      exact ⟨d', by rw [List.getElem?_set_self hi]; rfl, h2⟩
    · exact ⟨d1, by rw [List.getElem?_set_ne ne]; exact h1, h2⟩
  · have back : ∀ {j : Nat} {t : Sl} {e : D}, (ρ.set i (s.with d'))[j]? = some t → t.mine = some e → ∃ t' e', ρ[j]? = some t' ∧ t'.mine = some e' := fun {j t e} h1 h2 => by
      rcases get_set_cases h1 with ⟨rfl, _, _⟩ | ⟨_, h1⟩
      · exact ⟨s, d, h, hm⟩
      · exact ⟨t, e, h1, h2⟩
    obtain ⟨t1, x1, a1, b1⟩ := back e1 m1
    obtain ⟨t2, x2, a2, b2⟩ := back e2 m2
    exact c.sep j k t1 t2 x1 x2 l hjk a1 b1 a2 b2 v1 v2

/-- an object that no slot has is kept as it is -/
def Fm.with (F : Fm) (p : Addr) (o : HO) : Fm := ⟨upd F.H0 p o, F.G0, F.B⟩
theorem CS.protect (c : CS K F G H σ ρ) {p : Addr} {o : HO} (hp : H p = some o) (hg : G p = none) (hn : ∀ (i : Nat) s e, ρ[i]? = some s → s.mine = some e → σ[i]? ≠ some (some (.ref p))) : CS K (F.with p o) G H σ ρ := by
  refine ⟨c.ex, c.g0, fun b x e hb => ?_, fun b e1 e2 => ?_, c.len, c.vals, fun i d e => ?_, c.bors, c.bb, c.sep⟩
  · by_cases z : b = p
    · subst z
      have e : upd F.H0 b o b = some x := e
      rw [upd_same] at e
      rw [← e]
      exact hp
    · have e : upd F.H0 p o b = some x := e
      rw [upd_ne z] at e
      exact c.fr b x e hb
  · show upd F.H0 p o b = none
    have z : b ≠ p := fun z => by
      subst z
      exact e2 hg
    rw [upd_ne z]
    exact c.gn b e1 e2
  · obtain ⟨l, a, b, x, y⟩ := c.owns i d e
    refine ⟨l, a, b, x, ?_⟩
    show upd F.H0 p o l = none
    have z : l ≠ p := fun z => by
      subst z
      exact hn i _ d e rfl a
    rw [upd_ne z]
    exact y
theorem CS.unprotect {p : Addr} {o : HO} (c : CS K (F.with p o) G H σ ρ) (h0 : F.H0 p = none) (hg0 : F.G0 p = none) (hb : ∀ i, (i, p) ∉ F.B) : CS K F G H σ ρ ∧ H p = some o ∧ G p = none ∧ ∀ (i : Nat) s e, ρ[i]? = some s → s.mine = some e → σ[i]? ≠ some (some (.ref p)) := by
  have hH : H p = some o := c.fr p o (show upd F.H0 p o p = some o from upd_same) hb
  have hG : G p = none := by
    cases q : G p with
    | none => rfl
    | some x =>
      have z := c.gn p hg0 (by rw [q]; exact fun z => by cases z)
      have z : upd F.H0 p o p = none := z
      rw [upd_same] at z
      cases z
  refine ⟨⟨c.ex, c.g0, fun b x e hb => ?_, fun b e1 e2 => ?_, c.len, c.vals, fun i d e => ?_, c.bors, c.bb, c.sep⟩, hH, hG, fun i s e h1 h2 h3 => ?_⟩
  · have ne : b ≠ p := ne_of_none e h0
    exact c.fr b x (show upd F.H0 p o b = some x by rw [upd_ne ne]; exact e) hb
  · have ne : b ≠ p := fun z => by
      subst z
      exact e2 hG
    have z := c.gn b e1 e2
    have z : upd F.H0 p o b = none := z
    rw [upd_ne ne] at z
    exact z
  · obtain ⟨l, a, b, x, y⟩ := c.owns i d e
    have y : upd F.H0 p o l = none := y
    have ne : l ≠ p := fun z => by
      subst z
      rw [upd_same] at y
      cases y
    rw [upd_ne ne] at y
    exact ⟨l, a, b, x, y⟩
  · cases s with
    | own d =>
      obtain ⟨l, a, b, x, y⟩ := c.owns i d h1
      rw [h3] at a
      cases a
      have y : upd F.H0 p o p = none := y
      rw [upd_same] at y
      cases y
    | bor d =>
      obtain ⟨l, a, b, x, y⟩ := c.bors i d h1
      rw [h3] at a
      cases a
      exact hb i y
    | no => cases h2
    | val d => cases h2
end

/-! ### statements -/
inductive O where
  | nx (ρ : List Sl) | rt (d : D) (ρ : List Sl) | rtN (d : D) (ρ : List Sl) | ex (c : Nat) (ρ : List Sl) | bad
abbrev MS := List Sl → O
def PO (K : PySem.W.Frag) (cls : Nat → Value) (W : WX) (F : Fm) (G : Hp) (E : Ends) : O → Prop
  | .nx ρ' => ∀ σ' G' H', Ex G G' → CS K F G' H' σ' ρ' → E.nx σ' H'
  | .rt d ρ' => ∀ v σ' G' H', Ex G G' → CS K F G' H' σ' ρ' → Rep K G' v d → E.rt v H'
  | .rtN d ρ' => ∀ l σ' G' H', Ex G G' → CS K F G' H' σ' ρ' → Fr K F G' H' σ' ρ' l d → E.rt (.ref l) H'
  | .ex c ρ' => ∀ σ' G' H', Ex G G' → CS K F G' H' σ' ρ' → W (cls c) none σ' H'
  | .bad => False
def SimS (K : PySem.W.Frag) (cls : Nat → Value) (W : WX) (t : TS) (f : MS) : Prop := ∀ F ρ σ G H, CS K F G H σ ρ → ∀ E : Ends, PO K cls W F G E (f ρ) → t E σ H
theorem PO.mono {K : PySem.W.Frag} {cls : Nat → Value} {W : WX} {F : Fm} {G G1 : Hp} {E : Ends} (e : Ex G G1) {o : O} (h : PO K cls W F G E o) : PO K cls W F G1 E o := by
  cases o with
  | nx ρ => exact fun σ' G' H' e1 c => h σ' G' H' (e.trans e1) c
  | rt d ρ => exact fun v σ' G' H' e1 c r => h v σ' G' H' (e.trans e1) c r
  | rtN d ρ => exact fun v σ' G' H' e1 c r => h v σ' G' H' (e.trans e1) c r
  | ex c ρ => exact fun σ' G' H' e1 c => h σ' G' H' (e.trans e1) c
  | bad => exact h
/-- another next -/
theorem PO.ends {K : PySem.W.Frag} {cls : Nat → Value} {W : WX} {F : Fm} {G : Hp} {E E' : Ends} {o : O} (h : PO K cls W F G E o) (hr : E'.rt = E.rt) (hn : ∀ ρ', o = .nx ρ' → ∀ σ' G' H', Ex G G' → CS K F G' H' σ' ρ' → E'.nx σ' H') : PO K cls W F G E' o := by
  cases o with
  | nx ρ => exact hn ρ rfl
  | rt d ρ => show ∀ v σ' G' H', _ → _ → _ → E'.rt v H'; rw [hr]; exact h
  | rtN d ρ => show ∀ v σ' G' H', _ → _ → _ → E'.rt (.ref v) H'; rw [hr]; exact h
  | ex c ρ => exact h
  | bad => exact h
structure QS (X : Cx) (cls : Nat → Value) (W : WX) (st : Stmt) (f : MS) : Prop where
  sim : ∃ t, PS X st t ∧ SimS X.K cls W t f
structure QB (X : Cx) (cls : Nat → Value) (W : WX) (st : List Stmt) (f : MS) : Prop where
  sim : ∃ t, PSs X st t ∧ SimS X.K cls W t f

def sSkip : MS := fun ρ => .nx ρ
def sSeq (f g : MS) : MS := fun ρ => match f ρ with
  | .nx ρ' => g ρ'
  | o => o
/-- behind an expression -/
def sDo {α : Type} (f : M α) (k : α → MS) : MS := fun ρ => match f ρ with
  | .ok a ρ' => k a ρ'
  | .ex c ρ' => .ex c ρ'
  | .bad => .bad
def put (i : Nat) (s : Sl) : MS := fun ρ => if notBor ρ[i]? then .nx (ρ.set i s) else .bad
def sSet (i : Nat) (f : M D) : MS := sDo f fun d => put i (.val d)
def sSetN (i : Nat) (f : M D) : MS := sDo f fun d => put i (.own d)
def sRet (f : M D) : MS := sDo f fun d => fun ρ => .rt d ρ
def sRetN (f : M D) : MS := sDo f fun d => fun ρ => .rtN d ρ
def sExpr (f : M D) : MS := sDo f fun _ => sSkip
def sIf (c : M Bool) (f g : MS) : MS := sDo c fun b => if b then f else g
/-- return of an owned slot -/
def sRetO (i : Nat) : MS := fun ρ => match ρ[i]? with
  | some (.own d) => .rtN d (ρ.set i .no)
  | _ => .bad
/-- an owned slot is frozen -/
def sFz (i : Nat) : MS := fun ρ => match ρ[i]? with
  | some (.own d) => .nx (ρ.set i (.val d))
  | some (.val d) => .nx ρ
  | _ => .bad

section
variable {X : Cx} {cls : Nat → Value} {W : WX} {e a b : Expr} {es : List Expr} {f g : M D} {pos : Pos} {sf sg : MS} {st : Stmt} {sts : List Stmt}
theorem sim_seq {K : PySem.W.Frag} {t u : TS} (ha : SimS K cls W t sf) (hb : SimS K cls W u sg) : SimS K cls W (tSeq t u) (sSeq sf sg) := fun F ρ σ G H c E w => by
  refine ha F ρ σ G H c { E with nx := u E } ?_
  unfold sSeq at w
  cases q : sf ρ with
  | nx ρ' =>
    rw [q] at w
    exact fun σ' G' H' e1 c1 => hb F ρ' σ' G' H' c1 E (w.mono e1)
  | rt d ρ' => rw [q] at w; exact w
  | rtN d ρ' => rw [q] at w; exact w
  | ex c ρ' => rw [q] at w; exact w
  | bad => rw [q] at w; exact w
theorem sDo_wp {K : PySem.W.Frag} {F : Fm} {G : Hp} {σ : St} {E : Ends} {α : Type} {f : M α} {k : α → MS} {ρ : List Sl} {P : α → List Sl → Prop} (w : PO K cls W F G E (sDo f k ρ)) (h : ∀ a ρ', PO K cls W F G E (k a ρ') → P a ρ') : wpR (f ρ) P (PEx K cls W F G σ) := by
  unfold sDo at w
  cases q : f ρ with
  | ok a ρ' => rw [q] at w; exact h a ρ' w
  | ex c ρ' => rw [q] at w; exact fun G' H' e c => w σ G' H' e c
  | bad => rw [q] at w; exact w
theorem qb_nil : QB X cls W [] sSkip := ⟨⟨_, pss_nil, fun F ρ σ G H c E w => w σ G H (Same.refl G) c⟩⟩
theorem qb_one (h : QS X cls W st sf) : QB X cls W [st] sf := ⟨let ⟨t, p, s⟩ := h.sim; ⟨t, pss_one p, s⟩⟩
theorem qb_cons (h : QS X cls W st sf) (r : QB X cls W sts sg) : QB X cls W (st :: sts) (sSeq sf sg) := ⟨let ⟨t, p, s⟩ := h.sim; let ⟨u, q, z⟩ := r.sim; ⟨_, pss_cons p q, sim_seq s z⟩⟩
theorem put_ok {i : Nat} {s : Sl} {ρ : List Sl} {K : PySem.W.Frag} {F : Fm} {G : Hp} {E : Ends} (h : PO K cls W F G E (put i s ρ)) : notBor ρ[i]? = true ∧ ∀ σ' G' H', Ex G G' → CS K F G' H' σ' (ρ.set i s) → E.nx σ' H' := by
  unfold put at h
  split at h
  · rename_i hb
    exact ⟨hb, h⟩
  · exact h.elim
theorem sim_set {K : PySem.W.Frag} {te : TE} {i : Nat} (ha : SimE K cls W te f) : SimS K cls W (tAsg te (gName i)) (sSet i f) := fun F ρ σ G H c E w =>
  ha F ρ σ G H c _ (sDo_wp w fun d ρ' p v G1 H1 e1 c1 r1 => by
    obtain ⟨hb, q⟩ := put_ok p
    exact q _ _ _ e1 (c1.setVal hb r1))
theorem sim_setN {K : PySem.W.Frag} {te : TE} {i : Nat} (ha : SimN K cls W te f) : SimS K cls W (tAsg te (gName i)) (sSetN i f) := fun F ρ σ G H c E w =>
  ha F ρ σ G H c _ (sDo_wp w fun d ρ' p v G1 H1 e1 c1 r1 => by
    obtain ⟨hb, q⟩ := put_ok p
    exact q _ _ _ e1 (c1.setOwn hb r1))
/-- x = e: hp from ps_set -/
theorem q_set (i : Nat) (hp : ∀ te, PE X e te → PS X st (tAsg te (gName i))) (ha : QE X cls W e f) : QS X cls W st (sSet i f) := ⟨let ⟨t, p, s⟩ := ha.sim; ⟨_, hp t p, sim_set s⟩⟩
theorem q_setN (i : Nat) (hp : ∀ te, PE X e te → PS X st (tAsg te (gName i))) (ha : QN X cls W e f) : QS X cls W st (sSetN i f) := ⟨let ⟨t, p, s⟩ := ha.sim; ⟨_, hp t p, sim_setN s⟩⟩
theorem q_ret (ha : QE X cls W e f) : QS X cls W (.Return (some e) pos) (sRet f) := by
  obtain ⟨⟨t, p, s⟩, _⟩ := ha
  exact ⟨⟨_, ps_ret p, fun F ρ σ G H c E w => s F ρ σ G H c _ (sDo_wp w fun d ρ' p v G1 H1 e1 c1 r1 => p v σ G1 H1 e1 c1 r1)⟩⟩
theorem q_retN (ha : QN X cls W e f) : QS X cls W (.Return (some e) pos) (sRetN f) := by
  obtain ⟨⟨t, p, s⟩, _⟩ := ha
  exact ⟨⟨_, ps_ret p, fun F ρ σ G H c E w => s F ρ σ G H c _ (sDo_wp w fun d ρ' p v G1 H1 e1 c1 r1 => p v σ G1 H1 e1 c1 r1)⟩⟩
theorem q_expr (ha : QE X cls W e f) (hs : swapsWith e none pos.line X.env = pure false := by rfl) : QS X cls W (.Expr e pos) (sExpr f) := by
  obtain ⟨⟨t, p, s⟩, _⟩ := ha
  exact ⟨⟨_, ps_expr p hs, fun F ρ σ G H c E w => s F ρ σ G H c _ (sDo_wp w fun d ρ' p v G1 H1 e1 c1 r1 => p σ G1 H1 e1 c1)⟩⟩
theorem q_if {c : Expr} {cf : M Bool} {s1 s2 : List Stmt} (hc : QT X cls W c cf) (h1 : QB X cls W s1 sf) (h2 : QB X cls W s2 sg) : QS X cls W (.If c s1 s2 pos) (sIf cf sf sg) := by
  obtain ⟨⟨t, p, s⟩, _⟩ := hc
  obtain ⟨⟨t1, p1, m1⟩⟩ := h1
  obtain ⟨⟨t2, p2, m2⟩⟩ := h2
  refine ⟨⟨_, ps_if p p1 p2, fun F ρ σ G H c E w => s F ρ σ G H c _ (sDo_wp w fun b ρ' q G1 H1 e1 c1 => ?_)⟩⟩
  cases b with
  | true => exact m1 F ρ' σ G1 H1 c1 E (q.mono e1)
  | false => exact m2 F ρ' σ G1 H1 c1 E (q.mono e1)
/-- the owned slot leaves -/
theorem CS.drop {K : PySem.W.Frag} {F : Fm} {G H : Hp} {σ : St} {ρ : List Sl} (c : CS K F G H σ ρ) {i : Nat} {d : D} (h : ρ[i]? = some (.own d)) : ∃ l, σ[i]? = some (some (.ref l)) ∧ CS K F G H σ (ρ.set i .no) ∧ Fr K F G H σ (ρ.set i .no) l d := by
  obtain ⟨l, a, b, x, y⟩ := c.owns i d h
  have old : ∀ {j : Nat} {s : Sl} {e : D}, (ρ.set i .no)[j]? = some s → s.mine = some e → i ≠ j ∧ ρ[j]? = some s := fun {j s e} h1 h2 => by
    rcases get_set_cases h1 with ⟨_, z, _⟩ | z
    · subst z; cases h2
    · exact z
  refine ⟨l, a, ⟨c.ex, c.g0, c.fr, c.gn, by simpa using c.len, fun j d e => ?_, fun j d e => ?_, fun j d e => ?_, fun j l e => ?_, fun j k s1 s2 d1 d2 l hjk e1 m1 e2 m2 v1 v2 => ?_⟩, b, x, y, fun j s e h1 h2 h3 => ?_⟩
  · rcases get_set_cases e with ⟨_, z, _⟩ | ⟨_, z⟩
    · cases z
    · exact c.vals j d z
  · exact c.owns j d (old e rfl).2
  · exact c.bors j d (old e rfl).2
  · obtain ⟨d1, h1, h2⟩ := c.bb j l e
    have ne : i ≠ j := fun z => by
      subst z
      rw [h] at h1
      cases h1
    exact ⟨d1, by rw [List.getElem?_set_ne ne]; exact h1, h2⟩
  · exact c.sep j k s1 s2 d1 d2 l hjk (old e1 m1).2 m1 (old e2 m2).2 m2 v1 v2
  · obtain ⟨ne, h1⟩ := old h1 h2
    exact c.sep i j _ s d e l ne h rfl h1 h2 a h3
theorem q_retO (i : Nat) {x : Str} {p : Pos} (h : PE X (.Name x p) (tVar i)) : QS X cls W (.Return (some (.Name x p)) pos) (sRetO i) := by
  refine ⟨⟨_, ps_ret h, fun F ρ σ G H c E w => ?_⟩⟩
  unfold sRetO at w
  split at w
  · rename_i d e
    obtain ⟨l, a, c2, f⟩ := c.drop e
    exact ⟨.ref l, a, w l σ G H (Same.refl G) c2 f⟩
  · exact w.elim
theorem sim_fz {K : PySem.W.Frag} {t : TS} {i : Nat} (h : SimS K cls W t sf) : SimS K cls W t (sSeq (sFz i) sf) := fun F ρ σ G H c E w => by
  unfold sSeq sFz at w
  cases q : ρ[i]? with
  | none => rw [q] at w; exact w.elim
  | some s =>
    rw [q] at w
    cases s with
    | own d =>
      obtain ⟨l, a, c2, f⟩ := c.drop q
      obtain ⟨o, ho, c3, r, e3⟩ := c2.freeze f
      have hb : notBor (ρ.set i .no)[i]? = true := by
        rw [List.getElem?_set_self (List.getElem?_eq_some_iff.mp q).1]
        rfl
      have c4 := c3.setVal hb r
      have e5 : σ.set i (some (.ref l)) = σ := by
        obtain ⟨hl, e6⟩ := List.getElem?_eq_some_iff.mp a
        rw [← e6]
        exact List.set_getElem_self hl
      rw [e5, List.set_set] at c4
      exact h F _ σ _ H c4 E (PO.mono e3 w)
    | val d => exact h F _ σ G H c E w
    | no => exact w.elim
    | bor d => exact w.elim
theorem QS.fz (i : Nat) (h : QS X cls W st sf) : QS X cls W st (sSeq (sFz i) sf) := ⟨let ⟨t, p, s⟩ := h.sim; ⟨t, p, sim_fz s⟩⟩

/-! ### targets -/
abbrev MG := D → List Sl → Option (List Sl)
abbrev MGs := List D → List Sl → Option (List Sl)
/-- alike but at the slots ts -/
def But (ts : List Nat) (σ σ' : St) : Prop := σ'.length = σ.length ∧ ∀ j : Nat, j ∉ ts → σ'[j]? = σ[j]?
theorem But.trans {ts us : List Nat} {a b c : St} (h : But ts a b) (h' : But us b c) : But (ts ++ us) a c := ⟨h'.1.trans h.1, fun j hj => (h'.2 j fun z => hj (List.mem_append_right _ z)).trans (h.2 j fun z => hj (List.mem_append_left _ z))⟩
def SimG (K : PySem.W.Frag) (g : TG) (m : MG) (ts : List Nat) : Prop := ∀ F ρ σ G H v d ρ', CS K F G H σ ρ → Rep K G v d → m d ρ = some ρ' → ∀ Q : St → Hp → Prop, (∀ σ', But ts σ σ' → CS K F G H σ' ρ' → Q σ' H) → g v σ H Q
def SimGs (K : PySem.W.Frag) (g : TGs) (m : MGs) (ts : List Nat) : Prop := ∀ F ρ σ G H v d ρ', CS K F G H σ ρ → RepL K G v d → m d ρ = some ρ' → ∀ Q : St → Hp → Prop, (∀ σ', But ts σ σ' → CS K F G H σ' ρ' → Q σ' H) → g v σ H Q
def gN (i : Nat) : MG := fun d ρ => if notBor ρ[i]? then some (ρ.set i (.val d)) else none
def gsNil : MGs := fun ds ρ => match ds with | [] => some ρ | _ => none
def gsCons (m : MG) (r : MGs) : MGs := fun ds ρ => match ds with
  | d :: ds => (m d ρ).bind (r ds)
  | [] => none
def gT (m : MGs) : MG := fun d ρ => match d with
  | .tup ds => m ds ρ
  | .raw ds => m ds ρ
  | _ => none
structure QG (X : Cx) (tg : Expr) (m : MG) (ts : List Nat) : Prop where
  sim : ∃ g, PG X tg g ∧ SimG X.K g m ts
structure QGs (X : Cx) (tg : List Expr) (n : Nat) (m : MGs) (ts : List Nat) : Prop where
  sim : ∃ g, PGs X tg g ∧ SimGs X.K g m ts
  len : ∀ ds ρ ρ', m ds ρ = some ρ' → ds.length = n
theorem qg_name (i : Nat) (h : PG X e (gName i)) : QG X e (gN i) [i] := ⟨⟨_, h, fun F ρ σ G H v d ρ' c r m Q q => by
  unfold gN at m
  split at m
  · rename_i hb
    cases m
    exact q _ ⟨List.length_set, fun j hj => List.getElem?_set_ne (fun z => hj (by simp [z]))⟩ (c.setVal hb r)
  · cases m⟩⟩
theorem qgs_nil : QGs X [] 0 gsNil [] := ⟨⟨_, pgs_nil, fun F ρ σ G H v d ρ' c r m Q q => by
  cases r with
  | nil => cases m; exact ⟨rfl, q σ ⟨rfl, fun _ _ => rfl⟩ c⟩
  | cons _ _ => cases m⟩, fun ds ρ ρ' h => by
    cases ds with
    | nil => rfl
    | cons _ _ => cases h⟩
theorem qgs_cons {m : MG} {ms : MGs} {n : Nat} {ts us : List Nat} (h : QG X e m ts) (r : QGs X es n ms us) (hs : (assignEach (e :: es) X.env).map (·.2) = assign e X.env :: (assignEach es X.env).map (·.2) := by rfl) : QGs X (e :: es) (n + 1) (gsCons m ms) (ts ++ us) := by
  obtain ⟨⟨g, p, s⟩⟩ := h
  obtain ⟨⟨gs, ps, ss⟩, hl⟩ := r
  refine ⟨⟨_, pgs_cons p ps hs, fun F ρ σ G H v d ρ' c r m Q q => ?_⟩, fun ds ρ ρ' h => ?_⟩
  · cases r with
    | nil => cases m
    | cons r1 r2 =>
      rename_i v1 vs d1 ds1
      obtain ⟨ρ1, h1, h2⟩ := Option.bind_eq_some_iff.mp m
      exact ⟨v1, vs, rfl, s F ρ σ G H v1 d1 ρ1 c r1 h1 _ fun σ1 b1 c1 => ss F ρ1 σ1 G H vs ds1 ρ' c1 r2 h2 Q fun σ2 b2 c2 => q σ2 (b1.trans b2) c2⟩
  · cases ds with
    | nil => cases h
    | cons d ds =>
      obtain ⟨ρ1, h1, h2⟩ := Option.bind_eq_some_iff.mp h
      rw [List.length_cons, hl ds ρ1 ρ' h2]
theorem qg_tup {k : Nat} {n : Nat} {ms : MGs} {ts : List Nat} (h : QGs X es n ms ts) (hc : X.calm = true) (hn : (assignEach es X.env).length = n := by rfl) (hst : (assignEach es X.env).findIdx? (·.1) = none := by rfl) : QG X (.Tuple es k pos) (gT ms) ts := by
  obtain ⟨⟨gs, ps, ss⟩, hl⟩ := h
  refine ⟨⟨_, pg_tup hc ps hn hst, fun F ρ σ G H v d ρ' c r m Q q => ?_⟩⟩
  unfold gT at m
  cases r with
  | tup h r =>
    rename_i a xs ds
    exact ⟨a, xs, rfl, .inl (c.ex.rd h.rd), by rw [r.length]; exact hl ds ρ ρ' m, ss F ρ σ G H xs ds ρ' c r m Q q⟩
  | raw h r =>
    rename_i a xs ds
    exact ⟨a, xs, rfl, .inl (c.ex.rd h), by rw [r.length]; exact hl ds ρ ρ' m, ss F ρ σ G H xs ds ρ' c r m Q q⟩
  | _ => cases m
/-- a, b = e -/
def sAsg (f : M D) (m : MG) : MS := sDo f fun d => fun ρ => match m d ρ with
  | some ρ' => .nx ρ'
  | none => .bad
theorem q_asg {m : MG} {tg : Expr} {ts : List Nat} (hp : ∀ te g, PE X e te → PG X tg g → PS X st (tAsg te g)) (ha : QE X cls W e f) (hg : QG X tg m ts) : QS X cls W st (sAsg f m) := by
  obtain ⟨⟨t, p, s⟩, _⟩ := ha
  obtain ⟨⟨g, pg, sg⟩⟩ := hg
  refine ⟨⟨_, hp t g p pg, fun F ρ σ G H c E w => s F ρ σ G H c _ (sDo_wp w fun d ρ' q v G1 H1 e1 c1 r1 => ?_)⟩⟩
  cases h : m d ρ' with
  | none => rw [h] at q; exact q.elim
  | some ρ2 =>
    rw [h] at q
    exact sg F ρ' σ G1 H1 v d ρ2 c1 r1 h _ fun σ' _ c2 => q σ' G1 H1 e1 c2

/-! ### for -/
def Walks (K : PySem.W.Frag) (J : It) (G : Hp) (ds : List D) : Prop := ∀ F G1 H1 σ ρ, Ex G G1 → CS K F G1 H1 σ ρ →
  (∀ (i : Nat) d, ds[i]? = some d → J.go i H1 ∧ ∀ x H2, J.yld i H1 x H2 → ∃ G2, Ex G1 G2 ∧ CS K F G2 H2 σ ρ ∧ Rep K G2 x d) ∧ J.stop ds.length H1
def SimI (K : PySem.W.Frag) (cls : Nat → Value) (W : WX) (wi : TI) (f : M (List D)) : Prop := ∀ F ρ σ G H, CS K F G H σ ρ → ∀ Q : It → Hp → Prop, wpR (f ρ) (fun ds ρ' => ∀ J G' H', Ex G G' → CS K F G' H' σ ρ' → Walks K J G' ds → Q J H') (PEx K cls W F G σ) → wi σ H Q
structure QI (X : Cx) (cls : Nat → Value) (W : WX) (tg iter : Expr) (f : M (List D)) : Prop where
  sim : ∃ wi, PI X tg iter wi ∧ SimI X.K cls W wi f
  inert : Inert f
def loop (m : MG) (b : MS) : List D → MS
  | [] => sSkip
  | d :: ds => fun ρ => match m d ρ with
    | none => .bad
    | some ρ1 => match b ρ1 with
      | .nx ρ2 => loop m b ds ρ2
      | o => o
def sFor (f : M (List D)) (m : MG) (b : MS) : MS := sDo f fun ds => loop m b ds
theorem sim_for_at {K : PySem.W.Frag} {wi : TI} {fi : M (List D)} {g : TG} {m : MG} {tb : TS} {b : MS} {ts : List Nat} {F : Fm} {ρ : List Sl} {σ : St} {G H : Hp} (hi : ∀ Q : It → Hp → Prop, wpR (fi ρ) (fun ds ρ' => ∀ J G' H', Ex G G' → CS K F G' H' σ ρ' → Walks K J G' ds → Q J H') (PEx K cls W F G σ) → wi σ H Q) (hg : SimG K g m ts) (hb : SimS K cls W tb b) (E : Ends) (w : PO K cls W F G E (sFor fi m b ρ)) : tFor wi g tb E σ H := by
  refine hi _ (sDo_wp w fun ds ρ1 q J G1 H1 e1 c1 wk => ?_)
  refine ⟨fun i n σ2 H2 => ∃ ρ2 G2, i + n = ds.length ∧ Ex G1 G2 ∧ CS K F G2 H2 σ2 ρ2 ∧ PO K cls W F G E (loop m b (ds.drop i) ρ2), ⟨ds.length, ρ1, G1, by omega, Same.refl G1, c1, q⟩, ?_⟩
  rintro i n σ2 H2 ⟨ρ2, G2, hn, e2, c2, p⟩
  obtain ⟨wg, wst⟩ := wk F G2 H2 σ2 ρ2 e2 c2
  by_cases hlt : i < ds.length
  · have hd : ds[i]? = some ds[i] := List.getElem?_eq_getElem hlt
    obtain ⟨go, yl⟩ := wg i _ hd
    refine .inr ⟨go, fun σ3 H3 => ∃ ρ3 G3, Ex G1 G3 ∧ CS K F G3 H3 σ3 ρ3 ∧ PO K cls W F G E (loop m b (ds.drop (i + 1)) ρ3), fun σ3 H3 ⟨ρ3, G3, e3, c3, p3⟩ => ⟨n - 1, by omega, ρ3, G3, by omega, e3, c3, p3⟩, fun x H3 hy => ?_⟩
    obtain ⟨G3, e3, c3, r3⟩ := yl x H3 hy
    rw [List.drop_eq_getElem_cons hlt] at p
    unfold loop at p
    cases hm : m ds[i] ρ2 with
    | none => rw [hm] at p; exact p.elim
    | some ρ3 =>
      rw [hm] at p
      have p : PO K cls W F G E (match b ρ3 with
        | O.nx ρ2 => loop m b (ds.drop (i + 1)) ρ2
        | o => o) := p
      refine hg F ρ2 σ2 G3 H3 x _ ρ3 c3 r3 hm _ fun σ4 _ c4 => ?_
      refine hb F ρ3 σ4 G3 H3 c4 _ ?_
      cases hq : b ρ3 with
      | nx ρ4 =>
        rw [hq] at p
        exact fun σ5 G5 H5 e5 c5 => ⟨ρ4, G5, (e2.trans e3).trans e5, c5, p⟩
      | rt d ρ' => rw [hq] at p; exact PO.mono ((e1.trans e2).trans e3) (o := .rt d ρ') p
      | rtN d ρ' => rw [hq] at p; exact PO.mono ((e1.trans e2).trans e3) (o := .rtN d ρ') p
      | ex c ρ' => rw [hq] at p; exact PO.mono (E := E) ((e1.trans e2).trans e3) (o := .ex c ρ') p
      | bad => rw [hq] at p; exact p.elim
  · have e : i = ds.length := by omega
    subst e
    refine .inl ⟨wst, ?_⟩
    rw [List.drop_length] at p
    exact p σ2 G2 H2 (e1.trans e2) c2
theorem sim_for {K : PySem.W.Frag} {wi : TI} {fi : M (List D)} {g : TG} {m : MG} {tb : TS} {b : MS} {ts : List Nat} (hi : SimI K cls W wi fi) (hg : SimG K g m ts) (hb : SimS K cls W tb b) : SimS K cls W (tFor wi g tb) (sFor fi m b) := fun F ρ σ G H c E w => sim_for_at (hi F ρ σ G H c) hg hb E w
theorem q_for {tg iter : Expr} {fi : M (List D)} {m : MG} {body : List Stmt} {bf : MS} {ts : List Nat} (hi : QI X cls W tg iter fi) (hg : QG X tg m ts) (hb : QB X cls W body bf) (hp : ∀ wi g tb, PI X tg iter wi → PG X tg g → PSs X body tb → PS X st (tFor wi g tb)) : QS X cls W st (sFor fi m bf) := by
  obtain ⟨⟨wi, pi, si⟩, _⟩ := hi
  obtain ⟨⟨g, pg, sg⟩⟩ := hg
  obtain ⟨⟨tb, pb, sb⟩⟩ := hb
  exact ⟨⟨_, hp wi g tb pi pg pb, sim_for si sg sb⟩⟩
/-- what is walked -/
def items (d : D) : Option (List D) := match d with
  | .lst ds => some ds
  | .tup ds => some ds
  | .str x => some (x.cps.toList.map fun c => .str ⟨#[c]⟩)
  | _ => none
def iSeq (f : M D) : M (List D) := mbind f fun d => lift (match d with | .lst ds => some ds | .tup ds => some ds | .scr ns => some (ns.map D.int) | _ => none)
theorem pi_seq {tg l : Expr} {tl : TE} (hl : PE X l tl) : PI X tg l (fun σ H R => tl σ H fun x H1 => ∃ a, x = .ref a ∧ (((∃ xs, SqL X.K H1 a xs) ∧ R (Itl X.K a) H1) ∨ ((∃ xs, SqT X.K H1 a xs) ∧ R (Itt X.K a) H1))) := by
  refine ⟨fun pins s σ H R I h => ?_⟩
  refine thn (hl.run pins s σ H _ I h) fun v s1 ⟨x, H1, I1, r1, q1⟩ => ?_
  obtain ⟨a, e, q1⟩ := q1
  subst e
  cases r1
  rcases q1 with ⟨⟨xs, hq⟩, q⟩ | ⟨⟨xs, hq⟩, q⟩
  · obtain ⟨its, rv, p, hz⟩ := I1.list hq
    refine wpAny_pyIter_list p.isList ?_
    refine ⟨s1.heap.objs.size, [s1.heap.objs.size], _, _, H1, rfl, I1.kept (t' := s1.toks) fun b o e => Heap.get?_push_of_some _ e, turn_list a _, ⟨_, Heap.get?_push_size _ rfl, rfl, rfl⟩, fun b hb => ?_, q⟩
    have e : b = s1.heap.objs.size := by simpa using hb
    subst e
    exact I1.fpOk (Nat.le_refl _) (I1.hok.fresh (Nat.le_refl _))
  · obtain ⟨its, rv, p, hz⟩ := I1.tuple hq
    refine wpAny_pyIter_tuple (show s1.heap.IsTuple a its.toArray from p) ?_
    refine ⟨s1.heap.objs.size, [s1.heap.objs.size], _, _, H1, rfl, I1.kept (t' := s1.toks) fun b o e => Heap.get?_push_of_some _ e, turn_tuple a _, ⟨_, Heap.get?_push_size _ rfl, rfl, rfl⟩, fun b hb => ?_, q⟩
    have e : b = s1.heap.objs.size := by simpa using hb
    subst e
    exact I1.fpOk (Nat.le_refl _) (I1.hok.fresh (Nat.le_refl _))
theorem walks_lst {K : PySem.W.Frag} {G : Hp} {a : Addr} {xs : List V} {ds : List D} (h : SqL K G a xs) (r : RepL K G xs ds) : Walks K (Itl K a) G ds := fun F G1 H1 σ ρ e1 c1 => by
  have h1 : SqL K H1 a xs := Same.seq (e1.trans c1.ex) h
  refine ⟨fun i d hd => ?_, ⟨xs, h1, by rw [r.length]; exact Nat.le_refl _⟩⟩
  obtain ⟨u, hu, ru⟩ := r.get hd
  refine ⟨⟨xs, u, h1, hu⟩, fun x H2 ⟨e, y⟩ => ?_⟩
  subst e
  have hx := y xs h1
  rw [hu] at hx
  cases hx
  exact ⟨G1, Same.refl G1, c1, ru.mono e1⟩
theorem walks_tup {K : PySem.W.Frag} {G : Hp} {a : Addr} {xs : List V} {ds : List D} (h : Rd G a (.tup xs)) (r : RepL K G xs ds) : Walks K (Itt K a) G ds := fun F G1 H1 σ ρ e1 c1 => by
  have h1 : SqT K H1 a xs := .inl (c1.ex.rd (e1.rd h))
  refine ⟨fun i d hd => ?_, ⟨xs, h1, by rw [r.length]; exact Nat.le_refl _⟩⟩
  obtain ⟨u, hu, ru⟩ := r.get hd
  refine ⟨⟨xs, u, h1, hu⟩, fun x H2 ⟨e, y⟩ => ?_⟩
  subst e
  have hx := y xs h1
  rw [hu] at hx
  cases hx
  exact ⟨G1, Same.refl G1, c1, ru.mono e1⟩
theorem qi_seq {tg : Expr} (ha : QE X cls W e f) : QI X cls W tg e (iSeq f) := by
  obtain ⟨⟨t, p, s⟩, ia⟩ := ha
  refine ⟨⟨_, pi_seq p, fun F ρ σ G H c Q w => ?_⟩, inert_bind ia fun _ => inert_lift⟩
  refine s F ρ σ G H c _ ((wpR_bind w).mono (fun d ρ1 w1 v1 G1 H1 e1 c1 r1 => ?_) fun _ _ p => p)
  obtain ⟨ds, ed, p⟩ := wpR_lift w1
  cases r1 with
  | lst h r =>
    cases ed
    exact ⟨_, rfl, .inl ⟨⟨_, .inl (.inl (c1.ex _ _ h))⟩, p _ G1 H1 e1 c1 (walks_lst (.inl (.inl h)) r)⟩⟩
  | tup h r =>
    cases ed
    exact ⟨_, rfl, .inr ⟨⟨_, .inl (c1.ex.rd h.rd)⟩, p _ G1 H1 e1 c1 (walks_tup h.rd r)⟩⟩
  | scr h =>
    cases ed
    exact ⟨_, rfl, .inl ⟨⟨_, Same.seq c1.ex h⟩, p _ G1 H1 e1 c1 (walks_lst h (RepL.ints _))⟩⟩
  | _ => cases ed
def rng1 (ds : List D) : Option (List D) := match ds with
  | [.int j] => if -(2 ^ 62) ≤ j ∧ j < 2 ^ 62 then some ((List.range j.toNat).map fun k => D.int (k : Nat)) else none
  | _ => none
def rng2 (ds : List D) : Option (List D) := match ds with
  | [.int i, .int j] => if -(2 ^ 62) ≤ i ∧ i < 2 ^ 62 ∧ -(2 ^ 62) ≤ j ∧ j < 2 ^ 62 then some ((List.range (j - i).toNat).map fun k => D.int (i + (k : Nat))) else none
  | _ => none
def iRange1 (f : M (List D)) : M (List D) := mbind f fun ds => lift (rng1 ds)
def iRange2 (f : M (List D)) : M (List D) := mbind f fun ds => lift (rng2 ds)
theorem walks_rng {K : PySem.W.Frag} {G : Hp} {lo : Int} {n : Nat} : Walks K (Itr lo n) G ((List.range n).map fun k => D.int (lo + (k : Nat))) := fun F G1 H1 σ ρ e1 c1 => by
  refine ⟨fun i d hd => ?_, by show n ≤ _; simp⟩
  rw [List.getElem?_map] at hd
  cases h : (List.range n)[i]? with
  | none => rw [h] at hd; cases hd
  | some k =>
    rw [h] at hd
    cases hd
    obtain ⟨hi, e⟩ := List.getElem?_eq_some_iff.mp h
    rw [List.getElem_range] at e
    subst e
    rw [List.length_range] at hi
    refine ⟨hi, fun x H2 ⟨e, y⟩ => ?_⟩
    subst e
    subst y
    exact ⟨G1, Same.refl G1, c1, .int _⟩
theorem qi_range1 {tg iter : Expr} {fa : M (List D)} (hp : ∀ ta, PA X es ta → PI X tg iter (iRng1 ta)) (ha : QA X cls W es fa) : QI X cls W tg iter (iRange1 fa) := by
  obtain ⟨⟨t, p, s⟩, ia⟩ := ha
  refine ⟨⟨_, hp _ p, fun F ρ σ G H c Q w => ?_⟩, inert_bind ia fun _ => inert_lift⟩
  refine s F ρ σ G H c _ ((wpR_bind w).mono (fun d ρ1 w1 v1 G1 H1 e1 c1 r1 => ?_) fun _ _ p => p)
  obtain ⟨ds, ed, p⟩ := wpR_lift w1
  unfold rng1 at ed
  split at ed
  · rename_i j
    split at ed
    · rename_i hj
      cases ed
      cases r1 with
      | cons r0 rn =>
        cases rn
        cases r0
        refine ⟨j, rfl, hj.1, hj.2, p _ G1 H1 e1 c1 ?_⟩
        have hw := walks_rng (K := X.K) (G := G1) (lo := 0) (n := j.toNat)
        simpa using hw
    · cases ed
  · cases ed
theorem qi_range2 {tg iter : Expr} {fa : M (List D)} (hp : ∀ ta, PA X es ta → PI X tg iter (iRng2 ta)) (ha : QA X cls W es fa) : QI X cls W tg iter (iRange2 fa) := by
  obtain ⟨⟨t, p, s⟩, ia⟩ := ha
  refine ⟨⟨_, hp _ p, fun F ρ σ G H c Q w => ?_⟩, inert_bind ia fun _ => inert_lift⟩
  refine s F ρ σ G H c _ ((wpR_bind w).mono (fun d ρ1 w1 v1 G1 H1 e1 c1 r1 => ?_) fun _ _ p => p)
  obtain ⟨ds, ed, p⟩ := wpR_lift w1
  unfold rng2 at ed
  split at ed
  · rename_i i j
    split at ed
    · rename_i hj
      cases ed
      cases r1 with
      | cons r0 rn =>
        cases rn with
        | cons r1 rn =>
          cases rn
          cases r0
          cases r1
          exact ⟨i, j, rfl, hj, p _ G1 H1 e1 c1 walks_rng⟩
    · cases ed
  · cases ed
end
end NT

set_option Elab.async false
set_option linter.all false
set_option maxRecDepth 100000
set_option maxHeartbeats 4000000
namespace NT
open PySem L2

/-! ### owned slots seen as frozen ones -/
def mineAt (σ : St) (ρ : List Sl) (b : Addr) : Prop := ∃ (i : Nat) (s : Sl) (d : D), ρ[i]? = some s ∧ s.mine = some d ∧ σ[i]? = some (some (.ref b))
open Classical in
noncomputable def gPlus (σ : St) (ρ : List Sl) (G H : Hp) : Hp := fun b => if mineAt σ ρ b then H b else G b
open Classical in
noncomputable def gMinus (σ : St) (ρ : List Sl) (G : Hp) : Hp := fun b => if mineAt σ ρ b then none else G b
def viewS : Sl → Sl
  | .own d => .val d
  | .bor d => .val d
  | s => s
section
variable {K : PySem.W.Frag} {F : Fm} {G H G' H' : Hp} {σ : St} {ρ : List Sl} {cls : Nat → Value} {W : WX}
theorem gPlus_ex (c : CS K F G H σ ρ) : Ex G (gPlus σ ρ G H) := fun b o e => by
  unfold gPlus
  split
  · exact c.ex _ _ e
  · exact e
theorem gMinus_none {b : Addr} (h : mineAt σ ρ b) : gMinus σ ρ G b = none := by
  unfold gMinus
  rw [if_pos h]
theorem gMinus_eq {b : Addr} (h : ¬ mineAt σ ρ b) : gMinus σ ρ G b = G b := by
  unfold gMinus
  rw [if_neg h]
theorem mineAt_obj (c : CS K F G H σ ρ) {b : Addr} (h : mineAt σ ρ b) : ∃ d, Obj K G H b d ∧ G b = none ∧ (F.H0 b = none ∨ ∃ i, (i, b) ∈ F.B) := by
  obtain ⟨i, s, d, h1, h2, h3⟩ := h
  obtain ⟨l, a1, a2, a3, a4⟩ := c.mine h1 h2
  rw [h3] at a1
  cases a1
  exact ⟨d, a2, a3, a4.imp id fun z => ⟨i, z⟩⟩
theorem noOwn_view : NoOwn (ρ.map viewS) := fun i s h => by
  rw [List.getElem?_map] at h
  cases e : ρ[i]? with
  | none => rw [e] at h; cases h
  | some t =>
    rw [e] at h
    cases h
    cases t <;> rfl
theorem view_of {i : Nat} {s : Sl} (h : (ρ.map viewS)[i]? = some s) : ∃ t, ρ[i]? = some t ∧ viewS t = s := by
  rw [List.getElem?_map] at h
  cases e : ρ[i]? with
  | none => rw [e] at h; cases h
  | some t =>
    rw [e] at h
    cases h
    exact ⟨t, rfl, rfl⟩
theorem CS.view (c : CS K F G H σ ρ) : CS K ⟨H, gPlus σ ρ G H, []⟩ (gPlus σ ρ G H) H σ (ρ.map viewS) := by
  have eP := gPlus_ex c
  refine ⟨fun b o e => ?_, Same.refl _, fun b o e _ => e, fun b e1 e2 => (e2 e1).elim, by simpa using c.len, fun i d e => ?_, fun i d e => ?_, fun i d e => ?_, fun i l e => (by cases e), fun i j s t d e l _ h1 h2 _ _ _ _ => ?_⟩
  · unfold gPlus at e
    split at e
    · exact e
    · exact c.ex _ _ e
  · obtain ⟨t, h1, h2⟩ := view_of e
    have mine : ∀ s, ρ[i]? = some s → s.mine = some d → ∃ v, σ[i]? = some (some v) ∧ Rep K (gPlus σ ρ G H) v d := fun s h1 h2 => by
      obtain ⟨l, a1, a2, a3, a4⟩ := c.mine h1 h2
      obtain ⟨o, ho⟩ := a2.some
      refine ⟨_, a1, ?_⟩
      have hm : mineAt σ ρ l := ⟨i, s, d, h1, h2, a1⟩
      refine (a2.rep a3 ho).mono fun b x e => ?_
      by_cases hb : b = l
      · subst hb
        rw [upd_same] at e
        unfold gPlus
        rw [if_pos hm, ← e]
        exact ho
      · rw [upd_ne hb] at e
        exact eP b x e
    cases t with
    | val d' =>
      cases h2
      obtain ⟨v, a, b⟩ := c.vals i d h1
      exact ⟨v, a, b.mono eP⟩
    | own d' => cases h2; exact mine _ h1 rfl
    | bor d' => cases h2; exact mine _ h1 rfl
    | no => cases h2
  · obtain ⟨t, h1, h2⟩ := view_of e
    cases t <;> cases h2
  · obtain ⟨t, h1, h2⟩ := view_of e
    cases t <;> cases h2
  · have z := noOwn_view i s h1
    rw [z] at h2
    cases h2
theorem CS.unview (c : CS K F G H σ ρ) (c' : CS K ⟨H, gPlus σ ρ G H, []⟩ G' H' σ (ρ.map viewS)) : CS K F (gMinus σ ρ G') H' σ ρ ∧ Ex G (gMinus σ ρ G') := by
  have keep : ∀ b o, H b = some o → H' b = some o := fun b o e => c'.fr b o e fun i z => by cases z
  have eG : Ex G (gMinus σ ρ G') := fun b o e => by
    have nm : ¬ mineAt σ ρ b := fun z => by
      obtain ⟨d, _, g, _⟩ := mineAt_obj c z
      rw [g] at e
      cases e
    rw [gMinus_eq nm]
    exact c'.g0 b o (gPlus_ex c b o e)
  have obj : ∀ {l d}, Obj K G H l d → Obj K (gMinus σ ρ G') H' l d := fun {l d} h => by
    obtain ⟨o, ho⟩ := h.some
    exact h.mono eG.ext ((keep l o ho).trans ho.symm)
  refine ⟨⟨fun b o e => ?_, c.g0.trans eG, fun b o e hb => keep b o (c.fr b o e hb), fun b e1 e2 => ?_, c.len, fun i d e => ?_, fun i d e => ?_, fun i d e => ?_, c.bb, c.sep⟩, eG⟩
  · by_cases nm : mineAt σ ρ b
    · rw [gMinus_none nm] at e
      cases e
    · rw [gMinus_eq nm] at e
      exact c'.ex _ _ e
  · by_cases nm : mineAt σ ρ b
    · rw [gMinus_none nm] at e2
      exact (e2 rfl).elim
    · rw [gMinus_eq nm] at e2
      cases q : G b with
      | some o => exact c.gn b e1 (by rw [q]; exact fun z => by cases z)
      | none =>
        have hp : gPlus σ ρ G H b = none := by
          unfold gPlus
          rw [if_neg nm]
          exact q
        exact (c.fresh (c'.gn b hp e2)).1
  · obtain ⟨v, a, b⟩ := c.vals i d e
    exact ⟨v, a, b.mono eG⟩
  · obtain ⟨l, a, b, x, y⟩ := c.owns i d e
    exact ⟨l, a, obj b, gMinus_none ⟨i, _, d, e, rfl, a⟩, y⟩
  · obtain ⟨l, a, b, x, y⟩ := c.bors i d e
    exact ⟨l, a, obj b, gMinus_none ⟨i, _, d, e, rfl, a⟩, y⟩
theorem CS.viewFrz (c : CS K F G H σ ρ) (c' : CS K ⟨H, gPlus σ ρ G H, []⟩ G' H' σ (ρ.map viewS)) (a : Addr) (ob : PySem.Obj) (xs : List V) (h : G' a = some (.frz ob (.tup xs))) : gMinus σ ρ G' a = some (.frz ob (.tup xs)) := by
  have nm : ¬ mineAt σ ρ a := fun z => by
    obtain ⟨d, o, _, _⟩ := mineAt_obj c z
    obtain ⟨x, hx⟩ := o.some
    have e1 := c'.fr a x hx fun i z => by cases z
    have e2 := c'.ex a _ h
    rw [e1] at e2
    cases e2
    exact o.notFrz ob _ hx
  rw [gMinus_eq nm]
  exact h
theorem CS.viewTup (c : CS K F G H σ ρ) (c' : CS K ⟨H, gPlus σ ρ G H, []⟩ G' H' σ (ρ.map viewS)) (a : Addr) (xs : List V) (h : G' a = some (.tup xs)) : gMinus σ ρ G' a = some (.tup xs) := by
  have nm : ¬ mineAt σ ρ a := fun z => by
    obtain ⟨d, o, _, _⟩ := mineAt_obj c z
    obtain ⟨x, hx⟩ := o.some
    have e1 := c'.fr a x hx fun i z => by cases z
    have e2 := c'.ex a _ h
    rw [e1] at e2
    cases e2
    exact o.notTup xs hx
  rw [gMinus_eq nm]
  exact h
/-- the elements are plain -/
def plainK {κ : Type} : List (κ × D) → Bool
  | [] => true
  | (_, d) :: r => plain d && plainK r
def plainO : D → Bool
  | .lst ds => plainL ds
  | .dK kvs => plainK kvs
  | .dT kvs => plainK kvs
  | _ => false
theorem RepK.plain (e : (∀ a xs, G a = some (.tup xs) → G' a = some (.tup xs)) ∧ ∀ a o xs, G a = some (.frz o (.tup xs)) → G' a = some (.frz o (.tup xs))) : ∀ {v : List (Key × V)} {d : List (Key × D)}, RepK K G v d → plainK d = true → RepK K G' v d
  | _, _, .nil, _ => .nil
  | _, _, .cons h r, p => by
    simp [plainK] at p
    exact .cons (Rep.plain e h p.1) (RepK.plain e r p.2)
theorem RepT.plain (e : (∀ a xs, G a = some (.tup xs) → G' a = some (.tup xs)) ∧ ∀ a o xs, G a = some (.frz o (.tup xs)) → G' a = some (.frz o (.tup xs))) : ∀ {v : List (List Key × V)} {d : List (List Key × D)}, RepT K G v d → plainK d = true → RepT K G' v d
  | _, _, .nil, _ => .nil
  | _, _, .cons h r, p => by
    simp [plainK] at p
    exact .cons (Rep.plain e h p.1) (RepT.plain e r p.2)
theorem obj_plain (e : (∀ a xs, G a = some (.tup xs) → G' a = some (.tup xs)) ∧ ∀ a o xs, G a = some (.frz o (.tup xs)) → G' a = some (.frz o (.tup xs))) {l : Addr} {d : D} (h : Obj K G H l d) (p : plainO d = true) : Obj K G' H l d := by
  cases d with
  | lst ds => obtain ⟨xs, a, b⟩ := h; exact ⟨xs, a, b.plain e p⟩
  | dK ds => obtain ⟨xs, a, b⟩ := h; exact ⟨xs, a, b.plain e p⟩
  | dT ds => obtain ⟨xs, a, b⟩ := h; exact ⟨xs, a, b.plain e p⟩
  | obj c fs => cases p
  | _ => exact h.elim

def eView (f : M D) : M D := fun ρ => match f (ρ.map viewS) with
  | .ok d _ => if plain d then .ok d ρ else .bad
  | _ => .bad
def eViewN (f : M D) : M D := fun ρ => match f (ρ.map viewS) with
  | .ok d _ => if plainO d then .ok d ρ else .bad
  | _ => .bad
def tView (f : M Bool) : M Bool := fun ρ => match f (ρ.map viewS) with
  | .ok d _ => .ok d ρ
  | _ => .bad
def iView (f : M (List D)) : M (List D) := fun ρ => match f (ρ.map viewS) with
  | .ok d _ => if plainL d then .ok d ρ else .bad
  | _ => .bad
theorem sim_view {te : TE} {f : M D} (h : SimE K cls W te f) (hi : Inert f) : SimE K cls W te (eView f) := fun F ρ σ G H c Q w => by
  unfold eView at w
  refine h _ _ σ _ H c.view Q ?_
  cases q : f (ρ.map viewS) with
  | ok d ρ' =>
    rw [q] at w
    dsimp only at w
    have e := hi _ noOwn_view d ρ' q
    subst e
    intro v G' H' e' c' r
    by_cases hp : plain d = true
    · have w : POk K F G σ Q d ρ := by
        rw [if_pos hp] at w
        exact w
      obtain ⟨c2, e2⟩ := c.unview c'
      exact w v _ _ e2 c2 (r.plain ⟨c.viewTup c', c.viewFrz c'⟩ hp)
    · rw [if_neg hp] at w
      exact w.elim
  | ex c ρ' => rw [q] at w; exact w.elim
  | bad => rw [q] at w; exact w.elim
theorem sim_viewN {te : TE} {f : M D} (h : SimN K cls W te f) (hi : Inert f) : SimN K cls W te (eViewN f) := fun F ρ σ G H c Q w => by
  unfold eViewN at w
  refine h _ _ σ _ H c.view Q ?_
  cases q : f (ρ.map viewS) with
  | ok d ρ' =>
    rw [q] at w
    dsimp only at w
    have e := hi _ noOwn_view d ρ' q
    subst e
    intro l G' H' e' c' r
    by_cases hp : plainO d = true
    · have w : PNw K F G σ Q d ρ := by
        rw [if_pos hp] at w
        exact w
      obtain ⟨c2, e2⟩ := c.unview c'
      have hn : H l = none := r.h0
      have nm : ¬ mineAt σ ρ l := fun z => by
        obtain ⟨d, o, _, _⟩ := mineAt_obj c z
        obtain ⟨x, hx⟩ := o.some
        rw [hn] at hx
        cases hx
      refine w l _ _ e2 c2 ⟨obj_plain ⟨c.viewTup c', c.viewFrz c'⟩ r.obj hp, ?_, (c.fresh hn).1, fun i s e h1 h2 h3 => nm ⟨i, s, e, h1, h2, h3⟩⟩
      rw [gMinus_eq nm]
      exact r.g
    · rw [if_neg hp] at w
      exact w.elim
  | ex c ρ' => rw [q] at w; exact w.elim
  | bad => rw [q] at w; exact w.elim
theorem sim_viewT {te : TT} {f : M Bool} (h : SimT K cls W te f) (hi : Inert f) : SimT K cls W te (tView f) := fun F ρ σ G H c Q w => by
  unfold tView at w
  refine h _ _ σ _ H c.view Q ?_
  cases q : f (ρ.map viewS) with
  | ok d ρ' =>
    rw [q] at w
    dsimp only at w
    have e := hi _ noOwn_view d ρ' q
    subst e
    intro G' H' e' c'
    obtain ⟨c2, e2⟩ := c.unview c'
    exact w _ _ e2 c2
  | ex c ρ' => rw [q] at w; exact w.elim
  | bad => rw [q] at w; exact w.elim
theorem inert_view {f : M D} : Inert (eView f) := fun ρ n a ρ' h => by
  unfold eView at h
  split at h
  · split at h
    · cases h; rfl
    · cases h
  · cases h
theorem inert_viewN {f : M D} : Inert (eViewN f) := fun ρ n a ρ' h => by
  unfold eViewN at h
  split at h
  · split at h
    · cases h; rfl
    · cases h
  · cases h
theorem inert_viewT {f : M Bool} : Inert (tView f) := fun ρ n a ρ' h => by
  unfold tView at h
  split at h
  · cases h; rfl
  · cases h
end
section
variable {X : Cx} {cls : Nat → Value} {W : WX} {e a b : Expr} {es : List Expr} {f g : M D} {tf : M Bool} {pos : Pos} {sf sg : MS} {st : Stmt} {sts : List Stmt}
theorem QE.view (h : QE X cls W e f) : QE X cls W e (eView f) := ⟨let ⟨t, p, s⟩ := h.sim; ⟨t, p, sim_view s h.inert⟩, inert_view⟩
theorem QN.view (h : QN X cls W e f) : QN X cls W e (eViewN f) := ⟨let ⟨t, p, s⟩ := h.sim; ⟨t, p, sim_viewN s h.inert⟩, inert_viewN⟩
theorem QT.view (h : QT X cls W e tf) : QT X cls W e (tView tf) := ⟨let ⟨t, p, s⟩ := h.sim; ⟨t, p, sim_viewT s h.inert⟩, inert_viewT⟩

/-! ### methods that change an owned object -/
def Mut1 (K : PySem.W.Frag) (T : String) (r : V → List V → Hp → VK → Prop) (op : D → List D → Option (D × D)) : Prop := ∀ G H l d vs xs z d', Obj K G H l d → RepL K G vs xs → Ex G H → op d xs = some (z, d') → ∀ Q : VK, (∀ v o, Rep K G v z → Obj K G (upd H l o) l d' → Q v (upd H l o)) → r (.ref l) vs H Q
def isLst : D → Bool
  | .lst _ => true
  | _ => false
def isDct : D → Bool
  | .dK _ => true
  | .dT _ => true
  | _ => false
def mineOf (ρ : List Sl) (i : Nat) : Option (Sl × D) := match ρ[i]? with
  | some s => match s.mine with
    | some d => some (s, d)
    | none => none
  | none => none
theorem mineOf_some {ρ : List Sl} {i : Nat} {s : Sl} {d : D} (h : mineOf ρ i = some (s, d)) : ρ[i]? = some s ∧ s.mine = some d := by
  unfold mineOf at h
  split at h
  · rename_i s' e
    split at h
    · rename_i d' e2
      cases h
      exact ⟨e, e2⟩
    · cases h
  · cases h
def mutAt (i : Nat) (op : D → Option (D × D)) : M D := fun ρ => match mineOf ρ i with
  | some (s, d) => match op d with
    | some (z, d') => .ok z (ρ.set i (s.with d'))
    | none => .bad
  | none => .bad
def eMut (ok : D → Bool) (i : Nat) (op : D → List D → Option (D × D)) (fa : M (List D)) : M D := fun ρ => match mineOf ρ i with
  | some (_, d) => if ok d then mbind fa (fun xs => mutAt i fun d => op d xs) ρ else .bad
  | none => .bad
theorem inert_mutAt {i : Nat} {op : D → Option (D × D)} : Inert (mutAt i op) := fun ρ n a ρ' h => by
  unfold mutAt at h
  split at h
  · rename_i s d e
    obtain ⟨h1, h2⟩ := mineOf_some e
    rw [n i s h1] at h2
    cases h2
  · cases h
theorem inert_mut {ok : D → Bool} {i : Nat} {op : D → List D → Option (D × D)} {fa : M (List D)} : Inert (eMut ok i op fa) := fun ρ n a ρ' h => by
  unfold eMut at h
  split at h
  · rename_i s d e
    obtain ⟨h1, h2⟩ := mineOf_some e
    rw [n i _ h1] at h2
    cases h2
  · cases h
theorem mutAt_wp {i : Nat} {op : D → Option (D × D)} {ρ : List Sl} {P : D → List Sl → Prop} {E : Nat → List Sl → Prop} (h : wpR (mutAt i op ρ) P E) : ∃ s d z d', ρ[i]? = some s ∧ s.mine = some d ∧ op d = some (z, d') ∧ P z (ρ.set i (s.with d')) := by
  unfold mutAt at h
  split at h
  · rename_i s d e
    obtain ⟨h1, h2⟩ := mineOf_some e
    split at h
    · rename_i z d' e2
      exact ⟨s, d, z, d', h1, h2, e2, h⟩
    · exact h.elim
  · exact h.elim
/-- o.m(..), o an owned slot -/
theorem sim_bm {K : PySem.W.Frag} {T : String} {ok : D → Bool} {i : Nat} {r : V → List V → Hp → VK → Prop} {op : D → List D → Option (D × D)} {t : TA} {fa : M (List D)} (hr : Mut1 K T r op) (hT : ∀ G H l d, ok d = true → Obj K G H l d → tyV K T (.ref l) H) (ha : SimA K cls W t fa) : SimE K cls W (tBM K T r (tVar i) t) (eMut ok i op fa) := fun F ρ σ G H c Q w => by
  unfold eMut at w
  split at w
  · rename_i s d e
    obtain ⟨h1, h2⟩ := mineOf_some e
    obtain ⟨l, a1, a2, a3, a4⟩ := c.mine h1 h2
    split at w
    · rename_i hok
      refine ⟨.ref l, a1, hT G H l d hok a2, ?_⟩
      refine ha F ρ σ G H c _ ((wpR_bind w).mono (fun xs ρ1 w1 v1 G1 H1 e1 c1 r1 => ?_) fun _ _ p => p)
      obtain ⟨s1, d1, z, d', b1, b2, b3, b4⟩ := mutAt_wp w1
      obtain ⟨l1, x1, x2, x3, x4⟩ := c1.mine b1 b2
      rw [a1] at x1
      cases x1
      exact hr G1 H1 l d1 v1 xs z d' x2 r1 c1.ex b3 Q fun v o rv ho => b4 v G1 _ e1 (c1.write b1 b2 a1 ho) rv
    · exact w.elim
  · exact w.elim
theorem sim_bm0 {K : PySem.W.Frag} {T : String} {ok : D → Bool} {i : Nat} {r : V → List V → Hp → VK → Prop} {op : D → List D → Option (D × D)} (hr : Mut1 K T r op) (hT : ∀ G H l d, ok d = true → Obj K G H l d → tyV K T (.ref l) H) : SimE K cls W (tBM0 K T r (tVar i)) (eMut ok i op aNil) := fun F ρ σ G H c Q w => by
  unfold eMut at w
  split at w
  · rename_i s d e
    obtain ⟨h1, h2⟩ := mineOf_some e
    obtain ⟨l, a1, a2, a3, a4⟩ := c.mine h1 h2
    split at w
    · rename_i hok
      refine ⟨.ref l, a1, hT G H l d hok a2, ?_⟩
      obtain ⟨s1, d1, z, d', b1, b2, b3, b4⟩ := mutAt_wp w
      obtain ⟨l1, x1, x2, x3, x4⟩ := c.mine b1 b2
      rw [a1] at x1
      cases x1
      exact hr G H l d1 [] [] z d' x2 .nil c.ex b3 Q fun v o rv ho => b4 v G _ (Same.refl G) (c.write b1 b2 a1 ho) rv
    · exact w.elim
  · exact w.elim
theorem tyV_lst {K : PySem.W.Frag} (G H : Hp) (l : Addr) (d : D) (h : isLst d = true) (ho : Obj K G H l d) : tyV K "list" (.ref l) H := by
  cases d with
  | lst ds => obtain ⟨xs, e, _⟩ := ho; exact .inl ⟨rfl, xs, .inl (.inl e)⟩
  | _ => cases h
/-- x.m(e ..) of an owned list: hp from pe_bm -/
theorem q_lm (i : Nat) {r : V → List V → Hp → VK → Prop} {op : D → List D → Option (D × D)} {fa : M (List D)} (hp : ∀ t, PA X es t → PE X e (tBM X.K "list" r (tVar i) t)) (hr : Mut1 X.K "list" r op) (ha : QA X cls W es fa) : QE X cls W e (eMut isLst i op fa) := by
  obtain ⟨⟨t, p, s⟩, _⟩ := ha
  exact ⟨⟨_, hp t p, sim_bm hr (fun G H l d => tyV_lst G H l d) s⟩, inert_mut⟩
theorem q_lm0 (i : Nat) {r : V → List V → Hp → VK → Prop} {op : D → List D → Option (D × D)} (hp : PE X e (tBM0 X.K "list" r (tVar i))) (hr : Mut1 X.K "list" r op) : QE X cls W e (eMut isLst i op aNil) :=
  ⟨⟨_, hp, sim_bm0 hr (fun G H l d => tyV_lst G H l d)⟩, inert_mut⟩
def opAppend : D → List D → Option (D × D)
  | .lst ds, [x] => if ds.length ≤ 100000 then some (.non, .lst (ds ++ [x])) else none
  | _, _ => none
theorem mut_append {K : PySem.W.Frag} : Mut1 K "list" rAppend opAppend := fun G H l d vs xs z d' ho rv ex h Q q => by
  unfold opAppend at h
  split at h
  · split at h
    · rename_i hl
      cases h
      obtain ⟨ys, e, r⟩ := ho
      cases rv with
      | cons r1 r2 =>
        cases r2
        exact ⟨l, ys, _, rfl, rfl, e, by rw [r.length]; exact sz_lt hl, q _ _ .non ⟨_, upd_same, r.append (.cons r1 .nil)⟩⟩
    · cases h
  · cases h
def opPop : D → List D → Option (D × D)
  | .lst ds, [] => match ds[ds.length - 1]? with
    | some y => some (y, .lst ds.dropLast)
    | none => none
  | _, _ => none
theorem mut_pop {K : PySem.W.Frag} : Mut1 K "list" rPop opPop := fun G H l d vs xs z d' ho rv ex h Q q => by
  unfold opPop at h
  split at h
  · split at h
    · rename_i y e
      cases h
      obtain ⟨ys, eh, r⟩ := ho
      obtain ⟨u, hu, ru⟩ := r.get e
      cases rv
      exact ⟨l, ys, u, rfl, rfl, eh, by rw [r.length]; exact hu, q _ _ ru ⟨_, upd_same, r.dropLast⟩⟩
    · cases h
  · cases h
/-- x[k] = e, x an owned list or dict: first e, then k -/
def putAt (ok : D → Bool) (i : Nat) (op : D → D → D → Option D) (fk : M D) (v : D) : M D := fun ρ => match mineOf ρ i with
  | some (_, d) => if ok d then mbind fk (fun k => mutAt i fun d => (op d k v).map fun d' => (.non, d')) ρ else .bad
  | none => .bad
def sPutAt (ok : D → Bool) (i : Nat) (op : D → D → D → Option D) (fk fe : M D) : MS := sDo (mbind fe fun v => putAt ok i op fk v) fun _ => sSkip
def PutOk (K : PySem.W.Frag) (t : V → V → V → Hp → (Hp → Prop) → Prop) (op : D → D → D → Option D) : Prop := ∀ G H l d k kd v vd d', Ex G H → Obj K G H l d → Rep K G k kd → Rep K G v vd → op d kd vd = some d' → ∀ Q : Hp → Prop, (∀ o, Obj K G (upd H l o) l d' → Q (upd H l o)) → t (.ref l) k v H Q
theorem sim_putAt {K : PySem.W.Frag} {te tk : TE} {ok : D → Bool} {i : Nat} {fk fe : M D} {t : V → V → V → Hp → (Hp → Prop) → Prop} {op : D → D → D → Option D} (hr : PutOk K t op) (he : SimE K cls W te fe) (hk : SimE K cls W tk fk) :
    SimS K cls W (fun E σ H => te σ H fun v H1 => tVar i σ H1 fun o H2 => tk σ H2 fun k H3 => t o k v H3 fun H4 => E.nx σ H4) (sPutAt ok i op fk fe) := fun F ρ σ G H c E w => by
  have w : wpR _ (fun _ ρ' => ∀ σ' G' H', Ex G G' → CS K F G' H' σ' ρ' → E.nx σ' H') (PEx K cls W F G σ) := sDo_wp (σ := σ) w fun a ρ' p => p
  refine he F ρ σ G H c _ ((wpR_bind w).mono (fun v ρ1 w1 v1 G1 H1 e1 c1 r1 => ?_) fun _ _ p => p)
  unfold putAt at w1
  split at w1
  · rename_i s d e
    obtain ⟨h1, h2⟩ := mineOf_some e
    obtain ⟨l, a1, a2, a3, a4⟩ := c1.mine h1 h2
    split at w1
    · rename_i hok
      refine ⟨.ref l, a1, ?_⟩
      refine hk F ρ1 σ G1 H1 c1 _ ((wpR_bind w1).mono (fun k ρ2 w2 v2 G2 H2 e2 c2 r2 => ?_) fun _ _ p => p.mono e1)
      obtain ⟨s1, d1, z, d', b1, b2, b3, b4⟩ := mutAt_wp w2
      obtain ⟨d2, x1, x2⟩ := Option.map_eq_some_iff.mp b3
      cases x2
      obtain ⟨l1, y1, y2, y3, y4⟩ := c2.mine b1 b2
      rw [a1] at y1
      cases y1
      exact hr G2 H2 l d1 v2 k v1 v d' c2.ex y2 r2 (r1.mono e2) x1 _ fun o ho => b4 σ G2 _ (e1.trans e2) (c2.write b1 b2 a1 ho)
    · exact w1.elim
  · exact w1.elim
def opSetIx : D → D → D → Option D
  | .lst ds, .int k, v => (ixN ds.length k).map fun j => .lst (ds.set j v)
  | _, _, _ => none
theorem put_lst {K : PySem.W.Frag} : PutOk K rSetL opSetIx := fun G H l d k kd v vd d' ex ho rk rv h Q q => by
  unfold opSetIx at h
  split at h
  · rename_i ds k
    obtain ⟨j, h1, h2⟩ := Option.map_eq_some_iff.mp h
    cases h2
    obtain ⟨xs, e, r⟩ := ho
    cases rk
    exact ⟨l, xs, k, j, rfl, rfl, e, by rw [r.length]; exact h1, q _ ⟨_, upd_same, r.set rv j⟩⟩
  · cases h
/-- x[k] = e, x an owned list -/
theorem q_setIx (i : Nat) {k : Expr} {fk : M D} (hp : ∀ te tk, PE X e te → PE X k tk → PS X st (tAsg te (gSub (tVar i) tk rSetL))) (he : QE X cls W e f) (hk : QE X cls W k fk) : QS X cls W st (sPutAt isLst i opSetIx fk f) := by
  obtain ⟨⟨te, pe, se⟩, _⟩ := he
  obtain ⟨⟨tk, pk, sk⟩, _⟩ := hk
  exact ⟨⟨_, hp _ _ pe pk, sim_putAt put_lst se sk⟩⟩

/-! ### dicts -/
section
variable {κ : Type} [DecidableEq κ]
def lookD (kvs : List (κ × D)) (k : κ) : Option D := (kvs.find? fun kv => decide (kv.1 = k)).map (·.2)
def putD (kvs : List (κ × D)) (k : κ) (v : D) : List (κ × D) :=
  if (kvs.any fun kv => decide (kv.1 = k)) = true then kvs.map (fun kv => if kv.1 = k then (kv.1, v) else kv) else kvs ++ [(k, v)]
end
def keyK : D → Option Key
  | .int i => some (.inl i)
  | .str x => some (.inr x)
  | _ => none
def keysK : List D → Option (List Key)
  | [] => some []
  | d :: ds => match keyK d, keysK ds with
    | some k, some ks => some (k :: ks)
    | _, _ => none
def keyT : D → Option (List Key)
  | .tup (d :: ds) => keysK (d :: ds)
  | _ => none
theorem keysK_all : ∀ {ds : List D} {ks : List Key}, keysK ds = some ks → ds.all keyD = true
  | [], _, _ => rfl
  | d :: ds, _, h => by
    unfold keysK at h
    split at h
    · rename_i k ks h1 h2
      rw [List.all_cons, keysK_all h2, Bool.and_true]
      cases d <;> first | rfl | cases h1
    · cases h
theorem keyT_tp {G : Hp} {a : Addr} {xs : List V} {ds : List D} {ks : List Key} (h : keyT (.tup ds) = some ks) (t : Tp G a xs ds) : G a = some (.tup xs) ∧ keysK ds = some ks := by
  cases ds with
  | nil => cases h
  | cons d ds =>
    have h : keysK (d :: ds) = some ks := h
    have hf : flat (d :: ds) = true := keysK_all h
    rcases t with ⟨_, t⟩ | ⟨f, _⟩
    · exact ⟨t, h⟩
    · rw [hf] at f
      cases f
section
variable {K : PySem.W.Frag} {G : Hp}
theorem keyK_rep {d : D} {k : Key} (h : keyK d = some k) {v : V} (r : Rep K G v d) : v = kV k := by
  cases d with
  | int i => cases h; cases r; rfl
  | str i => cases h; cases r; rfl
  | _ => cases h
theorem keysK_rep : ∀ {ds : List D} {ks : List Key}, keysK ds = some ks → ∀ {vs : List V}, RepL K G vs ds → vs = ks.map kV
  | [], _, h, _, .nil => by cases h; rfl
  | d :: ds, _, h, _, .cons r1 r2 => by
    unfold keysK at h
    split at h
    · rename_i k ks h1 h2
      cases h
      rw [List.map_cons, keyK_rep h1 r1, keysK_rep h2 r2]
    · cases h
theorem RepK.look {k : Key} : ∀ {xs : List (Key × V)} {ds : List (Key × D)}, RepK K G xs ds → (lookD ds k = none ∧ valV xs k = none) ∨ ∃ d v, lookD ds k = some d ∧ valV xs k = some v ∧ Rep K G v d
  | _, _, .nil => .inl ⟨rfl, rfl⟩
  | _, _, .cons (k := j) (v := v) (vs := vs) (d := d) (ds := ds) h r => by
    by_cases e : j = k
    · exact .inr ⟨d, v, by simp [lookD, List.find?_cons, e], by simp [valV, List.find?_cons, e], h⟩
    · have e1 : lookD ((j, d) :: ds) k = lookD ds k := by simp [lookD, List.find?_cons, e]
      have e2 : valV ((j, v) :: vs) k = valV vs k := by simp [valV, List.find?_cons, e]
      rw [e1, e2]
      exact RepK.look r
theorem RepT.look {k : List Key} : ∀ {xs : List (List Key × V)} {ds : List (List Key × D)}, RepT K G xs ds → (lookD ds k = none ∧ valV xs k = none) ∨ ∃ d v, lookD ds k = some d ∧ valV xs k = some v ∧ Rep K G v d
  | _, _, .nil => .inl ⟨rfl, rfl⟩
  | _, _, .cons (k := j) (v := v) (vs := vs) (d := d) (ds := ds) h r => by
    by_cases e : j = k
    · exact .inr ⟨d, v, by simp [lookD, List.find?_cons, e], by simp [valV, List.find?_cons, e], h⟩
    · have e1 : lookD ((j, d) :: ds) k = lookD ds k := by simp [lookD, List.find?_cons, e]
      have e2 : valV ((j, v) :: vs) k = valV vs k := by simp [valV, List.find?_cons, e]
      rw [e1, e2]
      exact RepT.look r
theorem RepK.any {k : Key} : ∀ {xs : List (Key × V)} {ds : List (Key × D)}, RepK K G xs ds → (xs.any fun kv => decide (kv.1 = k)) = ds.any fun kv => decide (kv.1 = k)
  | _, _, .nil => rfl
  | _, _, .cons h r => by rw [List.any_cons, List.any_cons, RepK.any r]
theorem RepT.any {k : List Key} : ∀ {xs : List (List Key × V)} {ds : List (List Key × D)}, RepT K G xs ds → (xs.any fun kv => decide (kv.1 = k)) = ds.any fun kv => decide (kv.1 = k)
  | _, _, .nil => rfl
  | _, _, .cons h r => by rw [List.any_cons, List.any_cons, RepT.any r]
theorem RepK.mapPut {k : Key} {v : V} {d : D} (hv : Rep K G v d) : ∀ {xs : List (Key × V)} {ds : List (Key × D)}, RepK K G xs ds → RepK K G (xs.map fun kv => if kv.1 = k then (kv.1, v) else kv) (ds.map fun kv => if kv.1 = k then (kv.1, d) else kv)
  | _, _, .nil => .nil
  | _, _, .cons (k := j) h r => by
    rw [List.map_cons, List.map_cons]
    by_cases e : j = k
    · simp only [e, if_true]
      exact .cons hv (RepK.mapPut hv r)
    · simp only [e, if_false]
      exact .cons h (RepK.mapPut hv r)
theorem RepT.mapPut {k : List Key} {v : V} {d : D} (hv : Rep K G v d) : ∀ {xs : List (List Key × V)} {ds : List (List Key × D)}, RepT K G xs ds → RepT K G (xs.map fun kv => if kv.1 = k then (kv.1, v) else kv) (ds.map fun kv => if kv.1 = k then (kv.1, d) else kv)
  | _, _, .nil => .nil
  | _, _, .cons (k := j) h r => by
    rw [List.map_cons, List.map_cons]
    by_cases e : j = k
    · simp only [e, if_true]
      exact .cons hv (RepT.mapPut hv r)
    · simp only [e, if_false]
      exact .cons h (RepT.mapPut hv r)
theorem RepK.snoc {k : Key} {v : V} {d : D} (hv : Rep K G v d) : ∀ {xs : List (Key × V)} {ds : List (Key × D)}, RepK K G xs ds → RepK K G (xs ++ [(k, v)]) (ds ++ [(k, d)])
  | _, _, .nil => .cons hv .nil
  | _, _, .cons h r => .cons h (RepK.snoc hv r)
theorem RepT.snoc {k : List Key} {v : V} {d : D} (hv : Rep K G v d) : ∀ {xs : List (List Key × V)} {ds : List (List Key × D)}, RepT K G xs ds → RepT K G (xs ++ [(k, v)]) (ds ++ [(k, d)])
  | _, _, .nil => .cons hv .nil
  | _, _, .cons h r => .cons h (RepT.snoc hv r)
theorem RepK.put {k : Key} {v : V} {d : D} (hv : Rep K G v d) {xs : List (Key × V)} {ds : List (Key × D)} (h : RepK K G xs ds) : RepK K G (putK xs k v) (putD ds k d) := by
  unfold putK putD
  rw [h.any]
  split
  · exact h.mapPut hv
  · exact h.snoc hv
theorem RepT.put {k : List Key} {v : V} {d : D} (hv : Rep K G v d) {xs : List (List Key × V)} {ds : List (List Key × D)} (h : RepT K G xs ds) : RepT K G (putK xs k v) (putD ds k d) := by
  unfold putK putD
  rw [h.any]
  split
  · exact h.mapPut hv
  · exact h.snoc hv
theorem RepK.length : ∀ {xs : List (Key × V)} {ds : List (Key × D)}, RepK K G xs ds → xs.length = ds.length
  | _, _, .nil => rfl
  | _, _, .cons _ r => by rw [List.length_cons, List.length_cons, RepK.length r]
theorem RepT.length : ∀ {xs : List (List Key × V)} {ds : List (List Key × D)}, RepT K G xs ds → xs.length = ds.length
  | _, _, .nil => rfl
  | _, _, .cons _ r => by rw [List.length_cons, List.length_cons, RepT.length r]
end
def opPutD : D → D → D → Option D
  | .dK kvs, k, v => match keyK k with
    | some k => if kvs.length ≤ 100000 then some (.dK (putD kvs k v)) else none
    | none => none
  | .dT kvs, k, v => match keyT k with
    | some k => if kvs.length ≤ 100000 then some (.dT (putD kvs k v)) else none
    | none => none
  | _, _, _ => none
/-- d.get(k), by its outcome -/
def opGetD : D → D → Option (Option D)
  | .dK kvs, k => match keyK k with
    | some k => some (lookD kvs k)
    | none => none
  | .dT kvs, k => match keyT k with
    | some k => some (lookD kvs k)
    | none => none
  | _, _ => none
theorem put_dct {K : PySem.W.Frag} : PutOk K (fun o k v H Q => ∃ a H4, o = .ref a ∧ DPut H a k v H4 ∧ Q H4) opPutD := fun G H l d k kd v vd d' ex ho rk rv h Q q => by
  unfold opPutD at h
  split at h
  · split at h
    · rename_i kk hk
      split at h
      · rename_i hl
        cases h
        obtain ⟨xs, e, r⟩ := ho
        rw [keyK_rep hk rk]
        exact ⟨l, _, rfl, DPut.k e (by rw [r.length]; exact sz_lt hl), q _ ⟨_, upd_same, r.put rv⟩⟩
      · cases h
    · cases h
  · split at h
    · rename_i kk hk
      split at h
      · rename_i hl
        cases h
        obtain ⟨xs, e, r⟩ := ho
        cases rk with
        | tup ht rt =>
          obtain ⟨ht, hk⟩ := keyT_tp hk ht
          have e2 := keysK_rep hk rt
          subst e2
          exact ⟨l, _, rfl, DPut.t e (ex _ _ ht) (by rw [r.length]; exact sz_lt hl), q _ ⟨_, upd_same, r.put rv⟩⟩
        | _ => cases hk
      · cases h
    · cases h
  · cases h
theorem get_dct {K : PySem.W.Frag} {F : Fm} {G H : Hp} {σ : St} {ρ : List Sl} {x y : V} {d k : D} {o : Option D} (c : CS K F G H σ ρ) (rd : Rep K G x d) (rk : Rep K G y k) (h : opGetD d k = some o) : ∃ a r, x = .ref a ∧ IsD H a ∧ DGet H a y r ∧ ((o = none ∧ r = none) ∨ ∃ z v, o = some z ∧ r = some v ∧ Rep K G v z) := by
  unfold opGetD at h
  split at h
  · split at h
    · rename_i kk hk
      cases h
      rw [keyK_rep hk rk]
      cases rd with
      | dK hd r =>
        have hd := c.ex.rd hd
        exact ⟨_, _, rfl, .inl ⟨_, hd⟩, .inl ⟨_, _, hd, rfl, rfl⟩, r.look.imp (fun z => z) fun ⟨z, v, p, q, r⟩ => ⟨z, v, p, q, r⟩⟩
    · cases h
  · split at h
    · rename_i kk hk
      cases h
      cases rd with
      | dT hd r =>
        have hd := c.ex.rd hd
        cases rk with
        | tup ht rt =>
          obtain ⟨ht, hk⟩ := keyT_tp hk ht
          have e2 := keysK_rep hk rt
          subst e2
          exact ⟨_, _, rfl, .inr ⟨_, hd⟩, .inr ⟨_, _, _, hd, rfl, c.ex _ _ ht, rfl⟩, r.look.imp (fun z => z) fun ⟨z, v, p, q, r⟩ => ⟨z, v, p, q, r⟩⟩
        | _ => cases hk
    · cases h
  · cases h
/-- d[k] = e, d an owned dict -/
theorem q_setD (i : Nat) {k : Expr} {fk : M D} (hp : ∀ te tk, PE X e te → PE X k tk → PS X st (sDPut (tVar i) tk te)) (he : QE X cls W e f) (hk : QE X cls W k fk) : QS X cls W st (sPutAt isDct i opPutD fk f) := by
  obtain ⟨⟨te, pe, se⟩, _⟩ := he
  obtain ⟨⟨tk, pk, sk⟩, _⟩ := hk
  exact ⟨⟨_, hp _ _ pe pk, sim_putAt put_dct se sk⟩⟩
/-- d[k] -/
def opIxD (d k : D) : Option D := (opGetD d k).bind id
theorem q_dget {k : Expr} {fk : M D} (hp : ∀ td tk, PE X a td → PE X k tk → PE X e (tDGet td tk)) (ha : QE X cls W a f) (hk : QE X cls W k fk) : QE X cls W e (eBin opIxD f fk) := by
  obtain ⟨⟨ta, pa, sa⟩, ia⟩ := ha
  obtain ⟨⟨tk, pk, sk⟩, ik⟩ := hk
  refine ⟨⟨_, hp _ _ pa pk, fun F ρ σ G H c Q w => ?_⟩, inert_bin ia ik⟩
  refine sa F ρ σ G H c _ ((wpR_bind w).mono (fun x ρ1 w1 v1 G1 H1 e1 c1 r1 => ?_) fun _ _ p => p)
  refine sk F ρ1 σ G1 H1 c1 _ ((wpR_bind w1).mono (fun y ρ2 w2 v2 G2 H2 e2 c2 r2 => ?_) fun _ _ p => p.mono e1)
  obtain ⟨z, ez, p⟩ := wpR_lift w2
  obtain ⟨o, eo, e3⟩ := Option.bind_eq_some_iff.mp ez
  have e3 : o = some z := e3
  subst e3
  obtain ⟨aa, r, hx, _, hg, q⟩ := get_dct c2 (r1.mono e2) r2 eo
  rcases q with ⟨q, _⟩ | ⟨z', v, q1, q2, q3⟩
  · cases q
  · cases q1
    subst q2
    exact ⟨aa, v, hx, hg, p v G2 H2 (e1.trans e2) c2 q3⟩
/-- d.get(k, x) -/
def eGet2 (f fk fx : M D) : M D := mbind f fun d => fun ρ => if isDct d then mbind fk (fun k => mbind fx fun x => lift ((opGetD d k).map fun o => o.getD x)) ρ else .bad
theorem q_dget2 {k x : Expr} {fk fx : M D} (hp : ∀ td tk tx, PE X a td → PE X k tk → PE X x tx → PE X e (tDGet2 td tk tx)) (ha : QE X cls W a f) (hk : QE X cls W k fk) (hx : QE X cls W x fx) : QE X cls W e (eGet2 f fk fx) := by
  obtain ⟨⟨ta, pa, sa⟩, ia⟩ := ha
  obtain ⟨⟨tk, pk, sk⟩, ik⟩ := hk
  obtain ⟨⟨tx, px, sx⟩, ix⟩ := hx
  refine ⟨⟨_, hp _ _ _ pa pk px, fun F ρ σ G H c Q w => ?_⟩, inert_bind ia fun d ρ n y ρ' h => ?_⟩
  · refine sa F ρ σ G H c _ ((wpR_bind w).mono (fun d ρ1 w1 v1 G1 H1 e1 c1 r1 => ?_) fun _ _ p => p)
    split at w1
    · rename_i hd
      have isd : ∃ a, v1 = .ref a ∧ IsD H1 a := by
        cases r1 with
        | dK h _ => exact ⟨_, rfl, .inl ⟨_, c1.ex.rd h⟩⟩
        | dT h _ => exact ⟨_, rfl, .inr ⟨_, c1.ex.rd h⟩⟩
        | _ => cases hd
      obtain ⟨aa, rfl, hI⟩ := isd
      refine ⟨aa, rfl, hI, ?_⟩
      refine sk F ρ1 σ G1 H1 c1 _ ((wpR_bind w1).mono (fun y ρ2 w2 v2 G2 H2 e2 c2 r2 => ?_) fun _ _ p => p.mono e1)
      refine sx F ρ2 σ G2 H2 c2 _ ((wpR_bind w2).mono (fun u ρ3 w3 v3 G3 H3 e3 c3 r3 => ?_) fun _ _ p => p.mono (e1.trans e2))
      obtain ⟨z, ez, p⟩ := wpR_lift w3
      obtain ⟨o, eo, e4⟩ := Option.map_eq_some_iff.mp ez
      obtain ⟨a2, r, hx, _, hg, q⟩ := get_dct c3 (r1.mono (e2.trans e3)) (r2.mono e3) eo
      cases hx
      refine ⟨r, hg, p _ G3 H3 ((e1.trans e2).trans e3) c3 ?_⟩
      rcases q with ⟨q1, q2⟩ | ⟨z', v, q1, q2, q3⟩
      · subst q1; subst q2; subst e4; exact r3
      · subst q1; subst q2; subst e4; exact q3
    · exact w1.elim
  · split at h
    · exact inert_bind ik (fun _ => inert_bind ix fun _ => inert_lift) ρ n y ρ' h
    · cases h
/-- k in d, k not in d -/
def opInD (neg : Bool) (k d : D) : Option D := (opGetD d k).map fun o => .bl (if neg then !o.isSome else o.isSome)
theorem sim_inD {K : PySem.W.Frag} {td tk : TE} {fd fk : M D} (sk : SimE K cls W tk fk) (sd : SimE K cls W td fd) : SimE K cls W (tDIn tk td) (eBin (opInD false) fk fd) := fun F ρ σ G H c Q w => by
  refine sk F ρ σ G H c _ ((wpR_bind w).mono (fun x ρ1 w1 v1 G1 H1 e1 c1 r1 => ?_) fun _ _ p => p)
  refine sd F ρ1 σ G1 H1 c1 _ ((wpR_bind w1).mono (fun y ρ2 w2 v2 G2 H2 e2 c2 r2 => ?_) fun _ _ p => p.mono e1)
  obtain ⟨z, ez, p⟩ := wpR_lift w2
  obtain ⟨o, eo, e3⟩ := Option.map_eq_some_iff.mp ez
  obtain ⟨aa, r, hx, _, hg, q⟩ := get_dct c2 r2 (r1.mono e2) eo
  refine ⟨aa, r, hx, hg, p _ G2 H2 (e1.trans e2) c2 ?_⟩
  rcases q with ⟨q1, q2⟩ | ⟨z', v, q1, q2, q3⟩
  · subst q1; subst q2; subst e3; exact .bl _
  · subst q1; subst q2; subst e3; exact .bl _
theorem sim_ninD {K : PySem.W.Frag} {td tk : TE} {fd fk : M D} (sk : SimE K cls W tk fk) (sd : SimE K cls W td fd) : SimE K cls W (tDNotIn tk td) (eBin (opInD true) fk fd) := fun F ρ σ G H c Q w => by
  refine sk F ρ σ G H c _ ((wpR_bind w).mono (fun x ρ1 w1 v1 G1 H1 e1 c1 r1 => ?_) fun _ _ p => p)
  refine sd F ρ1 σ G1 H1 c1 _ ((wpR_bind w1).mono (fun y ρ2 w2 v2 G2 H2 e2 c2 r2 => ?_) fun _ _ p => p.mono e1)
  obtain ⟨z, ez, p⟩ := wpR_lift w2
  obtain ⟨o, eo, e3⟩ := Option.map_eq_some_iff.mp ez
  obtain ⟨aa, r, hx, _, hg, q⟩ := get_dct c2 r2 (r1.mono e2) eo
  refine ⟨aa, r, hx, hg, p _ G2 H2 (e1.trans e2) c2 ?_⟩
  rcases q with ⟨q1, q2⟩ | ⟨z', v, q1, q2, q3⟩
  · subst q1; subst q2; subst e3; exact .bl _
  · subst q1; subst q2; subst e3; exact .bl _
theorem q_inD (hu : X.A.units + 1 < cLine) (ha : QE X cls W a f) (hb : QE X cls W b g) (hm : behindInMarks .In b = false := by rfl) : QE X cls W (.Compare a [.In] [b] pos) (eBin (opInD false) f g) := by
  obtain ⟨⟨ta, pa, sa⟩, ia⟩ := ha
  obtain ⟨⟨tb, pb, sb⟩, ib⟩ := hb
  exact ⟨⟨_, pe_cmp (pc_din hu pa pb) hm, sim_inD sa sb⟩, inert_bin ia ib⟩
theorem q_ninD (hu : X.A.units + 1 < cLine) (ha : QE X cls W a f) (hb : QE X cls W b g) (hm : behindInMarks .NotIn b = false := by rfl) : QE X cls W (.Compare a [.NotIn] [b] pos) (eBin (opInD true) f g) := by
  obtain ⟨⟨ta, pa, sa⟩, ia⟩ := ha
  obtain ⟨⟨tb, pb, sb⟩, ib⟩ := hb
  exact ⟨⟨_, pe_cmp (pc_dnotin hu pa pb) hm, sim_ninD sa sb⟩, inert_bin ia ib⟩
theorem q_dict0 : QN X cls W (.Dict [] [] pos) (eC (.dK [])) := ⟨⟨_, pe_dnewK, fun F ρ σ G H c Q w p hp => by
  obtain ⟨c2, f2⟩ := fr_new c hp (o := .dK []) (d := .dK []) ⟨[], upd_same, .nil⟩
  exact w p G _ (Same.refl G) c2 f2⟩, inert_pure⟩
theorem q_dictT : QN X cls W (.Dict [] [] pos) (eC (.dT [])) := ⟨⟨_, pe_dnewT, fun F ρ σ G H c Q w p hp => by
  obtain ⟨c2, f2⟩ := fr_new c hp (o := .dT []) (d := .dT []) ⟨[], upd_same, .nil⟩
  exact w p G _ (Same.refl G) c2 f2⟩, inert_pure⟩
end
end NT

set_option Elab.async false
set_option linter.all false
set_option maxRecDepth 100000
set_option maxHeartbeats 4000000
namespace NT
open PySem L2

/-! ### comprehensions -/
def isFree (s : Option Sl) : Bool := match s with
  | some .no => true
  | some (.val _) => true
  | _ => false
def wipeS (ρ : List Sl) : List Nat → List Sl
  | [] => ρ
  | v :: vs => (wipeS ρ vs).set v .no
/-- the slots vs as they were -/
def backS (ρ : List Sl) : List Sl → List Nat → List Sl
  | r, [] => r
  | r, v :: vs => (backS ρ r vs).set v (ρ.getD v .no)
section
variable {K : PySem.W.Frag} {F : Fm} {G H G' H' : Hp} {σ σ' : St} {ρ ρ' : List Sl} {cls : Nat → Value} {W : WX}
theorem isFree_mine {i : Nat} (h : isFree ρ[i]? = true) {s : Sl} {d : D} (hs : ρ[i]? = some s) (hm : s.mine = some d) : False := by
  rw [hs] at h
  cases s with
  | own x => exact Bool.false_ne_true h
  | bor x => exact Bool.false_ne_true h
  | no => cases hm
  | val x => cases hm
theorem CS.clear (c : CS K F G H σ ρ) {i : Nat} (h : isFree ρ[i]? = true) : CS K F G H (σ.set i none) (ρ.set i .no) := by
  have old : ∀ {j : Nat} {s : Sl}, (ρ.set i .no)[j]? = some s → s ≠ .no → i ≠ j ∧ ρ[j]? = some s := fun {j s} h1 h2 => by
    rcases get_set_cases h1 with ⟨_, z, _⟩ | z
    · exact (h2 z.symm).elim
    · exact z
  have nn : ∀ {s : Sl} {d : D}, s.mine = some d → s ≠ .no := fun h z => by subst z; cases h
  refine ⟨c.ex, c.g0, c.fr, c.gn, by simpa using c.len, fun j d e => ?_, fun j d e => ?_, fun j d e => ?_, fun j l e => ?_, fun j k s1 s2 d1 d2 l hjk e1 m1 e2 m2 v1 v2 => ?_⟩
  · obtain ⟨ne, e⟩ := old e (fun z => by cases z)
    rw [List.getElem?_set_ne ne]
    exact c.vals j d e
  · obtain ⟨ne, e⟩ := old e (fun z => by cases z)
    rw [List.getElem?_set_ne ne]
    exact c.owns j d e
  · obtain ⟨ne, e⟩ := old e (fun z => by cases z)
    rw [List.getElem?_set_ne ne]
    exact c.bors j d e
  · obtain ⟨d, h1, h2⟩ := c.bb j l e
    have ne : i ≠ j := fun z => by
      subst z
      exact isFree_mine h h1 rfl
    exact ⟨d, by rw [List.getElem?_set_ne ne]; exact h1, by rw [List.getElem?_set_ne ne]; exact h2⟩
  · obtain ⟨n1, e1⟩ := old e1 (nn m1)
    obtain ⟨n2, e2⟩ := old e2 (nn m2)
    rw [List.getElem?_set_ne n1] at v1
    rw [List.getElem?_set_ne n2] at v2
    exact c.sep j k s1 s2 d1 d2 l hjk e1 m1 e2 m2 v1 v2
theorem wipeS_length : ∀ (vs : List Nat), (wipeS ρ vs).length = ρ.length
  | [] => rfl
  | v :: vs => by unfold wipeS; rw [List.length_set, wipeS_length vs]
theorem wipeS_free {i : Nat} (h : isFree ρ[i]? = true) : ∀ (vs : List Nat), isFree (wipeS ρ vs)[i]? = true
  | [] => h
  | v :: vs => by
    unfold wipeS
    by_cases e : v = i
    · subst e
      have hl : v < (wipeS ρ vs).length := by
        rw [wipeS_length]
        cases q : ρ[v]? with
        | none => rw [q] at h; cases h
        | some s => exact (List.getElem?_eq_some_iff.mp q).1
      rw [List.getElem?_set_self hl]
      rfl
    · rw [List.getElem?_set_ne e]
      exact wipeS_free h vs
theorem CS.wipe (c : CS K F G H σ ρ) : ∀ (vs : List Nat), (∀ v ∈ vs, isFree ρ[v]? = true) → CS K F G H (wipe σ vs) (wipeS ρ vs)
  | [], _ => c
  | v :: vs, h => (CS.wipe c vs fun u hu => h u (List.mem_cons_of_mem _ hu)).clear (wipeS_free (h v List.mem_cons_self) vs)
theorem backS_length : ∀ (vs : List Nat), (backS ρ ρ' vs).length = ρ'.length
  | [] => rfl
  | v :: vs => by unfold backS; rw [List.length_set, backS_length vs]
theorem backS_in {i : Nat} (hl : i < ρ'.length) : ∀ (vs : List Nat), i ∈ vs → (backS ρ ρ' vs)[i]? = some (ρ.getD i .no)
  | v :: vs, h => by
    unfold backS
    by_cases e : v = i
    · subst e
      rw [List.getElem?_set_self (by rw [backS_length]; exact hl)]
    · rw [List.getElem?_set_ne e]
      exact backS_in hl vs ((List.mem_cons.mp h).resolve_left fun z => e z.symm)
theorem backS_out {i : Nat} : ∀ (vs : List Nat), i ∉ vs → (backS ρ ρ' vs)[i]? = ρ'[i]?
  | [], _ => rfl
  | v :: vs, h => by
    unfold backS
    rw [List.getElem?_set_ne (fun e => h (by simp [e]))]
    exact backS_out vs fun z => h (List.mem_cons_of_mem _ z)
theorem CS.unwipe (c : CS K F G H σ ρ) (c' : CS K F G' H' σ' ρ') (e : Ex G G') {vs : List Nat} (hf : ∀ v ∈ vs, isFree ρ[v]? = true) (hs : ∀ j : Nat, j ∉ vs → σ'[j]? = σ[j]?) (hl : σ'.length = σ.length) : CS K F G' H' σ (backS ρ ρ' vs) := by
  have rl : ρ'.length = ρ.length := by rw [← c'.len, hl, c.len]
  have cas : ∀ {i : Nat} {s : Sl}, (backS ρ ρ' vs)[i]? = some s → (i ∈ vs ∧ ρ[i]? = some s) ∨ (i ∉ vs ∧ ρ'[i]? = some s) := fun {i s} h => by
    by_cases hi : i ∈ vs
    · have hlt : i < ρ'.length := by
        rw [← backS_length (ρ := ρ) vs]
        exact (List.getElem?_eq_some_iff.mp h).1
      rw [backS_in hlt vs hi] at h
      cases h
      refine .inl ⟨hi, ?_⟩
      rw [List.getD_eq_getElem?_getD, List.getElem?_eq_getElem (by rw [← rl]; exact hlt)]
      rfl
    · rw [backS_out vs hi] at h
      exact .inr ⟨hi, h⟩
  have mn : ∀ {i : Nat} {s : Sl} {d : D}, (backS ρ ρ' vs)[i]? = some s → s.mine = some d → i ∉ vs ∧ ρ'[i]? = some s := fun {i s d} h hm => by
    rcases cas h with ⟨a, b⟩ | z
    · exact (isFree_mine (hf i a) b hm).elim
    · exact z
  refine ⟨c'.ex, c'.g0, c'.fr, c'.gn, by rw [backS_length, rl]; exact c.len, fun j d q => ?_, fun j d q => ?_, fun j d q => ?_, fun j l q => ?_, fun j k s1 s2 d1 d2 l hjk e1 m1 e2 m2 v1 v2 => ?_⟩
  · rcases cas q with ⟨a, b⟩ | ⟨a, b⟩
    · obtain ⟨v, x, y⟩ := c.vals j d b
      exact ⟨v, x, y.mono e⟩
    · rw [← hs j a]
      exact c'.vals j d b
  · obtain ⟨a, b⟩ := mn q rfl
    rw [← hs j a]
    exact c'.owns j d b
  · obtain ⟨a, b⟩ := mn q rfl
    rw [← hs j a]
    exact c'.bors j d b
  · obtain ⟨d0, h1, h2⟩ := c.bb j l q
    have nv : j ∉ vs := fun z => isFree_mine (hf j z) h1 rfl
    obtain ⟨d, h3, h4⟩ := c'.bb j l q
    exact ⟨d, by rw [backS_out vs nv]; exact h3, h2⟩
  · obtain ⟨n1, e1⟩ := mn e1 m1
    obtain ⟨n2, e2⟩ := mn e2 m2
    rw [← hs j n1] at v1
    rw [← hs k n2] at v2
    exact c'.sep j k s1 s2 d1 d2 l hjk e1 m1 e2 m2 v1 v2
theorem wipe_get {σ : St} : ∀ (vs : List Nat) (j : Nat), j ∉ vs → (wipe σ vs)[j]? = σ[j]?
  | [], _, _ => rfl
  | v :: vs, j, h => by
    unfold wipe
    rw [List.getElem?_set_ne (fun e => h (by simp [e]))]
    exact wipe_get vs j fun z => h (List.mem_cons_of_mem _ z)
theorem wipe_at {σ : St} : ∀ (vs : List Nat) (j : Nat), j ∈ vs → j < σ.length → (wipe σ vs)[j]? = some none
  | v :: vs, j, h, hl => by
    unfold wipe
    by_cases e : v = j
    · subst e
      rw [List.getElem?_set_self (by rw [wipe_length]; exact hl)]
    · rw [List.getElem?_set_ne e]
      exact wipe_at vs j ((List.mem_cons.mp h).resolve_left fun z => e z.symm) hl
theorem wipe_but {σ σ2 : St} {vs ts : List Nat} (b : But ts (wipe σ vs) σ2) (hts : ∀ t ∈ ts, t ∈ vs) : wipe σ2 vs = wipe σ vs := by
  have hl : σ2.length = σ.length := by rw [b.1, wipe_length]
  refine List.ext_getElem? fun j => ?_
  by_cases hj : j ∈ vs
  · by_cases hlt : j < σ.length
    · rw [wipe_at vs j hj (by rw [hl]; exact hlt), wipe_at vs j hj hlt]
    · rw [List.getElem?_eq_none (by rw [wipe_length, hl]; omega), List.getElem?_eq_none (by rw [wipe_length]; omega)]
  · rw [wipe_get vs j hj, b.2 j fun z => hj (hts j z)]

def noW : WX := fun _ _ _ _ => False
def compL (m : MG) (t : M Bool) (e : M D) (vs : List Nat) : List D → List D → M (List D)
  | [], acc => mpure acc
  | d :: ds, acc => fun ρ => if (vs.all fun v => isFree ρ[v]?) then match m d (wipeS ρ vs) with
      | none => .bad
      | some ρ1 => match t ρ1 with
        | .ok true ρ2 => match e ρ2 with
          | .ok y ρ3 => if acc.length ≤ 100000 then compL m t e vs ds (acc ++ [y]) (backS ρ ρ3 vs) else .bad
          | _ => .bad
        | .ok false ρ2 => compL m t e vs ds acc (backS ρ ρ2 vs)
        | _ => .bad
    else .bad
def eComp (fi : M (List D)) (m : MG) (t : M Bool) (e : M D) (vs : List Nat) : M D := mbind fi fun ds => mbind (compL m t e vs ds []) fun ys => mpure (.lst ys)
theorem inert_compL {m : MG} {t : M Bool} {e : M D} {vs : List Nat} (hm : ∀ d ρ ρ', m d ρ = some ρ' → NoOwn ρ → NoOwn ρ' ∧ ρ'.length = ρ.length ∧ ∀ j, j ∉ vs → ρ'[j]? = ρ[j]?) (ht : Inert t) (he : Inert e) : ∀ ds acc, Inert (compL m t e vs ds acc)
  | [], acc => inert_pure
  | d :: ds, acc => fun ρ n a ρ' h => by
    unfold compL at h
    split at h
    · rename_i hall
      have hfr : ∀ v ∈ vs, isFree ρ[v]? = true := by simpa using hall
      have nw : NoOwn (wipeS ρ vs) := by
        have : ∀ vs : List Nat, NoOwn (wipeS ρ vs) := fun vs => by
          induction vs with
          | nil => exact n
          | cons v vs ih =>
            intro i s hs
            unfold wipeS at hs
            rcases get_set_cases hs with ⟨_, z, _⟩ | ⟨_, z⟩
            · rw [← z]; rfl
            · exact ih i s z
        exact this vs
      have wg : ∀ (vs : List Nat) (j : Nat), j ∉ vs → (wipeS ρ vs)[j]? = ρ[j]? := fun vs => by
        induction vs with
        | nil => exact fun _ _ => rfl
        | cons v vs ih =>
          intro j hj
          unfold wipeS
          rw [List.getElem?_set_ne (fun e => hj (by simp [e]))]
          exact ih j fun z => hj (List.mem_cons_of_mem _ z)
      split at h
      · cases h
      · rename_i ρ1 h1
        obtain ⟨n1, l1, g1⟩ := hm d _ ρ1 h1 nw
        have same : backS ρ ρ1 vs = ρ := by
          refine List.ext_getElem? fun j => ?_
          have rl : ρ1.length = ρ.length := by rw [l1, wipeS_length]
          by_cases hj : j ∈ vs
          · by_cases hlt : j < ρ.length
            · rw [backS_in (by rw [rl]; exact hlt) vs hj, List.getD_eq_getElem?_getD, List.getElem?_eq_getElem hlt]
              rfl
            · rw [List.getElem?_eq_none (by rw [backS_length, rl]; omega), List.getElem?_eq_none (by omega)]
          · rw [backS_out vs hj, g1 j hj, wg vs j hj]
        split at h
        · rename_i ρ2 h2
          have e2 := ht ρ1 n1 _ ρ2 h2
          subst e2
          split at h
          · rename_i y ρ3 h3
            have e3 := he ρ2 n1 _ ρ3 h3
            subst e3
            split at h
            · rw [same] at h
              exact inert_compL hm ht he ds _ ρ n a ρ' h
            · cases h
          · cases h
        · rename_i ρ2 h2
          have e2 := ht ρ1 n1 _ ρ2 h2
          subst e2
          rw [same] at h
          exact inert_compL hm ht he ds _ ρ n a ρ' h
        · cases h
    · cases h
/-- targets touch their slots alone -/
structure GOk (m : MG) (ts : List Nat) : Prop where
  run : ∀ d ρ ρ', m d ρ = some ρ' → NoOwn ρ → NoOwn ρ' ∧ ρ'.length = ρ.length ∧ ∀ j, j ∉ ts → ρ'[j]? = ρ[j]?
structure GsOk (m : MGs) (ts : List Nat) : Prop where
  run : ∀ d ρ ρ', m d ρ = some ρ' → NoOwn ρ → NoOwn ρ' ∧ ρ'.length = ρ.length ∧ ∀ j, j ∉ ts → ρ'[j]? = ρ[j]?
theorem gok_name {i : Nat} : GOk (gN i) [i] := ⟨fun d ρ ρ' h n => by
  unfold gN at h
  split at h
  · cases h
    refine ⟨fun j s hs => ?_, List.length_set, fun j hj => List.getElem?_set_ne fun z => hj (by simp [z])⟩
    rcases get_set_cases hs with ⟨_, z, _⟩ | ⟨_, z⟩
    · rw [← z]; rfl
    · exact n j s z
  · cases h⟩
theorem gok_nil : GsOk gsNil [] := ⟨fun d ρ ρ' h n => by
  unfold gsNil at h
  split at h
  · cases h; exact ⟨n, rfl, fun _ _ => rfl⟩
  · cases h⟩
theorem gok_cons {m : MG} {ms : MGs} {ts us : List Nat} (h1 : GOk m ts) (h2 : GsOk ms us) : GsOk (gsCons m ms) (ts ++ us) := ⟨fun d ρ ρ' h n => by
  unfold gsCons at h
  split at h
  · obtain ⟨ρ1, a, b⟩ := Option.bind_eq_some_iff.mp h
    obtain ⟨n1, l1, g1⟩ := h1.run _ _ _ a n
    obtain ⟨n2, l2, g2⟩ := h2.run _ _ _ b n1
    exact ⟨n2, l2.trans l1, fun j hj => (g2 j fun z => hj (List.mem_append_right _ z)).trans (g1 j fun z => hj (List.mem_append_left _ z))⟩
  · cases h⟩
theorem gok_tup {ms : MGs} {ts : List Nat} (h : GsOk ms ts) : GOk (gT ms) ts := ⟨fun d ρ ρ' q n => by
  unfold gT at q
  split at q
  · exact h.run _ _ _ q n
  · exact h.run _ _ _ q n
  · cases q⟩
end
section
variable {X : Cx} {cls : Nat → Value} {W : WX} {e a b : Expr} {es : List Expr} {f g : M D} {tf : M Bool} {pos : Pos} {sf sg : MS} {st : Stmt} {sts : List Stmt}
theorem sim_comp_at {K : PySem.W.Frag} {wi : TI} {fi : M (List D)} {g : TG} {m : MG} {tt : TT} {tm : M Bool} {te : TE} {em : M D} {vs ts : List Nat} {F : Fm} {ρ : List Sl} {σ : St} {G H : Hp} (hi : ∀ Q : It → Hp → Prop, wpR (fi ρ) (fun ds ρ' => ∀ J G' H', Ex G G' → CS K F G' H' σ ρ' → Walks K J G' ds → Q J H') (PEx K cls W F G σ) → wi σ H Q) (hg : SimG K g m ts) (ht : SimT K cls noW tt tm) (he : SimE K cls noW te em) (hts : ∀ t ∈ ts, t ∈ vs) (Q : VK)
    (w : wpR (eComp fi m tm em vs ρ) (PNw K F G σ Q) (PEx K cls W F G σ)) : tLc wi g tt te vs σ H Q := by
  refine hi _ ((wpR_bind w).mono (fun ds ρ1 w1 J G1 H1 e1 c1 wk => ?_) fun _ _ p => p)
  intro p hp
  obtain ⟨h0, hg0, hgg⟩ := c1.fresh hp
  have nB : ∀ i, (i, p) ∉ F.B := fun i hi => by
    obtain ⟨d, x1, x2⟩ := c1.bb i p hi
    exact c1.notMine hp x1 rfl x2
  refine ⟨fun i n H2 => ∃ ρ2 G2 acc ys, i + n = ds.length ∧ Ex G1 G2 ∧ CS K F G2 H2 σ ρ2 ∧ H2 p = some (.lst acc) ∧ G2 p = none ∧ (∀ (i : Nat) s e, ρ2[i]? = some s → s.mine = some e → σ[i]? ≠ some (some (.ref p))) ∧ RepL K G2 acc ys ∧
    wpR (compL m tm em vs (ds.drop i) ys ρ2) (fun ys ρ' => PNw K F G σ Q (.lst ys) ρ') (PEx K cls W F G σ), ?_, ?_⟩
  · obtain ⟨c2, f2⟩ := fr_new c1 hp (o := .lst []) (d := .lst []) ⟨[], upd_same, .nil⟩
    exact ⟨ds.length, ρ1, G1, [], [], by omega, Same.refl G1, c2, upd_same, f2.g, f2.nm, .nil, (wpR_bind w1).mono (fun _ _ p => p) fun _ _ p => p⟩
  · rintro i n H2 ⟨ρ2, G2, acc, ys, hn, e2, c2, hD, gD, nD, rA, wp⟩
    by_cases hlt : i < ds.length
    · obtain ⟨wg, wst⟩ := wk F G2 H2 σ ρ2 e2 c2
      have hd : ds[i]? = some ds[i] := List.getElem?_eq_getElem hlt
      refine .inr ⟨(wg i _ hd).1, fun H3 => ∃ ρ3 G3 acc ys, Ex G1 G3 ∧ CS K F G3 H3 σ ρ3 ∧ H3 p = some (.lst acc) ∧ G3 p = none ∧ (∀ (i : Nat) s e, ρ3[i]? = some s → s.mine = some e → σ[i]? ≠ some (some (.ref p))) ∧ RepL K G3 acc ys ∧
          wpR (compL m tm em vs (ds.drop (i + 1)) ys ρ3) (fun ys ρ' => PNw K F G σ Q (.lst ys) ρ') (PEx K cls W F G σ), fun H3 ⟨ρ3, G3, acc, ys, q1, q2, q3, q4, q5, q6, q7⟩ => ⟨n - 1, by omega, ρ3, G3, acc, ys, by omega, q1, q2, q3, q4, q5, q6, q7⟩, fun x H3 hy => ?_⟩
      -- the pair's heap: protect the list
      have c2p := c2.protect hD gD nD
      obtain ⟨wg2, _⟩ := wk (F.with p (.lst acc)) G2 H2 σ ρ2 e2 c2p
      obtain ⟨G3, e3, c3, r3⟩ := (wg2 i _ hd).2 x H3 hy
      rw [List.drop_eq_getElem_cons hlt] at wp
      unfold compL at wp
      split at wp
      · rename_i hall
        have hfr : ∀ v ∈ vs, isFree ρ2[v]? = true := by simpa using hall
        cases hm : m ds[i] (wipeS ρ2 vs) with
        | none => rw [hm] at wp; exact wp.elim
        | some ρ3 =>
          rw [hm] at wp
          dsimp only at wp
          refine hg _ _ (wipe σ vs) G3 H3 x _ ρ3 (c3.wipe vs hfr) r3 hm _ fun σ4 b4 c4 => ⟨wipe_but b4 hts, ?_⟩
          have hs4 : ∀ j : Nat, j ∉ vs → σ4[j]? = σ[j]? := fun j hj => (b4.2 j fun z => hj (hts j z)).trans (wipe_get vs j hj)
          have hl4 : σ4.length = σ.length := by rw [b4.1, wipe_length]
          refine ht _ ρ3 σ4 G3 H3 c4 _ ?_
          cases ht' : tm ρ3 with
          | bad => rw [ht'] at wp; exact wp.elim
          | ex n ρ' => rw [ht'] at wp; exact wp.elim
          | ok bb ρ5 =>
            rw [ht'] at wp
            intro G5 H5 e5 c5
            cases bb with
            | false =>
              dsimp only at wp
              have cu := c3.unwipe c5 e5 hfr hs4 hl4
              obtain ⟨k1, k2, k3, k4⟩ := cu.unprotect h0 hgg nB
              exact ⟨_, G5, acc, ys, (e2.trans e3).trans e5, k1, k2, k3, k4, rA.mono (e3.trans e5), wp⟩
            | true =>
              dsimp only at wp
              refine he _ ρ5 σ4 G5 H5 c5 _ ?_
              cases he' : em ρ5 with
              | bad => rw [he'] at wp; exact wp.elim
              | ex n ρ' => rw [he'] at wp; exact wp.elim
              | ok y ρ6 =>
                rw [he'] at wp
                dsimp only at wp
                intro v6 G6 H6 e6 c6 r6
                split at wp
                · rename_i hz
                  have cu := c3.unwipe c6 (e5.trans e6) hfr hs4 hl4
                  obtain ⟨k1, k2, k3, k4⟩ := cu.unprotect h0 hgg nB
                  refine ⟨acc, k2, by rw [rA.length]; exact sz_lt hz, _, G6, acc ++ [v6], ys ++ [y], ((e2.trans e3).trans e5).trans e6, ?_, upd_same, k3, k4, (rA.mono ((e3.trans e5).trans e6)).append (.cons r6 .nil), wp⟩
                  -- the list is written
                  refine ⟨fun b o e => ?_, k1.g0, fun b o e hb => ?_, k1.gn, k1.len, k1.vals, fun j d q => ?_, fun j d q => ?_, k1.bb, k1.sep⟩
                  · rw [upd_ne (ne_of_none e k3)]
                    exact k1.ex _ _ e
                  · rw [upd_ne (ne_of_none e h0)]
                    exact k1.fr b o e hb
                  · obtain ⟨l, x1, x2, x3, x4⟩ := k1.owns j d q
                    have ne : l ≠ p := fun z => k4 j _ d q rfl (z ▸ x1)
                    exact ⟨l, x1, x2.mono (Ex.ext (Same.refl _)) (upd_ne ne), x3, x4⟩
                  · obtain ⟨l, x1, x2, x3, x4⟩ := k1.bors j d q
                    have ne : l ≠ p := fun z => k4 j _ d q rfl (z ▸ x1)
                    exact ⟨l, x1, x2.mono (Ex.ext (Same.refl _)) (upd_ne ne), x3, x4⟩
                · exact wp.elim
      · exact wp.elim
    · have e : i = ds.length := by omega
      subst e
      obtain ⟨wg, wst⟩ := wk F G2 H2 σ ρ2 e2 c2
      refine .inl ⟨wst, ?_⟩
      rw [List.drop_length] at wp
      exact wp p G2 H2 (e1.trans e2) c2 ⟨⟨acc, hD, rA⟩, gD, h0, nD⟩
theorem sim_comp {K : PySem.W.Frag} {wi : TI} {fi : M (List D)} {g : TG} {m : MG} {tt : TT} {tm : M Bool} {te : TE} {em : M D} {vs ts : List Nat} (hi : SimI K cls W wi fi) (hg : SimG K g m ts) (ht : SimT K cls noW tt tm) (he : SimE K cls noW te em) (hts : ∀ t ∈ ts, t ∈ vs) :
    SimN K cls W (tLc wi g tt te vs) (eComp fi m tm em vs) := fun F ρ σ G H c Q w => sim_comp_at (hi F ρ σ G H c) hg ht he hts Q w
structure QTs (X : Cx) (cls : Nat → Value) (W : WX) (ifs : List Expr) (f : M Bool) : Prop where
  sim : ∃ t, PTs X ifs t ∧ SimT X.K cls W t f
  inert : Inert f
theorem qts_nil : QTs X cls W [] (mpure true) := ⟨⟨_, pts_nil, fun F ρ σ G H c Q w => w G H (Same.refl G) c⟩, inert_pure⟩
theorem qts_one (h : QT X cls W e tf) : QTs X cls W [e] tf := ⟨let ⟨t, p, s⟩ := h.sim; ⟨t, pts_one p, s⟩, h.inert⟩
end
end NT

set_option Elab.async false
set_option linter.all false
set_option maxRecDepth 100000
set_option maxHeartbeats 4000000
namespace NT
open PySem L2

/-! ### canonical readings -/
def tOfE (K : PySem.W.Frag) (cls : Nat → Value) (W : WX) (f : M D) : TE := fun σ H Q => ∃ F ρ G, CS K F G H σ ρ ∧ wpR (f ρ) (POk K F G σ Q) (PEx K cls W F G σ)
def tOfT (K : PySem.W.Frag) (cls : Nat → Value) (W : WX) (f : M Bool) : TT := fun σ H Q => ∃ F ρ G, CS K F G H σ ρ ∧ wpR (f ρ) (PTt K F G σ Q) (PEx K cls W F G σ)
def tOfG (K : PySem.W.Frag) (m : MG) (ts : List Nat) : TG := fun v σ H Q => ∃ F ρ G d ρ', CS K F G H σ ρ ∧ Rep K G v d ∧ m d ρ = some ρ' ∧ ∀ σ', But ts σ σ' → CS K F G H σ' ρ' → Q σ' H
section
variable {X : Cx} {cls : Nat → Value} {W : WX} {e a b : Expr} {es : List Expr} {f g : M D} {tf : M Bool} {pos : Pos} {sf sg : MS} {st : Stmt} {sts : List Stmt}
theorem QE.pe (h : QE X cls W e f) : PE X e (tOfE X.K cls W f) := by
  obtain ⟨⟨t, p, s⟩, _⟩ := h
  exact ⟨fun pins sh σ H Q I ⟨F, ρ, G, c, w⟩ => p.run pins sh σ H Q I (s F ρ σ G H c Q w)⟩
theorem QT.pt (h : QT X cls W e tf) : PT X e (tOfT X.K cls W tf) := by
  obtain ⟨⟨t, p, s⟩, _⟩ := h
  exact ⟨fun pins sh σ H Q I ⟨F, ρ, G, c, w⟩ => p.run pins sh σ H Q I (s F ρ σ G H c Q w)⟩
theorem QTs.pt (h : QTs X cls W es tf) : PTs X es (tOfT X.K cls W tf) := by
  obtain ⟨⟨t, p, s⟩, _⟩ := h
  exact ⟨fun pins sh σ H Q I ⟨F, ρ, G, c, w⟩ => p.run pins sh σ H Q I (s F ρ σ G H c Q w)⟩
theorem QG.pg {m : MG} {ts : List Nat} (h : QG X e m ts) : PG X e (tOfG X.K m ts) := by
  obtain ⟨⟨g, p, s⟩⟩ := h
  exact ⟨fun pins sh σ H v u Q I r ⟨F, ρ, G, d, ρ', c, rv, hm, q⟩ => p.run pins sh σ H v u Q I r (s F ρ σ G H v d ρ' c rv hm Q q)⟩
theorem simE_of {K : PySem.W.Frag} : SimE K cls W (tOfE K cls W f) f := fun F ρ σ G H c Q w => ⟨F, ρ, G, c, w⟩
theorem simT_of {K : PySem.W.Frag} : SimT K cls W (tOfT K cls W tf) tf := fun F ρ σ G H c Q w => ⟨F, ρ, G, c, w⟩
theorem simG_of {K : PySem.W.Frag} {m : MG} {ts : List Nat} : SimG K (tOfG K m ts) m ts := fun F ρ σ G H v d ρ' c r h Q q => ⟨F, ρ, G, d, ρ', c, r, h, q⟩

/-! ### comprehensions -/
variable {elt tg iter : Expr} {ifs : List Expr} {scope : Scope} {own : List (Str × Nat)} {fi : M (List D)} {m : MG} {tm : M Bool} {em : M D} {vs ts : List Nat}
theorem comp_inert (hi : Inert fi) (gok : GOk m ts) (hts : ∀ t ∈ ts, t ∈ vs) (ht : Inert tm) (he : Inert em) : Inert (eComp fi m tm em vs) :=
  inert_bind hi fun ds => inert_bind (inert_compL (fun d ρ ρ' h n => let ⟨a, b, c⟩ := gok.run d ρ ρ' h n; ⟨a, b, fun j hj => c j fun z => hj (hts j z)⟩) ht he ds []) fun _ => inert_pure
theorem q_comp (hc : X.calm = true) (hN : X.N.Nodup) (hi : QI X cls W tg iter fi) (ok : BlkOk X.N X.env.scope scope own)
    (hg : ∀ (s : Shared) (H : Hp) (C : Addr) (cl : List (Str × Addr)) (fp : List Addr), QG (X.blk s H scope (compEnvC scope cl C X.env) fp) tg m ts)
    (ht : ∀ (s : Shared) (H : Hp) (C : Addr) (cl : List (Str × Addr)) (fp : List Addr), QTs (X.blk s H scope (compEnvC scope cl C X.env) fp) cls noW ifs tm)
    (he : ∀ (s : Shared) (H : Hp) (C : Addr) (cl : List (Str × Addr)) (fp : List Addr), QE (X.blk s H scope (compEnvC scope cl C X.env) fp) cls noW elt em)
    (gok : GOk m ts) (hvs : own.map (·.2) = vs) (hts : ∀ t ∈ ts, t ∈ vs) (hs : ∀ x, foldedSetIterable iter X.env x = pure x := by intro _; rfl) :
    QN X cls W (.ListComp elt [⟨tg, iter, ifs, 0⟩] scope pos) (eComp fi m tm em vs) := by
  obtain ⟨⟨wi, pi, si⟩, ii⟩ := hi
  subst hvs
  refine ⟨⟨_, pe_lc hc hN pi ok (g := tOfG X.K m ts) (tt := tOfT X.K cls noW tm) (te := tOfE X.K cls noW em) (fun s H C cl fp => (hg s H C cl fp).pg) (fun s H C cl fp => (ht s H C cl fp).pt) (fun s H C cl fp => (he s H C cl fp).pe) hs, ?_⟩, comp_inert ii gok hts (ht X.s_0 X.H_0 0 [] []).inert (he X.s_0 X.H_0 0 [] []).inert⟩
  exact sim_comp si simG_of simT_of simE_of hts
/-- x = [..] -/
theorem q_setLcN (i : Nat) {y : Str} {py spos : Pos} (hc : X.calm = true) (hN : X.N.Nodup) (hy : X.N[i]? = some y) (hyl : X.env.scope.names.lookup y = some .local)
    (hsw : swapsWith (.ListComp elt [⟨tg, iter, ifs, 0⟩] scope pos) (some (.Name y py)) spos.line X.env = pure true) (hi : QI X cls W tg iter fi) (ok : BlkOk X.N X.env.scope scope own)
    (hg : ∀ (s : Shared) (H : Hp) (C : Addr) (cl : List (Str × Addr)) (fp : List Addr), QG (X.blk s H scope (compEnvC scope cl C X.env) fp) tg m ts)
    (ht : ∀ (s : Shared) (H : Hp) (C : Addr) (cl : List (Str × Addr)) (fp : List Addr), QTs (X.blk s H scope (compEnvC scope cl C X.env) fp) cls noW ifs tm)
    (he : ∀ (s : Shared) (H : Hp) (C : Addr) (cl : List (Str × Addr)) (fp : List Addr), QE (X.blk s H scope (compEnvC scope cl C X.env) fp) cls noW elt em)
    (gok : GOk m ts) (hvs : own.map (·.2) = vs) (hts : ∀ t ∈ ts, t ∈ vs) (hs : ∀ x, foldedSetIterable iter X.env x = pure x := by intro _; rfl) :
    QS X cls W (.Assign [.Name y py] (.ListComp elt [⟨tg, iter, ifs, 0⟩] scope pos) spos) (sSetN i (eComp fi m tm em vs)) := by
  obtain ⟨⟨wi, pi, si⟩, ii⟩ := hi
  subst hvs
  exact ⟨⟨_, ps_setLc hc hN hy hyl hsw pi ok (g := tOfG X.K m ts) (tt := tOfT X.K cls noW tm) (te := tOfE X.K cls noW em) (fun s H C cl fp => (hg s H C cl fp).pg) (fun s H C cl fp => (ht s H C cl fp).pt) (fun s H C cl fp => (he s H C cl fp).pe) hs, sim_setN (sim_comp si simG_of simT_of simE_of hts)⟩⟩
theorem q_setLc (i : Nat) {y : Str} {py spos : Pos} (hc : X.calm = true) (hN : X.N.Nodup) (hy : X.N[i]? = some y) (hyl : X.env.scope.names.lookup y = some .local)
    (hsw : swapsWith (.ListComp elt [⟨tg, iter, ifs, 0⟩] scope pos) (some (.Name y py)) spos.line X.env = pure true) (hi : QI X cls W tg iter fi) (ok : BlkOk X.N X.env.scope scope own)
    (hg : ∀ (s : Shared) (H : Hp) (C : Addr) (cl : List (Str × Addr)) (fp : List Addr), QG (X.blk s H scope (compEnvC scope cl C X.env) fp) tg m ts)
    (ht : ∀ (s : Shared) (H : Hp) (C : Addr) (cl : List (Str × Addr)) (fp : List Addr), QTs (X.blk s H scope (compEnvC scope cl C X.env) fp) cls noW ifs tm)
    (he : ∀ (s : Shared) (H : Hp) (C : Addr) (cl : List (Str × Addr)) (fp : List Addr), QE (X.blk s H scope (compEnvC scope cl C X.env) fp) cls noW elt em)
    (gok : GOk m ts) (hvs : own.map (·.2) = vs) (hts : ∀ t ∈ ts, t ∈ vs) (hs : ∀ x, foldedSetIterable iter X.env x = pure x := by intro _; rfl) :
    QS X cls W (.Assign [.Name y py] (.ListComp elt [⟨tg, iter, ifs, 0⟩] scope pos) spos) (sSet i (eComp fi m tm em vs)) := by
  obtain ⟨⟨wi, pi, si⟩, ii⟩ := hi
  subst hvs
  exact ⟨⟨_, ps_setLc hc hN hy hyl hsw pi ok (g := tOfG X.K m ts) (tt := tOfT X.K cls noW tm) (te := tOfE X.K cls noW em) (fun s H C cl fp => (hg s H C cl fp).pg) (fun s H C cl fp => (ht s H C cl fp).pt) (fun s H C cl fp => (he s H C cl fp).pe) hs, sim_set (sim_comp si simG_of simT_of simE_of hts).frz⟩⟩
end

/-! ### defs and calls -/
def spD (K : PySem.W.Frag) (cls : Nat → Value) (np ns : Nat) (den : MS) : Sp := fun vs H Q E => vs.length = np ∧ ∃ G B args, CS K ⟨H, G, B⟩ G H (vs.map some) args ∧
  PO K cls (fun c d _ H' => E c d H') ⟨H, G, B⟩ G ⟨fun _ H' => Q .non H', Q, fun _ _ => False, fun _ _ => False⟩ (den (args ++ List.replicate ns .no))
section
variable {K : PySem.W.Frag} {F : Fm} {G H G' H' : Hp} {σ σ' : St} {ρ ρ' : List Sl} {cls : Nat → Value} {W : WX}
theorem get_rep {n i : Nat} {α : Type} {l : List α} {a b : α} (h : (l ++ List.replicate n a)[i]? = some b) : l[i]? = some b ∨ (l.length ≤ i ∧ b = a) := by
  by_cases hi : i < l.length
  · rw [List.getElem?_append_left hi] at h
    exact .inl h
  · rw [List.getElem?_append_right (by omega)] at h
    exact .inr ⟨by omega, (List.eq_of_mem_replicate (List.mem_of_getElem? h))⟩
theorem CS.pad (c : CS K F G H σ ρ) (n : Nat) : CS K F G H (σ ++ List.replicate n none) (ρ ++ List.replicate n .no) := by
  have up : ∀ {i : Nat} {v : Option V}, σ[i]? = some v → (σ ++ List.replicate n none)[i]? = some v := fun {i v} h => by
    rw [List.getElem?_append_left (List.getElem?_eq_some_iff.mp h).1]
    exact h
  have upr : ∀ {i : Nat} {v : Sl}, ρ[i]? = some v → (ρ ++ List.replicate n .no)[i]? = some v := fun {i v} h => by
    rw [List.getElem?_append_left (List.getElem?_eq_some_iff.mp h).1]
    exact h
  have dn : ∀ {i : Nat} {s : Sl}, (ρ ++ List.replicate n .no)[i]? = some s → s ≠ .no → ρ[i]? = some s := fun {i s} h hn => (get_rep h).resolve_right fun z => hn z.2
  have nn : ∀ {s : Sl} {d : D}, s.mine = some d → s ≠ .no := fun h z => by subst z; cases h
  have back : ∀ {i : Nat} {s : Sl} {v : Option V}, ρ[i]? = some s → (σ ++ List.replicate n none)[i]? = some v → σ[i]? = some v := fun {i s v} h h' => by
    have hl : i < σ.length := by
      rw [c.len]
      exact (List.getElem?_eq_some_iff.mp h).1
    rw [List.getElem?_append_left hl] at h'
    exact h'
  refine ⟨c.ex, c.g0, c.fr, c.gn, by simp [c.len], fun j d e => ?_, fun j d e => ?_, fun j d e => ?_, fun j l e => ?_, fun j k s1 s2 d1 d2 l hjk e1 m1 e2 m2 v1 v2 => ?_⟩
  · obtain ⟨v, x, y⟩ := c.vals j d (dn e fun z => by cases z)
    exact ⟨v, up x, y⟩
  · obtain ⟨v, x, y⟩ := c.owns j d (dn e fun z => by cases z)
    exact ⟨v, up x, y⟩
  · obtain ⟨v, x, y⟩ := c.bors j d (dn e fun z => by cases z)
    exact ⟨v, up x, y⟩
  · obtain ⟨d, x, y⟩ := c.bb j l e
    exact ⟨d, upr x, up y⟩
  · have e1 := dn e1 (nn m1)
    have e2 := dn e2 (nn m2)
    exact c.sep j k s1 s2 d1 d2 l hjk e1 m1 e2 m2 (back e1 v1) (back e2 v2)
theorem CS.args (ex : Ex G H) {vs : List V} {ds : List D} (r : RepL K G vs ds) : CS K ⟨H, G, []⟩ G H (vs.map some) (ds.map .val) := by
  have val : ∀ {i : Nat} {s : Sl}, (ds.map Sl.val)[i]? = some s → ∃ d, ds[i]? = some d ∧ s = .val d := fun {i s} h => by
    rw [List.getElem?_map] at h
    cases q : ds[i]? with
    | none => rw [q] at h; cases h
    | some d => rw [q] at h; cases h; exact ⟨d, rfl, rfl⟩
  refine ⟨ex, Same.refl G, fun b o e _ => e, fun b e1 e2 => (e2 e1).elim, by simp [r.length], fun j d e => ?_, fun j d e => ?_, fun j d e => ?_, fun j l e => (by cases e), fun j k s1 s2 d1 d2 l hjk e1 m1 e2 m2 v1 v2 => ?_⟩
  · obtain ⟨d', h1, h2⟩ := val e
    cases h2
    obtain ⟨v, hv, rv⟩ := r.get h1
    exact ⟨v, by rw [List.getElem?_map, hv]; rfl, rv⟩
  · obtain ⟨d', h1, h2⟩ := val e; cases h2
  · obtain ⟨d', h1, h2⟩ := val e; cases h2
  · obtain ⟨d', h1, h2⟩ := val e1
    subst h2
    cases m1
/-- behind a call that borrows nothing -/
theorem CS.back0 (c : CS K F G H σ ρ) (c' : CS K ⟨H, G, []⟩ G' H' σ' ρ') : CS K F G' H' σ ρ := by
  have keep : ∀ b o, H b = some o → H' b = some o := fun b o e => c'.fr b o e fun i z => by cases z
  have eG : Ex G G' := c'.g0
  have obj : ∀ {l d}, Obj K G H l d → G l = none → Obj K G' H' l d ∧ G' l = none := fun {l d} h hg => by
    obtain ⟨o, ho⟩ := h.some
    refine ⟨h.mono eG.ext ((keep l o ho).trans ho.symm), ?_⟩
    cases q : G' l with
    | none => rfl
    | some x =>
      have z := c'.gn l hg (by rw [q]; exact fun z => by cases z)
      have z : H l = none := z
      rw [ho] at z
      cases z
  refine ⟨c'.ex, c.g0.trans eG, fun b o e hb => keep b o (c.fr b o e hb), fun b e1 e2 => ?_, c.len, fun j d e => ?_, fun j d e => ?_, fun j d e => ?_, c.bb, c.sep⟩
  · cases q : G b with
    | some o => exact c.gn b e1 (by rw [q]; exact fun z => by cases z)
    | none => exact (c.fresh (c'.gn b q e2)).1
  · obtain ⟨v, x, y⟩ := c.vals j d e
    exact ⟨v, x, y.mono eG⟩
  · obtain ⟨l, x, y, z, u⟩ := c.owns j d e
    obtain ⟨k1, k2⟩ := obj y z
    exact ⟨l, x, k1, k2, u⟩
  · obtain ⟨l, x, y, z, u⟩ := c.bors j d e
    obtain ⟨k1, k2⟩ := obj y z
    exact ⟨l, x, k1, k2, u⟩
theorem Fr.back0 (c : CS K F G H σ ρ) {l : Addr} {d : D} (f : Fr K ⟨H, G, []⟩ G' H' σ' ρ' l d) : Fr K F G' H' σ ρ l d := by
  have hn : H l = none := f.h0
  exact ⟨f.obj, f.g, (c.fresh hn).1, fun i s e h1 h2 => c.notMine hn h1 h2⟩
end
def eCall (np ns : Nat) (den : MS) (dds : List D) (fa : M (List D)) : M D := mbind fa fun ds => fun ρ => if (ds ++ dds).length = np then match den ((ds ++ dds).map .val ++ List.replicate ns .no) with
  | .rt d _ => .ok d ρ
  | .rtN d _ => .ok d ρ
  | .nx _ => .ok .non ρ
  | .ex c _ => .ex c ρ
  | .bad => .bad
  else .bad
def eCallN (np ns : Nat) (den : MS) (dds : List D) (fa : M (List D)) : M D := mbind fa fun ds => fun ρ => if (ds ++ dds).length = np then match den ((ds ++ dds).map .val ++ List.replicate ns .no) with
  | .rtN d _ => .ok d ρ
  | .ex c _ => .ex c ρ
  | _ => .bad
  else .bad
theorem inert_call {np ns : Nat} {den : MS} {dds : List D} {fa : M (List D)} (h : Inert fa) : Inert (eCall np ns den dds fa) := inert_bind h fun ds ρ n a ρ' q => by
  split at q
  · split at q <;> first | (cases q; rfl) | cases q
  · cases q
theorem inert_callN {np ns : Nat} {den : MS} {dds : List D} {fa : M (List D)} (h : Inert fa) : Inert (eCallN np ns den dds fa) := inert_bind h fun ds ρ n a ρ' q => by
  split at q
  · split at q <;> first | (cases q; rfl) | cases q
  · cases q
section
variable {X : Cx} {cls : Nat → Value} {W : WX} {e a b : Expr} {es : List Expr} {f g : M D} {tf : M Bool} {pos : Pos} {sf sg : MS} {st : Stmt} {sts : List Stmt}
theorem sim_call {K : PySem.W.Frag} {np ns : Nat} {den : MS} {dvs : List V} {dds : List D} {ta : TA} {fa : M (List D)} (hd : ∀ G, RepL K G dvs dds) (ha : SimA K cls W ta fa) : SimE K cls W (tCallSD (spD K cls np ns den) dvs (WE W) ta) (eCall np ns den dds fa) := fun F ρ σ G H c Q w => by
  refine ha F ρ σ G H c _ ((wpR_bind w).mono (fun xs ρ1 w1 v1 G1 H1 e1 c1 r1 => ?_) fun _ _ p => p)
  split at w1
  · rename_i hl
    have r2 : RepL K G1 (v1 ++ dvs) (xs ++ dds) := r1.append (hd G1)
    refine ⟨by rw [r2.length]; exact hl, G1, [], _, CS.args c1.ex r2, ?_⟩
    split at w1
    · rename_i d ρ' q
      rw [q]
      exact fun v σ' G' H' e' c' r => w1 v G' H' (e1.trans e') (c1.back0 c') r
    · rename_i d ρ' q
      rw [q]
      intro l σ' G' H' e' c' fr
      obtain ⟨o, ho, c2, r, e2⟩ := (c1.back0 c').freeze (fr.back0 c1)
      exact w1 _ _ _ ((e1.trans e').trans e2) c2 r
    · rename_i ρ' q
      rw [q]
      exact fun σ' G' H' e' c' => w1 _ G' H' (e1.trans e') (c1.back0 c') .non
    · rename_i n ρ' q
      rw [q]
      exact fun σ' G' H' e' c' => w1 G' H' (e1.trans e') (c1.back0 c')
    · exact w1.elim
  · exact w1.elim
theorem sim_callN {K : PySem.W.Frag} {np ns : Nat} {den : MS} {dvs : List V} {dds : List D} {ta : TA} {fa : M (List D)} (hd : ∀ G, RepL K G dvs dds) (ha : SimA K cls W ta fa) : SimN K cls W (tCallSD (spD K cls np ns den) dvs (WE W) ta) (eCallN np ns den dds fa) := fun F ρ σ G H c Q w => by
  refine ha F ρ σ G H c _ ((wpR_bind w).mono (fun xs ρ1 w1 v1 G1 H1 e1 c1 r1 => ?_) fun _ _ p => p)
  split at w1
  · rename_i hl
    have r2 : RepL K G1 (v1 ++ dvs) (xs ++ dds) := r1.append (hd G1)
    refine ⟨by rw [r2.length]; exact hl, G1, [], _, CS.args c1.ex r2, ?_⟩
    split at w1
    · rename_i d ρ' q
      rw [q]
      exact fun l σ' G' H' e' c' fr => w1 l G' H' (e1.trans e') (c1.back0 c') (fr.back0 c1)
    · rename_i n ρ' q
      rw [q]
      exact fun σ' G' H' e' c' => w1 G' H' (e1.trans e') (c1.back0 c')
    · exact w1.elim
  · exact w1.elim
theorem q_call {np ns : Nat} {den : MS} {dvs : List V} {dds : List D} {fa : M (List D)} (hp : ∀ ta, PA X es ta → PE X e (tCallSD (spD X.K cls np ns den) dvs (WE W) ta)) (hd : ∀ G, RepL X.K G dvs dds) (ha : QA X cls W es fa) : QE X cls W e (eCall np ns den dds fa) :=
  ⟨let ⟨t, p, s⟩ := ha.sim; ⟨_, hp t p, sim_call hd s⟩, inert_call ha.inert⟩
theorem q_callN {np ns : Nat} {den : MS} {dvs : List V} {dds : List D} {fa : M (List D)} (hp : ∀ ta, PA X es ta → PE X e (tCallSD (spD X.K cls np ns den) dvs (WE W) ta)) (hd : ∀ G, RepL X.K G dvs dds) (ha : QA X cls W es fa) : QN X cls W e (eCallN np ns den dds fa) :=
  ⟨let ⟨t, p, s⟩ := ha.sim; ⟨_, hp t p, sim_callN hd s⟩, inert_callN ha.inert⟩
end
/-! the def -/
theorem def_ok {P : Program} {w : World} {K : PySem.W.Frag} {mg : Str → Option Value} {base : Heap} {cls : Nat → Value} {x qual : Str} {st : Stmt} {f : Addr} {fd : FuncData} {N ps : List Str} {k np ns : Nat} {den : MS} (Fn : Fun K x qual st f fd) (S : FnScope N ps (defScope st)) (hp : ps.length = np) (hn : N.length = np + ns)
    (hb : ∀ (cdv : Value) (A : Around) (outer : List Env) (s : Shared) (H : Hp) (E : XK), Room k (A.deeper (PyProof.Rows.envOfC qual (defScope st) s.heap.objs.size f cdv)) →
      Takes (cxOf (L2.CX P w) P w K mg base N qual (defScope st) f cdv A outer s H E) (fun c d _ H' => E c d H') →
      QB (cxOf (L2.CX P w) P w K mg base N qual (defScope st) f cdv A outer s H E) cls (fun c d _ H' => E c d H') (defBody st) den) : FnOk P w K mg base (L2.CX P w) (k + 1) f fd ps (spD K cls np ns den) := by
  refine Fn.okX S (fun vs H Q E h => by rw [h.1, hp]) fun cdv A outer s H vs Q E hr h => ?_
  obtain ⟨hl, G, B, args, c, po⟩ := h
  obtain ⟨⟨t, pt, sim⟩⟩ := hb cdv A outer s H E hr (takes_of (E := E) rfl rfl rfl rfl)
  refine ⟨t, pt, ?_⟩
  have c2 := c.pad ns
  have e : L2.start N vs = vs.map some ++ List.replicate ns none := by
    unfold L2.start
    rw [hn, hl, Nat.add_sub_cancel_left]
  rw [e]
  exact sim _ _ _ G H c2 _ po
end NT

set_option Elab.async false
set_option linter.all false
set_option maxRecDepth 100000
set_option maxHeartbeats 4000000
namespace NT
open PySem L2

/-! ### calls that borrow an owned slot -/
section
variable {K : PySem.W.Frag} {F : Fm} {G H G' H' : Hp} {σ σ' : St} {ρ ρ' : List Sl} {cls : Nat → Value} {W : WX}
theorem mid_cases {α : Type} {l r : List α} {a x : α} {i : Nat} (h : (l ++ a :: r)[i]? = some x) : (i < l.length ∧ l[i]? = some x) ∨ (i = l.length ∧ x = a) ∨ ∃ j, i = l.length + 1 + j ∧ r[j]? = some x := by
  by_cases h1 : i < l.length
  · rw [List.getElem?_append_left h1] at h
    exact .inl ⟨h1, h⟩
  · rw [List.getElem?_append_right (by omega)] at h
    by_cases h2 : i = l.length
    · subst h2
      rw [Nat.sub_self] at h
      exact .inr (.inl ⟨rfl, (Option.some.inj h).symm⟩)
    · refine .inr (.inr ⟨i - l.length - 1, by omega, ?_⟩)
      have e : i - l.length = (i - l.length - 1) + 1 := by omega
      rw [e, List.getElem?_cons_succ] at h
      exact h
theorem mid_l {α : Type} {l r : List α} {a x : α} {i : Nat} (h : l[i]? = some x) : (l ++ a :: r)[i]? = some x := by
  rw [List.getElem?_append_left (List.getElem?_eq_some_iff.mp h).1]
  exact h
theorem mid_m {α : Type} {l r : List α} {a : α} : (l ++ a :: r)[l.length]? = some a := by
  rw [List.getElem?_append_right (Nat.le_refl _), Nat.sub_self]
  rfl
theorem mid_r {α : Type} {l r : List α} {a x : α} {j : Nat} (h : r[j]? = some x) : (l ++ a :: r)[l.length + 1 + j]? = some x := by
  rw [List.getElem?_append_right (by omega)]
  have e : l.length + 1 + j - l.length = j + 1 := by omega
  rw [e, List.getElem?_cons_succ]
  exact h
theorem map_val {ds : List D} {i : Nat} {s : Sl} (h : (ds.map Sl.val)[i]? = some s) : ∃ d, ds[i]? = some d ∧ s = .val d := by
  rw [List.getElem?_map] at h
  cases q : ds[i]? with
  | none => rw [q] at h; cases h
  | some d => rw [q] at h; cases h; exact ⟨d, rfl, rfl⟩
theorem map_some {vs : List V} {i : Nat} {v : V} (h : vs[i]? = some v) : (vs.map some)[i]? = some (some v) := by
  rw [List.getElem?_map, h]
  rfl
theorem CS.argsO (c : CS K F G H σ ρ) {j : Nat} {s : Sl} {d : D} {l : Addr} (hj : ρ[j]? = some s) (hm : s.mine = some d) (hl : σ[j]? = some (some (.ref l))) {vs1 vs2 : List V} {pre post : List D} (r1 : RepL K G vs1 pre) (r2 : RepL K G vs2 post) :
    CS K ⟨H, G, [(pre.length, l)]⟩ G H ((vs1 ++ .ref l :: vs2).map some) (pre.map .val ++ .bor d :: post.map .val) := by
  obtain ⟨l', a1, a2, a3, a4⟩ := c.mine hj hm
  rw [hl] at a1
  cases a1
  have e1 : (pre.map Sl.val).length = pre.length := List.length_map _
  have e2 : vs1.length = pre.length := r1.length
  have eσ : (vs1 ++ V.ref l :: vs2).map some = vs1.map some ++ some (V.ref l) :: vs2.map some := by simp
  rw [eσ]
  have el : (vs1.map some).length = pre.length := by rw [List.length_map, e2]
  have one : ∀ {i : Nat} {t : Sl} {x : D}, (pre.map Sl.val ++ Sl.bor d :: post.map Sl.val)[i]? = some t → t.mine = some x → i = pre.length ∧ t = .bor d := fun {i t x} h h2 => by
    rcases mid_cases h with ⟨_, z⟩ | ⟨z, z2⟩ | ⟨_, _, z⟩
    · obtain ⟨_, _, z⟩ := map_val z
      subst z; cases h2
    · exact ⟨by rw [z, e1], z2⟩
    · obtain ⟨_, _, z⟩ := map_val z
      subst z; cases h2
  refine ⟨c.ex, Same.refl G, fun b o e _ => e, fun b x y => (y x).elim, by simp [e2, r2.length], fun i x e => ?_, fun i x e => ?_, fun i x e => ?_, fun i k e => ?_, fun i k s1 s2 d1 d2 l hjk e1 m1 e2 m2 v1 v2 => ?_⟩
  · rcases mid_cases e with ⟨_, z⟩ | ⟨z, z2⟩ | ⟨m, z, z2⟩
    · obtain ⟨d', h1, h2⟩ := map_val z
      cases h2
      obtain ⟨v, hv, rv⟩ := r1.get h1
      exact ⟨v, mid_l (map_some hv), rv⟩
    · cases z2
    · obtain ⟨d', h1, h2⟩ := map_val z2
      cases h2
      obtain ⟨v, hv, rv⟩ := r2.get h1
      refine ⟨v, ?_, rv⟩
      rw [z, e1, ← el]
      exact mid_r (map_some hv)
  · obtain ⟨_, z⟩ := one e rfl
    cases z
  · obtain ⟨z1, z⟩ := one e rfl
    cases z
    subst z1
    refine ⟨l, ?_, a2, a3, List.mem_singleton.mpr rfl⟩
    rw [← el]
    exact mid_m
  · have e := List.mem_singleton.mp e
    cases e
    refine ⟨d, ?_, ?_⟩
    · rw [← e1]
      exact mid_m
    · rw [← el]
      exact mid_m
  · obtain ⟨z1, _⟩ := one e1 m1
    obtain ⟨z2, _⟩ := one e2 m2
    exact hjk (z1.trans z2.symm)
theorem CS.backO (c : CS K F G H σ ρ) {j k : Nat} {s : Sl} {d d' : D} {l : Addr} (hj : ρ[j]? = some s) (hm : s.mine = some d) (hl : σ[j]? = some (some (.ref l))) (c' : CS K ⟨H, G, [(k, l)]⟩ G' H' σ' ρ') (hk : ρ'[k]? = some (.bor d')) : CS K F G' H' σ (ρ.set j (s.with d')) := by
  obtain ⟨l', a1, a2, a3, a4⟩ := c.mine hj hm
  rw [hl] at a1
  cases a1
  obtain ⟨l', b1, b2, b3, b4⟩ := c'.bors k d' hk
  have b4 := List.mem_singleton.mp b4
  cases b4
  have keep : ∀ b o, H b = some o → b ≠ l → H' b = some o := fun b o e ne => c'.fr b o e fun i z => ne (by have z := List.mem_singleton.mp z; cases z; rfl)
  have eG : Ex G G' := c'.g0
  have jl : j < ρ.length := (List.getElem?_eq_some_iff.mp hj).1
  have obj : ∀ {m e}, Obj K G H m e → G m = none → m ≠ l → Obj K G' H' m e ∧ G' m = none := fun {m e} h hg ne => by
    obtain ⟨o, ho⟩ := h.some
    refine ⟨h.mono eG.ext ((keep m o ho ne).trans ho.symm), ?_⟩
    cases q : G' m with
    | none => rfl
    | some x =>
      have z := c'.gn m hg (by rw [q]; exact fun z => by cases z)
      have z : H m = none := z
      rw [ho] at z
      cases z
  have other : ∀ {i : Nat} {t : Sl} {e : D} {m : Addr}, j ≠ i → ρ[i]? = some t → t.mine = some e → σ[i]? = some (some (.ref m)) → m ≠ l := fun {i t e m} ne h1 h2 h3 z => by
    subst z
    exact c.sep j i s t d e m ne hj hm h1 h2 hl h3
  refine ⟨c'.ex, c.g0.trans eG, fun b o e hb => ?_, fun b e1 e2 => ?_, by simpa using c.len, fun i x e => ?_, fun i x e => ?_, fun i x e => ?_, fun i m e => ?_, fun i m s1 s2 d1 d2 l2 hjk e1 m1 e2 m2 v1 v2 => ?_⟩
  · have ne : b ≠ l := fun z => by
      subst z
      rcases a4 with z | z
      · rw [z] at e; cases e
      · exact hb _ z
    exact keep b o (c.fr b o e hb) ne
  · cases q : G b with
    | some o => exact c.gn b e1 (by rw [q]; exact fun z => by cases z)
    | none => exact (c.fresh (c'.gn b q e2)).1
  · rcases get_set_cases e with ⟨_, z, _⟩ | ⟨_, z⟩
    · cases s with
      | own y => exact nomatch (show Sl.own d' = Sl.val x from z)
      | bor y => exact nomatch (show Sl.bor d' = Sl.val x from z)
      | no => cases hm
      | val y => cases hm
    · obtain ⟨v, y, w⟩ := c.vals i x z
      exact ⟨v, y, w.mono eG⟩
  · rcases get_set_cases e with ⟨rfl, z, _⟩ | ⟨ne, z⟩
    · cases s with
      | own y =>
        cases z
        obtain ⟨l2, x1, x2, x3, x4⟩ := c.owns j _ hj
        rw [hl] at x1
        cases x1
        exact ⟨l, hl, b2, b3, x4⟩
      | bor y => exact nomatch (show Sl.bor d' = Sl.own x from z)
      | no => cases hm
      | val y => cases hm
    · obtain ⟨l2, x1, x2, x3, x4⟩ := c.owns i x z
      obtain ⟨k1, k2⟩ := obj x2 x3 (other ne z rfl x1)
      exact ⟨l2, x1, k1, k2, x4⟩
  · rcases get_set_cases e with ⟨rfl, z, _⟩ | ⟨ne, z⟩
    · cases s with
      | bor y =>
        cases z
        obtain ⟨l2, x1, x2, x3, x4⟩ := c.bors j _ hj
        rw [hl] at x1
        cases x1
        exact ⟨l, hl, b2, b3, x4⟩
      | own y => exact nomatch (show Sl.own d' = Sl.bor x from z)
      | no => cases hm
      | val y => cases hm
    · obtain ⟨l2, x1, x2, x3, x4⟩ := c.bors i x z
      obtain ⟨k1, k2⟩ := obj x2 x3 (other ne z rfl x1)
      exact ⟨l2, x1, k1, k2, x4⟩
  · obtain ⟨y, h1, h2⟩ := c.bb i m e
    by_cases ne : j = i
    · subst ne
      rw [hj] at h1
      cases h1
      exact ⟨d', by rw [List.getElem?_set_self jl]; rfl, h2⟩
    · exact ⟨y, by rw [List.getElem?_set_ne ne]; exact h1, h2⟩
  · have back : ∀ {i : Nat} {t : Sl} {e : D}, (ρ.set j (s.with d'))[i]? = some t → t.mine = some e → ∃ t' e', ρ[i]? = some t' ∧ t'.mine = some e' := fun {i t e} h1 h2 => by
      rcases get_set_cases h1 with ⟨rfl, _, _⟩ | ⟨_, h1⟩
      · exact ⟨s, d, hj, hm⟩
      · exact ⟨t, e, h1, h2⟩
    obtain ⟨t1, x1, y1, z1⟩ := back e1 m1
    obtain ⟨t2, x2, y2, z2⟩ := back e2 m2
    exact c.sep i m t1 t2 x1 x2 l2 hjk y1 z1 y2 z2 v1 v2
end
def SimAO (K : PySem.W.Frag) (cls : Nat → Value) (W : WX) (j : Nat) (ta : TA) (f : M (List D × List D)) : Prop := ∀ F ρ σ G H l, CS K F G H σ ρ → σ[j]? = some (some (.ref l)) → ∀ Q : List V → Hp → Prop,
  wpR (f ρ) (fun p ρ' => ∀ vs1 vs2 G' H', Ex G G' → CS K F G' H' σ ρ' → RepL K G' vs1 p.1 → RepL K G' vs2 p.2 → Q (vs1 ++ .ref l :: vs2) H') (PEx K cls W F G σ) → ta σ H Q
structure QAO (X : Cx) (cls : Nat → Value) (W : WX) (j : Nat) (es : List Expr) (f : M (List D × List D)) : Prop where
  sim : ∃ t, PA X es t ∧ SimAO X.K cls W j t f
def oHere (r : M (List D)) : M (List D × List D) := mbind r fun xs => mpure ([], xs)
def oThere (a : M D) (r : M (List D × List D)) : M (List D × List D) := mbind a fun x => mbind r fun p => mpure (x :: p.1, p.2)
def after {α : Type} (ρ ρ' : List Sl) (k j : Nat) (s : Sl) (r : α) : R α := match ρ'[k]? with
  | some (.bor d') => .ok r (ρ.set j (s.with d'))
  | _ => .bad
def afterX {α : Type} (ρ ρ' : List Sl) (k j : Nat) (s : Sl) (c : Nat) : R α := match ρ'[k]? with
  | some (.bor d') => .ex c (ρ.set j (s.with d'))
  | _ => .bad
def callO (np ns : Nat) (den : MS) (j : Nat) (p : List D × List D) : M D := fun ρ => match mineOf ρ j with
  | some (s, d) => if p.1.length + 1 + p.2.length = np then match den ((p.1.map .val ++ .bor d :: p.2.map .val) ++ List.replicate ns .no) with
    | .rt r ρ' => after ρ ρ' p.1.length j s r
    | .rtN r ρ' => after ρ ρ' p.1.length j s r
    | .nx ρ' => after ρ ρ' p.1.length j s .non
    | .ex c ρ' => afterX ρ ρ' p.1.length j s c
    | .bad => .bad
    else .bad
  | none => .bad
def callON (np ns : Nat) (den : MS) (j : Nat) (p : List D × List D) : M D := fun ρ => match mineOf ρ j with
  | some (s, d) => if p.1.length + 1 + p.2.length = np then match den ((p.1.map .val ++ .bor d :: p.2.map .val) ++ List.replicate ns .no) with
    | .rtN r ρ' => after ρ ρ' p.1.length j s r
    | .ex c ρ' => afterX ρ ρ' p.1.length j s c
    | _ => .bad
    else .bad
  | none => .bad
def eCallO (np ns : Nat) (den : MS) (j : Nat) (fa : M (List D × List D)) : M D := fun ρ => match mineOf ρ j with
  | some _ => mbind fa (callO np ns den j) ρ
  | none => .bad
def eCallON (np ns : Nat) (den : MS) (j : Nat) (fa : M (List D × List D)) : M D := fun ρ => match mineOf ρ j with
  | some _ => mbind fa (callON np ns den j) ρ
  | none => .bad
theorem inert_callO {np ns : Nat} {den : MS} {j : Nat} {fa : M (List D × List D)} : Inert (eCallO np ns den j fa) := fun ρ n a ρ' h => by
  unfold eCallO at h
  split at h
  · rename_i p e
    obtain ⟨h1, h2⟩ := mineOf_some (s := p.1) (d := p.2) e
    rw [n j _ h1] at h2
    cases h2
  · cases h
theorem inert_callON {np ns : Nat} {den : MS} {j : Nat} {fa : M (List D × List D)} : Inert (eCallON np ns den j fa) := fun ρ n a ρ' h => by
  unfold eCallON at h
  split at h
  · rename_i p e
    obtain ⟨h1, h2⟩ := mineOf_some (s := p.1) (d := p.2) e
    rw [n j _ h1] at h2
    cases h2
  · cases h
section
variable {X : Cx} {cls : Nat → Value} {W : WX} {e a b : Expr} {es : List Expr} {f g : M D} {tf : M Bool} {pos : Pos} {sf sg : MS} {st : Stmt} {sts : List Stmt}
theorem qao_here (j : Nat) {r : M (List D)} (hv : PE X a (tVar j)) (hr : QA X cls W es r) (hs : starEach (a :: es) X.env = (false, eval a X.env) :: starEach es X.env := by rfl) : QAO X cls W j (a :: es) (oHere r) := by
  obtain ⟨⟨t, p, s⟩, _⟩ := hr
  refine ⟨⟨_, pa_cons hv p hs, fun F ρ σ G H l c hl Q w => ⟨.ref l, hl, ?_⟩⟩⟩
  exact s F ρ σ G H c _ ((wpR_bind w).mono (fun xs ρ1 w1 v1 G1 H1 e1 c1 r1 => w1 [] v1 G1 H1 e1 c1 .nil r1) fun _ _ p => p)
theorem qao_there {j : Nat} {r : M (List D × List D)} (ha : QE X cls W a f) (hr : QAO X cls W j es r) (hs : starEach (a :: es) X.env = (false, eval a X.env) :: starEach es X.env := by rfl) : QAO X cls W j (a :: es) (oThere f r) := by
  obtain ⟨⟨ta, pa, sa⟩, _⟩ := ha
  obtain ⟨⟨t, p, s⟩⟩ := hr
  refine ⟨⟨_, pa_cons pa p hs, fun F ρ σ G H l c hl Q w => ?_⟩⟩
  refine sa F ρ σ G H c _ ((wpR_bind w).mono (fun x ρ1 w1 v1 G1 H1 e1 c1 r1 => ?_) fun _ _ p => p)
  refine s F ρ1 σ G1 H1 l c1 hl _ ((wpR_bind w1).mono (fun q ρ2 w2 vs1 vs2 G2 H2 e2 c2 k1 k2 => ?_) fun _ _ p => p.mono e1)
  exact w2 (v1 :: vs1) vs2 G2 H2 (e1.trans e2) c2 (.cons (r1.mono e2) k1) k2
theorem after_ok {α : Type} {ρ ρ' : List Sl} {k j : Nat} {s : Sl} {r : α} {P : α → List Sl → Prop} {E : Nat → List Sl → Prop} (h : wpR (after ρ ρ' k j s r) P E) : ∃ d', ρ'[k]? = some (.bor d') ∧ P r (ρ.set j (s.with d')) := by
  unfold after at h
  split at h
  · rename_i d' e; exact ⟨d', e, h⟩
  · exact h.elim
theorem afterX_ok {α : Type} {ρ ρ' : List Sl} {k j : Nat} {s : Sl} {c : Nat} {P : α → List Sl → Prop} {E : Nat → List Sl → Prop} (h : wpR (afterX ρ ρ' k j s c : R α) P E) : ∃ d', ρ'[k]? = some (.bor d') ∧ E c (ρ.set j (s.with d')) := by
  unfold afterX at h
  split at h
  · rename_i d' e; exact ⟨d', e, h⟩
  · exact h.elim
theorem fr_backO {K : PySem.W.Frag} {F : Fm} {G H G' H' : Hp} {σ σ' : St} {ρ ρ' : List Sl} {j k : Nat} {s : Sl} {d d' : D} {l m : Addr} {x : D} (c : CS K F G H σ ρ) (hj : ρ[j]? = some s) (hm : s.mine = some d) (f : Fr K ⟨H, G, [(k, l)]⟩ G' H' σ' ρ' m x) : Fr K F G' H' σ (ρ.set j (s.with d')) m x := by
  have hn : H m = none := f.h0
  refine ⟨f.obj, f.g, (c.fresh hn).1, fun i t e h1 h2 => ?_⟩
  rcases get_set_cases h1 with ⟨rfl, _, _⟩ | ⟨_, h1⟩
  · exact c.notMine hn hj hm
  · exact c.notMine hn h1 h2
theorem sim_callO {K : PySem.W.Frag} {np ns : Nat} {den : MS} {j : Nat} {ta : TA} {fa : M (List D × List D)} (ha : SimAO K cls W j ta fa) : SimE K cls W (tCallSD (spD K cls np ns den) [] (WE W) ta) (eCallO np ns den j fa) := fun F ρ σ G H c Q w => by
  unfold eCallO at w
  split at w
  · rename_i p0 e0
    obtain ⟨h1, h2⟩ := mineOf_some (s := p0.1) (d := p0.2) e0
    obtain ⟨l, a1, a2, a3, a4⟩ := c.mine h1 h2
    refine ha F ρ σ G H l c a1 _ ((wpR_bind w).mono (fun p ρ1 w1 vs1 vs2 G1 H1 e1 c1 r1 r2 => ?_) fun _ _ p => p)
    unfold callO at w1
    split at w1
    · rename_i s d es
      obtain ⟨b1, b2⟩ := mineOf_some es
      split at w1
      · rename_i hl
        have cc := c1.argsO b1 b2 a1 r1 r2
        refine ⟨?_, G1, [(p.1.length, l)], p.1.map .val ++ .bor d :: p.2.map .val, ?_, ?_⟩
        · rw [List.append_nil, List.length_append, List.length_cons, r1.length, r2.length]
          omega
        · rw [List.append_nil]
          exact cc
        · split at w1
          · rename_i r ρ' q
            rw [q]
            obtain ⟨d', k1, k2⟩ := after_ok w1
            exact fun v σ' G' H' e' c' rv => k2 v G' H' (e1.trans e') (c1.backO b1 b2 a1 c' k1) rv
          · rename_i r ρ' q
            rw [q]
            obtain ⟨d', k1, k2⟩ := after_ok w1
            intro m σ' G' H' e' c' fr
            obtain ⟨o, ho, c2, rr, e2⟩ := (c1.backO b1 b2 a1 c' k1).freeze (fr_backO c1 b1 b2 fr)
            exact k2 _ _ _ ((e1.trans e').trans e2) c2 rr
          · rename_i ρ' q
            rw [q]
            obtain ⟨d', k1, k2⟩ := after_ok w1
            exact fun σ' G' H' e' c' => k2 _ G' H' (e1.trans e') (c1.backO b1 b2 a1 c' k1) .non
          · rename_i n ρ' q
            rw [q]
            obtain ⟨d', k1, k2⟩ := afterX_ok w1
            exact fun σ' G' H' e' c' => k2 G' H' (e1.trans e') (c1.backO b1 b2 a1 c' k1)
          · exact w1.elim
      · exact w1.elim
    · exact w1.elim
  · exact w.elim
theorem sim_callON {K : PySem.W.Frag} {np ns : Nat} {den : MS} {j : Nat} {ta : TA} {fa : M (List D × List D)} (ha : SimAO K cls W j ta fa) : SimN K cls W (tCallSD (spD K cls np ns den) [] (WE W) ta) (eCallON np ns den j fa) := fun F ρ σ G H c Q w => by
  unfold eCallON at w
  split at w
  · rename_i p0 e0
    obtain ⟨h1, h2⟩ := mineOf_some (s := p0.1) (d := p0.2) e0
    obtain ⟨l, a1, a2, a3, a4⟩ := c.mine h1 h2
    refine ha F ρ σ G H l c a1 _ ((wpR_bind w).mono (fun p ρ1 w1 vs1 vs2 G1 H1 e1 c1 r1 r2 => ?_) fun _ _ p => p)
    unfold callON at w1
    split at w1
    · rename_i s d es
      obtain ⟨b1, b2⟩ := mineOf_some es
      split at w1
      · rename_i hl
        have cc := c1.argsO b1 b2 a1 r1 r2
        refine ⟨?_, G1, [(p.1.length, l)], p.1.map .val ++ .bor d :: p.2.map .val, ?_, ?_⟩
        · rw [List.append_nil, List.length_append, List.length_cons, r1.length, r2.length]
          omega
        · rw [List.append_nil]
          exact cc
        · split at w1
          · rename_i r ρ' q
            rw [q]
            obtain ⟨d', k1, k2⟩ := after_ok w1
            exact fun m σ' G' H' e' c' fr => k2 m G' H' (e1.trans e') (c1.backO b1 b2 a1 c' k1) (fr_backO c1 b1 b2 fr)
          · rename_i n ρ' q
            rw [q]
            obtain ⟨d', k1, k2⟩ := afterX_ok w1
            exact fun σ' G' H' e' c' => k2 G' H' (e1.trans e') (c1.backO b1 b2 a1 c' k1)
          · exact w1.elim
      · exact w1.elim
    · exact w1.elim
  · exact w.elim
theorem q_callO {np ns : Nat} {den : MS} {j : Nat} {fa : M (List D × List D)} (hp : ∀ ta, PA X es ta → PE X e (tCallSD (spD X.K cls np ns den) [] (WE W) ta)) (ha : QAO X cls W j es fa) : QE X cls W e (eCallO np ns den j fa) :=
  ⟨let ⟨t, p, s⟩ := ha.sim; ⟨_, hp t p, sim_callO s⟩, inert_callO⟩
theorem q_callON {np ns : Nat} {den : MS} {j : Nat} {fa : M (List D × List D)} (hp : ∀ ta, PA X es ta → PE X e (tCallSD (spD X.K cls np ns den) [] (WE W) ta)) (ha : QAO X cls W j es fa) : QN X cls W e (eCallON np ns den j fa) :=
  ⟨let ⟨t, p, s⟩ := ha.sim; ⟨_, hp t p, sim_callON s⟩, inert_callON⟩
end
end NT

set_option Elab.async false
set_option linter.all false
set_option maxRecDepth 100000
set_option maxHeartbeats 4000000
/-! two more calls of built-in types: list(reversed(xs)), dict(t) -/
namespace NT.RV
open PySem L2 PySem.Spec PyProof.Rows
section
variable {prog : Program} {w : World} {A : Around} {E : Value → Shared → Prop} {s : Shared}
theorem ext_rev {it l S : Addr} {items : Array Value} {c₀ : Nat} {R : Result → Shared → Prop} (hh : A.handled = none) (hit : s.heap.IsRevIter it l ((items.size : Int) - 1)) (hl : s.heap.IsList l items) (hne : l ≠ it) (hn : items.size ≤ sizeLine)
    (hS : s.heap.get? S = some { cls := .type "list", data := .seq #[] c₀ }) (hSi : S ≠ it) (hSl : S ≠ l)
    (hR : ∀ h' tk acc' c', (∀ b o, b ≠ S → b ≠ it → s.heap.get? b = some o → h'.get? b = some o) → h'.get? S = some { cls := .type "list", dict := none, data := .seq acc' c', slots := #[] } →
      ItemsOf (fun i v => items[items.size - 1 - i]? = some v) acc' items.size → R (.ok (.ret .none)) { s with heap := h', toks := tk }) :
    wpAny (model prog w) A.in1 (Builtin.List.listExtendWith (.ref S) (.ref it) .none) (fun fin s' => match fin with | .done f => R (.ok f) s' | .again c' => c'.quiet = true ∧ codeAny (model prog w) A c' R s') (fun e s' => R (.error e) s') s := by
  have W := (Walks.listRev (prog := prog) (w := w) (A := A.in1) hh it l hne items).toS
  have hSf : S ∉ [it, l] := by simp only [List.mem_cons, List.not_mem_nil, or_false, not_or]; exact ⟨hSi, hSl⟩
  have hT : s.TypeIs (.ref it) "list_reverseiterator" := hit.typeIs
  have h1 : Builtin.List.listSameRef (.ref S) (.ref it) = false := by simp [Builtin.List.listSameRef, hSi]
  unfold Builtin.List.listExtendWith
  refine wpAny_bind (wpAny_typeOf hT ?_)
  rw [if_neg (by rw [h1]; decide)]
  refine wpAny_bind (wpAny_pyIter_revIter hit ?_)
  refine wpAny_bind (wpAny_holding ?_)
  unfold Builtin.List.listLengthHint
  refine wpAny_bind (wpAny_specialOf hT RT.nolen_lri ?_)
  show wpAny _ A.in1 (specialOf (Value.ref it) (Str.ofString "__length_hint__") >>= _) _ _ _
  refine wpAny_bind (wpAny_specialOf hT RT.hint_lri ?_)
  generalize hid : ("list_reverseiterator.__length_hint__" : String) = id0
  wp_delta
  rw [show splitId id0 = some ("list_reverseiterator", "__length_hint__") from by subst hid; decide +kernel]
  subst hid
  refine wpAny_bind (wpAny_isInstance (b := true) hT (by rw [isSubtype_type]; kernel_rfl) ?_)
  refine wpAny_pure ?_
  rw [if_neg (by decide)]
  have e0 : ((items.size : Nat) : Int) - 1 - ((0 : Nat) : Int) = (items.size : Int) - 1 := by omega
  refine wpAny_pure ⟨plainId_quiet F.plain_extend_loop _, codeAny_extend_loopS W hn _ hSf _ items.size 0 _ _ _ rfl (Nat.zero_le _) ⟨Nat.zero_le _, by rw [e0]; exact hit, hl⟩ hS (ItemsOf.nil _) fun s' acc' c' hm hS' hacc => ?_⟩
  rw [Moved.eq_with hm]
  refine hR s'.heap s'.toks acc' c' (fun b o hb hb2 e => hm.heap b o (fun hmem => ?_) e) hS' hacc
  rcases List.mem_cons.mp hmem with e' | hmem
  · exact hb e'
  · exact hb2 (List.mem_singleton.mp hmem)
theorem init_rev {it l S : Addr} {items : Array Value} {R : Result → Shared → Prop} (hh : A.handled = none) (hit : s.heap.IsRevIter it l ((items.size : Int) - 1)) (hl : s.heap.IsList l items) (hne : l ≠ it) (hn : items.size ≤ sizeLine)
    (hS : s.heap.get? S = some { cls := .type "list", data := .seq #[] }) (hSi : S ≠ it) (hSl : S ≠ l)
    (hR : ∀ h' tk acc' c', (∀ b o, b ≠ S → b ≠ it → s.heap.get? b = some o → h'.get? b = some o) → h'.get? S = some { cls := .type "list", dict := none, data := .seq acc' c', slots := #[] } →
      ItemsOf (fun i v => items[items.size - 1 - i]? = some v) acc' items.size → R (.ok (.ret .none)) { s with heap := h', toks := tk }) :
    wpAny (model prog w) A.in1 (Builtin.«list.__init__» ⟨[.ref S, .ref it], []⟩) (fun fin s' => match fin with | .done f => R (.ok f) s' | .again c' => c'.quiet = true ∧ codeAny (model prog w) A c' R s') (fun e s' => R (.error e) s') s := by
  show wpAny _ _ (do let old ← Builtin.List.listItems (.ref S); Builtin.List.listUpdate (.ref S) (fun _ => #[]); letGo old.toList.reverse; Builtin.List.listExtendWith (.ref S) (.ref it) .none) _ _ s
  refine wpAny_bind ?_
  unfold Builtin.List.listItems
  refine wpAny_bind (wpAny_seqItems hS rfl (wpAny_pure ?_))
  show wpAny _ _ (updateSeq S (fun _ => #[]) >>= fun _ => letGo (#[] : Array Value).toList.reverse >>= fun _ => Builtin.List.listExtendWith (.ref S) (.ref it) .none) _ _ s
  refine wpAny_bind (wpAny_updateSeq hS rfl ?_)
  have hS₂ := Heap.get?_update_self (Obj.mapSeq (fun _ => (#[] : Array Value))) hS rfl
  have oth : ∀ b o, b ≠ S → s.heap.get? b = some o → (s.heap.update S (Obj.mapSeq (fun _ => (#[] : Array Value)))).get? b = some o := fun b o hb e => (Heap.get?_update_other _ _ (Ne.symm hb)).trans e
  refine wpAny_bind (wpAny_letGo ?_)
  refine ext_rev hh (hit.at fun o e => oth _ o (Ne.symm hSi) e) (hl.at fun o e => oth _ o (Ne.symm hSl) e) hne hn hS₂ hSi hSl fun h' tk acc' c' hk hS' hacc => ?_
  exact hR h' tk acc' c' (fun b o hb hb2 e => hk b o hb hb2 (oth b o hb e)) hS' hacc
theorem list_rev {it l : Addr} {items : Array Value} {Q : Value → Shared → Prop} (hh : A.handled = none) (hit : s.heap.IsRevIter it l ((items.size : Int) - 1)) (hl : s.heap.IsList l items) (hne : l ≠ it) (hn : items.size ≤ sizeLine)
    (hQ : ∀ h' tk acc' c', (∀ b o, b ≠ it → s.heap.get? b = some o → h'.get? b = some o) → h'.get? s.heap.objs.size = some { cls := .type "list", dict := none, data := .seq acc' c', slots := #[] } →
      ItemsOf (fun i v => items[items.size - 1 - i]? = some v) acc' items.size → Q (.ref s.heap.objs.size) { s with heap := h', toks := tk }) :
    wpAny (model prog w) A (call (.type "list") [.ref it]) Q E s := by
  refine callType_codes (Q₁ := fun obj s₁ => obj = .ref s.heap.objs.size ∧ s₁ = { s with heap := s.heap.push { cls := .type "list", data := .seq #[] } }) F.called_list (F.typeCall_list_1 _) F.entry_list_init
    (code_list_new _ ⟨rfl, rfl⟩) fun obj s₁ h₁ => ?_
  obtain ⟨rfl, rfl⟩ := h₁
  obtain ⟨oi, hoi, _⟩ := id hit
  obtain ⟨ol, hol, _⟩ := id hl
  have hS : (s.heap.push { cls := .type "list", data := .seq #[] }).get? s.heap.objs.size = some { cls := .type "list", data := .seq #[] } := Heap.get?_push_size _ rfl
  refine ⟨⟨_, hS, rfl⟩, F.args_list_init_2 _ _, init_rev (A := A.in1) hh (hit.at fun o e => Heap.get?_push_of_some _ e) (hl.push _) hne hn hS (Nat.ne_of_gt (Heap.lt_size hoi)) (Nat.ne_of_gt (Heap.lt_size hol)) fun h' tk acc' c' hk hS' hacc => ?_⟩
  exact ⟨rfl, hQ h' tk acc' c' (fun b o hb e => hk b o (Nat.ne_of_lt (Heap.lt_size e)) hb (Heap.get?_push_of_some _ e)) hS' hacc⟩
end
section
variable {X : Cx}
def tLstRev (K : PySem.W.Frag) (te : TE) : TE := fun σ H Q => te σ H fun v H1 => ∃ (a : Addr) (xs : List V), v = .ref a ∧ SqL K H1 a xs ∧ ∀ q, H1 q = none → Q (.ref q) (upd H1 q (.lst xs.reverse))
theorem pe_lstRev {e : Expr} {te : TE} {p p2 pos pos2 : Pos} (hc : X.calm = true) (hg : Gl X "list") (hm : X.mg "list" = none) (hg2 : Gl X "reversed") (hm2 : X.mg "reversed" = none) (he : PE X e te)
    (hs : starEach [e] X.env = (false, eval e X.env) :: starEach [] X.env := by rfl)
    (hs2 : starEach [.Call (.Name "reversed" p2) [e] [] pos2] X.env = (false, eval (.Call (.Name "reversed" p2) [e] [] pos2) X.env) :: starEach [] X.env := by rfl) :
    PE X (.Call (.Name "list" p) [.Call (.Name "reversed" p2) [e] [] pos2] [] pos) (tLstRev X.K te) := by
  refine ⟨fun pins s σ H Q I h => ?_⟩
  refine Call_ (ld_blt I hg hm (show bootBuiltins "list" = some (.type "list") by decide +kernel) (PyProof.Rows.callWith_type1 (args_cons (Call_ (ld_blt I hg2 hm2 PyProof.Rows.boot_reversed (PyProof.Rows.callWith_type1 (args_cons (thn (he.run pins s σ H _ I h) fun u s1 ⟨v, H1, I1, r1, q1⟩ => args_nil ?_) hs) hs rfl))) hs2) hs2 rfl))
  obtain ⟨a, xs, ev, hq, q⟩ := q1
  subst ev
  obtain rfl : u = Value.ref a := r1
  obtain ⟨its, rv, p', hz⟩ := I1.list hq
  refine call_reversed_list p'.isList (args_nil ?_)
  have k0 : ∀ b o, s1.heap.get? b = some o → (s1.heap.push (revObj a ((its.toArray.size : Int) - 1))).get? b = some o := fun b o e => Heap.get?_push_of_some _ e
  have I2 : Inv X pins σ H1 { s1 with heap := s1.heap.push (revObj a ((its.toArray.size : Int) - 1)) } := I1.kept (t' := s1.toks) k0
  obtain ⟨f0, f1, f2, f3, f4, f5⟩ := I1.fpOk (H' := H1) (b := s1.heap.objs.size) (Nat.le_refl _) (I1.hok.fresh (Nat.le_refl _))
  have hl := p'.isList
  obtain ⟨ol, hol, _⟩ := id hl
  have hne : a ≠ s1.heap.objs.size := Nat.ne_of_lt (Heap.lt_size hol)
  have hn : its.toArray.size ≤ sizeLine := by rw [List.size_toArray, ← rv.length]; exact hz
  refine list_rev (s := { s1 with heap := s1.heap.push (revObj a ((its.toArray.size : Int) - 1)) }) (I1.ok.hd hc) ⟨_, Heap.get?_push_size _ rfl, rfl, rfl⟩ (hl.push _) hne hn fun h' tk acc c' hk hS' hi => ?_
  generalize hit : s1.heap.objs.size = it at *
  generalize hs2' : s1.heap.push (revObj a ((its.toArray.size : Int) - 1)) = h2 at *
  have fS : H1 h2.objs.size = none := I2.hok.fresh (Nat.le_refl _)
  have lt : ∀ {b : Addr} {o : PySem.Obj}, h2.get? b = some o → b ≠ h2.objs.size := fun e => Nat.ne_of_lt (Heap.lt_size e)
  have nit : ∀ b u, H1 b = some u → b ≠ it := fun b u e z => by rw [z, f0] at e; cases e
  have vr : Vals xs.reverse acc.toList := RT.vals_rev rv hi
  refine ⟨.ref h2.objs.size, upd H1 h2.objs.size (.lst xs.reverse), ?_, rfl, q _ fS⟩
  refine I2.step (g' := s1.gens) (t' := tk) (d' := s1.drawn) (ch := [it]) (fun b hb => ?_) (fun b o _ _ hc e _ => hk b o (fun z => hc (by simp [z])) e) (fun b o _ _ hc e _ => ⟨o.slots, hk b o (fun z => hc (by simp [z])) e⟩)
    (fun b o hc e n => by rw [upd_ne (lt e)]; exact n) (fun b o hc e => ⟨o, hk b o (fun z => hc (by simp [z])) e⟩) (fun b ys e => by rw [upd_ne (ne_of_none e fS)]; exact e) (fun b o u e => by rw [upd_ne (ne_of_none e fS)]; exact e)
    (fun b ps e => ⟨#[], by rw [upd_ne (ne_of_none e fS), e]; simp⟩) (fun m hm => ?_) (fun b u e => ?_) I2.bare
  · have e : b = it := by simpa using hb
    subst e
    exact ⟨f3, f1, f4, f5⟩
  · obtain ⟨o, es, ep, ho, r⟩ := hm
    exact ⟨o, es, ep, hk _ o (Ne.symm f1) ho, r⟩
  · by_cases hb : b = h2.objs.size
    · subst hb
      rw [upd_same] at e
      cases e
      exact ⟨by rw [List.length_reverse]; exact hz, acc.toList, c', vr, by rw [Array.toArray_toList]; exact hS'⟩
    · rw [upd_ne hb] at e
      refine (I2.hok b u e).stay (fun c v hc q => hk c v ?_ q) (fun c q => by rw [upd_ne (ne_of_none q fS)]; exact q) fun c ys q => by rw [upd_ne (ne_of_none q fS)]; exact q
      rcases hc with z | z
      · rw [z]; exact nit b u e
      · exact nit c _ z
end
end NT.RV

set_option Elab.async false
set_option linter.all false
set_option maxRecDepth 100000
set_option maxHeartbeats 4000000
namespace NT
open PySem L2

/-! ### values: ints and texts -/
section
variable {K : PySem.W.Frag} {X : Cx}
theorem pok {F : Fm} {G H : Hp} {σ : St} {ρ : List Sl} {Q : VK} {z : D} {v : V} (c : CS K F G H σ ρ) (p : POk K F G σ Q z ρ) (r : Rep K G v z) : Q v H := p v G H (Same.refl G) c r
theorem pnw_lst {F : Fm} {G H : Hp} {σ : St} {ρ : List Sl} {Q : VK} {ds : List D} {vs : List V} (c : CS K F G H σ ρ) (q : PNw K F G σ Q (.lst ds) ρ) (r : RepL K G vs ds) {p : Addr} (hp : H p = none) : Q (.ref p) (upd H p (.lst vs)) := by
  obtain ⟨c2, f2⟩ := fr_new c hp (o := .lst vs) (d := .lst ds) ⟨vs, upd_same, r⟩
  exact q _ _ _ (Same.refl G) c2 f2
theorem pnw_dK {F : Fm} {G H : Hp} {σ : St} {ρ : List Sl} {Q : VK} {ds : List (Key × D)} {vs : List (Key × V)} (c : CS K F G H σ ρ) (q : PNw K F G σ Q (.dK ds) ρ) (r : RepK K G vs ds) {p : Addr} (hp : H p = none) : Q (.ref p) (upd H p (.dK vs)) := by
  obtain ⟨c2, f2⟩ := fr_new c hp (o := .dK vs) (d := .dK ds) ⟨vs, upd_same, r⟩
  exact q _ _ _ (Same.refl G) c2 f2

def op2 (g : Int → Int → D) : D → D → Option D
  | .int i, .int j => some (g i j)
  | _, _ => none
theorem val_I0 {g : Int → Int → V} {g' : Int → Int → D} (h : ∀ G i j, Rep K G (g i j) (g' i j)) : Val2 K (rI0 g) (op2 g') := fun F G H σ ρ x y d e z c rx ry hz Q p => by
  unfold op2 at hz
  split at hz
  · cases hz
    cases rx
    cases ry
    exact ⟨_, _, rfl, rfl, pok c p (h G _ _)⟩
  · cases hz
def op2C (C : Int → Int → Bool) (g : Int → Int → D) : D → D → Option D
  | .int i, .int j => if C i j then some (g i j) else none
  | _, _ => none
theorem val_I {C : Int → Int → Prop} {C' : Int → Int → Bool} {g : Int → Int → V} {g' : Int → Int → D} (hC : ∀ i j, C' i j = true → C i j) (h : ∀ G i j, Rep K G (g i j) (g' i j)) : Val2 K (rI C g) (op2C C' g') := fun F G H σ ρ x y d e z c rx ry hz Q p => by
  unfold op2C at hz
  split at hz
  · split at hz
    · rename_i hc
      cases hz
      cases rx
      cases ry
      exact ⟨_, _, rfl, rfl, hC _ _ hc, pok c p (h G _ _)⟩
    · cases hz
  · cases hz
theorem Val2.eq {r : R2} {g g' : D → D → Option D} (h : Val2 K r g) (e : ∀ d e, g' d e = g d e) : Val2 K r g' := fun F G H σ ρ x y d e' z c rx ry hz Q p => h F G H σ ρ x y d e' z c rx ry (by rw [← e]; exact hz) Q p

def opSub := op2 fun i j => D.int (i - j)
def opLt := op2 fun i j => D.bl (decide (i < j))
def intsOf : List D → Option (List Int)
  | [] => some []
  | .int i :: ds => (intsOf ds).map (i :: ·)
  | _ => none
theorem intsOf_some : ∀ {ds : List D} {ns : List Int}, intsOf ds = some ns → ds = ns.map D.int
  | [], _, h => by cases h; rfl
  | .int i :: ds, _, h => by
    obtain ⟨ms, h1, h2⟩ := Option.map_eq_some_iff.mp h
    subst h2
    rw [List.map_cons, intsOf_some h1]
/-- <= of tuples of ints -/
def leTup (ns ms : List Int) : Bool := Ob.lexAt (fun j => decide (ns.getD j 0 = ms.getD j 0)) (fun j => decide (ns.getD j 0 ≤ ms.getD j 0)) (decide (ns.length ≤ ms.length)) 0 (min ns.length ms.length)
def opLe : D → D → Option D
  | .int i, .int j => some (.bl (decide (i ≤ j)))
  | .tup ds, .tup es => match intsOf ds, intsOf es with
    | some ns, some ms => some (.bl (leTup ns ms))
    | _, _ => none
  | _, _ => none
def opGt := op2 fun i j => D.bl (decide (j < i))
def opGe := op2 fun i j => D.bl (decide (j ≤ i))
theorem val_sub : Val2 K (rI0 fun i j => .int (i - j)) opSub := val_I0 fun _ _ _ => .int _
theorem val_lt : Val2 K (rI0 fun i j => .bl (decide (i < j))) opLt := val_I0 fun _ _ _ => .bl _
theorem RepL.intsV {G : Hp} {vs : List V} {ds : List D} {ns : List Int} (r : RepL K G vs ds) (h : intsOf ds = some ns) : vs = ns.map V.int := by
  have := intsOf_some h
  subst this
  exact r.ints_inv
def rLeA (K : PySem.W.Frag) : R2 := fun x y H Q => rI0 (fun i j => .bl (decide (i ≤ j))) x y H Q ∨ rLeT K x y H Q
theorem op_leA (hu : X.A.units < cLine) : OpR X (compareOp .LtE) (rLeA X.K) := OpR.or op_le (op_leT hu)
theorem val_le : Val2 K (rLeA K) opLe := fun F G H σ ρ x y d e z c rx ry hz Q p => by
  unfold opLe at hz
  split at hz
  · cases hz
    cases rx
    cases ry
    exact .inl ⟨_, _, rfl, rfl, pok c p (.bl _)⟩
  · split at hz
    · rename_i ns ms h1 h2
      cases hz
      cases rx with
      | tup hx r1 =>
        cases ry with
        | tup hy r2 =>
          have e1 := r1.intsV h1
          have e2 := r2.intsV h2
          subst e1
          subst e2
          exact .inr ⟨_, _, ns, ms, rfl, rfl, .inl (c.ex.rd hx.rd), .inl (c.ex.rd hy.rd), pok c p (.bl _)⟩
    · cases hz
  · cases hz
theorem val_gt : Val2 K (rI0 fun i j => .bl (decide (j < i))) opGt := val_I0 fun _ _ _ => .bl _
theorem val_ge : Val2 K (rI0 fun i j => .bl (decide (j ≤ i))) opGe := val_I0 fun _ _ _ => .bl _
def mulOk (i j : Int) : Bool := decide ((-(2 ^ 64) < i ∧ i < 2 ^ 64) ∨ (-(2 ^ 64) < j ∧ j < 2 ^ 64))
def opMod := op2C (fun _ j => decide (0 < j)) fun i j => D.int (i % j)
def opFdiv := op2C (fun _ j => decide (0 < j ∧ j < 1073741824)) fun i j => D.int (i / j)
def opPow := op2C (fun i j => decide (0 ≤ j ∧ j ≤ 1000000 ∧ i.natAbs < 2 ^ 64)) fun i j => D.int (i ^ j.toNat)
theorem val_mod : Val2 K (rI (fun _ j => 0 < j) fun i j => .int (i % j)) opMod := val_I (fun i j h => of_decide_eq_true h) fun _ _ _ => .int _
theorem val_fdiv : Val2 K (rI CDiv fun i j => .int (i / j)) opFdiv := val_I (fun i j h => (show 0 < j ∧ j < 1073741824 from of_decide_eq_true h)) fun _ _ _ => .int _
theorem val_pow : Val2 K (rI CPow fun i j => .int (i ^ j.toNat)) opPow := val_I (fun i j h => (show 0 ≤ j ∧ j ≤ 1000000 ∧ i.natAbs < 2 ^ 64 from of_decide_eq_true h)) fun _ _ _ => .int _

/-! + of ints, texts, tuples -/
def opAdd : D → D → Option D
  | .int i, .int j => some (.int (i + j))
  | .str x, .str y => if x.length + y.length ≤ 100000 then some (.str (x ++ y)) else none
  | .tup xs, .tup ys => if xs.length + ys.length ≤ 100000 then some (.tup (xs ++ ys)) else none
  | _, _ => none
def rAddA (K : PySem.W.Frag) : R2 := fun x y H Q => rI0 (fun i j => .int (i + j)) x y H Q ∨ ((∃ i j, x = .str i ∧ y = .str j ∧ i.length + j.length ≤ sizeLine ∧ Q (.str (i ++ j)) H) ∨ rCatL K x y H Q)
theorem op_addA : OpR X (binaryOp .Add) (rAddA X.K) := OpR.or op_add (OpR.or op_add_str op_catL)
theorem val_add : Val2 K (rAddA K) opAdd := fun F G H σ ρ x y d e z c rx ry hz Q p => by
  unfold opAdd at hz
  split at hz
  · cases hz
    cases rx
    cases ry
    exact .inl ⟨_, _, rfl, rfl, pok c p (.int _)⟩
  · split at hz
    · rename_i hl
      cases hz
      cases rx
      cases ry
      exact .inr (.inl ⟨_, _, rfl, rfl, sz_of hl, pok c p (.str _)⟩)
    · cases hz
  · split at hz
    · rename_i hl
      cases hz
      cases rx with
      | tup hx r1 =>
        cases ry with
        | tup hy r2 =>
          refine .inr (.inr ⟨_, _, _, _, ⟨rfl, rfl, .inl (c.ex.rd hx.rd), .inl (c.ex.rd hy.rd), by rw [r1.length, r2.length]; exact sz_of hl⟩, fun e => ?_, fun _ e => ?_, fun _ _ => ?_⟩)
          · subst e
            cases r1
            exact pok c p (.tup hy r2)
          · subst e
            cases r2
            rw [List.append_nil] at p
            exact pok c p (.tup hx r1)
          · exact pok_lay c p (r1.append r2)
    · cases hz
  · cases hz
/-! * of ints, of a text and an int -/
def strRep (x : Str) (n : Int) : Str := Txt.mul x n
def rMulS : R2 := fun x y H Q => ∃ z n, x = .str z ∧ y = .int n ∧ z.length ≤ 1000 ∧ -1000 ≤ n ∧ n ≤ 1000 ∧ Q (.str (Txt.mul z n)) H
theorem op_mulS : OpR X (binaryOp .Mult) rMulS := by
  intro pins s σ H x y v u Q I rx ry h
  obtain ⟨z, n, rfl, rfl, hz, h1, h2, q⟩ := h
  obtain ⟨t, rfl⟩ := rx
  obtain ⟨t', rfl⟩ := ry
  refine SB.mul ⟨?_, fun h3 h4 => ?_, fun h3 h4 => ?_⟩ fun t' k => ⟨.str _, H, I.tok k, ⟨_, rfl⟩, q⟩
  · simp only [Bool.or_eq_false_iff, decide_eq_false_iff_not]
    omega
  · have h5 : (1 : Int) ≤ n := by omega
    have h6 : (1000 : Int) ≤ (2 ^ 63 - 1) / n := by
      refine (Int.le_ediv_iff_mul_le (by omega)).mpr ?_
      have : (1000 : Int) * n ≤ 1000 * 1000 := by omega
      have e : (2 : Int) ^ 63 - 1 = 9223372036854775807 := by decide
      omega
    have h7 : (z.length : Int) ≤ 1000 := by omega
    omega
  · show decide (z.length * n.toNat > sizeLine) = false
    have : z.length * n.toNat ≤ 1000 * 1000 := Nat.mul_le_mul hz (by omega)
    simp only [decide_eq_false_iff_not]
    have e := sizeLine_eq
    omega
def opMul : D → D → Option D
  | .int i, .int j => if mulOk i j then some (.int (i * j)) else none
  | .str x, .int n => if x.length ≤ 1000 ∧ -1000 ≤ n ∧ n ≤ 1000 then some (.str (strRep x n)) else none
  | _, _ => none
theorem op_mulA : OpR X (binaryOp .Mult) (fun x y H Q => rI CMul (fun i j => .int (i * j)) x y H Q ∨ rMulS x y H Q) := OpR.or op_mul op_mulS
theorem val_mul : Val2 K (fun x y H Q => rI CMul (fun i j => .int (i * j)) x y H Q ∨ rMulS x y H Q) opMul := fun F G H σ ρ x y d e z c rx ry hz Q p => by
  unfold opMul at hz
  split at hz
  · split at hz
    · rename_i hc
      cases hz
      cases rx
      cases ry
      exact .inl ⟨_, _, rfl, rfl, (show (-(2 ^ 64) < _ ∧ _ < 2 ^ 64) ∨ (-(2 ^ 64) < _ ∧ _ < 2 ^ 64) from of_decide_eq_true hc), pok c p (.int _)⟩
    · cases hz
  · split at hz
    · rename_i hc
      cases hz
      cases rx
      cases ry
      exact .inr ⟨_, _, rfl, rfl, hc.1, hc.2.1, hc.2.2, pok c p (.str _)⟩
    · cases hz
  · cases hz
def opNeg : D → Option D
  | .int i => some (.int (-i))
  | _ => none
theorem val_neg : Val1 K (rU fun i => .int (-i)) opNeg := fun F G H σ ρ x d z c rx hz Q p => by
  unfold opNeg at hz
  split at hz
  · cases hz
    cases rx
    exact ⟨_, rfl, pok c p (.int _)⟩
  · cases hz
/-! lists: + and * -/
def opCat : D → D → Option D
  | .lst xs, .lst ys => if xs.length + ys.length ≤ 100000 then some (.lst (xs ++ ys)) else none
  | _, _ => none
theorem new_cat : New2 K rCat opCat := fun F G H σ ρ x y d e z c rx ry hz Q p => by
  unfold opCat at hz
  split at hz
  · split at hz
    · rename_i hl
      cases hz
      cases rx with
      | lst hx r1 =>
        cases ry with
        | lst hy r2 => exact ⟨_, _, _, _, rfl, rfl, c.ex _ _ hx, c.ex _ _ hy, by rw [r1.length, r2.length]; exact sz_of hl, fun q hq => pnw_lst c p (r1.append r2) hq⟩
    · cases hz
  · cases hz
theorem RepL.flat {G : Hp} {vs : List V} {ds : List D} (r : RepL K G vs ds) : ∀ n : Nat, RepL K G (List.replicate n vs).flatten (List.replicate n ds).flatten
  | 0 => .nil
  | n + 1 => by
    rw [List.replicate_succ, List.replicate_succ, List.flatten_cons, List.flatten_cons]
    exact r.append (RepL.flat r n)
def opRepL : D → D → Option D
  | .lst xs, .int k => if -1000 ≤ k ∧ k ≤ 1000 ∧ xs.length ≤ 1000 then some (.lst (List.replicate k.toNat xs).flatten) else none
  | _, _ => none
theorem new_rep : New2 K rRep opRepL := fun F G H σ ρ x y d e z c rx ry hz Q p => by
  unfold opRepL at hz
  split at hz
  · split at hz
    · rename_i hl
      cases hz
      cases ry
      cases rx with
      | lst hx r1 =>
        refine ⟨_, _, _, rfl, rfl, c.ex _ _ hx, by omega, by omega, ?_, fun q hq => pnw_lst c p (r1.flat _) hq⟩
        rw [r1.length]
        exact Nat.le_trans (Nat.mul_le_mul hl.2.2 (show _ ≤ 1000 by omega)) (by decide)
    · cases hz
  · cases hz

/-! ### subscripts -/
theorem IxR.or {r r' : R2} (h : IxR X r) (h' : IxR X r') : IxR X (fun x y H Q => r x y H Q ∨ r' x y H Q) := fun value slice pins s σ H x y v u Q I rx ry q hs => q.elim (fun z => h value slice pins s σ H x y v u Q I rx ry z hs) fun z => h' value slice pins s σ H x y v u Q I rx ry z hs
theorem SlR.or {r r' : V → Option Int → Option Int → Hp → VK → Prop} (h : SlR X r) (h' : SlR X r') : SlR X (fun x lo hi H Q => r x lo hi H Q ∨ r' x lo hi H Q) := fun pins s σ H x v vl vu lo hi sl Q I rx hs pl pu q => q.elim (fun z => h pins s σ H x v vl vu lo hi sl Q I rx hs pl pu z) fun z => h' pins s σ H x v vl vu lo hi sl Q I rx hs pl pu z
def opIx : D → D → Option D
  | .lst ds, .int i => atI ds i
  | .tup ds, .int i => atI ds i
  | .scr ns, .int i => (atI ns i).map .int
  | .str x, .int i => if x.length ≤ 100000 then (atI x.cps.toList i).map fun c => .str ⟨#[c]⟩ else none
  | _, _ => none
def rIxA (K : PySem.W.Frag) : R2 := fun x y H Q => rIxL K x y H Q ∨ (rIxT K x y H Q ∨ rIxS x y H Q)
theorem ix_any : IxR X (rIxA X.K) := IxR.or ix_list (IxR.or ix_tup ix_str)
theorem RepL.atI {G : Hp} {vs : List V} {ds : List D} (r : RepL K G vs ds) {i : Int} {d : D} (h : L2.atI ds i = some d) : ∃ v, L2.atI vs i = some v ∧ Rep K G v d := by
  unfold L2.atI at h ⊢
  rw [r.length]
  obtain ⟨j, h1, h2⟩ := Option.bind_eq_some_iff.mp h
  obtain ⟨v, h3, h4⟩ := r.get h2
  exact ⟨v, by rw [h1]; exact h3, h4⟩
theorem val_ix : Val2 K (rIxA K) opIx := fun F G H σ ρ x y d e z c rx ry hz Q p => by
  unfold opIx at hz
  split at hz
  · cases ry
    cases rx with
    | lst hx r1 =>
      obtain ⟨v, h1, h2⟩ := r1.atI hz
      exact .inl ⟨_, _, _, v, rfl, rfl, .inl (.inl (c.ex _ _ hx)), h1, pok c p h2⟩
  · cases ry
    cases rx with
    | tup hx r1 =>
      obtain ⟨v, h1, h2⟩ := r1.atI hz
      exact .inr (.inl ⟨_, _, _, v, rfl, rfl, .inl (c.ex.rd hx.rd), h1, pok c p h2⟩)
  · cases ry
    cases rx with
    | scr hx =>
      obtain ⟨n, h1, h2⟩ := Option.map_eq_some_iff.mp hz
      subst h2
      refine .inl ⟨_, _, _, .int n, rfl, rfl, Same.seq c.ex hx, ?_, pok c p (.int _)⟩
      unfold L2.atI at h1 ⊢
      rw [List.length_map]
      obtain ⟨j, h3, h4⟩ := Option.bind_eq_some_iff.mp h1
      rw [h3]
      show (List.map V.int _)[j]? = _
      rw [List.getElem?_map, h4]
      rfl
  · split at hz
    · rename_i hl
      cases rx
      cases ry
      obtain ⟨n, h1, h2⟩ := Option.map_eq_some_iff.mp hz
      subst h2
      exact .inr (.inr ⟨_, _, _, rfl, rfl, sz_of hl, h1, pok c p (.str _)⟩)
    · cases hz
  · cases hz
/-! slices -/
def SimO (K : PySem.W.Frag) (cls : Nat → Value) (W : WX) (t : TO) (f : M (Option Int)) : Prop := ∀ F ρ σ G H, CS K F G H σ ρ → ∀ Q : Option Int → Hp → Prop, wpR (f ρ) (fun o ρ' => ∀ G' H', Ex G G' → CS K F G' H' σ ρ' → Q o H') (PEx K cls W F G σ) → t σ H Q
structure QO (X : Cx) (cls : Nat → Value) (W : WX) (e : Option Expr) (f : M (Option Int)) : Prop where
  sim : ∃ t, L2.PO X e t ∧ SimO X.K cls W t f
  inert : Inert f
def oNone : M (Option Int) := mpure none
def oSome (f : M D) : M (Option Int) := mbind f fun d => lift (match d with | .int i => some (some i) | _ => none)
theorem qo_none {cls : Nat → Value} {W : WX} : QO X cls W none oNone := ⟨⟨_, po_none, fun F ρ σ G H c Q w => w G H (Same.refl G) c⟩, inert_pure⟩
theorem qo_some {cls : Nat → Value} {W : WX} {e : Expr} {f : M D} (h : QE X cls W e f) : QO X cls W (some e) (oSome f) := by
  obtain ⟨⟨t, p, s⟩, i⟩ := h
  refine ⟨⟨_, po_some p, fun F ρ σ G H c Q w => ?_⟩, inert_bind i fun _ => inert_lift⟩
  refine s F ρ σ G H c _ ((wpR_bind w).mono (fun d ρ1 w1 v1 G1 H1 e1 c1 r1 => ?_) fun _ _ p => p)
  obtain ⟨z, ez, p⟩ := wpR_lift w1
  cases r1 with
  | int i => cases ez; exact ⟨i, rfl, p G1 H1 e1 c1⟩
  | _ => cases ez
def cutL {α : Type} (xs : List α) (lo hi : Option Int) : List α := List.take (HT.sIx xs.length xs.length hi - HT.sIx xs.length 0 lo) (List.drop (HT.sIx xs.length 0 lo) xs)
theorem cutV_eq (xs : List V) (lo hi : Option Int) : cutV xs lo hi = cutL xs lo hi := rfl
theorem RepL.cut {G : Hp} {vs : List V} {ds : List D} (r : RepL K G vs ds) (lo hi : Option Int) : RepL K G (cutV vs lo hi) (cutL ds lo hi) := by
  rw [cutV_eq]
  unfold cutL
  rw [r.length]
  exact (r.drop _).take _
def opSl (d : D) (lo hi : Option Int) : Option D := match d with
  | .tup ds => some (.tup (cutL ds lo hi))
  | .str x => if x.length ≤ 100000 then some (.str (cutS x lo hi)) else none
  | _ => none
def opSlL (d : D) (lo hi : Option Int) : Option D := match d with
  | .lst ds => some (.lst (cutL ds lo hi))
  | .scr ns => some (.lst ((cutL ns lo hi).map .int))
  | _ => none
def eSl (op : D → Option Int → Option Int → Option D) (f : M D) (lo hi : M (Option Int)) : M D := mbind f fun x => mbind lo fun l => mbind hi fun h => lift (op x l h)
theorem cut_whole {α : Type} {xs : List α} {lo hi : Option Int} (h : HT.sIx xs.length 0 lo = 0 ∧ HT.sIx xs.length xs.length hi = xs.length) : cutL xs lo hi = xs := by
  unfold cutL
  rw [h.1, h.2, Nat.sub_zero, List.drop_zero, List.take_length]
theorem q_sl {cls : Nat → Value} {W : WX} {e : Expr} {lo hi : Option Expr} {p2 pos : Pos} {f : M D} {fl fh : M (Option Int)} (ha : QE X cls W e f) (hl : QO X cls W lo fl) (hh : QO X cls W hi fh)
    (hp : ∀ te tl th, PE X e te → L2.PO X lo tl → L2.PO X hi th → PE X (.Subscript e (.Slice lo hi none p2) pos) (tSl (fun x lo hi H Q => rSlL2 X.K x lo hi H Q ∨ rSlS x lo hi H Q) te tl th)) : QE X cls W (.Subscript e (.Slice lo hi none p2) pos) (eSl opSl f fl fh) := by
  obtain ⟨⟨ta, pa, sa⟩, ia⟩ := ha
  obtain ⟨⟨tl, pl, sl⟩, il⟩ := hl
  obtain ⟨⟨th, ph, sh⟩, ih⟩ := hh
  refine ⟨⟨_, hp _ _ _ pa pl ph, fun F ρ σ G H c Q w => ?_⟩, inert_bind ia fun _ => inert_bind il fun _ => inert_bind ih fun _ => inert_lift⟩
  refine sa F ρ σ G H c _ ((wpR_bind w).mono (fun x ρ1 w1 v1 G1 H1 e1 c1 r1 => ?_) fun _ _ p => p)
  refine sl F ρ1 σ G1 H1 c1 _ ((wpR_bind w1).mono (fun l ρ2 w2 G2 H2 e2 c2 => ?_) fun _ _ p => p.mono e1)
  refine sh F ρ2 σ G2 H2 c2 _ ((wpR_bind w2).mono (fun h ρ3 w3 G3 H3 e3 c3 => ?_) fun _ _ p => p.mono (e1.trans e2))
  obtain ⟨z, ez, p⟩ := wpR_lift w3
  have p := p.mono ((e1.trans e2).trans e3)
  have r1 := r1.mono (e2.trans e3)
  unfold opSl at ez
  split at ez
  · cases ez
    cases r1 with
    | tup hx r =>
      refine .inl ⟨_, _, ⟨rfl, .inl (c3.ex.rd hx.rd)⟩, fun hw => ?_, fun hw => pok_lay c3 p (r.cut l h)⟩
      rw [r.length] at hw
      rw [cut_whole hw] at p
      exact pok c3 p (.tup hx r)
  · split at ez
    · rename_i hz
      cases ez
      cases r1
      exact .inr ⟨_, rfl, sz_of hz, pok c3 p (.str _)⟩
    · cases ez
  · cases ez
theorem q_slL {cls : Nat → Value} {W : WX} {e : Expr} {lo hi : Option Expr} {p2 pos : Pos} {f : M D} {fl fh : M (Option Int)} (ha : QE X cls W e f) (hl : QO X cls W lo fl) (hh : QO X cls W hi fh)
    (hp : ∀ te tl th, PE X e te → L2.PO X lo tl → L2.PO X hi th → PE X (.Subscript e (.Slice lo hi none p2) pos) (tSl (rSlL X.K) te tl th)) : QN X cls W (.Subscript e (.Slice lo hi none p2) pos) (eSl opSlL f fl fh) := by
  obtain ⟨⟨ta, pa, sa⟩, ia⟩ := ha
  obtain ⟨⟨tl, pl, sl⟩, il⟩ := hl
  obtain ⟨⟨th, ph, sh⟩, ih⟩ := hh
  refine ⟨⟨_, hp _ _ _ pa pl ph, fun F ρ σ G H c Q w => ?_⟩, inert_bind ia fun _ => inert_bind il fun _ => inert_bind ih fun _ => inert_lift⟩
  refine sa F ρ σ G H c _ ((wpR_bind w).mono (fun x ρ1 w1 v1 G1 H1 e1 c1 r1 => ?_) fun _ _ p => p)
  refine sl F ρ1 σ G1 H1 c1 _ ((wpR_bind w1).mono (fun l ρ2 w2 G2 H2 e2 c2 => ?_) fun _ _ p => p.mono e1)
  refine sh F ρ2 σ G2 H2 c2 _ ((wpR_bind w2).mono (fun h ρ3 w3 G3 H3 e3 c3 => ?_) fun _ _ p => p.mono (e1.trans e2))
  obtain ⟨z, ez, p⟩ := wpR_lift w3
  have p := p.mono ((e1.trans e2).trans e3)
  have r1 := r1.mono (e2.trans e3)
  unfold opSlL at ez
  split at ez
  · cases ez
    cases r1 with
    | lst hx r => exact ⟨_, _, rfl, .inl (.inl (c3.ex _ _ hx)), fun q hq => pnw_lst c3 p (r.cut l h) hq⟩
  · cases ez
    cases r1 with
    | scr hx =>
      refine ⟨_, _, rfl, Same.seq c3.ex hx, fun q hq => ?_⟩
      have r := (RepL.ints (K := X.K) (G := G3) ‹List Int›).cut l h
      refine pnw_lst c3 p ?_ hq
      have e : cutL (List.map D.int ‹List Int›) l h = (cutL ‹List Int› l h).map D.int := by
        unfold cutL
        rw [List.length_map, List.map_take, List.map_drop]
      rw [← e]
      exact r
  · cases ez
end
end NT

set_option Elab.async false
set_option linter.all false
set_option maxRecDepth 100000
set_option maxHeartbeats 4000000
namespace NT
open PySem L2

/-! ### equality of data -/
mutual
def py : D → PyData
  | .non => .none | .bl b => .bool b | .int i => .int i | .str x => .str x
  | .tup ds => .tuple (pys ds) | .lst ds => .list (pys ds)
  | .scr _ => .none | .dK _ => .none | .dT _ => .none | .exn _ => .none | .raw _ => .none | .obj _ _ => .none
def pys : List D → List PyData
  | [] => []
  | d :: ds => py d :: pys ds
end
mutual
def fit : Nat → D → Bool
  | _, .non => true | _, .bl _ => true | _, .int _ => true | _, .str x => PyData.strOk x
  | 0, .tup _ => false | 0, .lst _ => false
  | n + 1, .tup ds => fits n ds | n + 1, .lst ds => fits n ds
  | _, .scr _ => false | _, .dK _ => false | _, .dT _ => false | _, .exn _ => false | _, .raw _ => false | _, .obj _ _ => false
def fits : Nat → List D → Bool
  | _, [] => true
  | n, d :: ds => fit n d && fits n ds
end
mutual
def eqD : D → D → Bool
  | .non, .non => true
  | .bl a, .bl b => a == b
  | .bl a, .int j => (if a then 1 else 0) == j
  | .int i, .bl b => i == (if b then 1 else 0)
  | .int i, .int j => i == j
  | .str x, .str y => x == y
  | .tup xs, .tup ys => eqDs xs ys
  | .lst xs, .lst ys => eqDs xs ys
  | _, _ => false
def eqDs : List D → List D → Bool
  | [], [] => true
  | x :: xs, y :: ys => eqD x y && eqDs xs ys
  | _, _ => false
end
mutual
theorem fit_lay : ∀ (n : Nat) (d : D), fit n d = true → (py d).canLay0 = true ∧ (py d).depth ≤ n
  | n, .non, _ => ⟨rfl, Nat.zero_le _⟩
  | n, .bl _, _ => ⟨rfl, Nat.zero_le _⟩
  | n, .int _, _ => ⟨rfl, Nat.zero_le _⟩
  | n, .str x, h => ⟨by simpa [fit, py, PyData.canLay0] using h, Nat.zero_le _⟩
  | 0, .tup _, h => by simp [fit] at h
  | 0, .lst _, h => by simp [fit] at h
  | n + 1, .tup ds, h => by
    have ⟨a, b⟩ := fits_lay n ds (by simpa [fit] using h)
    exact ⟨by simpa [py, PyData.canLay0] using a, by simp only [py, PyData.depth]; omega⟩
  | n + 1, .lst ds, h => by
    have ⟨a, b⟩ := fits_lay n ds (by simpa [fit] using h)
    exact ⟨by simpa [py, PyData.canLay0] using a, by simp only [py, PyData.depth]; omega⟩
  | _, .scr _, h => by simp [fit] at h
  | _, .dK _, h => by simp [fit] at h
  | _, .dT _, h => by simp [fit] at h
  | _, .exn _, h => by simp [fit] at h
  | _, .raw _, h => by simp [fit] at h
  | _, .obj _ _, h => by simp [fit] at h
theorem fits_lay : ∀ (n : Nat) (ds : List D), fits n ds = true → PyData.canLayAll0 (pys ds) = true ∧ PyData.depthAll (pys ds) ≤ n
  | n, [], _ => ⟨by simp [pys, PyData.canLayAll0], by simp [pys, PyData.depthAll]⟩
  | n, d :: ds, h => by
    simp only [fits, Bool.and_eq_true] at h
    have ⟨a, b⟩ := fit_lay n d h.1
    have ⟨a2, b2⟩ := fits_lay n ds h.2
    exact ⟨by simp [pys, PyData.canLayAll0, a, a2], by simp only [pys, PyData.depthAll]; omega⟩
end
mutual
theorem eqD_py : ∀ (n m : Nat) (d e : D), fit n d = true → fit m e = true → PyData.eqv (py d) (py e) = eqD d e
  | n, m, d, e, hd, he => by
    cases d <;> cases e <;> first
      | rfl
      | (simp [fit] at hd; done)
      | (simp [fit] at he; done)
      | (rename_i xs ys
         cases n with
         | zero => simp [fit] at hd
         | succ n =>
           cases m with
           | zero => simp [fit] at he
           | succ m =>
             have e1 := eqDs_py n m xs ys (by simpa [fit] using hd) (by simpa [fit] using he)
             simpa [py, PyData.eqv, eqD] using e1)
theorem eqDs_py : ∀ (n m : Nat) (d e : List D), fits n d = true → fits m e = true → PyData.eqvAll (pys d) (pys e) = eqDs d e
  | n, m, [], [], _, _ => by simp [pys, PyData.eqvAll, eqDs]
  | n, m, [], _ :: _, _, _ => by simp [pys, PyData.eqvAll, eqDs]
  | n, m, _ :: _, [], _, _ => by simp [pys, PyData.eqvAll, eqDs]
  | n, m, d :: ds, e :: es, hd, he => by
    simp only [fits, Bool.and_eq_true] at hd he
    simp only [pys, PyData.eqvAll, eqDs, eqD_py n m d e hd.1 he.1, eqDs_py n m ds es hd.2 he.2]
end
section
variable {K : PySem.W.Frag} {X : Cx} {G H : Hp}
mutual
theorem Rep.dp (e : Ex G H) : ∀ {v : V} {d : D}, Rep K G v d → ∀ n, fit n d = true → Dp K H v (py d)
  | _, _, .non, _, _ => .non
  | _, _, .bl b, _, _ => .bl b
  | _, _, .int i, _, _ => .int i
  | _, _, .str x, _, _ => .str x
  | _, _, .tup h r, n, f => by
    cases n with
    | zero => simp [fit] at f
    | succ n => exact .tup (.inl (e.rd h.rd)) (RepL.dp e r n (by simpa [fit] using f))
  | _, _, .lst h r, n, f => by
    cases n with
    | zero => simp [fit] at f
    | succ n => exact .lst (.inl (.inl (e _ _ h))) (RepL.dp e r n (by simpa [fit] using f))
  | _, _, .scr _, n, f => by simp [fit] at f
  | _, _, .dK _ _, n, f => by simp [fit] at f
  | _, _, .dT _ _, n, f => by simp [fit] at f
  | _, _, .raw _ _, n, f => by simp [fit] at f
  | _, _, .obj _ _ _, n, f => by simp [fit] at f
theorem RepL.dp (e : Ex G H) : ∀ {v : List V} {d : List D}, RepL K G v d → ∀ n, fits n d = true → DpAll K H v (pys d)
  | _, _, .nil, _, _ => .nil
  | _, _, .cons h r, n, f => by
    simp only [fits, Bool.and_eq_true] at f
    exact .cons (Rep.dp e h n f.1) (RepL.dp e r n f.2)
end
theorem fit_shaped {d : D} (h : fit 60 d = true) : SeqAt.shaped (py d) = true := by
  have ⟨a, b⟩ := fit_lay 60 d h
  unfold SeqAt.shaped
  rw [a, Bool.true_and]
  exact decide_eq_true (by omega)
def opEq (d e : D) : Option D := if fit 60 d && fit 60 e then some (.bl (eqD d e)) else none
def opNe (d e : D) : Option D := if fit 60 d && fit 60 e then some (.bl (!eqD d e)) else none
theorem val_eq : Val2 K (rEqD K) opEq := fun F G H σ ρ x y d e z c rx ry hz Q p => by
  unfold opEq at hz
  split at hz
  · rename_i h
    cases hz
    simp only [Bool.and_eq_true] at h
    refine ⟨py d, py e, rx.dp c.ex 60 h.1, ry.dp c.ex 60 h.2, fit_shaped h.1, fit_shaped h.2, ?_⟩
    rw [eqD_py 60 60 d e h.1 h.2]
    exact pok c p (.bl _)
  · cases hz
theorem val_ne : Val2 K (rNeD K) opNe := fun F G H σ ρ x y d e z c rx ry hz Q p => by
  unfold opNe at hz
  split at hz
  · rename_i h
    cases hz
    simp only [Bool.and_eq_true] at h
    refine ⟨py d, py e, rx.dp c.ex 60 h.1, ry.dp c.ex 60 h.2, fit_shaped h.1, fit_shaped h.2, ?_⟩
    rw [eqD_py 60 60 d e h.1 h.2]
    exact pok c p (.bl _)
  · cases hz

/-! ### x in a list, a tuple, a text of one sign -/
def rInQ (K : PySem.W.Frag) (neg : Bool) : R2 := fun x y H Q => (∃ d ds, Dp K H x d ∧ (Dp K H y (.list ds) ∨ Dp K H y (.tuple ds)) ∧ SeqAt.shaped d = true ∧ SeqAt.shaped (.list ds) = true ∧ Q (.bl (if neg then !ds.any fun z => PyData.eqv z d else ds.any fun z => PyData.eqv z d)) H) ∨
  ∃ (c : Nat) (z : Str), x = .str ⟨#[c]⟩ ∧ y = .str z ∧ Q (.bl (if neg then !decide (c ∈ z.cps.toList) else decide (c ∈ z.cps.toList))) H
theorem op_inQ (hu : X.A.units + 65 < cLine) : OpR X (compareOp .In) (rInQ X.K false) := by
  intro pins s σ H x y v u Q I rx ry h
  rcases h with h | h
  · obtain ⟨d, ds, hd, he, sd, se, q⟩ := h
    rcases he with he | he
    · exact op_inD hu pins s σ H x y v u Q I rx ry ⟨d, ds, hd, he, sd, se, q⟩
    · obtain ⟨as, r1⟩ := Dp.reads I d x v hd rx
      obtain ⟨bs, r2⟩ := Dp.reads I (.tuple ds) y u he ry
      have hl : PyData.canLayAll0 ds = true := SeqAt.canLay_of_shaped se
      exact SeqAt.in_tuple_reads r2 r1 hl (SeqAt.canLay_of_shaped sd) (PyProof.Rows.room_in_shaped sd hu) ⟨.bl _, H, I, rfl, q⟩
  · exact op_in_sign pins s σ H x y v u Q I rx ry h
theorem op_notInQ (hu : X.A.units + 65 < cLine) : OpR X (compareOp .NotIn) (rInQ X.K true) := by
  intro pins s σ H x y v u Q I rx ry h
  rcases h with h | h
  · obtain ⟨d, ds, hd, he, sd, se, q⟩ := h
    rcases he with he | he
    · exact op_notInD hu pins s σ H x y v u Q I rx ry ⟨d, ds, hd, he, sd, se, q⟩
    · obtain ⟨as, r1⟩ := Dp.reads I d x v hd rx
      obtain ⟨bs, r2⟩ := Dp.reads I (.tuple ds) y u he ry
      have hl : PyData.canLayAll0 ds = true := SeqAt.canLay_of_shaped se
      exact SeqAt.notIn_tuple_reads r2 r1 hl (SeqAt.canLay_of_shaped sd) (PyProof.Rows.room_in_shaped sd hu) ⟨.bl _, H, I, rfl, q⟩
  · exact op_notIn_sign pins s σ H x y v u Q I rx ry h
def inD (d : D) (ds : List D) : Bool := ds.any fun z => eqD z d
def opIn (neg : Bool) (x y : D) : Option D := match y with
  | .lst ds => if fit 60 x && fits 60 ds then some (.bl (if neg then !inD x ds else inD x ds)) else none
  | .tup ds => if fit 60 x && fits 60 ds then some (.bl (if neg then !inD x ds else inD x ds)) else none
  | .str z => match x with
    | .str ⟨⟨[c]⟩⟩ => some (.bl (if neg then !decide (c ∈ z.cps.toList) else decide (c ∈ z.cps.toList)))
    | _ => none
  | _ => none
theorem any_py {n m : Nat} {d : D} (hd : fit n d = true) : ∀ {ds : List D}, fits m ds = true → ((pys ds).any fun z => PyData.eqv z (py d)) = inD d ds
  | [], _ => rfl
  | e :: ds, h => by
    simp only [fits, Bool.and_eq_true] at h
    unfold inD
    rw [pys, List.any_cons, List.any_cons, eqD_py m n e d h.1 hd]
    rw [any_py hd h.2]
    rfl
theorem val_in (neg : Bool) : Val2 K (rInQ K neg) (opIn neg) := fun F G H σ ρ x y d e z c rx ry hz Q p => by
  unfold opIn at hz
  split at hz
  · split at hz
    · rename_i ds h
      cases hz
      simp only [Bool.and_eq_true] at h
      have f61 : fit 61 (.lst ds) = true := by simpa [fit] using h.2
      refine .inl ⟨py d, pys ds, rx.dp c.ex 60 h.1, .inl (by simpa [py] using ry.dp c.ex 61 f61), fit_shaped h.1, ?_, ?_⟩
      · have ⟨a, b⟩ := fits_lay 60 ds h.2
        unfold SeqAt.shaped
        simp only [PyData.canLay0, PyData.depth, a, Bool.true_and]
        exact decide_eq_true (by omega)
      · rw [any_py h.1 h.2]
        exact pok c p (.bl _)
    · cases hz
  · split at hz
    · rename_i ds h
      cases hz
      simp only [Bool.and_eq_true] at h
      have f61 : fit 61 (.tup ds) = true := by simpa [fit] using h.2
      refine .inl ⟨py d, pys ds, rx.dp c.ex 60 h.1, .inr (by simpa [py] using ry.dp c.ex 61 f61), fit_shaped h.1, ?_, ?_⟩
      · have ⟨a, b⟩ := fits_lay 60 ds h.2
        unfold SeqAt.shaped
        simp only [PyData.canLay0, PyData.depth, a, Bool.true_and]
        exact decide_eq_true (by omega)
      · rw [any_py h.1 h.2]
        exact pok c p (.bl _)
    · cases hz
  · split at hz
    · cases hz
      cases rx
      cases ry
      exact .inr ⟨_, _, rfl, rfl, pok c p (.bl _)⟩
    · cases hz
  · cases hz

/-! ### is -/
def rIsA : R2 := fun x y H Q => (∃ a b : Bool, x = .bl a ∧ y = .bl b ∧ Q (.bl (decide (a = b))) H) ∨ (y = .non ∧ Q (.bl (decide (x = .non))) H)
def rIsNotA : R2 := fun x y H Q => (∃ a b : Bool, x = .bl a ∧ y = .bl b ∧ Q (.bl (!decide (a = b))) H) ∨ (y = .non ∧ Q (.bl (!decide (x = .non))) H)
theorem op_isA : OpR X (compareOp .Is) rIsA := OpR.or op_isBl op_isN
theorem op_isNotA : OpR X (compareOp .IsNot) rIsNotA := OpR.or op_notBl op_notN
def isNon : D → Bool
  | .non => true
  | _ => false
def opIs : D → D → Option D
  | .bl a, .bl b => some (.bl (a == b))
  | d, .non => some (.bl (isNon d))
  | _, _ => none
def opIsNot : D → D → Option D
  | .bl a, .bl b => some (.bl (!(a == b)))
  | d, .non => some (.bl (!isNon d))
  | _, _ => none
theorem isNon_rep {v : V} {d : D} (r : Rep K G v d) : decide (v = .non) = isNon d := by
  cases r <;> first | rfl | exact decide_eq_false (fun z => nomatch z)
theorem val_is : Val2 K rIsA opIs := fun F G H σ ρ x y d e z c rx ry hz Q p => by
  unfold opIs at hz
  split at hz
  · cases hz
    cases rx
    cases ry
    refine .inl ⟨_, _, rfl, rfl, ?_⟩
    have e : ∀ a b : Bool, decide (a = b) = (a == b) := by decide
    rw [e]
    exact pok c p (.bl _)
  · cases hz
    cases ry
    refine .inr ⟨rfl, ?_⟩
    rw [isNon_rep rx]
    exact pok c p (.bl _)
  · cases hz
theorem val_isNot : Val2 K rIsNotA opIsNot := fun F G H σ ρ x y d e z c rx ry hz Q p => by
  unfold opIsNot at hz
  split at hz
  · cases hz
    cases rx
    cases ry
    refine .inl ⟨_, _, rfl, rfl, ?_⟩
    have e : ∀ a b : Bool, decide (a = b) = (a == b) := by decide
    rw [e]
    exact pok c p (.bl _)
  · cases hz
    cases ry
    refine .inr ⟨rfl, ?_⟩
    rw [isNon_rep rx]
    exact pok c p (.bl _)
  · cases hz

/-! ### built-ins -/
def opLen : List D → Option D
  | [.lst ds] => some (.int ds.length)
  | [.tup ds] => some (.int ds.length)
  | [.scr ns] => some (.int ns.length)
  | [.str x] => if x.length ≤ 100000 then some (.int x.length) else none
  | _ => none
theorem val_len : ValA K (fun xs H Q => ∃ x n, xs = [x] ∧ LenV K x H n ∧ Q (.int (n : Nat)) H) opLen := fun F G H σ ρ xs ds z c r hz Q p => by
  unfold opLen at hz
  split at hz
  · cases hz
    cases r with
    | cons r1 r2 =>
      cases r2
      cases r1 with
      | lst h r => exact ⟨_, _, rfl, .inl ⟨_, .inl (.inl (c.ex _ _ h)), r.length.symm⟩, pok c p (.int _)⟩
  · cases hz
    cases r with
    | cons r1 r2 =>
      cases r2
      cases r1 with
      | tup h r => exact ⟨_, _, rfl, .inr ⟨_, .inl (c.ex.rd h.rd), r.length.symm⟩, pok c p (.int _)⟩
  · cases hz
    cases r with
    | cons r1 r2 =>
      cases r2
      cases r1 with
      | scr h => exact ⟨_, _, rfl, .inl ⟨_, Same.seq c.ex h, (List.length_map _).symm⟩, pok c p (.int _)⟩
  · split at hz
    · rename_i hl
      cases hz
      cases r with
      | cons r1 r2 =>
        cases r2
        cases r1
        exact ⟨_, _, rfl, ⟨sz_of hl, rfl⟩, pok c p (.int _)⟩
    · cases hz
  · cases hz
def opInt : List D → Option D
  | [.int i] => some (.int i)
  | [.bl b] => some (.int (if b then 1 else 0))
  | _ => none
theorem val_int : ValA K (fun xs H Q => (∃ i, xs = [.int i] ∧ Q (.int i) H) ∨ ∃ k, xs = [.bl k] ∧ Q (.int (if k = true then 1 else 0)) H) opInt := fun F G H σ ρ xs ds z c r hz Q p => by
  unfold opInt at hz
  split at hz
  · cases hz
    cases r with
    | cons r1 r2 =>
      cases r2
      cases r1
      exact .inl ⟨_, rfl, pok c p (.int _)⟩
  · cases hz
    cases r with
    | cons r1 r2 =>
      cases r2
      cases r1
      exact .inr ⟨_, rfl, pok c p (.int _)⟩
  · cases hz
def opTuple : List D → Option D
  | [.lst ds] => some (.tup ds)
  | [.tup ds] => some (.tup ds)
  | _ => none
theorem val_tuple : ValA K (fun xs H Q => ∃ p ys, xs = [.ref p] ∧ ((SqL K H p ys ∧ layT ys H Q) ∨ (SqT K H p ys ∧ Q (.ref p) H))) opTuple := fun F G H σ ρ xs ds z c r hz Q p => by
  unfold opTuple at hz
  split at hz
  · cases hz
    cases r with
    | cons r1 r2 =>
      cases r2
      cases r1 with
      | lst h r => exact ⟨_, _, rfl, .inl ⟨.inl (.inl (c.ex _ _ h)), pok_lay c p r⟩⟩
  · cases hz
    cases r with
    | cons r1 r2 =>
      cases r2
      cases r1 with
      | tup h r => exact ⟨_, _, rfl, .inr ⟨.inl (c.ex.rd h.rd), pok c p (.tup h r)⟩⟩
  · cases hz
def opList : List D → Option D
  | [.lst ds] => some (.lst ds)
  | [.tup ds] => some (.lst ds)
  | [.scr ns] => some (.lst (ns.map .int))
  | _ => none
theorem new_list : NewA K (fun xs H Q => ∃ p ys, xs = [.ref p] ∧ (SqL K H p ys ∨ SqT K H p ys) ∧ ∀ l, H l = none → Q (.ref l) (upd H l (.lst ys))) opList := fun F G H σ ρ xs ds z c r hz Q p => by
  unfold opList at hz
  split at hz
  · cases hz
    cases r with
    | cons r1 r2 =>
      cases r2
      cases r1 with
      | lst h r => exact ⟨_, _, rfl, .inl (.inl (.inl (c.ex _ _ h))), fun l hl => pnw_lst c p r hl⟩
  · cases hz
    cases r with
    | cons r1 r2 =>
      cases r2
      cases r1 with
      | tup h r => exact ⟨_, _, rfl, .inr (.inl (c.ex.rd h.rd)), fun l hl => pnw_lst c p r hl⟩
  · cases hz
    cases r with
    | cons r1 r2 =>
      cases r2
      cases r1 with
      | scr h => exact ⟨_, _, rfl, .inl (Same.seq c.ex h), fun l hl => pnw_lst c p (RepL.ints _) hl⟩
  · cases hz
def opMax2 : List D → Option D
  | [.int i, .int j] => some (.int (if j > i then j else i))
  | _ => none
def opMin2 : List D → Option D
  | [.int i, .int j] => some (.int (if j < i then j else i))
  | _ => none
theorem val_max2 : ValA K (fun xs H Q => ∃ i j, xs = [.int i, .int j] ∧ Q (.int (if j > i then j else i)) H) opMax2 := fun F G H σ ρ xs ds z c r hz Q p => by
  unfold opMax2 at hz
  split at hz
  · cases hz
    cases r with
    | cons r1 r2 =>
      cases r2 with
      | cons r3 r4 =>
        cases r4
        cases r1
        cases r3
        exact ⟨_, _, rfl, pok c p (.int _)⟩
  · cases hz
theorem val_min2 : ValA K (fun xs H Q => ∃ i j, xs = [.int i, .int j] ∧ Q (.int (if j < i then j else i)) H) opMin2 := fun F G H σ ρ xs ds z c r hz Q p => by
  unfold opMin2 at hz
  split at hz
  · cases hz
    cases r with
    | cons r1 r2 =>
      cases r2 with
      | cons r3 r4 =>
        cases r4
        cases r1
        cases r3
        exact ⟨_, _, rfl, pok c p (.int _)⟩
  · cases hz
/-! isinstance -/
def tyName : D → String
  | .non => "NoneType" | .bl _ => "bool" | .int _ => "int" | .str _ => "str" | .tup _ => "tuple" | .lst _ => "list" | .dK _ => "dict"
  | .scr _ => "" | .dT _ => "" | .exn _ => "" | .raw _ => "" | .obj _ _ => ""
def isT (T : String) (d : D) : Bool := T == tyName d || (T == "int" && tyName d == "bool")
def opIsi (T : String) (d : D) : Option D := if tyName d == "" then none else some (.bl (isT T d))
theorem kit_tab : ∀ a ∈ ["NoneType", "bool", "int", "str", "tuple", "list", "dict"], ∀ b ∈ ["bool", "int", "str", "tuple", "list", "dict"], kitB a b = some (b == a || (b == "int" && a == "bool")) := by decide +kernel
theorem tyX_rep {F : Fm} {σ : St} {ρ : List Sl} (c : CS K F G H σ ρ) {v : V} {d : D} (r : Rep K G v d) (hn : tyName d ≠ "") : TyX K H v (.type (tyName d)) := by
  cases r with
  | non => exact .base .non
  | bl b => exact .base (.bl b)
  | int i => exact .base (.int i)
  | str x => exact .base (.str x)
  | tup h _ =>
    rcases h with ⟨_, h⟩ | ⟨_, o, h, _⟩
    · exact .base (.tup (c.ex _ _ h))
    · exact .fTuple (c.ex _ _ h)
  | raw _ _ => exact (hn rfl).elim
  | obj _ _ _ => exact (hn rfl).elim
  | lst h _ => exact .base (.lst (c.ex _ _ h))
  | scr _ => exact (hn rfl).elim
  | dK h _ =>
    rcases h with h | ⟨o, h⟩
    · exact .base (.dK (c.ex _ _ h))
    · exact .fDict (c.ex _ _ h)
  | dT _ _ => exact (hn rfl).elim
  | exn => exact (hn rfl).elim
theorem q_isi (T : String) {cls : Nat → Value} {W : WX} {e a : Expr} {f : M D} (hT : T ∈ ["bool", "int", "str", "tuple", "list", "dict"]) (hp : ∀ te, PE X a te → PE X e (tCB (rIsi X.K) (tCons te (tCons (tC (.ty T)) tNil)))) (ha : QE X cls W a f) : QE X cls W e (eUn (opIsi T) f) := by
  obtain ⟨⟨ta, pa, sa⟩, ia⟩ := ha
  refine ⟨⟨_, hp _ pa, fun F ρ σ G H c Q w => ?_⟩, inert_bind ia fun _ => inert_lift⟩
  refine sa F ρ σ G H c _ ((wpR_bind w).mono (fun d ρ1 w1 v1 G1 H1 e1 c1 r1 => ?_) fun _ _ p => p)
  obtain ⟨z, ez, p⟩ := wpR_lift w1
  unfold opIsi at ez
  split at ez
  · cases ez
  · rename_i hn
    cases ez
    have hne : tyName d ≠ "" := by simpa using hn
    have hmem : tyName d ∈ ["NoneType", "bool", "int", "str", "tuple", "list", "dict"] := by
      cases d <;> first | (simp [tyName]; done) | exact (hne rfl).elim
    exact ⟨v1, .ty T, .type (tyName d), .type T, isT T d, rfl, .ty T, tyX_rep c1 r1 hne, kit_ty (kit_tab _ hmem _ hT), pok c1 (p.mono e1) (.bl _)⟩
/-! list(reversed(x)) -/
def opLstRev : D → Option D
  | .lst ds => some (.lst ds.reverse)
  | _ => none
theorem q_lstRev {cls : Nat → Value} {W : WX} {e a : Expr} {f : M D} (hp : ∀ te, PE X a te → PE X e (RV.tLstRev X.K te)) (ha : QE X cls W a f) : QN X cls W e (eUn opLstRev f) := by
  obtain ⟨⟨ta, pa, sa⟩, ia⟩ := ha
  refine ⟨⟨_, hp _ pa, fun F ρ σ G H c Q w => ?_⟩, inert_bind ia fun _ => inert_lift⟩
  refine sa F ρ σ G H c _ ((wpR_bind w).mono (fun d ρ1 w1 v1 G1 H1 e1 c1 r1 => ?_) fun _ _ p => p)
  obtain ⟨z, ez, p⟩ := wpR_lift w1
  cases r1 with
  | lst h r =>
    cases ez
    exact ⟨_, _, rfl, .inl (.inl (c1.ex _ _ h)), fun q hq => pnw_lst c1 (p.mono e1) r.reverse hq⟩
  | _ => cases ez
/-! sum of a list of ints -/
def opSum : List D → Option D
  | [.lst ds] => (intsOf ds).map fun ns => .int ns.sum
  | _ => none
theorem val_sum : ValA K (rSum K) opSum := fun F G H σ ρ xs ds z c r hz Q p => by
  unfold opSum at hz
  split at hz
  · obtain ⟨ns, h1, h2⟩ := Option.map_eq_some_iff.mp hz
    subst h2
    have := intsOf_some h1
    subst this
    cases r with
    | cons r1 r2 =>
      cases r2
      cases r1 with
      | lst h r =>
        have e := r.ints_inv
        subst e
        exact ⟨_, ns, rfl, .inl (.inl (c.ex _ _ h)), pok c p (.int _)⟩
  · cases hz
end
/-! raise -/
def sRaise (c : Nat) : MS := fun ρ => .ex c ρ
theorem q_raise {X : Cx} {cls : Nat → Value} {W : WX} {st : Stmt} (c : Nat) (hp : PS X st (fun _ σ H => W (cls c) none σ H)) : QS X cls W st (sRaise c) := ⟨⟨_, hp, fun F ρ σ G H cs E w => w σ G H (Same.refl G) cs⟩⟩
end NT

set_option Elab.async false
set_option linter.all false
set_option maxRecDepth 100000
set_option maxHeartbeats 4000000
namespace NT
open PySem L2
section
variable {X : Cx} {cls : Nat → Value} {W : WX} {e a b : Expr} {es : List Expr} {f g : M D} {tf : M Bool} {pos : Pos} {sf sg : MS} {st : Stmt} {sts : List Stmt}
theorem sim_tB {K : PySem.W.Frag} {te : TE} (h : SimE K cls W te f) : SimT K cls W (tB te) (tVal f) := fun F ρ σ G H c Q w => sim_eB h F ρ σ G H c Q w
theorem sim_tTest {K : PySem.W.Frag} {te : TE} (h : SimE K cls W te f) : SimT K cls W (tTest te) (tVal f) := fun F ρ σ G H c Q w => sim_eB h F ρ σ G H c Q w
theorem q_tinD (hu : X.A.units + 1 < cLine) (ha : QE X cls W a f) (hb : QE X cls W b g) (hm : behindInMarks .In b = false := by rfl) : QT X cls W (.Compare a [.In] [b] pos) (tVal (eBin (opInD false) f g)) := by
  obtain ⟨⟨ta, pa, sa⟩, ia⟩ := ha
  obtain ⟨⟨tb, pb, sb⟩, ib⟩ := hb
  exact ⟨⟨_, pt_cmp (pc_din hu pa pb) hm, sim_tB (sim_inD sa sb)⟩, inert_tval (inert_bin ia ib)⟩
theorem q_tninD (hu : X.A.units + 1 < cLine) (ha : QE X cls W a f) (hb : QE X cls W b g) (hm : behindInMarks .NotIn b = false := by rfl) : QT X cls W (.Compare a [.NotIn] [b] pos) (tVal (eBin (opInD true) f g)) := by
  obtain ⟨⟨ta, pa, sa⟩, ia⟩ := ha
  obtain ⟨⟨tb, pb, sb⟩, ib⟩ := hb
  exact ⟨⟨_, pt_cmp (pc_dnotin hu pa pb) hm, sim_tB (sim_ninD sa sb)⟩, inert_tval (inert_bin ia ib)⟩
theorem sim_chain {K : PySem.W.Frag} {r r' : R2} {h h' : D → D → Option D} {ta tb tc : TE} {k : M D} (hv : Val2 K r h) (hv' : Val2 K r' h') (sa : SimE K cls W ta f) (sb : SimE K cls W tb g) (sc : SimE K cls W tc k) : SimE K cls W (tChain r r' ta tb tc) (eChain h h' f g k) := fun F ρ σ G H c Q w => by
  refine sa F ρ σ G H c _ ((wpR_bind w).mono (fun x ρ1 w1 v1 G1 H1 e1 c1 r1 => ?_) fun _ _ p => p)
  refine sb F ρ1 σ G1 H1 c1 _ ((wpR_bind w1).mono (fun y ρ2 w2 v2 G2 H2 e2 c2 r2 => ?_) fun _ _ p => p.mono e1)
  obtain ⟨z, ez, p⟩ := wpR_lift (wpR_bind w2)
  obtain ⟨kk, ek, p⟩ := wpR_lift (wpR_bind p)
  have := asB_some ek
  subst this
  refine hv F G2 H2 σ ρ2 v1 v2 x y _ c2 (r1.mono e2) r2 ez _ fun v3 G3 H3 e3 c3 r3 => ?_
  cases r3
  refine ⟨kk, rfl, ?_⟩
  cases kk with
  | false => exact p _ G3 H3 ((e1.trans e2).trans e3) c3 (.bl false)
  | true =>
    have p : wpR (mbind k (fun u => lift (h' y u)) ρ2) (POk K F G σ Q) (PEx K cls W F G σ) := p
    refine sc F ρ2 σ G3 H3 c3 _ ((wpR_bind p).mono (fun u ρ4 w4 v4 G4 H4 e4 c4 r4 => ?_) fun _ _ p => p.mono ((e1.trans e2).trans e3))
    obtain ⟨q, eq, pp⟩ := wpR_lift w4
    exact hv' F G4 H4 σ ρ4 v2 v4 y u q c4 (r2.mono (e3.trans e4)) r4 eq Q (pp.mono (((e1.trans e2).trans e3).trans e4))
theorem q_tchain {op op' : CmpOp} {r r' : R2} {h h' : D → D → Option D} {c : Expr} {k : M D} (ho : OpR X (compareOp op) r) (ho' : OpR X (compareOp op') r') (hv : Val2 X.K r h) (hv' : Val2 X.K r' h') (ha : QE X cls W a f) (hb : QE X cls W b g) (hc : QE X cls W c k) (hm : lastMarks [op, op'] [b, c] = false := by rfl) :
    QT X cls W (.Compare a [op, op'] [b, c] pos) (tVal (eChain h h' f g k)) := by
  obtain ⟨⟨ta, pa, sa⟩, ia⟩ := ha
  obtain ⟨⟨tb, pb, sb⟩, ib⟩ := hb
  obtain ⟨⟨tc, pc, sc⟩, ic⟩ := hc
  exact ⟨⟨_, pt_chain ho ho' pa pb pc hm, sim_tTest (sim_chain hv hv' sa sb sc)⟩, inert_tval (inert_bind ia fun _ => inert_bind ib fun _ => inert_bind inert_lift fun _ => inert_bind inert_lift fun z => by cases z; exact inert_pure; exact inert_bind ic fun _ => inert_lift)⟩
/-! a loop over a text's signs -/
def signs (x : Str) : List D := x.cps.toList.map fun c => D.str ⟨#[c]⟩
def iSign (f : M D) : M (List D) := mbind f fun d => lift (match d with | .str x => some (signs x) | _ => none)
theorem walks_str {K : PySem.W.Frag} {G : Hp} {x : Str} : Walks K (Its x) G (signs x) := fun F G1 H1 σ ρ e1 c1 => by
  refine ⟨fun i d hd => ?_, ?_⟩
  · unfold signs at hd
    rw [List.getElem?_map] at hd
    cases h : x.cps.toList[i]? with
    | none => rw [h] at hd; cases hd
    | some k =>
      rw [h] at hd
      cases hd
      have hk : x.cps[i]? = some k := by simpa using h
      obtain ⟨hi, _⟩ := Array.getElem?_eq_some_iff.mp hk
      refine ⟨hi, fun v H2 ⟨e, c, hc, hv⟩ => ?_⟩
      subst e
      subst hv
      rw [hk] at hc
      cases hc
      exact ⟨G1, Same.refl G1, c1, .str _⟩
  · show x.cps.size ≤ _
    unfold signs
    simp
theorem qi_str {tg : Expr} (ha : QE X cls W e f) : QI X cls W tg e (iSign f) := by
  obtain ⟨⟨t, p, s⟩, ia⟩ := ha
  refine ⟨⟨_, pi_str p, fun F ρ σ G H c Q w => ?_⟩, inert_bind ia fun _ => inert_lift⟩
  refine s F ρ σ G H c _ ((wpR_bind w).mono (fun d ρ1 w1 v1 G1 H1 e1 c1 r1 => ?_) fun _ _ p => p)
  obtain ⟨ds, ed, p⟩ := wpR_lift w1
  cases r1 with
  | str x =>
    cases ed
    exact ⟨x, rfl, p _ G1 H1 e1 c1 walks_str⟩
  | _ => cases ed
end
/-! what a caller knows of a def; a constant of the module; an exception class of the module -/
structure Cal (P : Program) (w : World) (K : PySem.W.Frag) (mg : Str → Option Value) (base : Heap) (cls : Nat → Value) (x : Str) (ps : List Str) (k np ns : Nat) (den : MS) (ds : List Value) : Prop where
  ex : ∃ f fd, FnOk P w K mg base (L2.CX P w) k f fd ps (spD K cls np ns den) ∧ mg x = some (.ref f) ∧ PySem.W.keepIn K (.ref f) = true ∧ Binds K fd ps ds
structure Cst (mg : Str → Option Value) (x : Str) (v : V) : Prop where
  ex : ∃ u, mg x = some u ∧ RelV v u
structure Exn (K : PySem.W.Frag) (mg : Str → Option Value) (cls : Nat → Value) (x : Str) (c : Nat) : Prop where
  ex : ∃ C, cls c = .ref C ∧ mg x = some (.ref C) ∧ PySem.W.excIn K C [.type "ValueError", .type "Exception", .type "BaseException", .type "object"] "ValueError.__new__" = true ∧ PySem.W.keepIn K (.ref C) = true ∧
    PySem.W.subIn K (.ref C) (.type "BaseException") = some true ∧ PySem.W.typeIn K (.ref C) = some (.type "type")
section
variable {X : Cx} {cls : Nat → Value} {W : WX} {e a b : Expr} {es : List Expr} {f g : M D} {tf : M Bool} {p pos : Pos} {sf sg : MS} {st : Stmt} {sts : List Stmt} {x : Str} {ps : List Str} {k j np ns : Nat} {den : MS} {ds : List Value}
theorem pe_cal {dvs : List V} {ta : TA} (C : Cal X.prog X.w X.K X.mg X.base cls x ps k np ns den ds) (hr : Room j X.A) (hj : k ≤ j) (tk : Takes X W) (hd : Vals dvs ds) (ha : PA X (e :: es) ta) (hg : Gl X x) (hdb : (x == ("__debug__" : Str)) = false) (he : starEach (e :: es) X.env = (false, eval e X.env) :: starEach es X.env) (hpl : (backTo pos (starEach es X.env)).any (·.1) = false) :
    PE X (.Call (.Name x p) (e :: es) [] pos) (tCallSD (spD X.K cls np ns den) dvs (WE W) ta) := by
  obtain ⟨f, fd, F, hm, hk, hb⟩ := C.ex
  exact pe_callSD F (hr.mono hj) hg hm hk hb hd (fun σ => passAt tk σ) ha hdb he hpl
theorem q_cal {fa : M (List D)} (C : Cal X.prog X.w X.K X.mg X.base cls x ps k np ns den []) (hr : Room j X.A) (hj : k ≤ j) (tk : Takes X W) (ha : QA X cls W (e :: es) fa) (hg : Gl X x := by rfl) (hdb : (x == ("__debug__" : Str)) = false := by decide) (he : starEach (e :: es) X.env = (false, eval e X.env) :: starEach es X.env := by rfl) (hpl : (backTo pos (starEach es X.env)).any (·.1) = false := by rfl) :
    QE X cls W (.Call (.Name x p) (e :: es) [] pos) (eCall np ns den [] fa) := q_call (dvs := []) (fun _ pa => pe_cal C hr hj tk .nil pa hg hdb he hpl) (fun _ => .nil) ha
theorem q_calN {fa : M (List D)} (C : Cal X.prog X.w X.K X.mg X.base cls x ps k np ns den []) (hr : Room j X.A) (hj : k ≤ j) (tk : Takes X W) (ha : QA X cls W (e :: es) fa) (hg : Gl X x := by rfl) (hdb : (x == ("__debug__" : Str)) = false := by decide) (he : starEach (e :: es) X.env = (false, eval e X.env) :: starEach es X.env := by rfl) (hpl : (backTo pos (starEach es X.env)).any (·.1) = false := by rfl) :
    QN X cls W (.Call (.Name x p) (e :: es) [] pos) (eCallN np ns den [] fa) := q_callN (dvs := []) (fun _ pa => pe_cal C hr hj tk .nil pa hg hdb he hpl) (fun _ => .nil) ha
theorem q_calO {i : Nat} {fa : M (List D × List D)} (C : Cal X.prog X.w X.K X.mg X.base cls x ps k np ns den []) (hr : Room j X.A) (hj : k ≤ j) (tk : Takes X W) (ha : QAO X cls W i (e :: es) fa) (hg : Gl X x := by rfl) (hdb : (x == ("__debug__" : Str)) = false := by decide) (he : starEach (e :: es) X.env = (false, eval e X.env) :: starEach es X.env := by rfl) (hpl : (backTo pos (starEach es X.env)).any (·.1) = false := by rfl) :
    QE X cls W (.Call (.Name x p) (e :: es) [] pos) (eCallO np ns den i fa) := q_callO (fun _ pa => pe_cal C hr hj tk .nil pa hg hdb he hpl) ha
theorem q_calON {i : Nat} {fa : M (List D × List D)} (C : Cal X.prog X.w X.K X.mg X.base cls x ps k np ns den []) (hr : Room j X.A) (hj : k ≤ j) (tk : Takes X W) (ha : QAO X cls W i (e :: es) fa) (hg : Gl X x := by rfl) (hdb : (x == ("__debug__" : Str)) = false := by decide) (he : starEach (e :: es) X.env = (false, eval e X.env) :: starEach es X.env := by rfl) (hpl : (backTo pos (starEach es X.env)).any (·.1) = false := by rfl) :
    QN X cls W (.Call (.Name x p) (e :: es) [] pos) (eCallON np ns den i fa) := q_callON (fun _ pa => pe_cal C hr hj tk .nil pa hg hdb he hpl) ha
/-- a constant of the module -/
theorem q_cst {v : V} {d : D} (C : Cst X.mg x v) (r : ∀ G, Rep X.K G v d) (hg : Gl X x := by rfl) (hdb : (x == ("__debug__" : Str)) = false := by decide) : QE X cls W (.Name x pos) (eC d) := by
  obtain ⟨u, h1, h2⟩ := C.ex
  exact q_c (pe_glob hg h1 h2 hdb) r
/-- raise X('..') -/
theorem q_exn {c : Nat} {m : Str} {i : Nat} {p2 pos2 : Pos} (C : Exn X.K X.mg cls x c) (hc : X.calm = true) (tk : Takes X W) (hg : Gl X x := by rfl) (hdb : (x == ("__debug__" : Str)) = false := by decide) : QS X cls W (.Raise (some (.Call (.Name x p) [.Constant (.str m) i p2] [] pos2)) none pos) (sRaise c) := by
  obtain ⟨A, h0, h1, h2, h3, h4, h5⟩ := C.ex
  refine q_raise c ?_
  have hp := ps_raise (pos := pos) hc tk (pmk_own (p := p) (p2 := p2) (pos := pos2) (m := m) (j := i) PySem.F.excBase_ValueError h2 h1 h3 (raises_own h4 h5) hg hdb)
  rw [h0]
  exact hp
end
/-- no built-in that is used is covered by a name of the module -/
structure Bt (mg : Str → Option Value) : Prop where
  len : mg "len" = none
  isinstance : mg "isinstance" = none
  int : mg "int" = none
  bool : mg "bool" = none
  str : mg "str" = none
  tuple : mg "tuple" = none
  list : mg "list" = none
  dict : mg "dict" = none
  range : mg "range" = none
  reversed : mg "reversed" = none
  sum : mg "sum" = none
  max : mg "max" = none
  min : mg "min" = none
  sorted : mg "sorted" = none
  zip : mg "zip" = none
  enumerate : mg "enumerate" = none
  set : mg "set" = none
theorem hu65 {A : Around} {k : Nat} (hr : Room k A) : A.units + 65 < cLine := by
  have := hr.un
  omega
theorem q_pass {X : Cx} {cls : Nat → Value} {W : WX} {pos : Pos} : QS X cls W (.Pass pos) sSkip := ⟨⟨_, ps_pass, fun F ρ σ G H c E w => w σ G H (Same.refl G) c⟩⟩
theorem no_exc {P : Program} {w : World} {l : List Env} {H : Hp} {s : Shared} {e : Value} {s' : Shared} (h : L2.CX P w l H s (fun _ _ _ => False) e s') : False := by
  obtain ⟨_, _, _, _, _, _, _, _, _, _, _, _, z⟩ := h
  exact z
/-- the def as its callers see it -/
theorem cal_mk {P : Program} {w : World} {K : PySem.W.Frag} {mg : Str → Option Value} {base : Heap} {cls : Nat → Value} {x qual : Str} {st : Stmt} {f : Addr} {fd : FuncData} {ps : List Str} {k np ns : Nat} {den : MS} (Fn : Fun K x qual st f fd) (hm : mg x = some (.ref f)) (ok : FnOk P w K mg base (L2.CX P w) k f fd ps (spD K cls np ns den)) (hb : Binds K fd ps []) : Cal P w K mg base cls x ps k np ns den [] :=
  ⟨⟨f, fd, ok, hm, Fn.kp, hb⟩⟩
end NT

set_option Elab.async false
set_option linter.all false
set_option maxRecDepth 100000
set_option maxHeartbeats 4000000
namespace NT
open PySem L2 PySem.W
/-! ### sorted(xs), xs a list or a tuple of data that are alike -/
section
variable {prog : Program} {w : World} {A : Around} {E : Value → Shared → Prop} {s : Shared}
theorem sorted_seq {it : Addr} {T : String} {o : PySem.Obj} {items : Array Value} {n : Nat} {Q : Value → Shared → Prop} {ds : List PyData} (hT : T = "list" ∨ T = "tuple") (ho : s.heap.get? it = some o) (hc : o.cls = .type T) (hd : o.data = .seq items n) (hsz : items.size ≤ sizeLine)
    (he : ∀ h' : Heap, (∀ b o', s.heap.get? b = some o' → h'.get? b = some o') → EachIs (fun v d => ∃ as, Reads h' v d as) items.toList ds) (hal : AllAlike ds) (hk : Sortable ds) (hu : ∀ d, d ∈ ds → A.in1.in1.units + d.depth < cLine)
    (h : ∀ (h1 h' : Heap) (m : Nat) (out : List Value), (∀ b o', s.heap.get? b = some o' → h1.get? b = some o') → (∀ b o', h1.get? b = some o' → h'.get? b = some o') → KeyedOut false ds items.toList out → h'.get? h1.objs.size = some (PyProof.Rows.seqObj "list" out.toArray m) → Q (.ref h1.objs.size) { s with heap := h' }) :
    wpAny (model prog w) A (call (.builtin "sorted") [.ref it]) Q E s := by
  refine Calls.call_function_entry PyProof.Rows.kind_sorted PyProof.Rows.plain_sorted PyProof.Rows.entry_sorted (PyProof.Rows.args_sorted1 _) ?_
  unfold Builtin.«sorted»
  refine wpAny_bind (m := checkCount "sorted" 1 1 _) (wpAny_pure ?_)
  refine wpAny_bind (wpAny_collect_seq it hT ho hc hd (fun h1 k1 => ?_) hsz)
  have hl : items.toList.length ≤ sizeLine := by rw [Array.length_toList]; exact hsz
  refine wpAny_bind (wpAny_newList ?_ hl)
  have hoL : (h1.push (PyProof.Rows.seqObj "list" items.toList.toArray 0)).get? h1.objs.size = some (PyProof.Rows.seqObj "list" items.toList.toArray 0) := Heap.get?_push_size _ rfl
  have k2 : ∀ b o', h1.get? b = some o' → (h1.push (PyProof.Rows.seqObj "list" items.toList.toArray 0)).get? b = some o' := fun b o' e => Heap.get?_push_of_some _ e
  have lt1 : ∀ b o', h1.get? b = some o' → b ≠ h1.objs.size := fun b o' e => Nat.ne_of_lt (Heap.lt_size e)
  have k3 : ∀ b o', h1.get? b = some o' → (sortingHeap (h1.push (PyProof.Rows.seqObj "list" items.toList.toArray 0)) h1.objs.size items.toList).get? b = some o' := fun b o' e => sortingHeap_old (lt1 b o' e) (k2 b o' e)
  have e3 := he _ fun b o' e => k3 b o' (k1 b o' e)
  have S := SortsAt.data (prog := prog) (w := w) (A := A.in1.in1) (s := { s with heap := sortingHeap (h1.push (PyProof.Rows.seqObj "list" items.toList.toArray 0)) h1.objs.size items.toList }) e3 hal hk hu
  refine wpAny_bind (wpAny_holding (wpAny_call_entry PyProof.Rows.slot_list_sort ⟨_, hoL, rfl⟩ PyProof.Rows.entry_list_sort ?b (PyProof.Rows.args_list_sort _)))
  case b =>
    refine list_sort_vals (s := { s with heap := h1.push (PyProof.Rows.seqObj "list" items.toList.toArray 0) }) hoL S hl ⟨_, rfl, wpAny_pure ⟨_, rfl, ?_⟩⟩
    obtain ⟨m, hm⟩ : ∃ m, (PyProof.Rows.sortedHeap (h1.push (PyProof.Rows.seqObj "list" items.toList.toArray 0)) h1.objs.size items.toList (sortVals (dataKind (sortingHeap (h1.push (PyProof.Rows.seqObj "list" items.toList.toArray 0)) h1.objs.size items.toList) ds) false items.toList items.toList).toArray).get? h1.objs.size = some (PyProof.Rows.seqObj "list" (sortVals (dataKind (sortingHeap (h1.push (PyProof.Rows.seqObj "list" items.toList.toArray 0)) h1.objs.size items.toList) ds) false items.toList items.toList).toArray m) := PyProof.Rows.sortedHeap_at hoL
    refine h h1 _ m _ k1 (fun b o' e => ?_) ⟨_, _, hal, rfl, e3⟩ hm
    rw [PyProof.Rows.sortedHeap_old (lt1 b o' e) (Heap.lt_size (k2 b o' e))]
    exact k2 b o' e
end
theorem each_of_reads {h : Heap} : ∀ {us : List Value} {ds : List PyData} {as : List Addr}, ReadsAll h us ds as → EachIs (fun v d => ∃ as, Reads h v d as) us ds
  | _, _, _, .nil => .nil
  | _, _, _, .cons r rs => .cons ⟨_, r⟩ (each_of_reads rs)
theorem each_zip {us : List Value} : ∀ {xs : List V} {ds : List PyData}, Vals xs us → xs.length = ds.length → EachIs (fun u (p : V × PyData) => RelV p.1 u) us (xs.zip ds) := by
  induction us with
  | nil =>
    intro xs ds r hl
    cases r
    exact .nil
  | cons u us ih =>
    intro xs ds r hl
    cases r with
    | cons r1 r2 =>
      cases ds with
      | nil => cases hl
      | cons d ds => exact .cons r1 (ih r2 (by simpa using hl))
theorem vals_of_each : ∀ {us : List Value} {ps : List (V × PyData)}, EachIs (fun u (p : V × PyData) => RelV p.1 u) us ps → Vals (ps.map (·.1)) us
  | _, _, .nil => .nil
  | _, _, .cons r rs => .cons r (vals_of_each rs)
def rSortedD (K : PySem.W.Frag) : List V → Hp → VK → Prop := fun vs H Q => ∃ (a : Addr) (xs : List V) (ds : List PyData), vs = [.ref a] ∧ (SqL K H a xs ∨ SqT K H a xs) ∧ DpAll K H xs ds ∧ xs.length = ds.length ∧ AllAlike ds ∧ Sortable ds ∧ (∀ d ∈ ds, d.depth ≤ 60) ∧
  ∀ l, H l = none → Q (.ref l) (upd H l (.lst (((xs.zip ds).mergeSort (dataLe false (·.2))).map (·.1))))
theorem cr_sortedD {X : Cx} (hu : X.A.units + 65 < cLine) : CallR X (.builtin "sorted") (rSortedD X.K) := by
  intro pins s σ H vs us Q I r h
  obtain ⟨a, xs, ds, rfl, hq, hd, hl, hal, hk, hdep, q⟩ := h
  obtain ⟨u, rfl, ru⟩ := vals1 r
  obtain rfl : u = Value.ref a := ru
  have fin : ∀ (its : List Value) (T : String) (o : PySem.Obj) (n : Nat), (T = "list" ∨ T = "tuple") → s.heap.get? a = some o → o.cls = .type T → o.data = .seq its.toArray n → Vals xs its → xs.length ≤ sizeLine → wpAny (model X.prog X.w) X.A (call (.builtin "sorted") [.ref a]) (EP X pins σ Q) X.xe s := fun its T o n hT ho hc hdt rv hz => by
    have hlen : its.length = xs.length := rv.length.symm
    refine sorted_seq (ds := ds) hT ho hc hdt (by rw [List.size_toArray, hlen]; exact hz) (fun h' k => ?_) hal hk (fun d m => ?_) fun h1 h' m out k1 k2 ko hg => ?_
    · have I1 : Inv X pins σ H { s with heap := h' } := I.kept (t' := s.toks) k
      obtain ⟨as, ra⟩ := Dp.readsAll I1 ds xs its hd rv
      exact each_of_reads ra
    · have := hdep d m
      have e : X.A.in1.in1.units = X.A.units + 2 := rfl
      omega
    · have I1 : Inv X pins σ H { s with heap := h1 } := I.kept (t' := s.toks) k1
      have em : (xs.zip ds).map (·.2) = ds := List.map_snd_zip (by omega)
      have ek : EachIs (fun u (p : V × PyData) => RelV p.1 u) out ((xs.zip ds).mergeSort (dataLe false (·.2))) := keyedOut_each (bs := xs.zip ds) (·.2) (by rw [em]; exact ko) (each_zip rv hl)
      have hv := vals_of_each ek
      have hz2 : (((xs.zip ds).mergeSort (dataLe false (·.2))).map (·.1)).length ≤ sizeLine := by
        rw [List.length_map, List.length_mergeSort, List.length_zip]
        omega
      have I2 : Inv X pins σ (upd H h1.objs.size (.lst (((xs.zip ds).mergeSort (dataLe false (·.2))).map (·.1)))) { s with heap := h' } :=
        I1.laid (t' := s.toks) k2 (Nat.le_refl _) (show ObjOk X.prog X.w _ _ _ (.lst _) from ⟨hz2, out, m, hv, hg⟩)
      exact ⟨.ref h1.objs.size, _, I2, rfl, q _ (I1.hok.fresh (Nat.le_refl _))⟩
  rcases hq with hq | hq
  · obtain ⟨its, r', pl, hz⟩ := I.list hq
    obtain ⟨o, ho, hc, n, hd⟩ := pl.isList
    exact fin its "list" o n (.inl rfl) ho hc hd r' hz
  · obtain ⟨its, r', pl, hz⟩ := I.tuple hq
    obtain ⟨o, ho, hc, n, hd⟩ := pl
    exact fin its "tuple" o n (.inr rfl) ho hc hd r' hz
def leD (a b : D) : Bool := dataLe false py a b
def sortD (ds : List D) : List D := ds.mergeSort leD
def alikes (ds : List D) : Bool := ds.all fun a => ds.all fun b => alike (py a) (py b)
def tupD : D → Bool
  | .tup (_ :: _) => true
  | _ => false
def oneD : D → Bool
  | .bl _ => true | .int _ => true | .str _ => true | .lst _ => true
  | _ => false
def opSorted : List D → Option D
  | [.lst ds] => if fits 60 ds && (alikes ds && (ds.all tupD || ds.all oneD)) then some (.lst (sortD ds)) else none
  | [.tup ds] => if fits 60 ds && (alikes ds && (ds.all tupD || ds.all oneD)) then some (.lst (sortD ds)) else none
  | _ => none
theorem pys_map : ∀ {ds : List D}, pys ds = ds.map py
  | [] => rfl
  | d :: ds => by rw [pys, List.map_cons, pys_map]
theorem RepL.zip {K : PySem.W.Frag} {G : Hp} : ∀ {vs : List V} {ds : List D}, RepL K G vs ds → ∀ p ∈ vs.zip ds, Rep K G p.1 p.2
  | _, _, .nil, p, h => by cases h
  | _, _, .cons r rs, p, h => by
    rw [List.zip_cons_cons] at h
    rcases List.mem_cons.mp h with h | h
    · subst h
      exact r
    · exact rs.zip p h
theorem RepL.merge {K : PySem.W.Frag} {G : Hp} {vs : List V} {ds : List D} (r : RepL K G vs ds) : RepL K G (((vs.zip (ds.map py)).mergeSort (dataLe false (·.2))).map (·.1)) (sortD ds) := by
  have e1 : vs.zip (ds.map py) = (vs.zip ds).map fun p => (p.1, py p.2) := by
    rw [List.zip_map_right]
    rfl
  have e2 : ds = (vs.zip ds).map (·.2) := (List.map_snd_zip (by rw [r.length]; exact Nat.le_refl _)).symm
  have m1 : ((vs.zip ds).map fun p => (p.1, py p.2)).mergeSort (dataLe false (·.2)) = ((vs.zip ds).mergeSort fun a b => leD a.2 b.2).map fun p => (p.1, py p.2) := by
    refine (List.map_mergeSort (s := dataLe false (fun x : V × PyData => x.2)) ?_).symm
    intro a _ b _
    rfl
  have m2 : sortD ds = ((vs.zip ds).mergeSort fun a b => leD a.2 b.2).map (·.2) := by
    unfold sortD
    conv => lhs; rw [e2]
    refine (List.map_mergeSort (s := leD) ?_).symm
    intro a _ b _
    rfl
  rw [e1, m1, m2, List.map_map]
  have hm : ∀ p ∈ (vs.zip ds).mergeSort (fun a b => leD a.2 b.2), Rep K G p.1 p.2 := fun p hp => by
    rw [List.mem_mergeSort] at hp
    exact r.zip p hp
  generalize (vs.zip ds).mergeSort (fun a b => leD a.2 b.2) = L at hm
  induction L with
  | nil => exact .nil
  | cons p L ih => exact .cons (hm p List.mem_cons_self) (ih fun q hq => hm q (List.mem_cons_of_mem _ hq))
theorem depth_mem : ∀ {ds : List PyData} {d : PyData}, d ∈ ds → d.depth ≤ PyData.depthAll ds
  | x :: ds, d, h => by
    rw [PyData.depthAll]
    rcases List.mem_cons.mp h with h | h
    · subst h
      omega
    · have := depth_mem h
      omega
theorem new_sorted {K : PySem.W.Frag} : NewA K (rSortedD K) opSorted := fun F G H σ ρ xs ds z c r hz Q p => by
  have go : ∀ (a : Addr) (vs : List V) (es : List D), (SqL K H a vs ∨ SqT K H a vs) → RepL K G vs es → (fits 60 es && (alikes es && (es.all tupD || es.all oneD))) = true → PNw K F G σ Q (.lst (sortD es)) ρ → rSortedD K [.ref a] H Q := fun a vs es hq rr hb pp => by
    simp only [Bool.and_eq_true, Bool.or_eq_true] at hb
    obtain ⟨h1, h2, h3⟩ := hb
    refine ⟨a, vs, pys es, rfl, hq, rr.dp c.ex 60 h1, ?_, ?_, ?_, ?_, fun l hl => ?_⟩
    · rw [pys_map, List.length_map, rr.length]
    · rw [pys_map]
      intro d hd d' hd'
      obtain ⟨e, he, rfl⟩ := List.mem_map.mp hd
      obtain ⟨e', he', rfl⟩ := List.mem_map.mp hd'
      unfold alikes at h2
      rw [List.all_eq_true] at h2
      have := h2 e he
      rw [List.all_eq_true] at this
      exact this e' he'
    · rw [pys_map]
      rcases h3 with h3 | h3 <;> rw [List.all_eq_true] at h3
      · refine .inl fun d hd => ?_
        obtain ⟨e, he, rfl⟩ := List.mem_map.mp hd
        have := h3 e he
        unfold tupD at this
        split at this
        · rw [py, pys]
          exact ⟨_, _, rfl⟩
        · cases this
      · refine .inr fun d hd => ?_
        obtain ⟨e, he, rfl⟩ := List.mem_map.mp hd
        have := h3 e he
        cases e <;> first | (cases this; done) | (constructor <;> simp [py])
    · have := (fits_lay 60 es h1).2
      intro d hd
      exact Nat.le_trans (depth_mem hd) this
    · rw [pys_map]
      exact pnw_lst c pp rr.merge hl
  unfold opSorted at hz
  split at hz
  · split at hz
    · rename_i hb
      cases hz
      cases r with
      | cons r1 r2 =>
        cases r2
        cases r1 with
        | lst h r => exact go _ _ _ (.inl (.inl (.inl (c.ex _ _ h)))) r hb p
    · cases hz
  · split at hz
    · rename_i hb
      cases hz
      cases r with
      | cons r1 r2 =>
        cases r2
        cases r1 with
        | tup h r => exact go _ _ _ (.inr (.inl (c.ex.rd h.rd))) r hb p
    · cases hz
  · cases hz
end NT

set_option Elab.async false
set_option linter.all false
set_option maxRecDepth 100000
set_option maxHeartbeats 4000000
namespace NT
open PySem L2
/-! ### try .. except X: .. -/
def hand : List ((Nat → Option Bool) × MS) → Nat → MS
  | [], c => fun ρ => .ex c ρ
  | (t, g) :: r, c => fun ρ => match t c with
    | some true => match g ρ with
      | .ex _ _ => .bad
      | o => o
    | some false => hand r c ρ
    | none => .bad
def sTry (hs : List ((Nat → Option Bool) × MS)) (f : MS) : MS := fun ρ => match f ρ with
  | .ex c ρ' => hand hs c ρ'
  | o => o
/-- the one reading of a suite -/
def tOfS (K : PySem.W.Frag) (cls : Nat → Value) (W : WX) (f : MS) : TS := fun E σ H => ∃ F ρ G, CS K F G H σ ρ ∧ PO K cls W F G E (f ρ)
section
variable {X : Cx} {cls : Nat → Value} {W : WX}
theorem QB.pss {st : List Stmt} {f : MS} (h : QB X cls W st f) : PSs X st (tOfS X.K cls W f) := by
  obtain ⟨t, p, s⟩ := h.sim
  exact ⟨fun pins s' σ H D I ⟨F, ρ, G, c, po⟩ => p.run pins s' σ H D I (s F ρ σ G H c D po)⟩
inductive QH (X : Cx) (cls : Nat → Value) : List ExceptHandler → List ((Nat → Option Bool) × MS) → Prop
  | nil : QH X cls [] []
  | cons {x : Str} {cv : Value} {t : Nat → Option Bool} {g : MS} {b₀ : Stmt} {suite : List Stmt} {np pos' : Pos} {hds : List ExceptHandler} {hs : List ((Nat → Option Bool) × MS)} (hc : Names X x cv) (ht : ∀ c b, t c = some b → PySem.W.exmOne X.K (cls c) cv = some b)
      (hsu : ∀ (a : Addr) (oe : PySem.Obj) (pn : List (Addr × PySem.Obj)), QB (X.suite a ((a, oe) :: pn)) cls noW (b₀ :: suite) g) (r : QH X cls hds hs) :
      QH X cls (.ExceptHandler (some (.Name x np)) none (b₀ :: suite) pos' :: hds) ((t, g) :: hs)
theorem PO.noW {K : PySem.W.Frag} {F : Fm} {G : Hp} {E : Ends} {o : O} (h : PO K cls W F G E o) (hn : ∀ c ρ, o ≠ .ex c ρ) : PO K cls NT.noW F G E o := by
  cases o with
  | ex c ρ => exact absurd rfl (hn c ρ)
  | _ => exact h
theorem qh_ok {hds : List ExceptHandler} {hs : List ((Nat → Option Bool) × MS)} (q : QH X cls hds hs) : ∃ l, HdsOk X hds l ∧ ∀ D c ρ F G σ H, CS X.K F G H σ ρ → PO X.K cls W F G D (hand hs c ρ) → wMany X.K W D l (cls c) none σ H := by
  induction q with
  | nil => exact ⟨[], .nil, fun D c ρ F G σ H cs po => po σ G H (Same.refl G) cs⟩
  | @cons x cv t g b₀ suite np pos' hds hs hc ht hsu r ih =>
    obtain ⟨l, h1, h2⟩ := ih
    refine ⟨(cv, fun _ _ _ => tOfS X.K cls NT.noW g) :: l, .cons hc (fun a oe _ _ pn _ _ => (hsu a oe pn).pss) h1, fun D c ρ F G σ H cs po => ?_⟩
    unfold hand at po
    cases e : t c with
    | none =>
      rw [e] at po
      exact po.elim
    | some b =>
      rw [e] at po
      refine ⟨b, ht c b e, fun hb a ha => ?_, fun hb => ?_⟩
      · subst hb
        dsimp only at po
        refine ⟨F, ρ, G, cs, ?_⟩
        split at po
        · exact po.elim
        · rename_i hn
          exact PO.noW po fun c' ρ' q => hn c' ρ' q
      · subst hb
        exact h2 D c ρ F G σ H cs po
theorem q_try {body : List Stmt} {h₀ : ExceptHandler} {hds : List ExceptHandler} {hs : List ((Nat → Option Bool) × MS)} {f : MS} {pos : Pos} (hst : X.stack = X.env :: X.outer) (hf : X.env.frame = some X.env.locals) (tk : Takes X W)
    (hb : ∀ (W : WX) (pn : List (Addr × PySem.Obj)) (xe : Value → Shared → Prop), Takes (X.tr pn xe) W → QB (X.tr pn xe) cls W body f) (hh : QH X cls (h₀ :: hds) hs) : QS X cls W (.Try body (h₀ :: hds) [] [] pos) (sTry hs f) := by
  obtain ⟨l, h1, h2⟩ := qh_ok (W := W) hh
  refine ⟨⟨_, ps_try_many (tb := fun W => tOfS X.K cls W f) hst hf tk (fun W pn xe t _ => (hb W pn xe t).pss) h1, fun F ρ σ G H c E po => ⟨F, ρ, G, c, ?_⟩⟩⟩
  unfold sTry at po
  cases e : f ρ with
  | ex n ρ' =>
    rw [e] at po
    exact fun σ' G' H' ex c' => h2 E n ρ' F G' σ' H' c' (PO.mono ex po)
  | nx ρ' => rw [e] at po; exact po
  | rt d ρ' => rw [e] at po; exact po
  | rtN d ρ' => rw [e] at po; exact po
  | bad => rw [e] at po; exact po
end
end NT

set_option Elab.async false
set_option linter.all false
set_option maxRecDepth 100000
set_option maxHeartbeats 4000000
namespace NT
open PySem L2
/-! ### try .. except X as n: .. -/
def wipeO (i : Nat) : O → O
  | .nx ρ => if isFree ρ[i]? then .nx (ρ.set i .no) else .bad
  | .rt d ρ => if isFree ρ[i]? then .rt d (ρ.set i .no) else .bad
  | _ => .bad
def sTryAs (i : Nat) (t : Nat → Option Bool) (g : Nat → Addr → MS) (f : MS) : MS := fun ρ => match f ρ with
  | .ex c ρ' => match t c with
    | some true => if isFree ρ'[i]? then wipeO i (g c 0 (ρ'.set i (.val (.exn 0)))) else .bad
    | some false => .ex c ρ'
    | none => .bad
  | o => o
section
variable {X : Cx} {cls : Nat → Value} {W : WX} {K : PySem.W.Frag} {F : Fm} {G H : Hp} {σ : St} {ρ : List Sl}
theorem free_notBor {s : Option Sl} (h : isFree s = true) : notBor s = true := by
  cases s with
  | none => cases h
  | some s => cases s <;> first | rfl | cases h
theorem CS.blank (c : CS K F G H σ ρ) {i : Nat} (hb : isFree ρ[i]? = true) (x : Option V) : CS K F G H (σ.set i x) (ρ.set i .no) :=
  match x with
  | none => c.clear hb
  | some v => c.setAny (s := .no) (v := v) (free_notBor hb) (fun e h => by cases h) (fun e h => by cases h) (fun e h => by cases h)
theorem set_back {σ : St} {i : Nat} : ∃ x, σ.set i x = σ := by
  cases e : σ[i]? with
  | none =>
    refine ⟨none, ?_⟩
    rw [List.set_eq_of_length_le]
    exact List.getElem?_eq_none_iff.mp e
  | some y =>
    refine ⟨y, ?_⟩
    obtain ⟨hl, e⟩ := List.getElem?_eq_some_iff.mp e
    rw [← e]
    exact List.set_getElem_self hl
theorem CS.forget (c : CS K F G H σ ρ) {i : Nat} (hb : isFree ρ[i]? = true) : CS K F G H σ (ρ.set i .no) := by
  obtain ⟨x, e⟩ := set_back (σ := σ) (i := i)
  have h := c.blank hb x
  rwa [e] at h
theorem q_tryAs {x n : Str} {cv : Value} {i : Nat} {t : Nat → Option Bool} {g : Nat → Addr → MS} {f : MS} {body suite : List Stmt} {b₀ : Stmt} {np pos pos' : Pos} (hst : X.stack = X.env :: X.outer) (hf : X.env.frame = some X.env.locals) (hN : X.N.Nodup) (hi : X.N[i]? = some n) (hln : X.env.kindOf n = some .local)
    (hc : Names X x cv) (tk : Takes X W) (ht : ∀ c b, t c = some b → PySem.W.exmOne X.K (cls c) cv = some b)
    (hb : ∀ (W : WX) (pn : List (Addr × PySem.Obj)) (xe : Value → Shared → Prop), Takes (X.tr pn xe) W → QB (X.tr pn xe) cls W body f)
    (hsu : ∀ (c : Nat) (a : Addr) (oe : PySem.Obj) (pn : List (Addr × PySem.Obj)), t c = some true → Zc (cls c) none oe → (∃ vs, oe.data = .fields vs) → QB (X.suite a ((a, oe) :: pn)) cls noW (b₀ :: suite) (g c a))
    (hnat : ∀ (c : Nat) (a : Addr) (ρ : List Sl), isFree ρ[i]? = true → wipeO i (g c a (ρ.set i (.val (.exn a)))) = wipeO i (g c 0 (ρ.set i (.val (.exn 0))))) :
    QS X cls W (.Try body [.ExceptHandler (some (.Name x np)) (some n) (b₀ :: suite) pos'] [] [] pos) (sTryAs i t g f) := by
  refine ⟨⟨_, ps_try_as (tb := fun W => tOfS X.K cls W f) (ts := fun a cl d E σ H => ∃ c, cl = cls c ∧ d = none ∧ t c = some true ∧ tOfS X.K cls NT.noW (g c a) E σ H) hst hf hN hi hln hc tk (fun W pn xe q _ => (hb W pn xe q).pss)
    (fun a oe cl d pn hz hv => ⟨fun pins s σ H D I h => ?_⟩), fun F ρ σ G H c E po => ⟨F, ρ, G, c, ?_⟩⟩⟩
  · obtain ⟨c, rfl, rfl, h1, h2⟩ := h
    exact ((hsu c a oe pn h1 hz hv).pss).run pins s σ H D I h2
  · unfold sTryAs at po
    cases e : f ρ with
    | ex n' ρ' =>
      rw [e] at po
      dsimp only at po
      intro σ' G' H' ex c'
      cases e2 : t n' with
      | none =>
        rw [e2] at po
        exact po.elim
      | some b =>
        rw [e2] at po
        refine ⟨b, ht n' b e2, fun hb a ha => ?_, fun hb => ?_⟩
        · subst hb
          dsimp only at po
          split at po
          · rename_i hfree
            refine ⟨n', rfl, rfl, e2, F, ρ'.set i (.val (.exn a)), G', c'.setVal (free_notBor hfree) .exn, ?_⟩
            rw [← hnat n' a ρ' hfree] at po
            cases e3 : g n' a (ρ'.set i (.val (.exn a))) with
            | nx ρ2 =>
              rw [e3] at po
              unfold wipeO at po
              dsimp only at po
              split at po
              · rename_i hf2
                exact fun σ2 G2 H2 ex2 c2 => po _ G2 H2 (ex.trans ex2) (c2.blank hf2 none)
              · exact po.elim
            | rt d ρ2 =>
              rw [e3] at po
              unfold wipeO at po
              dsimp only at po
              split at po
              · rename_i hf2
                exact fun v σ2 G2 H2 ex2 c2 r => po v σ2 G2 H2 (ex.trans ex2) (c2.forget hf2) r
              · exact po.elim
            | rtN d ρ2 => rw [e3] at po; exact po.elim
            | ex c2 ρ2 => rw [e3] at po; exact po.elim
            | bad => rw [e3] at po; exact po.elim
          · exact po.elim
        · subst hb
          exact po σ' G' H' ex c'
    | nx ρ' => rw [e] at po; exact po
    | rt d ρ' => rw [e] at po; exact po
    | rtN d ρ' => rw [e] at po; exact po
    | bad => rw [e] at po; exact po
end
/-! isinstance(error, C), isinstance(error, (C1, ..)) -/
def rIsET (K : PySem.W.Frag) (D a : Addr) : List V → Hp → VK → Prop := fun xs H Q => ∃ (tp : Addr) (cs : List V) (us : List Value) (b : Bool), xs = [.ref a, .ref tp] ∧ H tp = some (.tup cs) ∧ Paired ClsV cs us ∧ PySem.W.kitAny K (.ref D) us = some b ∧ Q (.bl b) H
theorem call_isET {X : Cx} {a D : Addr} {oe : PySem.Obj} {pn : List (Addr × PySem.Obj)} (C : ExcC X.K D) (hz : Zc (.ref D) none oe) (hf : ∃ vs, oe.data = .fields vs) : CallR (X.suite a ((a, oe) :: pn)) (.builtin "isinstance") (rIsET X.K D a) := by
  intro pins s σ H xs us Q I r h
  obtain ⟨tp, cs, ws, b, rfl, hT, k, e, q⟩ := h
  obtain ⟨u1, u2, rfl, r1, r2⟩ := vals2 r
  cases (show u2 = Value.ref tp from r2)
  cases (show u1 = Value.ref a from r1)
  obtain ⟨hget, _⟩ := I.pin (a, oe) (List.mem_append.mpr (.inl List.mem_cons_self))
  obtain ⟨vs, hv⟩ := hf
  have J : PySem.W.InstAt s.heap a oe D none := by
    obtain ⟨c1, c2, c3, c4⟩ := oe
    obtain ⟨z1, z2⟩ := hz
    dsimp only at z1 z2 hv
    subst z1 z2 hv
    exact ⟨hget, rfl, rfl, trivial⟩
  obtain ⟨_, its, rv, o, h1, h2, n, h3⟩ := (show ObjOk X.prog X.w H s.heap tp (.tup cs) from I.hok tp _ hT)
  have e3 := ClsV.all k rv
  subst e3
  obtain ⟨oc, od, dt, sl⟩ := o
  simp only at h2 h3
  subst h2 h3
  exact PySem.W.kia_tup (PySem.W.handS_kitx_exc C.hg C.hk C.hs C.hd C.ha C.hn C.ht C.hm) I.kIn J h1 e (fun z => nomatch z) fun tk => ⟨.bl b, H, I.kept (t' := tk) fun _ _ z => z, rfl, q⟩

def eIsE (a : Addr) (i : Nat) (b : Bool) : M D := fun ρ => match ρ[i]? with
  | some (.val (.exn a')) => if a' = a then .ok (.bl b) ρ else .bad
  | _ => .bad
theorem isE_ok {a : Addr} {i : Nat} {b : Bool} {ρ : List Sl} {d : D} {ρ' : List Sl} (h : eIsE a i b ρ = .ok d ρ') : ρ' = ρ ∧ d = .bl b ∧ ρ[i]? = some (.val (.exn a)) := by
  unfold eIsE at h
  split at h
  · rename_i a' e
    split at h
    · rename_i e2
      cases h
      subst e2
      exact ⟨rfl, rfl, e⟩
    · cases h
  · cases h
section
variable {X : Cx} {cls : Nat → Value} {W : WX}
theorem wpR_isE {a : Addr} {i : Nat} {b : Bool} {ρ : List Sl} {P : D → List Sl → Prop} {E : Nat → List Sl → Prop} (w : wpR (eIsE a i b ρ) P E) : ρ[i]? = some (.val (.exn a)) ∧ P (.bl b) ρ := by
  cases e : eIsE a i b ρ with
  | ok d ρ' =>
    obtain ⟨rfl, rfl, h⟩ := isE_ok e
    rw [e] at w
    exact ⟨h, w⟩
  | ex c ρ' =>
    exfalso
    unfold eIsE at e
    split at e
    · split at e <;> cases e
    · cases e
  | bad => rw [e] at w; exact w.elim
theorem inert_isE {a : Addr} {i : Nat} {b : Bool} : Inert (eIsE a i b) := fun ρ n d ρ' e => by
  obtain ⟨rfl, _, _⟩ := isE_ok e
  first | exact n | exact ⟨n, rfl⟩ | exact ⟨rfl, n⟩ | exact rfl
theorem q_isE {a D : Addr} {i : Nat} {b : Bool} {cv : V} {u : Value} {e : Expr} (hp : PE X e (tCB (rIsE X.K D a) (tCons (tVar i) (tCons (tC cv) tNil)))) (hu : ∀ w, RelV cv w → w = u) (hk : PySem.W.kitOne X.K (.ref D) u = some b) : QE X cls W e (eIsE a i b) := by
  refine ⟨⟨_, hp, fun F ρ σ G H c Q w => ?_⟩, inert_isE⟩
  obtain ⟨h1, h2⟩ := wpR_isE w
  obtain ⟨v, hv, r⟩ := c.vals i _ h1
  cases r
  exact ⟨_, hv, cv, u, b, rfl, hu, hk, h2 _ G H (Same.refl G) c (.bl b)⟩
theorem q_isET {a D : Addr} {i : Nat} {b : Bool} {cs : List V} {us : List Value} {e : Expr} {ta : TA} (hp : PE X e (tCB (rIsET X.K D a) (tCons (tVar i) (tCons (tTup ta) tNil)))) (ht : ∀ σ H (Q : List V → Hp → Prop), Q cs H → ta σ H Q) (hl : cs.length ≤ sizeLine) (hu : Paired ClsV cs us) (hk : PySem.W.kitAny X.K (.ref D) us = some b) : QE X cls W e (eIsE a i b) := by
  refine ⟨⟨_, hp, fun F ρ σ G H c Q w => ?_⟩, inert_isE⟩
  obtain ⟨h1, h2⟩ := wpR_isE w
  obtain ⟨v, hv, r⟩ := c.vals i _ h1
  cases r
  refine ⟨_, hv, ht _ _ _ ⟨hl, fun p hq => ⟨p, cs, us, b, rfl, upd_same, hu, hk, ?_⟩⟩⟩
  exact h2 _ G _ (Same.refl G) (c.allocN hq _) (.bl b)
end

/-! tables of classes -/
def tbl : List (Nat × Bool) → Nat → Option Bool
  | [], _ => none
  | (n, b) :: r, c => if c = n then some b else tbl r c
def tblB (l : List (Nat × Bool)) (c : Nat) : Bool := (tbl l c).getD false
def tAll (P : Nat → Bool → Prop) : List (Nat × Bool) → Prop
  | [] => True
  | (n, b) :: r => P n b ∧ tAll P r
theorem tbl_ok {P : Nat → Bool → Prop} : ∀ {l : List (Nat × Bool)}, tAll P l → ∀ (c : Nat) (b : Bool), tbl l c = some b → P c b
  | [], _, c, b, e => by cases e
  | (n, x) :: r, h, c, b, e => by
    unfold tbl at e
    split at e
    · rename_i q
      cases e
      subst q
      exact h.1
    · exact tbl_ok h.2 c b e
def clsV : Value → V
  | .ref a => .ref a
  | _ => .non
section
variable {X : Cx} {cls : Nat → Value} {W : WX} {x : Str} {n : Nat}
theorem names_exn (E : Exn X.K X.mg cls x n) (hg : Gl X x := by rfl) (hdb : (x == ("__debug__" : Str)) = false := by decide) : Names X x (cls n) := by
  obtain ⟨C, h1, h2, _⟩ := E.ex
  rw [h1]
  exact ⟨hg, hdb, .inl h2⟩
theorem pe_exn {p : Pos} (E : Exn X.K X.mg cls x n) (hg : Gl X x := by rfl) (hdb : (x == ("__debug__" : Str)) = false := by decide) : PE X (.Name x p) (tC (clsV (cls n))) := by
  obtain ⟨C, h1, h2, _⟩ := E.ex
  rw [h1]
  exact pe_glob hg h2 (show RelV (.ref C) (.ref C) from rfl) hdb
theorem cls_exn {K : PySem.W.Frag} {mg : Str → Option Value} (E : Exn K mg cls x n) : ClsV (clsV (cls n)) (cls n) := by
  obtain ⟨C, h1, _⟩ := E.ex
  rw [h1]
  exact .own C
def IsX (K : PySem.W.Frag) (cls : Nat → Value) (c : Nat) : Prop := ∃ D, cls c = .ref D ∧ ExcC K D
theorem q_isX {a : Addr} {oe : PySem.Obj} {pn : List (Addr × PySem.Obj)} {c i : Nat} {b : Bool} {cv : V} {u : Value} {m y : Str} {p p1 p3 pos : Pos} (I : IsX X.K cls c) (hz : Zc (cls c) none oe) (hv : ∃ vs, oe.data = .fields vs) (hm : X.mg "isinstance" = none) (hn : PE (X.suite a ((a, oe) :: pn)) (.Name m p1) (tVar i)) (hc : PE (X.suite a ((a, oe) :: pn)) (.Name y p3) (tC cv)) (hu : ClsV cv u) (hk : PySem.W.kitOne X.K (cls c) u = some b) (hg : Gl (X.suite a ((a, oe) :: pn)) "isinstance" := by rfl) :
    QE (X.suite a ((a, oe) :: pn)) cls W (.Call (.Name "isinstance" p) [.Name m p1, .Name y p3] [] pos) (eIsE a i b) := by
  obtain ⟨D, h1, C⟩ := I
  rw [h1] at hz hk
  exact q_isE (pe_callB (call_isE (X := X) C hz hv) hg hm (by decide +kernel) (pa_cons hn (pa_cons hc pa_nil))) (fun w r => hu.eq r) hk
theorem q_isXT {a : Addr} {oe : PySem.Obj} {pn : List (Addr × PySem.Obj)} {c i : Nat} {b : Bool} {cs : List V} {us : List Value} {m : Str} {es : List Expr} {x1 : _} {p p1 p2 pos : Pos} {ta : TA} (I : IsX X.K cls c) (hz : Zc (cls c) none oe) (hv : ∃ vs, oe.data = .fields vs) (hm : X.mg "isinstance" = none) (hn : PE (X.suite a ((a, oe) :: pn)) (.Name m p1) (tVar i)) (hc : PA (X.suite a ((a, oe) :: pn)) es ta) (ht : ∀ σ H (Q : List V → Hp → Prop), Q cs H → ta σ H Q) (hl : cs.length ≤ sizeLine) (hu : Paired ClsV cs us) (hk : PySem.W.kitAny X.K (cls c) us = some b) (hg : Gl (X.suite a ((a, oe) :: pn)) "isinstance" := by rfl) :
    QE (X.suite a ((a, oe) :: pn)) cls W (.Call (.Name "isinstance" p) [.Name m p1, .Tuple es x1 p2] [] pos) (eIsE a i b) := by
  obtain ⟨D, h1, C⟩ := I
  rw [h1] at hz hk
  exact q_isET (pe_callB (call_isET (X := X) C hz hv) hg hm (by decide +kernel) (pa_cons hn (pa_cons (pe_tup hc) pa_nil))) ht hl hu hk
end

/-! f() -/
def eCall0 (ns : Nat) (den : MS) : M D := fun ρ => match den (List.replicate ns .no) with
  | .rt d _ => .ok d ρ
  | .rtN d _ => .ok d ρ
  | .nx _ => .ok .non ρ
  | _ => .bad
def eCall0N (ns : Nat) (den : MS) : M D := fun ρ => match den (List.replicate ns .no) with
  | .rtN d _ => .ok d ρ
  | _ => .bad
theorem inert_call0 {ns : Nat} {den : MS} : Inert (eCall0 ns den) := fun ρ n a ρ' q => by
  unfold eCall0 at q
  split at q <;> first | (cases q; rfl) | cases q
theorem inert_call0N {ns : Nat} {den : MS} : Inert (eCall0N ns den) := fun ρ n a ρ' q => by
  unfold eCall0N at q
  split at q <;> first | (cases q; rfl) | cases q
section
variable {X : Cx} {cls : Nat → Value} {W : WX} {x : Str} {p pos : Pos} {k j ns : Nat} {den : MS}
theorem pe_cal0 (C : Cal X.prog X.w X.K X.mg X.base cls x [] k 0 ns den []) (hr : Room j X.A) (hj : k ≤ j) (hg : Gl X x) (hdb : (x == ("__debug__" : Str)) = false) :
    PE X (.Call (.Name x p) [] [] pos) (tCall (spD X.K cls 0 ns den) [] (fun _ _ _ => False) tNil) := by
  obtain ⟨f, fd, F, hm, hk, hb⟩ := C.ex
  exact pe_call0 F (hr.mono hj) hg hm hk hb .nil (fun _ _ _ _ _ _ _ z => (no_exc z).elim) hdb
theorem q_cal0 (C : Cal X.prog X.w X.K X.mg X.base cls x [] k 0 ns den []) (hr : Room j X.A) (hj : k ≤ j) (hg : Gl X x := by rfl) (hdb : (x == ("__debug__" : Str)) = false := by decide) : QE X cls W (.Call (.Name x p) [] [] pos) (eCall0 ns den) := by
  refine ⟨⟨_, pe_cal0 C hr hj hg hdb, fun F ρ σ G H c Q w => ?_⟩, inert_call0⟩
  refine ⟨rfl, G, [], [], CS.args (ds := []) c.ex .nil, ?_⟩
  rw [List.nil_append]
  unfold eCall0 at w
  split at w
  · rename_i d ρ' q
    rw [q]
    exact fun v σ' G' H' e' c' r => w v G' H' e' (c.back0 c') r
  · rename_i d ρ' q
    rw [q]
    intro l σ' G' H' e' c' fr
    obtain ⟨o, ho, c2, r, e2⟩ := (c.back0 c').freeze (fr.back0 c)
    exact w _ _ _ (e'.trans e2) c2 r
  · rename_i ρ' q
    rw [q]
    exact fun σ' G' H' e' c' => w _ G' H' e' (c.back0 c') .non
  · exact w.elim
theorem q_cal0N (C : Cal X.prog X.w X.K X.mg X.base cls x [] k 0 ns den []) (hr : Room j X.A) (hj : k ≤ j) (hg : Gl X x := by rfl) (hdb : (x == ("__debug__" : Str)) = false := by decide) : QN X cls W (.Call (.Name x p) [] [] pos) (eCall0N ns den) := by
  refine ⟨⟨_, pe_cal0 C hr hj hg hdb, fun F ρ σ G H c Q w => ?_⟩, inert_call0N⟩
  refine ⟨rfl, G, [], [], CS.args (ds := []) c.ex .nil, ?_⟩
  rw [List.nil_append]
  unfold eCall0N at w
  split at w
  · rename_i d ρ' q
    rw [q]
    exact fun l σ' G' H' e' c' fr => w l G' H' e' (c.back0 c') (fr.back0 c)
  · exact w.elim
end

theorem kit_own {K : PySem.W.Frag} {D C : Addr} {b : Bool} (h0 : PySem.W.subIn K (.ref D) (.ref D) = some true) (hd : PySem.W.hasDictIn K C = true) (et : PySem.W.typeIn K (.ref C) = some (.type "type")) (hs : PySem.W.subIn K (.ref D) (.ref C) = some b) : PySem.W.kitOne K (.ref D) (.ref C) = some b := by
  obtain ⟨cd, hc, _⟩ := PySem.W.any_some hd
  unfold PySem.W.kitOne
  by_cases h : (Value.ref D == Value.ref C) = true
  · rw [if_pos h]
    have e : Value.ref D = Value.ref C := eq_of_beq h
    cases e
    rw [h0] at hs
    exact hs
  · rw [if_neg h]
    show (if ((PySem.W.clsIn K C).isSome && PySem.W.typeIn K (.ref C) == some (.type "type")) = true then PySem.W.subIn K (.ref D) (.ref C) else none) = some b
    rw [if_pos (by rw [hc, et]; rfl)]
    exact hs
theorem kit_VE {K : PySem.W.Frag} {D : Addr} {b : Bool} (hs : PySem.W.subIn K (.ref D) (.type "ValueError") = some b) : PySem.W.kitOne K (.ref D) (.type "ValueError") = some b := by
  unfold PySem.W.kitOne
  rw [if_neg (by intro h; cases h)]
  show (if PySem.W.kitMeta "ValueError" = true then PySem.W.subIn K (.ref D) (.type "ValueError") else none) = some b
  rw [if_pos (by decide +kernel)]
  exact hs
end NT

set_option Elab.async false
set_option linter.all false
set_option maxRecDepth 100000
set_option maxHeartbeats 4000000
namespace NT
open PySem L2
/-! ### evaluation by rewriting: each form, applied to its slots -/
class KR (α β : Type) where
  run : α → List Sl → R β
def bnd {α β : Type} (r : R α) [k : KR α β] : R β := match r with
  | .ok a ρ => k.run a ρ
  | .ex c ρ => .ex c ρ
  | .bad => .bad
class KO (α : Type) where
  run : α → List Sl → O
def bndO {α : Type} (r : R α) [k : KO α] : O := match r with
  | .ok a ρ => k.run a ρ
  | .ex c ρ => .ex c ρ
  | .bad => .bad
class KN where
  run : List Sl → O
def nxt (o : O) [k : KN] : O := match o with
  | .nx ρ => k.run ρ
  | o => o
def lft {α : Type} (o : Option α) (ρ : List Sl) : R α := match o with
  | some a => .ok a ρ
  | none => .bad
section
variable {α β : Type} {a : α} {ρ ρ' : List Sl} {c : Nat} {k : KR α β} {ko : KO α} {kn : KN} {d : D}
theorem bnd_ok : bnd (.ok a ρ) (k := k) = k.run a ρ := id rfl
theorem bnd_ex : bnd (.ex c ρ) (k := k) = .ex c ρ := id rfl
theorem bnd_bad : bnd (.bad : R α) (k := k) = .bad := id rfl
theorem bndO_ok : bndO (.ok a ρ) (k := ko) = ko.run a ρ := id rfl
theorem bndO_ex : bndO (.ex c ρ : R α) (k := ko) = .ex c ρ := id rfl
theorem bndO_bad : bndO (.bad : R α) (k := ko) = .bad := id rfl
theorem nxt_nx : nxt (.nx ρ) (k := kn) = kn.run ρ := id rfl
theorem nxt_rt : nxt (.rt d ρ) (k := kn) = .rt d ρ := id rfl
theorem nxt_rtN : nxt (.rtN d ρ) (k := kn) = .rtN d ρ := id rfl
theorem nxt_ex : nxt (.ex c ρ) (k := kn) = .ex c ρ := id rfl
theorem nxt_bad : nxt .bad (k := kn) = .bad := id rfl
theorem lft_some : lft (some a) ρ = .ok a ρ := id rfl
theorem lft_none : lft (none : Option α) ρ = .bad := id rfl
end
section
variable {α β : Type} {m : M α} {km : α → M β} {ρ : List Sl} {f g h : M D} {fa : M (List D)} {t u : M Bool} {sf sg : MS} {i j np ns : Nat} {den : MS} {dds : List D} {op op' : D → D → Option D} {o1 : D → Option D} {oA : List D → Option D} {d : D} {a : α}
theorem mbind_ap : mbind m km ρ = bnd (m ρ) (k := ⟨fun a ρ => km a ρ⟩) := id (by
  first
  | rfl
  | (
      exact by unfold mbind bnd; rfl))
theorem mpure_ap : mpure a ρ = .ok a ρ := id rfl
theorem lift_ap {o : Option α} : lift o ρ = lft o ρ := id (by
  first
  | rfl
  | (
      exact by unfold lift lft; rfl))
theorem eC_ap : eC d ρ = .ok d ρ := id rfl
def rdV (s : Option Sl) (ρ : List Sl) : R D := match s with
  | some (.val d) => .ok d ρ
  | _ => .bad
theorem rdV_val : rdV (some (.val d)) ρ = .ok d ρ := id rfl
theorem eVar_ap : eVar i ρ = rdV ρ[i]? ρ := id (by
  first
  | rfl
  | (
      unfold eVar rdV
      split <;> split <;> simp_all))
theorem eBin_ap : eBin op f g ρ = bnd (f ρ) (k := ⟨fun x ρ => bnd (g ρ) (k := ⟨fun y ρ => lft (op x y) ρ⟩)⟩) := id (by
  first
  | rfl
  | (
      unfold eBin
      rw [mbind_ap]
      congr 1))
theorem eUn_ap : eUn o1 f ρ = bnd (f ρ) (k := ⟨fun x ρ => lft (o1 x) ρ⟩) := id (by
  first
  | rfl
  | (
      unfold eUn
      rw [mbind_ap]
      congr 1))
theorem aNil_ap : aNil ρ = .ok [] ρ := id rfl
theorem aCons_ap : aCons f fa ρ = bnd (f ρ) (k := ⟨fun x ρ => bnd (fa ρ) (k := ⟨fun xs ρ => .ok (x :: xs) ρ⟩)⟩) := id (by
  first
  | rfl
  | (
      unfold aCons
      rw [mbind_ap]
      congr 1))
theorem eFn_ap : eFn oA fa ρ = bnd (fa ρ) (k := ⟨fun xs ρ => lft (oA xs) ρ⟩) := id (by
  first
  | rfl
  | (
      unfold eFn
      rw [mbind_ap]
      congr 1))
def tupO (xs : List D) : Option D := if xs.length ≤ 100000 then some (.tup xs) else none
def lstO (xs : List D) : Option D := if xs.length ≤ 100000 then some (.lst xs) else none
theorem eTup_ap : eTup fa ρ = bnd (fa ρ) (k := ⟨fun xs ρ => lft (tupO xs) ρ⟩) := id (by
  first
  | rfl
  | (
      unfold eTup
      rw [mbind_ap]
      congr 1))
theorem eLst_ap : eLst fa ρ = bnd (fa ρ) (k := ⟨fun xs ρ => lft (lstO xs) ρ⟩) := id (by
  first
  | rfl
  | (
      unfold eLst
      rw [mbind_ap]
      congr 1))
theorem tVal_ap : tVal f ρ = bnd (f ρ) (k := ⟨fun x ρ => lft (asB x) ρ⟩) := id (by
  first
  | rfl
  | (
      unfold tVal
      rw [mbind_ap]
      congr 1))
theorem asB_bl {b : Bool} : asB (.bl b) = some b := id rfl
class KI (α : Type) where
  t : R α
  e : R α
def iteR {α : Type} (b : Bool) [k : KI α] : R α := if b then k.t else k.e
class KJ where
  t : O
  e : O
def iteO (b : Bool) [k : KJ] : O := if b then k.t else k.e
theorem iteR_t {x y : R α} : iteR true (k := ⟨x, y⟩) = x := id rfl
theorem iteR_f {x y : R α} : iteR false (k := ⟨x, y⟩) = y := id rfl
theorem iteO_t {x y : O} : iteO true (k := ⟨x, y⟩) = x := id rfl
theorem iteO_f {x y : O} : iteO false (k := ⟨x, y⟩) = y := id rfl
theorem mAnd_ap : mAnd t u ρ = bnd (t ρ) (k := ⟨fun x ρ => iteR x (k := ⟨(u ρ), (.ok false ρ)⟩)⟩) := id (by
  first
  | rfl
  | (
      unfold mAnd
      rw [mbind_ap]
      congr 1
      congr 1
      funext x ρ
      cases x <;> rfl))
theorem mOr_ap : mOr t u ρ = bnd (t ρ) (k := ⟨fun x ρ => iteR x (k := ⟨(.ok true ρ), (u ρ)⟩)⟩) := id (by
  first
  | rfl
  | (
      unfold mOr
      rw [mbind_ap]
      congr 1
      congr 1
      funext x ρ
      cases x <;> rfl))
theorem mNot_ap : mNot t ρ = bnd (t ρ) (k := ⟨fun x ρ => .ok (!x) ρ⟩) := id (by
  first
  | rfl
  | (
      unfold mNot
      rw [mbind_ap]
      rfl))
theorem eAnd_ap : eAnd f g ρ = bnd (tVal f ρ) (k := ⟨fun x ρ => iteR x (k := ⟨(g ρ), (.ok (.bl false) ρ)⟩)⟩) := id (by
  first
  | rfl
  | (
      unfold eAnd
      rw [mbind_ap]
      congr 1
      congr 1
      funext x ρ
      cases x <;> rfl))
theorem eOr_ap : eOr f g ρ = bnd (tVal f ρ) (k := ⟨fun x ρ => iteR x (k := ⟨(.ok (.bl true) ρ), (g ρ)⟩)⟩) := id (by
  first
  | rfl
  | (
      unfold eOr
      rw [mbind_ap]
      congr 1
      congr 1
      funext x ρ
      cases x <;> rfl))
theorem eNot_ap : eNot f ρ = bnd (tVal f ρ) (k := ⟨fun x ρ => .ok (.bl (!x)) ρ⟩) := id (by
  first
  | rfl
  | (
      unfold eNot
      rw [mbind_ap]
      rfl))
theorem eChain_ap : eChain op op' f g h ρ = bnd (f ρ) (k := ⟨fun x ρ => bnd (g ρ) (k := ⟨fun y ρ => bnd (lft (op x y) ρ) (k := ⟨fun z ρ => bnd (lft (asB z) ρ) (k := ⟨fun k ρ => iteR k (k := ⟨(bnd (h ρ) (k := ⟨fun u ρ => lft (op' y u) ρ⟩)), (.ok (.bl false) ρ)⟩)⟩)⟩)⟩)⟩) := id (by
  first
  | rfl
  | (
      unfold eChain
      rw [mbind_ap]
      congr 1
      congr 1
      funext x ρ
      rw [mbind_ap]
      congr 1
      congr 1
      funext y ρ
      rw [mbind_ap]
      congr 1
      congr 1
      funext z ρ
      rw [mbind_ap]
      congr 1
      congr 1
      funext k ρ
      cases k
      · rfl
      · show mbind h _ ρ = _
        rw [mbind_ap]
        rfl))
def vw (r : R D) (ρ : List Sl) : R D := match r with
  | .ok d _ => iteR (plain d) (k := ⟨(.ok d ρ), .bad⟩)
  | _ => .bad
def vwN (r : R D) (ρ : List Sl) : R D := match r with
  | .ok d _ => iteR (plainO d) (k := ⟨(.ok d ρ), .bad⟩)
  | _ => .bad
def vwT (r : R Bool) (ρ : List Sl) : R Bool := match r with
  | .ok d _ => .ok d ρ
  | _ => .bad
theorem vw_ok {ρ' : List Sl} : vw (.ok d ρ') ρ = iteR (plain d) (k := ⟨(.ok d ρ), .bad⟩) := id rfl
theorem vwN_ok {ρ' : List Sl} : vwN (.ok d ρ') ρ = iteR (plainO d) (k := ⟨(.ok d ρ), .bad⟩) := id rfl
theorem vwT_ok {b : Bool} {ρ' : List Sl} : vwT (.ok b ρ') ρ = .ok b ρ := id rfl
theorem eView_ap : eView f ρ = vw (f (ρ.map viewS)) ρ := id (by
  first
  | rfl
  | (
      unfold eView vw
      cases f (ρ.map viewS) <;> rfl))
theorem eViewN_ap : eViewN f ρ = vwN (f (ρ.map viewS)) ρ := id (by
  first
  | rfl
  | (
      unfold eViewN vwN
      cases f (ρ.map viewS) <;> rfl))
theorem tView_ap : tView t ρ = vwT (t (ρ.map viewS)) ρ := id (by
  first
  | rfl
  | (
      unfold tView vwT
      cases t (ρ.map viewS) <;> rfl))
/-! statements -/
theorem sDo_ap {k : α → MS} : sDo m k ρ = bndO (m ρ) (k := ⟨fun a ρ => k a ρ⟩) := id (by
  first
  | rfl
  | (
      exact by unfold sDo bndO; rfl))
theorem sSeq_ap : sSeq sf sg ρ = nxt (sf ρ) (k := ⟨fun ρ => sg ρ⟩) := id (by
  first
  | rfl
  | (
      unfold sSeq nxt
      cases sf ρ <;> rfl))
theorem sSkip_ap : sSkip ρ = .nx ρ := id rfl
theorem put_ap {s : Sl} : put i s ρ = iteO (notBor ρ[i]?) (k := ⟨(.nx (ρ.set i s)), .bad⟩) := id rfl
theorem sSet_ap : sSet i f ρ = bndO (f ρ) (k := ⟨fun d ρ => iteO (notBor ρ[i]?) (k := ⟨(.nx (ρ.set i (.val d))), .bad⟩)⟩) := id (by
  first
  | rfl
  | (
      unfold sSet
      rw [sDo_ap]
      rfl))
theorem sSetN_ap : sSetN i f ρ = bndO (f ρ) (k := ⟨fun d ρ => iteO (notBor ρ[i]?) (k := ⟨(.nx (ρ.set i (.own d))), .bad⟩)⟩) := id (by
  first
  | rfl
  | (
      unfold sSetN
      rw [sDo_ap]
      rfl))
theorem sRet_ap : sRet f ρ = bndO (f ρ) (k := ⟨fun d ρ => .rt d ρ⟩) := id (by
  first
  | rfl
  | (
      exact by unfold sRet; rw [sDo_ap]))
theorem sRetN_ap : sRetN f ρ = bndO (f ρ) (k := ⟨fun d ρ => .rtN d ρ⟩) := id (by
  first
  | rfl
  | (
      exact by unfold sRetN; rw [sDo_ap]))
theorem sExpr_ap : sExpr f ρ = bndO (f ρ) (k := ⟨fun d ρ => .nx ρ⟩) := id (by
  first
  | rfl
  | (
      exact by unfold sExpr; rw [sDo_ap]; rfl))
theorem sIf_ap : sIf t sf sg ρ = bndO (t ρ) (k := ⟨fun b ρ => iteO b (k := ⟨(sf ρ), (sg ρ)⟩)⟩) := id (by
  first
  | rfl
  | (
      unfold sIf
      rw [sDo_ap]
      congr 1
      congr 1
      funext b ρ
      cases b <;> rfl))
def retO (s : Option Sl) (i : Nat) (ρ : List Sl) : O := match s with
  | some (.own d) => .rtN d (ρ.set i .no)
  | _ => .bad
theorem sRetO_ap : sRetO i ρ = retO ρ[i]? i ρ := id (by
  first
  | rfl
  | (
      unfold sRetO retO
      split <;> split <;> simp_all))
theorem retO_own : retO (some (.own d)) i ρ = .rtN d (ρ.set i .no) := id rfl
theorem sRaise_ap {c : Nat} : sRaise c ρ = .ex c ρ := id rfl
theorem sFor_ap {fi : M (List D)} {mg : MG} : sFor fi mg sf ρ = bndO (fi ρ) (k := ⟨fun ds ρ => loop mg sf ds ρ⟩) := id (by
  first
  | rfl
  | (
      exact by unfold sFor; rw [sDo_ap]))
theorem loop_nil {mg : MG} : loop mg sf [] ρ = .nx ρ := id rfl
def optO (o : Option (List Sl)) [k : KN] : O := match o with
  | some ρ => k.run ρ
  | none => .bad
theorem optO_some {k : KN} : optO (some ρ) (k := k) = k.run ρ := id rfl
theorem loop_cons {mg : MG} {ds : List D} : loop mg sf (d :: ds) ρ = optO (mg d ρ) (k := ⟨fun ρ => nxt (sf ρ) (k := ⟨fun ρ => loop mg sf ds ρ⟩)⟩) := id (by
  first
  | rfl
  | (
      show (match mg d ρ with | none => O.bad | some ρ1 => match sf ρ1 with | .nx ρ2 => loop mg sf ds ρ2 | o => o) = _
      unfold optO nxt
      cases mg d ρ with
      | none => rfl
      | some ρ1 =>
        cases sf ρ1 <;> rfl))
theorem sAsg_ap {mg : MG} : sAsg f mg ρ = bndO (f ρ) (k := ⟨fun d ρ => optO (mg d ρ) (k := ⟨fun ρ => .nx ρ⟩)⟩) := id (by
  first
  | rfl
  | (
      unfold sAsg
      rw [sDo_ap]
      congr 1))
def iteS (b : Bool) (x : List Sl) : Option (List Sl) := if b then some x else none
theorem iteS_t {x : List Sl} : iteS true x = some x := id rfl
theorem gN_ap : gN i d ρ = iteS (notBor ρ[i]?) (ρ.set i (.val d)) := id rfl
theorem gT_ap {ms : MGs} {ds : List D} : gT ms (.tup ds) ρ = ms ds ρ := id rfl
theorem gsNil_ap : gsNil [] ρ = some ρ := id rfl
class KS where
  run : List Sl → Option (List Sl)
def bS (o : Option (List Sl)) [k : KS] : Option (List Sl) := o.bind k.run
theorem bS_some {k : KS} : bS (some ρ) (k := k) = k.run ρ := id rfl
theorem gsCons_ap {mg : MG} {ms : MGs} {ds : List D} : gsCons mg ms (d :: ds) ρ = bS (mg d ρ) (k := ⟨fun ρ => ms ds ρ⟩) := id rfl
theorem notBor_val : notBor (some (.val d)) = true := id rfl
theorem notBor_own : notBor (some (.own d)) = true := id rfl
theorem notBor_no : notBor (some .no) = true := id rfl
/-! owned slots -/
def mineO : Option Sl → Option (Sl × D)
  | some (.own d) => some (.own d, d)
  | some (.bor d) => some (.bor d, d)
  | _ => none
theorem mineOf_ap : mineOf ρ i = mineO ρ[i]? := id (by
  first
  | rfl
  | (
      unfold mineOf mineO
      cases ρ[i]? with
      | none => rfl
      | some s => cases s <;> rfl))
theorem mineO_own : mineO (some (.own d)) = some (.own d, d) := id rfl
theorem mineO_bor : mineO (some (.bor d)) = some (.bor d, d) := id rfl
theorem with_own {e : D} : (Sl.own d).with e = .own e := id rfl
theorem with_bor {e : D} : (Sl.bor d).with e = .bor e := id rfl
class KP (α β : Type) where
  run : α → R β
def optR {α β : Type} (o : Option α) [k : KP α β] : R β := match o with
  | some a => k.run a
  | none => .bad
theorem optR_some {k : KP α β} : optR (some a) (k := k) = k.run a := id rfl
theorem mutAt_ap {mo : D → Option (D × D)} : mutAt i mo ρ = optR (mineO ρ[i]?) (k := ⟨fun p => optR (mo p.2) (k := ⟨fun q => .ok q.1 (ρ.set i (p.1.with q.2))⟩)⟩) := id (by
  first
  | rfl
  | (
      unfold mutAt
      rw [mineOf_ap]
      unfold optR
      cases mineO ρ[i]? with
      | none => rfl
      | some p =>
        obtain ⟨s, d⟩ := p
        dsimp only
        cases mo d with
        | none => rfl
        | some q => rfl))
theorem eMut_ap {ok : D → Bool} {mo : D → List D → Option (D × D)} : eMut ok i mo fa ρ = optR (mineO ρ[i]?) (k := ⟨fun p => iteR (ok p.2) (k := ⟨(bnd (fa ρ) (k := ⟨fun xs ρ => mutAt i (fun d => mo d xs) ρ⟩)), .bad⟩)⟩) := id (by
  first
  | rfl
  | (
      unfold eMut
      rw [mineOf_ap]
      unfold optR
      cases mineO ρ[i]? with
      | none => rfl
      | some p =>
        obtain ⟨s, d⟩ := p
        dsimp only
        rw [mbind_ap]
        cases ok d <;> rfl))
theorem sPutAt_ap {ok : D → Bool} {mo : D → D → D → Option D} : sPutAt ok i mo f g ρ = bndO (g ρ) (k := ⟨fun v ρ => bndO (optR (mineO ρ[i]?) (k := ⟨fun p => iteR (ok p.2) (k := ⟨(bnd (f ρ) (k := ⟨fun k ρ => mutAt i (fun d => (mo d k v).map fun d' => (.non, d')) ρ⟩)), .bad⟩)⟩)) (k := ⟨fun _ ρ => .nx ρ⟩)⟩) := id (by
  first
  | rfl
  | (
      unfold sPutAt
      rw [sDo_ap, mbind_ap]
      cases g ρ with
      | bad => rfl
      | ex c ρ => rfl
      | ok v ρ =>
        show bndO (putAt ok i mo f v ρ) (k := _) = bndO (optR (mineO ρ[i]?) (k := _)) (k := _)
        unfold putAt
        rw [mineOf_ap]
        unfold optR
        cases mineO ρ[i]? with
        | none => rfl
        | some p =>
          obtain ⟨s, d⟩ := p
          dsimp only
          rw [mbind_ap]
          cases ok d <;> rfl))
/-! calls -/
def outE (o : O) (ρ : List Sl) : R D := match o with
  | .rt d _ => .ok d ρ
  | .rtN d _ => .ok d ρ
  | .nx _ => .ok .non ρ
  | .ex c _ => .ex c ρ
  | .bad => .bad
def outN (o : O) (ρ : List Sl) : R D := match o with
  | .rtN d _ => .ok d ρ
  | .ex c _ => .ex c ρ
  | _ => .bad
theorem outE_rt {ρ' : List Sl} : outE (.rt d ρ') ρ = .ok d ρ := id rfl
theorem outE_rtN {ρ' : List Sl} : outE (.rtN d ρ') ρ = .ok d ρ := id rfl
theorem outE_nx {ρ' : List Sl} : outE (.nx ρ') ρ = .ok .non ρ := id rfl
theorem outE_ex {c : Nat} {ρ' : List Sl} : outE (.ex c ρ') ρ = .ex c ρ := id rfl
theorem outN_rtN {ρ' : List Sl} : outN (.rtN d ρ') ρ = .ok d ρ := id rfl
theorem outN_ex {c : Nat} {ρ' : List Sl} : outN (.ex c ρ') ρ = .ex c ρ := id rfl
theorem eCall_ap : eCall np ns den dds fa ρ = bnd (fa ρ) (k := ⟨fun ds ρ => iteR (decide ((ds ++ dds).length = np)) (k := ⟨(outE (den ((ds ++ dds).map .val ++ List.replicate ns .no)) ρ), .bad⟩)⟩) := id (by
  first
  | rfl
  | (
      unfold eCall
      rw [mbind_ap]
      congr 1
      congr 1
      funext ds ρ
      unfold iteR outE
      by_cases h : (ds ++ dds).length = np
      · rw [if_pos h, if_pos (decide_eq_true h)]
        cases den ((ds ++ dds).map .val ++ List.replicate ns .no) <;> rfl
      · rw [if_neg h, if_neg (by simpa using h)]; try rfl))
theorem eCallN_ap : eCallN np ns den dds fa ρ = bnd (fa ρ) (k := ⟨fun ds ρ => iteR (decide ((ds ++ dds).length = np)) (k := ⟨(outN (den ((ds ++ dds).map .val ++ List.replicate ns .no)) ρ), .bad⟩)⟩) := id (by
  first
  | rfl
  | (
      unfold eCallN
      rw [mbind_ap]
      congr 1
      congr 1
      funext ds ρ
      unfold iteR outN
      by_cases h : (ds ++ dds).length = np
      · rw [if_pos h, if_pos (decide_eq_true h)]
        cases den ((ds ++ dds).map .val ++ List.replicate ns .no) <;> rfl
      · rw [if_neg h, if_neg (by simpa using h)]; try rfl))
class KB where
  run : D → R D
def borO (s : Option Sl) [k : KB] : R D := match s with
  | some (.bor d) => k.run d
  | _ => .bad
theorem borO_bor {k : KB} : borO (some (.bor d)) (k := k) = k.run d := id rfl
def outO (o : O) (n j : Nat) (s : Sl) (ρ : List Sl) : R D := match o with
  | .rt d ρ' => borO ρ'[n]? (k := ⟨fun e => .ok d (ρ.set j (s.with e))⟩)
  | .rtN d ρ' => borO ρ'[n]? (k := ⟨fun e => .ok d (ρ.set j (s.with e))⟩)
  | .nx ρ' => borO ρ'[n]? (k := ⟨fun e => .ok .non (ρ.set j (s.with e))⟩)
  | .ex c ρ' => borO ρ'[n]? (k := ⟨fun e => .ex c (ρ.set j (s.with e))⟩)
  | .bad => .bad
def outON (o : O) (n j : Nat) (s : Sl) (ρ : List Sl) : R D := match o with
  | .rtN d ρ' => borO ρ'[n]? (k := ⟨fun e => .ok d (ρ.set j (s.with e))⟩)
  | .ex c ρ' => borO ρ'[n]? (k := ⟨fun e => .ex c (ρ.set j (s.with e))⟩)
  | _ => .bad
theorem outO_rt {n j : Nat} {s : Sl} {ρ' : List Sl} : outO (.rt d ρ') n j s ρ = borO ρ'[n]? (k := ⟨fun e => .ok d (ρ.set j (s.with e))⟩) := id rfl
theorem outO_rtN {n j : Nat} {s : Sl} {ρ' : List Sl} : outO (.rtN d ρ') n j s ρ = borO ρ'[n]? (k := ⟨fun e => .ok d (ρ.set j (s.with e))⟩) := id rfl
theorem outO_nx {n j : Nat} {s : Sl} {ρ' : List Sl} : outO (.nx ρ') n j s ρ = borO ρ'[n]? (k := ⟨fun e => .ok .non (ρ.set j (s.with e))⟩) := id rfl
theorem outO_ex {c n j : Nat} {s : Sl} {ρ' : List Sl} : outO (.ex c ρ') n j s ρ = borO ρ'[n]? (k := ⟨fun e => .ex c (ρ.set j (s.with e))⟩) := id rfl
theorem outON_rtN {n j : Nat} {s : Sl} {ρ' : List Sl} : outON (.rtN d ρ') n j s ρ = borO ρ'[n]? (k := ⟨fun e => .ok d (ρ.set j (s.with e))⟩) := id rfl
theorem outON_ex {c n j : Nat} {s : Sl} {ρ' : List Sl} : outON (.ex c ρ') n j s ρ = borO ρ'[n]? (k := ⟨fun e => .ex c (ρ.set j (s.with e))⟩) := id rfl
theorem after_ap {α : Type} {ρ' : List Sl} {k : Nat} {s : Sl} {r : D} : after ρ ρ' k j s r = borO ρ'[k]? (k := ⟨fun e => .ok r (ρ.set j (s.with e))⟩) := id (by
  first
  | rfl
  | (
      unfold after borO
      split <;> split <;> simp_all))
theorem afterX_ap {ρ' : List Sl} {k c : Nat} {s : Sl} : (afterX ρ ρ' k j s c : R D) = borO ρ'[k]? (k := ⟨fun e => .ex c (ρ.set j (s.with e))⟩) := id (by
  first
  | rfl
  | (
      unfold afterX borO
      split <;> split <;> simp_all))
theorem callO_ap {p : List D × List D} : callO np ns den j p ρ = optR (mineO ρ[j]?) (k := ⟨fun q => iteR (decide (p.1.length + 1 + p.2.length = np)) (k := ⟨(outO (den ((p.1.map .val ++ .bor q.2 :: p.2.map .val) ++ List.replicate ns .no)) p.1.length j q.1 ρ), .bad⟩)⟩) := id (by
  first
  | rfl
  | (
      unfold callO
      rw [mineOf_ap]
      unfold optR
      cases mineO ρ[j]? with
      | none => rfl
      | some q =>
        obtain ⟨s, d⟩ := q
        dsimp only
        unfold iteR
        by_cases h : p.1.length + 1 + p.2.length = np
        · rw [if_pos h, if_pos (decide_eq_true h)]
          unfold outO
          show _ = outO (den ((p.1.map .val ++ .bor d :: p.2.map .val) ++ List.replicate ns .no)) p.1.length j s ρ
          cases den ((p.1.map .val ++ .bor d :: p.2.map .val) ++ List.replicate ns .no) <;> first | rfl | exact after_ap (α := Unit) | exact afterX_ap
        · rw [if_neg h, if_neg (by simpa using h)]; try rfl))
theorem callON_ap {p : List D × List D} : callON np ns den j p ρ = optR (mineO ρ[j]?) (k := ⟨fun q => iteR (decide (p.1.length + 1 + p.2.length = np)) (k := ⟨(outON (den ((p.1.map .val ++ .bor q.2 :: p.2.map .val) ++ List.replicate ns .no)) p.1.length j q.1 ρ), .bad⟩)⟩) := id (by
  first
  | rfl
  | (
      unfold callON
      rw [mineOf_ap]
      unfold optR
      cases mineO ρ[j]? with
      | none => rfl
      | some q =>
        obtain ⟨s, d⟩ := q
        dsimp only
        unfold iteR
        by_cases h : p.1.length + 1 + p.2.length = np
        · rw [if_pos h, if_pos (decide_eq_true h)]
          unfold outON
          show _ = outON (den ((p.1.map .val ++ .bor d :: p.2.map .val) ++ List.replicate ns .no)) p.1.length j s ρ
          cases den ((p.1.map .val ++ .bor d :: p.2.map .val) ++ List.replicate ns .no) <;> first | rfl | exact after_ap (α := Unit) | exact afterX_ap
        · rw [if_neg h, if_neg (by simpa using h)]; try rfl))
theorem eCallO_ap {fo : M (List D × List D)} : eCallO np ns den j fo ρ = optR (mineO ρ[j]?) (k := ⟨fun _ => bnd (fo ρ) (k := ⟨fun p ρ => callO np ns den j p ρ⟩)⟩) := id (by
  first
  | rfl
  | (
      unfold eCallO
      rw [mineOf_ap]
      unfold optR
      cases mineO ρ[j]? with
      | none => rfl
      | some q => exact mbind_ap))
theorem eCallON_ap {fo : M (List D × List D)} : eCallON np ns den j fo ρ = optR (mineO ρ[j]?) (k := ⟨fun _ => bnd (fo ρ) (k := ⟨fun p ρ => callON np ns den j p ρ⟩)⟩) := id (by
  first
  | rfl
  | (
      unfold eCallON
      rw [mineOf_ap]
      unfold optR
      cases mineO ρ[j]? with
      | none => rfl
      | some q => exact mbind_ap))
theorem oHere_ap : oHere fa ρ = bnd (fa ρ) (k := ⟨fun xs ρ => .ok ([], xs) ρ⟩) := id (by
  first
  | rfl
  | (
      unfold oHere
      rw [mbind_ap]
      rfl))
theorem oThere_ap {fo : M (List D × List D)} : oThere f fo ρ = bnd (f ρ) (k := ⟨fun x ρ => bnd (fo ρ) (k := ⟨fun p ρ => .ok (x :: p.1, p.2) ρ⟩)⟩) := id (by
  first
  | rfl
  | (
      unfold oThere
      rw [mbind_ap]
      congr 1))
/-! sources of loops -/
def seqO : D → Option (List D)
  | .lst ds => some ds
  | .tup ds => some ds
  | .scr ns => some (ns.map D.int)
  | _ => none
theorem seqO_lst {ds : List D} : seqO (.lst ds) = some ds := id rfl
theorem seqO_tup {ds : List D} : seqO (.tup ds) = some ds := id rfl
theorem seqO_scr {ns : List Int} : seqO (.scr ns) = some (ns.map D.int) := id rfl
theorem iSeq_ap : iSeq f ρ = bnd (f ρ) (k := ⟨fun d ρ => lft (seqO d) ρ⟩) := id (by
  first
  | rfl
  | (
      unfold iSeq
      rw [mbind_ap]
      congr 1))
def sgnO : D → Option (List D)
  | .str x => some (signs x)
  | _ => none
theorem sgnO_str {x : Str} : sgnO (.str x) = some (signs x) := id rfl
theorem iSign_ap : iSign f ρ = bnd (f ρ) (k := ⟨fun d ρ => lft (sgnO d) ρ⟩) := id (by
  first
  | rfl
  | (
      unfold iSign
      rw [mbind_ap]
      congr 1))
theorem iRange1_ap : iRange1 fa ρ = bnd (fa ρ) (k := ⟨fun ds ρ => lft (rng1 ds) ρ⟩) := id (by
  first
  | rfl
  | (
      unfold iRange1
      rw [mbind_ap]
      congr 1))
theorem iRange2_ap : iRange2 fa ρ = bnd (fa ρ) (k := ⟨fun ds ρ => lft (rng2 ds) ρ⟩) := id (by
  first
  | rfl
  | (
      unfold iRange2
      rw [mbind_ap]
      congr 1))
theorem eComp_ap {fi : M (List D)} {mg : MG} {vs : List Nat} : eComp fi mg t f vs ρ = bnd (fi ρ) (k := ⟨fun ds ρ => bnd (compL mg t f vs ds [] ρ) (k := ⟨fun ys ρ => .ok (.lst ys) ρ⟩)⟩) := id (by
  first
  | rfl
  | (
      unfold eComp
      rw [mbind_ap]
      congr 1))
theorem eSl_ap {os : D → Option Int → Option Int → Option D} {lo hi : M (Option Int)} : eSl os f lo hi ρ = bnd (f ρ) (k := ⟨fun x ρ => bnd (lo ρ) (k := ⟨fun l ρ => bnd (hi ρ) (k := ⟨fun h ρ => lft (os x l h) ρ⟩)⟩)⟩) := id (by
  first
  | rfl
  | (
      unfold eSl
      rw [mbind_ap]
      congr 1))
theorem oNone_ap : oNone ρ = .ok none ρ := id rfl
def intO : D → Option (Option Int)
  | .int i => some (some i)
  | _ => none
theorem intO_int {i : Int} : intO (.int i) = some (some i) := id rfl
theorem oSome_ap : oSome f ρ = bnd (f ρ) (k := ⟨fun d ρ => lft (intO d) ρ⟩) := id (by
  first
  | rfl
  | (
      unfold oSome
      rw [mbind_ap]
      congr 1))
theorem eGet2_ap : eGet2 f g h ρ = bnd (f ρ) (k := ⟨fun d ρ => iteR (isDct d) (k := ⟨(bnd (g ρ) (k := ⟨fun k ρ => bnd (h ρ) (k := ⟨fun x ρ => lft ((opGetD d k).map fun o => o.getD x) ρ⟩)⟩)), .bad⟩)⟩) := id (by
  first
  | rfl
  | (
      unfold eGet2
      rw [mbind_ap]
      congr 1))
end
/-! the operations on data -/
section
variable {i j : Int} {x y : Str} {ds es : List D} {b : Bool} {d : D} {C : Int → Int → Bool} {g : Int → Int → D}
theorem op2_int : op2 g (.int i) (.int j) = some (g i j) := id rfl
theorem op2C_int : op2C C g (.int i) (.int j) = if C i j then some (g i j) else none := id rfl
theorem add_int : opAdd (.int i) (.int j) = some (.int (i + j)) := id rfl
theorem neg_int : opNeg (.int i) = some (.int (-i)) := id rfl
theorem mul_int : opMul (.int i) (.int j) = if mulOk i j then some (.int (i * j)) else none := id rfl
theorem sub_int : opSub (.int i) (.int j) = some (.int (i - j)) := id rfl
theorem lt_int : opLt (.int i) (.int j) = some (.bl (decide (i < j))) := id rfl
theorem le_int : opLe (.int i) (.int j) = some (.bl (decide (i ≤ j))) := id rfl
theorem gt_int : opGt (.int i) (.int j) = some (.bl (decide (j < i))) := id rfl
theorem ge_int : opGe (.int i) (.int j) = some (.bl (decide (j ≤ i))) := id rfl
theorem mod_int : opMod (.int i) (.int j) = if decide (0 < j) then some (.int (i % j)) else none := id rfl
theorem fdiv_int : opFdiv (.int i) (.int j) = if decide (0 < j ∧ j < 1073741824) then some (.int (i / j)) else none := id rfl
theorem len_lst : opLen [.lst ds] = some (.int ds.length) := id rfl
theorem len_tup : opLen [.tup ds] = some (.int ds.length) := id rfl
theorem len_scr {ns : List Int} : opLen [.scr ns] = some (.int ns.length) := id rfl
theorem len_str : opLen [.str x] = if x.length ≤ 100000 then some (.int x.length) else none := id rfl
theorem ix_tup' : opIx (.tup ds) (.int i) = atI ds i := id rfl
theorem ix_lst' : opIx (.lst ds) (.int i) = atI ds i := id rfl
theorem ix_str' : opIx (.str x) (.int i) = if x.length ≤ 100000 then (atI x.cps.toList i).map fun c => .str ⟨#[c]⟩ else none := id rfl
theorem tuple_lst : opTuple [.lst ds] = some (.tup ds) := id rfl
theorem tuple_tup : opTuple [.tup ds] = some (.tup ds) := id rfl
theorem list_lst : opList [.lst ds] = some (.lst ds) := id rfl
theorem list_tup : opList [.tup ds] = some (.lst ds) := id rfl
theorem append_lst : opAppend (.lst ds) [d] = if ds.length ≤ 100000 then some (.non, .lst (ds ++ [d])) else none := id rfl
theorem isLst_lst : isLst (.lst ds) = true := id rfl
theorem isDct_dK {kvs : List (Key × D)} : isDct (.dK kvs) = true := id rfl
theorem isDct_dT {kvs : List (List Key × D)} : isDct (.dT kvs) = true := id rfl
theorem is_bl {a : Bool} : opIs (.bl a) (.bl b) = some (.bl (a == b)) := id rfl
theorem isNot_bl {a : Bool} : opIsNot (.bl a) (.bl b) = some (.bl (!(a == b))) := id rfl
theorem plain_int : plain (.int i) = true := id rfl
theorem plain_str : plain (.str x) = true := id rfl
theorem plain_bl : plain (.bl b) = true := id rfl
theorem plain_non : plain .non = true := id rfl
theorem plain_tup : plain (.tup ds) = plainL ds := id (by
  first
  | rfl
  | (
      exact by simp [plain]))
theorem plainL_nil : plainL [] = true := id (by
  first
  | rfl
  | (
      exact by simp [plainL]))
theorem plainL_cons : plainL (d :: ds) = (plain d && plainL ds) := id (by
  first
  | rfl
  | (
      exact by simp [plainL]))
theorem int_bl : opInt [.bl b] = some (.int (if b then 1 else 0)) := id rfl
theorem int_int : opInt [.int i] = some (.int i) := id rfl
theorem viewS_val : viewS (.val d) = .val d := id rfl
theorem viewS_own : viewS (.own d) = .val d := id rfl
theorem viewS_bor : viewS (.bor d) = .val d := id rfl
theorem viewS_no : viewS .no = .no := id rfl
theorem atI_0 : atI (d :: ds) 0 = some d := by
  exact atI_nat (j := 0) rfl
theorem atI_1 {e : D} : atI (d :: e :: ds) 1 = some e := atI_nat (j := 1) rfl
theorem atI_2 {e f : D} : atI (d :: e :: f :: ds) 2 = some f := atI_nat (j := 2) rfl
theorem atI_3 {e f h : D} : atI (d :: e :: f :: h :: ds) 3 = some h := atI_nat (j := 3) rfl
theorem rng1_int (h : -(2 ^ 62) ≤ j ∧ j < 2 ^ 62) : rng1 [.int j] = some ((List.range j.toNat).map fun k => D.int (k : Nat)) := by
  show (if _ then _ else _) = _
  rw [if_pos h]
end
end NT

set_option Elab.async false
set_option linter.all false
set_option maxRecDepth 100000
set_option maxHeartbeats 4000000
namespace NT
open PySem L2
/-! calls -/
theorem call_rt {np ns : Nat} {den : MS} {dds : List D} {fa : M (List D)} {ρ ρ1 ρ' : List Sl} {ds : List D} {r : D} (ha : fa ρ = .ok ds ρ1) (hl : (ds ++ dds).length = np) (h : den ((ds ++ dds).map .val ++ List.replicate ns .no) = .rt r ρ') : eCall np ns den dds fa ρ = .ok r ρ1 := by
  unfold eCall mbind
  rw [ha]
  simp only [hl, if_true, h]
theorem call_rtN {np ns : Nat} {den : MS} {dds : List D} {fa : M (List D)} {ρ ρ1 ρ' : List Sl} {ds : List D} {r : D} (ha : fa ρ = .ok ds ρ1) (hl : (ds ++ dds).length = np) (h : den ((ds ++ dds).map .val ++ List.replicate ns .no) = .rtN r ρ') : eCall np ns den dds fa ρ = .ok r ρ1 := by
  unfold eCall mbind
  rw [ha]
  simp only [hl, if_true, h]
theorem callN_rtN {np ns : Nat} {den : MS} {dds : List D} {fa : M (List D)} {ρ ρ1 ρ' : List Sl} {ds : List D} {r : D} (ha : fa ρ = .ok ds ρ1) (hl : (ds ++ dds).length = np) (h : den ((ds ++ dds).map .val ++ List.replicate ns .no) = .rtN r ρ') : eCallN np ns den dds fa ρ = .ok r ρ1 := by
  unfold eCallN mbind
  rw [ha]
  simp only [hl, if_true, h]
theorem bind_ok {α β : Type} {m : M α} {k : α → M β} {ρ ρ1 : List Sl} {a : α} (h : m ρ = .ok a ρ1) : mbind m k ρ = k a ρ1 := by
  unfold mbind
  rw [h]
theorem do_ok {α : Type} {m : M α} {k : α → MS} {ρ ρ1 : List Sl} {a : α} (h : m ρ = .ok a ρ1) : sDo m k ρ = k a ρ1 := by
  unfold sDo
  rw [h]
theorem seq_nx {f g : MS} {ρ ρ1 : List Sl} (h : f ρ = .nx ρ1) : sSeq f g ρ = g ρ1 := by
  unfold sSeq
  rw [h]
theorem seq_rt {f g : MS} {ρ ρ1 : List Sl} {d : D} (h : f ρ = .rt d ρ1) : sSeq f g ρ = .rt d ρ1 := by
  unfold sSeq
  rw [h]
theorem seq_ex {f g : MS} {ρ ρ1 : List Sl} {c : Nat} (h : f ρ = .ex c ρ1) : sSeq f g ρ = .ex c ρ1 := by
  unfold sSeq
  rw [h]
theorem if_ok {c : M Bool} {f g : MS} {ρ ρ1 : List Sl} {b : Bool} (h : c ρ = .ok b ρ1) : sIf c f g ρ = if b then f ρ1 else g ρ1 := by
  unfold sIf sDo
  rw [h]
  cases b <;> rfl
theorem ret_ok {f : M D} {ρ ρ1 : List Sl} {d : D} (h : f ρ = .ok d ρ1) : sRet f ρ = .rt d ρ1 := by
  unfold sRet sDo
  rw [h]
theorem retN_ok {f : M D} {ρ ρ1 : List Sl} {d : D} (h : f ρ = .ok d ρ1) : sRetN f ρ = .rtN d ρ1 := by
  unfold sRetN sDo
  rw [h]
theorem tval_ok {f : M D} {ρ ρ1 : List Sl} {b : Bool} (h : f ρ = .ok (.bl b) ρ1) : tVal f ρ = .ok b ρ1 := by
  unfold tVal mbind
  rw [h]
  rfl
theorem mor_ok {a b : M Bool} {ρ ρ1 ρ2 : List Sl} {x y : Bool} (h : a ρ = .ok x ρ1) (h2 : x = false → b ρ1 = .ok y ρ1) : mOr a b ρ = .ok (x || y) ρ1 := by
  unfold mOr
  rw [bind_ok h]
  cases x with
  | true => rfl
  | false => exact h2 rfl
theorem mand_ok {a b : M Bool} {ρ ρ1 : List Sl} {x y : Bool} (h : a ρ = .ok x ρ1) (h2 : x = true → b ρ1 = .ok y ρ1) : mAnd a b ρ = .ok (x && y) ρ1 := by
  unfold mAnd
  rw [bind_ok h]
  cases x with
  | false => rfl
  | true => exact h2 rfl
theorem mnot_ok {a : M Bool} {ρ ρ1 : List Sl} {x : Bool} (h : a ρ = .ok x ρ1) : mNot a ρ = .ok (!x) ρ1 := by
  unfold mNot
  rw [bind_ok h]
  rfl
theorem bin_ok {op : D → D → Option D} {a b : M D} {ρ ρ1 ρ2 : List Sl} {x y z : D} (h : a ρ = .ok x ρ1) (h2 : b ρ1 = .ok y ρ2) (h3 : op x y = some z) : eBin op a b ρ = .ok z ρ2 := by
  unfold eBin
  rw [bind_ok h, bind_ok h2, h3]
  rfl
theorem fn_ok {op : List D → Option D} {fa : M (List D)} {ρ ρ1 : List Sl} {xs : List D} {z : D} (h : fa ρ = .ok xs ρ1) (h3 : op xs = some z) : eFn op fa ρ = .ok z ρ1 := by
  unfold eFn
  rw [bind_ok h, h3]
  rfl
theorem acons_ok {a : M D} {r : M (List D)} {ρ ρ1 ρ2 : List Sl} {x : D} {xs : List D} (h : a ρ = .ok x ρ1) (h2 : r ρ1 = .ok xs ρ2) : aCons a r ρ = .ok (x :: xs) ρ2 := by
  unfold aCons
  rw [bind_ok h, bind_ok h2]
  rfl
theorem set_self_at {ρ : List Sl} {i : Nat} {s : Sl} (h : ρ[i]? = some s) : ρ.set i s = ρ := by
  obtain ⟨hl, e⟩ := List.getElem?_eq_some_iff.mp h
  rw [← e]
  exact List.set_getElem_self hl
/-- a loop that looks at each item, and leaves with False where one is not as wanted -/
theorem loop_look {i : Nat} {b : MS} {P : D → Bool} : ∀ {items : List D} {ρ : List Sl}, notBor ρ[i]? = true → (∀ d ∈ items, P d = true → b (ρ.set i (.val d)) = .nx (ρ.set i (.val d))) → (∀ d ∈ items, P d = false → ∃ ρ', b (ρ.set i (.val d)) = .rt (.bl false) ρ') →
    (items.all P = true → ∃ s, notBor (some s) = true ∧ loop (gN i) b items ρ = .nx (ρ.set i s)) ∧ (items.all P = false → ∃ ρ', loop (gN i) b items ρ = .rt (.bl false) ρ')
  | [], ρ, hb, _, _ => by
    refine ⟨fun _ => ?_, fun h => by cases h⟩
    obtain ⟨t, e, nb⟩ := notBor_some hb
    refine ⟨t, by rw [← e]; exact hb, ?_⟩
    rw [set_self_at e]
    rfl
  | d :: ds, ρ, hb, ht, hf => by
    obtain ⟨t, e, nb⟩ := notBor_some hb
    have hl : i < ρ.length := (List.getElem?_eq_some_iff.mp e).1
    have hm : gN i d ρ = some (ρ.set i (.val d)) := by
      unfold gN
      rw [if_pos hb]
    have hb2 : notBor (ρ.set i (.val d))[i]? = true := by
      rw [List.getElem?_set_self hl]
      rfl
    cases hp : P d with
    | true =>
      have e1 : loop (gN i) b (d :: ds) ρ = loop (gN i) b ds (ρ.set i (.val d)) := by
        show (match gN i d ρ with | none => O.bad | some ρ1 => match b ρ1 with | .nx ρ2 => loop (gN i) b ds ρ2 | o => o) = _
        rw [hm]
        dsimp only
        rw [ht d List.mem_cons_self hp]
      have ih := loop_look (b := b) (P := P) (items := ds) (ρ := ρ.set i (.val d)) hb2 (fun x hx q => by rw [List.set_set]; exact ht x (List.mem_cons_of_mem _ hx) q) (fun x hx q => by rw [List.set_set]; exact hf x (List.mem_cons_of_mem _ hx) q)
      rw [e1, List.all_cons, hp, Bool.true_and]
      refine ⟨fun q => ?_, ih.2⟩
      obtain ⟨s, h1, h2⟩ := ih.1 q
      exact ⟨s, h1, by rw [h2, List.set_set]⟩
    | false =>
      refine ⟨fun q => (by rw [List.all_cons, hp, Bool.false_and] at q; cases q), fun _ => ?_⟩
      obtain ⟨ρ', h⟩ := hf d List.mem_cons_self hp
      refine ⟨ρ', ?_⟩
      show (match gN i d ρ with | none => O.bad | some ρ1 => match b ρ1 with | .nx ρ2 => loop (gN i) b ds ρ2 | o => o) = _
      rw [hm]
      dsimp only
      rw [h]
/-- [e for x in items], nothing else changed -/
theorem comp_map {i : Nat} {e : M D} {f : D → D} : ∀ {items acc : List D} {ρ : List Sl}, isFree ρ[i]? = true → acc.length + items.length ≤ 100000 → (∀ d ∈ items, e ((ρ.set i .no).set i (.val d)) = .ok (f d) (ρ.set i (.val d))) →
    compL (gN i) (mpure true) e [i] items acc ρ = .ok (acc ++ items.map f) ρ
  | [], acc, ρ, _, _, _ => by
    show R.ok acc ρ = _
    rw [List.map_nil, List.append_nil]
  | d :: ds, acc, ρ, hf, hl, he => by
    obtain ⟨s, hs⟩ : ∃ s, ρ[i]? = some s := by
      cases q : ρ[i]? with
      | none => rw [q] at hf; cases hf
      | some s => exact ⟨s, rfl⟩
    have hlt : i < ρ.length := (List.getElem?_eq_some_iff.mp hs).1
    have hall : (([i] : List Nat).all fun v => isFree ρ[v]?) = true := by simp [hf]
    unfold compL
    rw [if_pos hall]
    have hm : gN i d (wipeS ρ [i]) = some ((ρ.set i .no).set i (.val d)) := by
      show (if notBor (ρ.set i Sl.no)[i]? = true then _ else _) = _
      rw [List.getElem?_set_self hlt]
      rfl
    rw [hm]
    dsimp only [mpure]
    rw [he d List.mem_cons_self]
    dsimp only
    rw [List.length_cons] at hl
    rw [if_pos (by omega)]
    have hb : backS ρ (ρ.set i (.val d)) [i] = ρ := by
      show (ρ.set i (.val d)).set i (ρ.getD i .no) = ρ
      rw [List.set_set, List.getD_eq_getElem?_getD, hs]
      exact set_self_at hs
    rw [hb, comp_map hf (by rw [List.length_append, List.length_singleton]; omega) fun x hx => he x (List.mem_cons_of_mem _ hx)]
    rw [List.append_assoc]
    rfl


/-- a loop with an invariant over what is still to come -/
theorem loop_ind {mg : MG} {b : MS} {I : List D → List Sl → Prop} (hs : ∀ d ds ρ, I (d :: ds) ρ → ∃ ρ1 ρ2, mg d ρ = some ρ1 ∧ b ρ1 = .nx ρ2 ∧ I ds ρ2) : ∀ {items : List D} {ρ : List Sl}, I items ρ → ∃ ρ', loop mg b items ρ = .nx ρ' ∧ I [] ρ'
  | [], ρ, h => ⟨ρ, rfl, h⟩
  | d :: ds, ρ, h => by
    obtain ⟨ρ1, ρ2, h1, h2, h3⟩ := hs d ds ρ h
    obtain ⟨ρ', h4, h5⟩ := loop_ind hs h3
    refine ⟨ρ', ?_, h5⟩
    rw [loop_cons, h1, optO_some]
    show nxt (b ρ1) (k := _) = _
    rw [h2, nxt_nx]
    exact h4
def rtv : O → Option D
  | .rt d _ => some d
  | _ => none
def rtvN : O → Option D
  | .rtN d _ => some d
  | _ => none
theorem rtv_rt {d : D} {ρ : List Sl} : rtv (.rt d ρ) = some d := rfl
theorem rtvN_rtN {d : D} {ρ : List Sl} : rtvN (.rtN d ρ) = some d := rfl
theorem of_rtv {o : O} {d : D} (h : rtv o = some d) : ∃ ρ', o = .rt d ρ' := by
  cases o <;> first | cases h; exact ⟨_, rfl⟩ | cases h
theorem of_rtvN {o : O} {d : D} (h : rtvN o = some d) : ∃ ρ', o = .rtN d ρ' := by
  cases o <;> first | cases h; exact ⟨_, rfl⟩ | cases h
theorem eq_int {i j : Int} : opEq (.int i) (.int j) = some (.bl (i == j)) := id rfl
theorem ne_int {i j : Int} : opNe (.int i) (.int j) = some (.bl (!(i == j))) := id rfl
theorem ne_bl {i j : Bool} : opNe (.bl i) (.bl j) = some (.bl (!(i == j))) := id rfl
theorem eq_bl {i j : Bool} : opEq (.bl i) (.bl j) = some (.bl (i == j)) := id rfl
theorem sl_tup {ds : List D} {lo hi : Option Int} : opSl (.tup ds) lo hi = some (.tup (cutL ds lo hi)) := id rfl
theorem cut_to {α : Type} {xs : List α} {i : Int} (h : 0 ≤ i) : cutL xs none (some i) = xs.take i.toNat := by
  unfold cutL
  rw [HT.sIx_none, show HT.sIx xs.length xs.length (some i) = min i.toNat xs.length from if_neg (by omega), List.drop_zero, Nat.sub_zero, List.take_eq_take_iff]
  omega
theorem cut_from {α : Type} {xs : List α} {i : Int} (h : 0 ≤ i) : cutL xs (some i) none = xs.drop i.toNat := by
  unfold cutL
  rw [HT.sIx_none, show HT.sIx xs.length 0 (some i) = min i.toNat xs.length from if_neg (by omega)]
  by_cases hl : i.toNat ≤ xs.length
  · rw [Nat.min_eq_left hl, List.take_of_length_le (by rw [List.length_drop]; exact Nat.le_refl _)]
  · rw [Nat.min_eq_right (by omega), List.drop_of_length_le (Nat.le_refl _), List.take_nil, List.drop_of_length_le (by omega)]
theorem if_t {α : Sort _} {p : Prop} [Decidable p] {x y : α} (h : p) : (if p then x else y) = x := if_pos h
theorem atI_some {α : Type} {xs : List α} {i : Int} {v : α} (h0 : 0 ≤ i) (h : xs[i.toNat]? = some v) : atI xs i = some v := by
  have e := atI_nat h
  rwa [Int.toNat_of_nonneg h0] at e
end NT

set_option Elab.async false
set_option linter.all false
set_option maxRecDepth 100000
set_option maxHeartbeats 4000000
namespace NT
open PySem L2
/-! the law as its caller sees it -/
def spLaw (K : PySem.W.Frag) : Sp := fun vs H Q _ => ∃ (a : Addr) (ns : List Int), vs = [.ref a] ∧ SqL K H a (ns.map V.int) ∧ ns.length ≤ 63 ∧ ∀ H', Q (.bl true) H'
theorem law_sp {K : PySem.W.Frag} {cls : Nat → Value} {n : Nat} {den : MS} (hd : ∀ ns : List Int, ns.length ≤ 63 → ∃ ρ', den (.val (.scr ns) :: List.replicate n .no) = .rt (.bl true) ρ') : ∀ vs H Q E, spLaw K vs H Q E → spD K cls 1 n den vs H Q E := by
  rintro vs H Q E ⟨a, ns, rfl, hS, hl, hq⟩
  obtain ⟨ρ', e⟩ := hd ns hl
  refine ⟨rfl, H, [], [.val (.scr ns)], CS.args (ds := [.scr ns]) (Same.refl _) (.cons (.scr hS) .nil), ?_⟩
  show PO K cls _ _ _ _ (den (.val (.scr ns) :: List.replicate n .no))
  rw [e]
  intro v σ' G' H' _ c r
  cases r
  exact hq H'
end NT

set_option Elab.async false
set_option linter.all false
set_option maxRecDepth 100000
set_option maxHeartbeats 4000000
namespace NT
open PySem L2

/-! ### while -/
def wloop (t : M Bool) (b : MS) : Nat → MS
  | 0 => fun _ => .bad
  | n + 1 => fun ρ => match t ρ with
    | .ok true ρ1 => match b ρ1 with
      | .nx ρ2 => wloop t b n ρ2
      | o => o
    | .ok false ρ1 => .nx ρ1
    | .ex c ρ1 => .ex c ρ1
    | .bad => .bad
def fuel : Nat := 1000000
def sWhile (n : Nat) (t : M Bool) (b : MS) : MS := wloop t b n
section
variable {X : Cx} {cls : Nat → Value} {W : WX} {e a b : Expr} {es : List Expr} {f g : M D} {tf : M Bool} {pos : Pos} {sf sg : MS} {st : Stmt} {sts : List Stmt}
theorem sim_while {K : PySem.W.Frag} {tc : TT} {tb : TS} {n : Nat} (hc : SimT K cls W tc tf) (hb : SimS K cls W tb sf) : SimS K cls W (tWhile tc tb) (sWhile n tf sf) := fun F ρ σ G H c E w => by
  refine ⟨fun m σ2 H2 => ∃ ρ2 G2, Ex G G2 ∧ CS K F G2 H2 σ2 ρ2 ∧ PO K cls W F G E (wloop tf sf m ρ2), ⟨n, ρ, G, Same.refl G, c, w⟩, ?_⟩
  rintro m σ2 H2 ⟨ρ2, G2, e2, c2, p⟩
  cases m with
  | zero => exact p.elim
  | succ m =>
    unfold wloop at p
    refine hc F ρ2 σ2 G2 H2 c2 _ ?_
    cases q : tf ρ2 with
    | bad => rw [q] at p; exact p.elim
    | ex c ρ' =>
      rw [q] at p
      exact fun G' H' e' c' => p σ2 G' H' (e2.trans e') c'
    | ok v ρ3 =>
      rw [q] at p
      intro G3 H3 e3 c3
      cases v with
      | false => exact p σ2 G3 H3 (e2.trans e3) c3
      | true =>
        have p : PO K cls W F G E (match sf ρ3 with
          | O.nx ρ2 => wloop tf sf m ρ2
          | o => o) := p
        refine ⟨fun σ4 H4 => ∃ ρ4 G4, Ex G G4 ∧ CS K F G4 H4 σ4 ρ4 ∧ PO K cls W F G E (wloop tf sf m ρ4), fun σ4 H4 h => ⟨m, Nat.lt_succ_self m, h⟩, ?_⟩
        refine hb F ρ3 σ2 G3 H3 c3 _ ?_
        cases hq : sf ρ3 with
        | nx ρ4 =>
          rw [hq] at p
          exact fun σ5 G5 H5 e5 c5 => ⟨ρ4, G5, (e2.trans e3).trans e5, c5, p⟩
        | rt d ρ' => rw [hq] at p; exact PO.mono (E := E) (e2.trans e3) (o := .rt d ρ') p
        | rtN d ρ' => rw [hq] at p; exact PO.mono (E := E) (e2.trans e3) (o := .rtN d ρ') p
        | ex c ρ' => rw [hq] at p; exact PO.mono (E := E) (e2.trans e3) (o := .ex c ρ') p
        | bad => rw [hq] at p; exact p.elim
theorem q_while {c : Expr} {body : List Stmt} (n : Nat) (hp : ∀ tc tb, PT X c tc → PSs X body tb → PS X st (tWhile tc tb)) (hc : QT X cls W c tf) (hb : QB X cls W body sf) : QS X cls W st (sWhile n tf sf) := by
  obtain ⟨⟨t, p, s⟩, _⟩ := hc
  obtain ⟨⟨tb, pb, sb⟩⟩ := hb
  exact ⟨⟨_, hp t tb p pb, sim_while s sb⟩⟩
end

/-! ### xs.pop(i) -/
theorem RepL.eraseIdx {K : PySem.W.Frag} {G : Hp} : ∀ {v : List V} {d : List D} (i : Nat), RepL K G v d → RepL K G (v.eraseIdx i) (d.eraseIdx i)
  | _, _, _, .nil => .nil
  | _, _, 0, .cons _ r => r
  | _, _, i + 1, .cons h r => .cons h (RepL.eraseIdx i r)
def opPopAt : D → List D → Option (D × D)
  | .lst ds, [.int i] => if -(2 ^ 63) ≤ i ∧ i < 2 ^ 63 then match seqIndex? i ds.length with
    | some k => match ds[k]? with
      | some y => some (y, .lst (ds.eraseIdx k))
      | none => none
    | none => none
    else none
  | _, _ => none
theorem mut_popAt {K : PySem.W.Frag} : Mut1 K "list" rPopAt opPopAt := fun G H l d vs xs z d' ho rv ex h Q q => by
  unfold opPopAt at h
  split at h
  · rename_i ds i
    split at h
    · rename_i hi
      split at h
      · rename_i k hk
        split at h
        · rename_i y e
          cases h
          obtain ⟨ys, eh, r⟩ := ho
          obtain ⟨u, hu, ru⟩ := r.get e
          cases rv with
          | cons r1 r2 =>
            cases r2
            cases r1
            exact ⟨l, ys, i, k, u, rfl, rfl, eh, hi.1, hi.2, by rw [r.length]; exact hk, hu, q _ _ ru ⟨_, upd_same, r.eraseIdx k⟩⟩
        · cases h
      · cases h
    · cases h
  · cases h

/-! ### a dict locked and let go -/
theorem ext_upd {K : PySem.W.Frag} {G : Hp} {a : Addr} {x y : HO} (hG : G a = some x) (ht : ∀ xs, x ≠ .tup xs) (hl : ∀ xs, x ≠ .lst xs) (hf : ∀ o xs, x ≠ .frz o (.lst xs)) (hft : ∀ o xs, x ≠ .frz o (.tup xs)) (hi : ∀ C dx xs, x ≠ .ins C dx xs)
    (hk : ∀ kvs, (x = .dK kvs ∨ ∃ o, x = .frz o (.dK kvs)) → (y = .dK kvs ∨ ∃ o, y = .frz o (.dK kvs))) (hT : ∀ kvs, (x = .dT kvs ∨ ∃ o, x = .frz o (.dT kvs)) → (y = .dT kvs ∨ ∃ o, y = .frz o (.dT kvs))) : Ext K G (upd G a y) := by
  refine ⟨fun b xs h => ?_, fun b o xs h => ?_, fun b C dx xs h => ?_, fun b xs h => ?_, fun b xs h => ?_, fun b xs h => ?_, fun b xs h => ?_⟩
  · rw [upd_ne (fun z => by rw [z, hG] at h; cases h; exact ht _ rfl)]; exact h
  · rw [upd_ne (fun z => by rw [z, hG] at h; cases h; exact hft _ _ rfl)]; exact h
  · rw [upd_ne (fun z => by rw [z, hG] at h; cases h; exact hi _ _ _ rfl)]; exact h
  · rw [upd_ne (fun z => by rw [z, hG] at h; cases h; exact hl _ rfl)]; exact h
  · rcases h with h | h
    · refine .inl ?_
      have ne : b ≠ a := fun z => by
        subst z
        rcases h with h | ⟨o, h⟩ <;> rw [hG] at h <;> cases h
        · exact hl _ rfl
        · exact hf _ _ rfl
      rcases h with h | ⟨o, h⟩
      · exact .inl (by rw [upd_ne ne]; exact h)
      · exact .inr ⟨o, by rw [upd_ne ne]; exact h⟩
    · exact .inr h
  · by_cases z : b = a
    · subst z
      have h2 : x = .dK xs ∨ ∃ o, x = .frz o (.dK xs) := by
        rcases h with h | ⟨o, h⟩ <;> rw [hG] at h <;> cases h
        · exact .inl rfl
        · exact .inr ⟨o, rfl⟩
      rcases hk xs h2 with h | ⟨o, h⟩
      · exact .inl (by rw [upd_same, h])
      · exact .inr ⟨o, by rw [upd_same, h]⟩
    · rcases h with h | ⟨o, h⟩
      · exact .inl (by rw [upd_ne z]; exact h)
      · exact .inr ⟨o, by rw [upd_ne z]; exact h⟩
  · by_cases z : b = a
    · subst z
      have h2 : x = .dT xs ∨ ∃ o, x = .frz o (.dT xs) := by
        rcases h with h | ⟨o, h⟩ <;> rw [hG] at h <;> cases h
        · exact .inl rfl
        · exact .inr ⟨o, rfl⟩
      rcases hT xs h2 with h | ⟨o, h⟩
      · exact .inl (by rw [upd_same, h])
      · exact .inr ⟨o, by rw [upd_same, h]⟩
    · rcases h with h | ⟨o, h⟩
      · exact .inl (by rw [upd_ne z]; exact h)
      · exact .inr ⟨o, by rw [upd_ne z]; exact h⟩
theorem ext_lock {K : PySem.W.Frag} {G : Hp} {a : Addr} {kvs : List (Key × V)} {o : PySem.Obj} (hG : G a = some (.dK kvs)) : Ext K G (upd G a (.frz o (.dK kvs))) :=
  ext_upd hG (fun _ z => by cases z) (fun _ z => by cases z) (fun _ _ z => by cases z) (fun _ _ z => by cases z) (fun _ _ _ z => by cases z) (fun k h => by
    rcases h with h | ⟨o, h⟩ <;> cases h
    exact .inr ⟨_, rfl⟩) (fun k h => by rcases h with h | ⟨o, h⟩ <;> cases h)
theorem ext_unlock {K : PySem.W.Frag} {G : Hp} {a : Addr} {kvs : List (Key × V)} {o : PySem.Obj} (hG : G a = some (.frz o (.dK kvs))) : Ext K G (upd G a (.dK kvs)) :=
  ext_upd hG (fun _ z => by cases z) (fun _ z => by cases z) (fun _ _ z => by cases z) (fun _ _ z => by cases z) (fun _ _ _ z => by cases z) (fun k h => by
    rcases h with h | ⟨o, h⟩ <;> cases h
    exact .inl rfl) (fun k h => by rcases h with h | ⟨o, h⟩ <;> cases h)
def relk (H : Hp) (a : Addr) (w : HO) : Hp := match H a with
  | none => H
  | some _ => upd H a w
theorem relk_ne {H : Hp} {a b : Addr} {w : HO} (h : b ≠ a) : relk H a w b = H b := by
  unfold relk
  cases H a with
  | none => rfl
  | some o => exact upd_ne h
theorem relk_none {H : Hp} {a : Addr} {w : HO} (h : H a = none) : relk H a w a = none := by
  unfold relk
  rw [h]
  exact h
theorem relk_some {H : Hp} {a : Addr} {w o : HO} (h : H a = some o) : relk H a w a = some w := by
  unfold relk
  rw [h]
  exact upd_same
def Fm.lock (F : Fm) (a : Addr) (w : HO) : Fm := ⟨relk F.H0 a w, relk F.G0 a w, F.B⟩
section
variable {K : PySem.W.Frag} {F F' : Fm} {G H G' H' : Hp} {σ σ' : St} {ρ ρ' : List Sl} {cls : Nat → Value} {W : WX}
theorem CS.swap (c : CS K F G H σ ρ) {a : Addr} {x y : HO} (hG : G a = some x) (E : Ext K G (upd G a y)) (hB : F'.B = F.B) (h0 : ∀ b, b ≠ a → F'.H0 b = F.H0 b) (h1 : ∀ b, b ≠ a → F'.G0 b = F.G0 b)
    (k0 : (F'.H0 a = none ∧ F.H0 a = none) ∨ (F'.H0 a = some y ∧ F.H0 a ≠ none)) (k1 : (F'.G0 a = none ∧ F.G0 a = none) ∨ (F'.G0 a = some y ∧ F.G0 a ≠ none)) : CS K F' (upd G a y) (upd H a y) σ ρ := by
  have keep : ∀ {l : Addr} {d : D}, Obj K G H l d → G l = none → Obj K (upd G a y) (upd H a y) l d ∧ (upd G a y) l = none ∧ l ≠ a := fun {l d} ho hl => by
    have ne : l ≠ a := fun z => by rw [z, hG] at hl; cases hl
    exact ⟨ho.mono E (upd_ne ne), by rw [upd_ne ne]; exact hl, ne⟩
  refine ⟨fun b o e => ?_, fun b o e => ?_, fun b o e hb => ?_, fun b e1 e2 => ?_, c.len, fun i d e => ?_, fun i d e => ?_, fun i d e => ?_, fun i l e => ?_, c.sep⟩
  · by_cases z : b = a
    · subst z; rw [upd_same] at e ⊢; exact e
    · rw [upd_ne z] at e ⊢; exact c.ex _ _ e
  · by_cases z : b = a
    · subst z
      rcases k1 with ⟨q, _⟩ | ⟨q, _⟩
      · rw [q] at e; cases e
      · rw [q] at e; rw [upd_same]; exact e
    · rw [h1 b z] at e; rw [upd_ne z]; exact c.g0 _ _ e
  · by_cases z : b = a
    · subst z
      rcases k0 with ⟨q, _⟩ | ⟨q, _⟩
      · rw [q] at e; cases e
      · rw [q] at e; rw [upd_same]; exact e
    · rw [h0 b z] at e; rw [upd_ne z]; exact c.fr b o e fun i => by rw [← hB]; exact hb i
  · by_cases z : b = a
    · subst z
      rcases k1 with ⟨_, q⟩ | ⟨q, _⟩
      · have w := c.gn b q (by rw [hG]; exact fun z => by cases z)
        rcases k0 with ⟨r, _⟩ | ⟨_, r⟩
        · exact r
        · exact (r w).elim
      · rw [q] at e1; cases e1
    · rw [h1 b z] at e1; rw [upd_ne z] at e2; rw [h0 b z]; exact c.gn b e1 e2
  · obtain ⟨v, p, q⟩ := c.vals i d e
    exact ⟨v, p, q.ext E⟩
  · obtain ⟨l, p, q, r, s⟩ := c.owns i d e
    obtain ⟨t1, t2, t3⟩ := keep q r
    exact ⟨l, p, t1, t2, by rw [h0 l t3]; exact s⟩
  · obtain ⟨l, p, q, r, s⟩ := c.bors i d e
    obtain ⟨t1, t2, t3⟩ := keep q r
    exact ⟨l, p, t1, t2, by rw [hB]; exact s⟩
  · rw [hB] at e
    exact c.bb i l e
theorem CS.notB (c : CS K F G H σ ρ) {a : Addr} {x : HO} (hG : G a = some x) : ∀ i, (i, a) ∉ F.B := fun i h => by
  obtain ⟨d, h1, h2⟩ := c.bb i a h
  obtain ⟨l, q1, _, q2, _⟩ := c.bors i d h1
  rw [h2] at q1
  cases q1
  rw [hG] at q2
  cases q2
theorem CS.lock (c : CS K F G H σ ρ) {a : Addr} {kvs : List (Key × V)} (o : PySem.Obj) (hG : G a = some (.dK kvs)) : CS K (F.lock a (.frz o (.dK kvs))) (upd G a (.frz o (.dK kvs))) (upd H a (.frz o (.dK kvs))) σ ρ := by
  refine c.swap hG (ext_lock hG) rfl (fun b z => relk_ne z) (fun b z => relk_ne z) ?_ ?_
  · cases q : F.H0 a with
    | none => exact .inl ⟨relk_none q, rfl⟩
    | some x => exact .inr ⟨relk_some q, fun z => by cases z⟩
  · cases q : F.G0 a with
    | none => exact .inl ⟨relk_none q, rfl⟩
    | some x => exact .inr ⟨relk_some q, fun z => by cases z⟩
theorem CS.unlock (c : CS K F G H σ ρ) {a : Addr} {kvs : List (Key × V)} {o : PySem.Obj} (hG : G a = some (.dK kvs)) (e' : Ex (upd G a (.frz o (.dK kvs))) G') (c' : CS K (F.lock a (.frz o (.dK kvs))) G' H' σ' ρ') :
    CS K F (upd G' a (.dK kvs)) (upd H' a (.dK kvs)) σ' ρ' ∧ Ex G (upd G' a (.dK kvs)) ∧ H' a = some (.frz o (.dK kvs)) ∧ Ext K G' (upd G' a (.dK kvs)) := by
  have hG' : G' a = some (.frz o (.dK kvs)) := e' a _ upd_same
  have hx := ext_unlock (K := K) hG'
  refine ⟨c'.swap hG' hx rfl (fun b z => (relk_ne z).symm) (fun b z => (relk_ne z).symm) ?_ ?_, fun b x e => ?_, c'.ex _ _ hG', hx⟩
  · cases q : F.H0 a with
    | none => exact .inl ⟨rfl, relk_none q⟩
    | some x =>
      have h1 := c.fr a x q (c.notB hG)
      have h2 := c.ex _ _ hG
      rw [h1] at h2
      cases h2
      exact .inr ⟨rfl, by rw [show (F.lock a (.frz o (.dK kvs))).H0 a = some _ from relk_some q]; exact fun z => by cases z⟩
  · cases q : F.G0 a with
    | none => exact .inl ⟨rfl, relk_none q⟩
    | some x =>
      have h1 := c.g0 a x q
      rw [hG] at h1
      cases h1
      exact .inr ⟨rfl, by rw [show (F.lock a (.frz o (.dK kvs))).G0 a = some _ from relk_some q]; exact fun z => by cases z⟩
  · by_cases z : b = a
    · subst z; rw [hG] at e; cases e; exact upd_same
    · rw [upd_ne z]
      exact e' b x (by rw [upd_ne z]; exact e)
theorem Fr.unlock {l a : Addr} {d : D} {u y : HO} (f : Fr K (F.lock a y) G H σ ρ l d) (hG : G a = some y) (E : Ext K G (upd G a u)) : Fr K F (upd G a u) (upd H a u) σ ρ l d := by
  have ne : l ≠ a := fun z => by have := f.g; rw [z, hG] at this; cases this
  refine ⟨f.obj.mono E (upd_ne ne), by rw [upd_ne ne]; exact f.g, ?_, f.nm⟩
  have := f.h0
  rwa [show (F.lock a y).H0 l = F.H0 l from relk_ne ne] at this
end

/-! ### places of frozen dicts, and walks over them -/
def plV (i : Nat) (ρ : List Sl) : Option D := match ρ[i]? with
  | some (.val d) => some d
  | _ => none
structure Place (K : PySem.W.Frag) (te : TE) (pl : List Sl → Option D) : Prop where
  find : ∀ F ρ σ G H d, CS K F G H σ ρ → pl ρ = some d → ∃ v, Rep K G v d ∧ (∀ Q : VK, Q v H → te σ H Q) ∧ ∀ a kvs o, G a = some (.dK kvs) → ∀ Q : VK, Q v (upd H a (.frz o (.dK kvs))) → te σ (upd H a (.frz o (.dK kvs))) Q
theorem place_var {K : PySem.W.Frag} {i : Nat} : Place K (tVar i) (plV i) := ⟨fun F ρ σ G H d c h => by
  unfold plV at h
  split at h
  · rename_i d' e
    cases h
    obtain ⟨v, hv, r⟩ := c.vals i d e
    exact ⟨v, r, fun Q q => ⟨v, hv, q⟩, fun a kvs o _ Q q => ⟨v, hv, q⟩⟩
  · cases h⟩
def kD : Key → D
  | .inl i => .int i
  | .inr x => .str x
theorem rep_key {K : PySem.W.Frag} {G : Hp} (k : Key) : Rep K G (kV k) (kD k) := by
  cases k with
  | inl i => exact .int i
  | inr x => exact .str x
/-- a way to walk a locked dict -/
structure DWalk (K : PySem.W.Frag) (wi : TE → TI) (mk : List (Key × D) → List D) : Prop where
  walk : ∀ te σ H a o xs kvs G, G a = some (.frz o (.dK xs)) → H a = some (.frz o (.dK xs)) → RepK K G xs kvs → (∀ Q : VK, Q (.ref a) H → te σ H Q) → ∀ Q : It → Hp → Prop, (∀ J, Walks K J G (mk kvs) → Q J H) → wi te σ H Q
def iDct (pl : List Sl → Option D) (mk : List (Key × D) → List D) : M (List D) := fun ρ => match pl ρ with
  | some (.dK kvs) => .ok (mk kvs) ρ
  | _ => .bad
theorem iDct_ok {pl : List Sl → Option D} {mk : List (Key × D) → List D} {ρ : List Sl} {P : List D → List Sl → Prop} {E : Nat → List Sl → Prop} (h : wpR (iDct pl mk ρ) P E) : ∃ kvs, pl ρ = some (.dK kvs) ∧ P (mk kvs) ρ := by
  unfold iDct at h
  split at h
  · rename_i kvs e
    exact ⟨kvs, e, h⟩
  · exact h.elim
def mkKeys (kvs : List (Key × D)) : List D := kvs.map fun kv => kD kv.1
def mkVals (kvs : List (Key × D)) : List D := kvs.map fun kv => kv.2
def mkItems (kvs : List (Key × D)) : List D := kvs.map fun kv => .raw [kD kv.1, kv.2]
theorem RepK.get {K : PySem.W.Frag} {G : Hp} : ∀ {v : List (Key × V)} {d : List (Key × D)} {i : Nat} {x : Key × D}, RepK K G v d → d[i]? = some x → ∃ u, v[i]? = some (x.1, u) ∧ Rep K G u x.2
  | _, _, _, _, .nil, e => by simp at e
  | _, _, 0, _, .cons h _, e => by simp at e; subst e; exact ⟨_, rfl, h⟩
  | _, _, i + 1, x, .cons _ r, e => by
    obtain ⟨u, h1, h2⟩ := RepK.get (i := i) (x := x) r (by simpa using e)
    exact ⟨u, by simpa using h1, h2⟩
theorem map_get {α β : Type} {f : α → β} {l : List α} {i : Nat} {y : β} (h : (l.map f)[i]? = some y) : ∃ x, l[i]? = some x ∧ f x = y := by
  rw [List.getElem?_map] at h
  cases q : l[i]? with
  | none => rw [q] at h; cases h
  | some x => rw [q] at h; cases h; exact ⟨x, rfl, rfl⟩
theorem walks_keys {K : PySem.W.Frag} {G : Hp} {a : Addr} {o : PySem.Obj} {xs : List (Key × V)} {kvs : List (Key × D)} (h : G a = some (.frz o (.dK xs))) (r : RepK K G xs kvs) : Walks K (Itk a o xs) G (mkKeys kvs) := fun F G1 H1 σ ρ e1 c1 => by
  have h1 : H1 a = some (.frz o (.dK xs)) := c1.ex _ _ (e1 _ _ h)
  refine ⟨fun i d hd => ?_, ⟨h1, by rw [r.length]; unfold mkKeys; rw [List.length_map]; exact Nat.le_refl _⟩⟩
  obtain ⟨kv, hk, e⟩ := map_get hd
  subst e
  obtain ⟨u, hu, ru⟩ := r.get hk
  refine ⟨⟨h1, (List.getElem?_eq_some_iff.mp hu).1⟩, fun x H2 ⟨e, k, v, q, y⟩ => ?_⟩
  subst e
  rw [hu] at q
  cases q
  subst y
  exact ⟨G1, Same.refl G1, c1, rep_key _⟩
theorem walks_vals {K : PySem.W.Frag} {G : Hp} {a : Addr} {o : PySem.Obj} {xs : List (Key × V)} {kvs : List (Key × D)} (h : G a = some (.frz o (.dK xs))) (r : RepK K G xs kvs) : Walks K (Itd a o xs) G (mkVals kvs) := fun F G1 H1 σ ρ e1 c1 => by
  have h1 : H1 a = some (.frz o (.dK xs)) := c1.ex _ _ (e1 _ _ h)
  refine ⟨fun i d hd => ?_, ⟨h1, by rw [r.length]; unfold mkVals; rw [List.length_map]; exact Nat.le_refl _⟩⟩
  obtain ⟨kv, hk, e⟩ := map_get hd
  subst e
  obtain ⟨u, hu, ru⟩ := r.get hk
  refine ⟨⟨h1, (List.getElem?_eq_some_iff.mp hu).1⟩, fun x H2 ⟨e, k, q⟩ => ?_⟩
  subst e
  rw [hu] at q
  cases q
  exact ⟨G1, Same.refl G1, c1, ru.mono e1⟩
theorem walks_items {K : PySem.W.Frag} {G : Hp} {a : Addr} {o : PySem.Obj} {xs : List (Key × V)} {kvs : List (Key × D)} (h : G a = some (.frz o (.dK xs))) (r : RepK K G xs kvs) : Walks K (Iti a o xs) G (mkItems kvs) := fun F G1 H1 σ ρ e1 c1 => by
  have h1 : H1 a = some (.frz o (.dK xs)) := c1.ex _ _ (e1 _ _ h)
  refine ⟨fun i d hd => ?_, ⟨h1, by rw [r.length]; unfold mkItems; rw [List.length_map]; exact Nat.le_refl _⟩⟩
  obtain ⟨kv, hk, e⟩ := map_get hd
  subst e
  obtain ⟨u, hu, ru⟩ := r.get hk
  refine ⟨⟨h1, (List.getElem?_eq_some_iff.mp hu).1⟩, fun x H2 ⟨T, k, v, q, y, hT, e⟩ => ?_⟩
  subst e
  rw [hu] at q
  cases q
  subst y
  have e2 : Ex G1 (upd G1 T (.tup [kV kv.1, u])) := fun b x e => by
    rw [upd_ne (ne_of_none e (c1.fresh hT).2.1)]
    exact e
  exact ⟨_, e2, c1.alloc hT _, .raw (.inl upd_same) (.cons (rep_key _) (.cons ((ru.mono e1).mono e2) .nil))⟩
theorem dw_keys {K : PySem.W.Frag} : DWalk K iKeys mkKeys := ⟨fun te σ H a o xs kvs G hG hH r ht Q q => ht _ ⟨a, o, rfl, .inl ⟨xs, hH, q _ (walks_keys hG r)⟩⟩⟩
theorem dw_keysM {K : PySem.W.Frag} : DWalk K iKeysM mkKeys := ⟨fun te σ H a o xs kvs G hG hH r ht Q q => ht _ ⟨a, o, xs, rfl, hH, q _ (walks_keys hG r)⟩⟩
theorem dw_vals {K : PySem.W.Frag} : DWalk K iVals mkVals := ⟨fun te σ H a o xs kvs G hG hH r ht Q q => ht _ ⟨a, o, xs, rfl, hH, q _ (walks_vals hG r)⟩⟩
theorem dw_items {K : PySem.W.Frag} : DWalk K iItems mkItems := ⟨fun te σ H a o xs kvs G hG hH r ht Q q => ht _ ⟨a, o, xs, rfl, hH, q _ (walks_items hG r)⟩⟩
/-- nothing is raised -/
def sCalm (f : MS) : MS := fun ρ => match f ρ with
  | .ex _ _ => .bad
  | o => o
theorem PS.or {X : Cx} {st : Stmt} {t u : TS} (h1 : PS X st t) (h2 : PS X st u) : PS X st (fun D σ H => t D σ H ∨ u D σ H) := ⟨fun pins s σ H D I h => h.elim (h1.run pins s σ H D I) (h2.run pins s σ H D I)⟩
theorem PE.or {X : Cx} {e : Expr} {t u : TE} (h1 : PE X e t) (h2 : PE X e u) : PE X e (fun σ H Q => t σ H Q ∨ u σ H Q) := ⟨fun pins s σ H D I h => h.elim (h1.run pins s σ H D I) (h2.run pins s σ H D I)⟩
section
variable {X : Cx} {cls : Nat → Value} {W : WX} {e a b : Expr} {es : List Expr} {f g : M D} {tf : M Bool} {pos : Pos} {sf sg : MS} {st : Stmt} {sts : List Stmt}
theorem sim_forD {K : PySem.W.Frag} {te : TE} {pl : List Sl → Option D} {wi : TE → TI} {mk : List (Key × D) → List D} {g : TG} {m : MG} {tb : TS} {b : MS} {ts : List Nat} (hpl : Place K te pl) (hw : DWalk K wi mk) (hg : SimG K g m ts) (hb : SimS K cls W tb b) :
    SimS K cls W (fun D σ H => tFor (wi te) g tb D σ H ∨ tLock (tFor (wi te) g tb) D σ H) (sCalm (sFor (iDct pl mk) m b)) := fun F ρ σ G H c E w => by
  have hk : ∃ kvs, pl ρ = some (.dK kvs) := by
    cases q : iDct pl mk ρ with
    | ok ds ρ' =>
      unfold iDct at q
      split at q
      · rename_i kvs e
        exact ⟨kvs, e⟩
      · cases q
    | ex c ρ' =>
      unfold iDct at q
      split at q <;> cases q
    | bad =>
      unfold sCalm sFor sDo at w
      rw [q] at w
      exact w.elim
  obtain ⟨kvs, hk⟩ := hk
  obtain ⟨v, r, ev, evl⟩ := hpl.find F ρ σ G H _ c hk
  have w0 : ∀ o, sFor (iDct pl mk) m b ρ = o → (∀ c ρ', o ≠ .ex c ρ') → PO K cls W F G E o := fun o ho hne => by
    unfold sCalm at w
    rw [ho] at w
    cases o with
    | ex c ρ' => exact (hne c ρ' rfl).elim
    | _ => exact w
  have nex : ∀ c ρ', sFor (iDct pl mk) m b ρ ≠ .ex c ρ' := fun c ρ' h => by
    unfold sCalm at w
    rw [h] at w
    exact w
  cases r with
  | dK hd rk =>
    rename_i a xs
    rcases hd with hd | ⟨o, hd⟩
    · -- it is locked
      refine .inr ⟨a, .dK xs, c.ex _ _ hd, trivial, fun od => ?_⟩
      have c1 := c.lock od hd
      have rk1 := rk.ext (ext_lock (o := od) hd)
      refine sim_for_at (fi := iDct pl mk) (F := F.lock a (.frz od (.dK xs))) (ρ := ρ) (G := upd G a (.frz od (.dK xs))) (fun Q q => ?_) hg hb _ ?_
      · obtain ⟨kvs', e1, q⟩ := iDct_ok q
        rw [hk] at e1
        cases e1
        exact hw.walk te σ _ a od xs kvs _ upd_same upd_same rk1 (evl a xs od hd) Q fun J wk => q J _ _ (Same.refl _) c1 wk
      · have w1 := w0 _ rfl nex
        cases ho : sFor (iDct pl mk) m b ρ with
        | ex c ρ' => exact (nex c ρ' ho).elim
        | bad => rw [ho] at w1; exact w1
        | nx ρ' =>
          rw [ho] at w1
          intro σ' G' H' e' c'
          obtain ⟨k1, k2, k3, k4⟩ := c.unlock hd e' c'
          exact ⟨k3, w1 σ' _ _ k2 k1⟩
        | rt d ρ' =>
          rw [ho] at w1
          intro v σ' G' H' e' c' rv
          obtain ⟨k1, k2, k3, k4⟩ := c.unlock hd e' c'
          exact ⟨k3, w1 v σ' _ _ k2 k1 (rv.ext k4)⟩
        | rtN d ρ' =>
          rw [ho] at w1
          intro l σ' G' H' e' c' fr
          obtain ⟨k1, k2, k3, k4⟩ := c.unlock hd e' c'
          exact ⟨k3, w1 l σ' _ _ k2 k1 (fr.unlock (e' a _ upd_same) k4)⟩
    · refine .inl (sim_for_at (fi := iDct pl mk) (F := F) (ρ := ρ) (G := G) (fun Q q => ?_) hg hb _ (w0 _ rfl nex))
      obtain ⟨kvs', e1, q⟩ := iDct_ok q
      rw [hk] at e1
      cases e1
      exact hw.walk te σ H a o xs kvs G hd (c.ex _ _ hd) rk ev Q fun J wk => q J G H (Same.refl _) c wk
theorem sim_compD {K : PySem.W.Frag} {te : TE} {pl : List Sl → Option D} {wi : TE → TI} {mk : List (Key × D) → List D} {g : TG} {m : MG} {tt : TT} {tm : M Bool} {tx : TE} {em : M D} {vs ts : List Nat} (hpl : Place K te pl) (hw : DWalk K wi mk) (hg : SimG K g m ts) (ht : SimT K cls noW tt tm) (he : SimE K cls noW tx em) (hts : ∀ t ∈ ts, t ∈ vs) :
    SimN K cls W (fun σ H Q => tLc (wi te) g tt tx vs σ H Q ∨ tLockE (tLc (wi te) g tt tx vs) σ H Q) (eComp (iDct pl mk) m tm em vs) := fun F ρ σ G H c Q w => by
  obtain ⟨kvs, hk, _⟩ := iDct_ok (wpR_bind w)
  obtain ⟨v, r, ev, evl⟩ := hpl.find F ρ σ G H _ c hk
  have nex : ∀ c ρ', eComp (iDct pl mk) m tm em vs ρ ≠ .ex c ρ' := fun c ρ' h => by
    have key : ∀ (ds acc : List D) (ρ : List Sl), compL m tm em vs ds acc ρ ≠ .ex c ρ' := fun ds => by
      induction ds with
      | nil => exact fun acc ρ h => by cases h
      | cons d ds ih =>
        intro acc ρ h
        unfold compL at h
        split at h
        · split at h
          · cases h
          · split at h
            · split at h
              · split at h
                · exact ih _ _ h
                · cases h
              · cases h
            · exact ih _ _ h
            · cases h
        · cases h
    unfold eComp mbind iDct at h
    rw [hk] at h
    dsimp only at h
    cases q : compL m tm em vs (mk kvs) [] ρ with
    | ok ys ρ1 => rw [q] at h; cases h
    | ex c1 ρ1 => rw [q] at h; cases h; exact key _ _ _ q
    | bad => rw [q] at h; cases h
  cases r with
  | dK hd rk =>
    rename_i a xs
    rcases hd with hd | ⟨o, hd⟩
    · refine .inr ⟨a, .dK xs, c.ex _ _ hd, trivial, fun od => ?_⟩
      have c1 := c.lock od hd
      have rk1 := rk.ext (ext_lock (o := od) hd)
      refine sim_comp_at (W := W) (fi := iDct pl mk) (F := F.lock a (.frz od (.dK xs))) (ρ := ρ) (G := upd G a (.frz od (.dK xs))) (fun Q q => ?_) hg ht he hts _ ?_
      · obtain ⟨kvs', e1, q⟩ := iDct_ok q
        rw [hk] at e1
        cases e1
        exact hw.walk te σ _ a od xs kvs _ upd_same upd_same rk1 (evl a xs od hd) Q fun J wk => q J _ _ (Same.refl _) c1 wk
      · cases ho : eComp (iDct pl mk) m tm em vs ρ with
        | ex c ρ' => exact (nex c ρ' ho).elim
        | bad => rw [ho] at w; exact w
        | ok d ρ' =>
          rw [ho] at w
          intro l G' H' e' c' fr
          obtain ⟨k1, k2, k3, k4⟩ := c.unlock hd e' c'
          exact ⟨k3, w l _ _ k2 k1 (fr.unlock (e' a _ upd_same) k4)⟩
    · refine .inl (sim_comp_at (W := W) (fi := iDct pl mk) (F := F) (ρ := ρ) (G := G) (fun Q q => ?_) hg ht he hts _ w)
      obtain ⟨kvs', e1, q⟩ := iDct_ok q
      rw [hk] at e1
      cases e1
      exact hw.walk te σ H a o xs kvs G hd (c.ex _ _ hd) rk ev Q fun J wk => q J G H (Same.refl _) c wk
theorem inert_iDct {pl : List Sl → Option D} {mk : List (Key × D) → List D} : Inert (iDct pl mk) := fun ρ n a ρ' h => by
  unfold iDct at h
  split at h
  · cases h; rfl
  · cases h
/-- for k in d (a name) -/
theorem q_forD {te : TE} {pl : List Sl → Option D} {wi : TE → TI} {mk : List (Key × D) → List D} {tg iter : Expr} {m : MG} {body : List Stmt} {bf : MS} {ts : List Nat} (hpi : PI X tg iter (wi te)) (hpl : Place X.K te pl) (hw : DWalk X.K wi mk) (hg : QG X tg m ts) (hb : QB X cls W body bf) (hp : ∀ wi g tb, PI X tg iter wi → PG X tg g → PSs X body tb → PS X st (tFor wi g tb)) : QS X cls W st (sCalm (sFor (iDct pl mk) m bf)) := by
  obtain ⟨⟨g, pg, sg⟩⟩ := hg
  obtain ⟨⟨tb, pb, sb⟩⟩ := hb
  exact ⟨⟨_, PS.or (hp _ g tb hpi pg pb) (ps_lock (hp _ g tb hpi pg pb)), sim_forD hpl hw sg sb⟩⟩
variable {elt tg iter : Expr} {ifs : List Expr} {scope : Scope} {own : List (Str × Nat)} {m : MG} {tm : M Bool} {em : M D} {vs ts : List Nat}
theorem q_compD {te : TE} {pl : List Sl → Option D} {wi : TE → TI} {mk : List (Key × D) → List D} (hpi : PI X tg iter (wi te)) (hpl : Place X.K te pl) (hw : DWalk X.K wi mk) (hc : X.calm = true) (hN : X.N.Nodup) (ok : BlkOk X.N X.env.scope scope own)
    (hg : ∀ (s : Shared) (H : Hp) (C : Addr) (cl : List (Str × Addr)) (fp : List Addr), QG (X.blk s H scope (compEnvC scope cl C X.env) fp) tg m ts)
    (ht : ∀ (s : Shared) (H : Hp) (C : Addr) (cl : List (Str × Addr)) (fp : List Addr), QTs (X.blk s H scope (compEnvC scope cl C X.env) fp) cls noW ifs tm)
    (he : ∀ (s : Shared) (H : Hp) (C : Addr) (cl : List (Str × Addr)) (fp : List Addr), QE (X.blk s H scope (compEnvC scope cl C X.env) fp) cls noW elt em)
    (gok : GOk m ts) (hvs : own.map (·.2) = vs) (hts : ∀ t ∈ ts, t ∈ vs) (hs : ∀ x, foldedSetIterable iter X.env x = pure x := by intro _; rfl) :
    QN X cls W (.ListComp elt [⟨tg, iter, ifs, 0⟩] scope pos) (eComp (iDct pl mk) m tm em vs) := by
  subst hvs
  have p := pe_lc hc hN hpi ok (g := tOfG X.K m ts) (tt := tOfT X.K cls noW tm) (te := tOfE X.K cls noW em) (fun s H C cl fp => (hg s H C cl fp).pg) (fun s H C cl fp => (ht s H C cl fp).pt) (fun s H C cl fp => (he s H C cl fp).pe) hs (pos := pos)
  exact ⟨⟨_, PE.or p (pe_lock p), sim_compD hpl hw simG_of simT_of simE_of hts⟩, comp_inert inert_iDct gok hts (ht X.s_0 X.H_0 0 [] []).inert (he X.s_0 X.H_0 0 [] []).inert⟩
/-- x = [.. for k in d ..] -/
theorem sim_setLcD {K : PySem.W.Frag} {t : TE} {i : Nat} {f : M D} (h : SimN K cls W (fun σ H Q => t σ H Q ∨ tLockE t σ H Q) f) : SimS K cls W (fun D σ H => tAsg t (gName i) D σ H ∨ tLock (tAsg t (gName i)) D σ H) (sSetN i f) := fun F ρ σ G H c E w =>
  (h F ρ σ G H c (fun v H1 => E.nx (σ.set i (some v)) H1) (sDo_wp w fun d ρ' p v G1 H1 e1 c1 r1 => by
    obtain ⟨hb, q⟩ := put_ok p
    exact q _ _ _ e1 (c1.setOwn hb r1))).imp (fun z => z) fun ⟨d, u, h1, h2, h3⟩ => ⟨d, u, h1, h2, h3⟩
theorem sim_setLcDF {K : PySem.W.Frag} {t : TE} {i : Nat} {f : M D} (h : SimE K cls W (fun σ H Q => t σ H Q ∨ tLockE t σ H Q) f) : SimS K cls W (fun D σ H => tAsg t (gName i) D σ H ∨ tLock (tAsg t (gName i)) D σ H) (sSet i f) := fun F ρ σ G H c E w =>
  (h F ρ σ G H c (fun v H1 => E.nx (σ.set i (some v)) H1) (sDo_wp w fun d ρ' p v G1 H1 e1 c1 r1 => by
    obtain ⟨hb, q⟩ := put_ok p
    exact q _ _ _ e1 (c1.setVal hb r1))).imp (fun z => z) fun ⟨d, u, h1, h2, h3⟩ => ⟨d, u, h1, h2, h3⟩
theorem q_setLcDN (i : Nat) {y : Str} {py spos : Pos} {te : TE} {pl : List Sl → Option D} {wi : TE → TI} {mk : List (Key × D) → List D} (hpi : PI X tg iter (wi te)) (hpl : Place X.K te pl) (hw : DWalk X.K wi mk) (hc : X.calm = true) (hN : X.N.Nodup) (hy : X.N[i]? = some y) (hyl : X.env.scope.names.lookup y = some .local)
    (hsw : swapsWith (.ListComp elt [⟨tg, iter, ifs, 0⟩] scope pos) (some (.Name y py)) spos.line X.env = pure true) (ok : BlkOk X.N X.env.scope scope own)
    (hg : ∀ (s : Shared) (H : Hp) (C : Addr) (cl : List (Str × Addr)) (fp : List Addr), QG (X.blk s H scope (compEnvC scope cl C X.env) fp) tg m ts)
    (ht : ∀ (s : Shared) (H : Hp) (C : Addr) (cl : List (Str × Addr)) (fp : List Addr), QTs (X.blk s H scope (compEnvC scope cl C X.env) fp) cls noW ifs tm)
    (he : ∀ (s : Shared) (H : Hp) (C : Addr) (cl : List (Str × Addr)) (fp : List Addr), QE (X.blk s H scope (compEnvC scope cl C X.env) fp) cls noW elt em)
    (gok : GOk m ts) (hvs : own.map (·.2) = vs) (hts : ∀ t ∈ ts, t ∈ vs) (hs : ∀ x, foldedSetIterable iter X.env x = pure x := by intro _; rfl) :
    QS X cls W (.Assign [.Name y py] (.ListComp elt [⟨tg, iter, ifs, 0⟩] scope pos) spos) (sSetN i (eComp (iDct pl mk) m tm em vs)) := by
  subst hvs
  have p := ps_setLc hc hN hy hyl hsw hpi ok (g := tOfG X.K m ts) (tt := tOfT X.K cls noW tm) (te := tOfE X.K cls noW em) (fun s H C cl fp => (hg s H C cl fp).pg) (fun s H C cl fp => (ht s H C cl fp).pt) (fun s H C cl fp => (he s H C cl fp).pe) hs
  exact ⟨⟨_, PS.or p (ps_lock p), sim_setLcD (sim_compD hpl hw simG_of simT_of simE_of hts)⟩⟩
theorem q_setLcD (i : Nat) {y : Str} {py spos : Pos} {te : TE} {pl : List Sl → Option D} {wi : TE → TI} {mk : List (Key × D) → List D} (hpi : PI X tg iter (wi te)) (hpl : Place X.K te pl) (hw : DWalk X.K wi mk) (hc : X.calm = true) (hN : X.N.Nodup) (hy : X.N[i]? = some y) (hyl : X.env.scope.names.lookup y = some .local)
    (hsw : swapsWith (.ListComp elt [⟨tg, iter, ifs, 0⟩] scope pos) (some (.Name y py)) spos.line X.env = pure true) (ok : BlkOk X.N X.env.scope scope own)
    (hg : ∀ (s : Shared) (H : Hp) (C : Addr) (cl : List (Str × Addr)) (fp : List Addr), QG (X.blk s H scope (compEnvC scope cl C X.env) fp) tg m ts)
    (ht : ∀ (s : Shared) (H : Hp) (C : Addr) (cl : List (Str × Addr)) (fp : List Addr), QTs (X.blk s H scope (compEnvC scope cl C X.env) fp) cls noW ifs tm)
    (he : ∀ (s : Shared) (H : Hp) (C : Addr) (cl : List (Str × Addr)) (fp : List Addr), QE (X.blk s H scope (compEnvC scope cl C X.env) fp) cls noW elt em)
    (gok : GOk m ts) (hvs : own.map (·.2) = vs) (hts : ∀ t ∈ ts, t ∈ vs) (hs : ∀ x, foldedSetIterable iter X.env x = pure x := by intro _; rfl) :
    QS X cls W (.Assign [.Name y py] (.ListComp elt [⟨tg, iter, ifs, 0⟩] scope pos) spos) (sSet i (eComp (iDct pl mk) m tm em vs)) := by
  subst hvs
  have p := ps_setLc hc hN hy hyl hsw hpi ok (g := tOfG X.K m ts) (tt := tOfT X.K cls noW tm) (te := tOfE X.K cls noW em) (fun s H C cl fp => (hg s H C cl fp).pg) (fun s H C cl fp => (ht s H C cl fp).pt) (fun s H C cl fp => (he s H C cl fp).pe) hs
  exact ⟨⟨_, PS.or p (ps_lock p), sim_setLcDF (sim_compD hpl hw simG_of simT_of simE_of hts).frz⟩⟩
variable {fi : M (List D)}
/-- x = [..] seen as a whole -/
theorem q_setLcVN (i : Nat) {y : Str} {py spos : Pos} (hc : X.calm = true) (hN : X.N.Nodup) (hy : X.N[i]? = some y) (hyl : X.env.scope.names.lookup y = some .local)
    (hsw : swapsWith (.ListComp elt [⟨tg, iter, ifs, 0⟩] scope pos) (some (.Name y py)) spos.line X.env = pure true) (hi : QI X cls W tg iter fi) (ok : BlkOk X.N X.env.scope scope own)
    (hg : ∀ (s : Shared) (H : Hp) (C : Addr) (cl : List (Str × Addr)) (fp : List Addr), QG (X.blk s H scope (compEnvC scope cl C X.env) fp) tg m ts)
    (ht : ∀ (s : Shared) (H : Hp) (C : Addr) (cl : List (Str × Addr)) (fp : List Addr), QTs (X.blk s H scope (compEnvC scope cl C X.env) fp) cls noW ifs tm)
    (he : ∀ (s : Shared) (H : Hp) (C : Addr) (cl : List (Str × Addr)) (fp : List Addr), QE (X.blk s H scope (compEnvC scope cl C X.env) fp) cls noW elt em)
    (gok : GOk m ts) (hvs : own.map (·.2) = vs) (hts : ∀ t ∈ ts, t ∈ vs) (hs : ∀ x, foldedSetIterable iter X.env x = pure x := by intro _; rfl) :
    QS X cls W (.Assign [.Name y py] (.ListComp elt [⟨tg, iter, ifs, 0⟩] scope pos) spos) (sSetN i (eViewN (eComp fi m tm em vs))) := by
  obtain ⟨⟨wi, pi, si⟩, ii⟩ := hi
  subst hvs
  exact ⟨⟨_, ps_setLc hc hN hy hyl hsw pi ok (g := tOfG X.K m ts) (tt := tOfT X.K cls noW tm) (te := tOfE X.K cls noW em) (fun s H C cl fp => (hg s H C cl fp).pg) (fun s H C cl fp => (ht s H C cl fp).pt) (fun s H C cl fp => (he s H C cl fp).pe) hs, sim_setN (sim_viewN (sim_comp si simG_of simT_of simE_of hts) (comp_inert ii gok hts (ht X.s_0 X.H_0 0 [] []).inert (he X.s_0 X.H_0 0 [] []).inert))⟩⟩
theorem q_setLcV (i : Nat) {y : Str} {py spos : Pos} (hc : X.calm = true) (hN : X.N.Nodup) (hy : X.N[i]? = some y) (hyl : X.env.scope.names.lookup y = some .local)
    (hsw : swapsWith (.ListComp elt [⟨tg, iter, ifs, 0⟩] scope pos) (some (.Name y py)) spos.line X.env = pure true) (hi : QI X cls W tg iter fi) (ok : BlkOk X.N X.env.scope scope own)
    (hg : ∀ (s : Shared) (H : Hp) (C : Addr) (cl : List (Str × Addr)) (fp : List Addr), QG (X.blk s H scope (compEnvC scope cl C X.env) fp) tg m ts)
    (ht : ∀ (s : Shared) (H : Hp) (C : Addr) (cl : List (Str × Addr)) (fp : List Addr), QTs (X.blk s H scope (compEnvC scope cl C X.env) fp) cls noW ifs tm)
    (he : ∀ (s : Shared) (H : Hp) (C : Addr) (cl : List (Str × Addr)) (fp : List Addr), QE (X.blk s H scope (compEnvC scope cl C X.env) fp) cls noW elt em)
    (gok : GOk m ts) (hvs : own.map (·.2) = vs) (hts : ∀ t ∈ ts, t ∈ vs) (hs : ∀ x, foldedSetIterable iter X.env x = pure x := by intro _; rfl) :
    QS X cls W (.Assign [.Name y py] (.ListComp elt [⟨tg, iter, ifs, 0⟩] scope pos) spos) (sSet i (eViewN (eComp fi m tm em vs))) := by
  obtain ⟨⟨wi, pi, si⟩, ii⟩ := hi
  subst hvs
  exact ⟨⟨_, ps_setLc hc hN hy hyl hsw pi ok (g := tOfG X.K m ts) (tt := tOfT X.K cls noW tm) (te := tOfE X.K cls noW em) (fun s H C cl fp => (hg s H C cl fp).pg) (fun s H C cl fp => (ht s H C cl fp).pt) (fun s H C cl fp => (he s H C cl fp).pe) hs, sim_set (sim_viewN (sim_comp si simG_of simT_of simE_of hts) (comp_inert ii gok hts (ht X.s_0 X.H_0 0 [] []).inert (he X.s_0 X.H_0 0 [] []).inert)).frz⟩⟩
end
end NT

set_option Elab.async false
set_option linter.all false
set_option maxRecDepth 100000
set_option maxHeartbeats 4000000
namespace NT
open PySem L2
/-! ### what an outcome has to keep -/
class KW where
  N : List Sl → Prop
  R : D → List Sl → Prop
  RN : D → List Sl → Prop
  E : Nat → Prop
def wO0 (o : O) (k : KW) : Prop := match o with
  | .nx ρ => k.N ρ
  | .rt d ρ => k.R d ρ
  | .rtN d ρ => k.RN d ρ
  | .ex c _ => k.E c
  | .bad => False
/-- kept closed: tactics must not evaluate it -/
structure wO (o : O) [k : KW] : Prop where
  out : wO0 o k
theorem wO.g {o : O} {k : KW} (h : wO o (k := k)) : wO0 o k := @wO.out o k h
theorem wO.c {o : O} {k : KW} (h : wO0 o k) : wO o (k := k) := @wO.mk o k h
section
variable {k : KW} {kn : KN} {ρ : List Sl} {d : D} {c : Nat} {o : O}
theorem wO_nx : wO (.nx ρ) (k := k) = k.N ρ := propext ⟨fun h => h.g, fun h => .c h⟩
theorem wO_rt : wO (.rt d ρ) (k := k) = k.R d ρ := propext ⟨fun h => h.g, fun h => .c h⟩
theorem wO_rtN : wO (.rtN d ρ) (k := k) = k.RN d ρ := propext ⟨fun h => h.g, fun h => .c h⟩
theorem wO_ex : wO (.ex c ρ) (k := k) = k.E c := propext ⟨fun h => h.g, fun h => .c h⟩
theorem wO_nxt (h : wO o (k := ⟨fun ρ => wO (kn.run ρ) (k := k), k.R, k.RN, k.E⟩)) : wO (nxt o (k := kn)) (k := k) := by
  cases o with
  | nx ρ => exact h.g
  | rt d ρ => exact (.c h.g)
  | rtN d ρ => exact (.c h.g)
  | ex c ρ => exact (.c h.g)
  | bad => exact (.c h.g)
theorem of_rt {d : D} (h : wO o (k := ⟨fun _ => False, fun d' _ => d' = d, fun _ _ => False, fun _ => False⟩)) : ∃ ρ', o = .rt d ρ' := by
  cases o with
  | rt d' ρ => exact ⟨ρ, by rw [show d' = d from h.g]⟩
  | _ => exact h.g.elim
theorem of_rtN {d : D} (h : wO o (k := ⟨fun _ => False, fun _ _ => False, fun d' _ => d' = d, fun _ => False⟩)) : ∃ ρ', o = .rtN d ρ' := by
  cases o with
  | rtN d' ρ => exact ⟨ρ, by rw [show d' = d from h.g]⟩
  | _ => exact h.g.elim
theorem of_rtP {P : D → List Sl → Prop} (h : wO o (k := ⟨fun _ => False, P, fun _ _ => False, fun _ => False⟩)) : ∃ d ρ', o = .rt d ρ' ∧ P d ρ' := by
  cases o with
  | rt d' ρ => exact ⟨d', ρ, rfl, h.g⟩
  | _ => exact h.g.elim
theorem of_rtNP {P : D → List Sl → Prop} (h : wO o (k := ⟨fun _ => False, fun _ _ => False, P, fun _ => False⟩)) : ∃ d ρ', o = .rtN d ρ' ∧ P d ρ' := by
  cases o with
  | rtN d' ρ => exact ⟨d', ρ, rfl, h.g⟩
  | _ => exact h.g.elim
theorem of_nxP {P : List Sl → Prop} (h : wO o (k := ⟨P, fun _ _ => False, fun _ _ => False, fun _ => False⟩)) : ∃ ρ', o = .nx ρ' ∧ P ρ' := by
  cases o with
  | nx ρ => exact ⟨ρ, rfl, h.g⟩
  | _ => exact h.g.elim
theorem wO_rw {o' : O} (e : o = o') (h : wO o' (k := k)) : wO o (k := k) := e ▸ h
end
/-- a value returned, and the first slot -/
def rtb : O → Option (D × Sl)
  | .rt d (s :: _) => some (d, s)
  | _ => none
theorem rtb_rt {d : D} {s : Sl} {ρ : List Sl} : rtb (.rt d (s :: ρ)) = some (d, s) := id rfl
theorem of_rtb {o : O} {d : D} {s : Sl} (h : rtb o = some (d, s)) : ∃ ρ', o = .rt d (s :: ρ') := by
  cases o with
  | rt e ρ =>
    cases ρ with
    | nil => cases h
    | cons a b => cases h; exact ⟨b, rfl⟩
  | _ => cases h
/-! loops -/
def stp (m : MG) (b : MS) (d : D) (ρ : List Sl) : O := optO (m d ρ) (k := ⟨fun ρ => b ρ⟩)
theorem stp_ap {m : MG} {b : MS} {d : D} {ρ : List Sl} : stp m b d ρ = optO (m d ρ) (k := ⟨fun ρ => b ρ⟩) := id rfl
theorem loop_stp {m : MG} {b : MS} {d : D} {ds : List D} {ρ : List Sl} : loop m b (d :: ds) ρ = nxt (stp m b d ρ) (k := ⟨fun ρ => loop m b ds ρ⟩) := by
  rw [loop_cons, stp_ap]
  cases m d ρ <;> rfl
section
variable {m : MG} {b : MS} {kn : KN} {k : KW} {ρ : List Sl} {α : Type}
theorem wO_loop {f : α → D} {N : List Sl → Prop} (I : List α → List Sl → Prop) (hs : ∀ x xs ρ, I (x :: xs) ρ → wO (stp m b (f x) ρ) (k := ⟨fun ρ2 => I xs ρ2, k.R, k.RN, k.E⟩)) (hd : ∀ ρ, I [] ρ → k.N ρ) : ∀ {xs : List α} {ρ : List Sl}, I xs ρ → wO (loop m b (xs.map f) ρ) (k := k)
  | [], ρ, h0 => .c (hd ρ h0)
  | x :: xs, ρ, h0 => by
    rw [List.map_cons, loop_stp]
    have h := hs x xs ρ h0
    cases q : stp m b (f x) ρ with
    | nx ρ2 => rw [q] at h; exact wO_loop (N := N) I hs hd h.g
    | rt d ρ2 => rw [q] at h; exact (.c h.g)
    | rtN d ρ2 => rw [q] at h; exact (.c h.g)
    | ex c ρ2 => rw [q] at h; exact (.c h.g)
    | bad => rw [q] at h; exact h.g.elim
/-- a loop and what follows -/
theorem wO_for {f : α → D} {xs : List α} (I : List α → List Sl → Prop) (h0 : I xs ρ) (hs : ∀ x xs ρ, I (x :: xs) ρ → wO (stp m b (f x) ρ) (k := ⟨fun ρ2 => I xs ρ2, k.R, k.RN, k.E⟩)) (hd : ∀ ρ, I [] ρ → wO (kn.run ρ) (k := k)) : wO (nxt (loop m b (xs.map f) ρ) (k := kn)) (k := k) :=
  wO_nxt (wO_loop (k := ⟨fun ρ => wO (kn.run ρ) (k := k), k.R, k.RN, k.E⟩) (N := k.N) I hs (fun ρ h => hd ρ h) h0)
theorem wO_forD {xs : List D} (I : List D → List Sl → Prop) (h0 : I xs ρ) (hs : ∀ x xs ρ, I (x :: xs) ρ → wO (stp m b x ρ) (k := ⟨fun ρ2 => I xs ρ2, k.R, k.RN, k.E⟩)) (hd : ∀ ρ, I [] ρ → wO (kn.run ρ) (k := k)) : wO (nxt (loop m b xs ρ) (k := kn)) (k := k) := by
  have h := wO_for (f := id) (m := m) (b := b) (kn := kn) (k := k) (xs := xs) I h0 hs hd
  rwa [List.map_id] at h
def calmO (o : O) : O := match o with
  | .ex _ _ => .bad
  | o => o
theorem sCalm_ap {f : MS} : sCalm f ρ = calmO (f ρ) := id (by unfold sCalm calmO; cases f ρ <;> rfl)
theorem wO_forC {f : α → D} {xs : List α} (I : List α → List Sl → Prop) (h0 : I xs ρ) (hs : ∀ x xs ρ, I (x :: xs) ρ → wO (stp m b (f x) ρ) (k := ⟨fun ρ2 => I xs ρ2, k.R, k.RN, fun _ => False⟩)) (hd : ∀ ρ, I [] ρ → wO (kn.run ρ) (k := k)) : wO (nxt (calmO (loop m b (xs.map f) ρ)) (k := kn)) (k := k) := by
  have h : wO (loop m b (xs.map f) ρ) (k := ⟨fun ρ => wO (kn.run ρ) (k := k), k.R, k.RN, fun _ => False⟩) := wO_loop (k := ⟨fun ρ => wO (kn.run ρ) (k := k), k.R, k.RN, fun _ => False⟩) (N := k.N) I hs hd h0
  refine wO_nxt ?_
  cases q : loop m b (xs.map f) ρ with
  | ex c ρ => rw [q] at h; exact h.g.elim
  | nx ρ => rw [q] at h; exact (.c h.g)
  | rt d ρ => rw [q] at h; exact (.c h.g)
  | rtN d ρ => rw [q] at h; exact (.c h.g)
  | bad => rw [q] at h; exact (.c h.g)
/-! while -/
class KT where
  run : Bool → List Sl → Prop
def wT0 (r : R Bool) (k : KT) : Prop := match r with
  | .ok v ρ => k.run v ρ
  | _ => False
structure wT (r : R Bool) [k : KT] : Prop where
  out : wT0 r k
theorem wT.g {o : R Bool} {k : KT} (h : wT o (k := k)) : wT0 o k := @wT.out o k h
theorem wT.c {o : R Bool} {k : KT} (h : wT0 o k) : wT o (k := k) := @wT.mk o k h
theorem wT_ok {v : Bool} {kt : KT} : wT (.ok v ρ) (k := kt) = kt.run v ρ := propext ⟨fun h => h.g, fun h => .c h⟩
theorem sWhile_ap {n : Nat} {t : M Bool} : sWhile n t b ρ = wloop t b n ρ := id rfl
theorem wO_wloop {t : M Bool} (I : Nat → List Sl → Prop) (hs : ∀ m ρ, I m ρ → wT (t ρ) (k := ⟨fun v ρ1 => (v = true → wO (b ρ1) (k := ⟨fun ρ2 => ∃ m', m' < m ∧ I m' ρ2, k.R, k.RN, k.E⟩)) ∧ (v = false → k.N ρ1)⟩)) : ∀ {n m : Nat} {ρ : List Sl}, I m ρ → m < n → wO (wloop t b n ρ) (k := k)
  | 0, m, ρ, _, h => (by omega)
  | n + 1, m, ρ, h0, hn => by
    have h := hs m ρ h0
    unfold wloop
    cases q : t ρ with
    | ok v ρ1 =>
      rw [q] at h
      cases v with
      | false => exact (.c (h.g.2 rfl))
      | true =>
        have h := h.g.1 rfl
        dsimp only
        cases q2 : b ρ1 with
        | nx ρ2 =>
          rw [q2] at h
          obtain ⟨m', hm, hi⟩ := h.g
          exact wO_wloop I hs hi (by omega)
        | rt d ρ2 => rw [q2] at h; exact (.c h.g)
        | rtN d ρ2 => rw [q2] at h; exact (.c h.g)
        | ex c ρ2 => rw [q2] at h; exact (.c h.g)
        | bad => rw [q2] at h; exact h.g.elim
    | ex c ρ1 => rw [q] at h; exact h.g.elim
    | bad => rw [q] at h; exact h.g.elim
theorem wO_while {t : M Bool} {n : Nat} (I : Nat → List Sl → Prop) (m0 : Nat) (h0 : I m0 ρ) (hn : m0 < n) (hs : ∀ m ρ, I m ρ → wT (t ρ) (k := ⟨fun v ρ1 => (v = true → wO (b ρ1) (k := ⟨fun ρ2 => ∃ m', m' < m ∧ I m' ρ2, k.R, k.RN, k.E⟩)) ∧ (v = false → wO (kn.run ρ1) (k := k))⟩)) : wO (nxt (wloop t b n ρ) (k := kn)) (k := k) :=
  wO_nxt (wO_wloop (k := ⟨fun ρ => wO (kn.run ρ) (k := k), k.R, k.RN, k.E⟩) I hs h0 hn)
end
theorem cast_0 : ((0 : Nat) : Int) = 0 := id rfl
theorem cast_1 : ((1 : Nat) : Int) = 1 := id rfl
theorem cast_2 : ((2 : Nat) : Int) = 2 := id rfl
theorem cast_3 : ((3 : Nat) : Int) = 3 := id rfl
theorem cast_4 : ((4 : Nat) : Int) = 4 := id rfl
theorem cast_5 : ((5 : Nat) : Int) = 5 := id rfl
theorem cast_6 : ((6 : Nat) : Int) = 6 := id rfl
theorem cast_7 : ((7 : Nat) : Int) = 7 := id rfl
theorem cast_8 : ((8 : Nat) : Int) = 8 := id rfl
/-- a fact that rewriting does not see -/
structure Hid (p : Prop) : Prop where
  out : p
theorem lt_fuel {n : Nat} (h : n < 1000000) : n < fuel := h
/-! comprehensions -/
theorem comp_ok {i : Nat} {e : M D} {f : D → D} {items : List D} {ρ : List Sl} (hf : isFree ρ[i]? = true) (hl : items.length ≤ 100000) (he : ∀ d ∈ items, e (ρ.set i (.val d)) = .ok (f d) (ρ.set i (.val d))) : compL (gN i) (mpure true) e [i] items [] ρ = .ok (items.map f) ρ := by
  rw [comp_map hf (by rw [List.length_nil]; omega) (fun d hd => by rw [List.set_set]; exact he d hd), List.nil_append]
/-- over typed items -/
theorem comp_okM {α : Type} {i : Nat} {e : M D} {g : α → D} {f : α → D} {xs : List α} {ρ : List Sl} (hf : isFree ρ[i]? = true) (hl : xs.length ≤ 100000) (he : ∀ x ∈ xs, e (ρ.set i (.val (g x))) = .ok (f x) (ρ.set i (.val (g x)))) : compL (gN i) (mpure true) e [i] (xs.map g) [] ρ = .ok (xs.map f) ρ := by
  have key : ∀ (xs : List α) (acc : List D), acc.length + xs.length ≤ 100000 → (∀ x ∈ xs, e (ρ.set i (.val (g x))) = .ok (f x) (ρ.set i (.val (g x)))) → compL (gN i) (mpure true) e [i] (xs.map g) acc ρ = .ok (acc ++ xs.map f) ρ := fun xs => by
    induction xs with
    | nil => intro acc _ _; rw [List.map_nil, List.map_nil, List.append_nil]; rfl
    | cons x xs ih =>
      intro acc hl he
      obtain ⟨s, hs⟩ : ∃ s, ρ[i]? = some s := by
        cases q : ρ[i]? with
        | none => rw [q] at hf; cases hf
        | some s => exact ⟨s, rfl⟩
      have hlt : i < ρ.length := (List.getElem?_eq_some_iff.mp hs).1
      have hall : (([i] : List Nat).all fun v => isFree ρ[v]?) = true := by simp [hf]
      rw [List.map_cons]
      unfold compL
      rw [if_pos hall]
      have hm : gN i (g x) (wipeS ρ [i]) = some (ρ.set i (.val (g x))) := by
        show (if notBor (ρ.set i Sl.no)[i]? = true then some ((ρ.set i Sl.no).set i _) else none) = _
        rw [List.getElem?_set_self hlt, List.set_set]
        rfl
      rw [hm]
      dsimp only [mpure]
      rw [he x List.mem_cons_self]
      dsimp only
      rw [List.length_cons] at hl
      rw [if_pos (by omega)]
      have hb : backS ρ (ρ.set i (.val (g x))) [i] = ρ := by
        show (ρ.set i (.val (g x))).set i (ρ.getD i .no) = ρ
        rw [List.set_set, List.getD_eq_getElem?_getD, hs]
        exact set_self_at hs
      rw [hb, ih _ (by rw [List.length_append, List.length_singleton]; omega) fun x hx => he x (List.mem_cons_of_mem _ hx), List.append_assoc, List.map_cons]
      rfl
  have := key xs [] (by rw [List.length_nil]; omega) he
  rwa [List.nil_append] at this
/-- with a test -/
theorem comp_filM {α : Type} {i : Nat} {t : M Bool} {e : M D} {g : α → D} {p : α → Bool} {f : α → D} {xs : List α} {ρ : List Sl} (hf : isFree ρ[i]? = true) (hl : xs.length ≤ 100000) (ht : ∀ x ∈ xs, t (ρ.set i (.val (g x))) = .ok (p x) (ρ.set i (.val (g x)))) (he : ∀ x ∈ xs, p x = true → e (ρ.set i (.val (g x))) = .ok (f x) (ρ.set i (.val (g x)))) : compL (gN i) t e [i] (xs.map g) [] ρ = .ok ((xs.filter p).map f) ρ := by
  have key : ∀ (xs : List α) (acc : List D), acc.length + xs.length ≤ 100000 → (∀ x ∈ xs, t (ρ.set i (.val (g x))) = .ok (p x) (ρ.set i (.val (g x)))) → (∀ x ∈ xs, p x = true → e (ρ.set i (.val (g x))) = .ok (f x) (ρ.set i (.val (g x)))) → compL (gN i) t e [i] (xs.map g) acc ρ = .ok (acc ++ (xs.filter p).map f) ρ := fun xs => by
    induction xs with
    | nil => intro acc _ _ _; rw [List.map_nil, List.filter_nil, List.map_nil, List.append_nil]; rfl
    | cons x xs ih =>
      intro acc hl ht he
      obtain ⟨s, hs⟩ : ∃ s, ρ[i]? = some s := by
        cases q : ρ[i]? with
        | none => rw [q] at hf; cases hf
        | some s => exact ⟨s, rfl⟩
      have hlt : i < ρ.length := (List.getElem?_eq_some_iff.mp hs).1
      have hall : (([i] : List Nat).all fun v => isFree ρ[v]?) = true := by simp [hf]
      rw [List.map_cons]
      unfold compL
      rw [if_pos hall]
      have hm : gN i (g x) (wipeS ρ [i]) = some (ρ.set i (.val (g x))) := by
        show (if notBor (ρ.set i Sl.no)[i]? = true then some ((ρ.set i Sl.no).set i _) else none) = _
        rw [List.getElem?_set_self hlt, List.set_set]
        rfl
      rw [hm]
      have hb : backS ρ (ρ.set i (.val (g x))) [i] = ρ := by
        show (ρ.set i (.val (g x))).set i (ρ.getD i .no) = ρ
        rw [List.set_set, List.getD_eq_getElem?_getD, hs]
        exact set_self_at hs
      rw [List.length_cons] at hl
      dsimp only
      rw [ht x List.mem_cons_self]
      cases hp : p x with
      | false =>
        dsimp only
        rw [hb, ih _ (by omega) (fun x hx => ht x (List.mem_cons_of_mem _ hx)) (fun x hx => he x (List.mem_cons_of_mem _ hx)), List.filter_cons_of_neg (by rw [hp]; exact Bool.false_ne_true)]
      | true =>
        dsimp only
        rw [he x List.mem_cons_self hp]
        dsimp only
        rw [if_pos (by omega), hb, ih _ (by rw [List.length_append, List.length_singleton]; omega) (fun x hx => ht x (List.mem_cons_of_mem _ hx)) (fun x hx => he x (List.mem_cons_of_mem _ hx)), List.append_assoc, List.filter_cons_of_pos hp, List.map_cons]
        rfl
  have := key xs [] (by rw [List.length_nil]; omega) ht he
  rwa [List.nil_append] at this
/-! walks over dicts -/
def dctI (s : Option Sl) (mk : List (Key × D) → List D) (ρ : List Sl) : R (List D) := match s with
  | some (.val (.dK kvs)) => .ok (mk kvs) ρ
  | _ => .bad
theorem iDct_ap {i : Nat} {mk : List (Key × D) → List D} {ρ : List Sl} : iDct (plV i) mk ρ = dctI ρ[i]? mk ρ := id (by
  unfold iDct plV dctI
  cases q : ρ[i]? with
  | none => rfl
  | some s => cases s with
    | val d => cases d <;> rfl
    | _ => rfl)
theorem dctI_val {kvs : List (Key × D)} {mk : List (Key × D) → List D} {ρ : List Sl} : dctI (some (.val (.dK kvs))) mk ρ = .ok (mk kvs) ρ := id rfl
theorem popAt_ok {ds : List D} {i : Int} {d : D} (h0 : 0 ≤ i) (h1 : i < 1000000) (h : ds[i.toNat]? = some d) : opPopAt (.lst ds) [.int i] = some (d, .lst (ds.eraseIdx i.toNat)) := by
  show (if -(2 ^ 63) ≤ i ∧ i < 2 ^ 63 then match seqIndex? i ds.length with
    | some k => match ds[k]? with
      | some y => some (y, D.lst (ds.eraseIdx k))
      | none => none
    | none => none
    else none) = _
  rw [if_pos (by omega)]
  have hl : i.toNat < ds.length := (List.getElem?_eq_some_iff.mp h).1
  have e : seqIndex? i ds.length = some i.toNat := by
    unfold seqIndex?
    simp only
    split <;> split <;> simp_all <;> omega
  rw [e]
  dsimp only
  rw [h]
end NT

set_option Elab.async false
set_option linter.all false
set_option maxRecDepth 100000
set_option maxHeartbeats 4000000
namespace PySem.W
open PySem PySem.Spec PySem.Calls PyProof.Rows
section
variable {M : Model} {K : Frag} {A : Around} {E : Value → Shared → Prop} {s : Shared}
theorem nt_forIn_all {f : Value → PUnit → Sem (ForInStep PUnit)} {R : PUnit → Shared → Prop} (hR : R PUnit.unit s) : ∀ (ds : List Value), (∀ c ∈ ds, ∀ T : ForInStep PUnit → Shared → Prop, T (.yield PUnit.unit) s → wpAny M A (f c PUnit.unit) T E s) → wpAny M A (forIn ds PUnit.unit f) R E s
  | [], _ => by rw [List.forIn_nil]; exact wpAny_pure hR
  | c :: ds, h => by
    rw [List.forIn_cons]
    exact wpAny_bind (h c List.mem_cons_self _ (nt_forIn_all hR ds fun x hx => h x (List.mem_cons_of_mem _ hx)))
theorem nt_forIn_any {f : Value → Option Bool × Unit → Sem (ForInStep (Option Bool × Unit))} {bs : Value → Bool} {R : Option Bool × Unit → Shared → Prop} : ∀ (ds : List Value), R (if ds.any bs then (some true, ()) else (none, ())) s → (∀ c ∈ ds, ∀ T : ForInStep (Option Bool × Unit) → Shared → Prop, T (if bs c then .done (some true, ()) else .yield (none, ())) s → wpAny M A (f c (none, ())) T E s) → wpAny M A (forIn ds (none, ()) f) R E s
  | [], hR, _ => by rw [List.forIn_nil]; exact wpAny_pure hR
  | c :: ds, hR, h => by
    rw [List.forIn_cons]
    refine wpAny_bind (h c List.mem_cons_self _ ?_)
    rw [List.any_cons] at hR
    cases q : bs c with
    | true =>
      rw [q] at hR
      exact wpAny_pure hR
    | false =>
      rw [q, Bool.false_or] at hR
      exact nt_forIn_any ds hR fun x hx => h x (List.mem_cons_of_mem _ hx)
theorem nt_any_all {cls : Value} : ∀ {cs : List Value} {b : Bool}, exmAny K cls cs = some b → (∀ c ∈ cs, ∃ v, exmOne K cls c = some v) ∧ b = cs.any fun c => exmOne K cls c == some true
  | [], b, h => by cases h; exact ⟨fun c hc => (by cases hc), rfl⟩
  | c :: cs, b, h => by
    obtain ⟨b1, d1, h1, h2, h3⟩ := exmAny_cons h
    obtain ⟨i1, i2⟩ := nt_any_all h2
    refine ⟨fun x hx => ?_, ?_⟩
    · rcases List.mem_cons.mp hx with e | e
      · rw [e]; exact ⟨b1, h1⟩
      · exact i1 x e
    · rw [List.any_cons, h3, i2, h1]
      congr 1
      cases b1 <;> rfl
theorem nt_exm_tups {cs : List Value} {cls : Value} {tp e : Addr} {b : Bool} {h : Heap} (X : K.In h) (LT : Looks M h (typeOf (.ref e)) cls) (hp : h.get? tp = some { cls := .type "tuple", data := .seq cs.toArray }) (hx : exmAny K cls cs = some b) :
    Looks M h (excMatches (.ref e) (.ref tp)) b := by
  intro A Q E s k₀ q
  obtain ⟨hh, g, d, tk, os⟩ := s
  have k : ∀ b o, h.get? b = some o → hh.get? b = some o := k₀
  have LT0 : Looks M h (isInstance (.ref tp) (.type "tuple")) true := ((Looks.ld hp).andThen .now).andThen (Looks.of_pure isSubtype_tuple_tuple)
  have LT := LT.keeps k
  have LT0 := LT0.keeps k
  have hp' := k _ _ hp
  obtain ⟨h1, h2⟩ := nt_any_all hx
  unfold excMatches
  refine wpAny_bind (LT0.at ?_)
  dsimp only
  rw [if_pos rfl]
  first
    | refine wpAny_bind (wpAny_seqItems hp' rfl ?_)
    | refine wpAny_bind (wpAny_bind (wpAny_seqItems hp' rfl (wpAny_pure ?_)))
  dsimp only [Option.getD_some, Option.getD]
  refine wpAny_bind (wpAny_pure (wpAny_bind (nt_forIn_all ?_ cs fun c hc T hT => ?_)))
  · refine wpAny_bind (LT.at ?_)
    refine wpAny_bind (nt_forIn_any (bs := fun c => exmOne K cls c == some true) cs ?_ fun c hc T hT => ?_)
    · rw [← h2]
      cases b <;> exact wpAny_pure q
    · obtain ⟨v, hv⟩ := h1 c hc
      obtain ⟨_, S1⟩ := exm_cls (M := M) X hv
      refine wpAny_bind ((S1.keeps k).at ?_)
      rw [hv] at hT
      cases v <;> exact wpAny_pure hT
  · obtain ⟨v, hv⟩ := h1 c hc
    obtain ⟨e1, _⟩ := exm_cls (M := M) X hv
    refine wpAny_bind ((e1.keeps k).at ?_)
    exact wpAny_pure hT
end
end PySem.W

set_option Elab.async false
set_option linter.all false
set_option maxRecDepth 100000
set_option maxHeartbeats 4000000
namespace L2
open PySem PySem.Spec PyProof.Rows
/-! several except clauses: each names a class or a tuple of classes, and may bind a name -/
/-- what an except clause's test does -/
def Tst (X : Cx) (e : Expr) (t : Value → Option Bool) : Prop :=
  ∀ {a : Addr} {oe : Obj} {pn : List (Addr × Obj)} {σ : St} {H : Hp} {s : Shared} {cls : Value} {b : Bool}, Inv (X.suite a ((a, oe) :: pn)) [] σ H s → PySem.W.Looks (model X.prog X.w) s.heap (typeOf (.ref a)) cls → t cls = some b →
    ∀ {Q : Bool → Shared → Prop} {E E' : Value → Shared → Prop}, (∀ h', (∀ b o, s.heap.get? b = some o → h'.get? b = some o) → Q b { s with heap := h' }) →
      wpAny (model X.prog X.w) (X.A.mark (some (.ref a))) (eval e X.env) (fun c s₁ => wpAny (model X.prog X.w) (X.A.mark (some (.ref a))) (excMatches (.ref a) c) Q E' s₁) E s
section
variable {X : Cx}
theorem names_ld {x : Str} {c : Value} {np : Pos} {pins : List (Addr × Obj)} {σ : St} {H : Hp} {s : Shared} (hc : Names X x c) (S : Inv X pins σ H s) {Q : Value → Shared → Prop} {E : Value → Shared → Prop} (q : Q c s) : wpAny (model X.prog X.w) X.A (eval (.Name x np) X.env) Q E s := by
  obtain ⟨hg, hdbg, hm | ⟨hm, hv, hnn⟩⟩ := hc
  · exact ld_glob S hg hm q hdbg
  · exact ld_blt S hg hm hv q hnn hdbg
theorem Names.suite {x : Str} {c : Value} {a : Addr} {pn : List (Addr × Obj)} (h : Names X x c) : Names (X.suite a pn) x c := h
theorem tst_one {x : Str} {c : Value} {np : Pos} (hc : Names X x c) : Tst X (.Name x np) (fun cls => PySem.W.exmOne X.K cls c) := by
  intro a oe pn σ H s cls b S LT hb Q E E' q
  refine names_ld (X := X.suite a ((a, oe) :: pn)) hc.suite S ?_
  exact (PySem.W.exm_one (M := model X.prog X.w) S.kIn LT hb).here (q s.heap fun _ _ z => z)
inductive NamesL (X : Cx) : List Expr → List Value → Prop
  | nil : NamesL X [] []
  | cons {x : Str} {c : Value} {np : Pos} {es : List Expr} {cs : List Value} (h : Names X x c) (r : NamesL X es cs) : NamesL X (.Name x np :: es) (c :: cs)
theorem namesL_suite {a : Addr} {pn : List (Addr × Obj)} {es : List Expr} {cs : List Value} (h : NamesL X es cs) : NamesL (X.suite a pn) es cs := by
  induction h with
  | nil => exact .nil
  | cons h r ih => exact .cons h.suite ih
theorem namesL_ld {es : List Expr} {cs : List Value} {pos : Pos} {pins : List (Addr × Obj)} {σ : St} {H : Hp} {s : Shared} (hn : NamesL X es cs) (S : Inv X pins σ H s) {E : Value → Shared → Prop} : ∀ {Q : List Value → Shared → Prop}, Q cs s → wpAny (model X.prog X.w) X.A (spliced (backTo pos (starEach es X.env))) Q E s := by
  induction hn with
  | nil => exact fun {Q} q => Calls.spliced_nil q
  | @cons x c np es cs h r ih =>
    intro Q q
    show wpAny _ _ (spliced ((false, eval (.Name x np) X.env) :: backTo pos (starEach es X.env))) _ _ s
    exact Calls.spliced_cons (names_ld h S (ih q))
theorem tst_tup {es : List Expr} {cs : List Value} {x1 : _} {pos : Pos} (hn : NamesL X es cs) (hl : cs.length ≤ sizeLine) : Tst X (.Tuple es x1 pos) (fun cls => PySem.W.exmAny X.K cls cs) := by
  intro a oe pn σ H s cls b S LT hb Q E E' q
  refine wpAny_Tuple_spliced (namesL_ld (X := X.suite a ((a, oe) :: pn)) (namesL_suite hn) S ⟨hl, ?_⟩)
  have k : ∀ b o, s.heap.get? b = some o → (s.heap.push { cls := .type "tuple", data := .seq cs.toArray }).get? b = some o := fun b o e => Heap.get?_push_of_some _ e
  exact (PySem.W.nt_exm_tups (M := model X.prog X.w) (S.kIn.keeps k) (LT.keeps k) (Heap.get?_push_size _ rfl) hb).here (q _ k)
theorem flying_keeps {base : Heap} {l : List Env} {e : Addr} {Z : Obj → Prop} {h h' : Heap} (k : ∀ b o, h.get? b = some o → h'.get? b = some o) (f : HandSPX.FlyingZ base l e Z h) : HandSPX.FlyingZ base l e Z h' := by
  obtain ⟨f1, f2, f3, oe, vs, T, oT, ts, g1, g2, g3, g4, g5, g6, g7, g8, g9⟩ := f
  exact ⟨fun b o z => k b o (f1 b o z), f2, f3.of_keeps fun b o z _ => ⟨o, k b o z, rfl⟩, oe, vs, T, oT, ts, k _ _ g1, g2, g3, g4, g5, g6, k _ _ g7, g8, g9⟩
end
/-- a clause: its test, its name's slot, its suite -/
abbrev ClD := (Value → Option Bool) × Option Nat × (Addr → Value → Option Addr → TS)
def wCls (Wout : WX) (D : Ends) : List ClD → WX
  | [] => Wout
  | (t, none, ts) :: r => fun cls d σ H => ∃ b, t cls = some b ∧ (b = true → ∀ a, H a = none → ts a cls d D σ H) ∧ (b = false → wCls Wout D r cls d σ H)
  | (t, some i, ts) :: r => fun cls d σ H => ∃ b, t cls = some b ∧ (b = true → ∀ a, H a = none → ts a cls d { nx := fun σ' H' => D.nx (σ'.set i none) H', rt := D.rt, bk := fun σ' H' => D.bk (σ'.set i none) H', ct := fun σ' H' => D.ct (σ'.set i none) H' } (σ.set i (some (.ref a))) H) ∧ (b = false → wCls Wout D r cls d σ H)
inductive ClsOk (X : Cx) : List ExceptHandler → List ClD → Prop
  | nil : ClsOk X [] []
  | cons {e : Expr} {t : Value → Option Bool} {ts : Addr → Value → Option Addr → TS} {b₀ : Stmt} {suite : List Stmt} {pos' : Pos} {hds : List ExceptHandler} {l : List ClD} (hc : Tst X e t)
      (hsu : ∀ (a : Addr) (oe : Obj) (cls : Value) (d : Option Addr) (pn : List (Addr × Obj)), Zc cls d oe → (∃ vs, oe.data = .fields vs) → PSs (X.suite a ((a, oe) :: pn)) (b₀ :: suite) (ts a cls d)) (r : ClsOk X hds l) :
      ClsOk X (.ExceptHandler (some e) none (b₀ :: suite) pos' :: hds) ((t, none, ts) :: l)
  | consAs {e : Expr} {n : Str} {i : Nat} {t : Value → Option Bool} {ts : Addr → Value → Option Addr → TS} {b₀ : Stmt} {suite : List Stmt} {pos' : Pos} {hds : List ExceptHandler} {l : List ClD} (hc : Tst X e t) (hN : X.N.Nodup) (hi : X.N[i]? = some n) (hln : X.env.kindOf n = some .local)
      (hsu : ∀ (a : Addr) (oe : Obj) (cls : Value) (d : Option Addr) (pn : List (Addr × Obj)), Zc cls d oe → (∃ vs, oe.data = .fields vs) → PSs (X.suite a ((a, oe) :: pn)) (b₀ :: suite) (ts a cls d)) (r : ClsOk X hds l) :
      ClsOk X (.ExceptHandler (some e) (some n) (b₀ :: suite) pos' :: hds) ((t, some i, ts) :: l)
section
variable {X : Cx} {body : List Stmt} {h₀ : ExceptHandler} {hds : List ExceptHandler} {l : List ClD} {pos : Pos} {tb : WX → TS} {Wout : WX}
theorem ps_try_cls (hs : X.stack = X.env :: X.outer) (hf : X.env.frame = some X.env.locals) (tk : Takes X Wout)
    (hb : ∀ (W : WX) (pn : List (Addr × Obj)) (xe : Value → Shared → Prop), Takes (X.tr pn xe) W → PassesOwn (model X.prog X.w) X.A X.env xe → PSs (X.tr pn xe) body (tb W))
    (hh : ClsOk X (h₀ :: hds) l) : PS X (.Try body (h₀ :: hds) [] [] pos) (fun D σ H => tb (wCls Wout D l) D σ H) := by
  refine ⟨fun pins s σ H D I h => ?_⟩
  have ok := I.ok
  have hfr : X.A.frames = some (X.env :: X.outer) := by rw [ok.frames, hs]
  refine wpAny_Try_except ?_
  refine wpAny_mono ((hb (wCls Wout D l) (X.pn ++ pins) (fun e s₁ => wpAny (model X.prog X.w) X.A (noteFrame e X.env) (fun _ s₂ => wpAny (model X.prog X.w) X.A (setFlight e none) (fun _ s₃ =>
    wpAny (model X.prog X.w) X.A (handleBy e X.env (h₀ :: hds)) (SP X pins D) X.xe s₃) X.xe s₂) X.xe s₁) (fun u s' xx => ?_) PassesOwn.looking).run [] s σ H D (I.toTry _) h) (fun f s1 hsp => ?_) (fun e s1 he => he)
  · obtain ⟨a, B, sI, pins', σ', H', cls, d, rfl, J', nb, up, sky, na, os, ag, w⟩ := xx
    have J : Inv X pins σ' H' sI := J'.ofTry ok
    have sky' : Sky B (X.env :: X.outer) a (Zc cls d) X.env.locals s'.heap := by rw [← hs]; exact sky
    show wpAny (model X.prog X.w) X.A (noteFrame (.ref a) X.env) _ _ _
    refine Sky.land Zc.steady hfr hf sky' fun h3 fl3 up3 => ?_
    have notFr : ∀ {h : Heap} {o : Obj} {vs : Array Value}, h.FunFrames B (X.env :: X.outer) → h.get? a = some o → o.data = .fields vs → a ∉ frs (X.env :: X.outer) := fun {h o vs} ff e dd hm => by
      obtain ⟨_, o', e', hnf⟩ := ff.mem hm
      rw [e] at e'; cases e'
      exact hnf _ dd
    obtain ⟨oe3, vs3, he3, hz3, hd3⟩ := fl3.there
    have nfr := notFr fl3.2.2.1 he3 hd3
    have nL : a ≠ X.env.locals := fun z => nfr (List.mem_filterMap.mpr ⟨X.env, List.mem_cons_self, by rw [hf, z]⟩)
    have nF : a ∉ X.fs := fun hm => by
      obtain ⟨e, he, q⟩ := List.mem_filterMap.mp hm
      exact nfr (List.mem_filterMap.mpr ⟨e, List.mem_cons_of_mem _ he, q⟩)
    have go : ∀ {hds' : List ExceptHandler} {l' : List ClD}, ClsOk X hds' l' → ∀ (h3 : Heap), HandSPX.FlyingZ B (X.env :: X.outer) a (Zc cls d) h3 → sI.heap.UpToSlots h3 → wCls Wout D l' cls d σ' H' →
        wpAny (model X.prog X.w) X.A (handleBy (.ref a) X.env hds') (SP X pins D) X.xe { s' with heap := h3 } := by
      intro hds' l' hk
      induction hk with
      | nil =>
        intro h3 fl3 up3 w
        refine wpAny_handleBy_nil ?_
        obtain ⟨k1, k2, k3, oe, vs, T, oT, ts', he, hz, hd, h1, hr⟩ := id fl3
        unfold PySem.passOn
        refine wpAny_bind (wpAny_field he hd h1 ?_)
        rw [if_neg (show ¬ ((Value.ref T == Value.none) = true) from by simp)]
        have fin : wpAny (model X.prog X.w) X.A (setFlight (.ref a) X.env.frame) (fun _ s4 => wpAny (model X.prog X.w) X.A (throw (.ref a) : Sem Flow) (SP X pins D) X.xe s4) X.xe { s' with heap := h3 } := by
          rw [hf]
          refine HandSPX.setFlight_upZ fl3 fun h4 hh4 up4 => wpAny_throw (tk _ _ ?_)
          exact ⟨a, B, sI, pins, σ', H', cls, d, rfl, J, nb, up3.trans up4, .inr (.inr (by rw [hs]; exact hh4)), na, os, ag, w⟩
        first
          | exact wpAny_bind (wpAny_pure (wpAny_bind fin))
          | exact wpAny_bind fin
      | @cons e t ts b₀ suite pos' hds2 l2 hc hsu r ih =>
        intro h3 fl3 up3 w
        obtain ⟨b, hb1, hyes, hno⟩ := w
        have J3 : Inv X pins σ' H' { s' with heap := h3 } := J.landed nb fl3.1 up3 os ag
        obtain ⟨oe3, vs3, he3, hz3, hd3⟩ := fl3.there
        have S3 := J3.suite he3 hd3 na nL nF
        refine wpAny_handleBy_cons (codeAny_handlers_test ?_) (by intro q; cases q)
        have LT : PySem.W.Looks (model X.prog X.w) h3 (typeOf (.ref a)) cls := fun A Q E s k q => wpAny_typeOf_ref (k _ _ he3) (by rw [hz3.1]; exact q)
        refine hc S3 LT hb1 fun h5 k5 => ?_
        have fl5 := flying_keeps k5 fl3
        have up5 : sI.heap.UpToSlots h5 := up3.trans (Heap.UpToSlots.of_keeps k5)
        cases b with
        | true =>
          refine codeAny_handlers_suite ?_
          refine HandSPX.lands_againZ fl5 fun h4 fl4 up4 => ?_
          have J4 : Inv X pins σ' H' { s' with heap := h4 } := J.landed nb fl4.1 (up5.trans up4) os ag
          obtain ⟨oe4, vs4, he4, hz4, hd4⟩ := fl4.there
          have S4 := J4.suite he4 hd4 na nL nF
          refine wpAny_mono ((hsu a oe4 cls d (X.pn ++ pins) hz4 ⟨_, hd4⟩).run [] _ _ H' _ S4 (hyes rfl a na)) (fun f s6 hsp => ?_) (fun _ _ z => False.elim z)
          cases f with
          | next =>
            obtain ⟨σ6, H6, S6, q6⟩ := hsp
            exact ⟨_, _, S6.unsuite ok, q6⟩
          | brk =>
            obtain ⟨σ6, H6, S6, q6⟩ := hsp
            exact ⟨_, _, S6.unsuite ok, q6⟩
          | cont =>
            obtain ⟨σ6, H6, S6, q6⟩ := hsp
            exact ⟨_, _, S6.unsuite ok, q6⟩
          | ret u =>
            obtain ⟨v6, σ6, H6, S6, r6, q6⟩ := hsp
            exact ⟨_, _, _, S6.unsuite ok, r6, q6⟩
        | false =>
          show wpAny _ X.A (handleBy (.ref a) X.env hds2) _ _ _
          exact ih h5 fl5 up5 (hno rfl)
      | @consAs e n i t ts b₀ suite pos' hds2 l2 hc hN hi hln hsu r ih =>
        intro h3 fl3 up3 w
        obtain ⟨b, hb1, hyes, hno⟩ := w
        have hloc : Loc X.env.scope n := .inl hln
        have J3 : Inv X pins σ' H' { s' with heap := h3 } := J.landed nb fl3.1 up3 os ag
        obtain ⟨oe3, vs3, he3, hz3, hd3⟩ := fl3.there
        have S3 := J3.suite he3 hd3 na nL nF
        refine wpAny_handleBy_cons (codeAny_handlers_test ?_) (by intro q; cases q)
        have LT : PySem.W.Looks (model X.prog X.w) h3 (typeOf (.ref a)) cls := fun A Q E s k q => wpAny_typeOf_ref (k _ _ he3) (by rw [hz3.1]; exact q)
        refine hc S3 LT hb1 fun h5 k5 => ?_
        have fl5 := flying_keeps k5 fl3
        have up5 : sI.heap.UpToSlots h5 := up3.trans (Heap.UpToSlots.of_keeps k5)
        cases b with
        | true =>
          refine codeAny_handlers_suite_as ?_
          refine HandSPX.lands_againZ fl5 fun h4 fl4 up4 => ?_
          have J4 : Inv X pins σ' H' { s' with heap := h4 } := J.landed nb fl4.1 (up5.trans up4) os ag
          obtain ⟨oe4, vs4, he4, hz4, hd4⟩ := fl4.there
          have S4 := J4.suite he4 hd4 na nL nF
          refine store_ok (X := X.suite a ((a, oe4) :: (X.pn ++ pins))) (v := .ref a) S4 hN hi hloc rfl (fun s5 S5 => ?_) (.inr hln)
          refine wpAny_mono ((hsu a oe4 cls d (X.pn ++ pins) hz4 ⟨_, hd4⟩).run [] s5 _ H' _ S5 (hyes rfl a na)) (fun f s6 hsp => ?_) (fun _ _ z => False.elim z)
          have end_ : ∀ {σ6 : St} {H6 : Hp} {Q : Shared → Prop}, Inv (X.suite a ((a, oe4) :: (X.pn ++ pins))) [] σ6 H6 s6 → (∀ s7, Inv X pins (σ6.set i none) H6 s7 → Q s7) →
              wpAny (model X.prog X.w) X.A (do bindName X.env n .none; unbindBehindTheSuite X.env n pos') (fun _ s7 => Q s7) X.xe s6 := fun {σ6 H6 Q} S6 hq => gone_ok (S6.unsuite ok) hN hi hln hq
          cases f with
          | next =>
            obtain ⟨σ6, H6, S6, q6⟩ := hsp
            exact end_ S6 fun s7 J7 => ⟨_, _, J7, q6⟩
          | brk =>
            obtain ⟨σ6, H6, S6, q6⟩ := hsp
            exact end_ S6 fun s7 J7 => ⟨_, _, J7, q6⟩
          | cont =>
            obtain ⟨σ6, H6, S6, q6⟩ := hsp
            exact end_ S6 fun s7 J7 => ⟨_, _, J7, q6⟩
          | ret u =>
            obtain ⟨v6, σ6, H6, S6, r6, q6⟩ := hsp
            exact end_ S6 fun s7 J7 => ⟨_, _, _, J7, r6, q6⟩
        | false =>
          show wpAny _ X.A (handleBy (.ref a) X.env hds2) _ _ _
          exact ih h5 fl5 up5 (hno rfl)
    exact go hh h3 fl3 (up.trans up3) w
  · cases f with
    | next =>
      obtain ⟨σ', H', J', q⟩ := hsp
      exact wpAny_execs_nil ⟨σ', H', J'.ofTry ok, q⟩
    | brk =>
      obtain ⟨σ', H', J', q⟩ := hsp
      exact ⟨σ', H', J'.ofTry ok, q⟩
    | cont =>
      obtain ⟨σ', H', J', q⟩ := hsp
      exact ⟨σ', H', J'.ofTry ok, q⟩
    | ret u =>
      obtain ⟨v, σ', H', J', r, q⟩ := hsp
      exact ⟨v, σ', H', J'.ofTry ok, r, q⟩
end
end L2

namespace NT
open PySem L2
/-! ### the plain reading of such a try -/
def plainH (g : MS) : Nat → MS := fun _ ρ => match g ρ with
  | .ex _ _ => .bad
  | o => o
def nameH (i : Nat) (g : Nat → Addr → MS) : Nat → MS := fun c ρ => if isFree ρ[i]? then wipeO i (g c 0 (ρ.set i (.val (.exn 0)))) else .bad
def handG : List ((Nat → Option Bool) × (Nat → MS)) → Nat → MS
  | [], c => fun ρ => .ex c ρ
  | (t, g) :: r, c => fun ρ => match t c with
    | some true => g c ρ
    | some false => handG r c ρ
    | none => .bad
def sTryG (hs : List ((Nat → Option Bool) × (Nat → MS))) (f : MS) : MS := fun ρ => match f ρ with
  | .ex c ρ' => handG hs c ρ'
  | o => o
section
variable {X : Cx} {cls : Nat → Value} {W : WX}
inductive QHG (X : Cx) (cls : Nat → Value) : List ExceptHandler → List ((Nat → Option Bool) × (Nat → MS)) → Prop
  | nil : QHG X cls [] []
  | cons {e : Expr} {tv : Value → Option Bool} {t : Nat → Option Bool} {g : MS} {b₀ : Stmt} {suite : List Stmt} {pos' : Pos} {hds : List ExceptHandler} {hs : List ((Nat → Option Bool) × (Nat → MS))} (hc : Tst X e tv) (ht : ∀ c b, t c = some b → tv (cls c) = some b)
      (hsu : ∀ (a : Addr) (oe : PySem.Obj) (pn : List (Addr × PySem.Obj)), QB (X.suite a ((a, oe) :: pn)) cls noW (b₀ :: suite) g) (r : QHG X cls hds hs) :
      QHG X cls (.ExceptHandler (some e) none (b₀ :: suite) pos' :: hds) ((t, plainH g) :: hs)
  | consAs {e : Expr} {n : Str} {i : Nat} {tv : Value → Option Bool} {t : Nat → Option Bool} {g : Nat → Addr → MS} {b₀ : Stmt} {suite : List Stmt} {pos' : Pos} {hds : List ExceptHandler} {hs : List ((Nat → Option Bool) × (Nat → MS))} (hc : Tst X e tv) (hN : X.N.Nodup) (hi : X.N[i]? = some n) (hln : X.env.kindOf n = some .local) (ht : ∀ c b, t c = some b → tv (cls c) = some b)
      (hsu : ∀ (c : Nat) (a : Addr) (oe : PySem.Obj) (pn : List (Addr × PySem.Obj)), t c = some true → Zc (cls c) none oe → (∃ vs, oe.data = .fields vs) → QB (X.suite a ((a, oe) :: pn)) cls noW (b₀ :: suite) (g c a))
      (hnat : ∀ (c : Nat) (a : Addr) (ρ : List Sl), isFree ρ[i]? = true → wipeO i (g c a (ρ.set i (.val (.exn a)))) = wipeO i (g c 0 (ρ.set i (.val (.exn 0))))) (r : QHG X cls hds hs) :
      QHG X cls (.ExceptHandler (some e) (some n) (b₀ :: suite) pos' :: hds) ((t, nameH i g) :: hs)
theorem qg_ok {hds : List ExceptHandler} {hs : List ((Nat → Option Bool) × (Nat → MS))} (q : QHG X cls hds hs) : ∃ l, ClsOk X hds l ∧ ∀ D c ρ F G σ H, CS X.K F G H σ ρ → PO X.K cls W F G D (handG hs c ρ) → wCls W D l (cls c) none σ H := by
  induction q with
  | nil => exact ⟨[], .nil, fun D c ρ F G σ H cs po => po σ G H (Same.refl G) cs⟩
  | @cons e tv t g b₀ suite pos' hds hs hc ht hsu r ih =>
    obtain ⟨l, h1, h2⟩ := ih
    refine ⟨(tv, none, fun _ _ _ => tOfS X.K cls NT.noW g) :: l, .cons hc (fun a oe _ _ pn _ _ => (hsu a oe pn).pss) h1, fun D c ρ F G σ H cs po => ?_⟩
    unfold handG at po
    cases e : t c with
    | none =>
      rw [e] at po
      exact po.elim
    | some b =>
      rw [e] at po
      refine ⟨b, ht c b e, fun hb a ha => ?_, fun hb => ?_⟩
      · subst hb
        dsimp only at po
        refine ⟨F, ρ, G, cs, ?_⟩
        unfold plainH at po
        split at po
        · exact po.elim
        · rename_i hn
          exact PO.noW po fun c' ρ' q => hn c' ρ' q
      · subst hb
        exact h2 D c ρ F G σ H cs po
  | @consAs e n i tv t g b₀ suite pos' hds hs hc hN hi hln ht hsu hnat r ih =>
    obtain ⟨l, h1, h2⟩ := ih
    refine ⟨(tv, some i, fun a cl d E σ H => ∃ c, cl = cls c ∧ d = none ∧ t c = some true ∧ tOfS X.K cls NT.noW (g c a) E σ H) :: l, .consAs hc hN hi hln (fun a oe cl d pn hz hv => ⟨fun pins s σ H D I h => ?_⟩) h1, fun D c ρ F G σ H cs po => ?_⟩
    · obtain ⟨c, rfl, rfl, h1, h2⟩ := h
      exact ((hsu c a oe pn h1 hz hv).pss).run pins s σ H D I h2
    unfold handG at po
    cases e : t c with
    | none =>
      rw [e] at po
      exact po.elim
    | some b =>
      rw [e] at po
      refine ⟨b, ht c b e, fun hb a ha => ?_, fun hb => ?_⟩
      · subst hb
        dsimp only at po
        unfold nameH at po
        split at po
        · rename_i hfree
          refine ⟨c, rfl, rfl, e, F, ρ.set i (.val (.exn a)), G, cs.setVal (free_notBor hfree) .exn, ?_⟩
          rw [← hnat c a ρ hfree] at po
          cases e3 : g c a (ρ.set i (.val (.exn a))) with
          | nx ρ2 =>
            rw [e3] at po
            unfold wipeO at po
            dsimp only at po
            split at po
            · rename_i hf2
              exact fun σ2 G2 H2 ex2 c2 => po _ G2 H2 ex2 (c2.blank hf2 none)
            · exact po.elim
          | rt d ρ2 =>
            rw [e3] at po
            unfold wipeO at po
            dsimp only at po
            split at po
            · rename_i hf2
              exact fun v σ2 G2 H2 ex2 c2 r => po v σ2 G2 H2 ex2 (c2.forget hf2) r
            · exact po.elim
          | rtN d ρ2 => rw [e3] at po; exact po.elim
          | ex c2 ρ2 => rw [e3] at po; exact po.elim
          | bad => rw [e3] at po; exact po.elim
        · exact po.elim
      · subst hb
        exact h2 D c ρ F G σ H cs po
theorem q_tryG {body : List Stmt} {h₀ : ExceptHandler} {hds : List ExceptHandler} {hs : List ((Nat → Option Bool) × (Nat → MS))} {f : MS} {pos : Pos} (hst : X.stack = X.env :: X.outer) (hf : X.env.frame = some X.env.locals) (tk : Takes X W)
    (hb : ∀ (W : WX) (pn : List (Addr × PySem.Obj)) (xe : Value → Shared → Prop), Takes (X.tr pn xe) W → QB (X.tr pn xe) cls W body f) (hh : QHG X cls (h₀ :: hds) hs) : QS X cls W (.Try body (h₀ :: hds) [] [] pos) (sTryG hs f) := by
  obtain ⟨l, h1, h2⟩ := qg_ok (W := W) hh
  refine ⟨⟨_, ps_try_cls (tb := fun W => tOfS X.K cls W f) hst hf tk (fun W pn xe t _ => (hb W pn xe t).pss) h1, fun F ρ σ G H c E po => ⟨F, ρ, G, c, ?_⟩⟩⟩
  unfold sTryG at po
  cases e : f ρ with
  | ex n ρ' =>
    rw [e] at po
    exact fun σ' G' H' ex c' => h2 E n ρ' F G' σ' H' c' (PO.mono ex po)
  | nx ρ' => rw [e] at po; exact po
  | rt d ρ' => rw [e] at po; exact po
  | rtN d ρ' => rw [e] at po; exact po
  | bad => rw [e] at po; exact po
theorem exmAny_mk {K : PySem.W.Frag} {c d : Value} {ds : List Value} {b1 b2 : Bool} (h1 : PySem.W.exmOne K c d = some b1) (h2 : PySem.W.exmAny K c ds = some b2) : PySem.W.exmAny K c (d :: ds) = some (b1 || b2) := by
  unfold PySem.W.exmAny
  rw [h1, h2]
end
end NT

set_option Elab.async false
set_option linter.all false
set_option maxRecDepth 100000
set_option maxHeartbeats 4000000
/-! t[::-1] of a tuple -/
namespace L2
open NT (layT lay_ok)
open PySem PySem.Spec PyProof.Rows
section
variable {prog : Program} {w : World} {A : Around} {E : Value → Shared → Prop} {s : Shared}
theorem adjust_rev (n : Nat) : Builtin.Slice.sliceAdjust none none (-1) (n : Int) = ((n : Int) - 1, -1) := rfl
theorem places_rev (n : Nat) : Builtin.Slice.slicePlaces ((n : Int) - 1) (-1) (-1) = n := by
  unfold Builtin.Slice.slicePlaces
  have h1 : ¬ ((-1 : Int) > 0) := by omega
  have h2 : (-(-1 : Int)) = 1 := rfl
  simp only [h1, if_false, h2, Int.ediv_one]
  split <;> omega
theorem pick_rev (xs : Array Value) : ((List.range xs.size).filterMap fun (m : Nat) => xs[(((xs.size : Int) - 1) + (m : Int) * (-1)).toNat]?).toArray = xs.toList.reverse.toArray := by
  have e : (List.range xs.size).filterMap (fun (m : Nat) => xs[(((xs.size : Int) - 1) + (m : Int) * (-1)).toNat]?) = ((List.range xs.size).map fun k => xs.size - 1 - k).filterMap (xs[·]?) := by
    rw [List.filterMap_map]
    congr 1
    funext m
    have : (((xs.size : Int) - 1) + (m : Int) * (-1)).toNat = xs.size - 1 - m := by omega
    rw [this]
    rfl
  rw [e, PySem.W.krv_range, List.filterMap_reverse, PySem.W.krv_all]
theorem sliceApplied_rev {sl : Addr} {vs : Value} {n : Nat} {Q : Int × Int × Nat → Shared → Prop} (hs : s.heap.IsSliceOf sl .none .none vs) (ps : IsPart vs (some (-1)))
    (h : Q ((n : Int) - 1, -1, n) s) : wpAny (model prog w) A (Builtin.Slice.sliceApplied (.ref sl) (pure (n : Int))) Q E s := by
  obtain ⟨os, hos, hcs, hds⟩ := id hs
  unfold Builtin.Slice.sliceApplied Builtin.Slice.sliceFields
  refine wpAny_bind (wpAny_bind (wpAny_field hos hds (x := .none) rfl (wpAny_bind (wpAny_field hos hds (x := .none) rfl (wpAny_bind (wpAny_field hos hds (x := vs) rfl (wpAny_pure ?_)))))))
  refine wpAny_bind (HT.slicePart_ ps ?_)
  show wpAny _ _ (if ((-1 : Int) == 0) = true then _ else _) _ _ s
  rw [if_neg (by decide)]
  refine wpAny_bind (HT.slicePart_ .none (wpAny_bind (HT.slicePart_ .none (wpAny_bind (wpAny_pure ?_)))))
  show wpAny _ _ (match Builtin.Slice.sliceAdjust none none (-1) (n : Int) with | (lo, hi) => pure (lo, (-1 : Int), Builtin.Slice.slicePlaces lo hi (-1))) _ _ s
  rw [adjust_rev n]
  show wpAny _ _ (pure ((n : Int) - 1, (-1 : Int), Builtin.Slice.slicePlaces ((n : Int) - 1) (-1) (-1))) _ _ s
  rw [places_rev]
  exact wpAny_pure h
theorem getItem_tuple_rev {t sl : Addr} {items : Array Value} {vs : Value} {Q : Value → Shared → Prop} (ht : IsTup s.heap t items) (hs : s.heap.IsSliceOf sl .none .none vs) (ps : IsPart vs (some (-1)))
    (h : Q (.ref s.heap.objs.size) { s with heap := s.heap.push { cls := .type "tuple", data := .seq items.toList.reverse.toArray } })
    (hsz : items.size ≤ sizeLine) : wpAny (model prog w) A (getItem (.ref t) (.ref sl)) Q E s := by
  have htake : sizeOk (.seq items.toList.reverse.toArray) := by
    show items.toList.reverse.toArray.size ≤ sizeLine
    rw [List.size_toArray, List.length_reverse, Array.length_toList]
    exact hsz
  obtain ⟨os, hos, hcs, hds⟩ := id hs
  have hTs : s.TypeIs (.ref sl) "slice" := ⟨os, hos, hcs⟩
  unfold getItem
  try with_reducible refine wpAny_holding ?_
  first | refine wpAny_bind (wpAny_pure ?_) | skip
  refine wpAny_bind (wpAny_sequenceKey ht.typeIs (by decide) ?_)
  refine wpAny_bind (wpAny_callSpecial?_slot (name := Str.ofString "__getitem__") ht.typeIs PyProof.Rows.slot_tuple_getitem
    (wpAny_call_entry PyProof.Rows.slot_tuple_getitem ht.typeIs entry_tuple_getitem ?_ (args_tuple_getitem _ _)))
  show wpAny _ _ (Builtin.Tuple.tupleItemsOf (.ref t) >>= _) _ _ s
  refine wpAny_bind (tupleItemsOf_ ht ?_)
  refine wpAny_bind (wpAny_typeOf hTs ?_)
  rw [if_pos (by decide)]
  refine wpAny_bind (sliceApplied_rev hs ps ?_)
  have hno : ¬ ((((items.size : Int) - 1) == 0 && (-1 : Int) == 1 && items.size == items.size) = true) := by
    intro q
    rw [Bool.and_eq_true, Bool.and_eq_true] at q
    exact absurd q.1.2 (by decide)
  show wpAny _ _ (if (((items.size : Int) - 1) == 0 && (-1 : Int) == 1 && items.size == items.size) = true then _ else _) _ _ s
  rw [if_neg hno, pick_rev]
  first
    | exact wpAny_bind (m := Builtin.Tuple.tupleExact _) (wpAny_newObj_type (wpAny_pure ⟨_, rfl, wpAny_pure h⟩) htake)
    | exact wpAny_bind (m := Builtin.Tuple.tupleExact _) (wpAny_newObj_type (wpAny_bind (wpAny_pure (wpAny_pure ⟨_, rfl, wpAny_pure h⟩))) htake)
end
section
variable {X : Cx}
def tRevT (K : PySem.W.Frag) (te : TE) : TE := fun σ H Q => te σ H fun x H1 => ∃ a xs, x = .ref a ∧ SqT K H1 a xs ∧ layT xs.reverse H1 Q
theorem pe_revT {e : Expr} {te : TE} {k : _} {p1 p2 p3 pos : Pos} (he : PE X e te) : PE X (.Subscript e (.Slice none none (some (.UnaryOp .USub (.Constant (.int 1) k p1) p2)) p3) pos) (tRevT X.K te) := by
  refine ⟨fun pins s σ H Q I h => ?_⟩
  refine Subscript_ (thn (he.run pins s σ H _ I h) fun v s1 ⟨x, H1, I1, r1, q1⟩ => ?_)
  obtain ⟨a, xs, ex, hx, q⟩ := q1
  subst ex
  cases r1
  have hst : PO X (some (.UnaryOp .USub (.Constant (.int 1) k p1) p2)) (tPart (tUn (rU fun i => .int (-i)) (tC (.int 1)))) := po_some (pe_un un_neg pe_int)
  refine wpAny_Slice (thn (po_none.run pins s1 σ H1 (fun o H2 => o = none ∧ H2 = H1) I1 ⟨rfl, rfl⟩) fun vl s2 ⟨l, H2, I2, pl, el, e2⟩ => ?_)
  subst el e2
  refine thn (po_none.run pins s2 σ H2 (fun o H3 => o = none ∧ H3 = H2) I2 ⟨rfl, rfl⟩) fun vu s3 ⟨u, H3, I3, pu, eu, e3⟩ => ?_
  subst eu e3
  refine thn (hst.run pins s3 σ H3 (fun o H4 => o = some (-1) ∧ H4 = H3) I3 ⟨1, rfl, -1, rfl, rfl, rfl⟩) fun vs s4 ⟨o, H4, I4, ps, eo, e4⟩ => ?_
  subst eo e4
  cases pl
  cases pu
  have I5 : Inv X pins σ H4 { s4 with heap := s4.heap.push { cls := .type "slice", data := .fields #[.none, .none, vs] } } := I4.kept (t' := s4.toks) fun b ob q => Heap.get?_push_of_some _ q
  obtain ⟨its, r, ht, hz⟩ := I5.tuple hx
  have hlen : its.toArray.size = xs.length := by rw [List.size_toArray]; exact r.length.symm
  show wpAny (model X.prog X.w) X.A (subscriptTail e (.Slice none none (some (.UnaryOp .USub (.Constant (.int 1) k p1) p2)) p3) (.ref a) (.ref s4.heap.objs.size)) (EP X pins σ Q) X.xe { s4 with heap := s4.heap.push { cls := .type "slice", data := .fields #[.none, .none, vs] } }
  refine tail_any (ops := [.ref a, .ref s4.heap.objs.size]) ht.typeIs (PyProof.Rows.slot_tuple_getitem.lookup) ?_ (by with_unfolding_all rfl)
  refine getItem_tuple_rev ht (Heap.IsSliceOf.new _ .none .none vs) ps ?_ (by rw [hlen]; exact hz)
  exact lay_ok I5 (by rw [List.length_reverse]; exact hz) r.reverse rfl rfl rfl q
end
end L2
namespace NT
open PySem L2
section
variable {X : Cx} {cls : Nat → Value} {W : WX}
def opRev (d : D) : Option D := match d with
  | .tup ds => some (.tup ds.reverse)
  | _ => none
theorem q_rev {e : Expr} {k : _} {p1 p2 p3 pos : Pos} {f : M D} (ha : QE X cls W e f) : QE X cls W (.Subscript e (.Slice none none (some (.UnaryOp .USub (.Constant (.int 1) k p1) p2)) p3) pos) (eUn opRev f) := by
  obtain ⟨⟨ta, pa, sa⟩, ia⟩ := ha
  refine ⟨⟨_, pe_revT pa, fun F ρ σ G H c Q w => ?_⟩, inert_bind ia fun _ => inert_lift⟩
  refine sa F ρ σ G H c _ ((wpR_bind w).mono (fun x ρ1 w1 v1 G1 H1 e1 c1 r1 => ?_) fun _ _ p => p)
  obtain ⟨z, ez, p⟩ := wpR_lift w1
  have p := p.mono e1
  unfold opRev at ez
  split at ez
  · cases ez
    cases r1 with
    | tup hx r => exact ⟨_, _, rfl, .inl (c1.ex.rd hx.rd), pok_lay c1 p r.reverse⟩
  · cases ez
end
end NT

set_option Elab.async false
set_option linter.all false
set_option maxRecDepth 100000
set_option maxHeartbeats 4000000
/-! xs + ys, where xs names a list of our own: its members are frozen already -/
namespace NT
open PySem L2
def lstIn : Option Sl → Option (List D)
  | some (.own (.lst xs)) => some xs
  | some (.bor (.lst xs)) => some xs
  | some (.val (.lst xs)) => some xs
  | _ => none
def eCatO (i : Nat) (g : M D) : M D := fun ρ => match lstIn ρ[i]? with
  | none => .bad
  | some _ => match g ρ with
    | .ok (.lst ys) ρ' => match lstIn ρ'[i]? with
      | some xs => if xs.length + ys.length ≤ 100000 then .ok (.lst (xs ++ ys)) ρ' else .bad
      | none => .bad
    | _ => .bad
section
variable {X : Cx} {cls : Nat → Value} {W : WX} {K : PySem.W.Frag} {F : Fm} {G H : Hp} {σ : St} {ρ : List Sl}
theorem CS.lstIn (c : CS K F G H σ ρ) {i : Nat} {xs : List D} (h : NT.lstIn ρ[i]? = some xs) : ∃ l vs, σ[i]? = some (some (.ref l)) ∧ H l = some (.lst vs) ∧ RepL K G vs xs := by
  unfold NT.lstIn at h
  split at h
  · rename_i ys e
    cases h
    obtain ⟨l, h1, h2, _⟩ := c.owns i _ e
    obtain ⟨vs, h3, h4⟩ := h2
    exact ⟨l, vs, h1, h3, h4⟩
  · rename_i ys e
    cases h
    obtain ⟨l, h1, h2, _⟩ := c.bors i _ e
    obtain ⟨vs, h3, h4⟩ := h2
    exact ⟨l, vs, h1, h3, h4⟩
  · rename_i ys e
    cases h
    obtain ⟨v, h1, h2⟩ := c.vals i _ e
    cases h2 with
    | lst hx r => exact ⟨_, _, h1, c.ex _ _ hx, r⟩
  · cases h
theorem q_catO {i : Nat} {a b : Expr} {g : M D} {pos : Pos} (pa : PE X a (tVar i)) (hb : QE X cls W b g) : QN X cls W (.BinOp a .Add b pos) (eCatO i g) := by
  obtain ⟨⟨tb, pb, sb⟩, ib⟩ := hb
  refine ⟨⟨_, pe_op op_cat pa pb, fun F ρ σ G H c Q w => ?_⟩, fun ρ n d ρ' e => ?_⟩
  · unfold eCatO at w
    split at w
    · exact w.elim
    · rename_i xs0 e0
      obtain ⟨l, vs0, h1, _, _⟩ := c.lstIn e0
      refine ⟨_, h1, sb F ρ σ G H c _ ?_⟩
      split at w
      · rename_i ys ρ1 e1
        rw [e1]
        intro v2 G2 H2 e2 c2 r2
        split at w
        · rename_i xs e3
          split at w
          · rename_i hl
            obtain ⟨l', vs, h1', h2, h3⟩ := c2.lstIn e3
            rw [h1] at h1'
            cases h1'
            cases r2 with
            | lst hy r2 => exact ⟨_, _, _, _, rfl, rfl, h2, c2.ex _ _ hy, by rw [h3.length, r2.length]; exact sz_of hl, fun q hq => pnw_lst c2 (PNw.mono e2 w) (h3.append r2) hq⟩
          · exact w.elim
        · exact w.elim
      · exact w.elim
  · unfold eCatO at e
    split at e
    · cases e
    · split at e
      · rename_i ys ρ1 e1
        split at e
        · split at e
          · cases e
            exact ib ρ n _ _ e1
          · cases e
        · cases e
      · cases e
end
/-! t * n of a tuple -/
theorem rep_all {ds : List D} (h : ds.all keyD = true) : ∀ n : Nat, (List.replicate n ds).flatten.all keyD = true
  | 0 => rfl
  | n + 1 => by rw [List.replicate_succ, List.flatten_cons, List.all_append, h, rep_all h n, Bool.and_true]
theorem rep_flat {x : D} {xs : List D} (h : (x :: xs).all keyD = true) : ∀ {n : Nat}, 1 ≤ n → flat (List.replicate n (x :: xs)).flatten = true
  | 0, z => by omega
  | n + 1, _ => by
    have := rep_all h (n + 1)
    unfold flat
    rw [this, List.replicate_succ, List.flatten_cons]
    rfl
def opRepT : D → D → Option D
  | .tup (x :: xs), .int k => if (2 ≤ k ∧ k ≤ 1000 ∧ (x :: xs).length ≤ 1000) ∧ (x :: xs).all keyD = true then some (.tup (List.replicate k.toNat (x :: xs)).flatten) else none
  | _, _ => none
theorem val_repT {K : PySem.W.Frag} : Val2 K (rRepT K) opRepT := fun F G H σ ρ x y d e z c rx ry hz Q p => by
  unfold opRepT at hz
  split at hz
  · split at hz
    · rename_i hc
      cases hz
      cases ry
      cases rx with
      | tup hx r =>
        refine ⟨_, _, _, rfl, rfl, .inl (c.ex.rd hx.rd), fun h => ?_, hc.1.1, hc.1.2.1, by rw [r.length]; exact hc.1.2.2, fun q hq => ?_⟩
        · subst h
          cases r
        · exact pok_flat (rep_flat hc.2 (by have := hc.1.1; omega)) c p (r.flat _) hq
    · cases hz
  · cases hz
end NT

set_option Elab.async false
set_option linter.all false
set_option maxRecDepth 100000
set_option maxHeartbeats 4000000
/-! dict(xs) of a list or a tuple of pairs, of a dict -/
namespace NT
open PySem L2
section
variable {X : Cx}
theorem CallR.or {f : Value} {r r' : List V → Hp → VK → Prop} (h : CallR X f r) (h' : CallR X f r') : CallR X f (fun xs H Q => r xs H Q ∨ r' xs H Q) := fun pins s σ H xs us Q I rv q =>
  q.elim (h pins s σ H xs us Q I rv) (h' pins s σ H xs us Q I rv)
theorem prs_of {pins : List (Addr × PySem.Obj)} {σ : St} {H : Hp} {s : Shared} (I : Inv X pins σ H s) : ∀ {ps : List Addr} {kvs : List (Key × V)}, Paired (fun p kv => SqT X.K H p [kV kv.1, kv.2]) ps kvs →
    ∃ (prs : List (Key × Value)) (pvs : List (Value × Value)), KV kvs prs ∧ prs.length = ps.length ∧ pvs.length = ps.length ∧
      ∀ (j : Nat) (u v : Value), pvs[j]? = some (u, v) → ∃ b k, ps[j]? = some b ∧ prs[j]? = some (k, v) ∧ PyProof.Rows.IsTup s.heap b #[u, v] ∧ keyIs k u = true
  | _, _, .nil => ⟨[], [], .nil, rfl, rfl, fun j u v e => by simp at e⟩
  | _, _, .cons (a := p) (b := kv) h t => by
    obtain ⟨prs, pvs, r, l1, l2, hp⟩ := prs_of I t
    obtain ⟨its, rv, ht, _⟩ := I.tuple h
    obtain ⟨u, y, ei, ru, ry⟩ := vals2 rv
    subst ei
    refine ⟨(kv.1, y) :: prs, (u, y) :: pvs, .cons ⟨rfl, ry⟩ r, by simp [l1], by simp [l2], fun j u1 v1 e => ?_⟩
    cases j with
    | zero =>
      cases e
      exact ⟨p, kv.1, rfl, rfl, ht, kV_is (P := X.prog) (w := X.w) ru⟩
    | succ j =>
      obtain ⟨b, k, e1, e2, e3, e4⟩ := hp j u1 v1 (by simpa using e)
      exact ⟨b, k, by simpa using e1, by simpa using e2, e3, e4⟩
/-- dict(t), t a tuple of pairs that is known to have no dict of its own -/
def rDictT (K : PySem.W.Frag) : List V → Hp → VK → Prop := fun xs H Q => ∃ (a : Addr) (o : PySem.Obj) (ps : List Addr) (kvs : List (Key × V)), xs = [.ref a] ∧ H a = some (.frz o (.tup (ps.map V.ref))) ∧ o.dict = none ∧ Paired (fun p kv => SqT K H p [kV kv.1, kv.2]) ps kvs ∧
    ∀ p, H p = none → Q (.ref p) (upd H p (.dK (mergeK [] kvs)))
theorem call_dictT (hcalm : X.calm = true) : CallR X (.type "dict") (rDictT X.K) := fun pins s σ H xs us Q I r q => by
  obtain ⟨a, o, ps, kvs, ex, hq, hd, hp, q⟩ := q
  subst ex
  obtain ⟨u, eu, rx⟩ := vals1 r
  subst eu
  cases rx
  obtain ⟨hget, hz, its, rv, o', hg2, hc, n, hdat⟩ := (show ObjOk X.prog X.w H s.heap a (.frz o (.tup (ps.map V.ref))) from I.hok a _ hq)
  rw [hget] at hg2
  cases hg2
  have ei := refs_at rv
  subst ei
  rw [List.length_map] at hz
  obtain ⟨prs, pvs, rel, l1, l2, hpr⟩ := prs_of I hp
  refine PySem.call_dict_pairs (knd := mixKind X.prog X.w) (kvs := prs) (PairArg.tuple a (ps.map Value.ref).toArray (fun j => ps.getD j 0) pvs) (I.ok.hd hcalm) ⟨⟨o, n, hget, hc, hd, hdat⟩, ⟨by simp [l2], fun j k v e => ?_⟩⟩ ⟨by rw [l1, l2], fun j k v e => ?_⟩ (by rw [l2]; exact hz) fun h' tk hd' k => ?_
  · obtain ⟨b, kk, e1, e2, e3, e4⟩ := hpr j k v e
    have eb : ps.getD j 0 = b := by rw [List.getD_eq_getElem?_getD, e1]; rfl
    show (List.map Value.ref ps).toArray[j]? = some (Value.ref (ps.getD j 0)) ∧ PairAt s.heap (ps.getD j 0) k v
    rw [eb]
    exact ⟨by simp [e1], .inl e3⟩
  · obtain ⟨b, kk, e1, e2, e3, e4⟩ := hpr j k v e
    exact ⟨kk, e2, e4⟩
  · have hm : (s.heap.objs.size == sysModules) = false := beq_eq_false_iff_ne.mpr (Nat.ne_of_gt I.big)
    have hlen : (mergeK [] kvs).length ≤ sizeLine := by
      refine Nat.le_trans (length_mergeK kvs []) ?_
      rw [List.length_nil, Nat.zero_add, rel.length, l1]
      exact hz
    exact ⟨.ref s.heap.objs.size, upd H s.heap.objs.size (.dK (mergeK [] kvs)), I.laid (t' := tk) (fun b ob e => k b ob (by simp) e) (Nat.le_refl _) (show ObjOk X.prog X.w _ _ _ (.dK (mergeK [] kvs)) from ⟨hlen, hm, merged [] prs, KV.merge rel .nil, hd'⟩), rfl, q _ (I.hok.fresh (Nat.le_refl _))⟩
/-! the denotation -/
def pairsD : List D → Option (List (Key × D))
  | [] => some []
  | .tup [k, v] :: r => match keyK k, pairsD r with
    | some k, some r => some ((k, v) :: r)
    | _, _ => none
  | _ => none
def mergeD (acc more : List (Key × D)) : List (Key × D) := more.foldl (fun acc kv => putD acc kv.1 kv.2) acc
def opDict : List D → Option D
  | [.tup ds] => if flat ds then none else (pairsD ds).map fun kvs => .dK (mergeD [] kvs)
  | [.lst ds] => (pairsD ds).map fun kvs => .dK (mergeD [] kvs)
  | [.dK kvs] => some (.dK kvs)
  | _ => none
section
variable {K : PySem.W.Frag} {G : Hp}
theorem RepK.merge : ∀ {more : List (Key × V)} {ds : List (Key × D)} {acc : List (Key × V)} {as : List (Key × D)}, RepK K G more ds → RepK K G acc as → RepK K G (mergeK acc more) (mergeD as ds)
  | _, _, _, _, .nil, h => h
  | _, _, acc, as, .cons (k := k) (v := v) (vs := vs) (d := d) (ds := ds) h r, q => by
    show RepK K G (mergeK (putK acc k v) vs) (mergeD (putD as k d) ds)
    exact RepK.merge r (RepK.put h q)
theorem pairs_rep : ∀ {ds : List D} {kvs : List (Key × D)} {vs : List V}, pairsD ds = some kvs → RepL K G vs ds → ∃ (ps : List Addr) (xs : List (Key × V)), vs = ps.map V.ref ∧ Paired (fun p (kv : Key × V) => SqT K G p [kV kv.1, kv.2]) ps xs ∧ RepK K G xs kvs
  | [], _, _, h, .nil => by cases h; exact ⟨[], [], rfl, .nil, .nil⟩
  | d :: ds, kvs, _, h, .cons (v := v) r1 r2 => by
    unfold pairsD at h
    split at h
    · rename_i e; cases e
    · rename_i k x r e
      cases e
      split at h
      · rename_i kk rr h1 h2
        cases h
        obtain ⟨ps, xs, e1, e2, e3⟩ := pairs_rep h2 r2
        cases r1 with
        | tup ht rt =>
          cases rt with
          | cons q1 q2 =>
            cases q2 with
            | cons q3 q4 =>
              cases q4
              have ek := keyK_rep h1 q1
              subst ek
              exact ⟨_ :: ps, (kk, _) :: xs, by rw [e1]; rfl, .cons (.inl ht.rd) e2, .cons q3 e3⟩
      · cases h
    · cases h
end
theorem Paired.ex {K : PySem.W.Frag} {G H : Hp} (e : Ex G H) : ∀ {ps : List Addr} {xs : List (Key × V)}, Paired (fun p (kv : Key × V) => SqT K G p [kV kv.1, kv.2]) ps xs → Paired (fun p (kv : Key × V) => SqT K H p [kV kv.1, kv.2]) ps xs
  | _, _, .nil => .nil
  | _, _, .cons h t => .cons (h.elim (fun z => .inl (e.rd z)) .inr) (Paired.ex e t)
def rDict (K : PySem.W.Frag) : List V → Hp → VK → Prop := fun xs H Q => (rDictT K xs H Q ∨ ∃ (a : Addr) (ps : List Addr) (kvs : List (Key × V)), xs = [.ref a] ∧ SqL K H a (ps.map V.ref) ∧ Paired (fun p kv => SqT K H p [kV kv.1, kv.2]) ps kvs ∧
    ∀ p, H p = none → Q (.ref p) (upd H p (.dK (mergeK [] kvs)))) ∨ ∃ (a : Addr) (kvs : List (Key × V)), xs = [.ref a] ∧ Rd H a (.dK kvs) ∧ ∀ p, H p = none → Q (.ref p) (upd H p (.dK kvs))
theorem call_dictAny (hcalm : X.calm = true) : CallR X (.type "dict") (rDict X.K) := CallR.or (CallR.or (call_dictT hcalm) (call_dictP hcalm)) call_dictD
theorem new_dict {K : PySem.W.Frag} : NewA K (rDict K) opDict := fun F G H σ ρ xs ds z c r hz Q p => by
  unfold opDict at hz
  split at hz
  · split at hz
    · cases hz
    · rename_i hf
      obtain ⟨kvs, e1, e2⟩ := Option.map_eq_some_iff.mp hz
      subst e2
      cases r with
      | cons r1 r2 =>
        cases r2
        cases r1 with
        | tup h r =>
          obtain ⟨ps, ys, e3, e4, e5⟩ := pairs_rep e1 r
          subst e3
          rcases h with ⟨f, _⟩ | ⟨_, o, h, hd⟩
          · exact absurd f hf
          · exact .inl (.inl ⟨_, o, ps, ys, rfl, c.ex _ _ h, hd, Paired.ex c.ex e4, fun q hq => pnw_dK c p (e5.merge .nil) hq⟩)
  · obtain ⟨kvs, e1, e2⟩ := Option.map_eq_some_iff.mp hz
    subst e2
    cases r with
    | cons r1 r2 =>
      cases r2
      cases r1 with
      | lst h r =>
        obtain ⟨ps, ys, e3, e4, e5⟩ := pairs_rep e1 r
        subst e3
        exact .inl (.inr ⟨_, ps, ys, rfl, .inl (.inl (c.ex _ _ h)), Paired.ex c.ex e4, fun q hq => pnw_dK c p (e5.merge .nil) hq⟩)
  · cases hz
    cases r with
    | cons r1 r2 =>
      cases r2
      cases r1 with
      | dK h r => exact .inr ⟨_, _, rfl, c.ex.rd h, fun q hq => pnw_dK c p r hq⟩
  · cases hz
end
end NT

set_option Elab.async false
set_option linter.all false
set_option maxRecDepth 100000
set_option maxHeartbeats 4000000
/-! zip of two lists or tuples, in any mixture -/
namespace NT
open PySem L2
def SqK (K : PySem.W.Frag) : Bool → Hp → Addr → List V → Prop
  | false, H, a, xs => SqL K H a xs
  | true, H, a, xs => SqT K H a xs
def HasK : Bool → Heap → Addr → Array Value → Prop
  | false, h, a, its => h.IsList a its
  | true, h, a, its => h.IsTuple a its
def IterK : Bool → Heap → Addr → Addr → Nat → Prop
  | false, h, it, a, i => h.IsListIter it a i
  | true, h, it, a, i => h.IsTupleIter it a i
def objK : Bool → Addr → PySem.Obj
  | false, a => { cls := .type "list_iterator", data := .fields #[.ref a, .int 0 0] }
  | true, a => { cls := .type "tuple_iterator", data := .fields #[.ref a, .int 0 0] }
section
variable {X : Cx} {pins : List (Addr × PySem.Obj)} {σ : St} {H : Hp} {s : Shared} {k : Bool} {a : Addr} {xs ys : List V}
theorem SqK.has (I : Inv X pins σ H s) (h : SqK X.K k H a xs) : ∃ its : List Value, Vals xs its ∧ HasK k s.heap a its.toArray := by
  cases k with
  | false =>
    obtain ⟨its, r, p, _⟩ := Inv.list I h
    exact ⟨its, r, p.isList⟩
  | true =>
    obtain ⟨its, r, p, _⟩ := Inv.tuple I h
    exact ⟨its, r, p⟩
theorem SqK.inj (I : Inv X pins σ H s) (h : SqK X.K k H a xs) (h' : SqK X.K k H a ys) : xs = ys := by
  cases k with
  | false => exact Inv.list_inj I h h'
  | true => exact Inv.tuple_inj I h h'
theorem IterK.at {h h' : Heap} {it : Addr} {i : Nat} (x : IterK k h it a i) (e : ∀ o, h.get? it = some o → h'.get? it = some o) : IterK k h' it a i := by
  cases k with
  | false => exact Heap.IsListIter.at x e
  | true => exact Heap.IsTupleIter.at x e
theorem IterK.obj {h : Heap} {it : Addr} {i : Nat} (x : IterK k h it a i) : ∃ o, h.get? it = some o ∧ ∀ v, o.data ≠ .cell v := by
  cases k with
  | false =>
    obtain ⟨o, e, _, d⟩ := x
    exact ⟨o, e, fun v q => by rw [d] at q; cases q⟩
  | true =>
    obtain ⟨o, e, _, d⟩ := x
    exact ⟨o, e, fun v q => by rw [d] at q; cases q⟩
theorem HasK.lt {h : Heap} {its : Array Value} (x : HasK k h a its) : a < h.objs.size := by
  cases k with
  | false =>
    obtain ⟨o, e, _⟩ := x
    exact Heap.lt_size e
  | true =>
    obtain ⟨o, e, _⟩ := x
    exact Heap.lt_size e
theorem drawsK (k : Bool) {prog : Program} {w : World} {A : Around} (hh : A.handled = none) (it a : Addr) (ne : a ≠ it) (items : Array Value) : Draws prog w A it [it, a] items.size (fun i v => items[i]? = some v) (fun i h => IterK k h it a i ∧ HasK k h a items) := by
  cases k with
  | false => exact Draws.list hh it a ne items
  | true => exact Draws.tuple hh it a ne items
theorem beginsK (k : Bool) (a : Addr) (items : Array Value) : Begins (.ref a) (objK k a) (fun h => HasK k h a items) := by
  cases k with
  | false => exact begins_list a items
  | true => exact begins_tuple a items
theorem iterK0 {h : Heap} {it : Addr} (e : h.get? it = some (objK k a)) : IterK k h it a 0 := by
  cases k with
  | false => exact ⟨_, e, rfl, rfl⟩
  | true => exact ⟨_, e, rfl, rfl⟩
end
def ItzK (K : PySem.W.Frag) (k1 k2 : Bool) (a b : Addr) : It :=
  ⟨fun i H => ∃ (xs ys : List V) (x y : V), SqK K k1 H a xs ∧ SqK K k2 H b ys ∧ xs[i]? = some x ∧ ys[i]? = some y,
    fun i H v H' => ∃ T x y, v = .ref T ∧ H T = none ∧ H' = upd H T (.tup [x, y]) ∧ (∀ xs, SqK K k1 H a xs → xs[i]? = some x) ∧ ∀ ys, SqK K k2 H b ys → ys[i]? = some y,
    fun i H => ∃ xs ys : List V, SqK K k1 H a xs ∧ SqK K k2 H b ys ∧ i ≤ xs.length ∧ i ≤ ys.length ∧ (xs.length = i ∨ ys.length = i)⟩
theorem sep_of {z TI TO i1 i2 a b : Addr} (D : ZipApart z TI TO i1 i2 a b) : ZipSep2 z TI TO i1 i2 [i1, a] [i2, b] where
  TIz := D.TIz
  TOz := D.TOz
  TITO := D.TITO
  TIi1 := D.TIi1
  mem1 := by simp
  zf1 := by simp [D.i1z.symm, D.l1z.symm]
  Tf1 := by simp [D.TOi1, D.l1TO.symm]
  TIi2 := D.TIi2
  mem2 := by simp
  zf2 := by simp [D.i2z.symm, D.l2z.symm]
  Tf2 := by simp [D.TOi2, D.l2TO.symm]
  sep1_2 := by simp [D.i12, D.l2i1.symm]
  sep2_1 := by simp [D.i12.symm, D.l1i2.symm]
theorem turn_zipK {P : Program} {w : World} {K : PySem.W.Frag} {elts : List Expr} {kk : Nat} {tpos : Pos} {k1 k2 : Bool} {a b z TI TO i1 i2 : Addr} (D : ZipApart z TI TO i1 i2 a b) :
    Turn P w K (.Tuple elts kk tpos) (ItzK K k1 k2 a b) [z, TI, TO, i1, i2] z (fun i h => IsZip h z TI TO .none ∧ IsTupOf2 h TI (.ref i1) (.ref i2) ∧ (∃ x y, IsTupOf2 h TO x y) ∧ IterK k1 h i1 a i ∧ IterK k2 h i2 b i) where
  mem := by simp
  obj := fun i h st c hc => by
    obtain ⟨hz, hTI, ⟨x, y, hTO⟩, h1, h2⟩ := st
    simp only [List.mem_cons, List.not_mem_nil, or_false] at hc
    rcases hc with q | q | q | q | q <;> subst q
    · exact ⟨_, hz, fun v q => nomatch q⟩
    · exact ⟨_, hTI, fun v q => nomatch q⟩
    · exact ⟨_, hTO, fun v q => nomatch q⟩
    · exact h1.obj
    · exact h2.obj
  keep := fun i h h' st kp => by
    obtain ⟨hz, hTI, ⟨x, y, hTO⟩, h1, h2⟩ := st
    exact ⟨kp z (by simp) _ hz, kp TI (by simp) _ hTI, ⟨x, y, kp TO (by simp) _ hTO⟩, h1.at fun o q => kp i1 (by simp) o q, h2.at fun o q => kp i2 (by simp) o q⟩
  item := fun X hP hw hK hc i pins s σ H E I hf st hg => by
    subst hP hw hK
    obtain ⟨hz, hTI, ⟨x0, y0, hTO⟩, h1, h2⟩ := st
    obtain ⟨xs, ys, x, y, hqx, hqy, hx, hy⟩ := hg
    obtain ⟨its, rv, p⟩ := hqx.has I
    obtain ⟨jts, rw', p2⟩ := hqy.has I
    obtain ⟨u, hu, ru⟩ := rv.get hx
    obtain ⟨u2, hu2, ru2⟩ := rw'.get hy
    have hzl : z < s.heap.objs.size := Heap.lt_size hz
    have hA : X.A.in1.handled = none := I.ok.hd hc
    have m1 : i < its.toArray.size := by rw [List.size_toArray]; exact (List.getElem?_eq_some_iff.mp hu).1
    have m2 : i < jts.toArray.size := by rw [List.size_toArray]; exact (List.getElem?_eq_some_iff.mp hu2).1
    refine wpAny_pyNext_zipD2_item (sep_of D) (drawsK k1 hA i1 a D.l1i1 its.toArray) (drawsK k2 hA i2 b D.l2i2 jts.toArray) hz hTI hTO ⟨h1, p⟩ ⟨h2, p2⟩ m1 m2 fun x1 x2 h' tk e1 e2 z' TO' st1 st2 hT hsz hk => ?_
    have f1 : x1 = u := Option.some.inj (e1.symm.trans (by simpa using hu))
    have f2 : x2 = u2 := Option.some.inj (e2.symm.trans (by simpa using hu2))
    subst f1 f2
    refine ⟨_, rfl, wpAny_letOwnedTupleGo_zip (s := { s with heap := h', toks := tk }) z' fun h'' z'' sb => ?_⟩
    have hT2 : h''.get? s.heap.objs.size = some { cls := .type "tuple", data := .seq #[x1, x2] } := (sb.2 _ (Nat.ne_of_gt hzl)).trans hT
    have new : ObjOk X.prog X.w (upd H s.heap.objs.size (.tup [x, y])) h'' s.heap.objs.size (.tup [x, y]) :=
      ⟨by show 2 ≤ sizeLine; decide, [x1, x2], .cons ru (.cons ru2 .nil), ⟨_, hT2, rfl, _, rfl⟩⟩
    have J : Inv X pins σ (upd H s.heap.objs.size (.tup [x, y])) { s with heap := h'', toks := tk } :=
      I.turnedNew (t' := tk) (ch := [z, TI, TO, i1, i2]) (fun c o hb q => (sb.2 c (fun e => hb (by simp [e]))).trans (hk c o (fun e => hb (by simp [e])) (fun e => hb (by simp [e])) (fun e => hb (by simp [e])) (fun e => hb (by simp [e])) q)) hf (Nat.le_refl _) new
    refine ⟨.ref s.heap.objs.size, _, J, rfl, ⟨_, x, y, rfl, I.hok.fresh (Nat.le_refl _), rfl, fun l hl => by rw [hl.inj I hqx]; exact hx, fun l hl => by rw [hl.inj I hqy]; exact hy⟩, ⟨z'', ?_, ⟨x1, x2, ?_⟩, ?_, ?_⟩, fun c hcm => ?_⟩
    · exact (sb.2 _ D.TIz).trans (hk _ _ D.TIz D.TITO D.TIi1 D.TIi2 hTI)
    · exact (sb.2 _ D.TOz).trans TO'
    · exact st1.1.at fun o q => (sb.2 _ D.i1z).trans q
    · exact st2.1.at fun o q => (sb.2 _ D.i2z).trans q
    · have hlt : c < s.heap.objs.size := by
        simp only [List.mem_cons, List.not_mem_nil, or_false] at hcm
        rcases hcm with q | q | q | q | q <;> subst q
        · exact hzl
        · exact Heap.lt_size hTI
        · exact Heap.lt_size hTO
        · obtain ⟨_, e1, _⟩ := h1.obj; exact Heap.lt_size e1
        · obtain ⟨_, e2, _⟩ := h2.obj; exact Heap.lt_size e2
      rw [upd_ne (Nat.ne_of_lt hlt)]
      exact (hf c hcm).1
  done := fun X hP hw hK hc i pins s σ H E I hf st hg => by
    subst hP hw hK
    obtain ⟨hz, hTI, ⟨x0, y0, hTO⟩, h1, h2⟩ := st
    obtain ⟨xs, ys, hqx, hqy, l1, l2, hend⟩ := hg
    obtain ⟨its, rv, p⟩ := hqx.has I
    obtain ⟨jts, rw', p2⟩ := hqy.has I
    have n1 : its.toArray.size = xs.length := by rw [List.size_toArray]; exact rv.length.symm
    have n2 : jts.toArray.size = ys.length := by rw [List.size_toArray]; exact rw'.length.symm
    have hA : X.A.in1.handled = none := I.ok.hd hc
    refine wpAny_pyNext_zipD2_end (sep_of D) (drawsK k1 hA i1 a D.l1i1 its.toArray) (drawsK k2 hA i2 b D.l2i2 jts.toArray) hz hTI hTO ⟨h1, p⟩ ⟨h2, p2⟩ (by omega) (by omega) (by omega) fun h' tk hk => ?_
    exact ⟨rfl, I.turnedL (t' := tk) (ch := [z, TI, TO, i1, i2]) (fun c o hb q => hk c o (fun e => hb (by simp [e])) (fun e => hb (by simp [e])) (fun e => hb (by simp [e])) (fun e => hb (by simp [e])) q) hf⟩
  self := fun A i s Q E st h => wpAny_pyIter_zip st.1 h
def iZipK (K : PySem.W.Frag) (ta : TA) : TI := fun σ H R => ta σ H fun vs H1 => ∃ k1 k2 a b xs ys, vs = [.ref a, .ref b] ∧ SqK K k1 H1 a xs ∧ SqK K k2 H1 b ys ∧ R (ItzK K k1 k2 a b) H1
section
variable {X : Cx} {cls : Nat → Value} {W : WX}
theorem pi_zipK {e e2 : Expr} {ta : TA} {p pos tpos : Pos} {elts : List Expr} {kk : Nat} (hg : Gl X "zip") (hm : X.mg "zip" = none) (ha : PA X [e, e2] ta)
    (hs : starEach [e, e2] X.env = (false, eval e X.env) :: starEach [e2] X.env := by rfl) (hpl : (backTo pos (starEach [e2] X.env)).any (·.1) = false := by rfl) :
    PI X (.Tuple elts kk tpos) (.Call (.Name "zip" p) [e, e2] [] pos) (iZipK X.K ta) := ⟨fun pins s σ H R I h => by
  refine PyProof.Rows.Call_ (ld_blt I hg hm PyProof.Rows.boot_zip (PyProof.Rows.callWith_type1 (thn (ha.run pos pins s σ H _ I h) ?_) hs hpl))
  rintro us s1 ⟨vs, H1, I1, r1, k1, k2, a, b, xs, ys, ex, hqx, hqy, q⟩
  subst ex
  obtain ⟨u, u2, eu, ru, ru2⟩ := vals2 r1
  subst eu
  cases ru
  cases ru2
  obtain ⟨its, rv, p1⟩ := hqx.has I1
  obtain ⟨jts, rw', p2⟩ := hqy.has I1
  refine zip_begins2 (beginsK k1 a its.toArray) (beginsK k2 b jts.toArray) p1 p2 fun h' hz hTI hTO g1 g2 hsz hk => wpAny_pyIter_zip hz ?_
  have J : Inv X pins σ H1 { s1 with heap := h' } := I1.kept (t' := s1.toks) hk
  refine ⟨s1.heap.objs.size + 4, [s1.heap.objs.size + 4, s1.heap.objs.size + 2, s1.heap.objs.size + 3, s1.heap.objs.size, s1.heap.objs.size + 1], _, _, H1, rfl, J, turn_zipK (PySem.W.ktu_apart s1.heap.objs.size a b p1.lt p2.lt), ⟨hz, hTI, ⟨_, _, hTO⟩, iterK0 g1, iterK0 g2⟩, fun c hc => ?_, q⟩
  have hle : s1.heap.objs.size ≤ c := by
    simp only [List.mem_cons, List.not_mem_nil, or_false] at hc
    rcases hc with e | e | e | e | e <;> subst e <;> omega
  exact I1.fpOk hle (I1.hok.fresh hle)⟩
/-- the items of a list or a tuple -/
def seqD : D → Option (List D)
  | .lst ds => some ds
  | .tup ds => some ds
  | _ => none
def zipD : List D → Option (List D)
  | [x, y] => match seqD x, seqD y with
    | some xs, some ys => some (List.zipWith (fun a b => .raw [a, b]) xs ys)
    | _, _ => none
  | _ => none
def iZip (f : M (List D)) : M (List D) := mbind f fun ds => lift (zipD ds)
theorem seqD_rep {K : PySem.W.Frag} {G : Hp} {v : V} {d : D} {ds : List D} (r : Rep K G v d) (h : seqD d = some ds) : ∃ k a xs, v = .ref a ∧ SqK K k G a xs ∧ RepL K G xs ds := by
  cases r with
  | lst hx r => cases h; exact ⟨false, _, _, rfl, .inl (.inl hx), r⟩
  | tup hx r => cases h; exact ⟨true, _, _, rfl, .inl hx.rd, r⟩
  | _ => cases h
theorem SqK.ex {K : PySem.W.Frag} {G H : Hp} {k : Bool} {a : Addr} {xs : List V} (e : Ex G H) (h : SqK K k G a xs) : SqK K k H a xs := by
  cases k with
  | false => exact Same.seq e h
  | true => exact h.elim (fun z => .inl (e.rd z)) .inr
theorem walks_zip {K : PySem.W.Frag} {G : Hp} {k1 k2 : Bool} {a b : Addr} {xs ys : List V} {ds es : List D} (h1 : SqK K k1 G a xs) (h2 : SqK K k2 G b ys) (r1 : RepL K G xs ds) (r2 : RepL K G ys es) : Walks K (ItzK K k1 k2 a b) G (List.zipWith (fun a b => .raw [a, b]) ds es) := fun F G1 H1 σ ρ e1 c1 => by
  have g1 := h1.ex (e1.trans c1.ex)
  have g2 := h2.ex (e1.trans c1.ex)
  have l1 := r1.length
  have l2 := r2.length
  refine ⟨fun i d hd => ?_, ⟨xs, ys, g1, g2, by rw [List.length_zipWith]; omega, by rw [List.length_zipWith]; omega, by rw [List.length_zipWith]; omega⟩⟩
  rw [List.getElem?_zipWith] at hd
  cases q1 : ds[i]? with
  | none => rw [q1] at hd; cases hd
  | some d1 =>
    cases q2 : es[i]? with
    | none => rw [q1, q2] at hd; cases hd
    | some d2 =>
      rw [q1, q2] at hd
      cases hd
      obtain ⟨u1, hu1, ru1⟩ := r1.get q1
      obtain ⟨u2, hu2, ru2⟩ := r2.get q2
      refine ⟨⟨xs, ys, u1, u2, g1, g2, hu1, hu2⟩, fun x H2 ⟨T, x1, y1, ex, hT, eH, y, y'⟩ => ?_⟩
      have f1 := y xs g1
      have f2 := y' ys g2
      rw [hu1] at f1
      rw [hu2] at f2
      cases f1
      cases f2
      subst ex eH
      have e2 : Ex G1 (upd G1 T (.tup [u1, u2])) := fun b x e => by
        rw [upd_ne (ne_of_none e (c1.fresh hT).2.1)]
        exact e
      exact ⟨_, e2, c1.alloc hT _, .raw (.inl upd_same) (.cons ((ru1.mono e1).mono e2) (.cons ((ru2.mono e1).mono e2) .nil))⟩
theorem qi_zip {tg iter : Expr} {es : List Expr} {fa : M (List D)} (hp : ∀ ta, PA X es ta → PI X tg iter (iZipK X.K ta)) (ha : QA X cls W es fa) : QI X cls W tg iter (iZip fa) := by
  obtain ⟨⟨t, p, s⟩, ia⟩ := ha
  refine ⟨⟨_, hp _ p, fun F ρ σ G H c Q w => ?_⟩, inert_bind ia fun _ => inert_lift⟩
  refine s F ρ σ G H c _ ((wpR_bind w).mono (fun d ρ1 w1 v1 G1 H1 e1 c1 r1 => ?_) fun _ _ p => p)
  obtain ⟨ds, ed, p⟩ := wpR_lift w1
  unfold zipD at ed
  split at ed
  · split at ed
    · rename_i x y as bs h1 h2
      cases ed
      cases r1 with
      | cons ra rr =>
        cases rr with
        | cons rb rr =>
          cases rr
          obtain ⟨k1, a, xs, ev, hs, rx⟩ := seqD_rep ra h1
          obtain ⟨k2, b, ys, ew, ht, ry⟩ := seqD_rep rb h2
          subst ev ew
          exact ⟨k1, k2, a, b, xs, ys, rfl, hs.ex c1.ex, ht.ex c1.ex, p _ G1 H1 e1 c1 (walks_zip hs ht rx ry)⟩
    · cases ed
  · cases ed
end
end NT

set_option Elab.async false
set_option linter.all false
set_option maxRecDepth 100000
set_option maxHeartbeats 4000000
/-! more builtins -/
namespace NT
open PySem L2
section
variable {X : Cx} {cls : Nat → Value} {W : WX} {e a b : Expr} {es : List Expr} {f g : M D} {pos : Pos}
/-! len(set(xs)), xs a list of ints -/
def dedI (acc : List Int) (x : Int) : List Int := if acc.any (· == x) then acc else acc ++ [x]
def setL (ns : List Int) : List Int := ns.foldl dedI []
theorem met_eq (ns : List Int) : PyProof.Rows.firstMet (fun i => ns.getD i 0) ns.length = setL ns := by
  have e : (List.range ns.length).map (fun i => ns.getD i 0) = ns := by
    refine List.ext_getElem (by simp) fun i h1 h2 => ?_
    simp at h1
    simp [h1]
  show ((List.range ns.length).map fun i => ns.getD i 0).foldl _ [] = _
  rw [e]
  rfl
theorem setL_le (ns : List Int) : (setL ns).length ≤ ns.length := by
  have : ∀ (ns acc : List Int), (ns.foldl dedI acc).length ≤ acc.length + ns.length := by
    intro ns
    induction ns with
    | nil => intro acc; simp
    | cons n ns ih =>
      intro acc
      have h := ih (dedI acc n)
      have : (dedI acc n).length ≤ acc.length + 1 := by
        unfold dedI
        split
        · omega
        · rw [List.length_append]; exact Nat.le_refl _
      rw [List.foldl_cons, List.length_cons]
      omega
  have h := this ns []
  rw [List.length_nil, Nat.zero_add] at h
  exact h
def tLenSetD (K : PySem.W.Frag) (ta : TE) : TE := fun σ H Q => ta σ H fun x H1 => ∃ (l : Addr) (ns : List Int), x = .ref l ∧ SqL K H1 l (ns.map V.int) ∧ ns.length ≤ 4000 ∧ Q (.int ((setL ns).length : Nat)) H1
theorem pe_lenSetD {ta : TE} {p p2 q : Pos} (hg : Gl X "len") (hm : X.mg "len" = none) (hg2 : Gl X "set") (hm2 : X.mg "set" = none) (ha : PE X a ta) (hc : X.calm = true := by rfl)
    (na : starEach [a] X.env = (false, eval a X.env) :: starEach [] X.env := by rfl) : PE X (.Call (.Name "len" p) [.Call (.Name "set" p2) [a] [] q] [] pos) (tLenSetD X.K ta) := ⟨fun pins s σ H Q I h => by
  refine PyProof.Rows.Call_ (ld_blt I hg hm PySem.boot_len (PyProof.Rows.callWith_builtin1 (PyProof.Rows.args_cons (PyProof.Rows.Call_ (ld_blt I hg2 hm2 PyProof.Rows.boot_set ?_)) rfl) rfl rfl))
  refine PyProof.Rows.callWith_type1 (PyProof.Rows.args_cons (thn (ha.run pins s σ H _ I h) ?_) na) na rfl
  rintro v s1 ⟨x, H1, I1, r1, l, ns, ex, hq, hl, qq⟩
  subst ex
  cases r1
  refine PyProof.Rows.args_nil ?_
  obtain ⟨its, r, pl, hz⟩ := Inv.list I1 hq
  have hlen : its.toArray.size = ns.length := by rw [List.size_toArray, ← r.length, List.length_map]
  refine PySem.call_set_list (I1.ok.hd hc) pl.isList (by simpa using RZ.intsAre_vals r) (by rw [hlen]; unfold scanBound; omega) fun h' tk hS hk => PyProof.Rows.args_nil ?_
  rw [hlen, met_eq] at hS
  obtain ⟨o, es, ep, t, ho, hex, hd, _, _, _, hf, hn⟩ := hS
  have J : Inv X pins σ H1 { s1 with heap := h', toks := tk } := I1.kept fun b o e => hk b o (Heap.lt_size e) e
  have := setL_le ns
  exact PySem.call_len_set ho hex hd hf (by rw [hn]; omega) ⟨.int ((setL ns).length : Nat), H1, J.tok _, ⟨_, by rw [hn]⟩, qq⟩⟩
def opLenSet (d : D) : Option D := match d with
  | .lst ds => match intsOf ds with
    | some ns => if ns.length ≤ 4000 then some (.int ((setL ns).length : Nat)) else none
    | none => none
  | _ => none
theorem q_lenSet {e' : Expr} (hp : ∀ te, PE X a te → PE X e' (tLenSetD X.K te)) (ha : QE X cls W a f) : QE X cls W e' (eUn opLenSet f) := by
  obtain ⟨⟨ta, pa, sa⟩, ia⟩ := ha
  refine ⟨⟨_, hp _ pa, fun F ρ σ G H c Q w => ?_⟩, inert_bind ia fun _ => inert_lift⟩
  refine sa F ρ σ G H c _ ((wpR_bind w).mono (fun x ρ1 w1 v1 G1 H1 e1 c1 r1 => ?_) fun _ _ p => p)
  obtain ⟨z, ez, p⟩ := wpR_lift w1
  have p := p.mono e1
  unfold opLenSet at ez
  split at ez
  · split at ez
    · rename_i ns hi
      split at ez
      · rename_i hl
        cases ez
        cases r1 with
        | lst hx r =>
          have e2 := r.intsV hi
          subst e2
          exact ⟨_, ns, rfl, .inl (.inl (c1.ex _ _ hx)), hl, pok c1 p (.int _)⟩
      · cases ez
    · cases ez
  · cases ez
/-! list(range(n)), list(range(m, n)) -/
def opLstRg1 (d : D) : Option D := match d with
  | .int n => if 0 ≤ n ∧ n ≤ 100000 then some (.lst ((List.range n.toNat).map fun k => .int (k : Nat))) else none
  | _ => none
def opLstRg2 (d e : D) : Option D := match d, e with
  | .int m, .int n => if (0 ≤ m ∧ m ≤ 100000) ∧ 0 ≤ n ∧ n ≤ 100000 then some (.lst ((List.range (n - m).toNat).map fun k => .int (m + (k : Nat)))) else none
  | _, _ => none
theorem rep_rg {K : PySem.W.Frag} {G : Hp} (m : Int) : ∀ (ks : List Nat), RepL K G (ks.map fun k => V.int (m + (k : Nat))) (ks.map fun k => D.int (m + (k : Nat)))
  | [] => .nil
  | k :: ks => .cons (.int _) (rep_rg m ks)
theorem q_lstRg1 {e' : Expr} (hp : ∀ te, PE X a te → PE X e' (tLstRg (tRg1 te))) (ha : QE X cls W a f) : QN X cls W e' (eUn opLstRg1 f) := by
  obtain ⟨⟨ta, pa, sa⟩, ia⟩ := ha
  refine ⟨⟨_, hp _ pa, fun F ρ σ G H c Q w => ?_⟩, inert_bind ia fun _ => inert_lift⟩
  refine sa F ρ σ G H c _ ((wpR_bind w).mono (fun x ρ1 w1 v1 G1 H1 e1 c1 r1 => ?_) fun _ _ p => p)
  obtain ⟨z, ez, p⟩ := wpR_lift w1
  have p := p.mono e1
  unfold opLstRg1 at ez
  split at ez
  · rename_i n
    split at ez
    · rename_i hn
      cases ez
      cases r1
      refine ⟨n, rfl, RgOk.of_le (by omega) (by omega) (by omega) (by omega), fun q hq => ?_⟩
      refine pnw_lst c1 p ?_ hq
      have := rep_rg (K := X.K) (G := G1) 0 (List.range (n - 0).toNat)
      simpa [rgV] using this
    · cases ez
  · cases ez
theorem q_lstRg2 {e' : Expr} (hp : ∀ te tu, PE X a te → PE X b tu → PE X e' (tLstRg (tRg2 te tu))) (ha : QE X cls W a f) (hb : QE X cls W b g) : QN X cls W e' (eBin opLstRg2 f g) := by
  obtain ⟨⟨ta, pa, sa⟩, ia⟩ := ha
  obtain ⟨⟨tb, pb, sb⟩, ib⟩ := hb
  refine ⟨⟨_, hp _ _ pa pb, fun F ρ σ G H c Q w => ?_⟩, inert_bin ia ib⟩
  refine sa F ρ σ G H c _ ((wpR_bind w).mono (fun x ρ1 w1 v1 G1 H1 e1 c1 r1 => ?_) fun _ _ p => p)
  refine sb F ρ1 σ G1 H1 c1 _ ((wpR_bind w1).mono (fun y ρ2 w2 v2 G2 H2 e2 c2 r2 => ?_) fun _ _ p => p.mono e1)
  obtain ⟨z, ez, p⟩ := wpR_lift w2
  have p := p.mono (e1.trans e2)
  unfold opLstRg2 at ez
  split at ez
  · rename_i m n
    split at ez
    · rename_i hn
      cases ez
      cases r1
      cases r2
      exact ⟨m, n, rfl, rfl, RgOk.of_le (by omega) (by omega) (by omega) (by omega), fun q hq => pnw_lst c2 p (rep_rg m _) hq⟩
    · cases ez
  · cases ez
/-! str(n) -/
def opStr : List D → Option D
  | [.int i] => if i.natAbs.log2 < 1920 then some (.str (toString i)) else none
  | _ => none
theorem val_str {K : PySem.W.Frag} : ValA K (fun xs H Q => ∃ i, xs = [.int i] ∧ i.natAbs.log2 < 1920 ∧ Q (.str (toString i)) H) opStr := fun F G H σ ρ xs ds z c r hz Q p => by
  unfold opStr at hz
  split at hz
  · split at hz
    · rename_i hl
      cases hz
      cases r with
      | cons r1 r2 =>
        cases r2
        cases r1
        exact ⟨_, rfl, hl, pok c p (.str _)⟩
    · cases hz
  · cases hz
/-! sorted(d), d a dict with int keys -/
def leI (a b : Int) : Bool := decide (a ≤ b)
def sortI (ks : List Int) : List Int := ks.mergeSort leI
theorem sortI_perm (ks : List Int) : (sortI ks).Perm ks := List.mergeSort_perm ks leI
theorem sortI_le (ks : List Int) : (sortI ks).Pairwise (· ≤ ·) := by
  have := List.pairwise_mergeSort (le := leI) (fun a b c h1 h2 => by unfold leI at *; simp at *; omega) (fun a b => by unfold leI; simp; omega) ks
  exact this.imp fun h => by unfold leI at h; simpa using h
theorem sortI_eq {ks ys : List Int} (h1 : ys.Perm ks) (h2 : ys.Pairwise (· ≤ ·)) : ys = sortI ks :=
  List.Perm.eq_of_pairwise (le := (· ≤ ·)) (fun a b _ _ x y => Int.le_antisymm x y) h2 (sortI_le ks) (h1.trans (sortI_perm ks).symm)
def keysI : List (Key × D) → Option (List Int)
  | [] => some []
  | (.inl i, _) :: r => (keysI r).map (i :: ·)
  | _ => none
def opSortedD : List D → Option D
  | [.dK kvs] => match keysI kvs with
    | some ks => if ks.length < 64 then some (.lst ((sortI ks).map .int)) else none
    | none => none
  | _ => none
theorem keysI_rep {K : PySem.W.Frag} {G : Hp} : ∀ {kvs : List (Key × D)} {xs : List (Key × V)} {ks : List Int}, RepK K G xs kvs → keysI kvs = some ks → xs.map (·.1) = ks.map Sum.inl
  | _, _, _, .nil, h => by cases h; rfl
  | _, _, ks, .cons (k := k) h r, q => by
    cases k with
    | inr x => cases q
    | inl i =>
      obtain ⟨ks', e1, e2⟩ := Option.map_eq_some_iff.mp (show (keysI _).map (i :: ·) = some ks from q)
      subst e2
      rw [List.map_cons, List.map_cons, keysI_rep r e1]
theorem new_sortedD {K : PySem.W.Frag} : NewA K (fun xs H Q => ∃ (a : Addr) (kvs : List (Key × V)) (ks : List Int), xs = [.ref a] ∧ Rd H a (.dK kvs) ∧ kvs.map (·.1) = ks.map Sum.inl ∧ ks.length < 64 ∧
    ∀ (ys : List Int) (p : Addr), ys.Perm ks → ys.Pairwise (· ≤ ·) → H p = none → Q (.ref p) (upd H p (.lst (ys.map V.int)))) opSortedD := fun F G H σ ρ xs ds z c r hz Q p => by
  unfold opSortedD at hz
  split at hz
  · split at hz
    · rename_i ks hk
      split at hz
      · rename_i hl
        cases hz
        cases r with
        | cons r1 r2 =>
          cases r2
          cases r1 with
          | dK hd r =>
            refine ⟨_, _, ks, rfl, c.ex.rd hd, keysI_rep r hk, hl, fun ys q h1 h2 hq => ?_⟩
            rw [sortI_eq h1 h2]
            exact pnw_lst c p (RepL.ints _) hq
      · cases hz
    · cases hz
  · cases hz
/-! a walk over a new dict -/
def tKnow (te : TE) : TE := fun σ H Q => te σ H fun v H1 => ∃ a xs, v = .ref a ∧ H1 a = some (.dK xs) ∧ ∀ o, Q v (upd H1 a (.frz o (.dK xs)))
theorem pe_know {te : TE} (h : PE X e te) : PE X e (tKnow te) := ⟨fun pins s σ H Q I hq => by
  refine thn (h.run pins s σ H _ I hq) ?_
  rintro v s1 ⟨x, H1, I1, r1, a, xs, ex, ha, q⟩
  subst ex
  obtain ⟨o, I2⟩ := I1.lock ha trivial
  exact ⟨.ref a, _, I2, r1, q o⟩⟩
structure DW2 (K : PySem.W.Frag) (wi : TE → TI) (mk : List (Key × D) → List D) : Prop where
  inn : ∃ inn : V → Hp → (It → Hp → Prop) → Prop, (∀ te σ H R, (te σ H fun x H1 => inn x H1 R) → wi te σ H R) ∧ ∀ a o xs H1 R, H1 a = some (.frz o (.dK xs)) → (∀ J, (∀ G kvs, G a = some (.frz o (.dK xs)) → RepK K G xs kvs → Walks K J G (mk kvs)) → R J H1) → inn (.ref a) H1 R
theorem dw2_keys {K : PySem.W.Frag} : DW2 K iKeys mkKeys := ⟨⟨_, fun _ _ _ _ h => h, fun a o xs H1 R h q => ⟨a, o, rfl, .inl ⟨xs, h, q _ fun G kvs hg r => walks_keys hg r⟩⟩⟩⟩
theorem dw2_keysM {K : PySem.W.Frag} : DW2 K iKeysM mkKeys := ⟨⟨_, fun _ _ _ _ h => h, fun a o xs H1 R h q => ⟨a, o, xs, rfl, h, q _ fun G kvs hg r => walks_keys hg r⟩⟩⟩
theorem dw2_vals {K : PySem.W.Frag} : DW2 K iVals mkVals := ⟨⟨_, fun _ _ _ _ h => h, fun a o xs H1 R h q => ⟨a, o, xs, rfl, h, q _ fun G kvs hg r => walks_vals hg r⟩⟩⟩
theorem dw2_items {K : PySem.W.Frag} : DW2 K iItems mkItems := ⟨⟨_, fun _ _ _ _ h => h, fun a o xs H1 R h q => ⟨a, o, xs, rfl, h, q _ fun G kvs hg r => walks_items hg r⟩⟩⟩
theorem CS.know {K : PySem.W.Frag} {F : Fm} {G H : Hp} {σ : St} {ρ : List Sl} (c : CS K F G H σ ρ) {l : Addr} {d : D} (f : Fr K F G H σ ρ l d) (w : HO) : CS K F (upd G l w) (upd H l w) σ ρ ∧ Ex G (upd G l w) := by
  have eG : Ex G (upd G l w) := fun b x q => by
    rw [upd_ne (ne_of_none q f.g)]
    exact q
  have keep : ∀ {i : Nat} {s : Sl} {d : D} {l' : Addr}, ρ[i]? = some s → s.mine = some d → σ[i]? = some (some (.ref l')) → Obj K G H l' d → G l' = none → Obj K (upd G l w) (upd H l w) l' d ∧ (upd G l w) l' = none := fun {i s d l'} h1 h2 h3 h4 h5 => by
    have ne : l' ≠ l := fun z => f.nm i s d h1 h2 (z ▸ h3)
    exact ⟨h4.mono eG.ext (upd_ne ne), by rw [upd_ne ne]; exact h5⟩
  refine ⟨⟨fun b x q => ?_, c.g0.trans eG, fun b x q hb => ?_, fun b e1 e2 => ?_, c.len, fun i d e => ?_, fun i d e => ?_, fun i d e => ?_, c.bb, c.sep⟩, eG⟩
  · by_cases hb : b = l
    · subst hb
      rw [upd_same] at q ⊢
      exact q
    · rw [upd_ne hb] at q ⊢
      exact c.ex _ _ q
  · have ne : b ≠ l := fun z => by rw [z, f.h0] at q; cases q
    rw [upd_ne ne]
    exact c.fr b x q hb
  · by_cases hb : b = l
    · subst hb; exact f.h0
    · rw [upd_ne hb] at e2
      exact c.gn b e1 e2
  · obtain ⟨v, a, b⟩ := c.vals i d e
    exact ⟨v, a, b.mono eG⟩
  · obtain ⟨l', a, b, x, y⟩ := c.owns i d e
    obtain ⟨k1, k2⟩ := keep e rfl a b x
    exact ⟨l', a, k1, k2, y⟩
  · obtain ⟨l', a, b, x, y⟩ := c.bors i d e
    obtain ⟨k1, k2⟩ := keep e rfl a b x
    exact ⟨l', a, k1, k2, y⟩
def iDctN (mk : List (Key × D) → List D) (f : M D) : M (List D) := mbind f fun d => lift (match d with | .dK kvs => some (mk kvs) | _ => none)
theorem qi_dctN {tg iter : Expr} {wi : TE → TI} {mk : List (Key × D) → List D} (hw : DW2 X.K wi mk) (hpi : ∀ te, PE X e te → PI X tg iter (wi te)) (ha : QN X cls W e f) : QI X cls W tg iter (iDctN mk f) := by
  obtain ⟨⟨t, p, s⟩, ia⟩ := ha
  obtain ⟨inn, h1, h2⟩ := hw.inn
  refine ⟨⟨_, hpi _ (pe_know p), fun F ρ σ G H c Q w => h1 _ _ _ _ ?_⟩, inert_bind ia fun _ => inert_lift⟩
  refine s F ρ σ G H c _ ((wpR_bind w).mono (fun d ρ1 w1 l G1 H1 e1 c1 fr => ?_) fun _ _ p => p)
  obtain ⟨ds, ed, p⟩ := wpR_lift w1
  split at ed
  · cases ed
    obtain ⟨xs, hx, r⟩ := fr.obj
    refine ⟨l, xs, rfl, hx, fun o => ?_⟩
    obtain ⟨c2, e2⟩ := c1.know fr (.frz o (.dK xs))
    exact h2 _ _ _ _ _ upd_same fun J wk => p J _ _ (e1.trans e2) c2 (wk _ _ upd_same (r.mono e2))
  · cases ed
end
end NT

set_option Elab.async false
set_option linter.all false
set_option maxRecDepth 100000
set_option maxHeartbeats 4000000
/-! tuple(reversed(t)), t a tuple -/
namespace NT.RW
open PySem PyProof.Rows L2 RT
theorem nolen_rt : typeLookup (.type "reversed") "__len__" = pure none := by rw [typeLookup_type, builtinLookup_eq_fast]; kernel_rfl
theorem hint_rt : typeLookup (.type "reversed") "__length_hint__" = pure (some (.builtin "reversed.__length_hint__")) := by rw [typeLookup_type, builtinLookup_eq_fast]; kernel_rfl
theorem slot_rt_hint : Slot "reversed" "__length_hint__" "reversed.__length_hint__" :=
  Slot.of (owner := "reversed") (n := "__length_hint__") (by rw [typeLookup_type, builtinLookup_eq_fast]; kernel_rfl) (by decide +kernel) (by decide +kernel) (by decide +kernel) (.inr (by decide +kernel)) (by rw [isSubtype_type]; kernel_rfl)
theorem entry_rt_hint : entryFor table "reversed.__length_hint__" = some Builtin.«reversed.__length_hint__» := entryFor_of_tree (by kernel_rfl)
theorem args_rt_hint (a : Value) : argsOk "reversed.__length_hint__" ⟨[a], []⟩ := by
  unfold argsOk
  rw [signature?_of (id := "reversed.__length_hint__") (n := ['_', '_', 't', 'n', 'i', 'h', '_', 'h', 't', 'g', 'n', 'e', 'l', '_', '_']) (o := ['d', 'e', 's', 'r', 'e', 'v', 'e', 'r']) (by kernel_rfl) owner_rt]
  kernel_rfl
section
variable {prog : Program} {w : World} {A : Around} {E : Value → Shared → Prop} {s : Shared}
theorem call_hint_rt {it t : Addr} {items : Array Value} {Q : Value → Shared → Prop} (hit : IsRt s.heap it t ((items.size : Int) - 1)) (ht : IsTup s.heap t items) (hn : items.size ≤ sizeLine)
    (hQ : ∀ tk u, Q (.int items.size u) { s with toks := tk }) : wpAny (model prog w) A (call (.builtin "reversed.__length_hint__") [.ref it]) Q E s := by
  refine wpAny_call_entry slot_rt_hint hit.typeIs entry_rt_hint ?_ (args_rt_hint _)
  obtain ⟨o, ho, hc, hd⟩ := id hit
  unfold Builtin.«reversed.__length_hint__»
  refine wpAny_bind (wpAny_of_eq (a := Value.ref it) rfl ?_)
  refine wpAny_bind (wpAny_field ho hd (x := .ref t) rfl ?_)
  rw [if_neg (show ¬ ((Value.ref t == Value.none) = true) from Bool.false_ne_true)]
  refine wpAny_bind (len_tuple ht (by rw [sizeLine_eq] at hn; omega) ?_)
  refine wpAny_bind (wpAny_of_eq (a := some (items.size : Int)) rfl ?_)
  dsimp only
  refine wpAny_bind (wpAny_field ho hd (x := rawInt ((items.size : Int) - 1)) rfl ?_)
  show wpAny _ _ (if ((items.size : Nat) : Int) < (items.size : Int) - 1 + 1 then _ else _) _ _ _
  rw [if_neg (by omega)]
  have e1 : (items.size : Int) - 1 + 1 = items.size := by omega
  rw [e1]
  wp_walk
  exact ⟨_, rfl, hQ _ _⟩
theorem walks_rt (hh : A.handled = none) (it t : Addr) (hne : t ≠ it) (items : Array Value) (hsz : items.size ≤ sizeLine) :
    PySem.Walks prog w A it [it, t] [it] items.size (fun i v => items[items.size - 1 - i]? = some v) (fun i h => i ≤ items.size ∧ IsRt h it t ((items.size : Int) - 1 - (i : Int)) ∧ IsTup h t items) where
  sub := fun b hb => by simp at hb; simp [hb]
  frame := fun i h h' st hk => ⟨st.1, st.2.1.at fun o e => hk it (by simp) o e, let ⟨o, ho, r⟩ := st.2.2; ⟨o, hk t (by simp) o ho, r⟩⟩
  item := fun i s Q E hi st hQ => by
    obtain ⟨_, h1, h2⟩ := st
    have hlt : items.size - 1 - i < items.size := by omega
    have ex : items[items.size - 1 - i]? = some items[items.size - 1 - i] := Array.getElem?_eq_getElem hlt
    have e0 : (items.size : Int) - 1 - (i : Int) = ((items.size - 1 - i : Nat) : Int) := by omega
    rw [e0] at h1
    refine next_rt_item h1 h2 ex hsz fun h' hr sb => ?_
    have e1 : ((items.size - 1 - i : Nat) : Int) - 1 = (items.size : Int) - 1 - ((i + 1 : Nat) : Int) := by omega
    rw [e1] at hr
    refine hQ _ h' _ ex ⟨hi, hr, ?_⟩ fun b o hb e => sb.extBut b o (fun z => hb (by simp [z])) e
    obtain ⟨o, ho, r⟩ := h2
    exact ⟨o, sb.extBut t o hne ho, r⟩
  done := fun s Q E st hQ => by
    obtain ⟨_, h1, h2⟩ := st
    have e0 : (items.size : Int) - 1 - (items.size : Int) = -1 := by omega
    rw [e0] at h1
    exact next_rt_end hh h1 fun h' eb => hQ h' s.toks fun b o hb e => eb b o (fun z => hb (by simp [z])) e
  self := fun i s Q E st h => iter_rt st.2.1 h
theorem collect_rt {it t : Addr} {items : Array Value} {Q : List Value → Shared → Prop} (hh : A.handled = none) (hit : IsRt s.heap it t ((items.size : Int) - 1)) (ht : IsTup s.heap t items) (hne : t ≠ it) (hn : items.size ≤ sizeLine)
    (hQ : ∀ (h' : Heap) (tk : Nat) (acc : Array Value), (∀ b o, b ≠ it → s.heap.get? b = some o → h'.get? b = some o) → ItemsOf (fun i v => items[items.size - 1 - i]? = some v) acc items.size → Q acc.toList { s with heap := h', toks := tk }) :
    wpAny (model prog w) A (collect (.ref it)) Q E s := by
  have W := (walks_rt (prog := prog) (w := w) (A := A.in1) hh it t hne items hn).toS
  obtain ⟨oi, hoi, _⟩ := id hit
  obtain ⟨ol, hol, _⟩ := id ht
  have n1 : s.heap.objs.size ≠ it := Nat.ne_of_gt (Heap.lt_size hoi)
  have n2 : s.heap.objs.size ≠ t := Nat.ne_of_gt (Heap.lt_size hol)
  have n3 : s.heap.objs.size ∉ [it, t] := by simp [n1, n2]
  unfold collect
  refine wpAny_bind (wpAny_runValue (codeAny_builtin F.entry_proto_collect ?_))
  rw [Around.under_plainId F.plain_proto_collect _]
  show wpAny _ A.in1 (newList [] >>= fun l0 => again (.builtin "list.__iadd__" ⟨[l0, .ref it], []⟩)) _ _ s
  refine wpAny_bind (wpAny_newObj_type (wpAny_pure ⟨plainId_quiet F.plain_list_iadd _, codeAny_builtin F.entry_list_iadd ?_⟩))
  rw [Around.under_plainId F.plain_list_iadd _]
  have g0 : (s.heap.push { cls := .type "list", data := .seq ([] : List Value).toArray }).get? s.heap.objs.size = some { cls := .type "list", data := .seq ([] : List Value).toArray } := Heap.get?_push_size _ rfl
  have g1 : IsRt (s.heap.push { cls := .type "list", data := .seq ([] : List Value).toArray }) it t ((items.size : Int) - 1) := hit.at fun o e => Heap.get?_push_of_some _ e
  have g2 : IsTup (s.heap.push { cls := .type "list", data := .seq ([] : List Value).toArray }) t items := let ⟨o, ho, r⟩ := ht; ⟨o, Heap.get?_push_of_some _ ho, r⟩
  have hT : ({ s with heap := s.heap.push { cls := .type "list", data := .seq ([] : List Value).toArray } } : Shared).TypeIs (.ref it) "reversed" := IsRt.typeIs (s := { s with heap := s.heap.push { cls := .type "list", data := .seq ([] : List Value).toArray } }) g1
  have h1 : Builtin.List.listSameRef (.ref s.heap.objs.size) (.ref it) = false := by simp [Builtin.List.listSameRef, n1]
  show wpAny _ A.in1 (Builtin.List.listExtendWith (.ref s.heap.objs.size) (.ref it) (.ref s.heap.objs.size)) _ _ _
  unfold Builtin.List.listExtendWith
  refine wpAny_bind (wpAny_typeOf hT ?_)
  rw [if_neg (by rw [h1]; decide)]
  refine wpAny_bind (iter_rt (s := { s with heap := s.heap.push { cls := .type "list", data := .seq ([] : List Value).toArray } }) g1 ?_)
  refine wpAny_bind (wpAny_holding ?_)
  unfold Builtin.List.listLengthHint
  refine wpAny_bind (wpAny_specialOf hT nolen_rt ?_)
  show wpAny _ A.in1 (specialOf (Value.ref it) (Str.ofString "__length_hint__") >>= _) _ _ _
  refine wpAny_bind (wpAny_specialOf hT hint_rt ?_)
  generalize hid : ("reversed.__length_hint__" : String) = id0
  wp_delta
  rw [show splitId id0 = some ("reversed", "__length_hint__") from by subst hid; decide +kernel]
  subst hid
  refine wpAny_bind (wpAny_isInstance (b := true) hT (by rw [isSubtype_type]; kernel_rfl) ?_)
  rw [if_neg (by decide), if_neg (by decide +kernel)]
  refine wpAny_bind (wpAny_rule ?_)
  refine wpAny_bind (wpAny_of_eq (slot_rt_hint.bind (.ref it)) ?_)
  refine wpAny_bind (wpAny_attempt (call_hint_rt (s := { s with heap := s.heap.push { cls := .type "list", data := .seq ([] : List Value).toArray } }) g1 g2 hn fun tk u => ?_))
  have i1 : Builtin.List.listFitsIndex (items.size : Int) = true := by
    unfold Builtin.List.listFitsIndex
    rw [sizeLine_eq] at hn
    simp
    omega
  have i2 : Builtin.List.listTooLong ((items.size : Int)).toNat = false := by
    unfold Builtin.List.listTooLong
    simp
    omega
  have ai : ∀ u, asInt? (Value.int (items.size : Int) u) = pure (some (items.size : Int)) := fun u => rfl
  show wpAny _ _ (asInt? (Value.int (items.size : Int) u) >>= _) _ _ _
  rw [ai u, pure_bind]
  dsimp only
  rw [if_neg (by rw [i1]; decide), if_neg (by omega), if_neg (by rw [i2]; decide)]
  refine wpAny_pure ?_
  have e0 : ((items.size : Nat) : Int) - 1 - ((0 : Nat) : Int) = (items.size : Int) - 1 := by omega
  split
  · refine wpAny_bind (wpAny_rule ?_)
    unfold Builtin.List.listTouch
    generalize hH : s.heap.push { cls := .type "list", data := .seq ([] : List Value).toArray } = hp at *
    have u1 : (hp.update s.heap.objs.size (Obj.mapSeq (·.push .none))).get? s.heap.objs.size = some { cls := .type "list", data := .seq #[Value.none] 1 } := (Heap.get?_update_self _ g0 rfl).trans rfl
    have u2 : ((hp.update s.heap.objs.size (Obj.mapSeq (·.push .none))).update s.heap.objs.size (Obj.mapSeq (·.pop))).get? s.heap.objs.size = some { cls := .type "list", data := .seq #[] 2 } := (Heap.get?_update_self _ u1 rfl).trans rfl
    have z1 : (([] : List Value).toArray).size ≤ sizeLine := Nat.zero_le _
    have z2 : ((([] : List Value).toArray).push Value.none).size ≤ sizeLine + 1 := by rw [sizeLine_eq]; show 1 ≤ _; omega
    have z3 : (#[Value.none] : Array Value).size ≤ sizeLine := by rw [sizeLine_eq]; show 1 ≤ _; omega
    have z4 : ((#[Value.none] : Array Value).pop).size ≤ sizeLine + 1 := Nat.zero_le _
    refine wpAny_bind (wpAny_bind (listUpdate_at g0 rfl (listUpdate_at u1 rfl ?_ z3 z4) z1 z2))
    have kk : ∀ b o, b ≠ s.heap.objs.size → hp.get? b = some o → ((hp.update s.heap.objs.size (Obj.mapSeq (·.push .none))).update s.heap.objs.size (Obj.mapSeq (·.pop))).get? b = some o := fun b o hb e => (Heap.SameBut.update ..).extBut b o hb ((Heap.SameBut.update ..).extBut b o hb e)
    refine wpAny_pure ⟨plainId_quiet F.plain_extend_loop _, codeAny_extend_loopS W hn _ n3 _ items.size 0 _ _ _ rfl (Nat.zero_le _) ⟨Nat.zero_le _, by rw [e0]; exact g1.at fun o e => kk _ o n1.symm e, let ⟨o, ho, r⟩ := g2; ⟨o, kk _ o n2.symm ho, r⟩⟩ u2 (ItemsOf.nil _) fun s2 acc c2 hm hS hacc => ?_⟩
    show wpAny _ A (load s.heap.objs.size >>= _) _ _ s2
    refine wpAny_bind (wpAny_load hS (wpAny_pure ?_))
    rw [Moved.eq_with hm]
    refine hQ s2.heap s2.toks acc (fun b o hb e => hm.heap b o (fun hmem => ?_) (kk b o (Nat.ne_of_lt (Heap.lt_size e)) (by rw [← hH]; exact Heap.get?_push_of_some _ e))) hacc
    rcases List.mem_cons.mp hmem with z | z
    · exact absurd (Heap.lt_size e) (by rw [z]; exact Nat.lt_irrefl _)
    · exact hb (List.mem_singleton.mp z)
  · refine wpAny_pure ⟨plainId_quiet F.plain_extend_loop _, codeAny_extend_loopS W hn _ n3 _ items.size 0 _ _ _ rfl (Nat.zero_le _) ⟨Nat.zero_le _, by rw [e0]; exact g1, g2⟩ g0 (ItemsOf.nil _) fun s2 acc c2 hm hS hacc => ?_⟩
    show wpAny _ A (load s.heap.objs.size >>= _) _ _ s2
    refine wpAny_bind (wpAny_load hS (wpAny_pure ?_))
    rw [Moved.eq_with hm]
    refine hQ s2.heap s2.toks acc (fun b o hb e => hm.heap b o (fun hmem => ?_) (Heap.get?_push_of_some _ e)) hacc
    rcases List.mem_cons.mp hmem with z | z
    · exact absurd (Heap.lt_size e) (by rw [z]; exact Nat.lt_irrefl _)
    · exact hb (List.mem_singleton.mp z)
theorem code_tuple_rt {it t : Addr} {items : Array Value} {Q₁ : Value → Shared → Prop} (hh : A.handled = none) (hit : IsRt s.heap it t ((items.size : Int) - 1)) (ht : IsTup s.heap t items) (hne : t ≠ it) (hn : items.size ≤ sizeLine)
    (h : ∀ (h' : Heap) (tk : Nat) (acc : Array Value), (∀ b o, b ≠ it → s.heap.get? b = some o → h'.get? b = some o) → ItemsOf (fun i v => items[items.size - 1 - i]? = some v) acc items.size →
      Q₁ (.ref h'.objs.size) { s with heap := h'.push { cls := .type "tuple", data := .seq acc }, toks := tk }) :
    codeAny (model prog w) A (.call (.builtin "tuple.__new__") ⟨[.type "tuple", .ref it], []⟩) (wants Q₁ E) s := by
  refine codeAny_of_tree ?_
  show wpAny _ A.in1 (do checkBuiltinCall "tuple.__new__" ⟨[.type "tuple", .ref it], []⟩; again (.builtin "tuple.__new__" ⟨[.type "tuple", .ref it], []⟩)) _ _ s
  refine wpAny_bind (wpAny_of_eq (F.newCall_tuple_1 _) (wpAny_pure ⟨plainId_quiet F.plain_tuple_new _, codeAny_builtin F.entry_tuple_new ?_⟩))
  rw [Around.under_plainId F.plain_tuple_new _]
  have q1 := sub_tuple_self
  have q2 := init_tuple_lookup
  have q3 := madeHere_tuple
  have q4 : s.TypeIs (.ref it) "reversed" := hit.typeIs
  have q5 : A.in1.handled = none := hh
  wp_walk using wpAny_typeOf q4, collect_rt (A := A.in1) q5 hit ht hne hn
  intro h' tk acc hk hacc
  show wpAny _ _ (Builtin.Tuple.tupleExact acc.toList.toArray >>= fun v => ret v) _ _ _
  unfold Builtin.Tuple.tupleExact
  refine wpAny_bind (wpAny_newObj_type (wpAny_pure ?_) (by show acc.toList.toArray.size ≤ sizeLine; simp only [Array.toArray_toList]; rw [hacc.1]; exact hn))
  have e : acc.toList.toArray = acc := by simp
  rw [e]
  exact h h' tk acc hk hacc
theorem call_tuple_rt {it t : Addr} {items : Array Value} {Q : Value → Shared → Prop} (hh : A.handled = none) (hit : IsRt s.heap it t ((items.size : Int) - 1)) (ht : IsTup s.heap t items) (hne : t ≠ it) (hn : items.size ≤ sizeLine)
    (hQ : ∀ (h' : Heap) (tk : Nat) (acc : Array Value), (∀ b o, b ≠ it → s.heap.get? b = some o → h'.get? b = some o) → ItemsOf (fun i v => items[items.size - 1 - i]? = some v) acc items.size →
      Q (.ref h'.objs.size) { s with heap := h'.push { cls := .type "tuple", data := .seq acc }, toks := tk }) :
    wpAny (model prog w) A (call (.type "tuple") [.ref it]) Q E s := by
  refine callType_codes (Q₁ := fun obj s₁ => s₁.TypeIs obj "tuple" ∧ Q obj s₁) F.called_tuple (F.typeCall_tuple_1 _) F.entry_object_init
    (code_tuple_rt (A := A.in1) hh hit ht hne hn fun h' tk acc hk hacc => ⟨⟨_, Heap.get?_push_size _ rfl, rfl⟩, hQ h' tk acc hk hacc⟩) ?_
  exact fun obj s1 h1 => ⟨h1.1, F.args_object_init_2 obj _, object_init_meets F.called_tuple.init.lookup F.called_tuple.made (by decide) prog w A.in1 _ s1 ⟨h1.1, rfl, h1.2⟩⟩
end
section
variable {X : Cx}
def tTupRevT (K : PySem.W.Frag) (te : TE) : TE := fun σ H Q => te σ H fun x H1 => ∃ a xs, x = .ref a ∧ SqT K H1 a xs ∧ NT.layT xs.reverse H1 Q
theorem pe_tupRevT {e : Expr} {te : TE} {p p2 pos pos2 : Pos} (hc : X.calm = true) (hg : Gl X "tuple") (hm : X.mg "tuple" = none) (hg2 : Gl X "reversed") (hm2 : X.mg "reversed" = none) (he : PE X e te)
    (hs : starEach [e] X.env = (false, eval e X.env) :: starEach [] X.env := by rfl)
    (hs2 : starEach [.Call (.Name "reversed" p2) [e] [] pos2] X.env = (false, eval (.Call (.Name "reversed" p2) [e] [] pos2) X.env) :: starEach [] X.env := by rfl) :
    PE X (.Call (.Name "tuple" p) [.Call (.Name "reversed" p2) [e] [] pos2] [] pos) (tTupRevT X.K te) := ⟨fun pins s σ H Q I h => by
  refine Call_ (ld_blt I hg hm boot_tuple (PyProof.Rows.callWith_type1 (args_cons (Call_ (ld_blt I hg2 hm2 PyProof.Rows.boot_reversed (PyProof.Rows.callWith_type1 (args_cons (thn (he.run pins s σ H _ I h) ?_) hs) hs rfl))) hs2) hs2 rfl))
  rintro u s1 ⟨v, H1, I1, r1, a, xs, ev, hq, q⟩
  subst ev
  cases r1
  refine args_nil ?_
  obtain ⟨its, rv, p1, hz⟩ := Inv.tuple I1 hq
  have hl := rv.length
  refine call_reversed_tup p1 (fun A E Q q => len_tuple p1 (by rw [List.size_toArray]; rw [sizeLine_eq] at hz; omega) q) (args_nil ?_)
  have k0 : ∀ b o, s1.heap.get? b = some o → (s1.heap.push (rtObj a ((its.toArray.size : Int) - 1))).get? b = some o := fun b o e => Heap.get?_push_of_some _ e
  have J : Inv X pins σ H1 { s1 with heap := s1.heap.push (rtObj a ((its.toArray.size : Int) - 1)), toks := s1.toks + 1 + 1 } := I1.kept (t' := s1.toks + 1 + 1) k0
  obtain ⟨f0, f1, f2, f3, f4, f5⟩ := I1.fpOk (H' := H1) (b := s1.heap.objs.size) (Nat.le_refl _) (I1.hok.fresh (Nat.le_refl _))
  obtain ⟨ol, hol, hr⟩ := id p1
  have hne : a ≠ s1.heap.objs.size := Nat.ne_of_lt (Heap.lt_size hol)
  refine call_tuple_rt (s := { s1 with heap := s1.heap.push (rtObj a ((its.toArray.size : Int) - 1)), toks := s1.toks + 1 + 1 }) (I1.ok.hd hc) ⟨_, Heap.get?_push_size _ rfl, rfl, rfl⟩ ⟨ol, k0 _ _ hol, hr⟩ hne (by simp only [List.size_toArray] <;> omega) fun h' tk acc hk hi => ?_
  have J3 : Inv X pins σ H1 { s1 with heap := h', toks := tk } := J.turned (t' := tk) (fun b o hb e => hk b o hb e) f0 f1 f3 f4 f5
  exact NT.lay_ok (s := { s1 with heap := h', toks := tk }) (n := 0) (ob := { cls := .type "tuple", data := .seq acc }) J3 (by rw [List.length_reverse]; exact hz) (RT.vals_rev rv hi) rfl rfl (by simp) q⟩
end
end NT.RW
namespace NT
open PySem L2
section
variable {X : Cx} {cls : Nat → Value} {W : WX}
theorem q_tupRev {e e' : Expr} {f : M D} (hp : ∀ te, PE X e te → PE X e' (RW.tTupRevT X.K te)) (ha : QE X cls W e f) : QE X cls W e' (eUn opRev f) := by
  obtain ⟨⟨ta, pa, sa⟩, ia⟩ := ha
  refine ⟨⟨_, hp _ pa, fun F ρ σ G H c Q w => ?_⟩, inert_bind ia fun _ => inert_lift⟩
  refine sa F ρ σ G H c _ ((wpR_bind w).mono (fun x ρ1 w1 v1 G1 H1 e1 c1 r1 => ?_) fun _ _ p => p)
  obtain ⟨z, ez, p⟩ := wpR_lift w1
  have p := p.mono e1
  unfold opRev at ez
  split at ez
  · cases ez
    cases r1 with
    | tup hx r => exact ⟨_, _, rfl, .inl (c1.ex.rd hx.rd), pok_lay c1 p r.reverse⟩
  · cases ez
end
end NT

set_option Elab.async false
set_option linter.all false
set_option maxRecDepth 100000
set_option maxHeartbeats 4000000
namespace NT
open PySem L2
section
variable {f : M D} {fa : M (List D)} {ρ : List Sl} {mk : List (Key × D) → List D}
theorem iZip_ap : iZip fa ρ = bnd (fa ρ) (k := ⟨fun ds ρ => lft (zipD ds) ρ⟩) := id (by
  first
  | rfl
  | (
      unfold iZip
      rw [mbind_ap]
      congr 1))
def dctO (mk : List (Key × D) → List D) : D → Option (List D)
  | .dK kvs => some (mk kvs)
  | _ => none
theorem dctO_dK {kvs : List (Key × D)} : dctO mk (.dK kvs) = some (mk kvs) := id rfl
theorem iDctN_ap : iDctN mk f ρ = bnd (f ρ) (k := ⟨fun d ρ => lft (dctO mk d) ρ⟩) := id (by
  first
  | rfl
  | (
      unfold iDctN
      rw [mbind_ap]
      congr 1))
theorem gT_raw {ms : MGs} {ds : List D} : gT ms (.raw ds) ρ = ms ds ρ := id rfl
theorem zipD_map {α : Type} {x y : D} {xs ys : List D} (h1 : seqD x = some xs) (h2 : seqD y = some ys) : zipD [x, y] = some ((xs.zip ys).map fun p => .raw [p.1, p.2]) := by
  show (match seqD x, seqD y with
    | some xs, some ys => some (List.zipWith (fun a b => D.raw [a, b]) xs ys)
    | _, _ => none) = _
  rw [h1, h2, List.zip_eq_zipWith, List.map_zipWith]
end
end NT

set_option Elab.async false
set_option linter.all false
set_option maxRecDepth 100000
set_option maxHeartbeats 8000000
namespace NT.Den
open PySem L2 NT
def d_law_next : MS := (sSeq (sIf (tVal (eBin opGt (eView (eFn opLen (aCons (eVar 0) aNil))) (eC (.int 0)))) (sRet (eMut isLst 0 opPop aNil)) sSkip)
    (sRet (eC (.int 0))))
def d_law_bent_row : MS := (sSeq (sSet 2 (eBin opMod (eCallO 1 0 d_law_next 0 (oHere aNil)) (eC (.int 9))))
    (sSeq (sIf (tVal (eBin opEq (eVar 1) (eTup aNil))) (sRet (eBin opIx (eLst (aCons (eTup (aCons (eTup (aCons (eC (.int 0)) (aCons (eC (.int 0)) aNil))) aNil)) (aCons (eC .non) (aCons (eLst aNil) (aCons (eTup (aCons (eTup (aCons (eC (.int 0)) aNil)) aNil)) (aCons (eC (.int 5)) (aCons (eTup aNil) (aCons (eC (.str "")) (aCons (eTup (aCons (eTup aNil) (aCons (eTup aNil) aNil))) (aCons (eC (.bl false)) aNil)))))))))) (eVar 2))) sSkip)
    (sSeq (sSet 3 (eBin opMod (eCallO 1 0 d_law_next 0 (oHere aNil)) (eFn opLen (aCons (eVar 1) aNil))))
    (sSeq (sSet 4 (eBin opMod (eCallO 1 0 d_law_next 0 (oHere aNil)) (eFn opLen (aCons (eVar 1) aNil))))
    (sSeq (sSet 5 (eBin opIx (eVar 1) (eVar 3)))
    (sSeq (sSet 6 (eLst (aCons (eTup (aCons (eBin opIx (eVar 5) (eC (.int 0))) (aCons (eBin opIx (eBin opIx (eVar 1) (eVar 4)) (eC (.int 1))) aNil))) (aCons (eTup (aCons (eBin opIx (eVar 5) (eC (.int 0))) (aCons (eBin opIx (eVar 5) (eC (.int 1))) (aCons (eC (.int 0)) aNil)))) (aCons (eTup (aCons (eBin opAdd (eBin opIx (eVar 5) (eC (.int 0))) (eC (.int 1))) (aCons (eBin opIx (eVar 5) (eC (.int 1))) aNil))) (aCons (eTup (aCons (eBin opIx (eVar 5) (eC (.int 1))) (aCons (eBin opIx (eVar 5) (eC (.int 0))) aNil))) (aCons (eFn opList (aCons (eVar 5) aNil)) aNil)))))))
    (sSeq (sSet 6 (eBin opCat (eVar 6) (eLst (aCons (eTup (aCons (eC (.bl true)) (aCons (eBin opIx (eVar 5) (eC (.int 1))) aNil))) (aCons (eTup (aCons (eBin opIx (eVar 5) (eC (.int 0))) (aCons (eC (.bl false)) aNil))) (aCons (eTup (aCons (eBin opIx (eVar 5) (eC (.int 0))) (aCons (eC (.int 1000001)) aNil))) (aCons (eTup (aCons (eBin opIx (eVar 5) (eC (.int 0))) (aCons (eUn opNeg (eC (.int 1))) aNil))) (aCons (eTup (aCons (eBin opIx (eVar 5) (eC (.int 0))) (aCons (eFn opStr (aCons (eBin opIx (eVar 5) (eC (.int 1))) aNil)) aNil))) (aCons (eC .non) aNil)))))))))
    (sSeq (sIf (tVal (eBin opLt (eVar 2) (eC (.int 6)))) (sRet (eBin opAdd (eBin opAdd (eSl opSl (eVar 1) oNone (oSome (eVar 3))) (eTup (aCons (eBin opIx (eVar 6) (eBin opMod (eCallO 1 0 d_law_next 0 (oHere aNil)) (eFn opLen (aCons (eVar 6) aNil)))) aNil))) (eSl opSl (eVar 1) (oSome (eBin opAdd (eVar 3) (eC (.int 1)))) oNone))) sSkip)
    (sSeq (sIf (tVal (eBin opEq (eVar 2) (eC (.int 6)))) (sSeq (sSetN 7 (eFn opList (aCons (eVar 1) aNil)))
    (sSeq (sPutAt isLst 7 opSetIx (eVar 3) (eTup (aCons (eBin opIx (eVar 5) (eC (.int 0))) (aCons (eBin opIx (eBin opIx (eVar 1) (eVar 4)) (eC (.int 1))) aNil))))
    (sSeq (sPutAt isLst 7 opSetIx (eVar 4) (eTup (aCons (eBin opIx (eBin opIx (eVar 1) (eVar 4)) (eC (.int 0))) (aCons (eBin opIx (eVar 5) (eC (.int 1))) aNil))))
    (sRet (eView (eFn opTuple (aCons (eVar 7) aNil))))))) sSkip)
    (sSeq (sIf (tVal (eBin opEq (eVar 2) (eC (.int 7)))) (sRet (eBin opIx (eLst (aCons (eBin opAdd (eSl opSl (eVar 1) oNone (oSome (eVar 3))) (eSl opSl (eVar 1) (oSome (eBin opAdd (eVar 3) (eC (.int 1)))) oNone)) (aCons (eBin opAdd (eVar 1) (eTup (aCons (eVar 5) aNil))) (aCons (eUn opRev (eVar 1)) aNil)))) (eBin opMod (eCallO 1 0 d_law_next 0 (oHere aNil)) (eC (.int 3))))) sSkip)
    (sRet (eBin opIx (eLst (aCons (eFn opList (aCons (eVar 1) aNil)) (aCons (eC .non) (aCons (eC (.int 7)) (aCons (eC (.str "x")) (aCons (eTup aNil) aNil)))))) (eBin opMod (eCallO 1 0 d_law_next 0 (oHere aNil)) (eC (.int 5)))))))))))))))
def d_law_bent : MS := (sSeq (sSet 2 (eBin opMod (eCallO 1 0 d_law_next 0 (oHere aNil)) (eC (.int 12))))
    (sSeq (sIf (tVal (eBin opLt (eVar 2) (eC (.int 5)))) (sRet (eTup (aCons (eCallO 2 6 d_law_bent_row 0 (oHere (aCons (eBin opIx (eVar 1) (eC (.int 0))) aNil))) (aCons (eBin opIx (eVar 1) (eC (.int 1))) aNil)))) sSkip)
    (sSeq (sIf (tVal (eBin opLt (eVar 2) (eC (.int 10)))) (sRet (eTup (aCons (eBin opIx (eVar 1) (eC (.int 0))) (aCons (eCallO 2 6 d_law_bent_row 0 (oHere (aCons (eBin opIx (eVar 1) (eC (.int 1))) aNil))) aNil)))) sSkip)
    (sRet (eBin opIx (eLst (aCons (eSl opSl (eVar 1) oNone (oSome (eC (.int 1)))) (aCons (eBin opAdd (eVar 1) (eTup (aCons (eTup aNil) aNil))) (aCons (eFn opList (aCons (eVar 1) aNil)) (aCons (eC .non) (aCons (eTup (aCons (eBin opIx (eVar 1) (eC (.int 1))) (aCons (eBin opIx (eVar 1) (eC (.int 0))) aNil))) (aCons (eC (.str "")) (aCons (eC (.int 3)) aNil)))))))) (eBin opMod (eCallO 1 0 d_law_next 0 (oHere aNil)) (eC (.int 7))))))))
def d_law_changed : MS := (sSeq (sSetN 2 (eFn opList (aCons (eBin opIx (eVar 1) (eC (.int 0))) aNil)))
    (sSeq (sSetN 3 (eFn opList (aCons (eBin opIx (eVar 1) (eC (.int 1))) aNil)))
    (sSeq (sSet 4 (eBin opMod (eCallO 1 0 d_law_next 0 (oHere aNil)) (eC (.int 4))))
    (sSeq (sSet 5 (eBin opMod (eCallO 1 0 d_law_next 0 (oHere aNil)) (eView (eFn opLen (aCons (eVar 2) aNil)))))
    (sSeq (sIf (mOr (tVal (eBin opEq (eVar 4) (eC (.int 0)))) (tView (tVal (eBin opEq (eVar 3) (eLst aNil))))) (sSeq (sPutAt isLst 2 opSetIx (eVar 5) (eTup (aCons (eView (eBin opIx (eBin opIx (eVar 2) (eVar 5)) (eC (.int 0)))) (aCons (eBin opIx (eC (.str "abc")) (eBin opMod (eCallO 1 0 d_law_next 0 (oHere aNil)) (eC (.int 3)))) aNil))))
    (sRet (eView (eTup (aCons (eFn opTuple (aCons (eVar 2) aNil)) (aCons (eFn opTuple (aCons (eVar 3) aNil)) aNil)))))) sSkip)
    (sSeq (sSet 6 (eBin opMod (eCallO 1 0 d_law_next 0 (oHere aNil)) (eView (eFn opLen (aCons (eVar 3) aNil)))))
    (sSeq (sAsg (eView (eBin opIx (eVar 3) (eVar 6))) (gT (gsCons (gN 7) (gsCons (gN 8) (gsCons (gN 9) (gsCons (gN 10) gsNil))))))
    (sSeq (sIf (tVal (eBin opEq (eVar 4) (eC (.int 1)))) (sPutAt isLst 3 opSetIx (eVar 6) (eTup (aCons (eVar 7) (aCons (eBin opIx (eC (.str "efg")) (eBin opMod (eCallO 1 0 d_law_next 0 (oHere aNil)) (eC (.int 3)))) (aCons (eVar 9) (aCons (eVar 10) aNil)))))) (sIf (tVal (eBin opEq (eVar 4) (eC (.int 2)))) (sPutAt isLst 3 opSetIx (eVar 6) (eTup (aCons (eVar 7) (aCons (eVar 8) (aCons (eVar 10) (aCons (eVar 9) aNil)))))) (sExpr (eMut isLst 3 opPopAt (aCons (eVar 6) aNil)))))
    (sRet (eView (eTup (aCons (eFn opTuple (aCons (eVar 2) aNil)) (aCons (eFn opTuple (aCons (eVar 3) aNil)) aNil)))))))))))))
def d_law_mixed : MS := (sSeq (sSet 2 (eBin opMod (eBin opAdd (eBin opAdd (eVar 0) (eBin opMul (eBin opMul (eVar 1) (eVar 1)) (eC (.int 40503)))) (eC (.int 12345))) (eC (.int 2305843009213693951))))
    (sSeq (sSet 2 (eBin opMod (eBin opMul (eVar 2) (eVar 2)) (eC (.int 2305843009213693951))))
    (sSeq (sSet 2 (eBin opMod (eBin opMul (eBin opAdd (eBin opAdd (eVar 2) (eBin opMul (eVar 1) (eC (.int 7919)))) (eC (.int 1))) (eC (.int 48271))) (eC (.int 2305843009213693951))))
    (sRet (eBin opFdiv (eBin opMod (eBin opMul (eVar 2) (eVar 2)) (eC (.int 2305843009213693951))) (eC (.int 1024)))))))
def d_law_deck : MS := (sSeq (sSet 2 (eBin opCat (eFn opList (aCons (eSl opSlL (eVar 0) oNone (oSome (eC (.int 60)))) aNil)) (eBin opRepL (eLst (aCons (eC (.int 0)) aNil)) (eFn opInt (aCons (eBin opEq (eFn opLen (aCons (eVar 0) aNil)) (eC (.int 0))) aNil)))))
    (sSeq (sSetN 3 (eComp (iSeq (eVar 2)) (gN 7) (mpure true) (eBin opMul (eVar 7) (eFn opInt (aCons (eBin opGe (eVar 7) (eBin opPow (eC (.int 10)) (eC (.int 18)))) aNil))) [7]))
    (sSeq (sSetN 4 (eLst aNil))
    (sSeq (sFor (iRange1 (aCons (eVar 1) aNil)) (gN 5) (sSeq (sSet 6 (eBin opMod (eVar 5) (eFn opLen (aCons (eVar 2) aNil))))
    (sIf (tVal (eBin opGt (eView (eBin opIx (eVar 3) (eVar 6))) (eC (.int 0)))) (sSeq (sExpr (eMut isLst 4 opAppend (aCons (eBin opMod (eView (eBin opIx (eVar 3) (eVar 6))) (eC (.int 1000))) aNil)))
    (sPutAt isLst 3 opSetIx (eVar 6) (eBin opFdiv (eView (eBin opIx (eVar 3) (eVar 6))) (eC (.int 1000))))) (sExpr (eMut isLst 4 opAppend (aCons (eBin opMod (eCall 2 1 d_law_mixed [] (aCons (eBin opIx (eVar 2) (eVar 6)) (aCons (eBin opAdd (eVar 5) (eC (.int 1))) aNil))) (eC (.int 1000))) aNil))))))
    (sRetN (eViewN (eUn opLstRev (eVar 4))))))))
def d_law_is_name : MS := (sRet (eAnd (eUn (opIsi "int") (eVar 0)) (eAnd (eNot (eUn (opIsi "bool") (eVar 0))) (eChain opLe opLe (eC (.int 0)) (eVar 0) (eC (.int 1000000))))))
def d_law_is_row : MS := (sSeq (sIf (mOr (mNot (tVal (eUn (opIsi "tuple") (eVar 1)))) (tVal (eBin opNe (eFn opLen (aCons (eVar 1) aNil)) (eFn opLen (aCons (eVar 0) aNil))))) (sRet (eC (.bl false))) sSkip)
    (sSeq (sSetN 2 (eC (.dK [])))
    (sSeq (sFor (iZip (aCons (eVar 0) (aCons (eVar 1) aNil))) (gT (gsCons (gN 3) (gsCons (gN 4) gsNil))) (sSeq (sIf (mOr (mNot (tVal (eUn (opIsi "tuple") (eVar 4)))) (mOr (tVal (eBin opNe (eFn opLen (aCons (eVar 4) aNil)) (eC (.int 2)))) (mOr (mNot (tVal (eCall 1 0 d_law_is_name [] (aCons (eBin opIx (eVar 4) (eC (.int 0))) aNil)))) (mNot (tVal (eCall 1 0 d_law_is_name [] (aCons (eBin opIx (eVar 4) (eC (.int 1))) aNil))))))) (sRet (eC (.bl false))) sSkip)
    (sSeq (sIf (mOr (tVal (eBin opNe (eBin opIx (eVar 4) (eC (.int 0))) (eBin opIx (eVar 3) (eC (.int 0))))) (tView (tVal (eBin (opInD false) (eBin opIx (eVar 4) (eC (.int 1))) (eVar 2))))) (sRet (eC (.bl false))) sSkip)
    (sPutAt isDct 2 opPutD (eBin opIx (eVar 4) (eC (.int 1))) (eC (.bl true))))))
    (sRet (eC (.bl true))))))
def d_law_is_naming : MS := (sSeq (sIf (mOr (mNot (tVal (eUn (opIsi "tuple") (eVar 1)))) (tVal (eBin opNe (eFn opLen (aCons (eVar 1) aNil)) (eC (.int 2))))) (sRet (eC (.bl false))) sSkip)
    (sRet (eAnd (eCall 2 3 d_law_is_row [] (aCons (eBin opIx (eVar 0) (eC (.int 0))) (aCons (eBin opIx (eVar 1) (eC (.int 0))) aNil))) (eCall 2 3 d_law_is_row [] (aCons (eBin opIx (eVar 0) (eC (.int 1))) (aCons (eBin opIx (eVar 1) (eC (.int 1))) aNil))))))
def d_law_shuffled : MS := (sSeq (sSetN 2 (eUn opLstRg1 (eVar 1)))
    (sSeq (sSetN 3 (eLst aNil))
    (sSeq (sWhile fuel (tView (tVal (eBin opNe (eVar 2) (eLst aNil)))) (sExpr (eMut isLst 3 opAppend (aCons (eMut isLst 2 opPopAt (aCons (eBin opMod (eCallO 1 0 d_law_next 0 (oHere aNil)) (eView (eFn opLen (aCons (eVar 2) aNil)))) aNil)) aNil))))
    (sRetO 3))))
def d_law_renamed : MS := (sSeq (sSet 2 (eBin opIx (eLst (aCons (eC (.int 1)) (aCons (eC (.int 3)) (aCons (eC (.int 24000)) aNil)))) (eBin opMod (eCallO 1 0 d_law_next 0 (oHere aNil)) (eC (.int 3)))))
    (sSeq (sSet 3 (eBin opMul (eCallO 1 0 d_law_next 0 (oHere aNil)) (eBin opIx (eLst (aCons (eC (.int 0)) (aCons (eC (.int 1)) (aCons (eC (.int 40)) aNil)))) (eBin opMod (eCallO 1 0 d_law_next 0 (oHere aNil)) (eC (.int 3))))))
    (sSeq (sSetN 4 (eLst aNil))
    (sSeq (sFor (iZip (aCons (eVar 1) (aCons (eCallON 2 2 d_law_shuffled 0 (oHere (aCons (eFn opLen (aCons (eVar 1) aNil)) aNil))) aNil))) (gT (gsCons (gN 5) (gsCons (gN 6) gsNil))) (sExpr (eMut isLst 4 opAppend (aCons (eTup (aCons (eBin opIx (eVar 5) (eC (.int 0))) (aCons (eBin opAdd (eVar 3) (eBin opMul (eVar 2) (eVar 6))) aNil))) aNil))))
    (sRet (eView (eFn opTuple (aCons (eVar 4) aNil))))))))
def d_law_naming : MS := (sRet (eTup (aCons (eCallO 2 5 d_law_renamed 0 (oHere (aCons (eBin opIx (eVar 1) (eC (.int 0))) aNil))) (aCons (eCallO 2 5 d_law_renamed 0 (oHere (aCons (eBin opIx (eVar 1) (eC (.int 1))) aNil))) aNil))))
def d_law_names : MS := (sSeq (sSetN 3 (eLst aNil))
    (sSeq (sSet 4 (eUn opNeg (eC (.int 1))))
    (sSeq (sFor (iRange1 (aCons (eVar 1) aNil)) (gN 5) (sSeq (sSet 4 (eBin opAdd (eBin opAdd (eVar 4) (eC (.int 1))) (eBin opMul (eBin opMod (eCallO 1 0 d_law_next 0 (oHere aNil)) (eC (.int 3))) (eVar 2))))
    (sExpr (eMut isLst 3 opAppend (aCons (eVar 4) aNil)))))
    (sRetO 3))))
def d_law_net : MS := (sSeq (sSet 4 (eCallO 1 0 d_law_next 0 (oHere aNil)))
    (sSeq (sSet 5 (eBin opAdd (eC (.int 1)) (eBin opMod (eVar 4) (eVar 1))))
    (sSeq (sSetN 6 (eLst aNil))
    (sSeq (sFor (iSeq (eCallON 3 3 d_law_names 0 (oHere (aCons (eVar 5) (aCons (eVar 3) aNil))))) (gN 7) (sExpr (eMut isLst 6 opAppend (aCons (eTup (aCons (eVar 7) (aCons (eBin opIx (eC (.str "aab")) (eBin opMod (eCallO 1 0 d_law_next 0 (oHere aNil)) (eC (.int 3)))) aNil))) aNil))))
    (sSeq (sSetN 8 (eLst aNil))
    (sSeq (sFor (iSeq (eCallON 3 3 d_law_names 0 (oHere (aCons (eBin opMod (eCallO 1 0 d_law_next 0 (oHere aNil)) (eBin opAdd (eVar 2) (eC (.int 1)))) (aCons (eVar 3) aNil))))) (gN 7) (sSeq (sSet 4 (eCallO 1 0 d_law_next 0 (oHere aNil)))
    (sExpr (eMut isLst 8 opAppend (aCons (eTup (aCons (eVar 7) (aCons (eBin opIx (eC (.str "eef")) (eBin opMod (eVar 4) (eC (.int 3)))) (aCons (eBin opIx (eView (eBin opIx (eVar 6) (eBin opMod (eBin opFdiv (eVar 4) (eC (.int 3))) (eVar 5)))) (eC (.int 0))) (aCons (eBin opIx (eView (eBin opIx (eVar 6) (eBin opMod (eBin opFdiv (eVar 4) (eC (.int 30))) (eVar 5)))) (eC (.int 0))) aNil))))) aNil)))))
    (sRet (eTup (aCons (eView (eFn opTuple (aCons (eVar 6) aNil))) (aCons (eView (eFn opTuple (aCons (eVar 8) aNil))) aNil))))))))))
def d_law_says : MS := (sRet (eAnd (eUn (opIsi "bool") (eVar 0)) (eBin opEq (eVar 0) (eVar 1))))
def d_law_turned : MS := (sSeq (sSet 2 (eFn opDict (aCons (eBin opIx (eVar 1) (eC (.int 0))) aNil)))
    (sSeq (sSet 3 (eFn opDict (aCons (eBin opIx (eVar 1) (eC (.int 1))) aNil)))
    (sSeq (sSetN 4 (eLst aNil))
    (sSeq (sFor (iSeq (eBin opIx (eVar 0) (eC (.int 1)))) (gT (gsCons (gN 5) (gsCons (gN 6) (gsCons (gN 7) (gsCons (gN 8) gsNil))))) (sExpr (eMut isLst 4 opAppend (aCons (eTup (aCons (eBin opIxD (eVar 3) (eVar 5)) (aCons (eVar 6) (aCons (eBin opIxD (eVar 2) (eVar 7)) (aCons (eBin opIxD (eVar 2) (eVar 8)) aNil))))) aNil))))
    (sRet (eTup (aCons (eFn opTuple (aCons (eFn opSorted (aCons (eComp (iSeq (eBin opIx (eVar 0) (eC (.int 0)))) (gT (gsCons (gN 5) (gsCons (gN 6) gsNil))) (mpure true) (eTup (aCons (eBin opIxD (eVar 2) (eVar 5)) (aCons (eVar 6) aNil))) [5, 6]) aNil)) aNil)) (aCons (eFn opTuple (aCons (eViewN (eFn opSorted (aCons (eVar 4) aNil))) aNil)) aNil))))))))
def d_are_rising : MS := (sSeq (sFor (iRange2 (aCons (eC (.int 1)) (aCons (eFn opLen (aCons (eVar 0) aNil)) aNil))) (gN 1) (sIf (tVal (eBin opLe (eBin opIx (eVar 0) (eVar 1)) (eBin opIx (eVar 0) (eBin opSub (eVar 1) (eC (.int 1)))))) (sRet (eC (.bl false))) sSkip))
    (sRet (eC (.bl true))))
def d_is_kind : MS := (sSeq (sIf (mOr (mNot (tVal (eUn (opIsi "str") (eVar 0)))) (mOr (tVal (eBin opLt (eFn opLen (aCons (eVar 0) aNil)) (eC (.int 1)))) (tVal (eBin opGt (eFn opLen (aCons (eVar 0) aNil)) (eC (.int 8)))))) (sRet (eC (.bl false))) sSkip)
    (sSeq (sFor (iSign (eVar 0)) (gN 1) (sIf (tVal (eBin (opIn true) (eVar 1) (eC (.str "abcdefghijklmnopqrstuvwxyz")))) (sRet (eC (.bl false))) sSkip))
    (sRet (eC (.bl true)))))
def d_is_int : MS := (sRet (eAnd (eUn (opIsi "int") (eVar 0)) (eNot (eUn (opIsi "bool") (eVar 0)))))
def d_is_name : MS := (sRet (eAnd (eCall 1 0 d_is_int [] (aCons (eVar 0) aNil)) (eChain opLe opLe (eC (.int 0)) (eVar 0) (eC (.int 1000000)))))
def d_is_tuple : MS := (sRet (eAnd (eUn (opIsi "tuple") (eVar 0)) (eBin opEq (eFn opLen (aCons (eVar 0) aNil)) (eVar 1))))
def d_are_points : MS := (sSeq (sIf (mOr (mNot (tVal (eUn (opIsi "tuple") (eVar 0)))) (tVal (eBin opGt (eFn opLen (aCons (eVar 0) aNil)) (eC (.int 400))))) (sRet (eC (.bl false))) sSkip)
    (sSeq (sFor (iSeq (eVar 0)) (gN 1) (sIf (mOr (mNot (tVal (eCall 2 0 d_is_tuple [] (aCons (eVar 1) (aCons (eC (.int 2)) aNil))))) (mOr (mNot (tVal (eCall 1 0 d_is_name [] (aCons (eBin opIx (eVar 1) (eC (.int 0))) aNil)))) (mNot (tVal (eCall 1 1 d_is_kind [] (aCons (eBin opIx (eVar 1) (eC (.int 1))) aNil)))))) (sRet (eC (.bl false))) sSkip))
    (sRet (eCall 1 1 d_are_rising [] (aCons (eComp (iSeq (eVar 0)) (gN 1) (mpure true) (eBin opIx (eVar 1) (eC (.int 0))) [1]) aNil)))))
def d_are_ties : MS := (sSeq (sIf (mOr (mNot (tVal (eUn (opIsi "tuple") (eVar 0)))) (tVal (eBin opGt (eFn opLen (aCons (eVar 0) aNil)) (eC (.int 600))))) (sRet (eC (.bl false))) sSkip)
    (sSeq (sFor (iSeq (eVar 0)) (gN 2) (sSeq (sIf (mOr (mNot (tVal (eCall 2 0 d_is_tuple [] (aCons (eVar 2) (aCons (eC (.int 4)) aNil))))) (mOr (mNot (tVal (eCall 1 0 d_is_name [] (aCons (eBin opIx (eVar 2) (eC (.int 0))) aNil)))) (mNot (tVal (eCall 1 1 d_is_kind [] (aCons (eBin opIx (eVar 2) (eC (.int 1))) aNil)))))) (sRet (eC (.bl false))) sSkip)
    (sIf (mOr (mNot (tVal (eCall 1 0 d_is_name [] (aCons (eBin opIx (eVar 2) (eC (.int 2))) aNil)))) (mOr (mNot (tVal (eCall 1 0 d_is_name [] (aCons (eBin opIx (eVar 2) (eC (.int 3))) aNil)))) (mOr (tVal (eBin (opInD true) (eBin opIx (eVar 2) (eC (.int 2))) (eVar 1))) (tVal (eBin (opInD true) (eBin opIx (eVar 2) (eC (.int 3))) (eVar 1)))))) (sRet (eC (.bl false))) sSkip)))
    (sRet (eCall 1 1 d_are_rising [] (aCons (eComp (iSeq (eVar 0)) (gN 2) (mpure true) (eBin opIx (eVar 2) (eC (.int 0))) [2]) aNil)))))
def d_points_of : MS := (sSeq (sSetN 1 (eC (.dK [])))
    (sSeq (sFor (iSeq (eBin opIx (eVar 0) (eC (.int 0)))) (gT (gsCons (gN 2) (gsCons (gN 3) gsNil))) (sPutAt isDct 1 opPutD (eVar 2) (eVar 3)))
    (sRetO 1)))
def d_is_net : MS := (sSeq (sIf (mOr (mNot (tVal (eCall 2 0 d_is_tuple [] (aCons (eVar 0) (aCons (eC (.int 2)) aNil))))) (mNot (tVal (eCall 1 1 d_are_points [] (aCons (eBin opIx (eVar 0) (eC (.int 0))) aNil))))) (sRet (eC (.bl false))) sSkip)
    (sRet (eCall 2 1 d_are_ties [] (aCons (eBin opIx (eVar 0) (eC (.int 1))) (aCons (eCallN 1 3 d_points_of [] (aCons (eVar 0) aNil)) aNil)))))
def d_check : MS := (sSeq (sIf (mNot (tVal (eCall 1 0 d_is_net [] (aCons (eVar 0) aNil)))) (sRaise 0) sSkip)
    (sRet (eC (.bl true))))
def d_names_of : MS := (sRetN (eComp (iSeq (eVar 0)) (gN 1) (mpure true) (eBin opIx (eVar 1) (eC (.int 0))) [1]))
def d_are_names : MS := (sSeq (sIf (mNot (tVal (eUn (opIsi "tuple") (eVar 0)))) (sRet (eC (.bl false))) sSkip)
    (sSeq (sFor (iSeq (eVar 0)) (gN 1) (sIf (mNot (tVal (eCall 1 0 d_is_name [] (aCons (eVar 1) aNil)))) (sRet (eC (.bl false))) sSkip))
    (sRet (eC (.bl true)))))
def d_turns : MS := (sSeq (sIf (mNot (tVal (eCall 2 0 d_is_tuple [] (aCons (eVar 1) (aCons (eFn opLen (aCons (eVar 0) aNil)) aNil))))) (sRet (eC (.bl false))) sSkip)
    (sSeq (sFor (iZip (aCons (eVar 0) (aCons (eVar 1) aNil))) (gT (gsCons (gN 2) (gsCons (gN 3) gsNil))) (sIf (mOr (mNot (tVal (eCall 2 0 d_is_tuple [] (aCons (eVar 3) (aCons (eC (.int 2)) aNil))))) (mOr (mNot (tVal (eCall 1 1 d_are_names [] (aCons (eVar 3) aNil)))) (tVal (eBin opNe (eBin opIx (eVar 3) (eC (.int 0))) (eVar 2))))) (sRet (eC (.bl false))) sSkip))
    (sRet (eBin opEq (eUn opLenSet (eComp (iSeq (eVar 1)) (gN 3) (mpure true) (eBin opIx (eVar 3) (eC (.int 1))) [3])) (eFn opLen (aCons (eVar 1) aNil))))))
def d_is_naming : MS := (sSeq (sIf (mNot (tVal (eCall 2 0 d_is_tuple [] (aCons (eVar 1) (aCons (eC (.int 2)) aNil))))) (sRet (eC (.bl false))) sSkip)
    (sRet (eAnd (eCall 2 2 d_turns [] (aCons (eCallN 1 1 d_names_of [] (aCons (eBin opIx (eVar 0) (eC (.int 0))) aNil)) (aCons (eBin opIx (eVar 1) (eC (.int 0))) aNil))) (eCall 2 2 d_turns [] (aCons (eCallN 1 1 d_names_of [] (aCons (eBin opIx (eVar 0) (eC (.int 1))) aNil)) (aCons (eBin opIx (eVar 1) (eC (.int 1))) aNil))))))
def d_net_of : MS := (sSeq (sSet 2 (eComp (iSeq (eFn opSortedD (aCons (eVar 0) aNil))) (gN 3) (mpure true) (eTup (aCons (eVar 3) (aCons (eBin opIxD (eVar 0) (eVar 3)) aNil))) [3]))
    (sRet (eTup (aCons (eFn opTuple (aCons (eVar 2) aNil)) (aCons (eFn opTuple (aCons (eComp (iSeq (eFn opSortedD (aCons (eVar 1) aNil))) (gN 3) (mpure true) (eBin opAdd (eTup (aCons (eVar 3) aNil)) (eBin opIxD (eVar 1) (eVar 3))) [3]) aNil)) aNil)))))
def d_ties_of : MS := (sSeq (sSetN 1 (eC (.dK [])))
    (sSeq (sFor (iSeq (eBin opIx (eVar 0) (eC (.int 1)))) (gT (gsCons (gN 2) (gsCons (gN 3) (gsCons (gN 4) (gsCons (gN 5) gsNil))))) (sPutAt isDct 1 opPutD (eVar 2) (eTup (aCons (eVar 3) (aCons (eVar 4) (aCons (eVar 5) aNil))))))
    (sRetO 1)))
def d_turned_net : MS := (sSeq (sSet 2 (eFn opDict (aCons (eBin opIx (eVar 1) (eC (.int 0))) aNil)))
    (sSeq (sSet 3 (eFn opDict (aCons (eBin opIx (eVar 1) (eC (.int 1))) aNil)))
    (sSeq (sSetN 4 (eC (.dK [])))
    (sSeq (sFor (iDctN mkItems (eCallN 1 3 d_points_of [] (aCons (eVar 0) aNil))) (gT (gsCons (gN 6) (gsCons (gN 7) gsNil))) (sPutAt isDct 4 opPutD (eBin opIxD (eVar 2) (eVar 6)) (eVar 7)))
    (sSeq (sSetN 5 (eC (.dK [])))
    (sSeq (sFor (iDctN mkItems (eCallN 1 5 d_ties_of [] (aCons (eVar 0) aNil))) (gT (gsCons (gN 6) (gsCons (gT (gsCons (gN 7) (gsCons (gN 8) (gsCons (gN 9) gsNil)))) gsNil))) (sPutAt isDct 5 opPutD (eBin opIxD (eVar 3) (eVar 6)) (eTup (aCons (eVar 7) (aCons (eBin opIxD (eVar 2) (eVar 8)) (aCons (eBin opIxD (eVar 2) (eVar 9)) aNil))))))
    (sRet (eView (eCall 2 2 d_net_of [] (aCons (eVar 4) (aCons (eVar 5) aNil)))))))))))
def d_right_naming : MS := (sRet (eAnd (eCall 2 0 d_is_naming [] (aCons (eVar 0) (aCons (eVar 2) aNil))) (eBin opEq (eCall 2 8 d_turned_net [] (aCons (eVar 0) (aCons (eVar 2) aNil))) (eVar 1))))
def d_law : MS := (sSeq (sSetN 1 (eCallN 2 6 d_law_deck [] (aCons (eVar 0) (aCons (eC (.int 400)) aNil))))
    (sSeq (sSet 2 (eCallO 4 5 d_law_net 1 (oHere (aCons (eC (.int 6)) (aCons (eC (.int 8)) (aCons (eBin opMod (eCallO 1 0 d_law_next 1 (oHere aNil)) (eC (.int 2))) aNil))))))
    (sSeq (sSet 3 (eCallO 2 0 d_law_naming 1 (oHere (aCons (eVar 2) aNil))))
    (sSeq (sSet 4 (eCall 2 7 d_law_turned [] (aCons (eVar 2) (aCons (eVar 3) aNil))))
    (sSeq (sIf (mOr (tVal (eBin opIsNot (eCall 1 0 d_check [] (aCons (eVar 2) aNil)) (eC (.bl true)))) (mOr (tVal (eBin opIsNot (eCall 1 0 d_check [] (aCons (eVar 4) aNil)) (eC (.bl true)))) (tVal (eBin opIsNot (eCall 3 0 d_right_naming [] (aCons (eVar 2) (aCons (eVar 4) (aCons (eVar 3) aNil)))) (eC (.bl true)))))) (sRet (eC (.bl false))) sSkip)
    (sSeq (sFor (iRange1 (aCons (eC (.int 8)) aNil)) (gN 5) (sSeq (sSet 6 (eCallO 2 1 d_law_bent 1 (oHere (aCons (eVar 3) aNil))))
    (sSeq (sIf (mAnd (tVal (eBin opEq (eBin opMod (eVar 5) (eC (.int 3))) (eC (.int 2)))) (mAnd (tVal (eUn (opIsi "tuple") (eVar 6))) (mAnd (tVal (eBin opEq (eFn opLen (aCons (eVar 6) aNil)) (eC (.int 2)))) (tVal (eCall 2 0 d_law_is_naming [] (aCons (eVar 2) (aCons (eVar 6) aNil))))))) (sSet 6 (eCallO 2 1 d_law_bent 1 (oHere (aCons (eVar 6) aNil)))) sSkip)
    (sSeq (sSet 7 (eAnd (eCall 2 0 d_law_is_naming [] (aCons (eVar 2) (aCons (eVar 6) aNil))) (eBin opEq (eCall 2 7 d_law_turned [] (aCons (eVar 2) (aCons (eVar 6) aNil))) (eVar 4))))
    (sSeq (sIf (mNot (tVal (eCall 2 0 d_law_says [] (aCons (eCall 3 0 d_right_naming [] (aCons (eVar 2) (aCons (eVar 4) (aCons (eVar 6) aNil)))) (aCons (eVar 7) aNil))))) (sRet (eC (.bl false))) sSkip)
    (sSeq (sSet 8 (eCallO 2 9 d_law_changed 1 (oHere (aCons (eVar 4) aNil))))
    (sIf (mNot (tVal (eCall 2 0 d_law_says [] (aCons (eCall 3 0 d_right_naming [] (aCons (eVar 2) (aCons (eVar 8) (aCons (eVar 3) aNil)))) (aCons (eBin opEq (eVar 8) (eVar 4)) aNil))))) (sRet (eC (.bl false))) sSkip)))))))
    (sRet (eAnd (eBin opIs (eCall 3 0 d_right_naming [] (aCons (eVar 2) (aCons (eVar 4) (aCons (eVar 3) aNil)))) (eC (.bl true))) (eBin opEq (eVar 3) (eTup (aCons (eFn opTuple (aCons (eBin opIx (eVar 3) (eC (.int 0))) aNil)) (aCons (eFn opTuple (aCons (eBin opIx (eVar 3) (eC (.int 1))) aNil)) aNil))))))))))))
end NT.Den

set_option Elab.async false
set_option linter.all false
set_option maxRecDepth 100000
set_option maxHeartbeats 8000000
namespace Lk27
open PySem L2 NT NT.Den
def topS (i : Nat) : Stmt := PySem.Challenge.pw_netturns_k27_namings_looked_at.main.body.getD i (.Pass ⟨0, 0, 0, 0⟩)
theorem sc_law_next : FnScope ["_law_deck_here"] ["_law_deck_here"] (defScope (topS 31)) := ⟨rfl, rfl, rfl, by decide +kernel, rfl, by decide +kernel, by decide +kernel⟩
theorem ok_law_next {P : Program} {w : World} {K : PySem.W.Frag} {mg : Str → Option Value} {base : Heap} {cls : Nat → Value} {f : Addr} {fd : FuncData} (B : Bt mg) (Fn : Fun K "_law_next" "_law_next" (topS 31) f fd)  :
    FnOk P w K mg base (L2.CX P w) 1 f fd ["_law_deck_here"] (spD K cls 1 0 d_law_next) :=
  def_ok Fn sc_law_next rfl rfl fun cdv A outer s H E hr tk =>
    (qb_cons (q_if (q_tcmp op_gt val_gt (QE.view (q_fn (fun _ pa => pe_callB call_len (by rfl) B.len PySem.boot_len pa) val_len (qa_cons (q_var 0 (pv 0)) qa_nil))) q_int (nomark _)) (qb_one (q_ret (q_lm0 0 (pe_bm0 PySem.F.plainAttrs_list PySem.F.slot_list_pop PySem.F.type_list_pop mt_pop (pv 0)) mut_pop))) qb_nil)
    (qb_one (q_ret q_int)))
theorem sc_law_bent_row : FnScope ["_law_deck_here", "_law_row", "_law_way", "_law_at", "_law_other", "_law_pair", "_law_some", "_law_changed_here"] ["_law_deck_here", "_law_row"] (defScope (topS 41)) := ⟨rfl, rfl, rfl, by decide +kernel, rfl, by decide +kernel, by decide +kernel⟩
theorem ok_law_bent_row {P : Program} {w : World} {K : PySem.W.Frag} {mg : Str → Option Value} {base : Heap} {cls : Nat → Value} {f : Addr} {fd : FuncData} (B : Bt mg) (Fn : Fun K "_law_bent_row" "_law_bent_row" (topS 41) f fd) (C__law_next : Cal P w K mg base cls "_law_next" ["_law_deck_here"] 1 1 0 d_law_next []) :
    FnOk P w K mg base (L2.CX P w) 2 f fd ["_law_deck_here", "_law_row"] (spD K cls 2 6 d_law_bent_row) :=
  def_ok Fn sc_law_bent_row rfl rfl fun cdv A outer s H E hr tk =>
    (qb_cons (q_set 2 (fun _ p => ps_set (i := 2) sc_law_bent_row.nd rfl (by first | exact Or.inl rfl | exact Or.inr rfl) p) (q_bin op_mod val_mod (q_calO C__law_next hr (by decide) tk (qao_here 0 (pv 0) qa_nil)) q_int))
    (qb_cons (q_if (q_tcmp (op_eqD hr.units) val_eq (q_var 1 (pv 1)) (q_tup qa_nil) (nomark _)) (qb_one (q_ret (q_ix ix_any val_ix (QN.frz (q_lst (qa_cons (q_tup (qa_cons (q_tup (qa_cons q_int (qa_cons q_int qa_nil))) qa_nil)) (qa_cons q_non (qa_cons (QN.frz (q_lst qa_nil)) (qa_cons (q_tup (qa_cons (q_tup (qa_cons q_int qa_nil)) qa_nil)) (qa_cons q_int (qa_cons (q_tup qa_nil) (qa_cons q_str (qa_cons (q_tup (qa_cons (q_tup qa_nil) (qa_cons (q_tup qa_nil) qa_nil))) (qa_cons q_bl qa_nil))))))))))) (q_var 2 (pv 2)) (fun _ _ => rfl)))) qb_nil)
    (qb_cons (q_set 3 (fun _ p => ps_set (i := 3) sc_law_bent_row.nd rfl (by first | exact Or.inl rfl | exact Or.inr rfl) p) (q_bin op_mod val_mod (q_calO C__law_next hr (by decide) tk (qao_here 0 (pv 0) qa_nil)) (q_fn (fun _ pa => pe_callB call_len (by rfl) B.len PySem.boot_len pa) val_len (qa_cons (q_var 1 (pv 1)) qa_nil))))
    (qb_cons (q_set 4 (fun _ p => ps_set (i := 4) sc_law_bent_row.nd rfl (by first | exact Or.inl rfl | exact Or.inr rfl) p) (q_bin op_mod val_mod (q_calO C__law_next hr (by decide) tk (qao_here 0 (pv 0) qa_nil)) (q_fn (fun _ pa => pe_callB call_len (by rfl) B.len PySem.boot_len pa) val_len (qa_cons (q_var 1 (pv 1)) qa_nil))))
    (qb_cons (q_set 5 (fun _ p => ps_set (i := 5) sc_law_bent_row.nd rfl (by first | exact Or.inl rfl | exact Or.inr rfl) p) (q_ix ix_any val_ix (q_var 1 (pv 1)) (q_var 3 (pv 3)) (fun _ _ => rfl)))
    (qb_cons (q_set 6 (fun _ p => ps_set (i := 6) sc_law_bent_row.nd rfl (by first | exact Or.inl rfl | exact Or.inr rfl) p) (QN.frz (q_lst (qa_cons (q_tup (qa_cons (q_ix ix_any val_ix (q_var 5 (pv 5)) q_int (fun _ _ => rfl)) (qa_cons (q_ix ix_any val_ix (q_ix ix_any val_ix (q_var 1 (pv 1)) (q_var 4 (pv 4)) (fun _ _ => rfl)) q_int (fun _ _ => rfl)) qa_nil))) (qa_cons (q_tup (qa_cons (q_ix ix_any val_ix (q_var 5 (pv 5)) q_int (fun _ _ => rfl)) (qa_cons (q_ix ix_any val_ix (q_var 5 (pv 5)) q_int (fun _ _ => rfl)) (qa_cons q_int qa_nil)))) (qa_cons (q_tup (qa_cons (q_bin op_addA val_add (q_ix ix_any val_ix (q_var 5 (pv 5)) q_int (fun _ _ => rfl)) q_int) (qa_cons (q_ix ix_any val_ix (q_var 5 (pv 5)) q_int (fun _ _ => rfl)) qa_nil))) (qa_cons (q_tup (qa_cons (q_ix ix_any val_ix (q_var 5 (pv 5)) q_int (fun _ _ => rfl)) (qa_cons (q_ix ix_any val_ix (q_var 5 (pv 5)) q_int (fun _ _ => rfl)) qa_nil))) (qa_cons (QN.frz (q_fnN (fun _ pa => pe_callTy call_list_of (by rfl) B.list (by decide +kernel) pa) new_list (qa_cons (q_var 5 (pv 5)) qa_nil))) qa_nil))))))))
    (qb_cons (q_set 6 (fun _ p => ps_set (i := 6) sc_law_bent_row.nd rfl (by first | exact Or.inl rfl | exact Or.inr rfl) p) (QN.frz (q_binN op_cat new_cat (q_var 6 (pv 6)) (QN.frz (q_lst (qa_cons (q_tup (qa_cons q_bl (qa_cons (q_ix ix_any val_ix (q_var 5 (pv 5)) q_int (fun _ _ => rfl)) qa_nil))) (qa_cons (q_tup (qa_cons (q_ix ix_any val_ix (q_var 5 (pv 5)) q_int (fun _ _ => rfl)) (qa_cons q_bl qa_nil))) (qa_cons (q_tup (qa_cons (q_ix ix_any val_ix (q_var 5 (pv 5)) q_int (fun _ _ => rfl)) (qa_cons q_int qa_nil))) (qa_cons (q_tup (qa_cons (q_ix ix_any val_ix (q_var 5 (pv 5)) q_int (fun _ _ => rfl)) (qa_cons (q_un un_neg val_neg q_int) qa_nil))) (qa_cons (q_tup (qa_cons (q_ix ix_any val_ix (q_var 5 (pv 5)) q_int (fun _ _ => rfl)) (qa_cons (q_fn (fun _ pa => pe_callTy call_str_int (by rfl) B.str (by decide +kernel) pa) val_str (qa_cons (q_ix ix_any val_ix (q_var 5 (pv 5)) q_int (fun _ _ => rfl)) qa_nil)) qa_nil))) (qa_cons q_non qa_nil)))))))))))
    (qb_cons (q_if (q_tcmp op_lt val_lt (q_var 2 (pv 2)) q_int (nomark _)) (qb_one (q_ret (q_bin op_addA val_add (q_bin op_addA val_add (q_sl (q_var 1 (pv 1)) qo_none (qo_some (q_var 3 (pv 3))) fun _ _ _ p l h => pe_slice (NT.SlR.or sl_tupL sl_str) p l h) (q_tup (qa_cons (q_ix ix_any val_ix (q_var 6 (pv 6)) (q_bin op_mod val_mod (q_calO C__law_next hr (by decide) tk (qao_here 0 (pv 0) qa_nil)) (q_fn (fun _ pa => pe_callB call_len (by rfl) B.len PySem.boot_len pa) val_len (qa_cons (q_var 6 (pv 6)) qa_nil))) (fun _ _ => rfl)) qa_nil))) (q_sl (q_var 1 (pv 1)) (qo_some (q_bin op_addA val_add (q_var 3 (pv 3)) q_int)) qo_none fun _ _ _ p l h => pe_slice (NT.SlR.or sl_tupL sl_str) p l h)))) qb_nil)
    (qb_cons (q_if (q_tcmp (op_eqD hr.units) val_eq (q_var 2 (pv 2)) q_int (nomark _)) (qb_cons (q_setN 7 (fun _ p => ps_set (i := 7) sc_law_bent_row.nd rfl (by first | exact Or.inl rfl | exact Or.inr rfl) p) (q_fnN (fun _ pa => pe_callTy call_list_of (by rfl) B.list (by decide +kernel) pa) new_list (qa_cons (q_var 1 (pv 1)) qa_nil)))
    (qb_cons (q_setIx 7 (fun _ _ p q => ps_asg p (pg_sub (pv 7) q set_list)) (q_tup (qa_cons (q_ix ix_any val_ix (q_var 5 (pv 5)) q_int (fun _ _ => rfl)) (qa_cons (q_ix ix_any val_ix (q_ix ix_any val_ix (q_var 1 (pv 1)) (q_var 4 (pv 4)) (fun _ _ => rfl)) q_int (fun _ _ => rfl)) qa_nil))) (q_var 3 (pv 3)))
    (qb_cons (q_setIx 7 (fun _ _ p q => ps_asg p (pg_sub (pv 7) q set_list)) (q_tup (qa_cons (q_ix ix_any val_ix (q_ix ix_any val_ix (q_var 1 (pv 1)) (q_var 4 (pv 4)) (fun _ _ => rfl)) q_int (fun _ _ => rfl)) (qa_cons (q_ix ix_any val_ix (q_var 5 (pv 5)) q_int (fun _ _ => rfl)) qa_nil))) (q_var 4 (pv 4)))
    (qb_one (q_ret (QE.view (q_fn (fun _ pa => pe_callTy call_tupleL (by rfl) B.tuple (by decide +kernel) pa) val_tuple (qa_cons (q_var 7 (pv 7)) qa_nil)))))))) qb_nil)
    (qb_cons (q_if (q_tcmp (op_eqD hr.units) val_eq (q_var 2 (pv 2)) q_int (nomark _)) (qb_one (q_ret (q_ix ix_any val_ix (QN.frz (q_lst (qa_cons (q_bin op_addA val_add (q_sl (q_var 1 (pv 1)) qo_none (qo_some (q_var 3 (pv 3))) fun _ _ _ p l h => pe_slice (NT.SlR.or sl_tupL sl_str) p l h) (q_sl (q_var 1 (pv 1)) (qo_some (q_bin op_addA val_add (q_var 3 (pv 3)) q_int)) qo_none fun _ _ _ p l h => pe_slice (NT.SlR.or sl_tupL sl_str) p l h)) (qa_cons (q_bin op_addA val_add (q_var 1 (pv 1)) (q_tup (qa_cons (q_var 5 (pv 5)) qa_nil))) (qa_cons (q_tupRev (fun _ p => RW.pe_tupRevT rfl (by rfl) B.tuple (by rfl) B.reversed p) (q_var 1 (pv 1))) qa_nil))))) (q_bin op_mod val_mod (q_calO C__law_next hr (by decide) tk (qao_here 0 (pv 0) qa_nil)) q_int) (fun _ _ => rfl)))) qb_nil)
    (qb_one (q_ret (q_ix ix_any val_ix (QN.frz (q_lst (qa_cons (QN.frz (q_fnN (fun _ pa => pe_callTy call_list_of (by rfl) B.list (by decide +kernel) pa) new_list (qa_cons (q_var 1 (pv 1)) qa_nil))) (qa_cons q_non (qa_cons q_int (qa_cons q_str (qa_cons (q_tup qa_nil) qa_nil))))))) (q_bin op_mod val_mod (q_calO C__law_next hr (by decide) tk (qao_here 0 (pv 0) qa_nil)) q_int) (fun _ _ => rfl))))))))))))))
theorem sc_law_bent : FnScope ["_law_deck_here", "_law_naming_here", "_law_way"] ["_law_deck_here", "_law_naming_here"] (defScope (topS 42)) := ⟨rfl, rfl, rfl, by decide +kernel, rfl, by decide +kernel, by decide +kernel⟩
theorem ok_law_bent {P : Program} {w : World} {K : PySem.W.Frag} {mg : Str → Option Value} {base : Heap} {cls : Nat → Value} {f : Addr} {fd : FuncData} (B : Bt mg) (Fn : Fun K "_law_bent" "_law_bent" (topS 42) f fd) (C__law_bent_row : Cal P w K mg base cls "_law_bent_row" ["_law_deck_here", "_law_row"] 2 2 6 d_law_bent_row []) (C__law_next : Cal P w K mg base cls "_law_next" ["_law_deck_here"] 1 1 0 d_law_next []) :
    FnOk P w K mg base (L2.CX P w) 3 f fd ["_law_deck_here", "_law_naming_here"] (spD K cls 2 1 d_law_bent) :=
  def_ok Fn sc_law_bent rfl rfl fun cdv A outer s H E hr tk =>
    (qb_cons (q_set 2 (fun _ p => ps_set (i := 2) sc_law_bent.nd rfl (by first | exact Or.inl rfl | exact Or.inr rfl) p) (q_bin op_mod val_mod (q_calO C__law_next hr (by decide) tk (qao_here 0 (pv 0) qa_nil)) q_int))
    (qb_cons (q_if (q_tcmp op_lt val_lt (q_var 2 (pv 2)) q_int (nomark _)) (qb_one (q_ret (q_tup (qa_cons (q_calO C__law_bent_row hr (by decide) tk (qao_here 0 (pv 0) (qa_cons (q_ix ix_any val_ix (q_var 1 (pv 1)) q_int (fun _ _ => rfl)) qa_nil))) (qa_cons (q_ix ix_any val_ix (q_var 1 (pv 1)) q_int (fun _ _ => rfl)) qa_nil))))) qb_nil)
    (qb_cons (q_if (q_tcmp op_lt val_lt (q_var 2 (pv 2)) q_int (nomark _)) (qb_one (q_ret (q_tup (qa_cons (q_ix ix_any val_ix (q_var 1 (pv 1)) q_int (fun _ _ => rfl)) (qa_cons (q_calO C__law_bent_row hr (by decide) tk (qao_here 0 (pv 0) (qa_cons (q_ix ix_any val_ix (q_var 1 (pv 1)) q_int (fun _ _ => rfl)) qa_nil))) qa_nil))))) qb_nil)
    (qb_one (q_ret (q_ix ix_any val_ix (QN.frz (q_lst (qa_cons (q_sl (q_var 1 (pv 1)) qo_none (qo_some q_int) fun _ _ _ p l h => pe_slice (NT.SlR.or sl_tupL sl_str) p l h) (qa_cons (q_bin op_addA val_add (q_var 1 (pv 1)) (q_tup (qa_cons (q_tup qa_nil) qa_nil))) (qa_cons (QN.frz (q_fnN (fun _ pa => pe_callTy call_list_of (by rfl) B.list (by decide +kernel) pa) new_list (qa_cons (q_var 1 (pv 1)) qa_nil))) (qa_cons q_non (qa_cons (q_tup (qa_cons (q_ix ix_any val_ix (q_var 1 (pv 1)) q_int (fun _ _ => rfl)) (qa_cons (q_ix ix_any val_ix (q_var 1 (pv 1)) q_int (fun _ _ => rfl)) qa_nil))) (qa_cons q_str (qa_cons q_int qa_nil))))))))) (q_bin op_mod val_mod (q_calO C__law_next hr (by decide) tk (qao_here 0 (pv 0) qa_nil)) q_int) (fun _ _ => rfl)))))))
theorem sc_law_changed : FnScope ["_law_deck_here", "_law_net_here", "_law_points", "_law_ties", "_law_way", "_law_at", "_law_spot", "_law_name", "_law_kind", "_law_begin", "_law_end"] ["_law_deck_here", "_law_net_here"] (defScope (topS 43)) := ⟨rfl, rfl, rfl, by decide +kernel, rfl, by decide +kernel, by decide +kernel⟩
theorem ok_law_changed {P : Program} {w : World} {K : PySem.W.Frag} {mg : Str → Option Value} {base : Heap} {cls : Nat → Value} {f : Addr} {fd : FuncData} (B : Bt mg) (Fn : Fun K "_law_changed" "_law_changed" (topS 43) f fd) (C__law_next : Cal P w K mg base cls "_law_next" ["_law_deck_here"] 1 1 0 d_law_next []) :
    FnOk P w K mg base (L2.CX P w) 2 f fd ["_law_deck_here", "_law_net_here"] (spD K cls 2 9 d_law_changed) :=
  def_ok Fn sc_law_changed rfl rfl fun cdv A outer s H E hr tk =>
    (qb_cons (q_setN 2 (fun _ p => ps_set (i := 2) sc_law_changed.nd rfl (by first | exact Or.inl rfl | exact Or.inr rfl) p) (q_fnN (fun _ pa => pe_callTy call_list_of (by rfl) B.list (by decide +kernel) pa) new_list (qa_cons (q_ix ix_any val_ix (q_var 1 (pv 1)) q_int (fun _ _ => rfl)) qa_nil)))
    (qb_cons (q_setN 3 (fun _ p => ps_set (i := 3) sc_law_changed.nd rfl (by first | exact Or.inl rfl | exact Or.inr rfl) p) (q_fnN (fun _ pa => pe_callTy call_list_of (by rfl) B.list (by decide +kernel) pa) new_list (qa_cons (q_ix ix_any val_ix (q_var 1 (pv 1)) q_int (fun _ _ => rfl)) qa_nil)))
    (qb_cons (q_set 4 (fun _ p => ps_set (i := 4) sc_law_changed.nd rfl (by first | exact Or.inl rfl | exact Or.inr rfl) p) (q_bin op_mod val_mod (q_calO C__law_next hr (by decide) tk (qao_here 0 (pv 0) qa_nil)) q_int))
    (qb_cons (q_set 5 (fun _ p => ps_set (i := 5) sc_law_changed.nd rfl (by first | exact Or.inl rfl | exact Or.inr rfl) p) (q_bin op_mod val_mod (q_calO C__law_next hr (by decide) tk (qao_here 0 (pv 0) qa_nil)) (QE.view (q_fn (fun _ pa => pe_callB call_len (by rfl) B.len PySem.boot_len pa) val_len (qa_cons (q_var 2 (pv 2)) qa_nil)))))
    (qb_cons (q_if (QW.qt (qw_or (q_tcmp (op_eqD hr.units) val_eq (q_var 4 (pv 4)) q_int (nomark _)) (qw_or1 (QT.view (q_tcmp (op_eqD hr.units) val_eq (q_var 3 (pv 3)) (QN.frz (q_lst qa_nil)) (nomark _)))))) (qb_cons (q_setIx 2 (fun _ _ p q => ps_asg p (pg_sub (pv 2) q set_list)) (q_tup (qa_cons (QE.view (q_ix ix_any val_ix (q_ix ix_any val_ix (q_var 2 (pv 2)) (q_var 5 (pv 5)) (fun _ _ => rfl)) q_int (fun _ _ => rfl))) (qa_cons (q_ix ix_any val_ix q_str (q_bin op_mod val_mod (q_calO C__law_next hr (by decide) tk (qao_here 0 (pv 0) qa_nil)) q_int) (fun _ _ => rfl)) qa_nil))) (q_var 5 (pv 5)))
    (qb_one (q_ret (QE.view (q_tup (qa_cons (q_fn (fun _ pa => pe_callTy call_tupleL (by rfl) B.tuple (by decide +kernel) pa) val_tuple (qa_cons (q_var 2 (pv 2)) qa_nil)) (qa_cons (q_fn (fun _ pa => pe_callTy call_tupleL (by rfl) B.tuple (by decide +kernel) pa) val_tuple (qa_cons (q_var 3 (pv 3)) qa_nil)) qa_nil))))))) qb_nil)
    (qb_cons (q_set 6 (fun _ p => ps_set (i := 6) sc_law_changed.nd rfl (by first | exact Or.inl rfl | exact Or.inr rfl) p) (q_bin op_mod val_mod (q_calO C__law_next hr (by decide) tk (qao_here 0 (pv 0) qa_nil)) (QE.view (q_fn (fun _ pa => pe_callB call_len (by rfl) B.len PySem.boot_len pa) val_len (qa_cons (q_var 3 (pv 3)) qa_nil)))))
    (qb_cons (q_asg (fun _ _ p q => ps_asg p q) (QE.view (q_ix ix_any val_ix (q_var 3 (pv 3)) (q_var 6 (pv 6)) (fun _ _ => rfl))) (qg_tup (qgs_cons (qg_name 7 (pg_name (i := 7) sc_law_changed.nd rfl (by first | exact Or.inl rfl | exact Or.inr rfl))) (qgs_cons (qg_name 8 (pg_name (i := 8) sc_law_changed.nd rfl (by first | exact Or.inl rfl | exact Or.inr rfl))) (qgs_cons (qg_name 9 (pg_name (i := 9) sc_law_changed.nd rfl (by first | exact Or.inl rfl | exact Or.inr rfl))) (qgs_cons (qg_name 10 (pg_name (i := 10) sc_law_changed.nd rfl (by first | exact Or.inl rfl | exact Or.inr rfl))) qgs_nil)))) rfl))
    (qb_cons (q_if (q_tcmp (op_eqD hr.units) val_eq (q_var 4 (pv 4)) q_int (nomark _)) (qb_one (q_setIx 3 (fun _ _ p q => ps_asg p (pg_sub (pv 3) q set_list)) (q_tup (qa_cons (q_var 7 (pv 7)) (qa_cons (q_ix ix_any val_ix q_str (q_bin op_mod val_mod (q_calO C__law_next hr (by decide) tk (qao_here 0 (pv 0) qa_nil)) q_int) (fun _ _ => rfl)) (qa_cons (q_var 9 (pv 9)) (qa_cons (q_var 10 (pv 10)) qa_nil))))) (q_var 6 (pv 6)))) (qb_one (q_if (q_tcmp (op_eqD hr.units) val_eq (q_var 4 (pv 4)) q_int (nomark _)) (qb_one (q_setIx 3 (fun _ _ p q => ps_asg p (pg_sub (pv 3) q set_list)) (q_tup (qa_cons (q_var 7 (pv 7)) (qa_cons (q_var 8 (pv 8)) (qa_cons (q_var 10 (pv 10)) (qa_cons (q_var 9 (pv 9)) qa_nil))))) (q_var 6 (pv 6)))) (qb_one (q_expr (q_lm 3 (fun _ pa => pe_bm PySem.F.plainAttrs_list PySem.F.slot_list_pop PySem.F.type_list_pop mt_popAt (pv 3) pa) mut_popAt (qa_cons (q_var 6 (pv 6)) qa_nil)))))))
    (qb_one (q_ret (QE.view (q_tup (qa_cons (q_fn (fun _ pa => pe_callTy call_tupleL (by rfl) B.tuple (by decide +kernel) pa) val_tuple (qa_cons (q_var 2 (pv 2)) qa_nil)) (qa_cons (q_fn (fun _ pa => pe_callTy call_tupleL (by rfl) B.tuple (by decide +kernel) pa) val_tuple (qa_cons (q_var 3 (pv 3)) qa_nil)) qa_nil))))))))))))))
theorem sc_law_mixed : FnScope ["_law_cell", "_law_k", "_law_number"] ["_law_cell", "_law_k"] (defScope (topS 29)) := ⟨rfl, rfl, rfl, by decide +kernel, rfl, by decide +kernel, by decide +kernel⟩
theorem ok_law_mixed {P : Program} {w : World} {K : PySem.W.Frag} {mg : Str → Option Value} {base : Heap} {cls : Nat → Value} {f : Addr} {fd : FuncData} (B : Bt mg) (Fn : Fun K "_law_mixed" "_law_mixed" (topS 29) f fd)  :
    FnOk P w K mg base (L2.CX P w) 1 f fd ["_law_cell", "_law_k"] (spD K cls 2 1 d_law_mixed) :=
  def_ok Fn sc_law_mixed rfl rfl fun cdv A outer s H E hr tk =>
    (qb_cons (q_set 2 (fun _ p => ps_set (i := 2) sc_law_mixed.nd rfl (by first | exact Or.inl rfl | exact Or.inr rfl) p) (q_bin op_mod val_mod (q_bin op_addA val_add (q_bin op_addA val_add (q_var 0 (pv 0)) (q_bin op_mulA val_mul (q_bin op_mulA val_mul (q_var 1 (pv 1)) (q_var 1 (pv 1))) q_int)) q_int) q_int))
    (qb_cons (q_set 2 (fun _ p => ps_set (i := 2) sc_law_mixed.nd rfl (by first | exact Or.inl rfl | exact Or.inr rfl) p) (q_bin op_mod val_mod (q_bin op_mulA val_mul (q_var 2 (pv 2)) (q_var 2 (pv 2))) q_int))
    (qb_cons (q_set 2 (fun _ p => ps_set (i := 2) sc_law_mixed.nd rfl (by first | exact Or.inl rfl | exact Or.inr rfl) p) (q_bin op_mod val_mod (q_bin op_mulA val_mul (q_bin op_addA val_add (q_bin op_addA val_add (q_var 2 (pv 2)) (q_bin op_mulA val_mul (q_var 1 (pv 1)) q_int)) q_int) q_int) q_int))
    (qb_one (q_ret (q_bin op_fdiv val_fdiv (q_bin op_mod val_mod (q_bin op_mulA val_mul (q_var 2 (pv 2)) (q_var 2 (pv 2))) q_int) q_int))))))
theorem sc_law_deck : FnScope ["_law_script", "_law_many", "_law_own", "_law_rest", "_law_deck_here", "_law_k", "_law_at", "_law_cell"] ["_law_script", "_law_many"] (defScope (topS 30)) := ⟨rfl, rfl, rfl, by decide +kernel, rfl, by decide +kernel, by decide +kernel⟩
theorem ok_law_deck {P : Program} {w : World} {K : PySem.W.Frag} {mg : Str → Option Value} {base : Heap} {cls : Nat → Value} {f : Addr} {fd : FuncData} (B : Bt mg) (Fn : Fun K "_law_deck" "_law_deck" (topS 30) f fd) (C__law_mixed : Cal P w K mg base cls "_law_mixed" ["_law_cell", "_law_k"] 1 2 1 d_law_mixed []) :
    FnOk P w K mg base (L2.CX P w) 2 f fd ["_law_script", "_law_many"] (spD K cls 2 6 d_law_deck) :=
  def_ok Fn sc_law_deck rfl rfl fun cdv A outer s H E hr tk =>
    (qb_cons (q_set 2 (fun _ p => ps_set (i := 2) sc_law_deck.nd rfl (by first | exact Or.inl rfl | exact Or.inr rfl) p) (QN.frz (q_binN op_cat new_cat (QN.frz (q_fnN (fun _ pa => pe_callTy call_list_of (by rfl) B.list (by decide +kernel) pa) new_list (qa_cons (QN.frz (q_slL (q_var 0 (pv 0)) qo_none (qo_some q_int) fun _ _ _ p l h => pe_slice sl_list p l h)) qa_nil))) (QN.frz (q_binN op_rep new_rep (QN.frz (q_lst (qa_cons q_int qa_nil))) (q_fn (fun _ pa => pe_callTy call_int1 (by rfl) B.int (by decide +kernel) pa) val_int (qa_cons (q_cmp (op_eqD hr.units) val_eq (q_fn (fun _ pa => pe_callB call_len (by rfl) B.len PySem.boot_len pa) val_len (qa_cons (q_var 0 (pv 0)) qa_nil)) q_int (nomark _)) qa_nil)))))))
    (qb_cons (q_setLcN 3 rfl sc_law_deck.nd rfl rfl (sw_true rfl rfl rfl (by decide +kernel)) (qi_seq (q_var 2 (pv 2))) (blkOk_by (own := [("_law_cell", 7)]) (N := ["_law_script", "_law_many", "_law_own", "_law_rest", "_law_deck_here", "_law_k", "_law_at", "_law_cell"]) (sc := (defScope (topS 30))) (by decide +kernel)) (fun _ _ _ _ _ => (qg_name 7 (pg_name (i := 7) sc_law_deck.nd rfl (by first | exact Or.inl rfl | exact Or.inr rfl)))) (fun _ _ _ _ _ => qts_nil) (fun _ _ _ _ _ => (q_bin op_mulA val_mul (q_var 7 (pv 7)) (q_fn (fun _ pa => pe_callTy call_int1 (by rfl) B.int (by decide +kernel) pa) val_int (qa_cons (q_cmp op_ge val_ge (q_var 7 (pv 7)) (q_bin op_pow val_pow q_int q_int) (nomark _)) qa_nil)))) gok_name rfl (by decide))
    (qb_cons (q_setN 4 (fun _ p => ps_set (i := 4) sc_law_deck.nd rfl (by first | exact Or.inl rfl | exact Or.inr rfl) p) (q_lst qa_nil))
    (qb_cons (q_for (qi_range1 (fun _ pa => pi_range1 (by rfl) B.range pa) (qa_cons (q_var 1 (pv 1)) qa_nil)) (qg_name 5 (pg_name (i := 5) sc_law_deck.nd rfl (by first | exact Or.inl rfl | exact Or.inr rfl))) (qb_cons (q_set 6 (fun _ p => ps_set (i := 6) sc_law_deck.nd rfl (by first | exact Or.inl rfl | exact Or.inr rfl) p) (q_bin op_mod val_mod (q_var 5 (pv 5)) (q_fn (fun _ pa => pe_callB call_len (by rfl) B.len PySem.boot_len pa) val_len (qa_cons (q_var 2 (pv 2)) qa_nil))))
    (qb_one (q_if (q_tcmp op_gt val_gt (QE.view (q_ix ix_any val_ix (q_var 3 (pv 3)) (q_var 6 (pv 6)) (fun _ _ => rfl))) q_int (nomark _)) (qb_cons (q_expr (q_lm 4 (fun _ pa => pe_bm PySem.F.plainAttrs_list PySem.F.slot_list_append PySem.F.type_list_append mt_append (pv 4) pa) mut_append (qa_cons (q_bin op_mod val_mod (QE.view (q_ix ix_any val_ix (q_var 3 (pv 3)) (q_var 6 (pv 6)) (fun _ _ => rfl))) q_int) qa_nil)))
    (qb_one (q_setIx 3 (fun _ _ p q => ps_asg p (pg_sub (pv 3) q set_list)) (q_bin op_fdiv val_fdiv (QE.view (q_ix ix_any val_ix (q_var 3 (pv 3)) (q_var 6 (pv 6)) (fun _ _ => rfl))) q_int) (q_var 6 (pv 6))))) (qb_one (q_expr (q_lm 4 (fun _ pa => pe_bm PySem.F.plainAttrs_list PySem.F.slot_list_append PySem.F.type_list_append mt_append (pv 4) pa) mut_append (qa_cons (q_bin op_mod val_mod (q_cal C__law_mixed hr (by decide) tk (qa_cons (q_ix ix_any val_ix (q_var 2 (pv 2)) (q_var 6 (pv 6)) (fun _ _ => rfl)) (qa_cons (q_bin op_addA val_add (q_var 5 (pv 5)) q_int) qa_nil))) q_int) qa_nil))))))) (fun _ _ _ i t b => ps_for (passes_of rfl) rfl i t b))
    (qb_one (q_retN (QN.view (q_lstRev (fun _ p => RV.pe_lstRev rfl (by rfl) B.list (by rfl) B.reversed p) (q_var 4 (pv 4))))))))))
theorem sc_law_is_name : FnScope ["_law_thing"] ["_law_thing"] (defScope (topS 38)) := ⟨rfl, rfl, rfl, by decide +kernel, rfl, by decide +kernel, by decide +kernel⟩
theorem ok_law_is_name {P : Program} {w : World} {K : PySem.W.Frag} {mg : Str → Option Value} {base : Heap} {cls : Nat → Value} {f : Addr} {fd : FuncData} (B : Bt mg) (Fn : Fun K "_law_is_name" "_law_is_name" (topS 38) f fd)  :
    FnOk P w K mg base (L2.CX P w) 1 f fd ["_law_thing"] (spD K cls 1 0 d_law_is_name) :=
  def_ok Fn sc_law_is_name rfl rfl fun cdv A outer s H E hr tk =>
    (qb_one (q_ret (q_and (q_isi "int" (by decide) (fun _ p => pe_callB call_isi (by rfl) B.isinstance (by decide +kernel) (pa_cons p (pa_cons (pe_bltn (v := .ty "int") (by rfl) B.int (show bootBuiltins "int" = some (.type "int") by decide +kernel) rfl) pa_nil))) (q_var 0 (pv 0))) (q_and (q_not (q_isi "bool" (by decide) (fun _ p => pe_callB call_isi (by rfl) B.isinstance (by decide +kernel) (pa_cons p (pa_cons (pe_bltn (v := .ty "bool") (by rfl) B.bool (show bootBuiltins "bool" = some (.type "bool") by decide +kernel) rfl) pa_nil))) (q_var 0 (pv 0)))) (q_one (q_chain (op_leA hr.units0) (op_leA hr.units0) val_le val_le q_int (q_var 0 (pv 0)) q_int))))))
theorem sc_law_is_row : FnScope ["_law_things", "_law_row", "_law_seen", "_law_item", "_law_pair"] ["_law_things", "_law_row"] (defScope (topS 39)) := ⟨rfl, rfl, rfl, by decide +kernel, rfl, by decide +kernel, by decide +kernel⟩
theorem ok_law_is_row {P : Program} {w : World} {K : PySem.W.Frag} {mg : Str → Option Value} {base : Heap} {cls : Nat → Value} {f : Addr} {fd : FuncData} (B : Bt mg) (Fn : Fun K "_law_is_row" "_law_is_row" (topS 39) f fd) (C__law_is_name : Cal P w K mg base cls "_law_is_name" ["_law_thing"] 1 1 0 d_law_is_name []) :
    FnOk P w K mg base (L2.CX P w) 2 f fd ["_law_things", "_law_row"] (spD K cls 2 3 d_law_is_row) :=
  def_ok Fn sc_law_is_row rfl rfl fun cdv A outer s H E hr tk =>
    (qb_cons (q_if (QW.qt (qw_or (q_tnot (q_tval (q_isi "tuple" (by decide) (fun _ p => pe_callB call_isi (by rfl) B.isinstance (by decide +kernel) (pa_cons p (pa_cons (pe_bltn (v := .ty "tuple") (by rfl) B.tuple (show bootBuiltins "tuple" = some (.type "tuple") by decide +kernel) rfl) pa_nil))) (q_var 1 (pv 1))))) (qw_or1 (q_tcmp (op_neD hr.units) val_ne (q_fn (fun _ pa => pe_callB call_len (by rfl) B.len PySem.boot_len pa) val_len (qa_cons (q_var 1 (pv 1)) qa_nil)) (q_fn (fun _ pa => pe_callB call_len (by rfl) B.len PySem.boot_len pa) val_len (qa_cons (q_var 0 (pv 0)) qa_nil)) (nomark _))))) (qb_one (q_ret q_bl)) qb_nil)
    (qb_cons (q_setN 2 (fun _ p => ps_set (i := 2) sc_law_is_row.nd rfl (by first | exact Or.inl rfl | exact Or.inr rfl) p) q_dict0)
    (qb_cons (q_for (qi_zip (fun _ pa => pi_zipK (by rfl) B.zip pa) (qa_cons (q_var 0 (pv 0)) (qa_cons (q_var 1 (pv 1)) qa_nil))) (qg_tup (qgs_cons (qg_name 3 (pg_name (i := 3) sc_law_is_row.nd rfl (by first | exact Or.inl rfl | exact Or.inr rfl))) (qgs_cons (qg_name 4 (pg_name (i := 4) sc_law_is_row.nd rfl (by first | exact Or.inl rfl | exact Or.inr rfl))) qgs_nil)) rfl) (qb_cons (q_if (QW.qt (qw_or (q_tnot (q_tval (q_isi "tuple" (by decide) (fun _ p => pe_callB call_isi (by rfl) B.isinstance (by decide +kernel) (pa_cons p (pa_cons (pe_bltn (v := .ty "tuple") (by rfl) B.tuple (show bootBuiltins "tuple" = some (.type "tuple") by decide +kernel) rfl) pa_nil))) (q_var 4 (pv 4))))) (qw_or (q_tcmp (op_neD hr.units) val_ne (q_fn (fun _ pa => pe_callB call_len (by rfl) B.len PySem.boot_len pa) val_len (qa_cons (q_var 4 (pv 4)) qa_nil)) q_int (nomark _)) (qw_or (q_tnot (q_tval (q_cal C__law_is_name hr (by decide) tk (qa_cons (q_ix ix_any val_ix (q_var 4 (pv 4)) q_int (fun _ _ => rfl)) qa_nil)))) (qw_or1 (q_tnot (q_tval (q_cal C__law_is_name hr (by decide) tk (qa_cons (q_ix ix_any val_ix (q_var 4 (pv 4)) q_int (fun _ _ => rfl)) qa_nil))))))))) (qb_one (q_ret q_bl)) qb_nil)
    (qb_cons (q_if (QW.qt (qw_or (q_tcmp (op_neD hr.units) val_ne (q_ix ix_any val_ix (q_var 4 (pv 4)) q_int (fun _ _ => rfl)) (q_ix ix_any val_ix (q_var 3 (pv 3)) q_int (fun _ _ => rfl)) (nomark _)) (qw_or1 (QT.view (q_tinD (hu_of hr) (q_ix ix_any val_ix (q_var 4 (pv 4)) q_int (fun _ _ => rfl)) (q_var 2 (pv 2))))))) (qb_one (q_ret q_bl)) qb_nil)
    (qb_one (q_setD 2 (fun _ _ p q => ps_dput (hu_of hr) (pv 2) q p rfl) q_bl (q_ix ix_any val_ix (q_var 4 (pv 4)) q_int (fun _ _ => rfl)))))) (fun _ _ _ i t b => ps_for (passes_of rfl) rfl i t b))
    (qb_one (q_ret q_bl)))))
theorem sc_law_is_naming : FnScope ["_law_net_here", "_law_thing"] ["_law_net_here", "_law_thing"] (defScope (topS 40)) := ⟨rfl, rfl, rfl, by decide +kernel, rfl, by decide +kernel, by decide +kernel⟩
theorem ok_law_is_naming {P : Program} {w : World} {K : PySem.W.Frag} {mg : Str → Option Value} {base : Heap} {cls : Nat → Value} {f : Addr} {fd : FuncData} (B : Bt mg) (Fn : Fun K "_law_is_naming" "_law_is_naming" (topS 40) f fd) (C__law_is_row : Cal P w K mg base cls "_law_is_row" ["_law_things", "_law_row"] 2 2 3 d_law_is_row []) :
    FnOk P w K mg base (L2.CX P w) 3 f fd ["_law_net_here", "_law_thing"] (spD K cls 2 0 d_law_is_naming) :=
  def_ok Fn sc_law_is_naming rfl rfl fun cdv A outer s H E hr tk =>
    (qb_cons (q_if (QW.qt (qw_or (q_tnot (q_tval (q_isi "tuple" (by decide) (fun _ p => pe_callB call_isi (by rfl) B.isinstance (by decide +kernel) (pa_cons p (pa_cons (pe_bltn (v := .ty "tuple") (by rfl) B.tuple (show bootBuiltins "tuple" = some (.type "tuple") by decide +kernel) rfl) pa_nil))) (q_var 1 (pv 1))))) (qw_or1 (q_tcmp (op_neD hr.units) val_ne (q_fn (fun _ pa => pe_callB call_len (by rfl) B.len PySem.boot_len pa) val_len (qa_cons (q_var 1 (pv 1)) qa_nil)) q_int (nomark _))))) (qb_one (q_ret q_bl)) qb_nil)
    (qb_one (q_ret (q_and (q_cal C__law_is_row hr (by decide) tk (qa_cons (q_ix ix_any val_ix (q_var 0 (pv 0)) q_int (fun _ _ => rfl)) (qa_cons (q_ix ix_any val_ix (q_var 1 (pv 1)) q_int (fun _ _ => rfl)) qa_nil))) (q_one (q_cal C__law_is_row hr (by decide) tk (qa_cons (q_ix ix_any val_ix (q_var 0 (pv 0)) q_int (fun _ _ => rfl)) (qa_cons (q_ix ix_any val_ix (q_var 1 (pv 1)) q_int (fun _ _ => rfl)) qa_nil))))))))
theorem sc_law_shuffled : FnScope ["_law_deck_here", "_law_many", "_law_left", "_law_found"] ["_law_deck_here", "_law_many"] (defScope (topS 34)) := ⟨rfl, rfl, rfl, by decide +kernel, rfl, by decide +kernel, by decide +kernel⟩
theorem ok_law_shuffled {P : Program} {w : World} {K : PySem.W.Frag} {mg : Str → Option Value} {base : Heap} {cls : Nat → Value} {f : Addr} {fd : FuncData} (B : Bt mg) (Fn : Fun K "_law_shuffled" "_law_shuffled" (topS 34) f fd) (C__law_next : Cal P w K mg base cls "_law_next" ["_law_deck_here"] 1 1 0 d_law_next []) :
    FnOk P w K mg base (L2.CX P w) 2 f fd ["_law_deck_here", "_law_many"] (spD K cls 2 2 d_law_shuffled) :=
  def_ok Fn sc_law_shuffled rfl rfl fun cdv A outer s H E hr tk =>
    (qb_cons (q_setN 2 (fun _ p => ps_set (i := 2) sc_law_shuffled.nd rfl (by first | exact Or.inl rfl | exact Or.inr rfl) p) (q_lstRg1 (fun _ p => pe_listRg rfl (by rfl) B.list (prg_1 (by rfl) B.range p)) (q_var 1 (pv 1))))
    (qb_cons (q_setN 3 (fun _ p => ps_set (i := 3) sc_law_shuffled.nd rfl (by first | exact Or.inl rfl | exact Or.inr rfl) p) (q_lst qa_nil))
    (qb_cons (q_while fuel (fun _ _ c b => ps_while (passes_of rfl) c b) (QT.view (q_tcmp (op_neD hr.units) val_ne (q_var 2 (pv 2)) (QN.frz (q_lst qa_nil)) (nomark _))) (qb_one (q_expr (q_lm 3 (fun _ pa => pe_bm PySem.F.plainAttrs_list PySem.F.slot_list_append PySem.F.type_list_append mt_append (pv 3) pa) mut_append (qa_cons (q_lm 2 (fun _ pa => pe_bm PySem.F.plainAttrs_list PySem.F.slot_list_pop PySem.F.type_list_pop mt_popAt (pv 2) pa) mut_popAt (qa_cons (q_bin op_mod val_mod (q_calO C__law_next hr (by decide) tk (qao_here 0 (pv 0) qa_nil)) (QE.view (q_fn (fun _ pa => pe_callB call_len (by rfl) B.len PySem.boot_len pa) val_len (qa_cons (q_var 2 (pv 2)) qa_nil)))) qa_nil)) qa_nil)))))
    (qb_one (q_retO 3 (pv 3))))))
theorem sc_law_renamed : FnScope ["_law_deck_here", "_law_things", "_law_step", "_law_shift", "_law_found", "_law_item", "_law_place"] ["_law_deck_here", "_law_things"] (defScope (topS 35)) := ⟨rfl, rfl, rfl, by decide +kernel, rfl, by decide +kernel, by decide +kernel⟩
theorem ok_law_renamed {P : Program} {w : World} {K : PySem.W.Frag} {mg : Str → Option Value} {base : Heap} {cls : Nat → Value} {f : Addr} {fd : FuncData} (B : Bt mg) (Fn : Fun K "_law_renamed" "_law_renamed" (topS 35) f fd) (C__law_next : Cal P w K mg base cls "_law_next" ["_law_deck_here"] 1 1 0 d_law_next []) (C__law_shuffled : Cal P w K mg base cls "_law_shuffled" ["_law_deck_here", "_law_many"] 2 2 2 d_law_shuffled []) :
    FnOk P w K mg base (L2.CX P w) 3 f fd ["_law_deck_here", "_law_things"] (spD K cls 2 5 d_law_renamed) :=
  def_ok Fn sc_law_renamed rfl rfl fun cdv A outer s H E hr tk =>
    (qb_cons (q_set 2 (fun _ p => ps_set (i := 2) sc_law_renamed.nd rfl (by first | exact Or.inl rfl | exact Or.inr rfl) p) (q_ix ix_any val_ix (QN.frz (q_lst (qa_cons q_int (qa_cons q_int (qa_cons q_int qa_nil))))) (q_bin op_mod val_mod (q_calO C__law_next hr (by decide) tk (qao_here 0 (pv 0) qa_nil)) q_int) (fun _ _ => rfl)))
    (qb_cons (q_set 3 (fun _ p => ps_set (i := 3) sc_law_renamed.nd rfl (by first | exact Or.inl rfl | exact Or.inr rfl) p) (q_bin op_mulA val_mul (q_calO C__law_next hr (by decide) tk (qao_here 0 (pv 0) qa_nil)) (q_ix ix_any val_ix (QN.frz (q_lst (qa_cons q_int (qa_cons q_int (qa_cons q_int qa_nil))))) (q_bin op_mod val_mod (q_calO C__law_next hr (by decide) tk (qao_here 0 (pv 0) qa_nil)) q_int) (fun _ _ => rfl))))
    (qb_cons (q_setN 4 (fun _ p => ps_set (i := 4) sc_law_renamed.nd rfl (by first | exact Or.inl rfl | exact Or.inr rfl) p) (q_lst qa_nil))
    (qb_cons (q_for (qi_zip (fun _ pa => pi_zipK (by rfl) B.zip pa) (qa_cons (q_var 1 (pv 1)) (qa_cons (QN.frz (q_calON C__law_shuffled hr (by decide) tk (qao_here 0 (pv 0) (qa_cons (q_fn (fun _ pa => pe_callB call_len (by rfl) B.len PySem.boot_len pa) val_len (qa_cons (q_var 1 (pv 1)) qa_nil)) qa_nil)))) qa_nil))) (qg_tup (qgs_cons (qg_name 5 (pg_name (i := 5) sc_law_renamed.nd rfl (by first | exact Or.inl rfl | exact Or.inr rfl))) (qgs_cons (qg_name 6 (pg_name (i := 6) sc_law_renamed.nd rfl (by first | exact Or.inl rfl | exact Or.inr rfl))) qgs_nil)) rfl) (qb_one (q_expr (q_lm 4 (fun _ pa => pe_bm PySem.F.plainAttrs_list PySem.F.slot_list_append PySem.F.type_list_append mt_append (pv 4) pa) mut_append (qa_cons (q_tup (qa_cons (q_ix ix_any val_ix (q_var 5 (pv 5)) q_int (fun _ _ => rfl)) (qa_cons (q_bin op_addA val_add (q_var 3 (pv 3)) (q_bin op_mulA val_mul (q_var 2 (pv 2)) (q_var 6 (pv 6)))) qa_nil))) qa_nil)))) (fun _ _ _ i t b => ps_for (passes_of rfl) rfl i t b))
    (qb_one (q_ret (QE.view (q_fn (fun _ pa => pe_callTy call_tupleL (by rfl) B.tuple (by decide +kernel) pa) val_tuple (qa_cons (q_var 4 (pv 4)) qa_nil)))))))))
theorem sc_law_naming : FnScope ["_law_deck_here", "_law_net_here"] ["_law_deck_here", "_law_net_here"] (defScope (topS 36)) := ⟨rfl, rfl, rfl, by decide +kernel, rfl, by decide +kernel, by decide +kernel⟩
theorem ok_law_naming {P : Program} {w : World} {K : PySem.W.Frag} {mg : Str → Option Value} {base : Heap} {cls : Nat → Value} {f : Addr} {fd : FuncData} (B : Bt mg) (Fn : Fun K "_law_naming" "_law_naming" (topS 36) f fd) (C__law_renamed : Cal P w K mg base cls "_law_renamed" ["_law_deck_here", "_law_things"] 3 2 5 d_law_renamed []) :
    FnOk P w K mg base (L2.CX P w) 4 f fd ["_law_deck_here", "_law_net_here"] (spD K cls 2 0 d_law_naming) :=
  def_ok Fn sc_law_naming rfl rfl fun cdv A outer s H E hr tk =>
    (qb_one (q_ret (q_tup (qa_cons (q_calO C__law_renamed hr (by decide) tk (qao_here 0 (pv 0) (qa_cons (q_ix ix_any val_ix (q_var 1 (pv 1)) q_int (fun _ _ => rfl)) qa_nil))) (qa_cons (q_calO C__law_renamed hr (by decide) tk (qao_here 0 (pv 0) (qa_cons (q_ix ix_any val_ix (q_var 1 (pv 1)) q_int (fun _ _ => rfl)) qa_nil))) qa_nil)))))
theorem sc_law_names : FnScope ["_law_deck_here", "_law_many", "_law_far", "_law_found", "_law_last", "_law_k"] ["_law_deck_here", "_law_many", "_law_far"] (defScope (topS 32)) := ⟨rfl, rfl, rfl, by decide +kernel, rfl, by decide +kernel, by decide +kernel⟩
theorem ok_law_names {P : Program} {w : World} {K : PySem.W.Frag} {mg : Str → Option Value} {base : Heap} {cls : Nat → Value} {f : Addr} {fd : FuncData} (B : Bt mg) (Fn : Fun K "_law_names" "_law_names" (topS 32) f fd) (C__law_next : Cal P w K mg base cls "_law_next" ["_law_deck_here"] 1 1 0 d_law_next []) :
    FnOk P w K mg base (L2.CX P w) 2 f fd ["_law_deck_here", "_law_many", "_law_far"] (spD K cls 3 3 d_law_names) :=
  def_ok Fn sc_law_names rfl rfl fun cdv A outer s H E hr tk =>
    (qb_cons (q_setN 3 (fun _ p => ps_set (i := 3) sc_law_names.nd rfl (by first | exact Or.inl rfl | exact Or.inr rfl) p) (q_lst qa_nil))
    (qb_cons (q_set 4 (fun _ p => ps_set (i := 4) sc_law_names.nd rfl (by first | exact Or.inl rfl | exact Or.inr rfl) p) (q_un un_neg val_neg q_int))
    (qb_cons (q_for (qi_range1 (fun _ pa => pi_range1 (by rfl) B.range pa) (qa_cons (q_var 1 (pv 1)) qa_nil)) (qg_name 5 (pg_name (i := 5) sc_law_names.nd rfl (by first | exact Or.inl rfl | exact Or.inr rfl))) (qb_cons (q_set 4 (fun _ p => ps_set (i := 4) sc_law_names.nd rfl (by first | exact Or.inl rfl | exact Or.inr rfl) p) (q_bin op_addA val_add (q_bin op_addA val_add (q_var 4 (pv 4)) q_int) (q_bin op_mulA val_mul (q_bin op_mod val_mod (q_calO C__law_next hr (by decide) tk (qao_here 0 (pv 0) qa_nil)) q_int) (q_var 2 (pv 2)))))
    (qb_one (q_expr (q_lm 3 (fun _ pa => pe_bm PySem.F.plainAttrs_list PySem.F.slot_list_append PySem.F.type_list_append mt_append (pv 3) pa) mut_append (qa_cons (q_var 4 (pv 4)) qa_nil))))) (fun _ _ _ i t b => ps_for (passes_of rfl) rfl i t b))
    (qb_one (q_retO 3 (pv 3))))))
theorem sc_law_net : FnScope ["_law_deck_here", "_law_most_points", "_law_most_ties", "_law_far", "_law_cell", "_law_many", "_law_points", "_law_name", "_law_ties"] ["_law_deck_here", "_law_most_points", "_law_most_ties", "_law_far"] (defScope (topS 33)) := ⟨rfl, rfl, rfl, by decide +kernel, rfl, by decide +kernel, by decide +kernel⟩
theorem ok_law_net {P : Program} {w : World} {K : PySem.W.Frag} {mg : Str → Option Value} {base : Heap} {cls : Nat → Value} {f : Addr} {fd : FuncData} (B : Bt mg) (Fn : Fun K "_law_net" "_law_net" (topS 33) f fd) (C__law_names : Cal P w K mg base cls "_law_names" ["_law_deck_here", "_law_many", "_law_far"] 2 3 3 d_law_names []) (C__law_next : Cal P w K mg base cls "_law_next" ["_law_deck_here"] 1 1 0 d_law_next []) :
    FnOk P w K mg base (L2.CX P w) 3 f fd ["_law_deck_here", "_law_most_points", "_law_most_ties", "_law_far"] (spD K cls 4 5 d_law_net) :=
  def_ok Fn sc_law_net rfl rfl fun cdv A outer s H E hr tk =>
    (qb_cons (q_set 4 (fun _ p => ps_set (i := 4) sc_law_net.nd rfl (by first | exact Or.inl rfl | exact Or.inr rfl) p) (q_calO C__law_next hr (by decide) tk (qao_here 0 (pv 0) qa_nil)))
    (qb_cons (q_set 5 (fun _ p => ps_set (i := 5) sc_law_net.nd rfl (by first | exact Or.inl rfl | exact Or.inr rfl) p) (q_bin op_addA val_add q_int (q_bin op_mod val_mod (q_var 4 (pv 4)) (q_var 1 (pv 1)))))
    (qb_cons (q_setN 6 (fun _ p => ps_set (i := 6) sc_law_net.nd rfl (by first | exact Or.inl rfl | exact Or.inr rfl) p) (q_lst qa_nil))
    (qb_cons (q_for (qi_seq (QN.frz (q_calON C__law_names hr (by decide) tk (qao_here 0 (pv 0) (qa_cons (q_var 5 (pv 5)) (qa_cons (q_var 3 (pv 3)) qa_nil)))))) (qg_name 7 (pg_name (i := 7) sc_law_net.nd rfl (by first | exact Or.inl rfl | exact Or.inr rfl))) (qb_one (q_expr (q_lm 6 (fun _ pa => pe_bm PySem.F.plainAttrs_list PySem.F.slot_list_append PySem.F.type_list_append mt_append (pv 6) pa) mut_append (qa_cons (q_tup (qa_cons (q_var 7 (pv 7)) (qa_cons (q_ix ix_any val_ix q_str (q_bin op_mod val_mod (q_calO C__law_next hr (by decide) tk (qao_here 0 (pv 0) qa_nil)) q_int) (fun _ _ => rfl)) qa_nil))) qa_nil)))) (fun _ _ _ i t b => ps_for (passes_of rfl) rfl i t b))
    (qb_cons (q_setN 8 (fun _ p => ps_set (i := 8) sc_law_net.nd rfl (by first | exact Or.inl rfl | exact Or.inr rfl) p) (q_lst qa_nil))
    (qb_cons (q_for (qi_seq (QN.frz (q_calON C__law_names hr (by decide) tk (qao_here 0 (pv 0) (qa_cons (q_bin op_mod val_mod (q_calO C__law_next hr (by decide) tk (qao_here 0 (pv 0) qa_nil)) (q_bin op_addA val_add (q_var 2 (pv 2)) q_int)) (qa_cons (q_var 3 (pv 3)) qa_nil)))))) (qg_name 7 (pg_name (i := 7) sc_law_net.nd rfl (by first | exact Or.inl rfl | exact Or.inr rfl))) (qb_cons (q_set 4 (fun _ p => ps_set (i := 4) sc_law_net.nd rfl (by first | exact Or.inl rfl | exact Or.inr rfl) p) (q_calO C__law_next hr (by decide) tk (qao_here 0 (pv 0) qa_nil)))
    (qb_one (q_expr (q_lm 8 (fun _ pa => pe_bm PySem.F.plainAttrs_list PySem.F.slot_list_append PySem.F.type_list_append mt_append (pv 8) pa) mut_append (qa_cons (q_tup (qa_cons (q_var 7 (pv 7)) (qa_cons (q_ix ix_any val_ix q_str (q_bin op_mod val_mod (q_var 4 (pv 4)) q_int) (fun _ _ => rfl)) (qa_cons (q_ix ix_any val_ix (QE.view (q_ix ix_any val_ix (q_var 6 (pv 6)) (q_bin op_mod val_mod (q_bin op_fdiv val_fdiv (q_var 4 (pv 4)) q_int) (q_var 5 (pv 5))) (fun _ _ => rfl))) q_int (fun _ _ => rfl)) (qa_cons (q_ix ix_any val_ix (QE.view (q_ix ix_any val_ix (q_var 6 (pv 6)) (q_bin op_mod val_mod (q_bin op_fdiv val_fdiv (q_var 4 (pv 4)) q_int) (q_var 5 (pv 5))) (fun _ _ => rfl))) q_int (fun _ _ => rfl)) qa_nil))))) qa_nil))))) (fun _ _ _ i t b => ps_for (passes_of rfl) rfl i t b))
    (qb_one (q_ret (q_tup (qa_cons (QE.view (q_fn (fun _ pa => pe_callTy call_tupleL (by rfl) B.tuple (by decide +kernel) pa) val_tuple (qa_cons (q_var 6 (pv 6)) qa_nil))) (qa_cons (QE.view (q_fn (fun _ pa => pe_callTy call_tupleL (by rfl) B.tuple (by decide +kernel) pa) val_tuple (qa_cons (q_var 8 (pv 8)) qa_nil))) qa_nil)))))))))))
theorem sc_law_says : FnScope ["_law_answer", "_law_due"] ["_law_answer", "_law_due"] (defScope (topS 44)) := ⟨rfl, rfl, rfl, by decide +kernel, rfl, by decide +kernel, by decide +kernel⟩
theorem ok_law_says {P : Program} {w : World} {K : PySem.W.Frag} {mg : Str → Option Value} {base : Heap} {cls : Nat → Value} {f : Addr} {fd : FuncData} (B : Bt mg) (Fn : Fun K "_law_says" "_law_says" (topS 44) f fd)  :
    FnOk P w K mg base (L2.CX P w) 1 f fd ["_law_answer", "_law_due"] (spD K cls 2 0 d_law_says) :=
  def_ok Fn sc_law_says rfl rfl fun cdv A outer s H E hr tk =>
    (qb_one (q_ret (q_and (q_isi "bool" (by decide) (fun _ p => pe_callB call_isi (by rfl) B.isinstance (by decide +kernel) (pa_cons p (pa_cons (pe_bltn (v := .ty "bool") (by rfl) B.bool (show bootBuiltins "bool" = some (.type "bool") by decide +kernel) rfl) pa_nil))) (q_var 0 (pv 0))) (q_one (q_cmp (op_eqD hr.units) val_eq (q_var 0 (pv 0)) (q_var 1 (pv 1)) (nomark _))))))
theorem sc_law_turned : FnScope ["_law_net_here", "_law_naming_here", "_law_names_here", "_law_later", "_law_ties", "_law_name", "_law_kind", "_law_begin", "_law_end"] ["_law_net_here", "_law_naming_here"] (defScope (topS 37)) := ⟨rfl, rfl, rfl, by decide +kernel, rfl, by decide +kernel, by decide +kernel⟩
theorem ok_law_turned {P : Program} {w : World} {K : PySem.W.Frag} {mg : Str → Option Value} {base : Heap} {cls : Nat → Value} {f : Addr} {fd : FuncData} (B : Bt mg) (Fn : Fun K "_law_turned" "_law_turned" (topS 37) f fd)  :
    FnOk P w K mg base (L2.CX P w) 1 f fd ["_law_net_here", "_law_naming_here"] (spD K cls 2 7 d_law_turned) :=
  def_ok Fn sc_law_turned rfl rfl fun cdv A outer s H E hr tk =>
    (qb_cons (q_set 2 (fun _ p => ps_set (i := 2) sc_law_turned.nd rfl (by first | exact Or.inl rfl | exact Or.inr rfl) p) (QN.frz (q_fnN (fun _ pa => pe_callTy (call_dictAny rfl) (by rfl) B.dict (by decide +kernel) pa) new_dict (qa_cons (q_ix ix_any val_ix (q_var 1 (pv 1)) q_int (fun _ _ => rfl)) qa_nil))))
    (qb_cons (q_set 3 (fun _ p => ps_set (i := 3) sc_law_turned.nd rfl (by first | exact Or.inl rfl | exact Or.inr rfl) p) (QN.frz (q_fnN (fun _ pa => pe_callTy (call_dictAny rfl) (by rfl) B.dict (by decide +kernel) pa) new_dict (qa_cons (q_ix ix_any val_ix (q_var 1 (pv 1)) q_int (fun _ _ => rfl)) qa_nil))))
    (qb_cons (q_setN 4 (fun _ p => ps_set (i := 4) sc_law_turned.nd rfl (by first | exact Or.inl rfl | exact Or.inr rfl) p) (q_lst qa_nil))
    (qb_cons (q_for (qi_seq (q_ix ix_any val_ix (q_var 0 (pv 0)) q_int (fun _ _ => rfl))) (qg_tup (qgs_cons (qg_name 5 (pg_name (i := 5) sc_law_turned.nd rfl (by first | exact Or.inl rfl | exact Or.inr rfl))) (qgs_cons (qg_name 6 (pg_name (i := 6) sc_law_turned.nd rfl (by first | exact Or.inl rfl | exact Or.inr rfl))) (qgs_cons (qg_name 7 (pg_name (i := 7) sc_law_turned.nd rfl (by first | exact Or.inl rfl | exact Or.inr rfl))) (qgs_cons (qg_name 8 (pg_name (i := 8) sc_law_turned.nd rfl (by first | exact Or.inl rfl | exact Or.inr rfl))) qgs_nil)))) rfl) (qb_one (q_expr (q_lm 4 (fun _ pa => pe_bm PySem.F.plainAttrs_list PySem.F.slot_list_append PySem.F.type_list_append mt_append (pv 4) pa) mut_append (qa_cons (q_tup (qa_cons (q_dget (fun _ _ p k => pe_dget (hu_of hr) p k fun _ _ => rfl) (q_var 3 (pv 3)) (q_var 5 (pv 5))) (qa_cons (q_var 6 (pv 6)) (qa_cons (q_dget (fun _ _ p k => pe_dget (hu_of hr) p k fun _ _ => rfl) (q_var 2 (pv 2)) (q_var 7 (pv 7))) (qa_cons (q_dget (fun _ _ p k => pe_dget (hu_of hr) p k fun _ _ => rfl) (q_var 2 (pv 2)) (q_var 8 (pv 8))) qa_nil))))) qa_nil)))) (fun _ _ _ i t b => ps_for (passes_of rfl) rfl i t b))
    (qb_one (q_ret (q_tup (qa_cons (q_fn (fun _ pa => pe_callTy call_tupleL (by rfl) B.tuple (by decide +kernel) pa) val_tuple (qa_cons (QN.frz (q_fnN (fun _ pa => pe_callB (cr_sortedD (hu65 hr)) (by rfl) B.sorted (by decide +kernel) pa) new_sorted (qa_cons (QN.frz (q_comp (by rfl) sc_law_turned.nd (qi_seq (q_ix ix_any val_ix (q_var 0 (pv 0)) q_int (fun _ _ => rfl))) (blkOk_by (own := [("_law_name", 5), ("_law_kind", 6)]) (N := ["_law_net_here", "_law_naming_here", "_law_names_here", "_law_later", "_law_ties", "_law_name", "_law_kind", "_law_begin", "_law_end"]) (sc := (defScope (topS 37))) (by decide +kernel)) (fun _ _ _ _ _ => (qg_tup (qgs_cons (qg_name 5 (pg_name (i := 5) sc_law_turned.nd rfl (by first | exact Or.inl rfl | exact Or.inr rfl))) (qgs_cons (qg_name 6 (pg_name (i := 6) sc_law_turned.nd rfl (by first | exact Or.inl rfl | exact Or.inr rfl))) qgs_nil)) rfl)) (fun _ _ _ _ _ => qts_nil) (fun _ _ _ _ _ => (q_tup (qa_cons (q_dget (fun _ _ p k => pe_dget (hu_of hr) p k fun _ _ => rfl) (q_var 2 (pv 2)) (q_var 5 (pv 5))) (qa_cons (q_var 6 (pv 6)) qa_nil)))) (gok_tup (gok_cons gok_name (gok_cons gok_name gok_nil))) rfl (by decide))) qa_nil))) qa_nil)) (qa_cons (q_fn (fun _ pa => pe_callTy call_tupleL (by rfl) B.tuple (by decide +kernel) pa) val_tuple (qa_cons (QN.frz (QN.view (q_fnN (fun _ pa => pe_callB (cr_sortedD (hu65 hr)) (by rfl) B.sorted (by decide +kernel) pa) new_sorted (qa_cons (q_var 4 (pv 4)) qa_nil)))) qa_nil)) qa_nil)))))))))
theorem sc_are_rising : FnScope ["row", "at"] ["row"] (defScope (topS 11)) := ⟨rfl, rfl, rfl, by decide +kernel, rfl, by decide +kernel, by decide +kernel⟩
theorem ok_are_rising {P : Program} {w : World} {K : PySem.W.Frag} {mg : Str → Option Value} {base : Heap} {cls : Nat → Value} {f : Addr} {fd : FuncData} (B : Bt mg) (Fn : Fun K "are_rising" "are_rising" (topS 11) f fd)  :
    FnOk P w K mg base (L2.CX P w) 1 f fd ["row"] (spD K cls 1 1 d_are_rising) :=
  def_ok Fn sc_are_rising rfl rfl fun cdv A outer s H E hr tk =>
    (qb_cons (q_for (qi_range2 (fun _ pa => pi_range2 (by rfl) B.range pa) (qa_cons q_int (qa_cons (q_fn (fun _ pa => pe_callB call_len (by rfl) B.len PySem.boot_len pa) val_len (qa_cons (q_var 0 (pv 0)) qa_nil)) qa_nil))) (qg_name 1 (pg_name (i := 1) sc_are_rising.nd rfl (by first | exact Or.inl rfl | exact Or.inr rfl))) (qb_one (q_if (q_tcmp (op_leA hr.units0) val_le (q_ix ix_any val_ix (q_var 0 (pv 0)) (q_var 1 (pv 1)) (fun _ _ => rfl)) (q_ix ix_any val_ix (q_var 0 (pv 0)) (q_bin op_sub val_sub (q_var 1 (pv 1)) q_int) (fun _ _ => rfl)) (nomark _)) (qb_one (q_ret q_bl)) qb_nil)) (fun _ _ _ i t b => ps_for (passes_of rfl) rfl i t b))
    (qb_one (q_ret q_bl)))
theorem sc_is_kind : FnScope ["thing", "sign"] ["thing"] (defScope (topS 8)) := ⟨rfl, rfl, rfl, by decide +kernel, rfl, by decide +kernel, by decide +kernel⟩
theorem ok_is_kind {P : Program} {w : World} {K : PySem.W.Frag} {mg : Str → Option Value} {base : Heap} {cls : Nat → Value} {f : Addr} {fd : FuncData} (B : Bt mg) (Fn : Fun K "is_kind" "is_kind" (topS 8) f fd) (c_MOST_LETTERS : Cst mg "MOST_LETTERS" (.int 8)) :
    FnOk P w K mg base (L2.CX P w) 1 f fd ["thing"] (spD K cls 1 1 d_is_kind) :=
  def_ok Fn sc_is_kind rfl rfl fun cdv A outer s H E hr tk =>
    (qb_cons (q_if (QW.qt (qw_or (q_tnot (q_tval (q_isi "str" (by decide) (fun _ p => pe_callB call_isi (by rfl) B.isinstance (by decide +kernel) (pa_cons p (pa_cons (pe_bltn (v := .ty "str") (by rfl) B.str (show bootBuiltins "str" = some (.type "str") by decide +kernel) rfl) pa_nil))) (q_var 0 (pv 0))))) (qw_or (q_tcmp op_lt val_lt (q_fn (fun _ pa => pe_callB call_len (by rfl) B.len PySem.boot_len pa) val_len (qa_cons (q_var 0 (pv 0)) qa_nil)) q_int (nomark _)) (qw_or1 (q_tcmp op_gt val_gt (q_fn (fun _ pa => pe_callB call_len (by rfl) B.len PySem.boot_len pa) val_len (qa_cons (q_var 0 (pv 0)) qa_nil)) (q_cst c_MOST_LETTERS fun _ => .int _) (nomark _)))))) (qb_one (q_ret q_bl)) qb_nil)
    (qb_cons (q_for (qi_str (q_var 0 (pv 0))) (qg_name 1 (pg_name (i := 1) sc_is_kind.nd rfl (by first | exact Or.inl rfl | exact Or.inr rfl))) (qb_one (q_if (q_tcmp (op_notInQ (hu65 hr)) (val_in true) (q_var 1 (pv 1)) q_str rfl) (qb_one (q_ret q_bl)) qb_nil)) (fun _ _ _ i t b => ps_for (passes_of rfl) rfl i t b))
    (qb_one (q_ret q_bl))))
theorem sc_is_int : FnScope ["thing"] ["thing"] (defScope (topS 6)) := ⟨rfl, rfl, rfl, by decide +kernel, rfl, by decide +kernel, by decide +kernel⟩
theorem ok_is_int {P : Program} {w : World} {K : PySem.W.Frag} {mg : Str → Option Value} {base : Heap} {cls : Nat → Value} {f : Addr} {fd : FuncData} (B : Bt mg) (Fn : Fun K "is_int" "is_int" (topS 6) f fd)  :
    FnOk P w K mg base (L2.CX P w) 1 f fd ["thing"] (spD K cls 1 0 d_is_int) :=
  def_ok Fn sc_is_int rfl rfl fun cdv A outer s H E hr tk =>
    (qb_one (q_ret (q_and (q_isi "int" (by decide) (fun _ p => pe_callB call_isi (by rfl) B.isinstance (by decide +kernel) (pa_cons p (pa_cons (pe_bltn (v := .ty "int") (by rfl) B.int (show bootBuiltins "int" = some (.type "int") by decide +kernel) rfl) pa_nil))) (q_var 0 (pv 0))) (q_one (q_not (q_isi "bool" (by decide) (fun _ p => pe_callB call_isi (by rfl) B.isinstance (by decide +kernel) (pa_cons p (pa_cons (pe_bltn (v := .ty "bool") (by rfl) B.bool (show bootBuiltins "bool" = some (.type "bool") by decide +kernel) rfl) pa_nil))) (q_var 0 (pv 0))))))))
theorem sc_is_name : FnScope ["thing"] ["thing"] (defScope (topS 7)) := ⟨rfl, rfl, rfl, by decide +kernel, rfl, by decide +kernel, by decide +kernel⟩
theorem ok_is_name {P : Program} {w : World} {K : PySem.W.Frag} {mg : Str → Option Value} {base : Heap} {cls : Nat → Value} {f : Addr} {fd : FuncData} (B : Bt mg) (Fn : Fun K "is_name" "is_name" (topS 7) f fd) (C_is_int : Cal P w K mg base cls "is_int" ["thing"] 1 1 0 d_is_int []) (c_MOST_NAME : Cst mg "MOST_NAME" (.int 1000000)) :
    FnOk P w K mg base (L2.CX P w) 2 f fd ["thing"] (spD K cls 1 0 d_is_name) :=
  def_ok Fn sc_is_name rfl rfl fun cdv A outer s H E hr tk =>
    (qb_one (q_ret (q_and (q_cal C_is_int hr (by decide) tk (qa_cons (q_var 0 (pv 0)) qa_nil)) (q_one (q_chain (op_leA hr.units0) (op_leA hr.units0) val_le val_le q_int (q_var 0 (pv 0)) (q_cst c_MOST_NAME fun _ => .int _))))))
theorem sc_is_tuple : FnScope ["thing", "many"] ["thing", "many"] (defScope (topS 9)) := ⟨rfl, rfl, rfl, by decide +kernel, rfl, by decide +kernel, by decide +kernel⟩
theorem ok_is_tuple {P : Program} {w : World} {K : PySem.W.Frag} {mg : Str → Option Value} {base : Heap} {cls : Nat → Value} {f : Addr} {fd : FuncData} (B : Bt mg) (Fn : Fun K "is_tuple" "is_tuple" (topS 9) f fd)  :
    FnOk P w K mg base (L2.CX P w) 1 f fd ["thing", "many"] (spD K cls 2 0 d_is_tuple) :=
  def_ok Fn sc_is_tuple rfl rfl fun cdv A outer s H E hr tk =>
    (qb_one (q_ret (q_and (q_isi "tuple" (by decide) (fun _ p => pe_callB call_isi (by rfl) B.isinstance (by decide +kernel) (pa_cons p (pa_cons (pe_bltn (v := .ty "tuple") (by rfl) B.tuple (show bootBuiltins "tuple" = some (.type "tuple") by decide +kernel) rfl) pa_nil))) (q_var 0 (pv 0))) (q_one (q_cmp (op_eqD hr.units) val_eq (q_fn (fun _ pa => pe_callB call_len (by rfl) B.len PySem.boot_len pa) val_len (qa_cons (q_var 0 (pv 0)) qa_nil)) (q_var 1 (pv 1)) (nomark _))))))
theorem sc_are_points : FnScope ["thing", "part"] ["thing"] (defScope (topS 15)) := ⟨rfl, rfl, rfl, by decide +kernel, rfl, by decide +kernel, by decide +kernel⟩
theorem ok_are_points {P : Program} {w : World} {K : PySem.W.Frag} {mg : Str → Option Value} {base : Heap} {cls : Nat → Value} {f : Addr} {fd : FuncData} (B : Bt mg) (Fn : Fun K "are_points" "are_points" (topS 15) f fd) (C_are_rising : Cal P w K mg base cls "are_rising" ["row"] 1 1 1 d_are_rising []) (C_is_kind : Cal P w K mg base cls "is_kind" ["thing"] 1 1 1 d_is_kind []) (C_is_name : Cal P w K mg base cls "is_name" ["thing"] 2 1 0 d_is_name []) (C_is_tuple : Cal P w K mg base cls "is_tuple" ["thing", "many"] 1 2 0 d_is_tuple []) (c_MOST_POINTS : Cst mg "MOST_POINTS" (.int 400)) :
    FnOk P w K mg base (L2.CX P w) 3 f fd ["thing"] (spD K cls 1 1 d_are_points) :=
  def_ok Fn sc_are_points rfl rfl fun cdv A outer s H E hr tk =>
    (qb_cons (q_if (QW.qt (qw_or (q_tnot (q_tval (q_isi "tuple" (by decide) (fun _ p => pe_callB call_isi (by rfl) B.isinstance (by decide +kernel) (pa_cons p (pa_cons (pe_bltn (v := .ty "tuple") (by rfl) B.tuple (show bootBuiltins "tuple" = some (.type "tuple") by decide +kernel) rfl) pa_nil))) (q_var 0 (pv 0))))) (qw_or1 (q_tcmp op_gt val_gt (q_fn (fun _ pa => pe_callB call_len (by rfl) B.len PySem.boot_len pa) val_len (qa_cons (q_var 0 (pv 0)) qa_nil)) (q_cst c_MOST_POINTS fun _ => .int _) (nomark _))))) (qb_one (q_ret q_bl)) qb_nil)
    (qb_cons (q_for (qi_seq (q_var 0 (pv 0))) (qg_name 1 (pg_name (i := 1) sc_are_points.nd rfl (by first | exact Or.inl rfl | exact Or.inr rfl))) (qb_one (q_if (QW.qt (qw_or (q_tnot (q_tval (q_cal C_is_tuple hr (by decide) tk (qa_cons (q_var 1 (pv 1)) (qa_cons q_int qa_nil))))) (qw_or (q_tnot (q_tval (q_cal C_is_name hr (by decide) tk (qa_cons (q_ix ix_any val_ix (q_var 1 (pv 1)) q_int (fun _ _ => rfl)) qa_nil)))) (qw_or1 (q_tnot (q_tval (q_cal C_is_kind hr (by decide) tk (qa_cons (q_ix ix_any val_ix (q_var 1 (pv 1)) q_int (fun _ _ => rfl)) qa_nil)))))))) (qb_one (q_ret q_bl)) qb_nil)) (fun _ _ _ i t b => ps_for (passes_of rfl) rfl i t b))
    (qb_one (q_ret (q_cal C_are_rising hr (by decide) tk (qa_cons (QN.frz (q_comp (by rfl) sc_are_points.nd (qi_seq (q_var 0 (pv 0))) (blkOk_by (own := [("part", 1)]) (N := ["thing", "part"]) (sc := (defScope (topS 15))) (by decide +kernel)) (fun _ _ _ _ _ => (qg_name 1 (pg_name (i := 1) sc_are_points.nd rfl (by first | exact Or.inl rfl | exact Or.inr rfl)))) (fun _ _ _ _ _ => qts_nil) (fun _ _ _ _ _ => (q_ix ix_any val_ix (q_var 1 (pv 1)) q_int (fun _ _ => rfl))) gok_name rfl (by decide))) qa_nil))))))
theorem sc_are_ties : FnScope ["thing", "points", "part"] ["thing", "points"] (defScope (topS 16)) := ⟨rfl, rfl, rfl, by decide +kernel, rfl, by decide +kernel, by decide +kernel⟩
theorem ok_are_ties {P : Program} {w : World} {K : PySem.W.Frag} {mg : Str → Option Value} {base : Heap} {cls : Nat → Value} {f : Addr} {fd : FuncData} (B : Bt mg) (Fn : Fun K "are_ties" "are_ties" (topS 16) f fd) (C_are_rising : Cal P w K mg base cls "are_rising" ["row"] 1 1 1 d_are_rising []) (C_is_kind : Cal P w K mg base cls "is_kind" ["thing"] 1 1 1 d_is_kind []) (C_is_name : Cal P w K mg base cls "is_name" ["thing"] 2 1 0 d_is_name []) (C_is_tuple : Cal P w K mg base cls "is_tuple" ["thing", "many"] 1 2 0 d_is_tuple []) (c_MOST_TIES : Cst mg "MOST_TIES" (.int 600)) :
    FnOk P w K mg base (L2.CX P w) 3 f fd ["thing", "points"] (spD K cls 2 1 d_are_ties) :=
  def_ok Fn sc_are_ties rfl rfl fun cdv A outer s H E hr tk =>
    (qb_cons (q_if (QW.qt (qw_or (q_tnot (q_tval (q_isi "tuple" (by decide) (fun _ p => pe_callB call_isi (by rfl) B.isinstance (by decide +kernel) (pa_cons p (pa_cons (pe_bltn (v := .ty "tuple") (by rfl) B.tuple (show bootBuiltins "tuple" = some (.type "tuple") by decide +kernel) rfl) pa_nil))) (q_var 0 (pv 0))))) (qw_or1 (q_tcmp op_gt val_gt (q_fn (fun _ pa => pe_callB call_len (by rfl) B.len PySem.boot_len pa) val_len (qa_cons (q_var 0 (pv 0)) qa_nil)) (q_cst c_MOST_TIES fun _ => .int _) (nomark _))))) (qb_one (q_ret q_bl)) qb_nil)
    (qb_cons (q_for (qi_seq (q_var 0 (pv 0))) (qg_name 2 (pg_name (i := 2) sc_are_ties.nd rfl (by first | exact Or.inl rfl | exact Or.inr rfl))) (qb_cons (q_if (QW.qt (qw_or (q_tnot (q_tval (q_cal C_is_tuple hr (by decide) tk (qa_cons (q_var 2 (pv 2)) (qa_cons q_int qa_nil))))) (qw_or (q_tnot (q_tval (q_cal C_is_name hr (by decide) tk (qa_cons (q_ix ix_any val_ix (q_var 2 (pv 2)) q_int (fun _ _ => rfl)) qa_nil)))) (qw_or1 (q_tnot (q_tval (q_cal C_is_kind hr (by decide) tk (qa_cons (q_ix ix_any val_ix (q_var 2 (pv 2)) q_int (fun _ _ => rfl)) qa_nil)))))))) (qb_one (q_ret q_bl)) qb_nil)
    (qb_one (q_if (QW.qt (qw_or (q_tnot (q_tval (q_cal C_is_name hr (by decide) tk (qa_cons (q_ix ix_any val_ix (q_var 2 (pv 2)) q_int (fun _ _ => rfl)) qa_nil)))) (qw_or (q_tnot (q_tval (q_cal C_is_name hr (by decide) tk (qa_cons (q_ix ix_any val_ix (q_var 2 (pv 2)) q_int (fun _ _ => rfl)) qa_nil)))) (qw_or (q_tninD (hu_of hr) (q_ix ix_any val_ix (q_var 2 (pv 2)) q_int (fun _ _ => rfl)) (q_var 1 (pv 1))) (qw_or1 (q_tninD (hu_of hr) (q_ix ix_any val_ix (q_var 2 (pv 2)) q_int (fun _ _ => rfl)) (q_var 1 (pv 1)))))))) (qb_one (q_ret q_bl)) qb_nil))) (fun _ _ _ i t b => ps_for (passes_of rfl) rfl i t b))
    (qb_one (q_ret (q_cal C_are_rising hr (by decide) tk (qa_cons (QN.frz (q_comp (by rfl) sc_are_ties.nd (qi_seq (q_var 0 (pv 0))) (blkOk_by (own := [("part", 2)]) (N := ["thing", "points", "part"]) (sc := (defScope (topS 16))) (by decide +kernel)) (fun _ _ _ _ _ => (qg_name 2 (pg_name (i := 2) sc_are_ties.nd rfl (by first | exact Or.inl rfl | exact Or.inr rfl)))) (fun _ _ _ _ _ => qts_nil) (fun _ _ _ _ _ => (q_ix ix_any val_ix (q_var 2 (pv 2)) q_int (fun _ _ => rfl))) gok_name rfl (by decide))) qa_nil))))))
theorem sc_points_of : FnScope ["net", "found", "name", "kind"] ["net"] (defScope (topS 19)) := ⟨rfl, rfl, rfl, by decide +kernel, rfl, by decide +kernel, by decide +kernel⟩
theorem ok_points_of {P : Program} {w : World} {K : PySem.W.Frag} {mg : Str → Option Value} {base : Heap} {cls : Nat → Value} {f : Addr} {fd : FuncData} (B : Bt mg) (Fn : Fun K "points_of" "points_of" (topS 19) f fd)  :
    FnOk P w K mg base (L2.CX P w) 1 f fd ["net"] (spD K cls 1 3 d_points_of) :=
  def_ok Fn sc_points_of rfl rfl fun cdv A outer s H E hr tk =>
    (qb_cons (q_setN 1 (fun _ p => ps_set (i := 1) sc_points_of.nd rfl (by first | exact Or.inl rfl | exact Or.inr rfl) p) q_dict0)
    (qb_cons (q_for (qi_seq (q_ix ix_any val_ix (q_var 0 (pv 0)) q_int (fun _ _ => rfl))) (qg_tup (qgs_cons (qg_name 2 (pg_name (i := 2) sc_points_of.nd rfl (by first | exact Or.inl rfl | exact Or.inr rfl))) (qgs_cons (qg_name 3 (pg_name (i := 3) sc_points_of.nd rfl (by first | exact Or.inl rfl | exact Or.inr rfl))) qgs_nil)) rfl) (qb_one (q_setD 1 (fun _ _ p q => ps_dput (hu_of hr) (pv 1) q p rfl) (q_var 3 (pv 3)) (q_var 2 (pv 2)))) (fun _ _ _ i t b => ps_for (passes_of rfl) rfl i t b))
    (qb_one (q_retO 1 (pv 1)))))
theorem sc_is_net : FnScope ["thing"] ["thing"] (defScope (topS 17)) := ⟨rfl, rfl, rfl, by decide +kernel, rfl, by decide +kernel, by decide +kernel⟩
theorem ok_is_net {P : Program} {w : World} {K : PySem.W.Frag} {mg : Str → Option Value} {base : Heap} {cls : Nat → Value} {f : Addr} {fd : FuncData} (B : Bt mg) (Fn : Fun K "is_net" "is_net" (topS 17) f fd) (C_are_points : Cal P w K mg base cls "are_points" ["thing"] 3 1 1 d_are_points []) (C_are_ties : Cal P w K mg base cls "are_ties" ["thing", "points"] 3 2 1 d_are_ties []) (C_is_tuple : Cal P w K mg base cls "is_tuple" ["thing", "many"] 1 2 0 d_is_tuple []) (C_points_of : Cal P w K mg base cls "points_of" ["net"] 1 1 3 d_points_of []) :
    FnOk P w K mg base (L2.CX P w) 4 f fd ["thing"] (spD K cls 1 0 d_is_net) :=
  def_ok Fn sc_is_net rfl rfl fun cdv A outer s H E hr tk =>
    (qb_cons (q_if (QW.qt (qw_or (q_tnot (q_tval (q_cal C_is_tuple hr (by decide) tk (qa_cons (q_var 0 (pv 0)) (qa_cons q_int qa_nil))))) (qw_or1 (q_tnot (q_tval (q_cal C_are_points hr (by decide) tk (qa_cons (q_ix ix_any val_ix (q_var 0 (pv 0)) q_int (fun _ _ => rfl)) qa_nil))))))) (qb_one (q_ret q_bl)) qb_nil)
    (qb_one (q_ret (q_cal C_are_ties hr (by decide) tk (qa_cons (q_ix ix_any val_ix (q_var 0 (pv 0)) q_int (fun _ _ => rfl)) (qa_cons (QN.frz (q_calN C_points_of hr (by decide) tk (qa_cons (q_var 0 (pv 0)) qa_nil))) qa_nil))))))
theorem sc_check : FnScope ["thing"] ["thing"] (defScope (topS 18)) := ⟨rfl, rfl, rfl, by decide +kernel, rfl, by decide +kernel, by decide +kernel⟩
theorem ok_check {P : Program} {w : World} {K : PySem.W.Frag} {mg : Str → Option Value} {base : Heap} {cls : Nat → Value} {f : Addr} {fd : FuncData} (B : Bt mg) (Fn : Fun K "check" "check" (topS 18) f fd) (C_is_net : Cal P w K mg base cls "is_net" ["thing"] 4 1 0 d_is_net []) (X_NoNet : Exn K mg cls "NoNet" 0) :
    FnOk P w K mg base (L2.CX P w) 5 f fd ["thing"] (spD K cls 1 0 d_check) :=
  def_ok Fn sc_check rfl rfl fun cdv A outer s H E hr tk =>
    (qb_cons (q_if (q_tnot (q_tval (q_cal C_is_net hr (by decide) tk (qa_cons (q_var 0 (pv 0)) qa_nil)))) (qb_one (q_exn X_NoNet rfl tk)) qb_nil)
    (qb_one (q_ret q_bl)))
theorem sc_names_of : FnScope ["items", "item"] ["items"] (defScope (topS 24)) := ⟨rfl, rfl, rfl, by decide +kernel, rfl, by decide +kernel, by decide +kernel⟩
theorem ok_names_of {P : Program} {w : World} {K : PySem.W.Frag} {mg : Str → Option Value} {base : Heap} {cls : Nat → Value} {f : Addr} {fd : FuncData} (B : Bt mg) (Fn : Fun K "names_of" "names_of" (topS 24) f fd)  :
    FnOk P w K mg base (L2.CX P w) 1 f fd ["items"] (spD K cls 1 1 d_names_of) :=
  def_ok Fn sc_names_of rfl rfl fun cdv A outer s H E hr tk =>
    (qb_one (q_retN (q_comp (by rfl) sc_names_of.nd (qi_seq (q_var 0 (pv 0))) (blkOk_by (own := [("item", 1)]) (N := ["items", "item"]) (sc := (defScope (topS 24))) (by decide +kernel)) (fun _ _ _ _ _ => (qg_name 1 (pg_name (i := 1) sc_names_of.nd rfl (by first | exact Or.inl rfl | exact Or.inr rfl)))) (fun _ _ _ _ _ => qts_nil) (fun _ _ _ _ _ => (q_ix ix_any val_ix (q_var 1 (pv 1)) q_int (fun _ _ => rfl))) gok_name rfl (by decide))))
theorem sc_are_names : FnScope ["thing", "part"] ["thing"] (defScope (topS 10)) := ⟨rfl, rfl, rfl, by decide +kernel, rfl, by decide +kernel, by decide +kernel⟩
theorem ok_are_names {P : Program} {w : World} {K : PySem.W.Frag} {mg : Str → Option Value} {base : Heap} {cls : Nat → Value} {f : Addr} {fd : FuncData} (B : Bt mg) (Fn : Fun K "are_names" "are_names" (topS 10) f fd) (C_is_name : Cal P w K mg base cls "is_name" ["thing"] 2 1 0 d_is_name []) :
    FnOk P w K mg base (L2.CX P w) 3 f fd ["thing"] (spD K cls 1 1 d_are_names) :=
  def_ok Fn sc_are_names rfl rfl fun cdv A outer s H E hr tk =>
    (qb_cons (q_if (q_tnot (q_tval (q_isi "tuple" (by decide) (fun _ p => pe_callB call_isi (by rfl) B.isinstance (by decide +kernel) (pa_cons p (pa_cons (pe_bltn (v := .ty "tuple") (by rfl) B.tuple (show bootBuiltins "tuple" = some (.type "tuple") by decide +kernel) rfl) pa_nil))) (q_var 0 (pv 0))))) (qb_one (q_ret q_bl)) qb_nil)
    (qb_cons (q_for (qi_seq (q_var 0 (pv 0))) (qg_name 1 (pg_name (i := 1) sc_are_names.nd rfl (by first | exact Or.inl rfl | exact Or.inr rfl))) (qb_one (q_if (q_tnot (q_tval (q_cal C_is_name hr (by decide) tk (qa_cons (q_var 1 (pv 1)) qa_nil)))) (qb_one (q_ret q_bl)) qb_nil)) (fun _ _ _ i t b => ps_for (passes_of rfl) rfl i t b))
    (qb_one (q_ret q_bl))))
theorem sc_turns : FnScope ["names", "thing", "name", "pair"] ["names", "thing"] (defScope (topS 23)) := ⟨rfl, rfl, rfl, by decide +kernel, rfl, by decide +kernel, by decide +kernel⟩
theorem ok_turns {P : Program} {w : World} {K : PySem.W.Frag} {mg : Str → Option Value} {base : Heap} {cls : Nat → Value} {f : Addr} {fd : FuncData} (B : Bt mg) (Fn : Fun K "turns" "turns" (topS 23) f fd) (C_are_names : Cal P w K mg base cls "are_names" ["thing"] 3 1 1 d_are_names []) (C_is_tuple : Cal P w K mg base cls "is_tuple" ["thing", "many"] 1 2 0 d_is_tuple []) :
    FnOk P w K mg base (L2.CX P w) 4 f fd ["names", "thing"] (spD K cls 2 2 d_turns) :=
  def_ok Fn sc_turns rfl rfl fun cdv A outer s H E hr tk =>
    (qb_cons (q_if (q_tnot (q_tval (q_cal C_is_tuple hr (by decide) tk (qa_cons (q_var 1 (pv 1)) (qa_cons (q_fn (fun _ pa => pe_callB call_len (by rfl) B.len PySem.boot_len pa) val_len (qa_cons (q_var 0 (pv 0)) qa_nil)) qa_nil))))) (qb_one (q_ret q_bl)) qb_nil)
    (qb_cons (q_for (qi_zip (fun _ pa => pi_zipK (by rfl) B.zip pa) (qa_cons (q_var 0 (pv 0)) (qa_cons (q_var 1 (pv 1)) qa_nil))) (qg_tup (qgs_cons (qg_name 2 (pg_name (i := 2) sc_turns.nd rfl (by first | exact Or.inl rfl | exact Or.inr rfl))) (qgs_cons (qg_name 3 (pg_name (i := 3) sc_turns.nd rfl (by first | exact Or.inl rfl | exact Or.inr rfl))) qgs_nil)) rfl) (qb_one (q_if (QW.qt (qw_or (q_tnot (q_tval (q_cal C_is_tuple hr (by decide) tk (qa_cons (q_var 3 (pv 3)) (qa_cons q_int qa_nil))))) (qw_or (q_tnot (q_tval (q_cal C_are_names hr (by decide) tk (qa_cons (q_var 3 (pv 3)) qa_nil)))) (qw_or1 (q_tcmp (op_neD hr.units) val_ne (q_ix ix_any val_ix (q_var 3 (pv 3)) q_int (fun _ _ => rfl)) (q_var 2 (pv 2)) (nomark _)))))) (qb_one (q_ret q_bl)) qb_nil)) (fun _ _ _ i t b => ps_for (passes_of rfl) rfl i t b))
    (qb_one (q_ret (q_cmp (op_eqD hr.units) val_eq (q_lenSet (fun _ p => pe_lenSetD (by rfl) B.len (by rfl) B.set p) (QN.frz (q_comp (by rfl) sc_turns.nd (qi_seq (q_var 1 (pv 1))) (blkOk_by (own := [("pair", 3)]) (N := ["names", "thing", "name", "pair"]) (sc := (defScope (topS 23))) (by decide +kernel)) (fun _ _ _ _ _ => (qg_name 3 (pg_name (i := 3) sc_turns.nd rfl (by first | exact Or.inl rfl | exact Or.inr rfl)))) (fun _ _ _ _ _ => qts_nil) (fun _ _ _ _ _ => (q_ix ix_any val_ix (q_var 3 (pv 3)) q_int (fun _ _ => rfl))) gok_name rfl (by decide)))) (q_fn (fun _ pa => pe_callB call_len (by rfl) B.len PySem.boot_len pa) val_len (qa_cons (q_var 1 (pv 1)) qa_nil)) (nomark _))))))
theorem sc_is_naming : FnScope ["net", "thing"] ["net", "thing"] (defScope (topS 25)) := ⟨rfl, rfl, rfl, by decide +kernel, rfl, by decide +kernel, by decide +kernel⟩
theorem ok_is_naming {P : Program} {w : World} {K : PySem.W.Frag} {mg : Str → Option Value} {base : Heap} {cls : Nat → Value} {f : Addr} {fd : FuncData} (B : Bt mg) (Fn : Fun K "is_naming" "is_naming" (topS 25) f fd) (C_is_tuple : Cal P w K mg base cls "is_tuple" ["thing", "many"] 1 2 0 d_is_tuple []) (C_names_of : Cal P w K mg base cls "names_of" ["items"] 1 1 1 d_names_of []) (C_turns : Cal P w K mg base cls "turns" ["names", "thing"] 4 2 2 d_turns []) :
    FnOk P w K mg base (L2.CX P w) 5 f fd ["net", "thing"] (spD K cls 2 0 d_is_naming) :=
  def_ok Fn sc_is_naming rfl rfl fun cdv A outer s H E hr tk =>
    (qb_cons (q_if (q_tnot (q_tval (q_cal C_is_tuple hr (by decide) tk (qa_cons (q_var 1 (pv 1)) (qa_cons q_int qa_nil))))) (qb_one (q_ret q_bl)) qb_nil)
    (qb_one (q_ret (q_and (q_cal C_turns hr (by decide) tk (qa_cons (QN.frz (q_calN C_names_of hr (by decide) tk (qa_cons (q_ix ix_any val_ix (q_var 0 (pv 0)) q_int (fun _ _ => rfl)) qa_nil))) (qa_cons (q_ix ix_any val_ix (q_var 1 (pv 1)) q_int (fun _ _ => rfl)) qa_nil))) (q_one (q_cal C_turns hr (by decide) tk (qa_cons (QN.frz (q_calN C_names_of hr (by decide) tk (qa_cons (q_ix ix_any val_ix (q_var 0 (pv 0)) q_int (fun _ _ => rfl)) qa_nil))) (qa_cons (q_ix ix_any val_ix (q_var 1 (pv 1)) q_int (fun _ _ => rfl)) qa_nil))))))))
theorem sc_net_of : FnScope ["points", "ties", "row", "name"] ["points", "ties"] (defScope (topS 21)) := ⟨rfl, rfl, rfl, by decide +kernel, rfl, by decide +kernel, by decide +kernel⟩
theorem ok_net_of {P : Program} {w : World} {K : PySem.W.Frag} {mg : Str → Option Value} {base : Heap} {cls : Nat → Value} {f : Addr} {fd : FuncData} (B : Bt mg) (Fn : Fun K "net_of" "net_of" (topS 21) f fd)  :
    FnOk P w K mg base (L2.CX P w) 1 f fd ["points", "ties"] (spD K cls 2 2 d_net_of) :=
  def_ok Fn sc_net_of rfl rfl fun cdv A outer s H E hr tk =>
    (qb_cons (q_setLc 2 rfl sc_net_of.nd rfl rfl (sw_true rfl rfl rfl (by decide +kernel)) (qi_seq (QN.frz (q_fnN (fun _ pa => pe_callB (call_sortedDI rfl) (by rfl) B.sorted (by decide +kernel) pa) new_sortedD (qa_cons (q_var 0 (pv 0)) qa_nil)))) (blkOk_by (own := [("name", 3)]) (N := ["points", "ties", "row", "name"]) (sc := (defScope (topS 21))) (by decide +kernel)) (fun _ _ _ _ _ => (qg_name 3 (pg_name (i := 3) sc_net_of.nd rfl (by first | exact Or.inl rfl | exact Or.inr rfl)))) (fun _ _ _ _ _ => qts_nil) (fun _ _ _ _ _ => (q_tup (qa_cons (q_var 3 (pv 3)) (qa_cons (q_dget (fun _ _ p k => pe_dget (hu_of hr) p k fun _ _ => rfl) (q_var 0 (pv 0)) (q_var 3 (pv 3))) qa_nil)))) gok_name rfl (by decide))
    (qb_one (q_ret (q_tup (qa_cons (q_fn (fun _ pa => pe_callTy call_tupleL (by rfl) B.tuple (by decide +kernel) pa) val_tuple (qa_cons (q_var 2 (pv 2)) qa_nil)) (qa_cons (q_fn (fun _ pa => pe_callTy call_tupleL (by rfl) B.tuple (by decide +kernel) pa) val_tuple (qa_cons (QN.frz (q_comp (by rfl) sc_net_of.nd (qi_seq (QN.frz (q_fnN (fun _ pa => pe_callB (call_sortedDI rfl) (by rfl) B.sorted (by decide +kernel) pa) new_sortedD (qa_cons (q_var 1 (pv 1)) qa_nil)))) (blkOk_by (own := [("name", 3)]) (N := ["points", "ties", "row", "name"]) (sc := (defScope (topS 21))) (by decide +kernel)) (fun _ _ _ _ _ => (qg_name 3 (pg_name (i := 3) sc_net_of.nd rfl (by first | exact Or.inl rfl | exact Or.inr rfl)))) (fun _ _ _ _ _ => qts_nil) (fun _ _ _ _ _ => (q_bin op_addA val_add (q_tup (qa_cons (q_var 3 (pv 3)) qa_nil)) (q_dget (fun _ _ p k => pe_dget (hu_of hr) p k fun _ _ => rfl) (q_var 1 (pv 1)) (q_var 3 (pv 3))))) gok_name rfl (by decide))) qa_nil)) qa_nil))))))
theorem sc_ties_of : FnScope ["net", "found", "name", "kind", "begin", "end"] ["net"] (defScope (topS 20)) := ⟨rfl, rfl, rfl, by decide +kernel, rfl, by decide +kernel, by decide +kernel⟩
theorem ok_ties_of {P : Program} {w : World} {K : PySem.W.Frag} {mg : Str → Option Value} {base : Heap} {cls : Nat → Value} {f : Addr} {fd : FuncData} (B : Bt mg) (Fn : Fun K "ties_of" "ties_of" (topS 20) f fd)  :
    FnOk P w K mg base (L2.CX P w) 1 f fd ["net"] (spD K cls 1 5 d_ties_of) :=
  def_ok Fn sc_ties_of rfl rfl fun cdv A outer s H E hr tk =>
    (qb_cons (q_setN 1 (fun _ p => ps_set (i := 1) sc_ties_of.nd rfl (by first | exact Or.inl rfl | exact Or.inr rfl) p) q_dict0)
    (qb_cons (q_for (qi_seq (q_ix ix_any val_ix (q_var 0 (pv 0)) q_int (fun _ _ => rfl))) (qg_tup (qgs_cons (qg_name 2 (pg_name (i := 2) sc_ties_of.nd rfl (by first | exact Or.inl rfl | exact Or.inr rfl))) (qgs_cons (qg_name 3 (pg_name (i := 3) sc_ties_of.nd rfl (by first | exact Or.inl rfl | exact Or.inr rfl))) (qgs_cons (qg_name 4 (pg_name (i := 4) sc_ties_of.nd rfl (by first | exact Or.inl rfl | exact Or.inr rfl))) (qgs_cons (qg_name 5 (pg_name (i := 5) sc_ties_of.nd rfl (by first | exact Or.inl rfl | exact Or.inr rfl))) qgs_nil)))) rfl) (qb_one (q_setD 1 (fun _ _ p q => ps_dput (hu_of hr) (pv 1) q p rfl) (q_tup (qa_cons (q_var 3 (pv 3)) (qa_cons (q_var 4 (pv 4)) (qa_cons (q_var 5 (pv 5)) qa_nil)))) (q_var 2 (pv 2)))) (fun _ _ _ i t b => ps_for (passes_of rfl) rfl i t b))
    (qb_one (q_retO 1 (pv 1)))))
theorem sc_turned_net : FnScope ["net", "naming", "names", "others", "points", "ties", "name", "kind", "begin", "end"] ["net", "naming"] (defScope (topS 26)) := ⟨rfl, rfl, rfl, by decide +kernel, rfl, by decide +kernel, by decide +kernel⟩
theorem ok_turned_net {P : Program} {w : World} {K : PySem.W.Frag} {mg : Str → Option Value} {base : Heap} {cls : Nat → Value} {f : Addr} {fd : FuncData} (B : Bt mg) (Fn : Fun K "turned_net" "turned_net" (topS 26) f fd) (C_net_of : Cal P w K mg base cls "net_of" ["points", "ties"] 1 2 2 d_net_of []) (C_points_of : Cal P w K mg base cls "points_of" ["net"] 1 1 3 d_points_of []) (C_ties_of : Cal P w K mg base cls "ties_of" ["net"] 1 1 5 d_ties_of []) :
    FnOk P w K mg base (L2.CX P w) 2 f fd ["net", "naming"] (spD K cls 2 8 d_turned_net) :=
  def_ok Fn sc_turned_net rfl rfl fun cdv A outer s H E hr tk =>
    (qb_cons (q_set 2 (fun _ p => ps_set (i := 2) sc_turned_net.nd rfl (by first | exact Or.inl rfl | exact Or.inr rfl) p) (QN.frz (q_fnN (fun _ pa => pe_callTy (call_dictAny rfl) (by rfl) B.dict (by decide +kernel) pa) new_dict (qa_cons (q_ix ix_any val_ix (q_var 1 (pv 1)) q_int (fun _ _ => rfl)) qa_nil))))
    (qb_cons (q_set 3 (fun _ p => ps_set (i := 3) sc_turned_net.nd rfl (by first | exact Or.inl rfl | exact Or.inr rfl) p) (QN.frz (q_fnN (fun _ pa => pe_callTy (call_dictAny rfl) (by rfl) B.dict (by decide +kernel) pa) new_dict (qa_cons (q_ix ix_any val_ix (q_var 1 (pv 1)) q_int (fun _ _ => rfl)) qa_nil))))
    (qb_cons (q_setN 4 (fun _ p => ps_set (i := 4) sc_turned_net.nd rfl (by first | exact Or.inl rfl | exact Or.inr rfl) p) q_dict0)
    (qb_cons (q_for (qi_dctN dw2_items (fun _ p => pi_items p) (q_calN C_points_of hr (by decide) tk (qa_cons (q_var 0 (pv 0)) qa_nil))) (qg_tup (qgs_cons (qg_name 6 (pg_name (i := 6) sc_turned_net.nd rfl (by first | exact Or.inl rfl | exact Or.inr rfl))) (qgs_cons (qg_name 7 (pg_name (i := 7) sc_turned_net.nd rfl (by first | exact Or.inl rfl | exact Or.inr rfl))) qgs_nil)) rfl) (qb_one (q_setD 4 (fun _ _ p q => ps_dput (hu_of hr) (pv 4) q p rfl) (q_var 7 (pv 7)) (q_dget (fun _ _ p k => pe_dget (hu_of hr) p k fun _ _ => rfl) (q_var 2 (pv 2)) (q_var 6 (pv 6))))) (fun _ _ _ i t b => ps_for (passes_of rfl) rfl i t b))
    (qb_cons (q_setN 5 (fun _ p => ps_set (i := 5) sc_turned_net.nd rfl (by first | exact Or.inl rfl | exact Or.inr rfl) p) q_dict0)
    (qb_cons (q_for (qi_dctN dw2_items (fun _ p => pi_items p) (q_calN C_ties_of hr (by decide) tk (qa_cons (q_var 0 (pv 0)) qa_nil))) (qg_tup (qgs_cons (qg_name 6 (pg_name (i := 6) sc_turned_net.nd rfl (by first | exact Or.inl rfl | exact Or.inr rfl))) (qgs_cons (qg_tup (qgs_cons (qg_name 7 (pg_name (i := 7) sc_turned_net.nd rfl (by first | exact Or.inl rfl | exact Or.inr rfl))) (qgs_cons (qg_name 8 (pg_name (i := 8) sc_turned_net.nd rfl (by first | exact Or.inl rfl | exact Or.inr rfl))) (qgs_cons (qg_name 9 (pg_name (i := 9) sc_turned_net.nd rfl (by first | exact Or.inl rfl | exact Or.inr rfl))) qgs_nil))) rfl) qgs_nil)) rfl) (qb_one (q_setD 5 (fun _ _ p q => ps_dput (hu_of hr) (pv 5) q p rfl) (q_tup (qa_cons (q_var 7 (pv 7)) (qa_cons (q_dget (fun _ _ p k => pe_dget (hu_of hr) p k fun _ _ => rfl) (q_var 2 (pv 2)) (q_var 8 (pv 8))) (qa_cons (q_dget (fun _ _ p k => pe_dget (hu_of hr) p k fun _ _ => rfl) (q_var 2 (pv 2)) (q_var 9 (pv 9))) qa_nil)))) (q_dget (fun _ _ p k => pe_dget (hu_of hr) p k fun _ _ => rfl) (q_var 3 (pv 3)) (q_var 6 (pv 6))))) (fun _ _ _ i t b => ps_for (passes_of rfl) rfl i t b))
    (qb_one (q_ret (QE.view (q_cal C_net_of hr (by decide) tk (qa_cons (q_var 4 (pv 4)) (qa_cons (q_var 5 (pv 5)) qa_nil))))))))))))
theorem sc_right_naming : FnScope ["net", "other", "thing"] ["net", "other", "thing"] (defScope (topS 27)) := ⟨rfl, rfl, rfl, by decide +kernel, rfl, by decide +kernel, by decide +kernel⟩
theorem ok_right_naming {P : Program} {w : World} {K : PySem.W.Frag} {mg : Str → Option Value} {base : Heap} {cls : Nat → Value} {f : Addr} {fd : FuncData} (B : Bt mg) (Fn : Fun K "right_naming" "right_naming" (topS 27) f fd) (C_is_naming : Cal P w K mg base cls "is_naming" ["net", "thing"] 5 2 0 d_is_naming []) (C_turned_net : Cal P w K mg base cls "turned_net" ["net", "naming"] 2 2 8 d_turned_net []) :
    FnOk P w K mg base (L2.CX P w) 6 f fd ["net", "other", "thing"] (spD K cls 3 0 d_right_naming) :=
  def_ok Fn sc_right_naming rfl rfl fun cdv A outer s H E hr tk =>
    (qb_one (q_ret (q_and (q_cal C_is_naming hr (by decide) tk (qa_cons (q_var 0 (pv 0)) (qa_cons (q_var 2 (pv 2)) qa_nil))) (q_one (q_cmp (op_eqD hr.units) val_eq (q_cal C_turned_net hr (by decide) tk (qa_cons (q_var 0 (pv 0)) (qa_cons (q_var 2 (pv 2)) qa_nil))) (q_var 1 (pv 1)) (nomark _))))))
theorem sc_law : FnScope ["_law_script", "_law_deck_here", "_law_net_here", "_law_naming_here", "_law_other", "_law_k", "_law_bent_here", "_law_due", "_law_changed_here"] ["_law_script"] (defScope (topS 45)) := ⟨rfl, rfl, rfl, by decide +kernel, rfl, by decide +kernel, by decide +kernel⟩
theorem ok_law {P : Program} {w : World} {K : PySem.W.Frag} {mg : Str → Option Value} {base : Heap} {cls : Nat → Value} {f : Addr} {fd : FuncData} (B : Bt mg) (Fn : Fun K "law" "law" (topS 45) f fd) (C__law_bent : Cal P w K mg base cls "_law_bent" ["_law_deck_here", "_law_naming_here"] 3 2 1 d_law_bent []) (C__law_changed : Cal P w K mg base cls "_law_changed" ["_law_deck_here", "_law_net_here"] 2 2 9 d_law_changed []) (C__law_deck : Cal P w K mg base cls "_law_deck" ["_law_script", "_law_many"] 2 2 6 d_law_deck []) (C__law_is_naming : Cal P w K mg base cls "_law_is_naming" ["_law_net_here", "_law_thing"] 3 2 0 d_law_is_naming []) (C__law_naming : Cal P w K mg base cls "_law_naming" ["_law_deck_here", "_law_net_here"] 4 2 0 d_law_naming []) (C__law_net : Cal P w K mg base cls "_law_net" ["_law_deck_here", "_law_most_points", "_law_most_ties", "_law_far"] 3 4 5 d_law_net []) (C__law_next : Cal P w K mg base cls "_law_next" ["_law_deck_here"] 1 1 0 d_law_next []) (C__law_says : Cal P w K mg base cls "_law_says" ["_law_answer", "_law_due"] 1 2 0 d_law_says []) (C__law_turned : Cal P w K mg base cls "_law_turned" ["_law_net_here", "_law_naming_here"] 1 2 7 d_law_turned []) (C_check : Cal P w K mg base cls "check" ["thing"] 5 1 0 d_check []) (C_right_naming : Cal P w K mg base cls "right_naming" ["net", "other", "thing"] 6 3 0 d_right_naming []) :
    FnOk P w K mg base (L2.CX P w) 7 f fd ["_law_script"] (spD K cls 1 8 d_law) :=
  def_ok Fn sc_law rfl rfl fun cdv A outer s H E hr tk =>
    (qb_cons (q_setN 1 (fun _ p => ps_set (i := 1) sc_law.nd rfl (by first | exact Or.inl rfl | exact Or.inr rfl) p) (q_calN C__law_deck hr (by decide) tk (qa_cons (q_var 0 (pv 0)) (qa_cons q_int qa_nil))))
    (qb_cons (q_set 2 (fun _ p => ps_set (i := 2) sc_law.nd rfl (by first | exact Or.inl rfl | exact Or.inr rfl) p) (q_calO C__law_net hr (by decide) tk (qao_here 1 (pv 1) (qa_cons q_int (qa_cons q_int (qa_cons (q_bin op_mod val_mod (q_calO C__law_next hr (by decide) tk (qao_here 1 (pv 1) qa_nil)) q_int) qa_nil))))))
    (qb_cons (q_set 3 (fun _ p => ps_set (i := 3) sc_law.nd rfl (by first | exact Or.inl rfl | exact Or.inr rfl) p) (q_calO C__law_naming hr (by decide) tk (qao_here 1 (pv 1) (qa_cons (q_var 2 (pv 2)) qa_nil))))
    (qb_cons (q_set 4 (fun _ p => ps_set (i := 4) sc_law.nd rfl (by first | exact Or.inl rfl | exact Or.inr rfl) p) (q_cal C__law_turned hr (by decide) tk (qa_cons (q_var 2 (pv 2)) (qa_cons (q_var 3 (pv 3)) qa_nil))))
    (qb_cons (q_if (QW.qt (qw_or (q_tcmp op_isNotA val_isNot (q_cal C_check hr (by decide) tk (qa_cons (q_var 2 (pv 2)) qa_nil)) q_bl (nomark _)) (qw_or (q_tcmp op_isNotA val_isNot (q_cal C_check hr (by decide) tk (qa_cons (q_var 4 (pv 4)) qa_nil)) q_bl (nomark _)) (qw_or1 (q_tcmp op_isNotA val_isNot (q_cal C_right_naming hr (by decide) tk (qa_cons (q_var 2 (pv 2)) (qa_cons (q_var 4 (pv 4)) (qa_cons (q_var 3 (pv 3)) qa_nil)))) q_bl (nomark _)))))) (qb_one (q_ret q_bl)) qb_nil)
    (qb_cons (q_for (qi_range1 (fun _ pa => pi_range1 (by rfl) B.range pa) (qa_cons q_int qa_nil)) (qg_name 5 (pg_name (i := 5) sc_law.nd rfl (by first | exact Or.inl rfl | exact Or.inr rfl))) (qb_cons (q_set 6 (fun _ p => ps_set (i := 6) sc_law.nd rfl (by first | exact Or.inl rfl | exact Or.inr rfl) p) (q_calO C__law_bent hr (by decide) tk (qao_here 1 (pv 1) (qa_cons (q_var 3 (pv 3)) qa_nil))))
    (qb_cons (q_if (QW.qt (qw_and (q_tcmp (op_eqD hr.units) val_eq (q_bin op_mod val_mod (q_var 5 (pv 5)) q_int) q_int (nomark _)) (qw_and (q_tval (q_isi "tuple" (by decide) (fun _ p => pe_callB call_isi (by rfl) B.isinstance (by decide +kernel) (pa_cons p (pa_cons (pe_bltn (v := .ty "tuple") (by rfl) B.tuple (show bootBuiltins "tuple" = some (.type "tuple") by decide +kernel) rfl) pa_nil))) (q_var 6 (pv 6)))) (qw_and (q_tcmp (op_eqD hr.units) val_eq (q_fn (fun _ pa => pe_callB call_len (by rfl) B.len PySem.boot_len pa) val_len (qa_cons (q_var 6 (pv 6)) qa_nil)) q_int (nomark _)) (qw_and1 (q_tval (q_cal C__law_is_naming hr (by decide) tk (qa_cons (q_var 2 (pv 2)) (qa_cons (q_var 6 (pv 6)) qa_nil))))))))) (qb_one (q_set 6 (fun _ p => ps_set (i := 6) sc_law.nd rfl (by first | exact Or.inl rfl | exact Or.inr rfl) p) (q_calO C__law_bent hr (by decide) tk (qao_here 1 (pv 1) (qa_cons (q_var 6 (pv 6)) qa_nil))))) qb_nil)
    (qb_cons (q_set 7 (fun _ p => ps_set (i := 7) sc_law.nd rfl (by first | exact Or.inl rfl | exact Or.inr rfl) p) (q_and (q_cal C__law_is_naming hr (by decide) tk (qa_cons (q_var 2 (pv 2)) (qa_cons (q_var 6 (pv 6)) qa_nil))) (q_one (q_cmp (op_eqD hr.units) val_eq (q_cal C__law_turned hr (by decide) tk (qa_cons (q_var 2 (pv 2)) (qa_cons (q_var 6 (pv 6)) qa_nil))) (q_var 4 (pv 4)) (nomark _)))))
    (qb_cons (q_if (q_tnot (q_tval (q_cal C__law_says hr (by decide) tk (qa_cons (q_cal C_right_naming hr (by decide) tk (qa_cons (q_var 2 (pv 2)) (qa_cons (q_var 4 (pv 4)) (qa_cons (q_var 6 (pv 6)) qa_nil)))) (qa_cons (q_var 7 (pv 7)) qa_nil))))) (qb_one (q_ret q_bl)) qb_nil)
    (qb_cons (q_set 8 (fun _ p => ps_set (i := 8) sc_law.nd rfl (by first | exact Or.inl rfl | exact Or.inr rfl) p) (q_calO C__law_changed hr (by decide) tk (qao_here 1 (pv 1) (qa_cons (q_var 4 (pv 4)) qa_nil))))
    (qb_one (q_if (q_tnot (q_tval (q_cal C__law_says hr (by decide) tk (qa_cons (q_cal C_right_naming hr (by decide) tk (qa_cons (q_var 2 (pv 2)) (qa_cons (q_var 8 (pv 8)) (qa_cons (q_var 3 (pv 3)) qa_nil)))) (qa_cons (q_cmp (op_eqD hr.units) val_eq (q_var 8 (pv 8)) (q_var 4 (pv 4)) (nomark _)) qa_nil))))) (qb_one (q_ret q_bl)) qb_nil))))))) (fun _ _ _ i t b => ps_for (passes_of rfl) rfl i t b))
    (qb_one (q_ret (q_and (q_cmp op_isA val_is (q_cal C_right_naming hr (by decide) tk (qa_cons (q_var 2 (pv 2)) (qa_cons (q_var 4 (pv 4)) (qa_cons (q_var 3 (pv 3)) qa_nil)))) q_bl (nomark _)) (q_one (q_cmp (op_eqD hr.units) val_eq (q_var 3 (pv 3)) (q_tup (qa_cons (q_fn (fun _ pa => pe_callTy call_tupleL (by rfl) B.tuple (by decide +kernel) pa) val_tuple (qa_cons (q_ix ix_any val_ix (q_var 3 (pv 3)) q_int (fun _ _ => rfl)) qa_nil)) (qa_cons (q_fn (fun _ pa => pe_callTy call_tupleL (by rfl) B.tuple (by decide +kernel) pa) val_tuple (qa_cons (q_ix ix_any val_ix (q_var 3 (pv 3)) q_int (fun _ _ => rfl)) qa_nil)) qa_nil))) (nomark _))))))))))))
end Lk27

set_option Elab.async false
set_option linter.all false
set_option maxRecDepth 100000
set_option maxHeartbeats 4000000
namespace NT.Pure
open PySem L2 NT NT.Den
local macro_rules | `(tactic| walk_at "ev") => `(tactic| simp (maxSteps := 100000000) only [iZip_ap, iDctN_ap, dctO_dK, gT_raw, rtb_rt, wO_nx, wO_rt, wO_rtN, wO_ex, stp_ap, sWhile_ap, wT_ok, sCalm_ap, iDct_ap, dctI_val, rtv_rt, rtvN_rtN, bnd_ok, bnd_ex, bnd_bad, bndO_ok, bndO_ex, bndO_bad, nxt_nx, nxt_rt, nxt_rtN, nxt_ex, nxt_bad, lft_some, mbind_ap, mpure_ap, lift_ap, eC_ap, rdV_val, eVar_ap, eBin_ap, eUn_ap, aNil_ap, aCons_ap, eFn_ap, eTup_ap, eLst_ap, tupO, lstO, tVal_ap, asB_bl, iteR_t, iteR_f, iteO_t, iteO_f, mAnd_ap, mOr_ap, mNot_ap, eAnd_ap, eOr_ap, eNot_ap, eChain_ap, vw_ok, vwN_ok, vwT_ok, eView_ap, eViewN_ap, tView_ap, sDo_ap, sSeq_ap, sSkip_ap, put_ap, sSet_ap, sSetN_ap, sRet_ap, sRetN_ap, sExpr_ap, sIf_ap, sRetO_ap, retO_own, sRaise_ap, sFor_ap, loop_nil, optO_some, sAsg_ap, iteS_t, gN_ap, gT_ap, gsNil_ap, bS_some, gsCons_ap, notBor_val, notBor_own, notBor_no, mineO_own, mineO_bor, with_own, with_bor, optR_some, mutAt_ap, eMut_ap, sPutAt_ap, outE_rt, outE_rtN, outE_nx, outE_ex, outN_rtN, outN_ex, eCall_ap, eCallN_ap, borO_bor, outO_rt, outO_rtN, outO_nx, outO_ex, outON_rtN, outON_ex, callO_ap, callON_ap, eCallO_ap, eCallON_ap, oHere_ap, oThere_ap, seqO_lst, seqO_tup, seqO_scr, iSeq_ap, sgnO_str, iSign_ap, iRange1_ap, iRange2_ap, eComp_ap, eSl_ap, oNone_ap, intO_int, oSome_ap, eGet2_ap, add_int, neg_int, mul_int, sub_int, lt_int, le_int, gt_int, ge_int, mod_int, fdiv_int, len_lst, len_tup, len_scr, len_str, ix_tup', ix_lst', tuple_lst, tuple_tup, list_lst, list_tup, append_lst, isLst_lst, isDct_dK, isDct_dT, is_bl, isNot_bl, plain_int, plain_str, plain_bl, plain_non, plain_tup, plainL_nil, plainL_cons, int_bl, int_int, viewS_val, viewS_own, viewS_bor, viewS_no, atI_0, atI_1, atI_2, atI_3, eq_int, ne_int, eq_bl, ne_bl, sl_tup,
  List.map_cons, List.map_nil, List.replicate_succ, List.replicate_zero, List.append_nil, List.nil_append, List.cons_append, List.length_cons, List.length_nil, List.getElem?_cons_zero, List.getElem?_cons_succ, List.set_cons_zero, List.set_cons_succ, Nat.reduceAdd, Nat.reduceLeDiff, Nat.reduceEqDiff, Int.reduceLT, Int.reduceLE, Int.reduceAdd, Int.reduceSub, Int.reduceNeg, Int.reduceBEq, cast_0, cast_1, cast_2, cast_3, cast_4, cast_5, cast_6, cast_7, cast_8, Int.reduceToNat, decide_true, decide_false, decide_eq_true_eq, if_true, if_false, ite_true, ite_false, reduceIte, Bool.and_true, Bool.true_and, Bool.and_false, Bool.false_and, Bool.or_false, Bool.false_or, Bool.or_true, Bool.true_or, Bool.not_true, Bool.not_false, eq_self, Bool.false_eq_true, and_true, true_and, beq_self_eq_true, Option.map_some, Option.bind_some, *])
/-! base -/
def isKindS (x : Str) : Bool := decide (1 ≤ x.length) && (decide (x.length ≤ 8) && x.cps.toList.all fun c => decide (c ∈ ("abcdefghijklmnopqrstuvwxyz" : Str).cps.toList))
theorem isi_str {x : Str} : opIsi "str" (.str x) = some (.bl true) := rfl
theorem isi_tup {ds : List D} : opIsi "tuple" (.tup ds) = some (.bl true) := rfl
theorem inS {c : Nat} {z : Str} : opIn true (.str ⟨⟨[c]⟩⟩) (.str z) = some (.bl (!decide (c ∈ z.cps.toList))) := rfl
theorem free_nb {o : Option Sl} (h : isFree o = true) : notBor o = true := by
  cases o with
  | none => cases h
  | some s => cases s <;> first | rfl | cases h
/-- a loop that only looks -/
theorem loop_all {i : Nat} {b : MS} : ∀ {items : List D} {ρ : List Sl}, isFree ρ[i]? = true → (∀ d ∈ items, b (ρ.set i (.val d)) = .nx (ρ.set i (.val d))) → ∃ s, isFree (some s) = true ∧ loop (gN i) b items ρ = .nx (ρ.set i s)
  | [], ρ, hb, h => by
    cases q : ρ[i]? with
    | none => rw [q] at hb; cases hb
    | some s =>
      rw [q] at hb
      exact ⟨s, hb, by rw [set_self_at q]; rfl⟩
  | d :: ds, ρ, hb, h => by
    have hlt : i < ρ.length := by
      cases q : ρ[i]? with
      | none => rw [q] at hb; cases hb
      | some s => exact (List.getElem?_eq_some_iff.mp q).1
    obtain ⟨s, h1, h2⟩ := loop_all (i := i) (b := b) (items := ds) (ρ := ρ.set i (.val d)) (by rw [List.getElem?_set_self hlt]; rfl) (fun x hx => by rw [List.set_set]; exact h x (List.mem_cons_of_mem _ hx))
    refine ⟨s, h1, ?_⟩
    rw [loop_cons, gN_ap, free_nb hb, iteS_t, optO_some]
    show nxt (b (ρ.set i (.val d))) (k := _) = _
    rw [h d List.mem_cons_self, nxt_nx]
    show loop (gN i) b ds _ = _
    rw [h2, List.set_set]
abbrev P2 := Int × Str
abbrev T4 := Int × Str × Int × Int
def ptD (p : P2) : D := .tup [.int p.1, .str p.2]
def tieD (t : T4) : D := .tup [.int t.1, .str t.2.1, .int t.2.2.1, .int t.2.2.2]
def netD (ps : List P2) (ts : List T4) : D := .tup [.tup (ps.map ptD), .tup (ts.map tieD)]
def nameOk (i : Int) : Prop := 0 ≤ i ∧ i ≤ 1000000
theorem rng2_int {i j : Int} (h : (-(2 ^ 62) ≤ i ∧ i < 2 ^ 62) ∧ -(2 ^ 62) ≤ j ∧ j < 2 ^ 62) : ∃ items, rng2 [.int i, .int j] = some items ∧ ∀ d ∈ items, ∃ k : Int, d = .int k ∧ i ≤ k ∧ k < j := by
  refine ⟨_, if_pos (by omega), fun d hd => ?_⟩
  obtain ⟨k, hk, e⟩ := List.mem_map.mp hd
  subst e
  rw [List.mem_range] at hk
  exact ⟨_, rfl, by omega, by omega⟩
theorem rng2_eq {i j : Int} (h : (-(2 ^ 62) ≤ i ∧ i < 2 ^ 62) ∧ -(2 ^ 62) ≤ j ∧ j < 2 ^ 62) : rng2 [.int i, .int j] = some ((List.range (j - i).toNat).map fun k => D.int (i + (k : Nat))) := if_pos (by omega)
/-! the signs -/
def kn : D → Bool
  | .scr _ => false | .dT _ => false | .exn _ => false | .raw _ => false | .obj _ _ => false | _ => true
def isIntD : D → Bool
  | .int _ => true
  | _ => false
theorem is_int_eq {d : D} (h : kn d = true) : d_is_int [.val d] = .rt (.bl (isIntD d)) [.val d] := by
  cases d <;> first | (cases h; done) | rfl
def isNameD : D → Bool
  | .int i => decide (0 ≤ i) && decide (i ≤ 1000000)
  | _ => false
theorem is_name_eq {d : D} (h : kn d = true) : d_is_name [.val d] = .rt (.bl (isNameD d)) [.val d] := by
  cases d with
  | int i =>
    have e : d_is_int [Sl.val (.int i)] = .rt (.bl true) [Sl.val (.int i)] := is_int_eq rfl
    unfold d_is_name isNameD
    cases h1 : decide (0 ≤ i) <;> walk_at "ev"
  | scr _ => cases h
  | dT _ => cases h
  | exn _ => cases h
  | raw _ => cases h
  | obj _ _ => cases h
  | _ => rfl
def isKindD : D → Bool
  | .str x => isKindS x
  | _ => false
def signOk : D → Bool
  | .str ⟨⟨[c]⟩⟩ => decide (c ∈ ("abcdefghijklmnopqrstuvwxyz" : Str).cps.toList)
  | _ => true
theorem is_kind_eq {d : D} (h : kn d = true) (hs : ∀ x, d = .str x → x.length ≤ 100000) : ∃ ρ', d_is_kind [.val d, .no] = .rt (.bl (isKindD d)) ρ' := by
  cases d with
  | str x =>
    have hx := hs x rfl
    clear hs
    have h0 := @isi_str x
    unfold d_is_kind isKindD isKindS
    by_cases h1 : x.length < 1
    · have h2 : (x.length : Int) < 1 := by omega
      have h3 : ¬ 1 ≤ x.length := by omega
      refine ⟨[.val (.str x), .no], ?_⟩
      walk_at "ev"
    · by_cases h2 : (8 : Int) < x.length
      · have h4 : ¬ (x.length : Int) < 1 := by omega
        have h3 : ¬ x.length ≤ 8 := by omega
        refine ⟨[.val (.str x), .no], ?_⟩
        walk_at "ev"
      · have h4 : ¬ (x.length : Int) < 1 := by omega
        have h3 : x.length ≤ 8 := by omega
        have h5 : 1 ≤ x.length := by omega
        have lk := loop_look (i := 1) (b := sIf (tVal (eBin (opIn true) (eVar 1) (eC (.str "abcdefghijklmnopqrstuvwxyz")))) (sRet (eC (.bl false))) sSkip) (P := signOk) (items := signs x) (ρ := [.val (.str x), .no]) rfl
          (fun d hd hp => ?_) (fun d hd hp => ?_)
        · have ea : (signs x).all signOk = x.cps.toList.all fun c => decide (c ∈ ("abcdefghijklmnopqrstuvwxyz" : Str).cps.toList) := by
            unfold signs
            rw [List.all_map]
            rfl
          rw [ea] at lk
          cases hq : (x.cps.toList.all fun c => decide (c ∈ ("abcdefghijklmnopqrstuvwxyz" : Str).cps.toList)) with
          | true =>
            obtain ⟨s, _, h6⟩ := lk.1 hq
            clear lk
            refine ⟨[.val (.str x), s], ?_⟩
            walk_at "ev"
          | false =>
            obtain ⟨ρ', h6⟩ := lk.2 hq
            clear lk
            refine ⟨ρ', ?_⟩
            walk_at "ev"
        · unfold signs at hd
          obtain ⟨k, hk, e⟩ := List.mem_map.mp hd
          subst e
          have hp : decide (k ∈ ("abcdefghijklmnopqrstuvwxyz" : Str).cps.toList) = true := hp
          have h9 := @inS k "abcdefghijklmnopqrstuvwxyz"
          rw [hp] at h9
          clear hd hk hp
          walk_at "ev"
        · unfold signs at hd
          obtain ⟨k, hk, e⟩ := List.mem_map.mp hd
          subst e
          have hp : decide (k ∈ ("abcdefghijklmnopqrstuvwxyz" : Str).cps.toList) = false := hp
          have h9 := @inS k "abcdefghijklmnopqrstuvwxyz"
          rw [hp] at h9
          clear hd hk hp
          refine ⟨[.val (.str x), .val (.str ⟨#[k]⟩)], ?_⟩
          walk_at "ev"
  | scr _ => cases h
  | dT _ => cases h
  | exn _ => cases h
  | raw _ => cases h
  | obj _ _ => cases h
  | _ => exact ⟨_, rfl⟩
/-! nets -/
structure Good (ps : List P2) (ts : List T4) : Prop where
  np : ps.length ≤ 400
  nt : ts.length ≤ 600
  pk : ∀ p ∈ ps, nameOk p.1 ∧ isKindS p.2 = true
  tk : ∀ t ∈ ts, nameOk t.1 ∧ isKindS t.2.1 = true ∧ (∃ p ∈ ps, p.1 = t.2.2.1) ∧ ∃ p ∈ ps, p.1 = t.2.2.2
  pr : (ps.map (·.1)).Pairwise (· < ·)
  tr : (ts.map (·.1)).Pairwise (· < ·)
theorem is_tuple_t {ds : List D} {n : Int} (h : (ds.length : Int) = n) : d_is_tuple [.val (.tup ds), .val (.int n)] = .rt (.bl true) [.val (.tup ds), .val (.int n)] := by
  subst h
  have h0 := @isi_tup ds
  have h1 := @eq_int ds.length ds.length
  rw [beq_self_eq_true] at h1
  unfold d_is_tuple
  walk_at "ev"
theorem is_name_t {i : Int} (h : nameOk i) : d_is_name [.val (.int i)] = .rt (.bl true) [.val (.int i)] := by
  rw [is_name_eq rfl]
  show O.rt (.bl (decide (0 ≤ i) && decide (i ≤ 1000000))) _ = _
  rw [decide_eq_true h.1, decide_eq_true h.2]
  rfl
theorem kind_len {x : Str} (h : isKindS x = true) : x.length ≤ 100000 := by
  unfold isKindS at h
  simp only [Bool.and_eq_true, decide_eq_true_eq] at h
  omega
theorem is_kind_t {x : Str} (h : isKindS x = true) : ∃ ρ', d_is_kind [.val (.str x), .no] = .rt (.bl true) ρ' := by
  obtain ⟨ρ', e⟩ := is_kind_eq (d := .str x) rfl (fun y q => by cases q; exact kind_len h)
  refine ⟨ρ', ?_⟩
  rw [e]
  show O.rt (.bl (isKindS x)) _ = _
  rw [h]
theorem are_rising_t {xs : List Int} (hl : xs.length ≤ 100000) (h : xs.Pairwise (· < ·)) : ∃ ρ', d_are_rising [.val (.lst (xs.map .int)), .no] = .rt (.bl true) ρ' := by
  obtain ⟨items, h1, h2⟩ := rng2_int (i := 1) (j := ((xs.map D.int).length : Int)) (by rw [List.length_map]; omega)
  obtain ⟨s, _, h3⟩ := loop_all (i := 1) (b := sIf (tVal (eBin opLe (eBin opIx (eVar 0) (eVar 1)) (eBin opIx (eVar 0) (eBin opSub (eVar 1) (eC (.int 1)))))) (sRet (eC (.bl false))) sSkip) (items := items) (ρ := [.val (.lst (xs.map .int)), .no]) rfl (fun d hd => by
    obtain ⟨k, e, k1, k2⟩ := h2 d hd
    subst e
    rw [List.length_map] at k2
    have a1 : k.toNat < xs.length := by omega
    have a2 : (k - 1).toNat < xs.length := by omega
    have q1 : atI (xs.map D.int) k = some (.int xs[k.toNat]) := atI_some (by omega) (by rw [List.getElem?_map, List.getElem?_eq_getElem a1]; rfl)
    have q2 : atI (xs.map D.int) (k - 1) = some (.int xs[(k - 1).toNat]) := atI_some (by omega) (by rw [List.getElem?_map, List.getElem?_eq_getElem a2]; rfl)
    have q3 : ¬ xs[k.toNat] ≤ xs[(k - 1).toNat] := by
      have := List.pairwise_iff_getElem.mp h (k - 1).toNat k.toNat a2 a1 (by omega)
      omega
    clear h1 h2 hd k1 k2 h hl
    walk_at "ev")
  clear h2
  refine of_rtv ?_
  unfold d_are_rising
  walk_at "ev"
theorem names_of {α : Type} {i : Nat} {ρ : List Sl} {xs : List α} {f : α → D} {g : α → Int} (hf : ∀ x, ∃ ds, f x = .tup (.int (g x) :: ds)) (hi : isFree ρ[i]? = true) (hl : xs.length ≤ 100000) : compL (gN i) (mpure true) (eBin opIx (eVar i) (eC (.int 0))) [i] (xs.map f) [] ρ = .ok ((xs.map g).map .int) ρ := by
  obtain ⟨s, hs⟩ : ∃ s, ρ[i]? = some s := by
    cases q : ρ[i]? with
    | none => rw [q] at hi; cases hi
    | some s => exact ⟨s, rfl⟩
  have hlt : i < ρ.length := (List.getElem?_eq_some_iff.mp hs).1
  rw [comp_map (f := fun d => match d with | .tup (x :: _) => x | _ => .non) hi (by rw [List.length_map]; exact by simpa using hl) fun d hd => ?_]
  · rw [List.nil_append, List.map_map, List.map_map]
    congr 1
    refine List.map_congr_left fun x _ => ?_
    obtain ⟨ds, e⟩ := hf x
    show (match f x with | .tup (x :: _) => x | _ => .non) = D.int (g x)
    rw [e]
  · obtain ⟨x, _, e⟩ := List.mem_map.mp hd
    obtain ⟨ds, e2⟩ := hf x
    rw [← e, e2, List.set_set]
    have h1 : (ρ.set i (.val (.tup (.int (g x) :: ds))))[i]? = some (.val (.tup (.int (g x) :: ds))) := List.getElem?_set_self hlt
    clear e e2 hd hs hf hi hl
    walk_at "ev"
theorem are_points_t {ps : List P2} (np : ps.length ≤ 400) (pk : ∀ p ∈ ps, nameOk p.1 ∧ isKindS p.2 = true) (pr : (ps.map (·.1)).Pairwise (· < ·)) : ∃ ρ', d_are_points [.val (.tup (ps.map ptD)), .no] = .rt (.bl true) ρ' := by
  have h0 := @isi_tup (ps.map ptD)
  have h1 : ¬ (400 : Int) < (ps.map ptD).length := by rw [List.length_map]; omega
  obtain ⟨s, hs, h3⟩ := loop_all (i := 1) (b := (sIf (mOr (mNot (tVal (eCall 2 0 d_is_tuple [] (aCons (eVar 1) (aCons (eC (.int 2)) aNil))))) (mOr (mNot (tVal (eCall 1 0 d_is_name [] (aCons (eBin opIx (eVar 1) (eC (.int 0))) aNil)))) (mNot (tVal (eCall 1 1 d_is_kind [] (aCons (eBin opIx (eVar 1) (eC (.int 1))) aNil)))))) (sRet (eC (.bl false))) sSkip)) (items := ps.map ptD) (ρ := [.val (.tup (ps.map ptD)), .no]) rfl (fun d hd => by
    obtain ⟨p, hp, e⟩ := List.mem_map.mp hd
    subst e
    have a1 := is_tuple_t (ds := [.int p.1, .str p.2]) (n := 2) rfl
    have a2 := is_name_t (pk p hp).1
    obtain ⟨ρ', a3⟩ := is_kind_t (pk p hp).2
    unfold ptD
    clear h0 h1 hd pr pk
    generalize List.map _ ps = zz
    walk_at "ev")
  obtain ⟨ρ', h4⟩ := are_rising_t (xs := ps.map (·.1)) (by rw [List.length_map]; omega) pr
  have h5 := names_of (i := 1) (ρ := [.val (.tup (ps.map ptD)), s]) (xs := ps) (f := ptD) (g := (·.1)) (fun x => ⟨_, rfl⟩) hs (by omega)
  refine of_rtv ?_
  clear pk pr
  unfold d_are_points
  walk_at "ev"
theorem put_new {kvs : List (Key × D)} {k : Key} {v : D} (h : ∀ kv ∈ kvs, kv.1 ≠ k) : putD kvs k v = kvs ++ [(k, v)] := by
  unfold putD
  rw [if_neg]
  rw [List.any_eq_true]
  rintro ⟨x, hx, e⟩
  exact h x hx (of_decide_eq_true e)
def ptsK (ps : List P2) : List (Key × D) := ps.map fun p => (.inl p.1, .str p.2)
theorem points_of_loop {net : D} : ∀ {qs ps : List P2} {s t : Sl}, isFree (some s) = true → isFree (some t) = true → ps.length + qs.length ≤ 400 → ((ps ++ qs).map (·.1)).Pairwise (· < ·) → ∃ s' t', loop (gT (gsCons (gN 2) (gsCons (gN 3) gsNil))) (sPutAt isDct 1 opPutD (eVar 2) (eVar 3)) (qs.map ptD) [.val net, .own (.dK (ptsK ps)), s, t] = .nx [.val net, .own (.dK (ptsK (ps ++ qs))), s', t']
  | [], ps, s, t, _, _, _, _ => ⟨s, t, by rw [List.append_nil]; rfl⟩
  | q :: qs, ps, s, t, hs, ht, hl, hr => by
    have hn : ∀ kv ∈ ptsK ps, kv.1 ≠ .inl q.1 := fun kv hkv e => by
      obtain ⟨p, hp, e2⟩ := List.mem_map.mp hkv
      rw [← e2] at e
      have e3 : p.1 = q.1 := Sum.inl.inj e
      rw [List.map_append, List.map_cons, List.pairwise_append] at hr
      have := hr.2.2 p.1 (List.mem_map.mpr ⟨p, hp, rfl⟩) q.1 List.mem_cons_self
      omega
    have hp : opPutD (.dK (ptsK ps)) (.int q.1) (.str q.2) = some (.dK (ptsK (ps ++ [q]))) := by
      show (if (ptsK ps).length ≤ 100000 then some (D.dK (putD (ptsK ps) (.inl q.1) (.str q.2))) else none) = _
      rw [if_pos (by unfold ptsK; rw [List.length_map]; rw [List.length_cons] at hl; omega), put_new hn]
      unfold ptsK
      rw [List.map_append]
      rfl
    obtain ⟨s', t', ih⟩ := points_of_loop (net := net) (qs := qs) (ps := ps ++ [q]) (s := .val (.int q.1)) (t := .val (.str q.2)) rfl rfl (by rw [List.length_cons] at hl; rw [List.length_append, List.length_singleton]; omega) (by rw [List.append_assoc]; exact hr)
    refine ⟨s', t', ?_⟩
    rw [List.append_assoc] at ih
    have hs := free_nb hs
    have ht := free_nb ht
    clear hr hn hl
    have hq : ptD q = .tup [.int q.1, .str q.2] := id rfl
    have e4 : [q] ++ qs = q :: qs := rfl
    rw [e4] at ih
    clear e4
    rw [List.map_cons, loop_cons]
    walk_at "ev"
theorem points_of_t {ps : List P2} {ts : List T4} (np : ps.length ≤ 400) (pr : (ps.map (·.1)).Pairwise (· < ·)) : ∃ ρ', d_points_of [.val (netD ps ts), .no, .no, .no] = .rtN (.dK (ptsK ps)) ρ' := by
  obtain ⟨s, t, h⟩ := points_of_loop (net := netD ps ts) (qs := ps) (ps := []) (s := .no) (t := .no) rfl rfl (by simpa using np) pr
  have h1 : ptsK [] = [] := rfl
  rw [h1, List.nil_append] at h
  refine of_rtvN ?_
  unfold d_points_of
  unfold netD at h ⊢
  clear pr
  walk_at "ev"
theorem look_pts {ps : List P2} {i : Int} (h : ∃ p ∈ ps, p.1 = i) : opInD true (.int i) (.dK (ptsK ps)) = some (.bl false) := by
  show (some (lookD (ptsK ps) (.inl i))).map _ = _
  have : (lookD (ptsK ps) (.inl i)).isSome = true := by
    obtain ⟨p, hp, e⟩ := h
    unfold lookD
    rw [Option.isSome_map, List.find?_isSome]
    exact ⟨(.inl p.1, .str p.2), List.mem_map.mpr ⟨p, hp, rfl⟩, by rw [e]; simp⟩
  show some (D.bl (if true then !(lookD (ptsK ps) (.inl i)).isSome else (lookD (ptsK ps) (.inl i)).isSome)) = _
  rw [this]
  rfl
theorem are_ties_t {ps : List P2} {ts : List T4} (g : Good ps ts) : ∃ ρ', d_are_ties [.val (.tup (ts.map tieD)), .val (.dK (ptsK ps)), .no] = .rt (.bl true) ρ' := by
  have h0 := @isi_tup (ts.map tieD)
  have h1 : ¬ (600 : Int) < (ts.map tieD).length := by rw [List.length_map]; have := g.nt; omega
  obtain ⟨s, hs, h3⟩ := loop_all (i := 2) (b := (sSeq (sIf (mOr (mNot (tVal (eCall 2 0 d_is_tuple [] (aCons (eVar 2) (aCons (eC (.int 4)) aNil))))) (mOr (mNot (tVal (eCall 1 0 d_is_name [] (aCons (eBin opIx (eVar 2) (eC (.int 0))) aNil)))) (mNot (tVal (eCall 1 1 d_is_kind [] (aCons (eBin opIx (eVar 2) (eC (.int 1))) aNil)))))) (sRet (eC (.bl false))) sSkip)
    (sIf (mOr (mNot (tVal (eCall 1 0 d_is_name [] (aCons (eBin opIx (eVar 2) (eC (.int 2))) aNil)))) (mOr (mNot (tVal (eCall 1 0 d_is_name [] (aCons (eBin opIx (eVar 2) (eC (.int 3))) aNil)))) (mOr (tVal (eBin (opInD true) (eBin opIx (eVar 2) (eC (.int 2))) (eVar 1))) (tVal (eBin (opInD true) (eBin opIx (eVar 2) (eC (.int 3))) (eVar 1)))))) (sRet (eC (.bl false))) sSkip))) (items := ts.map tieD) (ρ := [.val (.tup (ts.map tieD)), .val (.dK (ptsK ps)), .no]) rfl (fun d hd => by
    obtain ⟨t, ht, e⟩ := List.mem_map.mp hd
    subst e
    obtain ⟨k1, k2, k3, k4⟩ := g.tk t ht
    have a1 := is_tuple_t (ds := [.int t.1, .str t.2.1, .int t.2.2.1, .int t.2.2.2]) (n := 4) rfl
    have a2 := is_name_t k1
    obtain ⟨ρ', a3⟩ := is_kind_t k2
    have a4 := look_pts k3
    have a5 := look_pts k4
    have a6 := is_name_t (i := t.2.2.1) (by obtain ⟨p, hp, e⟩ := k3; rw [← e]; exact (g.pk p hp).1)
    have a7 := is_name_t (i := t.2.2.2) (by obtain ⟨p, hp, e⟩ := k4; rw [← e]; exact (g.pk p hp).1)
    unfold tieD
    clear h0 h1 hd g k1 k2 k3 k4
    generalize List.map _ ts = zz
    walk_at "ev")
  obtain ⟨ρ', h4⟩ := are_rising_t (xs := ts.map (·.1)) (by rw [List.length_map]; have := g.nt; omega) g.tr
  have h5 := names_of (i := 2) (ρ := [.val (.tup (ts.map tieD)), .val (.dK (ptsK ps)), s]) (xs := ts) (f := tieD) (g := (·.1)) (fun x => ⟨_, rfl⟩) hs (by have := g.nt; omega)
  refine of_rtv ?_
  clear g
  unfold d_are_ties
  walk_at "ev"
theorem is_net_t {ps : List P2} {ts : List T4} (g : Good ps ts) : ∃ ρ', d_is_net [.val (netD ps ts)] = .rt (.bl true) ρ' := by
  obtain ⟨ρ1, h1⟩ := are_ties_t g
  obtain ⟨ρ2, h2⟩ := points_of_t (ts := ts) g.np g.pr
  obtain ⟨ρ3, h3⟩ := are_points_t g.np g.pk g.pr
  have h4 := is_tuple_t (ds := [.tup (ps.map ptD), .tup (ts.map tieD)]) (n := 2) rfl
  refine of_rtv ?_
  clear g
  unfold d_is_net
  unfold netD at *
  walk_at "ev"
end NT.Pure

set_option Elab.async false
set_option linter.all false
set_option maxRecDepth 100000
set_option maxHeartbeats 4000000
namespace NT.Pure
open PySem L2 NT NT.Den
local macro_rules | `(tactic| walk_at "ev") => `(tactic| simp (maxSteps := 100000000) only [iZip_ap, iDctN_ap, dctO_dK, gT_raw, rtb_rt, wO_nx, wO_rt, wO_rtN, wO_ex, stp_ap, sWhile_ap, wT_ok, sCalm_ap, iDct_ap, dctI_val, rtv_rt, rtvN_rtN, bnd_ok, bnd_ex, bnd_bad, bndO_ok, bndO_ex, bndO_bad, nxt_nx, nxt_rt, nxt_rtN, nxt_ex, nxt_bad, lft_some, mbind_ap, mpure_ap, lift_ap, eC_ap, rdV_val, eVar_ap, eBin_ap, eUn_ap, aNil_ap, aCons_ap, eFn_ap, eTup_ap, eLst_ap, tupO, lstO, tVal_ap, asB_bl, iteR_t, iteR_f, iteO_t, iteO_f, mAnd_ap, mOr_ap, mNot_ap, eAnd_ap, eOr_ap, eNot_ap, eChain_ap, vw_ok, vwN_ok, vwT_ok, eView_ap, eViewN_ap, tView_ap, sDo_ap, sSeq_ap, sSkip_ap, put_ap, sSet_ap, sSetN_ap, sRet_ap, sRetN_ap, sExpr_ap, sIf_ap, sRetO_ap, retO_own, sRaise_ap, sFor_ap, loop_nil, optO_some, sAsg_ap, iteS_t, gN_ap, gT_ap, gsNil_ap, bS_some, gsCons_ap, notBor_val, notBor_own, notBor_no, mineO_own, mineO_bor, with_own, with_bor, optR_some, mutAt_ap, eMut_ap, sPutAt_ap, outE_rt, outE_rtN, outE_nx, outE_ex, outN_rtN, outN_ex, eCall_ap, eCallN_ap, borO_bor, outO_rt, outO_rtN, outO_nx, outO_ex, outON_rtN, outON_ex, callO_ap, callON_ap, eCallO_ap, eCallON_ap, oHere_ap, oThere_ap, seqO_lst, seqO_tup, seqO_scr, iSeq_ap, sgnO_str, iSign_ap, iRange1_ap, iRange2_ap, eComp_ap, eSl_ap, oNone_ap, intO_int, oSome_ap, eGet2_ap, add_int, neg_int, mul_int, sub_int, lt_int, le_int, gt_int, ge_int, mod_int, fdiv_int, len_lst, len_tup, len_scr, len_str, ix_tup', ix_lst', tuple_lst, tuple_tup, list_lst, list_tup, append_lst, isLst_lst, isDct_dK, isDct_dT, is_bl, isNot_bl, plain_int, plain_str, plain_bl, plain_non, plain_tup, plainL_nil, plainL_cons, int_bl, int_int, viewS_val, viewS_own, viewS_bor, viewS_no, atI_0, atI_1, atI_2, atI_3, eq_int, ne_int, eq_bl, ne_bl, sl_tup,
  List.map_cons, List.map_nil, List.replicate_succ, List.replicate_zero, List.append_nil, List.nil_append, List.cons_append, List.length_cons, List.length_nil, List.getElem?_cons_zero, List.getElem?_cons_succ, List.set_cons_zero, List.set_cons_succ, Nat.reduceAdd, Nat.reduceLeDiff, Nat.reduceEqDiff, Int.reduceLT, Int.reduceLE, Int.reduceAdd, Int.reduceSub, Int.reduceNeg, Int.reduceBEq, cast_0, cast_1, cast_2, cast_3, cast_4, cast_5, cast_6, cast_7, cast_8, Int.reduceToNat, decide_true, decide_false, decide_eq_true_eq, if_true, if_false, ite_true, ite_false, reduceIte, Bool.and_true, Bool.true_and, Bool.and_false, Bool.false_and, Bool.or_false, Bool.false_or, Bool.or_true, Bool.true_or, Bool.not_true, Bool.not_false, eq_self, Bool.false_eq_true, and_true, true_and, beq_self_eq_true, Option.map_some, Option.bind_some, *])
/-! things all of whose parts are known -/
mutual
def kd : D → Bool
  | .str x => decide (x.length ≤ 100000)
  | .tup ds => decide (ds.length ≤ 100000) && kdL ds
  | .lst ds => kdL ds
  | .scr _ => false
  | .dT _ => false
  | .exn _ => false
  | .raw _ => false
  | .obj _ _ => false
  | _ => true
def kdL : List D → Bool
  | [] => true
  | d :: ds => kd d && kdL ds
end
theorem kd_kn {d : D} (h : kd d = true) : kn d = true := by
  cases d <;> first | rfl | (unfold kd at h; cases h)
theorem kd_str {d : D} (h : kd d = true) : ∀ x, d = .str x → x.length ≤ 100000 := fun x e => by
  subst e
  unfold kd at h
  exact of_decide_eq_true h
theorem kdL_mem : ∀ {ds : List D}, kdL ds = true → ∀ d ∈ ds, kd d = true
  | [], _, d, h => by cases h
  | e :: ds, h, d, hd => by
    unfold kdL at h
    rw [Bool.and_eq_true] at h
    rcases List.mem_cons.mp hd with q | q
    · rw [q]; exact h.1
    · exact kdL_mem h.2 d q
theorem kdL_of : ∀ {ds : List D}, (∀ d ∈ ds, kd d = true) → kdL ds = true
  | [], _ => by unfold kdL; rfl
  | e :: ds, h => by
    unfold kdL
    rw [h e List.mem_cons_self, kdL_of fun d hd => h d (List.mem_cons_of_mem _ hd)]
    rfl
theorem kd_tup {ds : List D} (h : kd (.tup ds) = true) : kdL ds = true := by
  rw [kd, Bool.and_eq_true] at h
  exact h.2
theorem kd_len {ds : List D} (h : kd (.tup ds) = true) : ds.length ≤ 100000 := by
  rw [kd, Bool.and_eq_true] at h
  exact of_decide_eq_true h.1
/-! rising rows -/
def adjB (f : D → D → Bool) : List D → Bool
  | a :: b :: r => !f b a && adjB f (b :: r)
  | _ => true
theorem rng2_one {n : Nat} (h : n ≤ 100000) : rng2 [.int 1, .int (n : Int)] = some ((List.range' 0 (n - 1)).map fun k => D.int (1 + (k : Nat))) := by
  rw [rng2_eq (by omega), List.range_eq_range', show ((n : Int) - 1).toNat = n - 1 by omega]
theorem are_rising_eq {row : D} {ds : List D} {f : D → D → Bool} (hrow : row = .lst ds ∨ row = .tup ds) (hl : ds.length ≤ 100000) (hf : ∀ a ∈ ds, ∀ b ∈ ds, opLe a b = some (.bl (f a b))) : ∃ ρ', d_are_rising [.val row, .no] = .rt (.bl (adjB f ds)) ρ' := by
  have e1 : opLen [row] = some (.int ds.length) := by rcases hrow with h | h <;> rw [h] <;> rfl
  have e2 := rng2_one hl
  have e3 : ∀ i, opIx row (.int i) = atI ds i := fun i => by rcases hrow with h | h <;> rw [h] <;> rfl
  obtain ⟨I, hI⟩ : ∃ I : List Nat → List Sl → Prop, I = fun xs ρ => ∃ j s, xs = List.range' j (ds.length - 1 - j) ∧ isFree (some s) = true ∧ ρ = [.val row, s] ∧ adjB f ds = adjB f (ds.drop j) := ⟨_, rfl⟩
  refine of_rt ?_
  unfold d_are_rising
  walk_at "ev"
  refine wO_for I ?_ ?_ ?_
  · rw [hI]
    exact ⟨0, .no, rfl, rfl, rfl, by rw [List.drop_zero]⟩
  · intro x xs ρ h
    rw [hI] at h
    obtain ⟨j, s, hx, hs, rfl, ha⟩ := h
    have hn : 0 < ds.length - 1 - j := by
      cases q : ds.length - 1 - j with
      | zero => rw [q] at hx; cases hx
      | succ n => omega
    rw [show ds.length - 1 - j = (ds.length - 1 - (j + 1)) + 1 by omega, List.range'_succ] at hx
    injection hx with hx1 hx2
    subst hx1
    have l1 : x + 1 < ds.length := by omega
    have hd : ds.drop x = ds[x] :: ds[x + 1] :: ds.drop (x + 2) := by
      rw [List.drop_eq_getElem_cons (by omega), List.drop_eq_getElem_cons l1]
    have a1 : atI ds (1 + (x : Nat)) = some ds[x + 1] := atI_some (by omega) (by rw [show ((1 : Int) + (x : Nat)).toNat = x + 1 by omega]; exact List.getElem?_eq_getElem l1)
    have a2 : atI ds (1 + (x : Nat) - 1) = some ds[x] := atI_some (by omega) (by rw [show ((1 : Int) + (x : Nat) - 1).toNat = x by omega]; exact List.getElem?_eq_getElem (by omega))
    have a3 := hf ds[x + 1] (List.getElem_mem l1) ds[x] (List.getElem_mem (by omega))
    have hs := free_nb hs
    rw [hd] at ha
    have ha2 : adjB f ds = (!f ds[x + 1] ds[x] && adjB f (ds[x + 1] :: ds.drop (x + 2))) := ha
    rw [← List.drop_eq_getElem_cons l1] at ha2
    clear hf hrow e1 e2 hd hn ha
    cases q : f ds[x + 1] ds[x] with
    | true =>
      rw [q] at a3 ha2
      have ha : adjB f ds = false := ha2
      clear ha2 hI hx2
      walk_at "ev"
    | false =>
      rw [q] at a3 ha2
      have w : Hid _ := ⟨show adjB f ds = adjB f (ds.drop (x + 1)) from ha2⟩
      have w2 := Hid.mk hI
      have w3 := Hid.mk hx2
      clear ha2 hI hx2
      walk_at "ev"
      rw [w2.out]
      exact ⟨x + 1, _, w3.out, rfl, rfl, w.out⟩
  · intro ρ h
    rw [hI] at h
    obtain ⟨j, s, hx, hs, rfl, ha⟩ := h
    have hz : ds.length - 1 - j = 0 := by
      have := congrArg List.length hx
      simpa using this.symm
    have hd : adjB f (ds.drop j) = true := by
      have : (ds.drop j).length ≤ 1 := by rw [List.length_drop]; omega
      match ds.drop j, this with
      | [], _ => rfl
      | [_], _ => rfl
    rw [hd] at ha
    clear hx hd hf e3 hI
    walk_at "ev"
end NT.Pure

set_option Elab.async false
set_option linter.all false
set_option maxRecDepth 100000
set_option maxHeartbeats 4000000
namespace NT.Pure
open PySem L2 NT NT.Den
local macro_rules | `(tactic| walk_at "ev") => `(tactic| simp (maxSteps := 100000000) only [iZip_ap, iDctN_ap, dctO_dK, gT_raw, rtb_rt, wO_nx, wO_rt, wO_rtN, wO_ex, stp_ap, sWhile_ap, wT_ok, sCalm_ap, iDct_ap, dctI_val, rtv_rt, rtvN_rtN, bnd_ok, bnd_ex, bnd_bad, bndO_ok, bndO_ex, bndO_bad, nxt_nx, nxt_rt, nxt_rtN, nxt_ex, nxt_bad, lft_some, mbind_ap, mpure_ap, lift_ap, eC_ap, rdV_val, eVar_ap, eBin_ap, eUn_ap, aNil_ap, aCons_ap, eFn_ap, eTup_ap, eLst_ap, tupO, lstO, tVal_ap, asB_bl, iteR_t, iteR_f, iteO_t, iteO_f, mAnd_ap, mOr_ap, mNot_ap, eAnd_ap, eOr_ap, eNot_ap, eChain_ap, vw_ok, vwN_ok, vwT_ok, eView_ap, eViewN_ap, tView_ap, sDo_ap, sSeq_ap, sSkip_ap, put_ap, sSet_ap, sSetN_ap, sRet_ap, sRetN_ap, sExpr_ap, sIf_ap, sRetO_ap, retO_own, sRaise_ap, sFor_ap, loop_nil, optO_some, sAsg_ap, iteS_t, gN_ap, gT_ap, gsNil_ap, bS_some, gsCons_ap, notBor_val, notBor_own, notBor_no, mineO_own, mineO_bor, with_own, with_bor, optR_some, mutAt_ap, eMut_ap, sPutAt_ap, outE_rt, outE_rtN, outE_nx, outE_ex, outN_rtN, outN_ex, eCall_ap, eCallN_ap, borO_bor, outO_rt, outO_rtN, outO_nx, outO_ex, outON_rtN, outON_ex, callO_ap, callON_ap, eCallO_ap, eCallON_ap, oHere_ap, oThere_ap, seqO_lst, seqO_tup, seqO_scr, iSeq_ap, sgnO_str, iSign_ap, iRange1_ap, iRange2_ap, eComp_ap, eSl_ap, oNone_ap, intO_int, oSome_ap, eGet2_ap, add_int, neg_int, mul_int, sub_int, lt_int, le_int, gt_int, ge_int, mod_int, fdiv_int, len_lst, len_tup, len_scr, len_str, ix_tup', ix_lst', tuple_lst, tuple_tup, list_lst, list_tup, append_lst, isLst_lst, isDct_dK, isDct_dT, is_bl, isNot_bl, plain_int, plain_str, plain_bl, plain_non, plain_tup, plainL_nil, plainL_cons, int_bl, int_int, viewS_val, viewS_own, viewS_bor, viewS_no, atI_0, atI_1, atI_2, atI_3, eq_int, ne_int, eq_bl, ne_bl, sl_tup,
  List.map_cons, List.map_nil, List.replicate_succ, List.replicate_zero, List.append_nil, List.nil_append, List.cons_append, List.length_cons, List.length_nil, List.getElem?_cons_zero, List.getElem?_cons_succ, List.set_cons_zero, List.set_cons_succ, Nat.reduceAdd, Nat.reduceLeDiff, Nat.reduceEqDiff, Int.reduceLT, Int.reduceLE, Int.reduceAdd, Int.reduceSub, Int.reduceNeg, Int.reduceBEq, cast_0, cast_1, cast_2, cast_3, cast_4, cast_5, cast_6, cast_7, cast_8, Int.reduceToNat, decide_true, decide_false, decide_eq_true_eq, if_true, if_false, ite_true, ite_false, reduceIte, Bool.and_true, Bool.true_and, Bool.and_false, Bool.false_and, Bool.or_false, Bool.false_or, Bool.or_true, Bool.true_or, Bool.not_true, Bool.not_false, eq_self, Bool.false_eq_true, and_true, true_and, beq_self_eq_true, Option.map_some, Option.bind_some, *])
/-! nets: what the checks tell of anything known -/
def tupN (n : Int) : D → Bool
  | .tup ds => (ds.length : Int) == n
  | _ => false
theorem is_tuple_eq {d : D} {n : Int} (h : kn d = true) : d_is_tuple [.val d, .val (.int n)] = .rt (.bl (tupN n d)) [.val d, .val (.int n)] := by
  cases d with
  | tup ds =>
    have h0 := @isi_tup ds
    unfold d_is_tuple tupN
    walk_at "ev"
  | scr _ => cases h
  | dT _ => cases h
  | exn _ => cases h
  | raw _ => cases h
  | obj _ _ => cases h
  | _ => rfl
theorem tup2_of {d : D} (h : tupN 2 d = true) : ∃ a b, d = .tup [a, b] := by
  cases d <;> first | (cases h; done) | skip
  rename_i ds
  match ds, h with
  | [a, b], _ => exact ⟨a, b, rfl⟩
  | [], h => cases h
  | [_], h => cases h
  | _ :: _ :: _ :: _, h =>
    exfalso
    unfold tupN at h
    simp only [List.length_cons] at h
    have := of_decide_eq_true h
    omega
theorem tup4_of {d : D} (h : tupN 4 d = true) : ∃ a b c e, d = .tup [a, b, c, e] := by
  cases d <;> first | (cases h; done) | skip
  rename_i ds
  match ds, h with
  | [a, b, c, e], _ => exact ⟨a, b, c, e, rfl⟩
  | [], h => cases h
  | [_], h => cases h
  | [_, _], h => cases h
  | [_, _, _], h => cases h
  | _ :: _ :: _ :: _ :: _ :: _, h =>
    exfalso
    unfold tupN at h
    simp only [List.length_cons] at h
    have := of_decide_eq_true h
    omega
theorem tup5_of {d : D} (h : tupN 5 d = true) : ∃ a b c e f, d = .tup [a, b, c, e, f] := by
  cases d <;> first | (cases h; done) | skip
  rename_i ds
  match ds, h with
  | [a, b, c, e, f], _ => exact ⟨a, b, c, e, f, rfl⟩
  | [], h => cases h
  | [_], h => cases h
  | [_, _], h => cases h
  | [_, _, _], h => cases h
  | [_, _, _, _], h => cases h
  | _ :: _ :: _ :: _ :: _ :: _ :: _, h =>
    exfalso
    unfold tupN at h
    simp only [List.length_cons] at h
    have := of_decide_eq_true h
    omega
def hasP (ps : List P2) (n : Int) : Bool := ps.any fun p => p.1 == n
def ptOf : D → Option P2
  | .tup [.int i, .str x] => if (decide (0 ≤ i) && decide (i ≤ 1000000)) && isKindS x then some (i, x) else none
  | _ => none
def nmB (i : Int) : Bool := decide (0 ≤ i) && decide (i ≤ 1000000)
def tieOf (ps : List P2) : D → Option T4
  | .tup [.int i, .str x, .int b, .int e] => if nmB i && (isKindS x && (nmB b && (nmB e && (hasP ps b && hasP ps e)))) then some (i, x, b, e) else none
  | _ => none
def mapO {α : Type} (f : D → Option α) : List D → Option (List α)
  | [] => some []
  | d :: ds => match f d, mapO f ds with
    | some x, some xs => some (x :: xs)
    | _, _ => none
def risI : List Int → Bool
  | a :: b :: r => decide (a < b) && risI (b :: r)
  | _ => true
def ptsOf : D → Option (List P2)
  | .tup ds => if ds.length ≤ 400 then match mapO ptOf ds with
    | some ps => if risI (ps.map (·.1)) then some ps else none
    | none => none
    else none
  | _ => none
def tiesOf (ps : List P2) : D → Option (List T4)
  | .tup ds => if ds.length ≤ 600 then match mapO (tieOf ps) ds with
    | some ts => if risI (ts.map (·.1)) then some ts else none
    | none => none
    else none
  | _ => none
def netOf : D → Option (List P2 × List T4)
  | .tup [p, t] => match ptsOf p with
    | some ps => match tiesOf ps t with
      | some ts => some (ps, ts)
      | none => none
    | none => none
  | _ => none
theorem risI_pw : ∀ {xs : List Int}, risI xs = true → xs.Pairwise (· < ·)
  | [], _ => List.Pairwise.nil
  | [_], _ => List.pairwise_singleton _ _
  | a :: b :: r, h => by
    unfold risI at h
    rw [Bool.and_eq_true] at h
    have h1 : a < b := of_decide_eq_true h.1
    have h2 := risI_pw h.2
    rw [List.pairwise_cons]
    refine ⟨fun x hx => ?_, h2⟩
    rcases List.mem_cons.mp hx with e | e
    · rw [e]; exact h1
    · have := (List.pairwise_cons.mp h2).1 x e
      omega
theorem pw_risI : ∀ {xs : List Int}, xs.Pairwise (· < ·) → risI xs = true
  | [], _ => rfl
  | [_], _ => rfl
  | a :: b :: r, h => by
    unfold risI
    rw [List.pairwise_cons] at h
    rw [decide_eq_true (h.1 b List.mem_cons_self), pw_risI h.2]
    rfl
theorem adj_ints {f : D → D → Bool} (hf : ∀ i j : Int, f (.int i) (.int j) = decide (i ≤ j)) : ∀ {xs : List Int}, adjB f (xs.map .int) = risI xs
  | [] => rfl
  | [_] => rfl
  | a :: b :: r => by
    show (!f (.int b) (.int a) && adjB f ((b :: r).map .int)) = (decide (a < b) && risI (b :: r))
    rw [adj_ints hf, hf]
    congr 1
    by_cases h : a < b
    · rw [decide_eq_true h, decide_eq_false (by omega)]
      rfl
    · rw [decide_eq_false h, decide_eq_true (by omega)]
      rfl
def leI : D → D → Bool
  | .int i, .int j => decide (i ≤ j)
  | _, _ => false
theorem rising_ints {row : D} {xs : List Int} (hrow : row = .lst (xs.map .int) ∨ row = .tup (xs.map .int)) (hl : xs.length ≤ 100000) : ∃ ρ', d_are_rising [.val row, .no] = .rt (.bl (risI xs)) ρ' := by
  obtain ⟨ρ', e⟩ := are_rising_eq (f := leI) hrow (by rw [List.length_map]; exact hl) (fun a ha b hb => by
    obtain ⟨i, _, e1⟩ := List.mem_map.mp ha
    obtain ⟨j, _, e2⟩ := List.mem_map.mp hb
    subst e1
    subst e2
    rfl)
  rw [adj_ints fun i j => rfl] at e
  exact ⟨ρ', e⟩
theorem ptOf_some {d : D} {p : P2} (h : ptOf d = some p) : d = ptD p ∧ nameOk p.1 ∧ isKindS p.2 = true := by
  unfold ptOf at h
  split at h
  · split at h
    · rename_i i x hc
      cases h
      simp only [Bool.and_eq_true, decide_eq_true_eq] at hc
      exact ⟨rfl, hc.1, hc.2⟩
    · cases h
  · cases h
theorem mapO_some {α : Type} {f : D → Option α} {g : α → D} {P : α → Prop} (hf : ∀ d x, f d = some x → d = g x ∧ P x) : ∀ {ds : List D} {xs : List α}, mapO f ds = some xs → ds = xs.map g ∧ ∀ x ∈ xs, P x
  | [], _, h => by cases h; exact ⟨rfl, fun x hx => by cases hx⟩
  | d :: ds, _, h => by
    unfold mapO at h
    split at h
    · rename_i x xs h1 h2
      cases h
      obtain ⟨e1, p1⟩ := hf d x h1
      obtain ⟨e2, p2⟩ := mapO_some hf h2
      refine ⟨by rw [e1, e2]; rfl, fun y hy => ?_⟩
      rcases List.mem_cons.mp hy with q | q
      · rw [q]; exact p1
      · exact p2 y q
    · cases h
theorem mapO_of {α : Type} {f : D → Option α} {g : α → D} : ∀ {xs : List α}, (∀ x ∈ xs, f (g x) = some x) → mapO f (xs.map g) = some xs
  | [], _ => rfl
  | x :: xs, h => by
    unfold List.map mapO
    rw [h x List.mem_cons_self, mapO_of fun y hy => h y (List.mem_cons_of_mem _ hy)]
theorem hasP_mem {ps : List P2} {n : Int} : hasP ps n = true ↔ ∃ p ∈ ps, p.1 = n := by
  unfold hasP
  rw [List.any_eq_true]
  exact ⟨fun ⟨p, h1, h2⟩ => ⟨p, h1, by simpa using h2⟩, fun ⟨p, h1, h2⟩ => ⟨p, h1, by simpa using h2⟩⟩
theorem tieOf_some {ps : List P2} {d : D} {t : T4} (h : tieOf ps d = some t) : d = tieD t ∧ nameOk t.1 ∧ isKindS t.2.1 = true ∧ (∃ p ∈ ps, p.1 = t.2.2.1) ∧ ∃ p ∈ ps, p.1 = t.2.2.2 := by
  unfold tieOf at h
  split at h
  · split at h
    · rename_i i x b e hc
      cases h
      unfold nmB at hc
      simp only [Bool.and_eq_true, decide_eq_true_eq] at hc
      exact ⟨rfl, hc.1, hc.2.1, hasP_mem.mp hc.2.2.2.2.1, hasP_mem.mp hc.2.2.2.2.2⟩
    · cases h
  · cases h
theorem ptsOf_some {d : D} {ps : List P2} (h : ptsOf d = some ps) : d = .tup (ps.map ptD) ∧ ps.length ≤ 400 ∧ (∀ p ∈ ps, nameOk p.1 ∧ isKindS p.2 = true) ∧ (ps.map (·.1)).Pairwise (· < ·) := by
  unfold ptsOf at h
  split at h
  · rename_i ds
    split at h
    · rename_i hl
      split at h
      · rename_i qs hq
        split at h
        · rename_i hr
          cases h
          obtain ⟨e1, p1⟩ := mapO_some (g := ptD) (P := fun p => nameOk p.1 ∧ isKindS p.2 = true) (fun d x h => ptOf_some h) hq
          subst e1
          rw [List.length_map] at hl
          exact ⟨rfl, hl, p1, risI_pw hr⟩
        · cases h
      · cases h
    · cases h
  · cases h
theorem tiesOf_some {ps : List P2} {d : D} {ts : List T4} (h : tiesOf ps d = some ts) : d = .tup (ts.map tieD) ∧ ts.length ≤ 600 ∧ (∀ t ∈ ts, nameOk t.1 ∧ isKindS t.2.1 = true ∧ (∃ p ∈ ps, p.1 = t.2.2.1) ∧ ∃ p ∈ ps, p.1 = t.2.2.2) ∧ (ts.map (·.1)).Pairwise (· < ·) := by
  unfold tiesOf at h
  split at h
  · rename_i ds
    split at h
    · rename_i hl
      split at h
      · rename_i qs hq
        split at h
        · rename_i hr
          cases h
          obtain ⟨e1, p1⟩ := mapO_some (g := tieD) (P := fun t => nameOk t.1 ∧ isKindS t.2.1 = true ∧ (∃ p ∈ ps, p.1 = t.2.2.1) ∧ ∃ p ∈ ps, p.1 = t.2.2.2) (fun d x h => tieOf_some h) hq
          subst e1
          rw [List.length_map] at hl
          exact ⟨rfl, hl, p1, risI_pw hr⟩
        · cases h
      · cases h
    · cases h
  · cases h
theorem netOf_some {d : D} {ps : List P2} {ts : List T4} (h : netOf d = some (ps, ts)) : d = netD ps ts ∧ Good ps ts := by
  unfold netOf at h
  split at h
  · split at h
    · rename_i qs h1
      split at h
      · rename_i us h2
        cases h
        obtain ⟨e1, a1, a2, a3⟩ := ptsOf_some h1
        obtain ⟨e2, b1, b2, b3⟩ := tiesOf_some h2
        subst e1
        subst e2
        exact ⟨rfl, a1, b1, a2, b2, a3, b3⟩
      · cases h
    · cases h
  · cases h
theorem nmB_ok {i : Int} (h : nameOk i) : nmB i = true := by
  unfold nmB
  rw [decide_eq_true h.1, decide_eq_true h.2]
  rfl
theorem ptsOf_of {ps : List P2} (np : ps.length ≤ 400) (pk : ∀ p ∈ ps, nameOk p.1 ∧ isKindS p.2 = true) (pr : (ps.map (·.1)).Pairwise (· < ·)) : ptsOf (.tup (ps.map ptD)) = some ps := by
  unfold ptsOf
  dsimp only
  rw [if_pos (by rw [List.length_map]; exact np), mapO_of (g := ptD) fun p hp => ?_]
  · dsimp only
    rw [pw_risI pr]
    rfl
  · show (if (nmB p.1) && isKindS p.2 then some (p.1, p.2) else none) = _
    rw [nmB_ok (pk p hp).1, (pk p hp).2]
    rfl
theorem netOf_of {ps : List P2} {ts : List T4} (g : Good ps ts) : netOf (netD ps ts) = some (ps, ts) := by
  unfold netOf netD
  dsimp only
  rw [ptsOf_of g.np g.pk g.pr]
  dsimp only
  have h : tiesOf ps (.tup (ts.map tieD)) = some ts := by
    unfold tiesOf
    dsimp only
    rw [if_pos (by rw [List.length_map]; exact g.nt), mapO_of (g := tieD) fun t ht => ?_]
    · dsimp only
      rw [pw_risI g.tr]
      rfl
    · obtain ⟨k1, k2, k3, k4⟩ := g.tk t ht
      show (if nmB t.1 && (isKindS t.2.1 && (nmB t.2.2.1 && (nmB t.2.2.2 && (hasP ps t.2.2.1 && hasP ps t.2.2.2)))) then some (t.1, t.2.1, t.2.2.1, t.2.2.2) else none) = _
      have n1 : nmB t.2.2.1 = true := by obtain ⟨p, hp, e⟩ := k3; rw [← e]; exact nmB_ok (g.pk p hp).1
      have n2 : nmB t.2.2.2 = true := by obtain ⟨p, hp, e⟩ := k4; rw [← e]; exact nmB_ok (g.pk p hp).1
      rw [nmB_ok k1, k2, n1, n2, hasP_mem.mpr k3, hasP_mem.mpr k4]
      rfl
  rw [h]
end NT.Pure

set_option Elab.async false
set_option linter.all false
set_option maxRecDepth 100000
set_option maxHeartbeats 4000000
namespace NT.Pure
open PySem L2 NT NT.Den
local macro_rules | `(tactic| walk_at "ev") => `(tactic| simp (maxSteps := 100000000) only [iZip_ap, iDctN_ap, dctO_dK, gT_raw, rtb_rt, wO_nx, wO_rt, wO_rtN, wO_ex, stp_ap, sWhile_ap, wT_ok, sCalm_ap, iDct_ap, dctI_val, rtv_rt, rtvN_rtN, bnd_ok, bnd_ex, bnd_bad, bndO_ok, bndO_ex, bndO_bad, nxt_nx, nxt_rt, nxt_rtN, nxt_ex, nxt_bad, lft_some, mbind_ap, mpure_ap, lift_ap, eC_ap, rdV_val, eVar_ap, eBin_ap, eUn_ap, aNil_ap, aCons_ap, eFn_ap, eTup_ap, eLst_ap, tupO, lstO, tVal_ap, asB_bl, iteR_t, iteR_f, iteO_t, iteO_f, mAnd_ap, mOr_ap, mNot_ap, eAnd_ap, eOr_ap, eNot_ap, eChain_ap, vw_ok, vwN_ok, vwT_ok, eView_ap, eViewN_ap, tView_ap, sDo_ap, sSeq_ap, sSkip_ap, put_ap, sSet_ap, sSetN_ap, sRet_ap, sRetN_ap, sExpr_ap, sIf_ap, sRetO_ap, retO_own, sRaise_ap, sFor_ap, loop_nil, optO_some, sAsg_ap, iteS_t, gN_ap, gT_ap, gsNil_ap, bS_some, gsCons_ap, notBor_val, notBor_own, notBor_no, mineO_own, mineO_bor, with_own, with_bor, optR_some, mutAt_ap, eMut_ap, sPutAt_ap, outE_rt, outE_rtN, outE_nx, outE_ex, outN_rtN, outN_ex, eCall_ap, eCallN_ap, borO_bor, outO_rt, outO_rtN, outO_nx, outO_ex, outON_rtN, outON_ex, callO_ap, callON_ap, eCallO_ap, eCallON_ap, oHere_ap, oThere_ap, seqO_lst, seqO_tup, seqO_scr, iSeq_ap, sgnO_str, iSign_ap, iRange1_ap, iRange2_ap, eComp_ap, eSl_ap, oNone_ap, intO_int, oSome_ap, eGet2_ap, add_int, neg_int, mul_int, sub_int, lt_int, le_int, gt_int, ge_int, mod_int, fdiv_int, len_lst, len_tup, len_scr, len_str, ix_tup', ix_lst', tuple_lst, tuple_tup, list_lst, list_tup, append_lst, isLst_lst, isDct_dK, isDct_dT, is_bl, isNot_bl, plain_int, plain_str, plain_bl, plain_non, plain_tup, plainL_nil, plainL_cons, int_bl, int_int, viewS_val, viewS_own, viewS_bor, viewS_no, atI_0, atI_1, atI_2, atI_3, eq_int, ne_int, eq_bl, ne_bl, sl_tup,
  List.map_cons, List.map_nil, List.replicate_succ, List.replicate_zero, List.append_nil, List.nil_append, List.cons_append, List.length_cons, List.length_nil, List.getElem?_cons_zero, List.getElem?_cons_succ, List.set_cons_zero, List.set_cons_succ, Nat.reduceAdd, Nat.reduceLeDiff, Nat.reduceEqDiff, Int.reduceLT, Int.reduceLE, Int.reduceAdd, Int.reduceSub, Int.reduceNeg, Int.reduceBEq, cast_0, cast_1, cast_2, cast_3, cast_4, cast_5, cast_6, cast_7, cast_8, Int.reduceToNat, decide_true, decide_false, decide_eq_true_eq, if_true, if_false, ite_true, ite_false, reduceIte, Bool.and_true, Bool.true_and, Bool.and_false, Bool.false_and, Bool.or_false, Bool.false_or, Bool.or_true, Bool.true_or, Bool.not_true, Bool.not_false, eq_self, Bool.false_eq_true, and_true, true_and, beq_self_eq_true, Option.map_some, Option.bind_some, *])
theorem mapO_cons {α : Type} {f : D → Option α} {d : D} {ds : List D} : mapO f (d :: ds) = match f d, mapO f ds with | some x, some xs => some (x :: xs) | _, _ => none := rfl
theorem mapO_none {α : Type} {f : D → Option α} {d : D} : ∀ {ds : List D}, d ∈ ds → f d = none → mapO f ds = none
  | e :: ds, h, hn => by
    rcases List.mem_cons.mp h with q | q
    · rw [mapO_cons, ← q, hn]
    · rw [mapO_cons, mapO_none q hn]
      cases f e <;> rfl
theorem mapO_all {α : Type} {f : D → Option α} : ∀ {ds : List D}, (∀ d ∈ ds, f d ≠ none) → ∃ xs, mapO f ds = some xs
  | [], _ => ⟨[], rfl⟩
  | d :: ds, h => by
    obtain ⟨xs, e⟩ := mapO_all fun x hx => h x (List.mem_cons_of_mem _ hx)
    cases q : f d with
    | none => exact (h d List.mem_cons_self q).elim
    | some x => exact ⟨x :: xs, by rw [mapO_cons, q, e]⟩
theorem names_comp {α : Type} {i : Nat} {ρ : List Sl} {xs : List α} {f : α → D} {g : α → Int} (hf : ∀ x, ∃ ds, f x = .tup (.int (g x) :: ds)) (hi : isFree ρ[i]? = true) (hl : xs.length ≤ 100000) : compL (gN i) (mpure true) (eBin opIx (eVar i) (eC (.int 0))) [i] (xs.map f) [] ρ = .ok ((xs.map g).map .int) ρ := names_of hf hi hl
theorem are_points_eq {d : D} (hk : kd d = true) : ∃ ρ', d_are_points [.val d, .no] = .rt (.bl (ptsOf d).isSome) ρ' := by
  cases d with
  | tup ds =>
    replace hk := kd_tup hk
    have h0 := @isi_tup ds
    by_cases hl : (400 : Int) < ds.length
    · have e : ptsOf (.tup ds) = none := by
        show (if ds.length ≤ 400 then _ else none) = _
        rw [if_neg (by omega)]
      rw [e]
      refine of_rt ?_
      unfold d_are_points
      clear hk e
      walk_at "ev"
      rfl
    · have hl' : ds.length ≤ 400 := by omega
      obtain ⟨I, hI⟩ : ∃ I : List D → List Sl → Prop, I = fun xs ρ => ∃ pre s, ds = pre ++ xs ∧ isFree (some s) = true ∧ ρ = [.val (.tup ds), s] ∧ ∀ d ∈ pre, ptOf d ≠ none := ⟨_, rfl⟩
      refine of_rt ?_
      unfold d_are_points
      walk_at "ev"
      refine wO_forD I ?_ ?_ ?_
      · rw [hI]
        exact ⟨[], .no, rfl, rfl, rfl, fun d h => by cases h⟩
      · intro x xs ρ h
        rw [hI] at h
        obtain ⟨pre, s, hx, hs, rfl, hp⟩ := h
        have hm : x ∈ ds := by rw [hx]; exact List.mem_append_right _ List.mem_cons_self
        have kx := kdL_mem hk x hm
        have e1 := is_tuple_eq (n := 2) (kd_kn kx)
        have hs := free_nb hs
        have bad : ptOf x = none → ptsOf (.tup ds) = none := fun e => by
          show (if ds.length ≤ 400 then match mapO ptOf ds with
            | some ps => if risI (ps.map (·.1)) then some ps else none
            | none => none
            else none) = _
          rw [if_pos hl', mapO_none hm e]
        have good : ptOf x ≠ none → Hid (I xs [.val (.tup ds), .val x]) := fun e => ⟨by
          rw [hI]
          refine ⟨pre ++ [x], _, by rw [hx, List.append_assoc]; rfl, rfl, rfl, fun d hd => ?_⟩
          rcases List.mem_append.mp hd with q | q
          · exact hp d q
          · rw [List.mem_singleton] at q; rw [q]; exact e⟩
        clear hI hx hp hk hm hl hl' h0
        cases ht : tupN 2 x with
        | false =>
          rw [ht] at e1
          have hn : ptOf x = none := by
            cases q : ptOf x with
            | none => rfl
            | some p =>
              rw [(ptOf_some q).1] at ht
              cases ht
          have b := bad hn
          clear bad good ht hn
          walk_at "ev"
          rfl
        | true =>
          obtain ⟨n, kk, e⟩ := tup2_of ht
          subst e
          rw [ht] at e1
          replace kx := kd_tup kx
          have kn1 := kdL_mem kx n List.mem_cons_self
          have kn2 := kdL_mem kx kk (List.mem_cons_of_mem _ List.mem_cons_self)
          have e2 := is_name_eq (kd_kn kn1)
          obtain ⟨ρ', e3⟩ := is_kind_eq (kd_kn kn2) (kd_str kn2)
          have key : (ptOf (.tup [n, kk])).isSome = (isNameD n && isKindD kk) := by
            cases n <;> first | rfl | skip
            · cases kk <;> first | (unfold isKindD; rw [Bool.and_false]; rfl) | skip
              rename_i i x
              show (if (nmB i) && isKindS x then some (i, x) else none).isSome = (nmB i && isKindS x)
              cases (nmB i && isKindS x) <;> rfl
          cases q : isNameD n && isKindD kk with
          | true =>
            rw [Bool.and_eq_true] at q
            rw [q.1] at e2
            rw [q.2] at e3
            have g := good (fun z => by rw [z, q.1, q.2] at key; cases key)
            clear bad good key q ht kx kn1 kn2
            walk_at "ev"
            exact g.out
          | false =>
            have b := bad (by
              cases z : ptOf (.tup [n, kk]) with
              | none => rfl
              | some p => rw [z, q] at key; cases key)
            clear bad good key ht kx kn1 kn2
            rw [Bool.and_eq_false_iff] at q
            cases q1 : isNameD n with
            | false => rw [q1] at e2; clear q1 q; walk_at "ev"; rfl
            | true =>
              have q2 := q.resolve_left (by rw [q1]; exact fun z => by cases z)
              rw [q1] at e2
              rw [q2] at e3
              clear q1 q q2
              walk_at "ev"
              rfl
      · intro ρ h
        rw [hI] at h
        obtain ⟨pre, s, hx, hs, rfl, hp⟩ := h
        rw [List.append_nil] at hx
        obtain ⟨ps, e⟩ := mapO_all (f := ptOf) (ds := ds) (fun d hd => hp d (by rw [← hx]; exact hd))
        obtain ⟨e1, p1⟩ := mapO_some (g := ptD) (P := fun p => nameOk p.1 ∧ isKindS p.2 = true) (fun d x h => ptOf_some h) e
        have l2 : ps.length ≤ 400 := by rw [e1, List.length_map] at hl'; exact hl'
        obtain ⟨ρ', h4⟩ := rising_ints (row := .lst ((ps.map (·.1)).map .int)) (xs := ps.map (·.1)) (.inl rfl) (by rw [List.length_map]; omega)
        have h5 := names_of (i := 1) (ρ := [.val (.tup ds), s]) (xs := ps) (f := ptD) (g := (·.1)) (fun x => ⟨_, rfl⟩) hs (by omega)
        rw [← e1] at h5
        have h6 : (ptsOf (.tup ds)).isSome = risI (ps.map (·.1)) := by
          show (if ds.length ≤ 400 then match mapO ptOf ds with
            | some ps => if risI (ps.map (·.1)) then some ps else none
            | none => none
            else none).isSome = _
          rw [if_pos hl', e]
          dsimp only
          cases risI (ps.map (·.1)) <;> rfl
        clear hI hx hp hk hl hl' h0 e e1 p1 l2
        generalize risI (ps.map (·.1)) = rr at *
        generalize (ps.map (·.1)).map D.int = zz at *
        walk_at "ev"
  | scr _ => exact absurd (kd_kn hk) (by intro z; cases z)
  | dT _ => exact absurd (kd_kn hk) (by intro z; cases z)
  | exn _ => exact absurd (kd_kn hk) (by intro z; cases z)
  | raw _ => exact absurd (kd_kn hk) (by intro z; cases z)
  | obj _ _ => exact absurd (kd_kn hk) (by intro z; cases z)
  | _ => exact ⟨_, rfl⟩
end NT.Pure

set_option Elab.async false
set_option linter.all false
set_option maxRecDepth 100000
set_option maxHeartbeats 4000000
namespace NT.Pure
open PySem L2 NT NT.Den
local macro_rules | `(tactic| walk_at "ev") => `(tactic| simp (maxSteps := 100000000) only [iZip_ap, iDctN_ap, dctO_dK, gT_raw, rtb_rt, wO_nx, wO_rt, wO_rtN, wO_ex, stp_ap, sWhile_ap, wT_ok, sCalm_ap, iDct_ap, dctI_val, rtv_rt, rtvN_rtN, bnd_ok, bnd_ex, bnd_bad, bndO_ok, bndO_ex, bndO_bad, nxt_nx, nxt_rt, nxt_rtN, nxt_ex, nxt_bad, lft_some, mbind_ap, mpure_ap, lift_ap, eC_ap, rdV_val, eVar_ap, eBin_ap, eUn_ap, aNil_ap, aCons_ap, eFn_ap, eTup_ap, eLst_ap, tupO, lstO, tVal_ap, asB_bl, iteR_t, iteR_f, iteO_t, iteO_f, mAnd_ap, mOr_ap, mNot_ap, eAnd_ap, eOr_ap, eNot_ap, eChain_ap, vw_ok, vwN_ok, vwT_ok, eView_ap, eViewN_ap, tView_ap, sDo_ap, sSeq_ap, sSkip_ap, put_ap, sSet_ap, sSetN_ap, sRet_ap, sRetN_ap, sExpr_ap, sIf_ap, sRetO_ap, retO_own, sRaise_ap, sFor_ap, loop_nil, optO_some, sAsg_ap, iteS_t, gN_ap, gT_ap, gsNil_ap, bS_some, gsCons_ap, notBor_val, notBor_own, notBor_no, mineO_own, mineO_bor, with_own, with_bor, optR_some, mutAt_ap, eMut_ap, sPutAt_ap, outE_rt, outE_rtN, outE_nx, outE_ex, outN_rtN, outN_ex, eCall_ap, eCallN_ap, borO_bor, outO_rt, outO_rtN, outO_nx, outO_ex, outON_rtN, outON_ex, callO_ap, callON_ap, eCallO_ap, eCallON_ap, oHere_ap, oThere_ap, seqO_lst, seqO_tup, seqO_scr, iSeq_ap, sgnO_str, iSign_ap, iRange1_ap, iRange2_ap, eComp_ap, eSl_ap, oNone_ap, intO_int, oSome_ap, eGet2_ap, add_int, neg_int, mul_int, sub_int, lt_int, le_int, gt_int, ge_int, mod_int, fdiv_int, len_lst, len_tup, len_scr, len_str, ix_tup', ix_lst', tuple_lst, tuple_tup, list_lst, list_tup, append_lst, isLst_lst, isDct_dK, isDct_dT, is_bl, isNot_bl, plain_int, plain_str, plain_bl, plain_non, plain_tup, plainL_nil, plainL_cons, int_bl, int_int, viewS_val, viewS_own, viewS_bor, viewS_no, atI_0, atI_1, atI_2, atI_3, eq_int, ne_int, eq_bl, ne_bl, sl_tup,
  List.map_cons, List.map_nil, List.replicate_succ, List.replicate_zero, List.append_nil, List.nil_append, List.cons_append, List.length_cons, List.length_nil, List.getElem?_cons_zero, List.getElem?_cons_succ, List.set_cons_zero, List.set_cons_succ, Nat.reduceAdd, Nat.reduceLeDiff, Nat.reduceEqDiff, Int.reduceLT, Int.reduceLE, Int.reduceAdd, Int.reduceSub, Int.reduceNeg, Int.reduceBEq, cast_0, cast_1, cast_2, cast_3, cast_4, cast_5, cast_6, cast_7, cast_8, Int.reduceToNat, decide_true, decide_false, decide_eq_true_eq, if_true, if_false, ite_true, ite_false, reduceIte, Bool.and_true, Bool.true_and, Bool.and_false, Bool.false_and, Bool.or_false, Bool.false_or, Bool.or_true, Bool.true_or, Bool.not_true, Bool.not_false, eq_self, Bool.false_eq_true, and_true, true_and, beq_self_eq_true, Option.map_some, Option.bind_some, *])
theorem look_has {ps : List P2} {i : Int} : (lookD (ptsK ps) (.inl i)).isSome = hasP ps i := by
  unfold lookD hasP ptsK
  rw [Option.isSome_map]
  induction ps with
  | nil => rfl
  | cons p ps ih =>
    rw [List.map_cons, List.find?_cons, List.any_cons]
    by_cases h : p.1 = i
    · rw [show decide ((Sum.inl p.1 : Key) = Sum.inl i) = true from decide_eq_true (by rw [h]), show (p.1 == i) = true from by simpa using h]
      rfl
    · rw [show decide ((Sum.inl p.1 : Key) = Sum.inl i) = false from decide_eq_false (fun z => h (Sum.inl.inj z)), show (p.1 == i) = false from by simpa using h]
      exact ih
theorem notin_pts {ps : List P2} {i : Int} : opInD true (.int i) (.dK (ptsK ps)) = some (.bl (!hasP ps i)) := by
  show some (D.bl (!(lookD (ptsK ps) (.inl i)).isSome)) = _
  rw [look_has]
theorem in_pts {ps : List P2} {i : Int} : opInD false (.int i) (.dK (ptsK ps)) = some (.bl (hasP ps i)) := by
  show some (D.bl ((lookD (ptsK ps) (.inl i)).isSome)) = _
  rw [look_has]
def inPB (ps : List P2) : D → Bool
  | .int i => hasP ps i
  | _ => false
theorem are_ties_eq {ps : List P2} {d : D} (hk : kd d = true) : ∃ ρ', d_are_ties [.val d, .val (.dK (ptsK ps)), .no] = .rt (.bl (tiesOf ps d).isSome) ρ' := by
  cases d with
  | tup ds =>
    replace hk := kd_tup hk
    have h0 := @isi_tup ds
    by_cases hl : (600 : Int) < ds.length
    · have e : tiesOf ps (.tup ds) = none := by
        show (if ds.length ≤ 600 then _ else none) = _
        rw [if_neg (by omega)]
      rw [e]
      refine of_rt ?_
      unfold d_are_ties
      clear hk e
      walk_at "ev"
      rfl
    · have hl' : ds.length ≤ 600 := by omega
      obtain ⟨I, hI⟩ : ∃ I : List D → List Sl → Prop, I = fun xs ρ => ∃ pre s, ds = pre ++ xs ∧ isFree (some s) = true ∧ ρ = [.val (.tup ds), .val (.dK (ptsK ps)), s] ∧ ∀ d ∈ pre, tieOf ps d ≠ none := ⟨_, rfl⟩
      refine of_rt ?_
      unfold d_are_ties
      walk_at "ev"
      refine wO_forD I ?_ ?_ ?_
      · rw [hI]
        exact ⟨[], .no, rfl, rfl, rfl, fun d h => by cases h⟩
      · intro x xs ρ h
        rw [hI] at h
        obtain ⟨pre, s, hx, hs, rfl, hp⟩ := h
        have hm : x ∈ ds := by rw [hx]; exact List.mem_append_right _ List.mem_cons_self
        have kx := kdL_mem hk x hm
        have e1 := is_tuple_eq (n := 4) (kd_kn kx)
        have hs := free_nb hs
        have bad : tieOf ps x = none → tiesOf ps (.tup ds) = none := fun e => by
          show (if ds.length ≤ 600 then match mapO (tieOf ps) ds with
            | some ps => if risI (ps.map (·.1)) then some ps else none
            | none => none
            else none) = _
          rw [if_pos hl', mapO_none hm e]
        have good : tieOf ps x ≠ none → Hid (I xs [.val (.tup ds), .val (.dK (ptsK ps)), .val x]) := fun e => ⟨by
          rw [hI]
          refine ⟨pre ++ [x], _, by rw [hx, List.append_assoc]; rfl, rfl, rfl, fun d hd => ?_⟩
          rcases List.mem_append.mp hd with q | q
          · exact hp d q
          · rw [List.mem_singleton] at q; rw [q]; exact e⟩
        clear hI hx hp hk hm hl hl' h0
        cases ht : tupN 4 x with
        | false =>
          rw [ht] at e1
          have hn : tieOf ps x = none := by
            cases q : tieOf ps x with
            | none => rfl
            | some p =>
              rw [(tieOf_some q).1] at ht
              cases ht
          have b := bad hn
          clear bad good ht hn
          walk_at "ev"
          rfl
        | true =>
          obtain ⟨n, kk, bg, en, e⟩ := tup4_of ht
          subst e
          rw [ht] at e1
          replace kx := kd_tup kx
          have k1 := kdL_mem kx n (by simp)
          have k2 := kdL_mem kx kk (by simp)
          have k3 := kdL_mem kx bg (by simp)
          have k4 := kdL_mem kx en (by simp)
          have e2 := is_name_eq (kd_kn k1)
          obtain ⟨ρ', e3⟩ := is_kind_eq (kd_kn k2) (kd_str k2)
          have e4 := is_name_eq (kd_kn k3)
          have e5 := is_name_eq (kd_kn k4)
          have e6 : isNameD bg = true → opInD true bg (.dK (ptsK ps)) = some (.bl (!inPB ps bg)) := fun h => by
            cases bg <;> first | exact notin_pts | cases h
          have e7 : isNameD en = true → opInD true en (.dK (ptsK ps)) = some (.bl (!inPB ps en)) := fun h => by
            cases en <;> first | exact notin_pts | cases h
          have key : (tieOf ps (.tup [n, kk, bg, en])).isSome = (isNameD n && (isKindD kk && (isNameD bg && (isNameD en && (inPB ps bg && inPB ps en))))) := by
            cases n <;> first | rfl | skip
            cases kk <;> first | (show false = _; unfold isKindD; rw [Bool.false_and, Bool.and_false]) | skip
            cases bg <;> first | (show false = _; unfold isNameD; simp) | skip
            cases en <;> first | (show false = _; unfold isNameD; simp) | skip
            rename_i i x b e
            show (if nmB i && (isKindS x && (nmB b && (nmB e && (hasP ps b && hasP ps e)))) then some (i, x, b, e) else none).isSome = (nmB i && (isKindS x && (nmB b && (nmB e && (hasP ps b && hasP ps e)))))
            cases (nmB i && (isKindS x && (nmB b && (nmB e && (hasP ps b && hasP ps e))))) <;> rfl
          have good' : (isNameD n && (isKindD kk && (isNameD bg && (isNameD en && (inPB ps bg && inPB ps en))))) = true → Hid (I xs [.val (.tup ds), .val (.dK (ptsK ps)), .val (.tup [n, kk, bg, en])]) := fun h => good (fun z => by rw [z, h] at key; cases key)
          have bad' : (isNameD n && (isKindD kk && (isNameD bg && (isNameD en && (inPB ps bg && inPB ps en))))) = false → tiesOf ps (.tup ds) = none := fun h => bad (by
            cases z : tieOf ps (.tup [n, kk, bg, en]) with
            | none => rfl
            | some p => rw [z, h] at key; cases key)
          clear good bad key ht kx k1 k2 k3 k4
          generalize ptsK ps = pk at *
          generalize isNameD n = b1 at *
          generalize isKindD kk = b2 at *
          generalize isNameD bg = b3 at *
          generalize isNameD en = b4 at *
          generalize inPB ps bg = b5 at *
          generalize inPB ps en = b6 at *
          cases b1 <;> first | (have b := bad' rfl; clear bad' good' e6 e7; walk_at "ev"; rfl; done) | skip
          cases b2 <;> first | (have b := bad' rfl; clear bad' good' e6 e7; walk_at "ev"; rfl; done) | skip
          cases b3 <;> first | (have b := bad' rfl; clear bad' good' e6 e7; walk_at "ev"; rfl; done) | skip
          cases b4 <;> first | (have b := bad' rfl; clear bad' good' e6 e7; walk_at "ev"; rfl; done) | skip
          replace e6 := e6 rfl
          replace e7 := e7 rfl
          cases b5 <;> first | (have b := bad' rfl; clear bad' good'; walk_at "ev"; rfl; done) | skip
          cases b6 <;> first | (have b := bad' rfl; clear bad' good'; walk_at "ev"; rfl; done) | skip
          have g := good' rfl
          clear bad' good'
          walk_at "ev"
          exact g.out
      · intro ρ h
        rw [hI] at h
        obtain ⟨pre, s, hx, hs, rfl, hp⟩ := h
        rw [List.append_nil] at hx
        obtain ⟨ts, e⟩ := mapO_all (f := tieOf ps) (ds := ds) (fun d hd => hp d (by rw [← hx]; exact hd))
        obtain ⟨e1, p1⟩ := mapO_some (g := tieD) (P := fun t => nameOk t.1) (fun d x h => ⟨(tieOf_some h).1, (tieOf_some h).2.1⟩) e
        have l2 : ts.length ≤ 600 := by rw [e1, List.length_map] at hl'; exact hl'
        obtain ⟨ρ', h4⟩ := rising_ints (row := .lst ((ts.map (·.1)).map .int)) (xs := ts.map (·.1)) (.inl rfl) (by rw [List.length_map]; omega)
        have h5 := names_of (i := 2) (ρ := [.val (.tup ds), .val (.dK (ptsK ps)), s]) (xs := ts) (f := tieD) (g := (·.1)) (fun x => ⟨_, rfl⟩) hs (by omega)
        rw [← e1] at h5
        have h6 : (tiesOf ps (.tup ds)).isSome = risI (ts.map (·.1)) := by
          show (if ds.length ≤ 600 then match mapO (tieOf ps) ds with
            | some ps => if risI (ps.map (·.1)) then some ps else none
            | none => none
            else none).isSome = _
          rw [if_pos hl', e]
          dsimp only
          cases risI (ts.map (·.1)) <;> rfl
        clear hI hx hp hk hl hl' h0 e e1 p1 l2
        generalize risI (ts.map (·.1)) = rr at *
        generalize (ts.map (·.1)).map D.int = zz at *
        walk_at "ev"
  | scr _ => exact absurd (kd_kn hk) (by intro z; cases z)
  | dT _ => exact absurd (kd_kn hk) (by intro z; cases z)
  | exn _ => exact absurd (kd_kn hk) (by intro z; cases z)
  | raw _ => exact absurd (kd_kn hk) (by intro z; cases z)
  | obj _ _ => exact absurd (kd_kn hk) (by intro z; cases z)
  | _ => exact ⟨_, rfl⟩
theorem points_of_D {ps : List P2} {T : D} (np : ps.length ≤ 400) (pr : (ps.map (·.1)).Pairwise (· < ·)) : ∃ ρ', d_points_of [.val (.tup [.tup (ps.map ptD), T]), .no, .no, .no] = .rtN (.dK (ptsK ps)) ρ' := by
  obtain ⟨s, t, h⟩ := points_of_loop (net := .tup [.tup (ps.map ptD), T]) (qs := ps) (ps := []) (s := .no) (t := .no) rfl rfl (by simpa using np) pr
  have h1 : ptsK [] = [] := rfl
  rw [h1, List.nil_append] at h
  refine of_rtvN ?_
  unfold d_points_of
  clear pr
  walk_at "ev"
theorem is_net_eq {d : D} (hk : kd d = true) : ∃ ρ', d_is_net [.val d] = .rt (.bl (netOf d).isSome) ρ' := by
  have e1 := is_tuple_eq (n := 2) (kd_kn hk)
  cases ht : tupN 2 d with
  | false =>
    have e : netOf d = none := by
      cases q : netOf d with
      | none => rfl
      | some p => rw [(netOf_some (ps := p.1) (ts := p.2) q).1] at ht; cases ht
    rw [ht] at e1
    rw [e]
    clear e ht hk
    refine of_rt ?_
    unfold d_is_net
    walk_at "ev"
    rfl
  | true =>
    obtain ⟨p, t, e⟩ := tup2_of ht
    subst e
    rw [ht] at e1
    replace hk := kd_tup hk
    have k1 := kdL_mem hk p (by simp)
    have k2 := kdL_mem hk t (by simp)
    obtain ⟨ρ1, e2⟩ := are_points_eq k1
    cases hp : ptsOf p with
    | none =>
      have e : netOf (.tup [p, t]) = none := by
        unfold netOf
        dsimp only
        rw [hp]
      rw [hp] at e2
      rw [e]
      replace e2 : d_are_points [.val p, .no] = .rt (.bl false) ρ1 := e2
      clear e ht hk k1 k2 hp
      refine of_rt ?_
      unfold d_is_net
      walk_at "ev"
      rfl
    | some ps =>
      obtain ⟨e3, np, pk, pr⟩ := ptsOf_some hp
      rw [hp] at e2
      replace e2 : d_are_points [.val p, .no] = .rt (.bl true) ρ1 := e2
      obtain ⟨ρ2, e4⟩ := are_ties_eq (ps := ps) k2
      obtain ⟨ρ3, e5⟩ := points_of_D (T := t) np pr
      rw [← e3] at e5
      have e : (netOf (.tup [p, t])).isSome = (tiesOf ps t).isSome := by
        unfold netOf
        dsimp only
        rw [hp]
        dsimp only
        cases tiesOf ps t <;> rfl
      clear ht hk k1 k2 hp e3 np pk pr
      generalize ptsK ps = kk at *
      refine of_rt ?_
      unfold d_is_net
      walk_at "ev"
end NT.Pure

set_option Elab.async false
set_option linter.all false
set_option maxRecDepth 100000
set_option maxHeartbeats 4000000
namespace NT.Pure
open PySem L2 NT NT.Den
local macro_rules | `(tactic| walk_at "ev") => `(tactic| simp (maxSteps := 100000000) only [iZip_ap, iDctN_ap, dctO_dK, gT_raw, rtb_rt, wO_nx, wO_rt, wO_rtN, wO_ex, stp_ap, sWhile_ap, wT_ok, sCalm_ap, iDct_ap, dctI_val, rtv_rt, rtvN_rtN, bnd_ok, bnd_ex, bnd_bad, bndO_ok, bndO_ex, bndO_bad, nxt_nx, nxt_rt, nxt_rtN, nxt_ex, nxt_bad, lft_some, mbind_ap, mpure_ap, lift_ap, eC_ap, rdV_val, eVar_ap, eBin_ap, eUn_ap, aNil_ap, aCons_ap, eFn_ap, eTup_ap, eLst_ap, tupO, lstO, tVal_ap, asB_bl, iteR_t, iteR_f, iteO_t, iteO_f, mAnd_ap, mOr_ap, mNot_ap, eAnd_ap, eOr_ap, eNot_ap, eChain_ap, vw_ok, vwN_ok, vwT_ok, eView_ap, eViewN_ap, tView_ap, sDo_ap, sSeq_ap, sSkip_ap, put_ap, sSet_ap, sSetN_ap, sRet_ap, sRetN_ap, sExpr_ap, sIf_ap, sRetO_ap, retO_own, sRaise_ap, sFor_ap, loop_nil, optO_some, sAsg_ap, iteS_t, gN_ap, gT_ap, gsNil_ap, bS_some, gsCons_ap, notBor_val, notBor_own, notBor_no, mineO_own, mineO_bor, with_own, with_bor, optR_some, mutAt_ap, eMut_ap, sPutAt_ap, outE_rt, outE_rtN, outE_nx, outE_ex, outN_rtN, outN_ex, eCall_ap, eCallN_ap, borO_bor, outO_rt, outO_rtN, outO_nx, outO_ex, outON_rtN, outON_ex, callO_ap, callON_ap, eCallO_ap, eCallON_ap, oHere_ap, oThere_ap, seqO_lst, seqO_tup, seqO_scr, iSeq_ap, sgnO_str, iSign_ap, iRange1_ap, iRange2_ap, eComp_ap, eSl_ap, oNone_ap, intO_int, oSome_ap, eGet2_ap, add_int, neg_int, mul_int, sub_int, lt_int, le_int, gt_int, ge_int, mod_int, fdiv_int, len_lst, len_tup, len_scr, len_str, ix_tup', ix_lst', tuple_lst, tuple_tup, list_lst, list_tup, append_lst, isLst_lst, isDct_dK, isDct_dT, is_bl, isNot_bl, plain_int, plain_str, plain_bl, plain_non, plain_tup, plainL_nil, plainL_cons, int_bl, int_int, viewS_val, viewS_own, viewS_bor, viewS_no, atI_0, atI_1, atI_2, atI_3, eq_int, ne_int, eq_bl, ne_bl, sl_tup,
  List.map_cons, List.map_nil, List.replicate_succ, List.replicate_zero, List.append_nil, List.nil_append, List.cons_append, List.length_cons, List.length_nil, List.getElem?_cons_zero, List.getElem?_cons_succ, List.set_cons_zero, List.set_cons_succ, Nat.reduceAdd, Nat.reduceLeDiff, Nat.reduceEqDiff, Int.reduceLT, Int.reduceLE, Int.reduceAdd, Int.reduceSub, Int.reduceNeg, Int.reduceBEq, cast_0, cast_1, cast_2, cast_3, cast_4, cast_5, cast_6, cast_7, cast_8, Int.reduceToNat, decide_true, decide_false, decide_eq_true_eq, if_true, if_false, ite_true, ite_false, reduceIte, Bool.and_true, Bool.true_and, Bool.and_false, Bool.false_and, Bool.or_false, Bool.false_or, Bool.or_true, Bool.true_or, Bool.not_true, Bool.not_false, eq_self, Bool.false_eq_true, and_true, true_and, beq_self_eq_true, Option.map_some, Option.bind_some, *])
/-! the deck -/
theorem mulOk_r {i j : Int} (h : -18446744073709551616 < j ∧ j < 18446744073709551616) : mulOk i j = true := decide_eq_true (.inr h)
theorem mulOk_l {i j : Int} (h : -18446744073709551616 < i ∧ i < 18446744073709551616) : mulOk i j = true := decide_eq_true (.inl h)
def isRtI : O → Bool
  | .rt (.int _) _ => true
  | _ => false
theorem of_rtI {o : O} (h : isRtI o = true) : ∃ v ρ', o = .rt (.int v) ρ' := by
  unfold isRtI at h
  split at h
  · exact ⟨_, _, rfl⟩
  · cases h
theorem rtI_rt {v : Int} {ρ : List Sl} : isRtI (.rt (.int v) ρ) = true := id rfl
theorem mixed_t (c k : Int) (hk : -1000000 ≤ k ∧ k ≤ 1000000) : ∃ v ρ', d_law_mixed [.val (.int c), .val (.int k), .no] = .rt (.int v) ρ' := by
  have m1 : ∀ i, mulOk i 40503 = true := fun i => mulOk_r (by omega)
  have m2 : ∀ i, mulOk i 7919 = true := fun i => mulOk_r (by omega)
  have m3 : ∀ i, mulOk i 48271 = true := fun i => mulOk_r (by omega)
  have m4 : mulOk k k = true := mulOk_r (by omega)
  have m5 : ∀ i : Int, mulOk (i % 2305843009213693951) (i % 2305843009213693951) = true := fun i => mulOk_r (by omega)
  clear hk
  have m6 := @rtI_rt
  refine of_rtI ?_
  unfold d_law_mixed
  walk_at "ev"
def Dk (cs : List Int) : Prop := ∀ c ∈ cs, 0 ≤ c ∧ c < 1000
def deckD (cs : List Int) : D := .lst (cs.reverse.map .int)
theorem plainL_ints {xs : List Int} : plainL (xs.map .int) = true := by
  induction xs with
  | nil => exact plainL_nil
  | cons x xs ih => rw [List.map_cons, plainL_cons, ih]; rfl
theorem plainO_ints {xs : List Int} : plainO (.lst (xs.map .int)) = true := plainL_ints
theorem plainO_deck {xs : List Int} : plainO (deckD xs) = true := plainL_ints
theorem at_ints {xs : List Int} {i : Int} (h0 : 0 ≤ i) (h : i < xs.length) : ∃ v, atI (xs.map D.int) i = some (.int v) := by
  have a1 : i.toNat < xs.length := by omega
  exact ⟨xs[i.toNat], atI_some h0 (by rw [List.getElem?_map, List.getElem?_eq_getElem a1]; rfl)⟩
theorem seti {xs : List Int} {i v : Int} (h0 : 0 ≤ i) (h : i < xs.length) : opSetIx (.lst (xs.map D.int)) (.int i) (.int v) = some (.lst ((xs.set i.toNat v).map .int)) := by
  show (ixN (xs.map D.int).length i).map _ = _
  unfold ixN
  rw [if_pos h0, if_pos (by rw [List.length_map]; exact h)]
  show some (D.lst ((xs.map D.int).set i.toNat (.int v))) = _
  rw [List.map_set]
def deckB : MS := (sSeq (sSet 6 (eBin opMod (eVar 5) (eFn opLen (aCons (eVar 2) aNil))))
    (sIf (tVal (eBin opGt (eView (eBin opIx (eVar 3) (eVar 6))) (eC (.int 0)))) (sSeq (sExpr (eMut isLst 4 opAppend (aCons (eBin opMod (eView (eBin opIx (eVar 3) (eVar 6))) (eC (.int 1000))) aNil)))
    (sPutAt isLst 3 opSetIx (eVar 6) (eBin opFdiv (eView (eBin opIx (eVar 3) (eVar 6))) (eC (.int 1000))))) (sExpr (eMut isLst 4 opAppend (aCons (eBin opMod (eCall 2 1 d_law_mixed [] (aCons (eBin opIx (eVar 2) (eVar 6)) (aCons (eBin opAdd (eVar 5) (eC (.int 1))) aNil))) (eC (.int 1000))) aNil)))))
theorem app_ints {xs : List Int} {v : Int} (h : xs.length ≤ 100000) : opAppend (.lst (xs.map D.int)) [.int v] = some (.non, .lst ((xs ++ [v]).map .int)) := by
  rw [append_lst, if_pos (by rw [List.length_map]; exact h), List.map_append]
  rfl
theorem ints_map : ∀ {xs : List Int}, (xs.map D.int).map Sl.val = (xs.map fun x => Sl.val (.int x)) := by
  intro xs
  rw [List.map_map]
  rfl
theorem deck_step {z y : D} {xs us cs : List Int} {k : Int} {s5 s6 s7 : Sl} (hx : xs ≠ []) (hu : us.length = xs.length) (hc : Dk cs) (hl : cs.length ≤ 90000) (hk : 0 ≤ k ∧ k < 90000) (f6 : isFree (some s6) = true) :
    ∃ (us' : List Int) (c k' : Int), us'.length = xs.length ∧ (0 ≤ c ∧ c < 1000) ∧ deckB [.val z, .val y, .val (.lst (xs.map .int)), .own (.lst (us.map .int)), .own (.lst (cs.map .int)), .val (.int k), s6, s7] = .nx [.val z, .val y, .val (.lst (xs.map .int)), .own (.lst (us'.map .int)), .own (.lst ((cs ++ [c]).map .int)), .val (.int k), .val (.int k'), s7] := by
  have hn : 0 < xs.length := List.length_pos_iff.mpr hx
  have h6 := free_nb f6
  have n1 : (0 : Int) < (xs.map D.int).length := by rw [List.length_map]; omega
  have b1 : 0 ≤ k % ((xs.map D.int).length : Int) := Int.emod_nonneg _ (by omega)
  have b2 : k % ((xs.map D.int).length : Int) < xs.length := by
    have := Int.emod_lt_of_pos k n1
    rw [List.length_map] at this ⊢
    exact this
  obtain ⟨v, hv⟩ := at_ints (xs := us) b1 (by rw [hu]; exact b2)
  obtain ⟨w, hw⟩ := at_ints (xs := xs) b1 b2
  have e1 := fun v => app_ints (xs := cs) (v := v) (by omega)
  by_cases hp : 0 < v
  · have e2 := seti (xs := us) (v := v / 1000) b1 (by rw [hu]; exact b2)
    refine ⟨us.set (k % ((xs.map D.int).length : Int)).toNat (v / 1000), v % 1000, k % ((xs.map D.int).length : Int), by rw [List.length_set]; exact hu, by omega, ?_⟩
    clear hc hl hk f6 b1 b2 hw hu hx hn
    unfold deckB
    walk_at "ev"
  · obtain ⟨m, ρ', e3⟩ := mixed_t w (k + 1) (by omega)
    refine ⟨us, m % 1000, k % ((xs.map D.int).length : Int), hu, by omega, ?_⟩
    clear hc hl hk f6 b1 b2 hu hx hn
    unfold deckB
    walk_at "ev"
theorem deck_loop {z y : D} {xs : List Int} {s7 : Sl} (hx : xs ≠ []) : ∀ {items : List D} {us cs : List Int} {s5 s6 : Sl}, us.length = xs.length → Dk cs → cs.length + items.length ≤ 90000 → (∀ d ∈ items, ∃ k : Int, d = .int k ∧ 0 ≤ k ∧ k < 90000) → isFree (some s5) = true → isFree (some s6) = true →
    ∃ (us' cs' : List Int) (s5' s6' : Sl), Dk cs' ∧ cs'.length = cs.length + items.length ∧ loop (gN 5) deckB items [.val z, .val y, .val (.lst (xs.map .int)), .own (.lst (us.map .int)), .own (.lst (cs.map .int)), s5, s6, s7] = .nx [.val z, .val y, .val (.lst (xs.map .int)), .own (.lst (us'.map .int)), .own (.lst (cs'.map .int)), s5', s6', s7]
  | [], us, cs, s5, s6, hu, hc, _, _, _, _ => ⟨us, cs, s5, s6, hc, rfl, rfl⟩
  | d :: ds, us, cs, s5, s6, hu, hc, hl, hd, f5, f6 => by
    obtain ⟨k, e, hk⟩ := hd d List.mem_cons_self
    subst e
    rw [List.length_cons] at hl
    obtain ⟨us1, c, k1, h1, h2, h3⟩ := deck_step (z := z) (y := y) (s5 := s5) (s7 := s7) hx hu hc (by omega) hk f6
    obtain ⟨us', cs', s5', s6', q1, q2, q3⟩ := deck_loop (z := z) (y := y) (s7 := s7) hx (items := ds) (us := us1) (cs := cs ++ [c]) (s5 := .val (.int k)) (s6 := .val (.int k1)) h1 (fun x hx => by
      rcases List.mem_append.mp hx with h | h
      · exact hc x h
      · rw [List.mem_singleton] at h; subst h; exact h2) (by rw [List.length_append, List.length_singleton]; omega) (fun x hx => hd x (List.mem_cons_of_mem _ hx)) rfl rfl
    refine ⟨us', cs', s5', s6', q1, by rw [q2, List.length_append, List.length_singleton, List.length_cons]; omega, ?_⟩
    have f5 := free_nb f5
    rw [loop_cons]
    clear hl hd hc hu h1 h2 hk q1 q2 f6 hx
    walk_at "ev"
theorem cut60 {ns : List Int} (h : ns.length ≤ 63) : cutL ns none (some 60) = ns.take 60 := by
  unfold cutL
  rw [HT.sIx_none, show HT.sIx ns.length ns.length (some 60) = min 60 ns.length from HT.sIx_nat _ _ 60, List.drop_zero, Nat.sub_zero]
  rw [List.take_eq_take_iff]
  omega
theorem deck_t {ns : List Int} {m : Int} (hl : ns.length ≤ 63) (hm : 0 ≤ m ∧ m ≤ 80000) : ∃ cs ρ', Dk cs ∧ cs.length = m.toNat ∧ d_law_deck [.val (.scr ns), .val (.int m), .no, .no, .no, .no, .no, .no] = .rtN (deckD cs) ρ' := by
  obtain ⟨xs, hx, hxl, h1⟩ : ∃ xs : List Int, xs ≠ [] ∧ xs.length ≤ 63 ∧ (eBin opCat (eFn opList (aCons (eSl opSlL (eVar 0) oNone (oSome (eC (.int 60)))) aNil)) (eBin opRepL (eLst (aCons (eC (.int 0)) aNil)) (eFn opInt (aCons (eBin opEq (eFn opLen (aCons (eVar 0) aNil)) (eC (.int 0))) aNil)))) [.val (.scr ns), .val (.int m), .no, .no, .no, .no, .no, .no] = .ok (.lst (xs.map .int)) [.val (.scr ns), .val (.int m), .no, .no, .no, .no, .no, .no] := by
    have s1 : opSlL (.scr ns) none (some 60) = some (.lst ((ns.take 60).map .int)) := by
      show some (D.lst ((cutL ns none (some 60)).map .int)) = _
      rw [cut60 hl]
    have s4 := fun i j => @eq_int i j
    cases ns with
    | nil =>
      refine ⟨[0], by simp, by decide, ?_⟩
      have s2 : opRepL (.lst [.int 0]) (.int 1) = some (.lst [.int 0]) := rfl
      have s3 : opCat (.lst []) (.lst [.int 0]) = some (.lst [.int 0]) := rfl
      have s5 : ((0 : Nat) : Int) = 0 := rfl
      walk_at "ev"
      simp only [List.take_nil, List.map_nil, list_lst, lft_some, bnd_ok, s3]
    | cons n ns =>
      refine ⟨(n :: ns).take 60, by simp, by rw [List.length_take]; omega, ?_⟩
      have s2 : opRepL (.lst [.int 0]) (.int 0) = some (.lst []) := rfl
      have s3 : opCat (.lst ((List.take 60 (n :: ns)).map .int)) (.lst []) = some (.lst ((List.take 60 (n :: ns)).map .int)) := by
        show (if _ then _ else _) = _
        rw [if_pos (by simp; omega), List.append_nil]
      have s5 : ((((n :: ns).length : Nat) : Int) == 0) = false := by
        rw [beq_eq_false_iff_ne, List.length_cons]
        omega
      generalize hz : (n :: ns) = zs at *
      clear hl hz
      walk_at "ev"
  have p1 : opPow (.int 10) (.int 18) = some (.int 1000000000000000000) := rfl
  have h2 : ∃ us : List Int, us.length = xs.length ∧ compL (gN 7) (mpure true) (eBin opMul (eVar 7) (eFn opInt (aCons (eBin opGe (eVar 7) (eBin opPow (eC (.int 10)) (eC (.int 18)))) aNil))) [7] (xs.map .int) [] [.val (.scr ns), .val (.int m), .val (.lst (xs.map .int)), .no, .no, .no, .no, .no] = .ok (us.map .int) [.val (.scr ns), .val (.int m), .val (.lst (xs.map .int)), .no, .no, .no, .no, .no] := by
    refine ⟨xs.map fun n => n * (if decide (1000000000000000000 ≤ n) then 1 else 0), by rw [List.length_map], ?_⟩
    rw [comp_map (f := fun d => match d with | .int n => .int (n * (if decide (1000000000000000000 ≤ n) then 1 else 0)) | d => d) rfl (by rw [List.length_map]; simp; omega) fun d hd => ?_]
    · rw [List.nil_append, List.map_map, List.map_map]
      rfl
    · obtain ⟨n, _, e⟩ := List.mem_map.mp hd
      subst e
      have m1 : mulOk n (if 1000000000000000000 ≤ n then 1 else 0) = true := mulOk_r (by split <;> omega)
      clear hd h1
      walk_at "ev"
  obtain ⟨us, hu, h2⟩ := h2
  have r1 := rng1_int (j := m) (by omega)
  obtain ⟨us', cs, s5, s6, q1, q2, q3⟩ := deck_loop (z := .scr ns) (y := .int m) (s7 := .no) hx (items := (List.range m.toNat).map fun k => D.int (k : Nat)) (us := us) (cs := []) (s5 := .no) (s6 := .no) hu (fun _ h => by cases h) (by rw [List.length_map, List.length_range, List.length_nil]; omega) (fun d hd => by
    obtain ⟨k, hk, e⟩ := List.mem_map.mp hd
    rw [List.mem_range] at hk
    exact ⟨k, e.symm, by omega, by omega⟩) rfl rfl
  refine ⟨cs, ?_⟩
  rw [exists_and_left, exists_and_left]
  refine ⟨q1, by rw [q2, List.length_map, List.length_range, List.length_nil]; omega, of_rtvN ?_⟩
  have p2 := @plainO_deck cs
  have p3 : opLstRev (.lst (cs.map .int)) = some (deckD cs) := by
    show some (D.lst (cs.map D.int).reverse) = _
    rw [← List.map_reverse]
    rfl
  have q3 : loop (gN 5) _ _ [.val (.scr ns), .val (.int m), .val (.lst (xs.map .int)), .own (.lst (us.map .int)), .own (.lst []), .no, .no, .no] = _ := q3
  unfold deckB at q3
  clear q1 q2 hu hx hxl hl hm
  unfold d_law_deck
  rw [sSeq_ap, sSet_ap, h1, bndO_ok]
  clear h1
  walk_at "ev"
theorem isLst_deck {cs : List Int} : isLst (deckD cs) = true := rfl
theorem len_deck {cs : List Int} : opLen [deckD cs] = some (.int cs.length) := by
  show some (D.int ((cs.reverse.map D.int).length : Nat)) = _
  rw [List.length_map, List.length_reverse]
theorem pop_deck {c : Int} {cs : List Int} : opPop (deckD (c :: cs)) [] = some (.int c, deckD cs) := by
  have e : (c :: cs).reverse.map D.int = cs.reverse.map D.int ++ [.int c] := by
    rw [List.reverse_cons, List.map_append]
    rfl
  unfold deckD
  rw [e]
  show (match (cs.reverse.map D.int ++ [D.int c])[(cs.reverse.map D.int ++ [D.int c]).length - 1]? with | some y => some (y, D.lst (cs.reverse.map D.int ++ [D.int c]).dropLast) | none => none) = _
  rw [List.dropLast_concat, List.length_append, List.length_singleton, Nat.add_sub_cancel, List.getElem?_append_right (Nat.le_refl _), Nat.sub_self]
  rfl
theorem next_t {cs : List Int} : d_law_next [.bor (deckD cs)] = .rt (.int (cs.headD 0)) [.bor (deckD cs.tail)] := by
  have h1 := @isLst_deck cs
  have h2 := @len_deck cs
  cases cs with
  | nil => rfl
  | cons c cs =>
    have h3 := @pop_deck c cs
    have h4 : (0 : Int) < ((c :: cs).length : Nat) := by rw [List.length_cons]; omega
    have h5 : (c :: cs).headD 0 = c := rfl
    have h6 : (c :: cs).tail = cs := rfl
    rw [h5, h6]
    generalize (c :: cs).length = n at *
    unfold d_law_next
    walk_at "ev"
theorem Dk.hd {cs : List Int} (h : Dk cs) : 0 ≤ cs.headD 0 ∧ cs.headD 0 < 1000 := by
  cases cs with
  | nil => simp
  | cons c cs => exact h c List.mem_cons_self
theorem Dk.tl {cs : List Int} (h : Dk cs) : Dk cs.tail := fun c hc => h c (List.mem_of_mem_tail hc)
def namesB : MS := (sSeq (sSet 4 (eBin opAdd (eBin opAdd (eVar 4) (eC (.int 1))) (eBin opMul (eBin opMod (eCallO 1 0 d_law_next 0 (oHere aNil)) (eC (.int 3))) (eVar 2))))
    (sExpr (eMut isLst 3 opAppend (aCons (eVar 4) aNil))))
theorem names_loop {m far : Int} (hf : 0 ≤ far ∧ far ≤ 1) : ∀ {items : List D} {cs xs : List Int} {last : Int} {s5 : Sl}, Dk cs → xs.length + items.length ≤ 5000 → -1 ≤ last → xs.Pairwise (· < ·) → (∀ x ∈ xs, 0 ≤ x ∧ x ≤ last) → isFree (some s5) = true →
    ∃ (cs' xs' : List Int) (last' : Int) (s5' : Sl), Dk cs' ∧ xs'.length = xs.length + items.length ∧ xs'.Pairwise (· < ·) ∧ (∀ x ∈ xs', 0 ≤ x ∧ x ≤ last + 3 * items.length) ∧ loop (gN 5) namesB items [.bor (deckD cs), .val (.int m), .val (.int far), .own (.lst (xs.map .int)), .val (.int last), s5] = .nx [.bor (deckD cs'), .val (.int m), .val (.int far), .own (.lst (xs'.map .int)), .val (.int last'), s5']
  | [], cs, xs, last, s5, hd, hl, h0, hp, hb, f5 => ⟨cs, xs, last, s5, hd, rfl, hp, fun x hx => by have := hb x hx; simp; omega, rfl⟩
  | d :: ds, cs, xs, last, s5, hd, hl, h0, hp, hb, f5 => by
    rw [List.length_cons] at hl
    have hm : 0 ≤ cs.headD 0 % 3 * far ∧ cs.headD 0 % 3 * far ≤ 2 := by
      have h1 : far = 0 ∨ far = 1 := by omega
      rcases h1 with h1 | h1 <;> rw [h1] <;> omega
    obtain ⟨cs', xs', last', s5', q1, q2, q3, q4, q5⟩ := names_loop (m := m) (far := far) hf (items := ds) (cs := cs.tail) (xs := xs ++ [last + 1 + cs.headD 0 % 3 * far]) (last := last + 1 + cs.headD 0 % 3 * far) (s5 := .val d) hd.tl (by rw [List.length_append, List.length_singleton]; omega) (by omega) (by
      rw [List.pairwise_append]
      refine ⟨hp, List.pairwise_singleton _ _, fun a ha b hb2 => ?_⟩
      rw [List.mem_singleton] at hb2
      have := hb a ha
      omega) (fun x hx => by
      rcases List.mem_append.mp hx with h | h
      · have := hb x h
        omega
      · rw [List.mem_singleton] at h
        omega) rfl
    refine ⟨cs', xs', last', s5', q1, by rw [q2, List.length_append, List.length_singleton, List.length_cons]; omega, q3, fun x hx => by have := q4 x hx; rw [List.length_cons]; omega, ?_⟩
    have f5 := free_nb f5
    have e1 := @next_t cs
    have e2 : mulOk (cs.headD 0 % 3) far = true := mulOk_r (by omega)
    have e3 := app_ints (xs := xs) (v := last + 1 + cs.headD 0 % 3 * far) (by omega)
    rw [loop_cons]
    clear hl hd h0 hp hb hm q1 q2 q3 q4 hf
    unfold namesB at q5 ⊢
    walk_at "ev"
theorem names_t {cs : List Int} {m far : Int} (hd : Dk cs) (hm : 0 ≤ m ∧ m ≤ 4000) (hf : 0 ≤ far ∧ far ≤ 1) : ∃ (xs cs' : List Int) (ρ' : List Sl), Dk cs' ∧ xs.length = m.toNat ∧ xs.Pairwise (· < ·) ∧ (∀ x ∈ xs, 0 ≤ x ∧ x < 3 * m) ∧ d_law_names [.bor (deckD cs), .val (.int m), .val (.int far), .no, .no, .no] = .rtN (.lst (xs.map .int)) (.bor (deckD cs') :: ρ') := by
  obtain ⟨cs', xs', last', s5', q1, q2, q3, q4, q5⟩ := names_loop (m := m) (far := far) hf (items := (List.range m.toNat).map fun k => D.int (k : Nat)) (cs := cs) (xs := []) (last := -1) (s5 := .no) hd (by rw [List.length_map, List.length_range, List.length_nil]; omega) (by omega) List.Pairwise.nil (fun _ h => by cases h) rfl
  rw [List.length_map, List.length_range] at q4
  rw [List.length_map, List.length_range, List.length_nil] at q2
  refine ⟨xs', cs', [.val (.int m), .val (.int far), .no, .val (.int last'), s5'], q1, by omega, q3, fun x hx => by have := q4 x hx; omega, ?_⟩
  have r1 := rng1_int (j := m) (by omega)
  have q5 : loop (gN 5) namesB _ [.bor (deckD cs), .val (.int m), .val (.int far), .own (.lst []), .val (.int (-1)), .no] = _ := q5
  clear q1 q2 q3 q4 hd hm hf
  unfold namesB at q5
  unfold d_law_names
  walk_at "ev"
theorem aab_ix {i : Int} (h : 0 ≤ i ∧ i < 3) : ∃ x : Str, (x = "a" ∨ x = "b") ∧ opIx (.str "aab") (.int i) = some (.str x) := by
  have h1 : i = 0 ∨ i = 1 ∨ i = 2 := by omega
  rcases h1 with h1 | h1 | h1 <;> subst h1
  · exact ⟨"a", .inl rfl, rfl⟩
  · exact ⟨"a", .inl rfl, rfl⟩
  · exact ⟨"b", .inr rfl, rfl⟩
theorem eef_ix {i : Int} (h : 0 ≤ i ∧ i < 3) : ∃ x : Str, (x = "e" ∨ x = "f") ∧ opIx (.str "eef") (.int i) = some (.str x) := by
  have h1 : i = 0 ∨ i = 1 ∨ i = 2 := by omega
  rcases h1 with h1 | h1 | h1 <;> subst h1
  · exact ⟨"e", .inl rfl, rfl⟩
  · exact ⟨"e", .inl rfl, rfl⟩
  · exact ⟨"f", .inr rfl, rfl⟩
def netB1 : MS := (sExpr (eMut isLst 6 opAppend (aCons (eTup (aCons (eVar 7) (aCons (eBin opIx (eC (.str "aab")) (eBin opMod (eCallO 1 0 d_law_next 0 (oHere aNil)) (eC (.int 3)))) aNil))) aNil)))
def netB2 : MS := (sSeq (sSet 4 (eCallO 1 0 d_law_next 0 (oHere aNil)))
    (sExpr (eMut isLst 8 opAppend (aCons (eTup (aCons (eVar 7) (aCons (eBin opIx (eC (.str "eef")) (eBin opMod (eVar 4) (eC (.int 3)))) (aCons (eBin opIx (eView (eBin opIx (eVar 6) (eBin opMod (eBin opFdiv (eVar 4) (eC (.int 3))) (eVar 5)))) (eC (.int 0))) (aCons (eBin opIx (eView (eBin opIx (eVar 6) (eBin opMod (eBin opFdiv (eVar 4) (eC (.int 30))) (eVar 5)))) (eC (.int 0))) aNil))))) aNil))))
def abP (p : P2) : Prop := p.2 = "a" ∨ p.2 = "b"
theorem net_loop1 {a1 a2 a3 a4 a5 : D} {s8 : Sl} : ∀ {ns cs : List Int} {ps : List P2} {s7 : Sl}, Dk cs → ps.length + ns.length ≤ 5000 → (∀ p ∈ ps, abP p) → isFree (some s7) = true →
    ∃ (cs' : List Int) (ps' : List P2) (s7' : Sl), Dk cs' ∧ ps'.map (·.1) = ps.map (·.1) ++ ns ∧ (∀ p ∈ ps', abP p) ∧ isFree (some s7') = true ∧ loop (gN 7) netB1 (ns.map .int) [.bor (deckD cs), .val a1, .val a2, .val a3, .val a4, .val a5, .own (.lst (ps.map ptD)), s7, s8] = .nx [.bor (deckD cs'), .val a1, .val a2, .val a3, .val a4, .val a5, .own (.lst (ps'.map ptD)), s7', s8]
  | [], cs, ps, s7, hd, hl, hp, f7 => ⟨cs, ps, s7, hd, by rw [List.append_nil], hp, f7, rfl⟩
  | n :: ns, cs, ps, s7, hd, hl, hp, f7 => by
    rw [List.length_cons] at hl
    obtain ⟨x, hx, e0⟩ := aab_ix (i := cs.headD 0 % 3) (by omega)
    obtain ⟨cs', ps', s7', q1, q2, q3, q4, q5⟩ := net_loop1 (a1 := a1) (a2 := a2) (a3 := a3) (a4 := a4) (a5 := a5) (s8 := s8) (ns := ns) (cs := cs.tail) (ps := ps ++ [(n, x)]) (s7 := .val (.int n)) hd.tl (by rw [List.length_append, List.length_singleton]; omega) (fun p h => by
      rcases List.mem_append.mp h with h | h
      · exact hp p h
      · rw [List.mem_singleton] at h; subst h; exact hx) rfl
    refine ⟨cs', ps', s7', q1, by rw [q2, List.map_append, List.append_assoc]; rfl, q3, q4, ?_⟩
    have f7 := free_nb f7
    have e1 := @next_t cs
    have e2 : (ps.map ptD).length ≤ 100000 := by rw [List.length_map]; omega
    have e3 : ps.map ptD ++ [.tup [.int n, .str x]] = (ps ++ [(n, x)]).map ptD := by rw [List.map_append]; rfl
    rw [List.map_cons, loop_cons]
    clear hl hd hp hx q1 q2 q3 q4
    unfold netB1 at q5 ⊢
    walk_at "ev"
theorem plain_pt {p : P2} : plain (ptD p) = true := by
  unfold ptD
  rw [plain_tup, plainL_cons, plainL_cons, plainL_nil]
  rfl
theorem at_pts {ps : List P2} {i : Int} (h0 : 0 ≤ i) (h : i < ps.length) : ∃ p ∈ ps, atI (ps.map ptD) i = some (ptD p) := by
  have a1 : i.toNat < ps.length := by omega
  exact ⟨ps[i.toNat], List.getElem_mem a1, atI_some h0 (by rw [List.getElem?_map, List.getElem?_eq_getElem a1]; rfl)⟩
def efT (ps : List P2) (t : T4) : Prop := (t.2.1 = "e" ∨ t.2.1 = "f") ∧ (∃ p ∈ ps, p.1 = t.2.2.1) ∧ ∃ p ∈ ps, p.1 = t.2.2.2
theorem net_loop2 {a1 a2 a3 : D} {ps : List P2} (hps : 0 < ps.length) : ∀ {ns cs : List Int} {ts : List T4} {c4 : Int} {s7 : Sl}, Dk cs → ts.length + ns.length ≤ 5000 → (∀ t ∈ ts, efT ps t) → isFree (some s7) = true →
    ∃ (cs' : List Int) (ts' : List T4) (c4' : Int) (s7' : Sl), Dk cs' ∧ ts'.map (·.1) = ts.map (·.1) ++ ns ∧ (∀ t ∈ ts', efT ps t) ∧ isFree (some s7') = true ∧ loop (gN 7) netB2 (ns.map .int) [.bor (deckD cs), .val a1, .val a2, .val a3, .val (.int c4), .val (.int ps.length), .own (.lst (ps.map ptD)), s7, .own (.lst (ts.map tieD))] = .nx [.bor (deckD cs'), .val a1, .val a2, .val a3, .val (.int c4'), .val (.int ps.length), .own (.lst (ps.map ptD)), s7', .own (.lst (ts'.map tieD))]
  | [], cs, ts, c4, s7, hd, hl, hp, f7 => ⟨cs, ts, c4, s7, hd, by rw [List.append_nil], hp, f7, rfl⟩
  | n :: ns, cs, ts, c4, s7, hd, hl, hp, f7 => by
    rw [List.length_cons] at hl
    obtain ⟨x, hx, e0⟩ := eef_ix (i := cs.headD 0 % 3) (by omega)
    have n1 : (0 : Int) < ps.length := by omega
    obtain ⟨p, hp1, g1⟩ := at_pts (ps := ps) (i := cs.headD 0 / 3 % ps.length) (Int.emod_nonneg _ (by omega)) (Int.emod_lt_of_pos _ n1)
    obtain ⟨q, hq1, g2⟩ := at_pts (ps := ps) (i := cs.headD 0 / 30 % ps.length) (Int.emod_nonneg _ (by omega)) (Int.emod_lt_of_pos _ n1)
    obtain ⟨cs', ts', c4', s7', q1, q2, q3, q4, q5⟩ := net_loop2 (a1 := a1) (a2 := a2) (a3 := a3) (ps := ps) hps (ns := ns) (cs := cs.tail) (ts := ts ++ [(n, x, p.1, q.1)]) (c4 := cs.headD 0) (s7 := .val (.int n)) hd.tl (by rw [List.length_append, List.length_singleton]; omega) (fun t h => by
      rcases List.mem_append.mp h with h | h
      · exact hp t h
      · rw [List.mem_singleton] at h; subst h; exact ⟨hx, ⟨p, hp1, rfl⟩, ⟨q, hq1, rfl⟩⟩) rfl
    refine ⟨cs', ts', c4', s7', q1, by rw [q2, List.map_append, List.append_assoc]; rfl, q3, q4, ?_⟩
    have f7 := free_nb f7
    have e1 := @next_t cs
    have e2 : (ts.map tieD).length ≤ 100000 := by rw [List.length_map]; omega
    have e3 : ts.map tieD ++ [.tup [.int n, .str x, .int p.1, .int q.1]] = (ts ++ [(n, x, p.1, q.1)]).map tieD := by rw [List.map_append]; rfl
    have e4 := @plain_pt p
    have e5 := @plain_pt q
    have e6 : opIx (ptD p) (.int 0) = some (.int p.1) := rfl
    have e7 : opIx (ptD q) (.int 0) = some (.int q.1) := rfl
    rw [List.map_cons, loop_cons]
    clear hl hd hp hx q1 q2 q3 q4 hps hp1 hq1
    unfold netB2 at q5 ⊢
    walk_at "ev"
theorem plainL_pts : ∀ {ps : List P2}, plainL (ps.map ptD) = true
  | [] => plainL_nil
  | p :: ps => by rw [List.map_cons, plainL_cons, plain_pt, plainL_pts]; rfl
theorem plain_tie {t : T4} : plain (tieD t) = true := by
  unfold tieD
  rw [plain_tup, plainL_cons, plainL_cons, plainL_cons, plainL_cons, plainL_nil]
  rfl
theorem plainL_ties : ∀ {ts : List T4}, plainL (ts.map tieD) = true
  | [] => plainL_nil
  | t :: ts => by rw [List.map_cons, plainL_cons, plain_tie, plainL_ties]; rfl
/-- a net as the law's maker gives it -/
structure Made (mp mt : Int) (ps : List P2) (ts : List T4) : Prop where
  p0 : 1 ≤ ps.length
  pl : (ps.length : Int) ≤ mp
  tl : (ts.length : Int) ≤ mt
  pk : ∀ p ∈ ps, 0 ≤ p.1 ∧ p.1 < 3 * mp ∧ abP p
  tk : ∀ t ∈ ts, 0 ≤ t.1 ∧ t.1 < 3 * (mt + 1) ∧ efT ps t
  pr : (ps.map (·.1)).Pairwise (· < ·)
  tr : (ts.map (·.1)).Pairwise (· < ·)
theorem net_t {cs : List Int} {mp mt far : Int} (hd : Dk cs) (hp : 1 ≤ mp ∧ mp ≤ 1000) (ht : 0 ≤ mt ∧ mt ≤ 1000) (hf : 0 ≤ far ∧ far ≤ 1) : ∃ (ps : List P2) (ts : List T4) (cs' : List Int) (ρ' : List Sl), Made mp mt ps ts ∧ Dk cs' ∧ d_law_net [.bor (deckD cs), .val (.int mp), .val (.int mt), .val (.int far), .no, .no, .no, .no, .no] = .rt (netD ps ts) (.bor (deckD cs') :: ρ') := by
  have n1 := @next_t cs
  have b1 : 0 ≤ cs.headD 0 % mp := Int.emod_nonneg _ (by omega)
  have b2 : cs.headD 0 % mp < mp := Int.emod_lt_of_pos _ (by omega)
  obtain ⟨xs, cs1, ρ1, d1, l1, r1, k1, e1⟩ := names_t hd.tl (m := 1 + cs.headD 0 % mp) (far := far) (by omega) hf
  obtain ⟨cs2, ps, s7, d2, l2, k2, f7, e2⟩ := net_loop1 (a1 := .int mp) (a2 := .int mt) (a3 := .int far) (a4 := .int (cs.headD 0)) (a5 := .int (1 + cs.headD 0 % mp)) (s8 := .no) (ns := xs) (cs := cs1) (ps := []) (s7 := .no) d1 (by rw [l1, List.length_nil]; omega) (fun _ h => by cases h) rfl
  have l3 : ps.length = xs.length := by
    have := congrArg List.length l2
    rwa [List.length_map, List.map_nil, List.nil_append] at this
  have l4 : (1 + cs.headD 0 % mp) = (ps.length : Int) := by rw [l3, l1]; omega
  have n2 := @next_t cs2
  have b3 : 0 ≤ cs2.headD 0 % (mt + 1) := Int.emod_nonneg _ (by omega)
  have b4 : cs2.headD 0 % (mt + 1) < mt + 1 := Int.emod_lt_of_pos _ (by omega)
  obtain ⟨ys, cs3, ρ3, d3, l5, r3, k3, e3⟩ := names_t d2.tl (m := cs2.headD 0 % (mt + 1)) (far := far) (by omega) hf
  obtain ⟨cs4, ts, c4, s7', d4, l6, k4, f7', e4⟩ := net_loop2 (a1 := .int mp) (a2 := .int mt) (a3 := .int far) (ps := ps) (by omega) (ns := ys) (cs := cs3) (ts := []) (c4 := cs.headD 0) (s7 := s7) d3 (by rw [l5, List.length_nil]; omega) (fun _ h => by cases h) f7
  rw [List.map_nil, List.nil_append] at l2 l6
  have l7 : ts.length = ys.length := by
    have := congrArg List.length l6
    rwa [List.length_map] at this
  refine ⟨ps, ts, cs4, [.val (.int mp), .val (.int mt), .val (.int far), .val (.int c4), .val (.int ps.length), .own (.lst (ps.map ptD)), s7', .own (.lst (ts.map tieD))], ⟨by omega, by omega, by omega, fun p hp => ?_, fun t ht => ?_, by rw [l2]; exact r1, by rw [l6]; exact r3⟩, d4, ?_⟩
  · have hx : p.1 ∈ xs := by rw [← l2]; exact List.mem_map.mpr ⟨p, hp, rfl⟩
    have := k1 _ hx
    exact ⟨this.1, by omega, k2 p hp⟩
  · have hx : t.1 ∈ ys := by rw [← l6]; exact List.mem_map.mpr ⟨t, ht, rfl⟩
    have := k3 _ hx
    exact ⟨this.1, by omega, k4 t ht⟩
  · have c1 : 0 < mp := by omega
    have c2 : 0 < mt + 1 := by omega
    have e2 : loop (gN 7) netB1 _ [.bor (deckD cs1), .val (.int mp), .val (.int mt), .val (.int far), .val (.int (cs.headD 0)), .val (.int (1 + cs.headD 0 % mp)), .own (.lst []), .no, .no] = _ := e2
    have e4 : loop (gN 7) netB2 _ [.bor (deckD cs3), .val (.int mp), .val (.int mt), .val (.int far), .val (.int (cs.headD 0)), .val (.int ps.length), .own (.lst (ps.map ptD)), s7, .own (.lst [])] = _ := e4
    rw [l4] at e1 e2
    have p1 := @plainL_pts ps
    have p2 := @plainL_ties ts
    have f7 := free_nb f7
    have f7' := free_nb f7'
    clear hd hp ht hf b1 b2 b3 b4 d1 d2 d3 d4 l1 l2 l3 l5 l6 l7 k1 k2 k3 k4 r1 r3
    unfold netB1 at e2
    unfold netB2 at e4
    unfold d_law_net netD
    walk_at "ev"
end NT.Pure

set_option Elab.async false
set_option linter.all false
set_option maxRecDepth 100000
set_option maxHeartbeats 4000000
namespace NT.Pure
open PySem L2 NT NT.Den
local macro_rules | `(tactic| walk_at "ev") => `(tactic| simp (maxSteps := 100000000) only [iZip_ap, iDctN_ap, dctO_dK, gT_raw, rtb_rt, wO_nx, wO_rt, wO_rtN, wO_ex, stp_ap, sWhile_ap, wT_ok, sCalm_ap, iDct_ap, dctI_val, rtv_rt, rtvN_rtN, bnd_ok, bnd_ex, bnd_bad, bndO_ok, bndO_ex, bndO_bad, nxt_nx, nxt_rt, nxt_rtN, nxt_ex, nxt_bad, lft_some, mbind_ap, mpure_ap, lift_ap, eC_ap, rdV_val, eVar_ap, eBin_ap, eUn_ap, aNil_ap, aCons_ap, eFn_ap, eTup_ap, eLst_ap, tupO, lstO, tVal_ap, asB_bl, iteR_t, iteR_f, iteO_t, iteO_f, mAnd_ap, mOr_ap, mNot_ap, eAnd_ap, eOr_ap, eNot_ap, eChain_ap, vw_ok, vwN_ok, vwT_ok, eView_ap, eViewN_ap, tView_ap, sDo_ap, sSeq_ap, sSkip_ap, put_ap, sSet_ap, sSetN_ap, sRet_ap, sRetN_ap, sExpr_ap, sIf_ap, sRetO_ap, retO_own, sRaise_ap, sFor_ap, loop_nil, optO_some, sAsg_ap, iteS_t, gN_ap, gT_ap, gsNil_ap, bS_some, gsCons_ap, notBor_val, notBor_own, notBor_no, mineO_own, mineO_bor, with_own, with_bor, optR_some, mutAt_ap, eMut_ap, sPutAt_ap, outE_rt, outE_rtN, outE_nx, outE_ex, outN_rtN, outN_ex, eCall_ap, eCallN_ap, borO_bor, outO_rt, outO_rtN, outO_nx, outO_ex, outON_rtN, outON_ex, callO_ap, callON_ap, eCallO_ap, eCallON_ap, oHere_ap, oThere_ap, seqO_lst, seqO_tup, seqO_scr, iSeq_ap, sgnO_str, iSign_ap, iRange1_ap, iRange2_ap, eComp_ap, eSl_ap, oNone_ap, intO_int, oSome_ap, eGet2_ap, add_int, neg_int, mul_int, sub_int, lt_int, le_int, gt_int, ge_int, mod_int, fdiv_int, len_lst, len_tup, len_scr, len_str, ix_tup', ix_lst', tuple_lst, tuple_tup, list_lst, list_tup, append_lst, isLst_lst, isDct_dK, isDct_dT, is_bl, isNot_bl, plain_int, plain_str, plain_bl, plain_non, plain_tup, plainL_nil, plainL_cons, int_bl, int_int, viewS_val, viewS_own, viewS_bor, viewS_no, atI_0, atI_1, atI_2, atI_3, eq_int, ne_int, eq_bl, ne_bl, sl_tup,
  List.map_cons, List.map_nil, List.replicate_succ, List.replicate_zero, List.append_nil, List.nil_append, List.cons_append, List.length_cons, List.length_nil, List.getElem?_cons_zero, List.getElem?_cons_succ, List.set_cons_zero, List.set_cons_succ, Nat.reduceAdd, Nat.reduceLeDiff, Nat.reduceEqDiff, Int.reduceLT, Int.reduceLE, Int.reduceAdd, Int.reduceSub, Int.reduceNeg, Int.reduceBEq, cast_0, cast_1, cast_2, cast_3, cast_4, cast_5, cast_6, cast_7, cast_8, Int.reduceToNat, decide_true, decide_false, decide_eq_true_eq, if_true, if_false, ite_true, ite_false, reduceIte, Bool.and_true, Bool.true_and, Bool.and_false, Bool.false_and, Bool.or_false, Bool.false_or, Bool.or_true, Bool.true_or, Bool.not_true, Bool.not_false, eq_self, Bool.false_eq_true, and_true, true_and, beq_self_eq_true, Option.map_some, Option.bind_some, *])
/-! sorting -/
theorem fits_pts {n : Nat} : ∀ {ps : List P2}, (∀ p ∈ ps, PyData.strOk p.2 = true) → fits (n + 1) (ps.map ptD) = true
  | [], _ => by simp [fits]
  | p :: ps, h => by
    rw [List.map_cons]
    unfold fits
    rw [fits_pts fun x hx => h x (List.mem_cons_of_mem _ hx)]
    show (fits n [.int p.1, .str p.2] && true) = true
    unfold fits
    unfold fits
    unfold fits
    rw [show fit n (.int p.1) = true by cases n <;> rfl, show fit n (.str p.2) = true by cases n <;> exact h p List.mem_cons_self]
    rfl
theorem fits_ties {n : Nat} : ∀ {ts : List T4}, (∀ t ∈ ts, PyData.strOk t.2.1 = true) → fits (n + 1) (ts.map tieD) = true
  | [], _ => by simp [fits]
  | t :: ts, h => by
    rw [List.map_cons]
    unfold fits
    rw [fits_ties fun x hx => h x (List.mem_cons_of_mem _ hx)]
    show (fits n [.int t.1, .str t.2.1, .int t.2.2.1, .int t.2.2.2] && true) = true
    have fi : ∀ i, fit n (.int i) = true := fun i => by cases n <;> rfl
    simp only [fits, fi, show fit n (.str t.2.1) = true by cases n <;> exact h t List.mem_cons_self]
    rfl
def srt {α : Type} (f : α → D) (xs : List α) : List α := xs.mergeSort fun a b => leD (f a) (f b)
theorem sortD_map {α : Type} {f : α → D} {xs : List α} : sortD (xs.map f) = (srt f xs).map f := by
  unfold sortD srt
  refine (List.map_mergeSort (s := leD) ?_).symm
  intro a _ b _
  rfl
theorem srt_mem {α : Type} {f : α → D} {xs : List α} {x : α} (h : x ∈ srt f xs) : x ∈ xs := List.mem_mergeSort.mp h
theorem srt_len {α : Type} {f : α → D} {xs : List α} : (srt f xs).length = xs.length := List.length_mergeSort _
theorem sorted_pts {ps : List P2} (h : ∀ p ∈ ps, PyData.strOk p.2 = true) : opSorted [.tup (ps.map ptD)] = some (.lst ((srt ptD ps).map ptD)) := by
  show (if fits 60 (ps.map ptD) && (alikes (ps.map ptD) && ((ps.map ptD).all tupD || (ps.map ptD).all oneD)) then some (D.lst (sortD (ps.map ptD))) else none) = _
  have h1 : alikes (ps.map ptD) = true := by
    unfold alikes
    rw [List.all_map, List.all_eq_true]
    intro p _
    show ((ps.map ptD).all fun b => PySem.W.alike (py (ptD p)) (py b)) = true
    rw [List.all_map, List.all_eq_true]
    intro q _
    show PySem.W.alike (py (ptD p)) (py (ptD q)) = true
    simp [ptD, py, pys, PySem.W.alike, PySem.W.alikeAll]
  have h2 : (ps.map ptD).all tupD = true := by
    rw [List.all_map, List.all_eq_true]
    intro p _
    rfl
  rw [fits_pts h, h1, h2, sortD_map]
  rfl
theorem sorted_ties {ts : List T4} (h : ∀ t ∈ ts, PyData.strOk t.2.1 = true) : opSorted [.tup (ts.map tieD)] = some (.lst ((srt tieD ts).map tieD)) := by
  show (if fits 60 (ts.map tieD) && (alikes (ts.map tieD) && ((ts.map tieD).all tupD || (ts.map tieD).all oneD)) then some (D.lst (sortD (ts.map tieD))) else none) = _
  have h1 : alikes (ts.map tieD) = true := by
    unfold alikes
    rw [List.all_map, List.all_eq_true]
    intro p _
    show ((ts.map tieD).all fun b => PySem.W.alike (py (tieD p)) (py b)) = true
    rw [List.all_map, List.all_eq_true]
    intro q _
    show PySem.W.alike (py (tieD p)) (py (tieD q)) = true
    simp [tieD, py, pys, PySem.W.alike, PySem.W.alikeAll]
  have h2 : (ts.map tieD).all tupD = true := by
    rw [List.all_map, List.all_eq_true]
    intro p _
    rfl
  rw [fits_ties h, h1, h2, sortD_map]
  rfl
theorem sorted_ptsL {ps : List P2} (h : ∀ p ∈ ps, PyData.strOk p.2 = true) : opSorted [.lst (ps.map ptD)] = some (.lst ((srt ptD ps).map ptD)) := by
  show (if fits 60 (ps.map ptD) && (alikes (ps.map ptD) && ((ps.map ptD).all tupD || (ps.map ptD).all oneD)) then some (D.lst (sortD (ps.map ptD))) else none) = _
  have h1 : alikes (ps.map ptD) = true := by
    unfold alikes
    rw [List.all_map, List.all_eq_true]
    intro p _
    show ((ps.map ptD).all fun b => PySem.W.alike (py (ptD p)) (py b)) = true
    rw [List.all_map, List.all_eq_true]
    intro q _
    show PySem.W.alike (py (ptD p)) (py (ptD q)) = true
    simp [ptD, py, pys, PySem.W.alike, PySem.W.alikeAll]
  have h2 : (ps.map ptD).all tupD = true := by
    rw [List.all_map, List.all_eq_true]
    intro p _
    rfl
  rw [fits_pts h, h1, h2, sortD_map]
  rfl
theorem sorted_tiesL {ts : List T4} (h : ∀ t ∈ ts, PyData.strOk t.2.1 = true) : opSorted [.lst (ts.map tieD)] = some (.lst ((srt tieD ts).map tieD)) := by
  show (if fits 60 (ts.map tieD) && (alikes (ts.map tieD) && ((ts.map tieD).all tupD || (ts.map tieD).all oneD)) then some (D.lst (sortD (ts.map tieD))) else none) = _
  have h1 : alikes (ts.map tieD) = true := by
    unfold alikes
    rw [List.all_map, List.all_eq_true]
    intro p _
    show ((ts.map tieD).all fun b => PySem.W.alike (py (tieD p)) (py b)) = true
    rw [List.all_map, List.all_eq_true]
    intro q _
    show PySem.W.alike (py (tieD p)) (py (tieD q)) = true
    simp [tieD, py, pys, PySem.W.alike, PySem.W.alikeAll]
  have h2 : (ts.map tieD).all tupD = true := by
    rw [List.all_map, List.all_eq_true]
    intro p _
    rfl
  rw [fits_ties h, h1, h2, sortD_map]
  rfl
theorem leD_key {a b : D} {i j : Int} {as bs : List D} (ha : a = .tup (.int i :: as)) (hb : b = .tup (.int j :: bs)) (ne : i ≠ j) : leD a b = decide (i ≤ j) := by
  subst ha
  subst hb
  show (!PySem.W.dataLt (.tuple (.int j :: pys bs)) (.tuple (.int i :: pys as))) = _
  rw [PySem.W.dataLt_tuple, PySem.W.dataLt_cons (by simp [PySem.W.alike])]
  have e : PyData.eqv (.int j) (.int i) = false := by
    simp only [PyData.eqv, beq_eq_false_iff_ne]
    exact fun z => ne z.symm
  rw [e, if_neg Bool.false_ne_true, PySem.W.dataLt_int, PySem.W.not_lt_int]
theorem leD_self {a : D} : leD a a = true := by
  show (!PySem.W.dataLt (py a) (py a)) = true
  unfold PySem.W.dataLt
  rw [PyProof.Rows.lex_irrefl]
  rfl
theorem key_inj {α : Type} {key : α → Int} : ∀ {xs : List α}, (xs.map key).Nodup → ∀ a ∈ xs, ∀ b ∈ xs, key a = key b → a = b
  | x :: xs, nd, a, ha, b, hb, e => by
    rw [List.map_cons, List.nodup_cons] at nd
    rcases List.mem_cons.mp ha with h1 | h1 <;> rcases List.mem_cons.mp hb with h2 | h2
    · rw [h1, h2]
    · subst h1
      exact (nd.1 (by rw [e]; exact List.mem_map.mpr ⟨b, h2, rfl⟩)).elim
    · subst h2
      exact (nd.1 (by rw [← e]; exact List.mem_map.mpr ⟨a, h1, rfl⟩)).elim
    · exact key_inj nd.2 a h1 b h2 e
theorem srt_key {α : Type} {f : α → D} {key : α → Int} (hf : ∀ x, ∃ r, f x = .tup (.int (key x) :: r)) {xs : List α} (nd : (xs.map key).Nodup) : srt f xs = xs.mergeSort (fun a b => decide (key a ≤ key b)) := by
  unfold srt
  refine PySem.W.sort_congr fun a ha b hb => ?_
  obtain ⟨r, e1⟩ := hf a
  obtain ⟨s, e2⟩ := hf b
  by_cases h : key a = key b
  · have := key_inj nd a ha b hb h
    subst this
    rw [leD_self, decide_eq_true (Int.le_refl _)]
  · exact leD_key e1 e2 h
theorem srt_rising {α : Type} {f : α → D} {key : α → Int} (hf : ∀ x, ∃ r, f x = .tup (.int (key x) :: r)) {xs : List α} (nd : (xs.map key).Nodup) : ((srt f xs).map key).Pairwise (· < ·) ∧ (srt f xs).Perm xs := by
  rw [srt_key hf nd]
  have hp : (xs.mergeSort fun a b => decide (key a ≤ key b)).Perm xs := List.mergeSort_perm _ _
  refine ⟨?_, hp⟩
  have hs := List.pairwise_mergeSort (le := fun a b => decide (key a ≤ key b)) (fun a b c h1 h2 => by simp only [decide_eq_true_eq] at *; omega) (fun a b => by simp only [Bool.or_eq_true, decide_eq_true_eq]; omega) xs
  have hn : ((xs.mergeSort fun a b => decide (key a ≤ key b)).map key).Nodup := (hp.map key).nodup_iff.mpr nd
  rw [List.pairwise_map]
  have hn2 : (xs.mergeSort fun a b => decide (key a ≤ key b)).Pairwise (fun a b => key a ≠ key b) := List.pairwise_map.mp hn
  refine (hs.and hn2).imp fun {a b} h => ?_
  have h1 : key a ≤ key b := of_decide_eq_true h.1
  have h2 := h.2
  omega
theorem srt_self {α : Type} {f : α → D} {key : α → Int} (hf : ∀ x, ∃ r, f x = .tup (.int (key x) :: r)) {xs : List α} (h : (xs.map key).Pairwise (· < ·)) : srt f xs = xs := by
  rw [srt_key hf (h.imp fun h => by omega)]
  refine List.mergeSort_of_pairwise ?_
  exact (List.pairwise_map.mp h).imp fun h => decide_eq_true (by omega)
end NT.Pure

set_option Elab.async false
set_option linter.all false
set_option maxRecDepth 100000
set_option maxHeartbeats 4000000
namespace NT.Pure
open PySem L2 NT NT.Den
local macro_rules | `(tactic| walk_at "ev") => `(tactic| simp (maxSteps := 100000000) only [iZip_ap, iDctN_ap, dctO_dK, gT_raw, rtb_rt, wO_nx, wO_rt, wO_rtN, wO_ex, stp_ap, sWhile_ap, wT_ok, sCalm_ap, iDct_ap, dctI_val, rtv_rt, rtvN_rtN, bnd_ok, bnd_ex, bnd_bad, bndO_ok, bndO_ex, bndO_bad, nxt_nx, nxt_rt, nxt_rtN, nxt_ex, nxt_bad, lft_some, mbind_ap, mpure_ap, lift_ap, eC_ap, rdV_val, eVar_ap, eBin_ap, eUn_ap, aNil_ap, aCons_ap, eFn_ap, eTup_ap, eLst_ap, tupO, lstO, tVal_ap, asB_bl, iteR_t, iteR_f, iteO_t, iteO_f, mAnd_ap, mOr_ap, mNot_ap, eAnd_ap, eOr_ap, eNot_ap, eChain_ap, vw_ok, vwN_ok, vwT_ok, eView_ap, eViewN_ap, tView_ap, sDo_ap, sSeq_ap, sSkip_ap, put_ap, sSet_ap, sSetN_ap, sRet_ap, sRetN_ap, sExpr_ap, sIf_ap, sRetO_ap, retO_own, sRaise_ap, sFor_ap, loop_nil, optO_some, sAsg_ap, iteS_t, gN_ap, gT_ap, gsNil_ap, bS_some, gsCons_ap, notBor_val, notBor_own, notBor_no, mineO_own, mineO_bor, with_own, with_bor, optR_some, mutAt_ap, eMut_ap, sPutAt_ap, outE_rt, outE_rtN, outE_nx, outE_ex, outN_rtN, outN_ex, eCall_ap, eCallN_ap, borO_bor, outO_rt, outO_rtN, outO_nx, outO_ex, outON_rtN, outON_ex, callO_ap, callON_ap, eCallO_ap, eCallON_ap, oHere_ap, oThere_ap, seqO_lst, seqO_tup, seqO_scr, iSeq_ap, sgnO_str, iSign_ap, iRange1_ap, iRange2_ap, eComp_ap, eSl_ap, oNone_ap, intO_int, oSome_ap, eGet2_ap, add_int, neg_int, mul_int, sub_int, lt_int, le_int, gt_int, ge_int, mod_int, fdiv_int, len_lst, len_tup, len_scr, len_str, ix_tup', ix_lst', tuple_lst, tuple_tup, list_lst, list_tup, append_lst, isLst_lst, isDct_dK, isDct_dT, is_bl, isNot_bl, plain_int, plain_str, plain_bl, plain_non, plain_tup, plainL_nil, plainL_cons, int_bl, int_int, viewS_val, viewS_own, viewS_bor, viewS_no, atI_0, atI_1, atI_2, atI_3, eq_int, ne_int, eq_bl, ne_bl, sl_tup,
  List.map_cons, List.map_nil, List.replicate_succ, List.replicate_zero, List.append_nil, List.nil_append, List.cons_append, List.length_cons, List.length_nil, List.getElem?_cons_zero, List.getElem?_cons_succ, List.set_cons_zero, List.set_cons_succ, Nat.reduceAdd, Nat.reduceLeDiff, Nat.reduceEqDiff, Int.reduceLT, Int.reduceLE, Int.reduceAdd, Int.reduceSub, Int.reduceNeg, Int.reduceBEq, cast_0, cast_1, cast_2, cast_3, cast_4, cast_5, cast_6, cast_7, cast_8, Int.reduceToNat, decide_true, decide_false, decide_eq_true_eq, if_true, if_false, ite_true, ite_false, reduceIte, Bool.and_true, Bool.true_and, Bool.and_false, Bool.false_and, Bool.or_false, Bool.false_or, Bool.or_true, Bool.true_or, Bool.not_true, Bool.not_false, eq_self, Bool.false_eq_true, and_true, true_and, beq_self_eq_true, Option.map_some, Option.bind_some, *])
/-! rows of a naming -/
def prD (p : Int × Int) : D := .tup [.int p.1, .int p.2]
def pairOf (n : Int) : D → Option Int
  | .tup [.int a, .int b] => if nmB a && (nmB b && a == n) then some b else none
  | _ => none
def zipO : List Int → List D → Option (List Int)
  | [], [] => some []
  | n :: ns, d :: ds => match pairOf n d, zipO ns ds with
    | some b, some bs => some (b :: bs)
    | _, _ => none
  | _, _ => none
def sameN (bs : List Int) : Bool := ((setL bs).length : Int) == (bs.length : Int)
def rowB (ns : List Int) : D → Bool
  | .tup ds => match zipO ns ds with
    | some bs => sameN bs
    | none => false
  | _ => false
theorem pairOf_some {n : Int} {d : D} {b : Int} (h : pairOf n d = some b) : d = prD (n, b) ∧ nameOk n ∧ nameOk b := by
  unfold pairOf at h
  split at h
  · rename_i a b'
    split at h
    · rename_i hc
      cases h
      simp only [nmB, Bool.and_eq_true, decide_eq_true_eq, beq_iff_eq] at hc
      obtain ⟨⟨h1, h2⟩, ⟨h3, h4⟩, h5⟩ := hc
      subst h5
      exact ⟨rfl, ⟨h1, h2⟩, ⟨h3, h4⟩⟩
    · cases h
  · cases h
theorem pairOf_pr {n b : Int} (h1 : nameOk n) (h2 : nameOk b) : pairOf n (prD (n, b)) = some b := by
  show (if _ then _ else _) = _
  rw [if_pos (by rw [nmB_ok h1, nmB_ok h2]; simp)]
theorem zipO_some : ∀ {ns : List Int} {ds : List D} {bs : List Int}, zipO ns ds = some bs → ds = (ns.zip bs).map prD ∧ bs.length = ns.length ∧ (∀ n ∈ ns, nameOk n) ∧ ∀ b ∈ bs, nameOk b
  | [], [], _, h => by cases h; exact ⟨rfl, rfl, (fun _ h => by cases h), (fun _ h => by cases h)⟩
  | [], _ :: _, _, h => by cases h
  | _ :: _, [], _, h => by cases h
  | n :: ns, d :: ds, bs, h => by
    unfold zipO at h
    split at h
    · rename_i b bs' h1 h2
      cases h
      obtain ⟨q1, q2, q3⟩ := pairOf_some h1
      obtain ⟨r1, r2, r3, r4⟩ := zipO_some h2
      refine ⟨by rw [List.zip_cons_cons, List.map_cons, ← q1, ← r1], by rw [List.length_cons, List.length_cons, r2], fun x hx => ?_, fun x hx => ?_⟩
      · rcases List.mem_cons.mp hx with z | z
        · rw [z]; exact q2
        · exact r3 x z
      · rcases List.mem_cons.mp hx with z | z
        · rw [z]; exact q3
        · exact r4 x z
    · cases h
theorem zipO_pr : ∀ {ns bs : List Int}, bs.length = ns.length → (∀ n ∈ ns, nameOk n) → (∀ b ∈ bs, nameOk b) → zipO ns ((ns.zip bs).map prD) = some bs
  | [], [], _, _, _ => rfl
  | [], _ :: _, h, _, _ => by simp at h
  | _ :: _, [], h, _, _ => by simp at h
  | n :: ns, b :: bs, h, h1, h2 => by
    rw [List.zip_cons_cons, List.map_cons]
    unfold zipO
    rw [pairOf_pr (h1 n List.mem_cons_self) (h2 b List.mem_cons_self), zipO_pr (by simpa using h) (fun x hx => h1 x (List.mem_cons_of_mem _ hx)) fun x hx => h2 x (List.mem_cons_of_mem _ hx)]
def zOk (x : Int × D) : Bool := (pairOf x.1 x.2).isSome
theorem zipO_all : ∀ {ns : List Int} {ds : List D}, ns.length = ds.length → (zipO ns ds).isSome = (ns.zip ds).all zOk
  | [], [], _ => rfl
  | [], _ :: _, h => by simp at h
  | _ :: _, [], h => by simp at h
  | n :: ns, d :: ds, h => by
    rw [List.zip_cons_cons, List.all_cons, ← zipO_all (ns := ns) (ds := ds) (by simpa using h)]
    show (match pairOf n d, zipO ns ds with
      | some b, some bs => some (b :: bs)
      | _, _ => none).isSome = ((pairOf n d).isSome && (zipO ns ds).isSome)
    cases pairOf n d <;> cases zipO ns ds <;> rfl
theorem zipO_ne : ∀ {ns : List Int} {ds : List D}, ns.length ≠ ds.length → zipO ns ds = none
  | [], [], h => absurd rfl h
  | [], _ :: _, _ => rfl
  | _ :: _, [], _ => rfl
  | n :: ns, d :: ds, h => by
    unfold zipO
    rw [zipO_ne (ns := ns) (ds := ds) (by simpa using h)]
    cases pairOf n d <;> rfl
theorem are_names_eq {ds : List D} (hk : kdL ds = true) : ∃ ρ', d_are_names [.val (.tup ds), .no] = .rt (.bl (ds.all isNameD)) ρ' := by
  have lk := loop_look (i := 1) (b := sIf (mNot (tVal (eCall 1 0 d_is_name [] (aCons (eVar 1) aNil)))) (sRet (eC (.bl false))) sSkip) (P := isNameD) (items := ds) (ρ := [.val (.tup ds), .no]) rfl
    (fun d hd hp => by
      have e := is_name_eq (kd_kn (kdL_mem hk d hd))
      rw [hp] at e
      clear hk hd
      walk_at "ev") (fun d hd hp => by
      have e := is_name_eq (kd_kn (kdL_mem hk d hd))
      rw [hp] at e
      refine ⟨[.val (.tup ds), .val d], ?_⟩
      clear hk hd
      walk_at "ev")
  have i1 : opIsi "tuple" (.tup ds) = some (.bl true) := rfl
  clear hk
  cases hq : ds.all isNameD with
  | true =>
    obtain ⟨s, _, h6⟩ := lk.1 hq
    refine ⟨[.val (.tup ds), s], ?_⟩
    clear lk hq
    unfold d_are_names
    walk_at "ev"
  | false =>
    obtain ⟨ρ', h6⟩ := lk.2 hq
    refine ⟨ρ', ?_⟩
    clear lk hq
    unfold d_are_names
    walk_at "ev"
def sndI (d : D) : Int := match d with
  | .tup [_, .int b] => b
  | _ => 0
theorem intsOf_map {xs : List Int} : intsOf (xs.map .int) = some xs := by
  induction xs with
  | nil => rfl
  | cons x xs ih =>
    rw [List.map_cons]
    show (intsOf (xs.map .int)).map _ = _
    rw [ih]
    rfl
theorem snd_zip : ∀ {ns bs : List Int}, bs.length = ns.length → (ns.zip bs).map (·.2) = bs := fun {ns bs} h => List.map_snd_zip (by omega)
theorem turns_eq {ns : List Int} {d : D} (hk : kd d = true) (hl : ns.length ≤ 1000) : ∃ ρ', d_turns [.val (.lst (ns.map .int)), .val d, .no, .no] = .rt (.bl (rowB ns d)) ρ' := by
  have t1 := is_tuple_eq (d := d) (n := ((ns.map D.int).length : Int)) (kd_kn hk)
  have ln : ((ns.map D.int).length : Int) = ns.length := by rw [List.length_map]
  by_cases ht : tupN ((ns.map D.int).length : Int) d = true
  · obtain ⟨ds, hd⟩ : ∃ ds, d = .tup ds := by
      cases d <;> first | exact ⟨_, rfl⟩ | cases ht
    subst hd
    have hlen : ns.length = ds.length := by
      have : ((ds.length : Int) == ((ns.map D.int).length : Int)) = true := ht
      rw [beq_iff_eq, ln] at this
      omega
    rw [ht] at t1
    have kl := kd_tup hk
    have z1 : zipD [.lst (ns.map .int), .tup ds] = some ((ns.zip ds).map fun x => .raw [.int x.1, x.2]) := by
      rw [zipD_map (α := D) (xs := ns.map .int) (ys := ds) rfl rfl, List.zip_map_left, List.map_map]
      rfl
    have hall := zipO_all hlen
    have hz0 : rowB ns (.tup ds) = match zipO ns ds with
      | some bs => sameN bs
      | none => false := rfl
    obtain ⟨I, hI⟩ : ∃ I : List (Int × D) → List Sl → Prop, I = fun xs ρ => ∃ s2 s3, isFree (some s2) = true ∧ isFree (some s3) = true ∧ ρ = [.val (.lst (ns.map .int)), .val (.tup ds), s2, s3] ∧ (ns.zip ds).all zOk = xs.all zOk ∧ ∀ x ∈ xs, kd x.2 = true := ⟨_, rfl⟩
    have w0 := Hid.mk hI
    have w1 := Hid.mk hall
    have w2 := Hid.mk hz0
    have w3 := Hid.mk hlen
    have w4 := Hid.mk kl
    have w5 := Hid.mk hl
    have h0 : Hid (I (ns.zip ds) [.val (.lst (ns.map .int)), .val (.tup ds), .no, .no]) := by
      refine ⟨?_⟩
      rw [hI]
      exact ⟨.no, .no, rfl, rfl, rfl, rfl, fun x hx => kdL_mem kl _ (List.of_mem_zip hx).2⟩
    clear hI hall hz0 hlen kl hl ht hk ln
    refine of_rt ?_
    generalize hN : ns.map D.int = nsD at *
    unfold d_turns
    walk_at "ev"
    refine wO_for I h0.out ?_ ?_
    · intro x xs ρ h
      rw [w0.out] at h
      obtain ⟨s2, s3, f2, f3, rfl, ha, hkd⟩ := h
      obtain ⟨n, e⟩ := x
      have ke : kd e = true := hkd (n, e) List.mem_cons_self
      have t2 := is_tuple_eq (d := e) (n := 2) (kd_kn ke)
      have f2 := free_nb f2
      have f3 := free_nb f3
      rw [List.all_cons] at ha
      have w6 : Hid _ := ⟨show ∀ x ∈ xs, kd x.2 = true from fun x hx => hkd x (List.mem_cons_of_mem _ hx)⟩
      by_cases h2 : tupN 2 e = true
      · obtain ⟨a, b, he⟩ := tup2_of h2
        subst he
        rw [h2] at t2
        obtain ⟨ρa, nm⟩ := are_names_eq (kd_tup ke)
        have na : ([a, b] : List D).all isNameD = (isNameD a && (isNameD b && true)) := rfl
        rw [na] at nm
        by_cases h3 : (isNameD a && (isNameD b && true)) = true
        · rw [h3] at nm
          rw [Bool.and_true, Bool.and_eq_true] at h3
          obtain ⟨ia, hia⟩ : ∃ i, a = .int i := by cases a <;> first | exact ⟨_, rfl⟩ | cases h3.1
          obtain ⟨ib, hib⟩ : ∃ i, b = .int i := by cases b <;> first | exact ⟨_, rfl⟩ | cases h3.2
          subst hia hib
          by_cases h4 : (ia == n) = true
          · have w7 : Hid ((ns.zip ds).all zOk = xs.all zOk) := by
              refine ⟨?_⟩
              rw [ha]
              have : zOk (n, .tup [.int ia, .int ib]) = true := by
                unfold zOk pairOf
                have a1 : nmB ia = true := h3.1
                have a2 : nmB ib = true := h3.2
                simp only [a1, a2, h4, Bool.and_self, if_true]
                rfl
              rw [this, Bool.true_and]
            clear ha hkd ke na h3 h0
            walk_at "ev"
            rw [w0.out]
            exact ⟨_, _, rfl, rfl, rfl, w7.out, w6.out⟩
          · have w7 : Hid (rowB ns (.tup ds) = false) := by
              refine ⟨?_⟩
              rw [w2.out]
              have : zOk (n, .tup [.int ia, .int ib]) = false := by
                unfold zOk pairOf
                have a1 : (ia == n) = false := by simpa using h4
                simp only [a1, Bool.and_false, Bool.false_eq_true, if_false]
                rfl
              rw [this, Bool.false_and] at ha
              have := w1.out
              rw [ha] at this
              cases hz : zipO ns ds with
              | none => rfl
              | some bs => rw [hz] at this; cases this
            have h4 : (ia == n) = false := by simpa using h4
            have e7 := w7.out
            clear ha hkd ke na h3 h0 w7
            walk_at "ev"
        · have h3 : (isNameD a && (isNameD b && true)) = false := by simpa using h3
          rw [h3] at nm
          have e7 : rowB ns (.tup ds) = false := by
            rw [w2.out]
            have : zOk (n, .tup [a, b]) = false := by
              unfold zOk pairOf
              split
              · rename_i ia ib he
                cases he
                have a1 : (nmB ia && (nmB ib && true)) = false := h3
                split
                · rename_i hc
                  exfalso
                  simp only [Bool.and_eq_true] at hc
                  rw [hc.1, hc.2.1] at a1
                  cases a1
                · rfl
              · rfl
            rw [this, Bool.false_and] at ha
            have := w1.out
            rw [ha] at this
            cases hz : zipO ns ds with
            | none => rfl
            | some bs => rw [hz] at this; cases this
          clear ha hkd ke na h3 h0
          walk_at "ev"
      · have h2 : tupN 2 e = false := by simpa using h2
        rw [h2] at t2
        have e7 : rowB ns (.tup ds) = false := by
          rw [w2.out]
          have : zOk (n, e) = false := by
            unfold zOk pairOf
            split
            · rename_i ia ib he
              subst he
              cases h2
            · rfl
          rw [this, Bool.false_and] at ha
          have := w1.out
          rw [ha] at this
          cases hz : zipO ns ds with
          | none => rfl
          | some bs => rw [hz] at this; cases this
        clear ha hkd ke h0
        walk_at "ev"
    · intro ρ h
      rw [w0.out] at h
      obtain ⟨s2, s3, f2, f3, rfl, ha, _⟩ := h
      have hs := w1.out
      rw [ha] at hs
      obtain ⟨bs, hz⟩ := Option.isSome_iff_exists.mp hs
      have e7 := w2.out
      rw [hz] at e7
      obtain ⟨q1, q2, q3, q4⟩ := zipO_some hz
      have c1 : compL (gN 3) (mpure true) (eBin opIx (eVar 3) (eC (.int 1))) [3] ((ns.zip bs).map prD) [] [.val (.lst nsD), .val (.tup ((ns.zip bs).map prD)), s2, s3] = .ok ((ns.zip bs).map fun p => .int p.2) [.val (.lst nsD), .val (.tup ((ns.zip bs).map prD)), s2, s3] := by
        refine comp_okM f3 (by rw [List.length_zip]; have := w5.out; omega) fun p _ => ?_
        have x1 : opIx (prD p) (.int 1) = some (.int p.2) := rfl
        clear w0 w1 w2 w3 w4 w5 h0 t1 z1 e7 q1 ha hs hz q2 q3 q4
        generalize (ns.zip bs).map prD = zz at *
        walk_at "ev"
      have c2 : ((ns.zip bs).map fun p => D.int p.2) = bs.map .int := by
        have := congrArg (List.map D.int) (snd_zip q2)
        rwa [List.map_map] at this
      rw [c2] at c1
      have c3 : opLenSet (.lst (bs.map .int)) = some (.int ((setL bs).length : Nat)) := by
        unfold opLenSet
        dsimp only
        rw [intsOf_map]
        exact if_pos (by have := w5.out; omega)
      have c4 : (((ns.zip bs).map prD).length : Int) = bs.length := by
        rw [List.length_map, List.length_zip, q2]
        omega
      have e8 : ∀ i j : Int, opEq (.int i) (.int j) = some (.bl (i == j)) := fun i j => eq_int
      have e9 : (((setL bs).length : Int) == (bs.length : Int)) = sameN bs := rfl
      subst q1
      clear w0 w1 w2 w3 w4 w5 h0 t1 z1 ha hs hz q2 q3 q4 f2 c2
      generalize hzz : (ns.zip bs).map prD = zz at *
      walk_at "ev"
  · have ht : tupN ((ns.map D.int).length : Int) d = false := by simpa using ht
    rw [ht] at t1
    have e7 : rowB ns d = false := by
      cases d with
      | tup ds =>
        have : ns.length ≠ ds.length := fun z => by
          have h : ((ds.length : Int) == ((ns.map D.int).length : Int)) = false := ht
          rw [ln, z] at h
          simp at h
        show (match zipO ns ds with
          | some bs => sameN bs
          | none => false) = false
        rw [zipO_ne this]
      | _ => rfl
    refine of_rt ?_
    clear hk ln hl
    generalize ns.map D.int = nsD at *
    unfold d_turns
    walk_at "ev"
end NT.Pure

set_option Elab.async false
set_option linter.all false
set_option maxRecDepth 100000
set_option maxHeartbeats 4000000
namespace NT.Pure
open PySem L2 NT NT.Den
local macro_rules | `(tactic| walk_at "ev") => `(tactic| simp (maxSteps := 100000000) only [iZip_ap, iDctN_ap, dctO_dK, gT_raw, rtb_rt, wO_nx, wO_rt, wO_rtN, wO_ex, stp_ap, sWhile_ap, wT_ok, sCalm_ap, iDct_ap, dctI_val, rtv_rt, rtvN_rtN, bnd_ok, bnd_ex, bnd_bad, bndO_ok, bndO_ex, bndO_bad, nxt_nx, nxt_rt, nxt_rtN, nxt_ex, nxt_bad, lft_some, mbind_ap, mpure_ap, lift_ap, eC_ap, rdV_val, eVar_ap, eBin_ap, eUn_ap, aNil_ap, aCons_ap, eFn_ap, eTup_ap, eLst_ap, tupO, lstO, tVal_ap, asB_bl, iteR_t, iteR_f, iteO_t, iteO_f, mAnd_ap, mOr_ap, mNot_ap, eAnd_ap, eOr_ap, eNot_ap, eChain_ap, vw_ok, vwN_ok, vwT_ok, eView_ap, eViewN_ap, tView_ap, sDo_ap, sSeq_ap, sSkip_ap, put_ap, sSet_ap, sSetN_ap, sRet_ap, sRetN_ap, sExpr_ap, sIf_ap, sRetO_ap, retO_own, sRaise_ap, sFor_ap, loop_nil, optO_some, sAsg_ap, iteS_t, gN_ap, gT_ap, gsNil_ap, bS_some, gsCons_ap, notBor_val, notBor_own, notBor_no, mineO_own, mineO_bor, with_own, with_bor, optR_some, mutAt_ap, eMut_ap, sPutAt_ap, outE_rt, outE_rtN, outE_nx, outE_ex, outN_rtN, outN_ex, eCall_ap, eCallN_ap, borO_bor, outO_rt, outO_rtN, outO_nx, outO_ex, outON_rtN, outON_ex, callO_ap, callON_ap, eCallO_ap, eCallON_ap, oHere_ap, oThere_ap, seqO_lst, seqO_tup, seqO_scr, iSeq_ap, sgnO_str, iSign_ap, iRange1_ap, iRange2_ap, eComp_ap, eSl_ap, oNone_ap, intO_int, oSome_ap, eGet2_ap, add_int, neg_int, mul_int, sub_int, lt_int, le_int, gt_int, ge_int, mod_int, fdiv_int, len_lst, len_tup, len_scr, len_str, ix_tup', ix_lst', tuple_lst, tuple_tup, list_lst, list_tup, append_lst, isLst_lst, isDct_dK, isDct_dT, is_bl, isNot_bl, plain_int, plain_str, plain_bl, plain_non, plain_tup, plainL_nil, plainL_cons, int_bl, int_int, viewS_val, viewS_own, viewS_bor, viewS_no, atI_0, atI_1, atI_2, atI_3, eq_int, ne_int, eq_bl, ne_bl, sl_tup,
  List.map_cons, List.map_nil, List.replicate_succ, List.replicate_zero, List.append_nil, List.nil_append, List.cons_append, List.length_cons, List.length_nil, List.getElem?_cons_zero, List.getElem?_cons_succ, List.set_cons_zero, List.set_cons_succ, Nat.reduceAdd, Nat.reduceLeDiff, Nat.reduceEqDiff, Int.reduceLT, Int.reduceLE, Int.reduceAdd, Int.reduceSub, Int.reduceNeg, Int.reduceBEq, cast_0, cast_1, cast_2, cast_3, cast_4, cast_5, cast_6, cast_7, cast_8, Int.reduceToNat, decide_true, decide_false, decide_eq_true_eq, if_true, if_false, ite_true, ite_false, reduceIte, Bool.and_true, Bool.true_and, Bool.and_false, Bool.false_and, Bool.or_false, Bool.false_or, Bool.or_true, Bool.true_or, Bool.not_true, Bool.not_false, eq_self, Bool.false_eq_true, and_true, true_and, beq_self_eq_true, Option.map_some, Option.bind_some, *])
/-! the law's look at a row -/
def seenK (bs : List Int) : List (Key × D) := bs.map fun b => (.inl b, .bl true)
def lawRow : List Int → List (Int × D) → Bool
  | _, [] => true
  | seen, (n, d) :: r => match pairOf n d with
    | some b => if seen.any (· == b) then false else lawRow (seen ++ [b]) r
    | none => false
theorem in_seen {bs : List Int} {i : Int} : opInD false (.int i) (.dK (seenK bs)) = some (.bl (bs.any (· == i))) := by
  show some (D.bl ((lookD (seenK bs) (.inl i)).isSome)) = _
  have : (lookD (seenK bs) (.inl i)).isSome = bs.any (· == i) := by
    unfold lookD seenK
    rw [Option.isSome_map]
    induction bs with
    | nil => rfl
    | cons p ps ih =>
      rw [List.map_cons, List.find?_cons, List.any_cons]
      by_cases h : p = i
      · rw [show decide ((Sum.inl p : Key) = Sum.inl i) = true from decide_eq_true (by rw [h]), show (p == i) = true from by simpa using h]
        rfl
      · rw [show decide ((Sum.inl p : Key) = Sum.inl i) = false from decide_eq_false (fun z => h (Sum.inl.inj z)), show (p == i) = false from by simpa using h]
        exact ih
  rw [this]
theorem put_seen {bs : List Int} {i : Int} (h : bs.any (· == i) = false) (hl : bs.length ≤ 100000) : opPutD (.dK (seenK bs)) (.int i) (.bl true) = some (.dK (seenK (bs ++ [i]))) := by
  show (if (seenK bs).length ≤ 100000 then some (D.dK (putD (seenK bs) (.inl i) (.bl true))) else none) = _
  rw [if_pos (by unfold seenK; rw [List.length_map]; exact hl), put_new]
  · unfold seenK
    rw [List.map_append]
    rfl
  · intro kv hk e
    obtain ⟨b, hb, rfl⟩ := List.mem_map.mp hk
    have e : b = i := Sum.inl.inj e
    subst e
    rw [List.any_eq_false] at h
    exact h b hb (by simp)
/-- no image twice -/
theorem dedI_len : ∀ {bs acc : List Int}, ((bs.foldl dedI acc).length = acc.length + bs.length ↔ ∀ l r b, bs = l ++ b :: r → (acc ++ l).any (· == b) = false) ∧ (bs.foldl dedI acc).length ≤ acc.length + bs.length
  | [], acc => ⟨⟨fun _ l r b h => by simp at h, fun _ => rfl⟩, Nat.le_refl _⟩
  | b :: bs, acc => by
    rw [List.foldl_cons, List.length_cons]
    by_cases h : acc.any (· == b) = true
    · have e : dedI acc b = acc := if_pos h
      rw [e]
      have ih := (dedI_len (bs := bs) (acc := acc)).2
      refine ⟨⟨fun z => by omega, fun z => ?_⟩, by omega⟩
      have := z [] bs b rfl
      rw [List.append_nil, h] at this
      cases this
    · have e : dedI acc b = acc ++ [b] := if_neg h
      rw [e]
      obtain ⟨i1, i2⟩ := dedI_len (bs := bs) (acc := acc ++ [b])
      rw [List.length_append, List.length_singleton] at i1 i2
      refine ⟨⟨fun z l r c hc => ?_, fun z => ?_⟩, by omega⟩
      · cases l with
        | nil =>
          simp only [List.nil_append, List.cons.injEq] at hc
          rw [List.append_nil, ← hc.1]
          exact (Bool.not_eq_true _).mp h
        | cons x l =>
          simp only [List.cons_append, List.cons.injEq] at hc
          have := i1.mp (by omega) l r c hc.2
          rw [← hc.1]
          rwa [List.append_assoc] at this
      · have := i1.mpr fun l r c hc => by
          have := z (b :: l) r c (by rw [hc]; rfl)
          rwa [List.append_assoc]
        omega
theorem law_of_zip : ∀ {ns : List Int} {ds : List D} {seen : List Int}, ns.length = ds.length → lawRow seen (ns.zip ds) = match zipO ns ds with
    | some bs => decide ((bs.foldl dedI seen).length = seen.length + bs.length)
    | none => false
  | [], [], seen, _ => by
    exact (decide_eq_true (by simp)).symm
  | [], _ :: _, _, h => by simp at h
  | _ :: _, [], _, h => by simp at h
  | n :: ns, d :: ds, seen, h => by
    rw [List.zip_cons_cons]
    show (match pairOf n d with
      | some b => if seen.any (· == b) then false else lawRow (seen ++ [b]) (ns.zip ds)
      | none => false) = (match (match pairOf n d, zipO ns ds with
      | some b, some bs => some (b :: bs)
      | _, _ => none) with
      | some bs => decide ((bs.foldl dedI seen).length = seen.length + bs.length)
      | none => false)
    cases hp : pairOf n d with
    | none => rfl
    | some b =>
      have ih := law_of_zip (ns := ns) (ds := ds) (seen := seen ++ [b]) (by simpa using h)
      dsimp only
      rw [ih]
      cases hz : zipO ns ds with
      | none => dsimp only; split <;> rfl
      | some bs =>
        dsimp only
        rw [List.foldl_cons]
        by_cases hs : seen.any (· == b) = true
        · rw [if_pos hs, show dedI seen b = seen from if_pos hs, List.length_cons]
          have := (dedI_len (bs := bs) (acc := seen)).2
          rw [decide_eq_false (by omega)]
        · rw [if_neg hs, show dedI seen b = seen ++ [b] from if_neg hs, List.length_append, List.length_singleton, List.length_cons]
          congr 1
          rw [show seen.length + 1 + bs.length = seen.length + (bs.length + 1) by omega]
theorem lawRow_eq {ns : List Int} {ds : List D} (h : ns.length = ds.length) : lawRow [] (ns.zip ds) = rowB ns (.tup ds) := by
  rw [law_of_zip h]
  show _ = (match zipO ns ds with
    | some bs => sameN bs
    | none => false)
  cases zipO ns ds with
  | none => rfl
  | some bs =>
    dsimp only
    unfold sameN setL
    rw [List.length_nil, Nat.zero_add]
    by_cases q : (List.foldl dedI [] bs).length = bs.length
    · rw [decide_eq_true q, q]
      simp
    · rw [decide_eq_false q]
      symm
      rw [beq_eq_false_iff_ne]
      omega
theorem law_is_name_eq {d : D} (h : kn d = true) : d_law_is_name [.val d] = .rt (.bl (isNameD d)) [.val d] := by
  cases d with
  | int i =>
    have e1 : opIsi "int" (.int i) = some (.bl true) := rfl
    have e2 : opIsi "bool" (.int i) = some (.bl false) := rfl
    unfold d_law_is_name isNameD
    cases h1 : decide (0 ≤ i) <;> walk_at "ev"
  | scr _ => cases h
  | dT _ => cases h
  | exn _ => cases h
  | raw _ => cases h
  | obj _ _ => cases h
  | _ => rfl
def itD (x : Int × List D) : D := .tup (.int x.1 :: x.2)
theorem zip_items {is : List (Int × List D)} {ds : List D} : zipD [.tup (is.map itD), .tup ds] = some ((is.zip ds).map fun x => .raw [itD x.1, x.2]) := by
  rw [zipD_map (α := D) (xs := is.map itD) (ys := ds) rfl rfl, List.zip_map_left, List.map_map]
  rfl
theorem tup_kinds {d : D} (h : kn d = true) : (∃ ds, d = .tup ds) ∨ opIsi "tuple" d = some (.bl false) := by
  cases d <;> first | exact .inl ⟨_, rfl⟩ | exact .inr rfl | cases h
theorem is_row_eq {is : List (Int × List D)} {d : D} (hk : kd d = true) (hl : is.length ≤ 1000) : ∃ ρ', d_law_is_row [.val (.tup (is.map itD)), .val d, .no, .no, .no] = .rt (.bl (rowB (is.map (·.1)) d)) ρ' := by
  rcases tup_kinds (kd_kn hk) with ⟨ds, hd⟩ | hno
  · subst hd
    have i1 : opIsi "tuple" (.tup ds) = some (.bl true) := rfl
    have ln : ((is.map itD).length : Int) = is.length := by rw [List.length_map]
    by_cases hlen : is.length = ds.length
    · have z1 := @zip_items is ds
      have kl := kd_tup hk
      have hn : (is.map (·.1)).length = ds.length := by rw [List.length_map]; exact hlen
      have hr := lawRow_eq hn
      have hz : (is.map (·.1)).zip ds = (is.zip ds).map fun x => (x.1.1, x.2) := by
        rw [List.zip_map_left]
        rfl
      rw [hz] at hr
      obtain ⟨I, hI⟩ : ∃ I : List ((Int × List D) × D) → List Sl → Prop, I = fun xs ρ => ∃ seen s3 s4, isFree (some s3) = true ∧ isFree (some s4) = true ∧ ρ = [.val (.tup (is.map itD)), .val (.tup ds), .own (.dK (seenK seen)), s3, s4] ∧ seen.length + xs.length ≤ 2000 ∧ rowB (is.map (·.1)) (.tup ds) = lawRow seen (xs.map fun x => (x.1.1, x.2)) ∧ ∀ x ∈ xs, kd x.2 = true := ⟨_, rfl⟩
      have w0 := Hid.mk hI
      have h0 : Hid (I (is.zip ds) [.val (.tup (is.map itD)), .val (.tup ds), .own (.dK []), .no, .no]) := by
        refine ⟨?_⟩
        rw [hI]
        exact ⟨[], .no, .no, rfl, rfl, rfl, by rw [List.length_zip, List.length_nil]; omega, hr.symm, fun x hx => kdL_mem kl _ (List.of_mem_zip hx).2⟩
      have e1 : ((ds.length : Int) == (((is.map itD).length : Nat) : Int)) = true := by rw [ln]; simp; omega
      have e1' : ∀ i j : Int, opNe (.int i) (.int j) = some (.bl (!(i == j))) := fun i j => ne_int
      clear hI hr hz hn kl hlen hl hk ln
      refine of_rt ?_
      generalize hN : is.map itD = isD at *
      unfold d_law_is_row
      walk_at "ev"
      refine wO_for I h0.out ?_ ?_
      · intro x xs ρ h
        rw [w0.out] at h
        obtain ⟨seen, s3, s4, f3, f4, rfl, hle, hro, hkd⟩ := h
        obtain ⟨⟨n, r⟩, e⟩ := x
        have ke : kd e = true := hkd ((n, r), e) List.mem_cons_self
        have f3 := free_nb f3
        have f4 := free_nb f4
        rw [List.length_cons] at hle
        rw [List.map_cons] at hro
        replace hro : rowB (is.map (·.1)) (.tup ds) = (match pairOf n e with
          | some b => if seen.any (· == b) then false else lawRow (seen ++ [b]) (xs.map fun x => (x.1.1, x.2))
          | none => false) := hro
        have w6 : Hid _ := ⟨show ∀ x ∈ xs, kd x.2 = true from fun x hx => hkd x (List.mem_cons_of_mem _ hx)⟩
        have x0 : opIx (itD (n, r)) (.int 0) = some (.int n) := atI_0
        clear h0 hkd
        rcases tup_kinds (kd_kn ke) with ⟨es, he⟩ | hno
        · subst he
          have i2 : opIsi "tuple" (.tup es) = some (.bl true) := rfl
          by_cases h2 : es.length = 2
          · obtain ⟨a, b, he⟩ : ∃ a b, es = [a, b] := by
              match es, h2 with
              | [a, b], _ => exact ⟨a, b, rfl⟩
            subst he
            have ka := kdL_mem (kd_tup ke) a (by simp)
            have kb := kdL_mem (kd_tup ke) b (by simp)
            have na := law_is_name_eq (kd_kn ka)
            have nb := law_is_name_eq (kd_kn kb)
            have e2 : (((2 : Nat) : Int) == 2) = true := rfl
            cases ha : isNameD a with
            | false =>
              rw [ha] at na
              have e7 : rowB (is.map (·.1)) (.tup ds) = false := by
                rw [hro]
                have : pairOf n (.tup [a, b]) = none := by
                  unfold pairOf
                  split
                  · rename_i ia ib he
                    cases he
                    have a1 : nmB ia = false := ha
                    rw [a1, Bool.false_and, if_neg (by simp)]
                  · rfl
                rw [this]
              clear hro ke ka kb
              walk_at "ev"
            | true =>
              rw [ha] at na
              obtain ⟨ia, hia⟩ : ∃ i, a = .int i := by cases a <;> first | exact ⟨_, rfl⟩ | cases ha
              subst hia
              cases hb : isNameD b with
              | false =>
                rw [hb] at nb
                have e7 : rowB (is.map (·.1)) (.tup ds) = false := by
                  rw [hro]
                  have : pairOf n (.tup [.int ia, b]) = none := by
                    unfold pairOf
                    split
                    · rename_i ia' ib he
                      cases he
                      have a1 : nmB ib = false := hb
                      rw [a1, Bool.false_and, Bool.and_false, if_neg (by simp)]
                    · rfl
                  rw [this]
                clear hro ke ka kb
                walk_at "ev"
              | true =>
                rw [hb] at nb
                obtain ⟨ib, hib⟩ : ∃ i, b = .int i := by cases b <;> first | exact ⟨_, rfl⟩ | cases hb
                subst hib
                have a1 : nmB ia = true := ha
                have a2 : nmB ib = true := hb
                cases h4 : (ia == n) with
                | false =>
                  have e7 : rowB (is.map (·.1)) (.tup ds) = false := by
                    rw [hro]
                    have : pairOf n (.tup [.int ia, .int ib]) = none := by
                      unfold pairOf
                      simp only [h4, Bool.and_false, Bool.false_eq_true, if_false]
                    rw [this]
                  clear hro ke ka kb
                  walk_at "ev"
                | true =>
                  have hp : pairOf n (.tup [.int ia, .int ib]) = some ib := by
                    unfold pairOf
                    simp only [a1, a2, h4, Bool.and_self, if_true]
                  rw [hp] at hro
                  dsimp only at hro
                  have d1 := @in_seen seen ib
                  cases h5 : seen.any (· == ib) with
                  | true =>
                    rw [h5] at d1 hro
                    have e7 : rowB (is.map (·.1)) (.tup ds) = false := hro
                    clear hro ke ka kb h5
                    walk_at "ev"
                  | false =>
                    rw [h5] at d1 hro
                    have w7 : Hid (rowB (is.map (·.1)) (.tup ds) = lawRow (seen ++ [ib]) (xs.map fun x => (x.1.1, x.2))) := ⟨hro⟩
                    have d2 := put_seen h5 (by omega)
                    have w8 := Hid.mk hle
                    clear hro ke ka kb h5 hle
                    walk_at "ev"
                    rw [w0.out]
                    exact ⟨_, _, _, rfl, rfl, rfl, by have := w8.out; rw [List.length_append, List.length_singleton]; omega, w7.out, w6.out⟩
          · have e2 : ((es.length : Int) == 2) = false := by
              rw [beq_eq_false_iff_ne]
              omega
            have e7 : rowB (is.map (·.1)) (.tup ds) = false := by
              rw [hro]
              have : pairOf n (.tup es) = none := by
                unfold pairOf
                split
                · rename_i ia ib he
                  cases he
                  exact absurd rfl h2
                · rfl
              rw [this]
            clear hro ke
            walk_at "ev"
        · have e7 : rowB (is.map (·.1)) (.tup ds) = false := by
            rw [hro]
            have : pairOf n e = none := by
              unfold pairOf
              split
              · cases hno
              · rfl
            rw [this]
          clear hro ke
          walk_at "ev"
      · intro ρ h
        rw [w0.out] at h
        obtain ⟨seen, s3, s4, f3, f4, rfl, hle, hro, _⟩ := h
        have e7 : rowB (is.map (·.1)) (.tup ds) = true := hro
        clear w0 h0 hro hle
        walk_at "ev"
    · have e1 : ((ds.length : Int) == (((is.map itD).length : Nat) : Int)) = false := by
        rw [ln, beq_eq_false_iff_ne]
        omega
      have e1' : ∀ i j : Int, opNe (.int i) (.int j) = some (.bl (!(i == j))) := fun i j => ne_int
      have e7 : rowB (is.map (·.1)) (.tup ds) = false := by
        show (match zipO (is.map (·.1)) ds with
          | some bs => sameN bs
          | none => false) = false
        rw [zipO_ne (by rw [List.length_map]; exact hlen)]
      refine of_rt ?_
      clear ln hk hl
      generalize is.map itD = isD at *
      unfold d_law_is_row
      walk_at "ev"
  · have e7 : rowB (is.map (·.1)) d = false := by
      cases d <;> first | rfl | cases hno
    refine of_rt ?_
    generalize is.map itD = isD at *
    clear hk hl
    unfold d_law_is_row
    walk_at "ev"
end NT.Pure

set_option Elab.async false
set_option linter.all false
set_option maxRecDepth 100000
set_option maxHeartbeats 4000000
namespace NT.Pure
open PySem L2 NT NT.Den
local macro_rules | `(tactic| walk_at "ev") => `(tactic| simp (maxSteps := 100000000) only [iZip_ap, iDctN_ap, dctO_dK, gT_raw, rtb_rt, wO_nx, wO_rt, wO_rtN, wO_ex, stp_ap, sWhile_ap, wT_ok, sCalm_ap, iDct_ap, dctI_val, rtv_rt, rtvN_rtN, bnd_ok, bnd_ex, bnd_bad, bndO_ok, bndO_ex, bndO_bad, nxt_nx, nxt_rt, nxt_rtN, nxt_ex, nxt_bad, lft_some, mbind_ap, mpure_ap, lift_ap, eC_ap, rdV_val, eVar_ap, eBin_ap, eUn_ap, aNil_ap, aCons_ap, eFn_ap, eTup_ap, eLst_ap, tupO, lstO, tVal_ap, asB_bl, iteR_t, iteR_f, iteO_t, iteO_f, mAnd_ap, mOr_ap, mNot_ap, eAnd_ap, eOr_ap, eNot_ap, eChain_ap, vw_ok, vwN_ok, vwT_ok, eView_ap, eViewN_ap, tView_ap, sDo_ap, sSeq_ap, sSkip_ap, put_ap, sSet_ap, sSetN_ap, sRet_ap, sRetN_ap, sExpr_ap, sIf_ap, sRetO_ap, retO_own, sRaise_ap, sFor_ap, loop_nil, optO_some, sAsg_ap, iteS_t, gN_ap, gT_ap, gsNil_ap, bS_some, gsCons_ap, notBor_val, notBor_own, notBor_no, mineO_own, mineO_bor, with_own, with_bor, optR_some, mutAt_ap, eMut_ap, sPutAt_ap, outE_rt, outE_rtN, outE_nx, outE_ex, outN_rtN, outN_ex, eCall_ap, eCallN_ap, borO_bor, outO_rt, outO_rtN, outO_nx, outO_ex, outON_rtN, outON_ex, callO_ap, callON_ap, eCallO_ap, eCallON_ap, oHere_ap, oThere_ap, seqO_lst, seqO_tup, seqO_scr, iSeq_ap, sgnO_str, iSign_ap, iRange1_ap, iRange2_ap, eComp_ap, eSl_ap, oNone_ap, intO_int, oSome_ap, eGet2_ap, add_int, neg_int, mul_int, sub_int, lt_int, le_int, gt_int, ge_int, mod_int, fdiv_int, len_lst, len_tup, len_scr, len_str, ix_tup', ix_lst', tuple_lst, tuple_tup, list_lst, list_tup, append_lst, isLst_lst, isDct_dK, isDct_dT, is_bl, isNot_bl, plain_int, plain_str, plain_bl, plain_non, plain_tup, plainL_nil, plainL_cons, int_bl, int_int, viewS_val, viewS_own, viewS_bor, viewS_no, atI_0, atI_1, atI_2, atI_3, eq_int, ne_int, eq_bl, ne_bl, sl_tup,
  List.map_cons, List.map_nil, List.replicate_succ, List.replicate_zero, List.append_nil, List.nil_append, List.cons_append, List.length_cons, List.length_nil, List.getElem?_cons_zero, List.getElem?_cons_succ, List.set_cons_zero, List.set_cons_succ, Nat.reduceAdd, Nat.reduceLeDiff, Nat.reduceEqDiff, Int.reduceLT, Int.reduceLE, Int.reduceAdd, Int.reduceSub, Int.reduceNeg, Int.reduceBEq, cast_0, cast_1, cast_2, cast_3, cast_4, cast_5, cast_6, cast_7, cast_8, Int.reduceToNat, decide_true, decide_false, decide_eq_true_eq, if_true, if_false, ite_true, ite_false, reduceIte, Bool.and_true, Bool.true_and, Bool.and_false, Bool.false_and, Bool.or_false, Bool.false_or, Bool.or_true, Bool.true_or, Bool.not_true, Bool.not_false, eq_self, Bool.false_eq_true, and_true, true_and, beq_self_eq_true, Option.map_some, Option.bind_some, *])
/-! what is a naming -/
def namB (ps : List P2) (ts : List T4) : D → Bool
  | .tup [a, b] => rowB (ps.map (·.1)) a && rowB (ts.map (·.1)) b
  | _ => false
theorem names_pts {ps : List P2} (h : ps.length ≤ 1000) : ∃ ρ', d_names_of [.val (.tup (ps.map ptD)), .no] = .rtN (.lst ((ps.map (·.1)).map .int)) ρ' := by
  have c1 := names_comp (i := 1) (ρ := [.val (.tup (ps.map ptD)), .no]) (xs := ps) (f := ptD) (g := (·.1)) (fun x => ⟨_, rfl⟩) rfl (by omega)
  refine of_rtvN ?_
  clear h
  generalize ps.map ptD = xs at *
  unfold d_names_of
  walk_at "ev"
theorem names_ties {ps : List T4} (h : ps.length ≤ 1000) : ∃ ρ', d_names_of [.val (.tup (ps.map tieD)), .no] = .rtN (.lst ((ps.map (·.1)).map .int)) ρ' := by
  have c1 := names_comp (i := 1) (ρ := [.val (.tup (ps.map tieD)), .no]) (xs := ps) (f := tieD) (g := (·.1)) (fun x => ⟨_, rfl⟩) rfl (by omega)
  refine of_rtvN ?_
  clear h
  generalize ps.map tieD = xs at *
  unfold d_names_of
  walk_at "ev"
theorem is_naming_eq {ps : List P2} {ts : List T4} {d : D} (hk : kd d = true) (hp : ps.length ≤ 1000) (ht : ts.length ≤ 1000) : ∃ ρ', d_is_naming [.val (netD ps ts), .val d] = .rt (.bl (namB ps ts d)) ρ' := by
  have t1 := is_tuple_eq (d := d) (n := 2) (kd_kn hk)
  by_cases h2 : tupN 2 d = true
  · obtain ⟨a, b, he⟩ := tup2_of h2
    subst he
    rw [h2] at t1
    obtain ⟨ρ1, e1⟩ := names_pts hp
    obtain ⟨ρ2, e2⟩ := names_ties ht
    obtain ⟨ρ3, e3⟩ := turns_eq (ns := ps.map (·.1)) (d := a) (kdL_mem (kd_tup hk) a (by simp)) (by rw [List.length_map]; exact hp)
    obtain ⟨ρ4, e4⟩ := turns_eq (ns := ts.map (·.1)) (d := b) (kdL_mem (kd_tup hk) b (by simp)) (by rw [List.length_map]; exact ht)
    refine of_rtv ?_
    have e5 : namB ps ts (.tup [a, b]) = (rowB (ps.map (·.1)) a && rowB (ts.map (·.1)) b) := rfl
    have x0 : opIx (netD ps ts) (.int 0) = some (.tup (ps.map ptD)) := rfl
    have x1 : opIx (netD ps ts) (.int 1) = some (.tup (ts.map tieD)) := rfl
    clear hk hp ht
    generalize ps.map ptD = xs at *
    generalize ts.map tieD = ys at *
    generalize (ps.map (·.1)).map D.int = us at *
    generalize (ts.map (·.1)).map D.int = vs at *
    generalize netD ps ts = nn at *
    unfold d_is_naming
    cases q1 : rowB (ps.map (·.1)) a <;> walk_at "ev"
  · have h2 : tupN 2 d = false := by simpa using h2
    rw [h2] at t1
    have e5 : namB ps ts d = false := by
      unfold namB
      split
      · cases h2
      · rfl
    refine of_rtv ?_
    clear hk
    generalize netD ps ts = nn at *
    unfold d_is_naming
    walk_at "ev"
theorem pts_it {ps : List P2} : ps.map ptD = (ps.map fun p => (p.1, [D.str p.2])).map itD := by rw [List.map_map]; rfl
theorem ties_it {ts : List T4} : ts.map tieD = (ts.map fun t => (t.1, [D.str t.2.1, .int t.2.2.1, .int t.2.2.2])).map itD := by rw [List.map_map]; rfl
theorem row_pts {ps : List P2} {d : D} (hk : kd d = true) (hl : ps.length ≤ 1000) : ∃ ρ', d_law_is_row [.val (.tup (ps.map ptD)), .val d, .no, .no, .no] = .rt (.bl (rowB (ps.map (·.1)) d)) ρ' := by
  have h := is_row_eq (is := ps.map fun p => (p.1, [D.str p.2])) hk (by rw [List.length_map]; exact hl)
  rw [← pts_it, List.map_map] at h
  exact h
theorem row_ties {ts : List T4} {d : D} (hk : kd d = true) (hl : ts.length ≤ 1000) : ∃ ρ', d_law_is_row [.val (.tup (ts.map tieD)), .val d, .no, .no, .no] = .rt (.bl (rowB (ts.map (·.1)) d)) ρ' := by
  have h := is_row_eq (is := ts.map fun t => (t.1, [D.str t.2.1, .int t.2.2.1, .int t.2.2.2])) hk (by rw [List.length_map]; exact hl)
  rw [← ties_it, List.map_map] at h
  exact h
theorem law_naming_eq {ps : List P2} {ts : List T4} {d : D} (hk : kd d = true) (hp : ps.length ≤ 1000) (ht : ts.length ≤ 1000) : ∃ ρ', d_law_is_naming [.val (netD ps ts), .val d] = .rt (.bl (namB ps ts d)) ρ' := by
  rcases tup_kinds (kd_kn hk) with ⟨es, he⟩ | hno
  · subst he
    have i2 : opIsi "tuple" (.tup es) = some (.bl true) := rfl
    have e1' : ∀ i j : Int, opNe (.int i) (.int j) = some (.bl (!(i == j))) := fun i j => ne_int
    by_cases h2 : es.length = 2
    · obtain ⟨a, b, he⟩ : ∃ a b, es = [a, b] := by
        match es, h2 with
        | [a, b], _ => exact ⟨a, b, rfl⟩
      subst he
      have e2 : (((2 : Nat) : Int) == 2) = true := rfl
      obtain ⟨ρ3, e3⟩ := row_pts (ps := ps) (d := a) (kdL_mem (kd_tup hk) a (by simp)) hp
      obtain ⟨ρ4, e4⟩ := row_ties (ts := ts) (d := b) (kdL_mem (kd_tup hk) b (by simp)) ht
      refine of_rtv ?_
      have e5 : namB ps ts (.tup [a, b]) = (rowB (ps.map (·.1)) a && rowB (ts.map (·.1)) b) := rfl
      have x0 : opIx (netD ps ts) (.int 0) = some (.tup (ps.map ptD)) := rfl
      have x1 : opIx (netD ps ts) (.int 1) = some (.tup (ts.map tieD)) := rfl
      clear hk hp ht h2
      generalize ps.map ptD = xs at *
      generalize ts.map tieD = ys at *
      generalize netD ps ts = nn at *
      unfold d_law_is_naming
      cases q1 : rowB (ps.map (·.1)) a <;> walk_at "ev"
    · have e2 : ((es.length : Int) == 2) = false := by
        rw [beq_eq_false_iff_ne]
        omega
      have e5 : namB ps ts (.tup es) = false := by
        unfold namB
        split
        · rename_i he
          cases he
          exact absurd rfl h2
        · rfl
      refine of_rtv ?_
      clear hk h2
      generalize netD ps ts = nn at *
      unfold d_law_is_naming
      walk_at "ev"
  · have e5 : namB ps ts d = false := by
      unfold namB
      split
      · cases hno
      · rfl
    refine of_rtv ?_
    clear hk
    generalize netD ps ts = nn at *
    unfold d_law_is_naming
    walk_at "ev"
end NT.Pure

set_option Elab.async false
set_option linter.all false
set_option maxRecDepth 100000
set_option maxHeartbeats 4000000
namespace NT.Pure
open PySem L2 NT NT.Den
local macro_rules | `(tactic| walk_at "ev") => `(tactic| simp (maxSteps := 100000000) only [iZip_ap, iDctN_ap, dctO_dK, gT_raw, rtb_rt, wO_nx, wO_rt, wO_rtN, wO_ex, stp_ap, sWhile_ap, wT_ok, sCalm_ap, iDct_ap, dctI_val, rtv_rt, rtvN_rtN, bnd_ok, bnd_ex, bnd_bad, bndO_ok, bndO_ex, bndO_bad, nxt_nx, nxt_rt, nxt_rtN, nxt_ex, nxt_bad, lft_some, mbind_ap, mpure_ap, lift_ap, eC_ap, rdV_val, eVar_ap, eBin_ap, eUn_ap, aNil_ap, aCons_ap, eFn_ap, eTup_ap, eLst_ap, tupO, lstO, tVal_ap, asB_bl, iteR_t, iteR_f, iteO_t, iteO_f, mAnd_ap, mOr_ap, mNot_ap, eAnd_ap, eOr_ap, eNot_ap, eChain_ap, vw_ok, vwN_ok, vwT_ok, eView_ap, eViewN_ap, tView_ap, sDo_ap, sSeq_ap, sSkip_ap, put_ap, sSet_ap, sSetN_ap, sRet_ap, sRetN_ap, sExpr_ap, sIf_ap, sRetO_ap, retO_own, sRaise_ap, sFor_ap, loop_nil, optO_some, sAsg_ap, iteS_t, gN_ap, gT_ap, gsNil_ap, bS_some, gsCons_ap, notBor_val, notBor_own, notBor_no, mineO_own, mineO_bor, with_own, with_bor, optR_some, mutAt_ap, eMut_ap, sPutAt_ap, outE_rt, outE_rtN, outE_nx, outE_ex, outN_rtN, outN_ex, eCall_ap, eCallN_ap, borO_bor, outO_rt, outO_rtN, outO_nx, outO_ex, outON_rtN, outON_ex, callO_ap, callON_ap, eCallO_ap, eCallON_ap, oHere_ap, oThere_ap, seqO_lst, seqO_tup, seqO_scr, iSeq_ap, sgnO_str, iSign_ap, iRange1_ap, iRange2_ap, eComp_ap, eSl_ap, oNone_ap, intO_int, oSome_ap, eGet2_ap, add_int, neg_int, mul_int, sub_int, lt_int, le_int, gt_int, ge_int, mod_int, fdiv_int, len_lst, len_tup, len_scr, len_str, ix_tup', ix_lst', tuple_lst, tuple_tup, list_lst, list_tup, append_lst, isLst_lst, isDct_dK, isDct_dT, is_bl, isNot_bl, plain_int, plain_str, plain_bl, plain_non, plain_tup, plainL_nil, plainL_cons, int_bl, int_int, viewS_val, viewS_own, viewS_bor, viewS_no, atI_0, atI_1, atI_2, atI_3, eq_int, ne_int, eq_bl, ne_bl, sl_tup,
  List.map_cons, List.map_nil, List.replicate_succ, List.replicate_zero, List.append_nil, List.nil_append, List.cons_append, List.length_cons, List.length_nil, List.getElem?_cons_zero, List.getElem?_cons_succ, List.set_cons_zero, List.set_cons_succ, Nat.reduceAdd, Nat.reduceLeDiff, Nat.reduceEqDiff, Int.reduceLT, Int.reduceLE, Int.reduceAdd, Int.reduceSub, Int.reduceNeg, Int.reduceBEq, cast_0, cast_1, cast_2, cast_3, cast_4, cast_5, cast_6, cast_7, cast_8, Int.reduceToNat, decide_true, decide_false, decide_eq_true_eq, if_true, if_false, ite_true, ite_false, reduceIte, Bool.and_true, Bool.true_and, Bool.and_false, Bool.false_and, Bool.or_false, Bool.false_or, Bool.or_true, Bool.true_or, Bool.not_true, Bool.not_false, eq_self, Bool.false_eq_true, and_true, true_and, beq_self_eq_true, Option.map_some, Option.bind_some, *])
/-! dicts of names -/
def imK (ns bs : List Int) : List (Key × D) := (ns.zip bs).map fun p => (.inl p.1, .int p.2)
theorem merge_new : ∀ {more acc : List (Key × D)}, ((acc ++ more).map (·.1)).Nodup → mergeD acc more = acc ++ more
  | [], acc, _ => by rw [List.append_nil]; rfl
  | kv :: more, acc, h => by
    show mergeD (putD acc kv.1 kv.2) more = _
    have hn : ∀ x ∈ acc, x.1 ≠ kv.1 := fun x hx e => by
      rw [List.map_append, List.map_cons, List.nodup_append] at h
      exact h.2.2 x.1 (List.mem_map.mpr ⟨x, hx, rfl⟩) kv.1 List.mem_cons_self e
    rw [put_new hn]
    have e : acc ++ [(kv.1, kv.2)] ++ more = acc ++ kv :: more := by rw [List.append_assoc]; rfl
    rw [merge_new (by rw [e]; exact h), e]
theorem pairs_pr : ∀ {ps : List (Int × Int)}, pairsD (ps.map prD) = some (ps.map fun p => (.inl p.1, .int p.2))
  | [] => rfl
  | p :: ps => by
    rw [List.map_cons]
    show (match keyK (.int p.1), pairsD (ps.map prD) with
      | some k, some r => some ((k, D.int p.2) :: r)
      | _, _ => none) = _
    rw [pairs_pr]
    rfl
theorem fst_zip {ns bs : List Int} (h : bs.length = ns.length) : (ns.zip bs).map (·.1) = ns := List.map_fst_zip (by omega)
theorem keys_im {ns bs : List Int} (h : bs.length = ns.length) : (imK ns bs).map (·.1) = ns.map Sum.inl := by
  unfold imK
  rw [List.map_map]
  have := congrArg (List.map (Sum.inl : Int → Key)) (fst_zip h)
  rwa [List.map_map] at this
theorem nodup_inl {ns : List Int} (h : ns.Nodup) : (ns.map (Sum.inl : Int → Key)).Nodup := by
  unfold List.Nodup
  rw [List.pairwise_map]
  exact List.Pairwise.imp (fun h e => h (Sum.inl.inj e)) h
theorem dict_row {ns bs : List Int} (h : bs.length = ns.length) (nd : ns.Nodup) : opDict [.tup ((ns.zip bs).map prD)] = some (.dK (imK ns bs)) := by
  have hf : flat ((ns.zip bs).map prD) = false := by
    cases ns.zip bs with
    | nil => rfl
    | cons w ws => rfl
  show (if flat ((ns.zip bs).map prD) = true then none else _) = _
  rw [hf, pairs_pr]
  show some (D.dK (mergeD [] (imK ns bs))) = _
  rw [merge_new (by rw [List.nil_append, keys_im h]; exact nodup_inl nd), List.nil_append]
def img (ns bs : List Int) (n : Int) : Int := match lookD (imK ns bs) (.inl n) with
  | some (.int a) => a
  | _ => 0
theorem look_im : ∀ {ns bs : List Int} {n : Int}, bs.length = ns.length → n ∈ ns → lookD (imK ns bs) (.inl n) = some (.int (img ns bs n))
  | [], _, _, _, h => by cases h
  | _ :: _, [], _, h, _ => by simp at h
  | m :: ns, b :: bs, n, h, hn => by
    have key : ∃ a, lookD (imK (m :: ns) (b :: bs)) (.inl n) = some (.int a) := by
      by_cases e : m = n
      · refine ⟨b, ?_⟩
        unfold lookD imK
        rw [List.zip_cons_cons, List.map_cons, List.find?_cons, show decide ((Sum.inl m : Key) = Sum.inl n) = true from decide_eq_true (by rw [e])]
        rfl
      · have hn2 : n ∈ ns := by
          rcases List.mem_cons.mp hn with z | z
          · exact absurd z.symm e
          · exact z
        refine ⟨img ns bs n, ?_⟩
        · rw [← look_im (ns := ns) (bs := bs) (by simpa using h) hn2]
          unfold lookD imK
          rw [List.zip_cons_cons, List.map_cons, List.find?_cons, show decide ((Sum.inl m : Key) = Sum.inl n) = false from decide_eq_false (fun z => e (Sum.inl.inj z))]
    obtain ⟨a, ha⟩ := key
    unfold img
    rw [ha]
theorem ixd_im {ns bs : List Int} {n : Int} (h : bs.length = ns.length) (hn : n ∈ ns) : opIxD (.dK (imK ns bs)) (.int n) = some (.int (img ns bs n)) := by
  show ((opGetD (.dK (imK ns bs)) (.int n)).bind id) = _
  show ((some (lookD (imK ns bs) (.inl n))).bind id) = _
  rw [look_im h hn]
  rfl
theorem img_cons {m b : Int} {ns bs : List Int} {n : Int} : img (m :: ns) (b :: bs) n = if m = n then b else img ns bs n := by
  unfold img lookD imK
  rw [List.zip_cons_cons, List.map_cons, List.find?_cons]
  by_cases e : m = n
  · rw [show decide ((Sum.inl m : Key) = Sum.inl n) = true from decide_eq_true (by rw [e]), if_pos e]
    rfl
  · rw [show decide ((Sum.inl m : Key) = Sum.inl n) = false from decide_eq_false (fun z => e (Sum.inl.inj z)), if_neg e]
theorem map_img : ∀ {ns bs : List Int}, bs.length = ns.length → ns.Nodup → ns.map (img ns bs) = bs
  | [], [], _, _ => rfl
  | [], _ :: _, h, _ => by simp at h
  | _ :: _, [], h, _ => by simp at h
  | m :: ns, b :: bs, h, nd => by
    rw [List.nodup_cons] at nd
    have ih := map_img (ns := ns) (bs := bs) (by simpa using h) nd.2
    rw [List.map_cons, img_cons, if_pos rfl]
    congr 1
    refine Eq.trans (List.map_congr_left fun x hx => ?_) ih
    rw [img_cons]
    exact if_neg fun e => nd.1 (by rw [e]; exact hx)
/-! points and ties sent on -/
def toP (f : Int → Int) (p : P2) : P2 := (f p.1, p.2)
def toT (f g : Int → Int) (t : T4) : T4 := (g t.1, t.2.1, f t.2.2.1, f t.2.2.2)
def tsK (ts : List T4) : List (Key × D) := ts.map fun t => (.inl t.1, .tup [.str t.2.1, .int t.2.2.1, .int t.2.2.2])
theorem put_pt {ps : List P2} {i : Int} {x : Str} (h : i ∉ ps.map (·.1)) (hl : ps.length ≤ 1000) : opPutD (.dK (ptsK ps)) (.int i) (.str x) = some (.dK (ptsK (ps ++ [(i, x)]))) := by
  show (if (ptsK ps).length ≤ 100000 then some (D.dK (putD (ptsK ps) (.inl i) (.str x))) else none) = _
  rw [if_pos (by unfold ptsK; rw [List.length_map]; omega), put_new]
  · unfold ptsK
    rw [List.map_append]
    rfl
  · intro kv hkv e
    obtain ⟨p, hp, e2⟩ := List.mem_map.mp hkv
    rw [← e2] at e
    exact h (List.mem_map.mpr ⟨p, hp, Sum.inl.inj e⟩)
theorem put_tie {ts : List T4} {i b e : Int} {x : Str} (h : i ∉ ts.map (·.1)) (hl : ts.length ≤ 1000) : opPutD (.dK (tsK ts)) (.int i) (.tup [.str x, .int b, .int e]) = some (.dK (tsK (ts ++ [(i, x, b, e)]))) := by
  show (if (tsK ts).length ≤ 100000 then some (D.dK (putD (tsK ts) (.inl i) _)) else none) = _
  rw [if_pos (by unfold tsK; rw [List.length_map]; omega), put_new]
  · unfold tsK
    rw [List.map_append]
    rfl
  · intro kv hkv e
    obtain ⟨p, hp, e2⟩ := List.mem_map.mp hkv
    rw [← e2] at e
    exact h (List.mem_map.mpr ⟨p, hp, Sum.inl.inj e⟩)
theorem ties_of_t {ps : List P2} {ts : List T4} (nt : ts.length ≤ 1000) (tr : (ts.map (·.1)).Nodup) : ∃ ρ', d_ties_of [.val (netD ps ts), .no, .no, .no, .no, .no] = .rtN (.dK (tsK ts)) ρ' := by
  obtain ⟨I, hI⟩ : ∃ I : List T4 → List Sl → Prop, I = fun xs ρ => ∃ done s2 s3 s4 s5, isFree (some s2) = true ∧ isFree (some s3) = true ∧ isFree (some s4) = true ∧ isFree (some s5) = true ∧ ts = done ++ xs ∧ ρ = [.val (netD ps ts), .own (.dK (tsK done)), s2, s3, s4, s5] := ⟨_, rfl⟩
  have h0 : Hid (I ts [.val (netD ps ts), .own (.dK []), .no, .no, .no, .no]) := ⟨by rw [hI]; exact ⟨[], .no, .no, .no, .no, rfl, rfl, rfl, rfl, rfl, rfl⟩⟩
  have w0 := Hid.mk hI
  have w1 := Hid.mk nt
  have w2 := Hid.mk tr
  have x1 : opIx (netD ps ts) (.int 1) = some (.tup (ts.map tieD)) := rfl
  clear hI nt tr
  refine of_rtN ?_
  generalize netD ps ts = nn at *
  unfold d_ties_of
  walk_at "ev"
  refine wO_for I h0.out ?_ ?_
  · intro x xs ρ h
    rw [w0.out] at h
    obtain ⟨done, s2, s3, s4, s5, f2, f3, f4, f5, hts, rfl⟩ := h
    have f2 := free_nb f2
    have f3 := free_nb f3
    have f4 := free_nb f4
    have f5 := free_nb f5
    have hx : tieD x = .tup [.int x.1, .str x.2.1, .int x.2.2.1, .int x.2.2.2] := rfl
    have hp : opPutD (.dK (tsK done)) (.int x.1) (.tup [.str x.2.1, .int x.2.2.1, .int x.2.2.2]) = some (.dK (tsK (done ++ [x]))) := put_tie (by
      have := w2.out
      rw [hts, List.map_append, List.map_cons, List.nodup_append] at this
      exact fun z => this.2.2 _ z _ List.mem_cons_self rfl) (by have := w1.out; rw [hts, List.length_append] at this; omega)
    have w3 : Hid (ts = (done ++ [x]) ++ xs) := ⟨by rw [List.append_assoc]; exact hts⟩
    clear hts h0 x1
    walk_at "ev"
    rw [w0.out]
    exact ⟨_, _, _, _, _, rfl, rfl, rfl, rfl, w3.out, rfl⟩
  · intro ρ h
    rw [w0.out] at h
    obtain ⟨done, s2, s3, s4, s5, f2, f3, f4, f5, hts, rfl⟩ := h
    rw [List.append_nil] at hts
    subst hts
    clear w0 h0 w1 w2 x1
    walk_at "ev"
theorem look_pt : ∀ {ps : List P2} {p : P2}, p ∈ ps → (ps.map (·.1)).Nodup → lookD (ptsK ps) (.inl p.1) = some (.str p.2)
  | [], _, h, _ => by cases h
  | q :: ps, p, h, nd => by
    rw [List.map_cons, List.nodup_cons] at nd
    unfold lookD ptsK
    rw [List.map_cons, List.find?_cons]
    by_cases e : q.1 = p.1
    · have : q = p := by
        rcases List.mem_cons.mp h with z | z
        · exact z.symm
        · exact absurd (List.mem_map.mpr ⟨p, z, e.symm⟩) nd.1
      subst this
      rw [show decide ((Sum.inl q.1 : Key) = Sum.inl q.1) = true from decide_eq_true rfl]
      rfl
    · rw [show decide ((Sum.inl q.1 : Key) = Sum.inl p.1) = false from decide_eq_false (fun z => e (Sum.inl.inj z))]
      have : p ∈ ps := by
        rcases List.mem_cons.mp h with z | z
        · exact absurd (by rw [z]) e
        · exact z
      exact look_pt this nd.2
theorem look_tie : ∀ {ps : List T4} {p : T4}, p ∈ ps → (ps.map (·.1)).Nodup → lookD (tsK ps) (.inl p.1) = some (.tup [.str p.2.1, .int p.2.2.1, .int p.2.2.2])
  | [], _, h, _ => by cases h
  | q :: ps, p, h, nd => by
    rw [List.map_cons, List.nodup_cons] at nd
    unfold lookD tsK
    rw [List.map_cons, List.find?_cons]
    by_cases e : q.1 = p.1
    · have : q = p := by
        rcases List.mem_cons.mp h with z | z
        · exact z.symm
        · exact absurd (List.mem_map.mpr ⟨p, z, e.symm⟩) nd.1
      subst this
      rw [show decide ((Sum.inl q.1 : Key) = Sum.inl q.1) = true from decide_eq_true rfl]
      rfl
    · rw [show decide ((Sum.inl q.1 : Key) = Sum.inl p.1) = false from decide_eq_false (fun z => e (Sum.inl.inj z))]
      have : p ∈ ps := by
        rcases List.mem_cons.mp h with z | z
        · exact absurd (by rw [z]) e
        · exact z
      exact look_tie this nd.2
theorem keysI_pts : ∀ {ps : List P2}, keysI (ptsK ps) = some (ps.map (·.1))
  | [] => rfl
  | p :: ps => by
    show (keysI (ptsK ps)).map _ = _
    rw [keysI_pts]
    rfl
theorem keysI_ties : ∀ {ps : List T4}, keysI (tsK ps) = some (ps.map (·.1))
  | [] => rfl
  | p :: ps => by
    show (keysI (tsK ps)).map _ = _
    rw [keysI_ties]
    rfl
theorem sort_pts {ps : List P2} (nd : (ps.map (·.1)).Nodup) (hl : ps.length < 64) : opSortedD [.dK (ptsK ps)] = some (.lst ((srt ptD ps).map fun p => .int p.1)) := by
  unfold opSortedD
  dsimp only
  rw [keysI_pts]
  dsimp only
  rw [if_pos (by rw [List.length_map]; exact hl)]
  obtain ⟨h1, h2⟩ := srt_rising (f := ptD) (key := (·.1)) (fun x => ⟨_, rfl⟩) nd
  have e := sortI_eq (ks := ps.map (·.1)) (ys := (srt ptD ps).map (·.1)) (h2.map _) (h1.imp fun h => Int.le_of_lt h)
  rw [← e, List.map_map]
  rfl
theorem sort_ties {ps : List T4} (nd : (ps.map (·.1)).Nodup) (hl : ps.length < 64) : opSortedD [.dK (tsK ps)] = some (.lst ((srt tieD ps).map fun p => .int p.1)) := by
  unfold opSortedD
  dsimp only
  rw [keysI_ties]
  dsimp only
  rw [if_pos (by rw [List.length_map]; exact hl)]
  obtain ⟨h1, h2⟩ := srt_rising (f := tieD) (key := (·.1)) (fun x => ⟨_, rfl⟩) nd
  have e := sortI_eq (ks := ps.map (·.1)) (ys := (srt tieD ps).map (·.1)) (h2.map _) (h1.imp fun h => Int.le_of_lt h)
  rw [← e, List.map_map]
  rfl
theorem net_of_t {ps : List P2} {ts : List T4} (np : (ps.map (·.1)).Nodup) (nt : (ts.map (·.1)).Nodup) (lp : ps.length < 64) (lt : ts.length < 64) : ∃ ρ', d_net_of [.val (.dK (ptsK ps)), .val (.dK (tsK ts)), .no, .no] = .rt (netD (srt ptD ps) (srt tieD ts)) ρ' := by
  have s1 := sort_pts np lp
  have s2 := sort_ties nt lt
  have c1 : compL (gN 3) (mpure true) (eTup (aCons (eVar 3) (aCons (eBin opIxD (eVar 0) (eVar 3)) aNil))) [3] ((srt ptD ps).map fun p => .int p.1) [] [.val (.dK (ptsK ps)), .val (.dK (tsK ts)), .no, .no] = .ok ((srt ptD ps).map ptD) [.val (.dK (ptsK ps)), .val (.dK (tsK ts)), .no, .no] := by
    refine comp_okM rfl (by rw [srt_len]; omega) fun p hp => ?_
    have e1 : opIxD (.dK (ptsK ps)) (.int p.1) = some (.str p.2) := by
      show ((some (lookD (ptsK ps) (.inl p.1))).bind id) = _
      rw [look_pt (srt_mem hp) np]
      rfl
    have e2 : ptD p = .tup [.int p.1, .str p.2] := rfl
    clear s1 s2 hp np nt
    walk_at "ev"
  have c2 : compL (gN 3) (mpure true) (eBin opAdd (eTup (aCons (eVar 3) aNil)) (eBin opIxD (eVar 1) (eVar 3))) [3] ((srt tieD ts).map fun p => .int p.1) [] [.val (.dK (ptsK ps)), .val (.dK (tsK ts)), .val (.lst ((srt ptD ps).map ptD)), .no] = .ok ((srt tieD ts).map tieD) [.val (.dK (ptsK ps)), .val (.dK (tsK ts)), .val (.lst ((srt ptD ps).map ptD)), .no] := by
    refine comp_okM rfl (by rw [srt_len]; omega) fun p hp => ?_
    have e1 : opIxD (.dK (tsK ts)) (.int p.1) = some (.tup [.str p.2.1, .int p.2.2.1, .int p.2.2.2]) := by
      show ((some (lookD (tsK ts) (.inl p.1))).bind id) = _
      rw [look_tie (srt_mem hp) nt]
      rfl
    have e2 : opAdd (.tup [.int p.1]) (.tup [.str p.2.1, .int p.2.2.1, .int p.2.2.2]) = some (tieD p) := rfl
    clear s1 s2 hp np nt c1
    generalize (srt ptD ps).map ptD = zz at *
    walk_at "ev"
  have l1 : ((srt ptD ps).map ptD).length ≤ 100000 := by rw [List.length_map, srt_len]; omega
  have l2 : ((srt tieD ts).map tieD).length ≤ 100000 := by rw [List.length_map, srt_len]; omega
  refine of_rtv ?_
  clear np nt lp lt
  unfold netD
  generalize (srt ptD ps).map ptD = z1 at *
  generalize (srt tieD ts).map tieD = z2 at *
  generalize (List.map (fun p => D.int p.1) (srt ptD ps)) = y1 at *
  generalize (List.map (fun p => D.int p.1) (srt tieD ts)) = y2 at *
  generalize ptsK ps = k1 at *
  generalize tsK ts = k2 at *
  unfold d_net_of
  walk_at "ev"
end NT.Pure

set_option Elab.async false
set_option linter.all false
set_option maxRecDepth 100000
set_option maxHeartbeats 4000000
namespace NT.Pure
open PySem L2 NT NT.Den
local macro_rules | `(tactic| walk_at "ev") => `(tactic| simp (maxSteps := 100000000) only [iZip_ap, iDctN_ap, dctO_dK, gT_raw, rtb_rt, wO_nx, wO_rt, wO_rtN, wO_ex, stp_ap, sWhile_ap, wT_ok, sCalm_ap, iDct_ap, dctI_val, rtv_rt, rtvN_rtN, bnd_ok, bnd_ex, bnd_bad, bndO_ok, bndO_ex, bndO_bad, nxt_nx, nxt_rt, nxt_rtN, nxt_ex, nxt_bad, lft_some, mbind_ap, mpure_ap, lift_ap, eC_ap, rdV_val, eVar_ap, eBin_ap, eUn_ap, aNil_ap, aCons_ap, eFn_ap, eTup_ap, eLst_ap, tupO, lstO, tVal_ap, asB_bl, iteR_t, iteR_f, iteO_t, iteO_f, mAnd_ap, mOr_ap, mNot_ap, eAnd_ap, eOr_ap, eNot_ap, eChain_ap, vw_ok, vwN_ok, vwT_ok, eView_ap, eViewN_ap, tView_ap, sDo_ap, sSeq_ap, sSkip_ap, put_ap, sSet_ap, sSetN_ap, sRet_ap, sRetN_ap, sExpr_ap, sIf_ap, sRetO_ap, retO_own, sRaise_ap, sFor_ap, loop_nil, optO_some, sAsg_ap, iteS_t, gN_ap, gT_ap, gsNil_ap, bS_some, gsCons_ap, notBor_val, notBor_own, notBor_no, mineO_own, mineO_bor, with_own, with_bor, optR_some, mutAt_ap, eMut_ap, sPutAt_ap, outE_rt, outE_rtN, outE_nx, outE_ex, outN_rtN, outN_ex, eCall_ap, eCallN_ap, borO_bor, outO_rt, outO_rtN, outO_nx, outO_ex, outON_rtN, outON_ex, callO_ap, callON_ap, eCallO_ap, eCallON_ap, oHere_ap, oThere_ap, seqO_lst, seqO_tup, seqO_scr, iSeq_ap, sgnO_str, iSign_ap, iRange1_ap, iRange2_ap, eComp_ap, eSl_ap, oNone_ap, intO_int, oSome_ap, eGet2_ap, add_int, neg_int, mul_int, sub_int, lt_int, le_int, gt_int, ge_int, mod_int, fdiv_int, len_lst, len_tup, len_scr, len_str, ix_tup', ix_lst', tuple_lst, tuple_tup, list_lst, list_tup, append_lst, isLst_lst, isDct_dK, isDct_dT, is_bl, isNot_bl, plain_int, plain_str, plain_bl, plain_non, plain_tup, plainL_nil, plainL_cons, int_bl, int_int, viewS_val, viewS_own, viewS_bor, viewS_no, atI_0, atI_1, atI_2, atI_3, eq_int, ne_int, eq_bl, ne_bl, sl_tup,
  List.map_cons, List.map_nil, List.replicate_succ, List.replicate_zero, List.append_nil, List.nil_append, List.cons_append, List.length_cons, List.length_nil, List.getElem?_cons_zero, List.getElem?_cons_succ, List.set_cons_zero, List.set_cons_succ, Nat.reduceAdd, Nat.reduceLeDiff, Nat.reduceEqDiff, Int.reduceLT, Int.reduceLE, Int.reduceAdd, Int.reduceSub, Int.reduceNeg, Int.reduceBEq, cast_0, cast_1, cast_2, cast_3, cast_4, cast_5, cast_6, cast_7, cast_8, Int.reduceToNat, decide_true, decide_false, decide_eq_true_eq, if_true, if_false, ite_true, ite_false, reduceIte, Bool.and_true, Bool.true_and, Bool.and_false, Bool.false_and, Bool.or_false, Bool.false_or, Bool.or_true, Bool.true_or, Bool.not_true, Bool.not_false, eq_self, Bool.false_eq_true, and_true, true_and, beq_self_eq_true, Option.map_some, Option.bind_some, *])
/-! the net by a naming -/
def nmD (ps : List P2) (ts : List T4) (as bs : List Int) : D := .tup [.tup (((ps.map (·.1)).zip as).map prD), .tup (((ts.map (·.1)).zip bs).map prD)]
structure Tn (ps : List P2) (ts : List T4) (as bs : List Int) : Prop where
  lp : ps.length < 64
  lt : ts.length < 64
  np : (ps.map (·.1)).Pairwise (· < ·)
  nt : (ts.map (·.1)).Pairwise (· < ·)
  en : ∀ t ∈ ts, (∃ p ∈ ps, p.1 = t.2.2.1) ∧ ∃ p ∈ ps, p.1 = t.2.2.2
  la : as.length = ps.length
  lb : bs.length = ts.length
  na : as.Nodup
  nb : bs.Nodup
theorem pw_nodup {ns : List Int} (h : ns.Pairwise (· < ·)) : ns.Nodup := h.imp fun h e => by omega
def toPs (ps : List P2) (as : List Int) : List P2 := ps.map (toP (img (ps.map (·.1)) as))
def toTs (ps : List P2) (ts : List T4) (as bs : List Int) : List T4 := ts.map (toT (img (ps.map (·.1)) as) (img (ts.map (·.1)) bs))
theorem keys_toPs {ps : List P2} {as : List Int} (h : as.length = ps.length) (nd : (ps.map (·.1)).Nodup) : (toPs ps as).map (·.1) = as := by
  have := map_img (ns := ps.map (·.1)) (bs := as) (by rw [List.length_map]; exact h) nd
  rw [List.map_map] at this
  unfold toPs
  rw [List.map_map]
  exact this
theorem keys_toTs {ps : List P2} {ts : List T4} {as bs : List Int} (h : bs.length = ts.length) (nd : (ts.map (·.1)).Nodup) : (toTs ps ts as bs).map (·.1) = bs := by
  have := map_img (ns := ts.map (·.1)) (bs := bs) (by rw [List.length_map]; exact h) nd
  rw [List.map_map] at this
  unfold toTs
  rw [List.map_map]
  exact this
def turnD (ps : List P2) (ts : List T4) (as bs : List Int) : D := netD (srt ptD (toPs ps as)) (srt tieD (toTs ps ts as bs))
theorem turned_net_t {ps : List P2} {ts : List T4} {as bs : List Int} (w : Tn ps ts as bs) : ∃ ρ', d_turned_net [.val (netD ps ts), .val (nmD ps ts as bs), .no, .no, .no, .no, .no, .no, .no, .no] = .rt (turnD ps ts as bs) ρ' := by
  have nP := pw_nodup w.np
  have nT := pw_nodup w.nt
  have d1 := dict_row (ns := ps.map (·.1)) (bs := as) (by rw [List.length_map]; exact w.la) nP
  have d2 := dict_row (ns := ts.map (·.1)) (bs := bs) (by rw [List.length_map]; exact w.lb) nT
  obtain ⟨ρ1, e1⟩ := points_of_t (ps := ps) (ts := ts) (by have := w.lp; omega) w.np
  obtain ⟨ρ2, e2⟩ := ties_of_t (ps := ps) (ts := ts) (by have := w.lt; omega) nT
  have k1 := keys_toPs w.la nP
  have k2 := keys_toTs (ps := ps) (as := as) w.lb nT
  obtain ⟨ρ3, e3⟩ := net_of_t (ps := toPs ps as) (ts := toTs ps ts as bs) (by rw [k1]; exact w.na) (by rw [k2]; exact w.nb) (by unfold toPs; rw [List.length_map]; exact w.lp) (by unfold toTs; rw [List.length_map]; exact w.lt)
  have m1 : mkItems (ptsK ps) = ps.map fun p => .raw [.int p.1, .str p.2] := by
    unfold mkItems ptsK
    rw [List.map_map]
    rfl
  have m2 : mkItems (tsK ts) = ts.map fun t => .raw [.int t.1, .tup [.str t.2.1, .int t.2.2.1, .int t.2.2.2]] := by
    unfold mkItems tsK
    rw [List.map_map]
    rfl
  have ix1 : ∀ p ∈ ps, opIxD (.dK (imK (ps.map (·.1)) as)) (.int p.1) = some (.int (img (ps.map (·.1)) as p.1)) := fun p hp => ixd_im (by rw [List.length_map]; exact w.la) (List.mem_map.mpr ⟨p, hp, rfl⟩)
  have ix2 : ∀ t ∈ ts, opIxD (.dK (imK (ts.map (·.1)) bs)) (.int t.1) = some (.int (img (ts.map (·.1)) bs t.1)) := fun t ht => ixd_im (by rw [List.length_map]; exact w.lb) (List.mem_map.mpr ⟨t, ht, rfl⟩)
  have ix3 : ∀ t ∈ ts, opIxD (.dK (imK (ps.map (·.1)) as)) (.int t.2.2.1) = some (.int (img (ps.map (·.1)) as t.2.2.1)) ∧ opIxD (.dK (imK (ps.map (·.1)) as)) (.int t.2.2.2) = some (.int (img (ps.map (·.1)) as t.2.2.2)) := fun t ht => by
    obtain ⟨⟨p, hp, ep⟩, ⟨q, hq, eq⟩⟩ := w.en t ht
    rw [← ep, ← eq]
    exact ⟨ix1 p hp, ix1 q hq⟩
  have p1 : plainL ((srt ptD (toPs ps as)).map ptD) = true := plainL_pts
  have p2 : plainL ((srt tieD (toTs ps ts as bs)).map tieD) = true := plainL_ties
  obtain ⟨I, hI⟩ : ∃ I : List P2 → List Sl → Prop, I = fun xs ρ => ∃ done s6 s7, isFree (some s6) = true ∧ isFree (some s7) = true ∧ ps = done ++ xs ∧ ρ = [.val (netD ps ts), .val (nmD ps ts as bs), .val (.dK (imK (ps.map (·.1)) as)), .val (.dK (imK (ts.map (·.1)) bs)), .own (.dK (ptsK (done.map (toP (img (ps.map (·.1)) as))))), .no, s6, s7, .no, .no] := ⟨_, rfl⟩
  obtain ⟨J, hJ⟩ : ∃ J : List T4 → List Sl → Prop, J = fun xs ρ => ∃ done s6 s7 s8 s9, isFree (some s6) = true ∧ isFree (some s7) = true ∧ isFree (some s8) = true ∧ isFree (some s9) = true ∧ ts = done ++ xs ∧ ρ = [.val (netD ps ts), .val (nmD ps ts as bs), .val (.dK (imK (ps.map (·.1)) as)), .val (.dK (imK (ts.map (·.1)) bs)), .own (.dK (ptsK (toPs ps as))), .own (.dK (tsK (done.map (toT (img (ps.map (·.1)) as) (img (ts.map (·.1)) bs))))), s6, s7, s8, s9] := ⟨_, rfl⟩
  have wI := Hid.mk hI
  have wJ := Hid.mk hJ
  have h0 : Hid (I ps [.val (netD ps ts), .val (nmD ps ts as bs), .val (.dK (imK (ps.map (·.1)) as)), .val (.dK (imK (ts.map (·.1)) bs)), .own (.dK []), .no, .no, .no, .no, .no]) := ⟨by rw [hI]; exact ⟨[], .no, .no, rfl, rfl, rfl, rfl⟩⟩
  have w0 := Hid.mk w
  have x1 : opIx (nmD ps ts as bs) (.int 0) = some (.tup (((ps.map (·.1)).zip as).map prD)) := rfl
  have x2 : opIx (nmD ps ts as bs) (.int 1) = some (.tup (((ts.map (·.1)).zip bs).map prD)) := rfl
  have y1 := Hid.mk ix1
  have y2 := Hid.mk ix2
  have y3 := Hid.mk ix3
  have y4 := Hid.mk k1
  have y5 := Hid.mk k2
  clear hI hJ w ix1 ix2 ix3 nP nT k1 k2
  refine of_rt ?_
  unfold turnD netD at *
  generalize hz1 : List.map prD ((ps.map (·.1)).zip as) = z1 at *
  generalize hz2 : List.map prD ((ts.map (·.1)).zip bs) = z2 at *
  generalize List.map ptD ps = zp at *
  generalize List.map tieD ts = zt at *
  generalize hv1 : List.map ptD (srt ptD (toPs ps as)) = v1 at *
  generalize hv2 : List.map tieD (srt tieD (toTs ps ts as bs)) = v2 at *
  generalize hkp : imK (ps.map (·.1)) as = kp at *
  generalize hkt : imK (ts.map (·.1)) bs = kt at *
  unfold d_turned_net
  walk_at "ev"
  refine wO_for I h0.out ?_ ?_
  · intro x xs ρ h
    rw [wI.out] at h
    obtain ⟨done, s6, s7, f6, f7, hps, rfl⟩ := h
    have f6 := free_nb f6
    have f7 := free_nb f7
    have e4 := y1.out x (by rw [hps]; simp)
    have hp : opPutD (.dK (ptsK (done.map (toP (img (ps.map (·.1)) as))))) (.int (img (ps.map (·.1)) as x.1)) (.str x.2) = some (.dK (ptsK ((done ++ [x]).map (toP (img (ps.map (·.1)) as))))) := by
      have := put_pt (ps := done.map (toP (img (ps.map (·.1)) as))) (i := img (ps.map (·.1)) as x.1) (x := x.2) (by
        have h1 := w0.out.na
        rw [← y4.out] at h1
        unfold toPs at h1
        generalize img (ps.map (·.1)) as = f at h1 ⊢
        rw [hps, List.map_append, List.map_cons, List.map_append, List.map_cons, List.nodup_append] at h1
        exact fun z => h1.2.2 _ z _ List.mem_cons_self rfl) (by
        have h1 := w0.out.lp
        rw [hps, List.length_append] at h1
        rw [List.length_map]
        omega)
      rw [this, List.map_append]
      rfl
    have w3 : Hid (ps = (done ++ [x]) ++ xs) := ⟨by rw [List.append_assoc]; exact hps⟩
    clear hps h0 m1 m2 d1 d2 e1 e2 e3 x1 x2 p1 p2 hz1 hz2 hv1 hv2
    walk_at "ev"
    rw [wI.out]
    exact ⟨_, _, _, rfl, rfl, w3.out, rfl⟩
  · intro ρ h
    rw [wI.out] at h
    obtain ⟨done, s6, s7, f6, f7, hps, rfl⟩ := h
    rw [List.append_nil] at hps
    have g0 : Hid (J ts [.val (.tup [.tup zp, .tup zt]), .val (nmD ps ts as bs), .val (.dK kp), .val (.dK kt), .own (.dK (ptsK (toPs ps as))), .own (.dK []), s6, s7, .no, .no]) := ⟨by rw [wJ.out]; exact ⟨[], s6, s7, .no, .no, f6, f7, rfl, rfl, rfl, rfl⟩⟩
    have f6 := free_nb f6
    have f7 := free_nb f7
    have e5 : done.map (toP (img (ps.map (·.1)) as)) = toPs ps as := by unfold toPs; rw [← hps]
    rw [e5]
    clear hps e5 h0 m1 d1 d2 e1 wI x1 x2 hz1 hz2 hv1 hv2
    generalize hK : ptsK (toPs ps as) = kk at *
    walk_at "ev"
    refine wO_for J g0.out ?_ ?_
    · intro x xs ρ h
      rw [wJ.out] at h
      obtain ⟨done2, s6, s7, s8, s9, f6, f7, f8, f9, hts, rfl⟩ := h
      have f6 := free_nb f6
      have f7 := free_nb f7
      have f8 := free_nb f8
      have f9 := free_nb f9
      have hx : x ∈ ts := by rw [hts]; simp
      have e4 := y2.out x hx
      have e5 := (y3.out x hx).1
      have e6 := (y3.out x hx).2
      have hp : opPutD (.dK (tsK (done2.map (toT (img (ps.map (·.1)) as) (img (ts.map (·.1)) bs))))) (.int (img (ts.map (·.1)) bs x.1)) (.tup [.str x.2.1, .int (img (ps.map (·.1)) as x.2.2.1), .int (img (ps.map (·.1)) as x.2.2.2)]) = some (.dK (tsK ((done2 ++ [x]).map (toT (img (ps.map (·.1)) as) (img (ts.map (·.1)) bs))))) := by
        have := put_tie (ts := done2.map (toT (img (ps.map (·.1)) as) (img (ts.map (·.1)) bs))) (i := img (ts.map (·.1)) bs x.1) (x := x.2.1) (b := img (ps.map (·.1)) as x.2.2.1) (e := img (ps.map (·.1)) as x.2.2.2) (by
          have h1 := w0.out.nb
          rw [← y5.out] at h1
          unfold toTs at h1
          generalize img (ps.map (·.1)) as = f at h1 ⊢
          generalize img (ts.map (·.1)) bs = g at h1 ⊢
          rw [hts, List.map_append, List.map_cons, List.map_append, List.map_cons, List.nodup_append] at h1
          exact fun z => h1.2.2 _ z _ List.mem_cons_self rfl) (by
          have h1 := w0.out.lt
          rw [hts, List.length_append] at h1
          rw [List.length_map]
          omega)
        rw [this, List.map_append]
        rfl
      have w3 : Hid (ts = (done2 ++ [x]) ++ xs) := ⟨by rw [List.append_assoc]; exact hts⟩
      clear hts hx g0 m2 e2 e3 p1 p2
      walk_at "ev"
      rw [wJ.out]
      exact ⟨_, _, _, _, _, rfl, rfl, rfl, rfl, w3.out, rfl⟩
    · intro ρ h
      rw [wJ.out] at h
      obtain ⟨done2, s6, s7, s8, s9, f6, f7, f8, f9, hts, rfl⟩ := h
      rw [List.append_nil] at hts
      have e5 : done2.map (toT (img (ps.map (·.1)) as) (img (ts.map (·.1)) bs)) = toTs ps ts as bs := by unfold toTs; rw [← hts]
      rw [e5]
      clear hts e5 g0 m2 e2 wJ y1 y2 y3 y4 y5
      generalize tsK (toTs ps ts as bs) = kk2 at *
      walk_at "ev"
theorem comp_gen {α : Type} {m : MG} {t : M Bool} {e : M D} {vs : List Nat} {g f : α → D} {ρ : List Sl} (hv : (vs.all fun v => isFree ρ[v]?) = true) : ∀ {xs : List α} {acc : List D}, acc.length + xs.length ≤ 100000 → (∀ x ∈ xs, ∃ ρ1 ρ2 ρ3, m (g x) (wipeS ρ vs) = some ρ1 ∧ t ρ1 = .ok true ρ2 ∧ e ρ2 = .ok (f x) ρ3 ∧ backS ρ ρ3 vs = ρ) →
    compL m t e vs (xs.map g) acc ρ = .ok (acc ++ xs.map f) ρ
  | [], acc, _, _ => by rw [List.map_nil, List.map_nil, List.append_nil]; rfl
  | x :: xs, acc, hl, he => by
    obtain ⟨ρ1, ρ2, ρ3, h1, h2, h3, h4⟩ := he x List.mem_cons_self
    rw [List.length_cons] at hl
    rw [List.map_cons]
    unfold compL
    rw [if_pos hv, h1]
    dsimp only
    rw [h2]
    dsimp only
    rw [h3]
    dsimp only
    rw [if_pos (by omega), h4, comp_gen hv (by rw [List.length_append, List.length_singleton]; omega) fun y hy => he y (List.mem_cons_of_mem _ hy), List.append_assoc]
    rfl
theorem law_turned_t {ps : List P2} {ts : List T4} {as bs : List Int} (w : Tn ps ts as bs) (sp : ∀ p ∈ ps, PyData.strOk p.2 = true) (st : ∀ t ∈ ts, PyData.strOk t.2.1 = true) : ∃ ρ', d_law_turned [.val (netD ps ts), .val (nmD ps ts as bs), .no, .no, .no, .no, .no, .no, .no] = .rt (turnD ps ts as bs) ρ' := by
  have nP := pw_nodup w.np
  have nT := pw_nodup w.nt
  have d1 := dict_row (ns := ps.map (·.1)) (bs := as) (by rw [List.length_map]; exact w.la) nP
  have d2 := dict_row (ns := ts.map (·.1)) (bs := bs) (by rw [List.length_map]; exact w.lb) nT
  have ix1 : ∀ p ∈ ps, opIxD (.dK (imK (ps.map (·.1)) as)) (.int p.1) = some (.int (img (ps.map (·.1)) as p.1)) := fun p hp => ixd_im (by rw [List.length_map]; exact w.la) (List.mem_map.mpr ⟨p, hp, rfl⟩)
  have ix2 : ∀ t ∈ ts, opIxD (.dK (imK (ts.map (·.1)) bs)) (.int t.1) = some (.int (img (ts.map (·.1)) bs t.1)) := fun t ht => ixd_im (by rw [List.length_map]; exact w.lb) (List.mem_map.mpr ⟨t, ht, rfl⟩)
  have ix3 : ∀ t ∈ ts, opIxD (.dK (imK (ps.map (·.1)) as)) (.int t.2.2.1) = some (.int (img (ps.map (·.1)) as t.2.2.1)) ∧ opIxD (.dK (imK (ps.map (·.1)) as)) (.int t.2.2.2) = some (.int (img (ps.map (·.1)) as t.2.2.2)) := fun t ht => by
    obtain ⟨⟨p, hp, ep⟩, ⟨q, hq, eq⟩⟩ := w.en t ht
    rw [← ep, ← eq]
    exact ⟨ix1 p hp, ix1 q hq⟩
  have o1 : opSorted [.lst ((toPs ps as).map ptD)] = _ := sorted_ptsL (fun p hp => by
    obtain ⟨q, hq, e⟩ := List.mem_map.mp hp
    rw [← e]
    exact sp q hq)
  have o2 : opSorted [.lst ((toTs ps ts as bs).map tieD)] = _ := sorted_tiesL (fun p hp => by
    obtain ⟨q, hq, e⟩ := List.mem_map.mp hp
    rw [← e]
    exact st q hq)
  have p2 : plainO (.lst ((srt tieD (toTs ps ts as bs)).map tieD)) = true := plainL_ties
  have l1 : ((srt ptD (toPs ps as)).map ptD).length ≤ 100000 := by rw [List.length_map, srt_len]; unfold toPs; rw [List.length_map]; have := w.lp; omega
  have l2 : ((srt tieD (toTs ps ts as bs)).map tieD).length ≤ 100000 := by rw [List.length_map, srt_len]; unfold toTs; rw [List.length_map]; have := w.lt; omega
  have c1 : ∀ (T : Sl) (s5 s6 s7 s8 : Sl), isFree (some s5) = true → isFree (some s6) = true → compL (gT (gsCons (gN 5) (gsCons (gN 6) gsNil))) (mpure true) (eTup (aCons (eBin opIxD (eVar 2) (eVar 5)) (aCons (eVar 6) aNil))) [5, 6] (ps.map ptD) [] [.val (netD ps ts), .val (nmD ps ts as bs), .val (.dK (imK (ps.map (·.1)) as)), .val (.dK (imK (ts.map (·.1)) bs)), T, s5, s6, s7, s8] = .ok ((toPs ps as).map ptD) [.val (netD ps ts), .val (nmD ps ts as bs), .val (.dK (imK (ps.map (·.1)) as)), .val (.dK (imK (ts.map (·.1)) bs)), T, s5, s6, s7, s8] := fun T s5 s6 s7 s8 f5 f6 => by
    have hv : (([5, 6] : List Nat).all fun v => isFree ([.val (netD ps ts), .val (nmD ps ts as bs), .val (.dK (imK (ps.map (·.1)) as)), .val (.dK (imK (ts.map (·.1)) bs)), T, s5, s6, s7, s8] : List Sl)[v]?) = true := by
      show (isFree (some s5) && (isFree (some s6) && true)) = true
      rw [f5, f6]
      rfl
    have key := comp_gen (m := gT (gsCons (gN 5) (gsCons (gN 6) gsNil))) (t := mpure true) (e := eTup (aCons (eBin opIxD (eVar 2) (eVar 5)) (aCons (eVar 6) aNil))) (g := ptD) (f := fun p => ptD (toP (img (ps.map (·.1)) as) p)) hv (xs := ps) (acc := []) (by have := w.lp; simp; omega) fun x hx => ?_
    · unfold toPs
      rw [List.map_map]
      exact key
    · refine ⟨[.val (netD ps ts), .val (nmD ps ts as bs), .val (.dK (imK (ps.map (·.1)) as)), .val (.dK (imK (ts.map (·.1)) bs)), T, .val (.int x.1), .val (.str x.2), s7, s8], _, [.val (netD ps ts), .val (nmD ps ts as bs), .val (.dK (imK (ps.map (·.1)) as)), .val (.dK (imK (ts.map (·.1)) bs)), T, .val (.int x.1), .val (.str x.2), s7, s8], rfl, rfl, ?_, rfl⟩
      have e1 := ix1 x hx
      have e2 : ptD (toP (img (ps.map (·.1)) as) x) = .tup [.int (img (ps.map (·.1)) as x.1), .str x.2] := rfl
      clear w sp st nP nT d1 d2 ix1 ix2 ix3 o1 o2 p2 l1 l2 hv f5 f6 hx
      generalize netD ps ts = z1 at *
      generalize nmD ps ts as bs = z2 at *
      generalize imK (ts.map (·.1)) bs = z4 at *
      generalize img (ps.map (·.1)) as = ff at *
      generalize imK (ps.map (·.1)) as = z3 at *
      walk_at "ev"
  obtain ⟨J, hJ⟩ : ∃ J : List T4 → List Sl → Prop, J = fun xs ρ => ∃ done s5 s6 s7 s8, isFree (some s5) = true ∧ isFree (some s6) = true ∧ isFree (some s7) = true ∧ isFree (some s8) = true ∧ ts = done ++ xs ∧ ρ = [.val (netD ps ts), .val (nmD ps ts as bs), .val (.dK (imK (ps.map (·.1)) as)), .val (.dK (imK (ts.map (·.1)) bs)), .own (.lst ((done.map (toT (img (ps.map (·.1)) as) (img (ts.map (·.1)) bs))).map tieD)), s5, s6, s7, s8] := ⟨_, rfl⟩
  have wJ := Hid.mk hJ
  have h0 : Hid (J ts [.val (netD ps ts), .val (nmD ps ts as bs), .val (.dK (imK (ps.map (·.1)) as)), .val (.dK (imK (ts.map (·.1)) bs)), .own (.lst []), .no, .no, .no, .no]) := ⟨by rw [hJ]; exact ⟨[], .no, .no, .no, .no, rfl, rfl, rfl, rfl, rfl, rfl⟩⟩
  have w0 := Hid.mk w
  have x1 : opIx (nmD ps ts as bs) (.int 0) = some (.tup (((ps.map (·.1)).zip as).map prD)) := rfl
  have x2 : opIx (nmD ps ts as bs) (.int 1) = some (.tup (((ts.map (·.1)).zip bs).map prD)) := rfl
  have x3 : opIx (netD ps ts) (.int 0) = some (.tup (ps.map ptD)) := rfl
  have x4 : opIx (netD ps ts) (.int 1) = some (.tup (ts.map tieD)) := rfl
  have y2 := Hid.mk ix2
  have y3 := Hid.mk ix3
  have yc := Hid.mk c1
  have e9 : turnD ps ts as bs = .tup [.tup ((srt ptD (toPs ps as)).map ptD), .tup ((srt tieD (toTs ps ts as bs)).map tieD)] := rfl
  clear hJ w ix1 ix2 ix3 nP nT sp st c1
  refine of_rt ?_
  generalize hz1 : List.map prD ((ps.map (·.1)).zip as) = z1 at *
  generalize hz2 : List.map prD ((ts.map (·.1)).zip bs) = z2 at *
  generalize hv1 : List.map ptD (srt ptD (toPs ps as)) = v1 at *
  generalize hv2 : List.map tieD (srt tieD (toTs ps ts as bs)) = v2 at *
  generalize hv3 : List.map ptD (toPs ps as) = v3 at *
  generalize hv4 : List.map tieD (toTs ps ts as bs) = v4 at *
  generalize hkp : imK (ps.map (·.1)) as = kp at *
  generalize hkt : imK (ts.map (·.1)) bs = kt at *
  generalize netD ps ts = nn at *
  unfold d_law_turned
  walk_at "ev"
  refine wO_for J h0.out ?_ ?_
  · intro x xs ρ h
    rw [wJ.out] at h
    obtain ⟨done, s5, s6, s7, s8, f5, f6, f7, f8, hts, rfl⟩ := h
    have f5 := free_nb f5
    have f6 := free_nb f6
    have f7 := free_nb f7
    have f8 := free_nb f8
    have hx : x ∈ ts := by rw [hts]; simp
    have e4 := y2.out x hx
    have e5 := (y3.out x hx).1
    have e6 := (y3.out x hx).2
    have et : tieD x = .tup [.int x.1, .str x.2.1, .int x.2.2.1, .int x.2.2.2] := rfl
    have ea : (done.map (toT (img (ps.map (·.1)) as) (img (ts.map (·.1)) bs))).map tieD ++ [.tup [.int (img (ts.map (·.1)) bs x.1), .str x.2.1, .int (img (ps.map (·.1)) as x.2.2.1), .int (img (ps.map (·.1)) as x.2.2.2)]] = ((done ++ [x]).map (toT (img (ps.map (·.1)) as) (img (ts.map (·.1)) bs))).map tieD := by
      rw [List.map_append, List.map_append]
      rfl
    have el : ((done.map (toT (img (ps.map (·.1)) as) (img (ts.map (·.1)) bs))).map tieD).length ≤ 100000 := by
      have h1 := w0.out.lt
      rw [hts, List.length_append] at h1
      rw [List.length_map, List.length_map]
      omega
    have w3 : Hid (ts = (done ++ [x]) ++ xs) := ⟨by rw [List.append_assoc]; exact hts⟩
    clear hts hx h0 d1 d2 o1 o2 p2 l1 l2 x1 x2 x3 x4 hz1 hz2 hv1 hv2 hv3 hv4 e9
    generalize img (ps.map (·.1)) as = ff at *
    generalize img (ts.map (·.1)) bs = gg at *
    generalize hl0 : (done.map (toT ff gg)).map tieD = l0 at *
    generalize hl1 : ((done ++ [x]).map (toT ff gg)).map tieD = l1 at *
    walk_at "ev"
    rw [wJ.out]
    exact ⟨_, _, _, _, _, rfl, rfl, rfl, rfl, w3.out, by rw [hl1]⟩
  · intro ρ h
    rw [wJ.out] at h
    obtain ⟨done, s5, s6, s7, s8, f5, f6, f7, f8, hts, rfl⟩ := h
    rw [List.append_nil] at hts
    have e5 : (done.map (toT (img (ps.map (·.1)) as) (img (ts.map (·.1)) bs))).map tieD = v4 := by rw [← hv4]; unfold toTs; rw [← hts]
    rw [e5]
    have c1 := yc.out (.own (.lst v4)) s5 s6 s7 s8 f5 f6
    clear hts e5 h0 wJ y2 y3 yc x1 x2 d1 d2 hz1 hz2 hv1 hv2 hv3 hv4
    generalize ps.map ptD = zp at *
    walk_at "ev"
end NT.Pure

set_option Elab.async false
set_option linter.all false
set_option maxRecDepth 100000
set_option maxHeartbeats 4000000
namespace NT.Pure
open PySem L2 NT NT.Den
local macro_rules | `(tactic| walk_at "ev") => `(tactic| simp (maxSteps := 100000000) only [iZip_ap, iDctN_ap, dctO_dK, gT_raw, rtb_rt, wO_nx, wO_rt, wO_rtN, wO_ex, stp_ap, sWhile_ap, wT_ok, sCalm_ap, iDct_ap, dctI_val, rtv_rt, rtvN_rtN, bnd_ok, bnd_ex, bnd_bad, bndO_ok, bndO_ex, bndO_bad, nxt_nx, nxt_rt, nxt_rtN, nxt_ex, nxt_bad, lft_some, mbind_ap, mpure_ap, lift_ap, eC_ap, rdV_val, eVar_ap, eBin_ap, eUn_ap, aNil_ap, aCons_ap, eFn_ap, eTup_ap, eLst_ap, tupO, lstO, tVal_ap, asB_bl, iteR_t, iteR_f, iteO_t, iteO_f, mAnd_ap, mOr_ap, mNot_ap, eAnd_ap, eOr_ap, eNot_ap, eChain_ap, vw_ok, vwN_ok, vwT_ok, eView_ap, eViewN_ap, tView_ap, sDo_ap, sSeq_ap, sSkip_ap, put_ap, sSet_ap, sSetN_ap, sRet_ap, sRetN_ap, sExpr_ap, sIf_ap, sRetO_ap, retO_own, sRaise_ap, sFor_ap, loop_nil, optO_some, sAsg_ap, iteS_t, gN_ap, gT_ap, gsNil_ap, bS_some, gsCons_ap, notBor_val, notBor_own, notBor_no, mineO_own, mineO_bor, with_own, with_bor, optR_some, mutAt_ap, eMut_ap, sPutAt_ap, outE_rt, outE_rtN, outE_nx, outE_ex, outN_rtN, outN_ex, eCall_ap, eCallN_ap, borO_bor, outO_rt, outO_rtN, outO_nx, outO_ex, outON_rtN, outON_ex, callO_ap, callON_ap, eCallO_ap, eCallON_ap, oHere_ap, oThere_ap, seqO_lst, seqO_tup, seqO_scr, iSeq_ap, sgnO_str, iSign_ap, iRange1_ap, iRange2_ap, eComp_ap, eSl_ap, oNone_ap, intO_int, oSome_ap, eGet2_ap, add_int, neg_int, mul_int, sub_int, lt_int, le_int, gt_int, ge_int, mod_int, fdiv_int, len_lst, len_tup, len_scr, len_str, ix_tup', ix_lst', tuple_lst, tuple_tup, list_lst, list_tup, append_lst, isLst_lst, isDct_dK, isDct_dT, is_bl, isNot_bl, plain_int, plain_str, plain_bl, plain_non, plain_tup, plainL_nil, plainL_cons, int_bl, int_int, viewS_val, viewS_own, viewS_bor, viewS_no, atI_0, atI_1, atI_2, atI_3, eq_int, ne_int, eq_bl, ne_bl, sl_tup,
  List.map_cons, List.map_nil, List.replicate_succ, List.replicate_zero, List.append_nil, List.nil_append, List.cons_append, List.length_cons, List.length_nil, List.getElem?_cons_zero, List.getElem?_cons_succ, List.set_cons_zero, List.set_cons_succ, Nat.reduceAdd, Nat.reduceLeDiff, Nat.reduceEqDiff, Int.reduceLT, Int.reduceLE, Int.reduceAdd, Int.reduceSub, Int.reduceNeg, Int.reduceBEq, cast_0, cast_1, cast_2, cast_3, cast_4, cast_5, cast_6, cast_7, cast_8, Int.reduceToNat, decide_true, decide_false, decide_eq_true_eq, if_true, if_false, ite_true, ite_false, reduceIte, Bool.and_true, Bool.true_and, Bool.and_false, Bool.false_and, Bool.or_false, Bool.false_or, Bool.or_true, Bool.true_or, Bool.not_true, Bool.not_false, eq_self, Bool.false_eq_true, and_true, true_and, beq_self_eq_true, Option.map_some, Option.bind_some, *])
/-! right_naming -/
theorem any_false_iff {acc : List Int} {b : Int} : acc.any (· == b) = false ↔ b ∉ acc := by
  rw [List.any_eq_false]
  constructor
  · intro h z
    exact h b z (by simp)
  · intro h x hx e
    have : x = b := by simpa using e
    exact h (this ▸ hx)
theorem sameN_nodup {bs : List Int} : sameN bs = true ↔ bs.Nodup := by
  have h := (dedI_len (bs := bs) (acc := [])).1
  rw [List.length_nil, Nat.zero_add] at h
  have e : sameN bs = true ↔ (bs.foldl dedI []).length = bs.length := by
    unfold sameN setL
    rw [beq_iff_eq]
    omega
  rw [e, h]
  constructor
  · intro q
    clear h e
    induction bs with
    | nil => exact List.nodup_nil
    | cons b bs ih =>
      rw [List.nodup_cons]
      refine ⟨fun hb => ?_, ih fun l r c hc => ?_⟩
      · obtain ⟨l, r, hlr⟩ := List.append_of_mem hb
        have := q (b :: l) r b (by rw [hlr]; rfl)
        rw [any_false_iff] at this
        exact this (by simp)
      · have := q (b :: l) r c (by rw [hc]; rfl)
        rw [any_false_iff] at this ⊢
        exact fun z => this (List.mem_cons_of_mem _ (by simpa using z))
  · intro nd l r b hb
    rw [hb, List.nodup_append] at nd
    rw [List.nil_append, any_false_iff]
    exact fun z => nd.2.2 b z b List.mem_cons_self rfl
def rowIm (ns : List Int) : D → List Int
  | .tup ds => (zipO ns ds).getD []
  | _ => []
theorem rowB_some {ns : List Int} {d : D} (h : rowB ns d = true) : d = .tup ((ns.zip (rowIm ns d)).map prD) ∧ (rowIm ns d).length = ns.length ∧ (rowIm ns d).Nodup ∧ (∀ n ∈ ns, nameOk n) ∧ ∀ b ∈ rowIm ns d, nameOk b := by
  cases d with
  | tup ds =>
    have h : (match zipO ns ds with
      | some bs => sameN bs
      | none => false) = true := h
    cases hz : zipO ns ds with
    | none => rw [hz] at h; cases h
    | some bs =>
      rw [hz] at h
      obtain ⟨q1, q2, q3, q4⟩ := zipO_some hz
      have e : rowIm ns (.tup ds) = bs := by
        show (zipO ns ds).getD [] = bs
        rw [hz]
        rfl
      rw [e]
      exact ⟨by rw [← q1], q2, sameN_nodup.mp h, q3, q4⟩
  | _ => cases h
theorem rowB_of {ns bs : List Int} (hl : bs.length = ns.length) (nd : bs.Nodup) (h1 : ∀ n ∈ ns, nameOk n) (h2 : ∀ b ∈ bs, nameOk b) : rowB ns (.tup ((ns.zip bs).map prD)) = true ∧ rowIm ns (.tup ((ns.zip bs).map prD)) = bs := by
  have := zipO_pr hl h1 h2
  constructor
  · show (match zipO ns ((ns.zip bs).map prD) with
      | some bs => sameN bs
      | none => false) = true
    rw [this]
    exact sameN_nodup.mpr nd
  · show (zipO ns ((ns.zip bs).map prD)).getD [] = bs
    rw [this]
    rfl
/-- the nets here -/
structure Nt (ps : List P2) (ts : List T4) : Prop where
  lp : ps.length < 64
  lt : ts.length < 64
  np : (ps.map (·.1)).Pairwise (· < ·)
  nt : (ts.map (·.1)).Pairwise (· < ·)
  en : ∀ t ∈ ts, (∃ p ∈ ps, p.1 = t.2.2.1) ∧ ∃ p ∈ ps, p.1 = t.2.2.2
  sp : ∀ p ∈ ps, PyData.strOk p.2 = true
  st : ∀ t ∈ ts, PyData.strOk t.2.1 = true
theorem Nt.tn {ps : List P2} {ts : List T4} (w : Nt ps ts) {as bs : List Int} (la : as.length = ps.length) (lb : bs.length = ts.length) (na : as.Nodup) (nb : bs.Nodup) : Tn ps ts as bs := ⟨w.lp, w.lt, w.np, w.nt, w.en, la, lb, na, nb⟩
def turnO (ps : List P2) (ts : List T4) : D → D
  | .tup [a, b] => turnD ps ts (rowIm (ps.map (·.1)) a) (rowIm (ts.map (·.1)) b)
  | _ => .non
theorem namB_some {ps : List P2} {ts : List T4} {d : D} (w : Nt ps ts) (h : namB ps ts d = true) : ∃ as bs, d = nmD ps ts as bs ∧ Tn ps ts as bs ∧ turnO ps ts d = turnD ps ts as bs ∧ (∀ b ∈ as, nameOk b) ∧ (∀ b ∈ bs, nameOk b) ∧ (∀ p ∈ ps, nameOk p.1) ∧ ∀ t ∈ ts, nameOk t.1 := by
  unfold namB at h
  split at h
  · rename_i a b
    rw [Bool.and_eq_true] at h
    obtain ⟨p1, p2, p3, p4, p5⟩ := rowB_some h.1
    obtain ⟨q1, q2, q3, q4, q5⟩ := rowB_some h.2
    rw [List.length_map] at p2 q2
    refine ⟨rowIm (ps.map (·.1)) a, rowIm (ts.map (·.1)) b, by unfold nmD; rw [← p1, ← q1], w.tn p2 q2 p3 q3, rfl, p5, q5, fun p hp => p4 _ (List.mem_map.mpr ⟨p, hp, rfl⟩), fun t ht => q4 _ (List.mem_map.mpr ⟨t, ht, rfl⟩)⟩
  · cases h
theorem namB_of {ps : List P2} {ts : List T4} {as bs : List Int} (la : as.length = ps.length) (lb : bs.length = ts.length) (na : as.Nodup) (nb : bs.Nodup) (k1 : ∀ p ∈ ps, nameOk p.1) (k2 : ∀ t ∈ ts, nameOk t.1) (k3 : ∀ b ∈ as, nameOk b) (k4 : ∀ b ∈ bs, nameOk b) : namB ps ts (nmD ps ts as bs) = true ∧ turnO ps ts (nmD ps ts as bs) = turnD ps ts as bs := by
  obtain ⟨r1, r2⟩ := rowB_of (ns := ps.map (·.1)) (bs := as) (by rw [List.length_map]; exact la) na (fun n hn => by obtain ⟨p, hp, e⟩ := List.mem_map.mp hn; rw [← e]; exact k1 p hp) k3
  obtain ⟨r3, r4⟩ := rowB_of (ns := ts.map (·.1)) (bs := bs) (by rw [List.length_map]; exact lb) nb (fun n hn => by obtain ⟨p, hp, e⟩ := List.mem_map.mp hn; rw [← e]; exact k2 p hp) k4
  constructor
  · show (rowB _ _ && rowB _ _) = true
    rw [r1, r3]
    rfl
  · show turnD ps ts (rowIm _ _) (rowIm _ _) = _
    rw [r2, r4]
theorem fit_net {ps : List P2} {ts : List T4} (sp : ∀ p ∈ ps, PyData.strOk p.2 = true) (st : ∀ t ∈ ts, PyData.strOk t.2.1 = true) : fit 60 (netD ps ts) = true := by
  show (fits 58 (ps.map ptD) && (fits 58 (ts.map tieD) && true)) = true
  rw [fits_pts sp, fits_ties st]
  rfl
theorem fit_turn {ps : List P2} {ts : List T4} {as bs : List Int} (w : Nt ps ts) : fit 60 (turnD ps ts as bs) = true := by
  refine fit_net (fun p hp => ?_) fun t ht => ?_
  · obtain ⟨q, hq, e⟩ := List.mem_map.mp (srt_mem hp)
    rw [← e]
    exact w.sp q hq
  · obtain ⟨q, hq, e⟩ := List.mem_map.mp (srt_mem ht)
    rw [← e]
    exact w.st q hq
theorem opEq_fit {a b : D} (ha : fit 60 a = true) (hb : fit 60 b = true) : opEq a b = some (.bl (eqD a b)) := by
  unfold opEq
  rw [ha, hb]
  rfl
theorem right_naming_eq {ps : List P2} {ts : List T4} {d X : D} (w : Nt ps ts) (hk : kd d = true) (hx : fit 60 X = true) : ∃ ρ', d_right_naming [.val (netD ps ts), .val X, .val d] = .rt (.bl (namB ps ts d && eqD (turnO ps ts d) X)) ρ' := by
  obtain ⟨ρ1, e1⟩ := is_naming_eq (ps := ps) (ts := ts) hk (by have := w.lp; omega) (by have := w.lt; omega)
  refine of_rtv ?_
  cases hn : namB ps ts d with
  | false =>
    rw [hn] at e1
    clear w hk hx hn
    generalize netD ps ts = nn at *
    unfold d_right_naming
    walk_at "ev"
  | true =>
    rw [hn] at e1
    obtain ⟨as, bs, rfl, tn, tu, _⟩ := namB_some w hn
    obtain ⟨ρ2, e2⟩ := turned_net_t tn
    have e3 := opEq_fit (fit_turn (as := as) (bs := bs) w) hx
    rw [tu]
    clear w hk hx hn tn tu
    generalize netD ps ts = nn at *
    generalize turnD ps ts as bs = tt at *
    unfold d_right_naming
    walk_at "ev"
theorem beqL_comm {α : Type} [BEq α] [LawfulBEq α] {a b : α} : (a == b) = (b == a) := by
  rw [Bool.eq_iff_iff, beq_iff_eq, beq_iff_eq]
  exact eq_comm
mutual
theorem eqD_comm : ∀ (a b : D), eqD a b = eqD b a
  | .non, b => by cases b <;> rfl
  | .bl x, b => by
    cases b <;> first
      | rfl
      | exact beqL_comm
      | exact beqL_comm (a := if x then (1 : Int) else 0)
  | .int i, b => by
    cases b <;> first
      | rfl
      | exact beqL_comm
      | exact beqL_comm (b := if _ then (1 : Int) else 0)
  | .str x, b => by
    cases b <;> first
      | rfl
      | exact beqL_comm
  | .tup xs, b => by
    cases b <;> first
      | rfl
      | (rename_i ys; simp only [eqD]; exact eqDs_comm xs ys)
  | .lst xs, b => by
    cases b <;> first
      | rfl
      | (rename_i ys; simp only [eqD]; exact eqDs_comm xs ys)
  | .scr _, b => by cases b <;> rfl
  | .dK _, b => by cases b <;> rfl
  | .dT _, b => by cases b <;> rfl
  | .exn _, b => by cases b <;> rfl
  | .raw _, b => by cases b <;> rfl
  | .obj _ _, b => by cases b <;> rfl
theorem eqDs_comm : ∀ (xs ys : List D), eqDs xs ys = eqDs ys xs
  | [], [] => rfl
  | [], _ :: _ => by simp [eqDs]
  | _ :: _, [] => by simp [eqDs]
  | x :: xs, y :: ys => by
    simp only [eqDs]
    rw [eqD_comm x y, eqDs_comm xs ys]
end
end NT.Pure

set_option Elab.async false
set_option linter.all false
set_option maxRecDepth 100000
set_option maxHeartbeats 4000000
namespace NT.Pure
open PySem L2 NT NT.Den
local macro_rules | `(tactic| walk_at "ev") => `(tactic| simp (maxSteps := 100000000) only [iZip_ap, iDctN_ap, dctO_dK, gT_raw, rtb_rt, wO_nx, wO_rt, wO_rtN, wO_ex, stp_ap, sWhile_ap, wT_ok, sCalm_ap, iDct_ap, dctI_val, rtv_rt, rtvN_rtN, bnd_ok, bnd_ex, bnd_bad, bndO_ok, bndO_ex, bndO_bad, nxt_nx, nxt_rt, nxt_rtN, nxt_ex, nxt_bad, lft_some, mbind_ap, mpure_ap, lift_ap, eC_ap, rdV_val, eVar_ap, eBin_ap, eUn_ap, aNil_ap, aCons_ap, eFn_ap, eTup_ap, eLst_ap, tupO, lstO, tVal_ap, asB_bl, iteR_t, iteR_f, iteO_t, iteO_f, mAnd_ap, mOr_ap, mNot_ap, eAnd_ap, eOr_ap, eNot_ap, eChain_ap, vw_ok, vwN_ok, vwT_ok, eView_ap, eViewN_ap, tView_ap, sDo_ap, sSeq_ap, sSkip_ap, put_ap, sSet_ap, sSetN_ap, sRet_ap, sRetN_ap, sExpr_ap, sIf_ap, sRetO_ap, retO_own, sRaise_ap, sFor_ap, loop_nil, optO_some, sAsg_ap, iteS_t, gN_ap, gT_ap, gsNil_ap, bS_some, gsCons_ap, notBor_val, notBor_own, notBor_no, mineO_own, mineO_bor, with_own, with_bor, optR_some, mutAt_ap, eMut_ap, sPutAt_ap, outE_rt, outE_rtN, outE_nx, outE_ex, outN_rtN, outN_ex, eCall_ap, eCallN_ap, borO_bor, outO_rt, outO_rtN, outO_nx, outO_ex, outON_rtN, outON_ex, callO_ap, callON_ap, eCallO_ap, eCallON_ap, oHere_ap, oThere_ap, seqO_lst, seqO_tup, seqO_scr, iSeq_ap, sgnO_str, iSign_ap, iRange1_ap, iRange2_ap, eComp_ap, eSl_ap, oNone_ap, intO_int, oSome_ap, eGet2_ap, add_int, neg_int, mul_int, sub_int, lt_int, le_int, gt_int, ge_int, mod_int, fdiv_int, len_lst, len_tup, len_scr, len_str, ix_tup', ix_lst', tuple_lst, tuple_tup, list_lst, list_tup, append_lst, isLst_lst, isDct_dK, isDct_dT, is_bl, isNot_bl, plain_int, plain_str, plain_bl, plain_non, plain_tup, plainL_nil, plainL_cons, int_bl, int_int, viewS_val, viewS_own, viewS_bor, viewS_no, atI_0, atI_1, atI_2, atI_3, eq_int, ne_int, eq_bl, ne_bl, sl_tup,
  List.map_cons, List.map_nil, List.replicate_succ, List.replicate_zero, List.append_nil, List.nil_append, List.cons_append, List.length_cons, List.length_nil, List.getElem?_cons_zero, List.getElem?_cons_succ, List.set_cons_zero, List.set_cons_succ, Nat.reduceAdd, Nat.reduceLeDiff, Nat.reduceEqDiff, Int.reduceLT, Int.reduceLE, Int.reduceAdd, Int.reduceSub, Int.reduceNeg, Int.reduceBEq, cast_0, cast_1, cast_2, cast_3, cast_4, cast_5, cast_6, cast_7, cast_8, Int.reduceToNat, decide_true, decide_false, decide_eq_true_eq, if_true, if_false, ite_true, ite_false, reduceIte, Bool.and_true, Bool.true_and, Bool.and_false, Bool.false_and, Bool.or_false, Bool.false_or, Bool.or_true, Bool.true_or, Bool.not_true, Bool.not_false, eq_self, Bool.false_eq_true, and_true, true_and, beq_self_eq_true, Option.map_some, Option.bind_some, *])
/-! the law's namings -/
theorem fits_ints {n : Nat} : ∀ {xs : List Int}, fits n (xs.map .int) = true
  | [] => by rw [List.map_nil]; simp [fits]
  | x :: xs => by
    rw [List.map_cons]
    simp only [fits, fit, Bool.true_and]
    exact fits_ints
theorem ne_nil {xs : List Int} : opNe (.lst (xs.map .int)) (.lst []) = some (.bl (!xs.isEmpty)) := by
  unfold opNe
  have h1 : fit 60 (.lst (xs.map .int)) = true := by
    show fits 59 _ = true
    exact fits_ints
  have h2 : fit 60 (.lst []) = true := by
    show fits 59 [] = true
    simp [fits]
  rw [h1, h2]
  cases xs with
  | nil => simp [eqD, eqDs]
  | cons x xs => simp [eqD, eqDs]
theorem erase_ints {xs : List Int} {k : Nat} : (xs.map D.int).eraseIdx k = (xs.eraseIdx k).map .int := by
  induction xs generalizing k with
  | nil => rfl
  | cons x xs ih =>
    cases k with
    | zero => rfl
    | succ k => rw [List.map_cons, List.eraseIdx_cons_succ, List.eraseIdx_cons_succ, ih, List.map_cons]
def baseI (m : Nat) : List Int := (List.range m).map fun (k : Nat) => (k : Int)
theorem cons_erase : ∀ {l : List Int} {k : Nat} (h : k < l.length), (l[k] :: l.eraseIdx k).Perm l
  | x :: l, 0, _ => List.Perm.refl _
  | x :: l, k + 1, h => by
    have hk : k < l.length := by simpa using h
    have ih := cons_erase (l := l) (k := k) hk
    show (l[k] :: x :: l.eraseIdx k).Perm (x :: l)
    exact (List.Perm.swap x l[k] _).trans (ih.cons x)
theorem erase_perm {left found : List Int} {k : Nat} {x : Int} (h : left[k]? = some x) : (left.eraseIdx k ++ (found ++ [x])).Perm (left ++ found) := by
  obtain ⟨hk, e⟩ := List.getElem?_eq_some_iff.mp h
  have h1 : (x :: left.eraseIdx k).Perm left := by
    rw [← e]
    exact cons_erase hk
  have h2 : (left.eraseIdx k ++ (found ++ [x])).Perm (x :: (left.eraseIdx k ++ found)) := by
    rw [← List.append_assoc]
    exact List.perm_append_singleton _ _
  exact h2.trans (h1.append_right found)
theorem shuffled_t {cs : List Int} {m : Nat} (hd : Dk cs) (hm : m ≤ 1000) : ∃ (xs cs' : List Int) (ρ' : List Sl), Dk cs' ∧ xs.Perm (baseI m) ∧ d_law_shuffled [.bor (deckD cs), .val (.int (m : Int)), .no, .no] = .rtN (.lst (xs.map .int)) (.bor (deckD cs') :: ρ') := by
  have r1 : opLstRg1 (.int (m : Int)) = some (.lst ((baseI m).map .int)) := by
    show (if _ then _ else _) = _
    rw [if_pos (by omega)]
    unfold baseI
    rw [List.map_map]
    rfl
  obtain ⟨I, hI⟩ : ∃ I : Nat → List Sl → Prop, I = fun n ρ => ∃ (left found : List Int) (cs' : List Int), n = left.length ∧ Dk cs' ∧ (left ++ found).Perm (baseI m) ∧ ρ = [.bor (deckD cs'), .val (.int (m : Int)), .own (.lst (left.map .int)), .own (.lst (found.map .int))] := ⟨_, rfl⟩
  obtain ⟨R, hR⟩ : ∃ R : D → List Sl → Prop, R = fun d ρ => ∃ (xs cs' : List Int) (ρ' : List Sl), Dk cs' ∧ xs.Perm (baseI m) ∧ d = .lst (xs.map .int) ∧ ρ = .bor (deckD cs') :: ρ' := ⟨_, rfl⟩
  suffices h : ∃ d ρ', d_law_shuffled [.bor (deckD cs), .val (.int (m : Int)), .no, .no] = .rtN d ρ' ∧ R d ρ' by
    obtain ⟨d, ρ', h1, h2⟩ := h
    rw [hR] at h2
    obtain ⟨xs, cs', ρ'', q1, q2, q3, q4⟩ := h2
    subst q3 q4
    exact ⟨xs, cs', ρ'', q1, q2, h1⟩
  have h0 : Hid (I m [.bor (deckD cs), .val (.int (m : Int)), .own (.lst ((baseI m).map .int)), .own (.lst [])]) := ⟨by
    rw [hI]
    exact ⟨baseI m, [], cs, by unfold baseI; simp, hd, by rw [List.append_nil], rfl⟩⟩
  have wI := Hid.mk hI
  have wR := Hid.mk hR
  have wm := Hid.mk hm
  clear hI hR hd
  refine of_rtNP ?_
  generalize hB : (baseI m).map D.int = bb at *
  unfold d_law_shuffled
  walk_at "ev"
  refine wO_while I m h0.out (lt_fuel (by omega)) ?_
  clear h0 hm
  intro n ρ h
  rw [wI.out] at h
  obtain ⟨left, found, cs', hn, dk, hp, rfl⟩ := h
  have lsz : left.length + found.length = m := by
    have := hp.length_eq
    rw [List.length_append] at this
    unfold baseI at this
    simpa using this
  have wd := Hid.mk dk
  have wp := Hid.mk hp
  have wn := Hid.mk hn
  have wl := Hid.mk lsz
  have nn := @ne_nil left
  have pl1 : plainO (.lst (left.map .int)) = true := plainL_ints
  clear dk hp hn lsz hB
  have wB := wm
  cases left with
  | nil =>
    have nn : opNe (.lst []) (.lst []) = some (.bl false) := nn
    have wf : Hid (R (.lst (found.map .int)) [.bor (deckD cs'), .val (.int (m : Int)), .own (.lst []), .no]) := ⟨by
      rw [wR.out]
      have := wp.out
      rw [List.nil_append] at this
      exact ⟨found, cs', _, wd.out, this, rfl, rfl⟩⟩
    generalize found.map D.int = ff at *
    have e0 : List.map D.int ([] : List Int) = [] := rfl
    rw [e0]
    clear r1 e0
    walk_at "ev"
    refine ⟨fun z => (by cases z), fun _ => ?_⟩
    exact wf.out
  | cons x0 rest =>
    replace nn : opNe (.lst ((x0 :: rest).map .int)) (.lst []) = some (.bl true) := nn
    generalize hL : x0 :: rest = left at *
    have lpos : 0 < left.length := by rw [← hL]; simp
    have nx := @next_t cs'
    have b1 : 0 ≤ cs'.headD 0 % (left.length : Int) := Int.emod_nonneg _ (by omega)
    have b2 : cs'.headD 0 % (left.length : Int) < left.length := Int.emod_lt_of_pos _ (by omega)
    have b3 : (0 : Int) < left.length := by omega
    have hi : (cs'.headD 0 % (left.length : Int)).toNat < left.length := by omega
    obtain ⟨x, hx⟩ : ∃ x, left[(cs'.headD 0 % (left.length : Int)).toNat]? = some x := ⟨_, List.getElem?_eq_getElem hi⟩
    have po := popAt_ok (ds := left.map .int) (i := cs'.headD 0 % (left.length : Int)) (d := .int x) b1 (by have := wl.out; have := wm.out; omega) (by rw [List.getElem?_map, hx]; rfl)
    rw [erase_ints] at po
    generalize hk : (cs'.headD 0 % (left.length : Int)).toNat = k at *
    have ap := app_ints (xs := found) (v := x) (by have := wl.out; have := wm.out; omega)
    have ll : ((left.map D.int).length : Int) = left.length := by rw [List.length_map]
    have g : Hid (I (left.eraseIdx k).length [.bor (deckD cs'.tail), .val (.int (m : Int)), .own (.lst ((left.eraseIdx k).map .int)), .own (.lst ((found ++ [x]).map .int))]) := ⟨by
      rw [wI.out]
      exact ⟨left.eraseIdx k, found ++ [x], cs'.tail, rfl, wd.out.tl, (erase_perm hx).trans wp.out, rfl⟩⟩
    have g2 : Hid ((left.eraseIdx k).length < n) := ⟨by
      rw [wn.out, List.length_eraseIdx, if_pos hi]
      omega⟩
    clear hx hi hL b1 b2 hk r1
    generalize left.map D.int = l0 at *
    generalize (left.eraseIdx k).map D.int = l1 at *
    generalize found.map D.int = l2 at *
    generalize (found ++ [x]).map D.int = l3 at *
    walk_at "ev"
    refine ⟨fun _ => ?_, fun z => (by cases z)⟩
    exact ⟨_, g2.out, g.out⟩
end NT.Pure

set_option Elab.async false
set_option linter.all false
set_option maxRecDepth 100000
set_option maxHeartbeats 4000000
namespace NT.Pure
open PySem L2 NT NT.Den
local macro_rules | `(tactic| walk_at "ev") => `(tactic| simp (maxSteps := 100000000) only [iZip_ap, iDctN_ap, dctO_dK, gT_raw, rtb_rt, wO_nx, wO_rt, wO_rtN, wO_ex, stp_ap, sWhile_ap, wT_ok, sCalm_ap, iDct_ap, dctI_val, rtv_rt, rtvN_rtN, bnd_ok, bnd_ex, bnd_bad, bndO_ok, bndO_ex, bndO_bad, nxt_nx, nxt_rt, nxt_rtN, nxt_ex, nxt_bad, lft_some, mbind_ap, mpure_ap, lift_ap, eC_ap, rdV_val, eVar_ap, eBin_ap, eUn_ap, aNil_ap, aCons_ap, eFn_ap, eTup_ap, eLst_ap, tupO, lstO, tVal_ap, asB_bl, iteR_t, iteR_f, iteO_t, iteO_f, mAnd_ap, mOr_ap, mNot_ap, eAnd_ap, eOr_ap, eNot_ap, eChain_ap, vw_ok, vwN_ok, vwT_ok, eView_ap, eViewN_ap, tView_ap, sDo_ap, sSeq_ap, sSkip_ap, put_ap, sSet_ap, sSetN_ap, sRet_ap, sRetN_ap, sExpr_ap, sIf_ap, sRetO_ap, retO_own, sRaise_ap, sFor_ap, loop_nil, optO_some, sAsg_ap, iteS_t, gN_ap, gT_ap, gsNil_ap, bS_some, gsCons_ap, notBor_val, notBor_own, notBor_no, mineO_own, mineO_bor, with_own, with_bor, optR_some, mutAt_ap, eMut_ap, sPutAt_ap, outE_rt, outE_rtN, outE_nx, outE_ex, outN_rtN, outN_ex, eCall_ap, eCallN_ap, borO_bor, outO_rt, outO_rtN, outO_nx, outO_ex, outON_rtN, outON_ex, callO_ap, callON_ap, eCallO_ap, eCallON_ap, oHere_ap, oThere_ap, seqO_lst, seqO_tup, seqO_scr, iSeq_ap, sgnO_str, iSign_ap, iRange1_ap, iRange2_ap, eComp_ap, eSl_ap, oNone_ap, intO_int, oSome_ap, eGet2_ap, add_int, neg_int, mul_int, sub_int, lt_int, le_int, gt_int, ge_int, mod_int, fdiv_int, len_lst, len_tup, len_scr, len_str, ix_tup', ix_lst', tuple_lst, tuple_tup, list_lst, list_tup, append_lst, isLst_lst, isDct_dK, isDct_dT, is_bl, isNot_bl, plain_int, plain_str, plain_bl, plain_non, plain_tup, plainL_nil, plainL_cons, int_bl, int_int, viewS_val, viewS_own, viewS_bor, viewS_no, atI_0, atI_1, atI_2, atI_3, eq_int, ne_int, eq_bl, ne_bl, sl_tup,
  List.map_cons, List.map_nil, List.replicate_succ, List.replicate_zero, List.append_nil, List.nil_append, List.cons_append, List.length_cons, List.length_nil, List.getElem?_cons_zero, List.getElem?_cons_succ, List.set_cons_zero, List.set_cons_succ, Nat.reduceAdd, Nat.reduceLeDiff, Nat.reduceEqDiff, Int.reduceLT, Int.reduceLE, Int.reduceAdd, Int.reduceSub, Int.reduceNeg, Int.reduceBEq, cast_0, cast_1, cast_2, cast_3, cast_4, cast_5, cast_6, cast_7, cast_8, Int.reduceToNat, decide_true, decide_false, decide_eq_true_eq, if_true, if_false, ite_true, ite_false, reduceIte, Bool.and_true, Bool.true_and, Bool.and_false, Bool.false_and, Bool.or_false, Bool.false_or, Bool.or_true, Bool.true_or, Bool.not_true, Bool.not_false, eq_self, Bool.false_eq_true, and_true, true_and, beq_self_eq_true, Option.map_some, Option.bind_some, *])
theorem ix3 {a b c i : Int} (h : 0 ≤ i ∧ i < 3) : ∃ x, (x = a ∨ x = b ∨ x = c) ∧ opIx (.lst [.int a, .int b, .int c]) (.int i) = some (.int x) := by
  have h1 : i = 0 ∨ i = 1 ∨ i = 2 := by omega
  rcases h1 with h1 | h1 | h1 <;> subst h1
  · exact ⟨a, .inl rfl, rfl⟩
  · exact ⟨b, .inr (.inl rfl), rfl⟩
  · exact ⟨c, .inr (.inr rfl), rfl⟩
theorem zip_rn {is : List (Int × List D)} {xs : List Int} : zipD [.tup (is.map itD), .lst (xs.map .int)] = some ((is.zip xs).map fun x => .raw [itD x.1, .int x.2]) := by
  rw [zipD_map (α := D) (xs := is.map itD) (ys := xs.map .int) rfl rfl, List.zip_map, List.map_map]
  rfl
theorem plainL_prs {α : Type} {f : α → Int × Int} : ∀ {xs : List α}, plainL (xs.map fun x => prD (f x)) = true
  | [] => plainL_nil
  | x :: xs => by
    rw [List.map_cons, plainL_cons, plainL_prs, Bool.and_true]
    unfold prD
    rw [plain_tup, plainL_cons, plainL_cons, plainL_nil]
    rfl
theorem renamed_t {cs : List Int} {is : List (Int × List D)} (hd : Dk cs) (hl : is.length ≤ 9) : ∃ (as cs' : List Int) (ρ' : List Sl), Dk cs' ∧ as.length = is.length ∧ as.Nodup ∧ (∀ a ∈ as, nameOk a) ∧ d_law_renamed [.bor (deckD cs), .val (.tup (is.map itD)), .no, .no, .no, .no, .no] = .rt (.tup (((is.map (·.1)).zip as).map prD)) (.bor (deckD cs') :: ρ') := by
  have n1 := @next_t cs
  have n2 := @next_t cs.tail
  have n3 := @next_t cs.tail.tail
  have q2 := hd.tl.hd
  obtain ⟨step, hs, i1⟩ := ix3 (a := 1) (b := 3) (c := 24000) (i := cs.headD 0 % 3) (by omega)
  obtain ⟨w, hw, i2⟩ := ix3 (a := 0) (b := 1) (c := 40) (i := cs.tail.tail.headD 0 % 3) (by omega)
  have mo : mulOk (cs.tail.headD 0) w = true := mulOk_r (by omega)
  obtain ⟨places, cs4, ρ4, d4, pm, e4⟩ := shuffled_t (m := is.length) hd.tl.tl.tl (by omega)
  have pl : places.length = is.length := by
    have := pm.length_eq
    unfold baseI at this
    simpa using this
  have pb : ∀ x ∈ places, 0 ≤ x ∧ x < is.length := fun x hx => by
    have := pm.mem_iff.mp hx
    unfold baseI at this
    obtain ⟨k, hk, e⟩ := List.mem_map.mp this
    rw [List.mem_range] at hk
    omega
  have pn : places.Nodup := by
    rw [pm.nodup_iff]
    unfold baseI List.Nodup
    rw [List.pairwise_map]
    exact List.nodup_range.imp fun h e => h (by omega)
  obtain ⟨shift, hsh⟩ : ∃ shift, shift = cs.tail.headD 0 * w := ⟨_, rfl⟩
  have sb : 0 ≤ shift ∧ shift ≤ 39960 := by
    rw [hsh]
    rcases hw with h | h | h <;> subst h <;> omega
  have z1 := @zip_rn is places
  refine ⟨places.map fun x => shift + step * x, cs4, ?_⟩
  rw [exists_and_left, exists_and_left, exists_and_left, exists_and_left]
  refine ⟨d4, by rw [List.length_map, pl], ?_, ?_, ?_⟩
  · unfold List.Nodup
    rw [List.pairwise_map]
    refine List.Pairwise.imp (fun {a b} hab e => hab ?_) pn
    rcases hs with h | h | h <;> subst h <;> omega
  · intro a ha
    obtain ⟨x, hx, e⟩ := List.mem_map.mp ha
    have := pb x hx
    subst e
    unfold nameOk
    rcases hs with h | h | h <;> subst h <;> constructor <;> omega
  · obtain ⟨R, hR⟩ : ∃ R : D → List Sl → Prop, R = fun d ρ => ∃ ρ', d = .tup (((is.map (·.1)).zip (places.map fun x => shift + step * x)).map prD) ∧ ρ = .bor (deckD cs4) :: ρ' := ⟨_, rfl⟩
    suffices h : ∃ d ρ', d_law_renamed [.bor (deckD cs), .val (.tup (is.map itD)), .no, .no, .no, .no, .no] = .rt d ρ' ∧ R d ρ' by
      obtain ⟨d, ρ', h1, h2⟩ := h
      rw [hR] at h2
      obtain ⟨ρ'', q3, q4⟩ := h2
      subst q3 q4
      exact ⟨ρ'', h1⟩
    obtain ⟨I, hI⟩ : ∃ I : List ((Int × List D) × Int) → List Sl → Prop, I = fun xs ρ => ∃ done s5 s6, isFree (some s5) = true ∧ isFree (some s6) = true ∧ is.zip places = done ++ xs ∧ ρ = [.bor (deckD cs4), .val (.tup (is.map itD)), .val (.int step), .val (.int shift), .own (.lst (done.map fun x => prD (x.1.1, shift + step * x.2))), s5, s6] := ⟨_, rfl⟩
    have h0 : Hid (I (is.zip places) [.bor (deckD cs4), .val (.tup (is.map itD)), .val (.int step), .val (.int shift), .own (.lst []), .no, .no]) := ⟨by
      rw [hI]
      exact ⟨[], .no, .no, rfl, rfl, rfl, rfl⟩⟩
    have ez : ((is.map (·.1)).zip (places.map fun x => shift + step * x)).map prD = (is.zip places).map fun x => prD (x.1.1, shift + step * x.2) := by
      rw [List.zip_map, List.map_map]
      rfl
    have wI := Hid.mk hI
    have wR := Hid.mk hR
    have wl := Hid.mk hl
    have wb := Hid.mk pb
    have we := Hid.mk ez
    have ll : ((is.map itD).length : Int) = is.length := by rw [List.length_map]
    clear hI hR hl pb pn pm pl sb hs hw q2 hd d4 ez
    refine of_rtP ?_
    generalize hB : is.map itD = bb at *
    generalize hC : places.map D.int = cc at *
    unfold d_law_renamed
    have hsh2 : cs.tail.headD 0 * w = shift := hsh.symm
    clear hsh
    walk_at "ev"
    refine wO_for I h0.out ?_ ?_
    · intro x xs ρ h
      rw [wI.out] at h
      obtain ⟨done, s5, s6, f5, f6, hz, rfl⟩ := h
      have f5 := free_nb f5
      have f6 := free_nb f6
      have hx : x ∈ is.zip places := by rw [hz]; simp
      have hb := wb.out x.2 (List.of_mem_zip hx).2
      have m2 : mulOk step x.2 = true := mulOk_r (by have := wl.out; omega)
      have x0 : opIx (itD x.1) (.int 0) = some (.int x.1.1) := atI_0
      have el : (done.map fun x => prD (x.1.1, shift + step * x.2)).length ≤ 100000 := by
        have h1 := congrArg List.length hz
        rw [List.length_zip, List.length_append] at h1
        have := wl.out
        rw [List.length_map]
        omega
      have ea : (done.map fun x => prD (x.1.1, shift + step * x.2)) ++ [.tup [.int x.1.1, .int (shift + step * x.2)]] = (done ++ [x]).map fun x => prD (x.1.1, shift + step * x.2) := by
        rw [List.map_append]
        rfl
      have w3 : Hid (is.zip places = (done ++ [x]) ++ xs) := ⟨by rw [List.append_assoc]; exact hz⟩
      clear hz hx hb h0 z1 e4 n1 n2 n3 i1 i2 hB hC
      generalize hl0 : (done.map fun x => prD (x.1.1, shift + step * x.2)) = l0 at *
      generalize hl1 : ((done ++ [x]).map fun x => prD (x.1.1, shift + step * x.2)) = l1 at *
      walk_at "ev"
      rw [wI.out]
      exact ⟨done ++ [x], _, _, rfl, rfl, w3.out, by rw [hl1]⟩
    · intro ρ h
      rw [wI.out] at h
      obtain ⟨done, s5, s6, f5, f6, hz, rfl⟩ := h
      rw [List.append_nil] at hz
      have p1 : plainL (done.map fun x => prD (x.1.1, shift + step * x.2)) = true := plainL_prs
      have g : Hid (R (.tup (done.map fun x => prD (x.1.1, shift + step * x.2))) [.bor (deckD cs4), .val (.tup bb), .val (.int step), .val (.int shift), .own (.lst (done.map fun x => prD (x.1.1, shift + step * x.2))), s5, s6]) := ⟨by
        rw [wR.out]
        exact ⟨_, by rw [we.out, hz], rfl⟩⟩
      clear hz h0 z1 e4 n1 n2 n3 i1 i2 hB hC
      generalize (done.map fun x => prD (x.1.1, shift + step * x.2)) = l0 at *
      walk_at "ev"
      exact g.out
theorem naming_t {cs : List Int} {ps : List P2} {ts : List T4} (hd : Dk cs) (hp : ps.length ≤ 9) (ht : ts.length ≤ 9) : ∃ (as bs cs' : List Int) (ρ' : List Sl), Dk cs' ∧ as.length = ps.length ∧ bs.length = ts.length ∧ as.Nodup ∧ bs.Nodup ∧ (∀ a ∈ as, nameOk a) ∧ (∀ a ∈ bs, nameOk a) ∧ d_law_naming [.bor (deckD cs), .val (netD ps ts)] = .rt (nmD ps ts as bs) (.bor (deckD cs') :: ρ') := by
  obtain ⟨as, cs1, ρ1, d1, l1, n1, k1, e1⟩ := renamed_t (is := ps.map fun p => (p.1, [D.str p.2])) hd (by rw [List.length_map]; exact hp)
  obtain ⟨bs, cs2, ρ2, d2, l2, n2, k2, e2⟩ := renamed_t (is := ts.map fun t => (t.1, [D.str t.2.1, .int t.2.2.1, .int t.2.2.2])) d1 (by rw [List.length_map]; exact ht)
  rw [← pts_it, List.map_map] at e1
  rw [← ties_it, List.map_map] at e2
  rw [List.length_map] at l1 l2
  refine ⟨as, bs, cs2, [.val (netD ps ts)], d2, l1, l2, n1, n2, k1, k2, ?_⟩
  have x0 : opIx (netD ps ts) (.int 0) = some (.tup (ps.map ptD)) := rfl
  have x1 : opIx (netD ps ts) (.int 1) = some (.tup (ts.map tieD)) := rfl
  have e3 : nmD ps ts as bs = .tup [.tup (((ps.map (·.1)).zip as).map prD), .tup (((ts.map (·.1)).zip bs).map prD)] := rfl
  replace e1 : d_law_renamed [.bor (deckD cs), .val (.tup (ps.map ptD)), .no, .no, .no, .no, .no] = .rt (.tup (((ps.map (·.1)).zip as).map prD)) (.bor (deckD cs1) :: ρ1) := e1
  replace e2 : d_law_renamed [.bor (deckD cs1), .val (.tup (ts.map tieD)), .no, .no, .no, .no, .no] = .rt (.tup (((ts.map (·.1)).zip bs).map prD)) (.bor (deckD cs2) :: ρ2) := e2
  clear d1 d2 l1 l2 n1 n2 k1 k2 hd hp ht
  generalize netD ps ts = nn at *
  generalize ps.map ptD = zp at *
  generalize ts.map tieD = zt at *
  generalize List.map prD ((ps.map (·.1)).zip as) = z1 at *
  generalize List.map prD ((ts.map (·.1)).zip bs) = z2 at *
  unfold d_law_naming
  walk_at "ev"
end NT.Pure

set_option Elab.async false
set_option linter.all false
set_option maxRecDepth 100000
set_option maxHeartbeats 4000000
namespace NT.Pure
open PySem L2 NT NT.Den
local macro_rules | `(tactic| walk_at "ev") => `(tactic| simp (maxSteps := 100000000) only [iZip_ap, iDctN_ap, dctO_dK, gT_raw, rtb_rt, wO_nx, wO_rt, wO_rtN, wO_ex, stp_ap, sWhile_ap, wT_ok, sCalm_ap, iDct_ap, dctI_val, rtv_rt, rtvN_rtN, bnd_ok, bnd_ex, bnd_bad, bndO_ok, bndO_ex, bndO_bad, nxt_nx, nxt_rt, nxt_rtN, nxt_ex, nxt_bad, lft_some, mbind_ap, mpure_ap, lift_ap, eC_ap, rdV_val, eVar_ap, eBin_ap, eUn_ap, aNil_ap, aCons_ap, eFn_ap, eTup_ap, eLst_ap, tupO, lstO, tVal_ap, asB_bl, iteR_t, iteR_f, iteO_t, iteO_f, mAnd_ap, mOr_ap, mNot_ap, eAnd_ap, eOr_ap, eNot_ap, eChain_ap, vw_ok, vwN_ok, vwT_ok, eView_ap, eViewN_ap, tView_ap, sDo_ap, sSeq_ap, sSkip_ap, put_ap, sSet_ap, sSetN_ap, sRet_ap, sRetN_ap, sExpr_ap, sIf_ap, sRetO_ap, retO_own, sRaise_ap, sFor_ap, loop_nil, optO_some, sAsg_ap, iteS_t, gN_ap, gT_ap, gsNil_ap, bS_some, gsCons_ap, notBor_val, notBor_own, notBor_no, mineO_own, mineO_bor, with_own, with_bor, optR_some, mutAt_ap, eMut_ap, sPutAt_ap, outE_rt, outE_rtN, outE_nx, outE_ex, outN_rtN, outN_ex, eCall_ap, eCallN_ap, borO_bor, outO_rt, outO_rtN, outO_nx, outO_ex, outON_rtN, outON_ex, callO_ap, callON_ap, eCallO_ap, eCallON_ap, oHere_ap, oThere_ap, seqO_lst, seqO_tup, seqO_scr, iSeq_ap, sgnO_str, iSign_ap, iRange1_ap, iRange2_ap, eComp_ap, eSl_ap, oNone_ap, intO_int, oSome_ap, eGet2_ap, add_int, neg_int, mul_int, sub_int, lt_int, le_int, gt_int, ge_int, mod_int, fdiv_int, len_lst, len_tup, len_scr, len_str, ix_tup', ix_lst', tuple_lst, tuple_tup, list_lst, list_tup, append_lst, isLst_lst, isDct_dK, isDct_dT, is_bl, isNot_bl, plain_int, plain_str, plain_bl, plain_non, plain_tup, plainL_nil, plainL_cons, int_bl, int_int, viewS_val, viewS_own, viewS_bor, viewS_no, atI_0, atI_1, atI_2, atI_3, eq_int, ne_int, eq_bl, ne_bl, sl_tup,
  List.map_cons, List.map_nil, List.replicate_succ, List.replicate_zero, List.append_nil, List.nil_append, List.cons_append, List.length_cons, List.length_nil, List.getElem?_cons_zero, List.getElem?_cons_succ, List.set_cons_zero, List.set_cons_succ, Nat.reduceAdd, Nat.reduceLeDiff, Nat.reduceEqDiff, Int.reduceLT, Int.reduceLE, Int.reduceAdd, Int.reduceSub, Int.reduceNeg, Int.reduceBEq, cast_0, cast_1, cast_2, cast_3, cast_4, cast_5, cast_6, cast_7, cast_8, Int.reduceToNat, decide_true, decide_false, decide_eq_true_eq, if_true, if_false, ite_true, ite_false, reduceIte, Bool.and_true, Bool.true_and, Bool.and_false, Bool.false_and, Bool.or_false, Bool.false_or, Bool.or_true, Bool.true_or, Bool.not_true, Bool.not_false, eq_self, Bool.false_eq_true, and_true, true_and, beq_self_eq_true, Option.map_some, Option.bind_some, *])
/-! bent rows -/
theorem kd_int {i : Int} : kd (.int i) = true := by simp [kd]
theorem kd_bl {i : Bool} : kd (.bl i) = true := by simp [kd]
theorem kd_non : kd .non = true := by simp [kd]
theorem kd_tupL {ds : List D} (h : ∀ d ∈ ds, kd d = true) (hl : ds.length ≤ 100000) : kd (.tup ds) = true := by
  rw [kd, kdL_of h, decide_eq_true hl]
  rfl
theorem kd_lstL {ds : List D} (h : ∀ d ∈ ds, kd d = true) : kd (.lst ds) = true := by
  rw [kd, kdL_of h]
theorem kd_two {a b : D} (ha : kd a = true) (hb : kd b = true) : kd (.tup [a, b]) = true := kd_tupL (fun d hd => by
  simp only [List.mem_cons, List.not_mem_nil, or_false] at hd
  rcases hd with h | h <;> subst h <;> assumption) (by simp)
theorem kd_pr {p : Int × Int} : kd (prD p) = true := kd_two kd_int kd_int
theorem ix_mem {L : List D} {i : Int} (h0 : 0 ≤ i) (h : i < L.length) : ∃ x ∈ L, atI L i = some x := by
  have a1 : i.toNat < L.length := by omega
  exact ⟨L[i.toNat], List.getElem_mem a1, atI_some h0 (List.getElem?_eq_getElem a1)⟩
theorem ix_memT {L : List D} {i : Int} (h0 : 0 ≤ i) (h : i < L.length) : ∃ x ∈ L, opIx (.tup L) (.int i) = some x := by
  have a1 : i.toNat < L.length := by omega
  exact ⟨L[i.toNat], List.getElem_mem a1, atI_some h0 (List.getElem?_eq_getElem a1)⟩
theorem cut_mem {α : Type} {xs : List α} {lo hi : Option Int} {x : α} (h : x ∈ cutL xs lo hi) : x ∈ xs := by
  unfold cutL at h
  exact List.mem_of_mem_drop (List.mem_of_mem_take h)
theorem cut_len {α : Type} {xs : List α} {lo hi : Option Int} : (cutL xs lo hi).length ≤ xs.length := by
  unfold cutL
  rw [List.length_take, List.length_drop]
  omega
theorem fits_prs {n : Nat} : ∀ {ps : List (Int × Int)}, fits (n + 1) (ps.map prD) = true
  | [] => by rw [List.map_nil]; simp [fits]
  | p :: ps => by
    rw [List.map_cons]
    simp only [fits, Bool.and_eq_true]
    exact ⟨by simp [prD, fit, fits], fits_prs⟩
theorem eq_nilT {ps : List (Int × Int)} : opEq (.tup (ps.map prD)) (.tup []) = some (.bl ps.isEmpty) := by
  have h1 : fit 60 (.tup (ps.map prD)) = true := by
    show fits 59 _ = true
    exact fits_prs
  have h2 : fit 60 (.tup []) = true := by
    show fits 59 [] = true
    simp [fits]
  rw [opEq_fit h1 h2]
  cases ps with
  | nil => simp [eqD, eqDs]
  | cons x xs => simp [eqD, eqDs]
theorem str_ok {b : Int} (h : nameOk b) : opStr [.int b] = some (.str (toString b)) ∧ kd (.str (toString b)) = true := by
  have h1 : b.natAbs.log2 < 1920 := by
    by_cases z : b.natAbs = 0
    · rw [z]; decide
    · rw [Nat.log2_lt z]
      have : b.natAbs ≤ 1000000 := by have := h.1; have := h.2; omega
      exact Nat.lt_of_le_of_lt this (by decide)
  refine ⟨if_pos h1, ?_⟩
  rw [kd]
  refine decide_eq_true (Nat.le_trans (PyProof.Rows.toString_length_le (k := 7) h.1 (by decide) ?_) (by decide))
  have := h.2
  omega
theorem at_prs {ps : List (Int × Int)} {i : Int} (h0 : 0 ≤ i) (h : i < ps.length) : ∃ p ∈ ps, atI (ps.map prD) i = some (prD p) := by
  have a1 : i.toNat < ps.length := by omega
  exact ⟨ps[i.toNat], List.getElem_mem a1, atI_some h0 (by rw [List.getElem?_map, List.getElem?_eq_getElem a1]; rfl)⟩
def Bent (o : O) : Prop := ∃ d cs' ρ', Dk cs' ∧ kd d = true ∧ o = .rt d (.bor (deckD cs') :: ρ')
theorem set_prs {ps : List D} {i : Int} {v : D} (h0 : 0 ≤ i) (h : i < ps.length) : opSetIx (.lst ps) (.int i) v = some (.lst (ps.set i.toNat v)) := by
  show (ixN ps.length i).map _ = _
  unfold ixN
  rw [if_pos h0, if_pos h]
  rfl
theorem add_tup {xs ys : List D} (h : xs.length + ys.length ≤ 100000) : opAdd (.tup xs) (.tup ys) = some (.tup (xs ++ ys)) := if_pos h
theorem kd_mem2 {xs ys : List D} (h1 : ∀ d ∈ xs, kd d = true) (h2 : ∀ d ∈ ys, kd d = true) : ∀ d ∈ xs ++ ys, kd d = true := fun d hd => by
  rcases List.mem_append.mp hd with h | h
  · exact h1 d h
  · exact h2 d h
theorem bent_row_t {cs : List Int} {ps : List (Int × Int)} (hd : Dk cs) (hl : ps.length ≤ 9) (hn : ∀ p ∈ ps, nameOk p.1 ∧ nameOk p.2) : Bent (d_law_bent_row [.bor (deckD cs), .val (.tup (ps.map prD)), .no, .no, .no, .no, .no, .no]) := by
  have n1 := @next_t cs
  have n2 := @next_t cs.tail
  have n3 := @next_t cs.tail.tail
  have n4 := @next_t cs.tail.tail.tail
  have q1 := @eq_nilT ps
  cases hp : ps with
  | nil =>
    rw [hp] at q1
    replace q1 : opEq (.tup []) (.tup []) = some (.bl true) := q1
    obtain ⟨x, hx, e⟩ := ix_mem (L := [.tup [.tup [.int 0, .int 0]], .non, .lst [], .tup [.tup [.int 0]], .int 5, .tup [], .str "", .tup [.tup [], .tup []], .bl false]) (i := cs.headD 0 % 9) (by omega) (by simp; omega)
    have kx : kd x = true := by
      simp only [List.mem_cons, List.not_mem_nil, or_false] at hx
      rcases hx with h | h | h | h | h | h | h | h | h <;> subst h <;> first | (simp [kd, kdL]; done) | decide +kernel
    refine ⟨x, cs.tail, [.val (.tup []), .val (.int (cs.headD 0 % 9)), .no, .no, .no, .no, .no], hd.tl, kx, ?_⟩
    clear hx kx hd hn hl hp n2 n3 n4
    have e0 : List.map prD ([] : List (Int × Int)) = [] := rfl
    rw [e0]
    clear e0
    unfold d_law_bent_row
    walk_at "ev"
  | cons p0 rest =>
    have hne : (0 : Int) < ps.length := by rw [hp]; simp
    replace q1 : opEq (.tup (ps.map prD)) (.tup []) = some (.bl false) := by rw [q1, hp]; rfl
    rw [← hp]
    clear hp
    have ll : ((ps.map prD).length : Int) = ps.length := by rw [List.length_map]
    have lm : (ps.map prD).length ≤ 9 := by rw [List.length_map]; exact hl
    have kp : ∀ d ∈ ps.map prD, kd d = true := fun d hd => by
      obtain ⟨p, _, e⟩ := List.mem_map.mp hd
      rw [← e]
      exact kd_pr
    have b1 : 0 ≤ cs.tail.headD 0 % (ps.length : Int) := Int.emod_nonneg _ (by omega)
    have b2 : cs.tail.headD 0 % (ps.length : Int) < ps.length := Int.emod_lt_of_pos _ hne
    have b3 : 0 ≤ cs.tail.tail.headD 0 % (ps.length : Int) := Int.emod_nonneg _ (by omega)
    have b4 : cs.tail.tail.headD 0 % (ps.length : Int) < ps.length := Int.emod_lt_of_pos _ hne
    obtain ⟨p, hp1, a1⟩ := at_prs b1 b2
    obtain ⟨q, hq1, a2⟩ := at_prs b3 b4
    generalize hA1 : cs.tail.headD 0 % (ps.length : Int) = at1 at *
    generalize hA2 : cs.tail.tail.headD 0 % (ps.length : Int) = at2 at *
    have x1 : opIx (prD p) (.int 0) = some (.int p.1) := rfl
    have x2 : opIx (prD p) (.int 1) = some (.int p.2) := rfl
    have x3 : opIx (prD q) (.int 0) = some (.int q.1) := rfl
    have x4 : opIx (prD q) (.int 1) = some (.int q.2) := rfl
    have lp : opList [prD p] = some (.lst [.int p.1, .int p.2]) := rfl
    obtain ⟨sv, ks⟩ := str_ok (hn p hp1).2
    obtain ⟨L, hL⟩ : ∃ L : List D, L = [.tup [.int p.1, .int q.2], .tup [.int p.1, .int p.2, .int 0], .tup [.int (p.1 + 1), .int p.2], .tup [.int p.2, .int p.1], .lst [.int p.1, .int p.2], .tup [.bl true, .int p.2], .tup [.int p.1, .bl false], .tup [.int p.1, .int 1000001], .tup [.int p.1, .int (-1)], .tup [.int p.1, .str (toString p.2)], .non] := ⟨_, rfl⟩
    have kL : ∀ x ∈ L, kd x = true := by
      rw [hL]
      intro x hx
      simp only [List.mem_cons, List.not_mem_nil, or_false] at hx
      rcases hx with h | h | h | h | h | h | h | h | h | h | h <;> subst h <;> first | exact kd_two kd_int ks | (simp [kd, kdL]; done)
    have cL : opCat (.lst [.tup [.int p.1, .int q.2], .tup [.int p.1, .int p.2, .int 0], .tup [.int (p.1 + 1), .int p.2], .tup [.int p.2, .int p.1], .lst [.int p.1, .int p.2]]) (.lst [.tup [.bl true, .int p.2], .tup [.int p.1, .bl false], .tup [.int p.1, .int 1000001], .tup [.int p.1, .int (-1)], .tup [.int p.1, .str (toString p.2)], .non]) = some (.lst L) := by rw [hL]; rfl
    have lL : (L.length : Int) = 11 := by rw [hL]; rfl
    have hw : 0 ≤ cs.headD 0 % 9 ∧ cs.headD 0 % 9 < 9 := by omega
    have t1 := hd.tl.tl.tl
    have t2 := hd.tl.tl.tl.tl
    have e1' : ∀ i j : Int, opEq (.int i) (.int j) = some (.bl (i == j)) := fun i j => eq_int
    clear hL ks hd hp1 hq1
    generalize hW : cs.headD 0 % 9 = way at *
    by_cases w6 : way < 6
    · obtain ⟨x, hx, ex⟩ := ix_mem (L := L) (i := cs.tail.tail.tail.headD 0 % 11) (by omega) (by omega)
      have kx := kL x hx
      have s1 : opSl (.tup (ps.map prD)) none (some at1) = some (.tup (cutL (ps.map prD) none (some at1))) := rfl
      have s2 : opSl (.tup (ps.map prD)) (some (at1 + 1)) none = some (.tup (cutL (ps.map prD) (some (at1 + 1)) none)) := rfl
      have c1 := @cut_len D (ps.map prD) none (some at1)
      have c2 := @cut_len D (ps.map prD) (some (at1 + 1)) none
      have g1 : opAdd (.tup (cutL (ps.map prD) none (some at1))) (.tup [x]) = some (.tup (cutL (ps.map prD) none (some at1) ++ [x])) := add_tup (by simp; omega)
      have g2 : opAdd (.tup (cutL (ps.map prD) none (some at1) ++ [x])) (.tup (cutL (ps.map prD) (some (at1 + 1)) none)) = some (.tup (cutL (ps.map prD) none (some at1) ++ [x] ++ cutL (ps.map prD) (some (at1 + 1)) none)) := add_tup (by simp; omega)
      have kr : kd (.tup (cutL (ps.map prD) none (some at1) ++ [x] ++ cutL (ps.map prD) (some (at1 + 1)) none)) = true := kd_tupL (kd_mem2 (kd_mem2 (fun d h => kp d (cut_mem h)) (fun d h => by rw [List.mem_singleton] at h; rw [h]; exact kx)) fun d h => kp d (cut_mem h)) (by simp; omega)
      refine ⟨_, cs.tail.tail.tail.tail, [.val (.tup (ps.map prD)), .val (.int way), .val (.int at1), .val (.int at2), .val (prD p), .val (.lst L), .no], t2, kr, ?_⟩
      clear kr kL kp hx kx t1 t2 c1 c2 hw hn b1 b2 b3 b4 hl lm
      generalize hzp : List.map prD ps = zp at *
      generalize prD p = pp at *
      generalize prD q = qq at *
      unfold d_law_bent_row
      walk_at "ev"
    · by_cases w7 : way = 6
      · subst w7
        have lst1 : opList [.tup (ps.map prD)] = some (.lst (ps.map prD)) := rfl
        have u1 := set_prs (ps := ps.map prD) (i := at1) (v := .tup [.int p.1, .int q.2]) b1 (by rw [List.length_map]; exact b2)
        have u2 := set_prs (ps := (ps.map prD).set at1.toNat (.tup [.int p.1, .int q.2])) (i := at2) (v := .tup [.int q.1, .int p.2]) b3 (by rw [List.length_set, List.length_map]; exact b4)
        have eqs : ((ps.map prD).set at1.toNat (.tup [.int p.1, .int q.2])).set at2.toNat (.tup [.int q.1, .int p.2]) = ((ps.set at1.toNat (p.1, q.2)).set at2.toNat (q.1, p.2)).map prD := by
          rw [List.map_set, List.map_set]
          rfl
        have pl : plainL (((ps.set at1.toNat (p.1, q.2)).set at2.toNat (q.1, p.2)).map prD) = true := plainL_prs (f := id)
        have kr : kd (.tup (((ps.set at1.toNat (p.1, q.2)).set at2.toNat (q.1, p.2)).map prD)) = true := kd_tupL (fun d h => by
          obtain ⟨z, _, e⟩ := List.mem_map.mp h
          rw [← e]
          exact kd_pr) (by rw [List.length_map, List.length_set, List.length_set]; omega)
        rw [eqs] at u2
        refine ⟨_, cs.tail.tail.tail, [.val (.tup (ps.map prD)), .val (.int 6), .val (.int at1), .val (.int at2), .val (prD p), .val (.lst L), .own (.lst (((ps.set at1.toNat (p.1, q.2)).set at2.toNat (q.1, p.2)).map prD))], t1, kr, ?_⟩
        clear kr kL kp t1 t2 hw hn b1 b2 b3 b4 hl lm eqs n4
        generalize hzz : List.map prD ((ps.set at1.toNat (p.1, q.2)).set at2.toNat (q.1, p.2)) = zz at *
        generalize hyy : (ps.map prD).set at1.toNat (.tup [.int p.1, .int q.2]) = yy at *
        clear hyy hzz
        generalize hzp : List.map prD ps = zp at *
        generalize prD p = pp at *
        generalize prD q = qq at *
        unfold d_law_bent_row
        walk_at "ev"
      · by_cases w8 : way = 7
        · subst w8
          have s1 : opSl (.tup (ps.map prD)) none (some at1) = some (.tup (cutL (ps.map prD) none (some at1))) := rfl
          have s2 : opSl (.tup (ps.map prD)) (some (at1 + 1)) none = some (.tup (cutL (ps.map prD) (some (at1 + 1)) none)) := rfl
          have c1 := @cut_len D (ps.map prD) none (some at1)
          have c2 := @cut_len D (ps.map prD) (some (at1 + 1)) none
          have g1 : opAdd (.tup (cutL (ps.map prD) none (some at1))) (.tup (cutL (ps.map prD) (some (at1 + 1)) none)) = some (.tup (cutL (ps.map prD) none (some at1) ++ cutL (ps.map prD) (some (at1 + 1)) none)) := add_tup (by omega)
          have g2 : opAdd (.tup (ps.map prD)) (.tup [prD p]) = some (.tup (ps.map prD ++ [prD p])) := add_tup (by simp; omega)
          have g3 : opRev (.tup (ps.map prD)) = some (.tup (ps.map prD).reverse) := rfl
          obtain ⟨x, hx, ex⟩ := ix_mem (L := [.tup (cutL (ps.map prD) none (some at1) ++ cutL (ps.map prD) (some (at1 + 1)) none), .tup (ps.map prD ++ [prD p]), .tup (ps.map prD).reverse]) (i := cs.tail.tail.tail.headD 0 % 3) (by omega) (by simp; omega)
          have kx : kd x = true := by
            simp only [List.mem_cons, List.not_mem_nil, or_false] at hx
            rcases hx with h | h | h <;> subst h
            · exact kd_tupL (kd_mem2 (fun d h => kp d (cut_mem h)) fun d h => kp d (cut_mem h)) (by simp; omega)
            · exact kd_tupL (kd_mem2 kp fun d h => by rw [List.mem_singleton] at h; rw [h]; exact kd_pr) (by simp; omega)
            · exact kd_tupL (fun d h => kp d (List.mem_reverse.mp h)) (by simp; omega)
          refine ⟨x, cs.tail.tail.tail.tail, [.val (.tup (ps.map prD)), .val (.int 7), .val (.int at1), .val (.int at2), .val (prD p), .val (.lst L), .no], t2, kx, ?_⟩
          clear kx kL kp hx t1 t2 c1 c2 hw hn b1 b2 b3 b4 hl lm
          generalize hzp : List.map prD ps = zp at *
          generalize prD p = pp at *
          generalize prD q = qq at *
          unfold d_law_bent_row
          walk_at "ev"
        · have w9 : way = 8 := by omega
          subst w9
          have lst1 : opList [.tup (ps.map prD)] = some (.lst (ps.map prD)) := rfl
          obtain ⟨x, hx, ex⟩ := ix_mem (L := [.lst (ps.map prD), .non, .int 7, .str "x", .tup []]) (i := cs.tail.tail.tail.headD 0 % 5) (by omega) (by simp; omega)
          have kx : kd x = true := by
            simp only [List.mem_cons, List.not_mem_nil, or_false] at hx
            rcases hx with h | h | h | h | h <;> subst h <;> first | exact kd_lstL kp | (simp [kd, kdL]; done) | decide +kernel
          refine ⟨x, cs.tail.tail.tail.tail, [.val (.tup (ps.map prD)), .val (.int 8), .val (.int at1), .val (.int at2), .val (prD p), .val (.lst L), .no], t2, kx, ?_⟩
          clear kx kL kp hx t1 t2 hw hn b1 b2 b3 b4 hl lm
          generalize hzp : List.map prD ps = zp at *
          generalize prD p = pp at *
          generalize prD q = qq at *
          unfold d_law_bent_row
          walk_at "ev"
end NT.Pure

set_option Elab.async false
set_option linter.all false
set_option maxRecDepth 100000
set_option maxHeartbeats 4000000
namespace NT.Pure
open PySem L2 NT NT.Den
local macro_rules | `(tactic| walk_at "ev") => `(tactic| simp (maxSteps := 100000000) only [iZip_ap, iDctN_ap, dctO_dK, gT_raw, rtb_rt, wO_nx, wO_rt, wO_rtN, wO_ex, stp_ap, sWhile_ap, wT_ok, sCalm_ap, iDct_ap, dctI_val, rtv_rt, rtvN_rtN, bnd_ok, bnd_ex, bnd_bad, bndO_ok, bndO_ex, bndO_bad, nxt_nx, nxt_rt, nxt_rtN, nxt_ex, nxt_bad, lft_some, mbind_ap, mpure_ap, lift_ap, eC_ap, rdV_val, eVar_ap, eBin_ap, eUn_ap, aNil_ap, aCons_ap, eFn_ap, eTup_ap, eLst_ap, tupO, lstO, tVal_ap, asB_bl, iteR_t, iteR_f, iteO_t, iteO_f, mAnd_ap, mOr_ap, mNot_ap, eAnd_ap, eOr_ap, eNot_ap, eChain_ap, vw_ok, vwN_ok, vwT_ok, eView_ap, eViewN_ap, tView_ap, sDo_ap, sSeq_ap, sSkip_ap, put_ap, sSet_ap, sSetN_ap, sRet_ap, sRetN_ap, sExpr_ap, sIf_ap, sRetO_ap, retO_own, sRaise_ap, sFor_ap, loop_nil, optO_some, sAsg_ap, iteS_t, gN_ap, gT_ap, gsNil_ap, bS_some, gsCons_ap, notBor_val, notBor_own, notBor_no, mineO_own, mineO_bor, with_own, with_bor, optR_some, mutAt_ap, eMut_ap, sPutAt_ap, outE_rt, outE_rtN, outE_nx, outE_ex, outN_rtN, outN_ex, eCall_ap, eCallN_ap, borO_bor, outO_rt, outO_rtN, outO_nx, outO_ex, outON_rtN, outON_ex, callO_ap, callON_ap, eCallO_ap, eCallON_ap, oHere_ap, oThere_ap, seqO_lst, seqO_tup, seqO_scr, iSeq_ap, sgnO_str, iSign_ap, iRange1_ap, iRange2_ap, eComp_ap, eSl_ap, oNone_ap, intO_int, oSome_ap, eGet2_ap, add_int, neg_int, mul_int, sub_int, lt_int, le_int, gt_int, ge_int, mod_int, fdiv_int, len_lst, len_tup, len_scr, len_str, ix_tup', ix_lst', tuple_lst, tuple_tup, list_lst, list_tup, append_lst, isLst_lst, isDct_dK, isDct_dT, is_bl, isNot_bl, plain_int, plain_str, plain_bl, plain_non, plain_tup, plainL_nil, plainL_cons, int_bl, int_int, viewS_val, viewS_own, viewS_bor, viewS_no, atI_0, atI_1, atI_2, atI_3, eq_int, ne_int, eq_bl, ne_bl, sl_tup,
  List.map_cons, List.map_nil, List.replicate_succ, List.replicate_zero, List.append_nil, List.nil_append, List.cons_append, List.length_cons, List.length_nil, List.getElem?_cons_zero, List.getElem?_cons_succ, List.set_cons_zero, List.set_cons_succ, Nat.reduceAdd, Nat.reduceLeDiff, Nat.reduceEqDiff, Int.reduceLT, Int.reduceLE, Int.reduceAdd, Int.reduceSub, Int.reduceNeg, Int.reduceBEq, cast_0, cast_1, cast_2, cast_3, cast_4, cast_5, cast_6, cast_7, cast_8, Int.reduceToNat, decide_true, decide_false, decide_eq_true_eq, if_true, if_false, ite_true, ite_false, reduceIte, Bool.and_true, Bool.true_and, Bool.and_false, Bool.false_and, Bool.or_false, Bool.false_or, Bool.or_true, Bool.true_or, Bool.not_true, Bool.not_false, eq_self, Bool.false_eq_true, and_true, true_and, beq_self_eq_true, Option.map_some, Option.bind_some, *])
/-! bent namings -/
structure Rows (ps : List P2) (ts : List T4) (as bs : List Int) : Prop where
  l1 : ps.length ≤ 9
  l2 : ts.length ≤ 9
  k1 : ∀ p ∈ ps, nameOk p.1
  k2 : ∀ t ∈ ts, nameOk t.1
  k3 : ∀ b ∈ as, nameOk b
  k4 : ∀ b ∈ bs, nameOk b
theorem zip_ok {ns bs : List Int} (h1 : ∀ n ∈ ns, nameOk n) (h2 : ∀ b ∈ bs, nameOk b) : ∀ p ∈ ns.zip bs, nameOk p.1 ∧ nameOk p.2 := fun p hp => by
  have := List.of_mem_zip hp
  exact ⟨h1 _ this.1, h2 _ this.2⟩
theorem kd_row {ps : List (Int × Int)} (h : ps.length ≤ 9) : kd (.tup (ps.map prD)) = true := kd_tupL (fun d hd => by
  obtain ⟨p, _, e⟩ := List.mem_map.mp hd
  rw [← e]
  exact kd_pr) (by rw [List.length_map]; omega)
theorem bent_t {cs : List Int} {ps : List P2} {ts : List T4} {as bs : List Int} (hd : Dk cs) (w : Rows ps ts as bs) : Bent (d_law_bent [.bor (deckD cs), .val (nmD ps ts as bs), .no]) := by
  have n1 := @next_t cs
  have n2 := @next_t cs.tail
  obtain ⟨r1, hr1⟩ : ∃ r1, r1 = (ps.map (·.1)).zip as := ⟨_, rfl⟩
  obtain ⟨r2, hr2⟩ : ∃ r2, r2 = (ts.map (·.1)).zip bs := ⟨_, rfl⟩
  have o1 : ∀ p ∈ r1, nameOk p.1 ∧ nameOk p.2 := by
    rw [hr1]
    exact zip_ok (fun n hn => by obtain ⟨p, hp, e⟩ := List.mem_map.mp hn; rw [← e]; exact w.k1 p hp) w.k3
  have o2 : ∀ p ∈ r2, nameOk p.1 ∧ nameOk p.2 := by
    rw [hr2]
    exact zip_ok (fun n hn => by obtain ⟨p, hp, e⟩ := List.mem_map.mp hn; rw [← e]; exact w.k2 p hp) w.k4
  have l1 : r1.length ≤ 9 := by rw [hr1, List.length_zip, List.length_map]; have := w.l1; omega
  have l2 : r2.length ≤ 9 := by rw [hr2, List.length_zip, List.length_map]; have := w.l2; omega
  have e0 : nmD ps ts as bs = .tup [.tup (r1.map prD), .tup (r2.map prD)] := by rw [hr1, hr2]; rfl
  rw [e0]
  have kr1 := kd_row l1
  have kr2 := kd_row l2
  have hw : 0 ≤ cs.headD 0 % 12 ∧ cs.headD 0 % 12 < 12 := by omega
  have t1 := hd.tl
  have t2 := hd.tl.tl
  clear hr1 hr2 w e0
  generalize hW : cs.headD 0 % 12 = way at *
  by_cases w5 : way < 5
  · obtain ⟨d, cs', ρ', d1, d2, d3⟩ := bent_row_t (cs := cs.tail) (ps := r1) t1 l1 o1
    refine ⟨.tup [d, .tup (r2.map prD)], cs', [.val (.tup [.tup (r1.map prD), .tup (r2.map prD)]), .val (.int way)], d1, kd_two d2 kr2, ?_⟩
    clear d1 d2 o1 o2 l1 l2 kr1 kr2 hw t1 t2 hd n2
    generalize r1.map prD = z1 at *
    generalize r2.map prD = z2 at *
    unfold d_law_bent
    walk_at "ev"
  · by_cases w10 : way < 10
    · obtain ⟨d, cs', ρ', d1, d2, d3⟩ := bent_row_t (cs := cs.tail) (ps := r2) t1 l2 o2
      refine ⟨.tup [.tup (r1.map prD), d], cs', [.val (.tup [.tup (r1.map prD), .tup (r2.map prD)]), .val (.int way)], d1, kd_two kr1 d2, ?_⟩
      clear d1 d2 o1 o2 l1 l2 kr1 kr2 hw t1 t2 hd n2
      generalize r1.map prD = z1 at *
      generalize r2.map prD = z2 at *
      unfold d_law_bent
      walk_at "ev"
    · have s1 : cutL [D.tup (r1.map prD), .tup (r2.map prD)] none (some 1) = [.tup (r1.map prD)] := by rw [cut_to (by omega)]; rfl
      have g1 : opAdd (.tup [D.tup (r1.map prD), .tup (r2.map prD)]) (.tup [.tup []]) = some (.tup [.tup (r1.map prD), .tup (r2.map prD), .tup []]) := rfl
      obtain ⟨x, hx, ex⟩ := ix_mem (L := [.tup [.tup (r1.map prD)], .tup [.tup (r1.map prD), .tup (r2.map prD), .tup []], .lst [.tup (r1.map prD), .tup (r2.map prD)], .non, .tup [.tup (r2.map prD), .tup (r1.map prD)], .str "", .int 3]) (i := cs.tail.headD 0 % 7) (by omega) (by simp; omega)
      have kx : kd x = true := by
        simp only [List.mem_cons, List.not_mem_nil, or_false] at hx
        rcases hx with h | h | h | h | h | h | h <;> subst h
        · exact kd_tupL (fun d h => by rw [List.mem_singleton] at h; rw [h]; exact kr1) (by simp)
        · refine kd_tupL (fun d h => ?_) (by simp)
          simp only [List.mem_cons, List.not_mem_nil, or_false] at h
          rcases h with h | h | h <;> subst h
          · exact kr1
          · exact kr2
          · simp [kd, kdL]
        · refine kd_lstL fun d h => ?_
          simp only [List.mem_cons, List.not_mem_nil, or_false] at h
          rcases h with h | h <;> subst h
          · exact kr1
          · exact kr2
        · exact kd_non
        · exact kd_two kr2 kr1
        · decide +kernel
        · exact kd_int
      refine ⟨x, cs.tail.tail, [.val (.tup [.tup (r1.map prD), .tup (r2.map prD)]), .val (.int way)], t2, kx, ?_⟩
      clear hx kx o1 o2 l1 l2 kr1 kr2 hw t1 t2 hd
      generalize r1.map prD = z1 at *
      generalize r2.map prD = z2 at *
      unfold d_law_bent
      walk_at "ev"
/-! changed nets -/
theorem abc_ix {i : Int} (h : 0 ≤ i ∧ i < 3) : ∃ x : Str, PyData.strOk x = true ∧ opIx (.str "abc") (.int i) = some (.str x) := by
  have h1 : i = 0 ∨ i = 1 ∨ i = 2 := by omega
  rcases h1 with h1 | h1 | h1 <;> subst h1
  · exact ⟨"a", by decide +kernel, rfl⟩
  · exact ⟨"b", by decide +kernel, rfl⟩
  · exact ⟨"c", by decide +kernel, rfl⟩
theorem efg_ix {i : Int} (h : 0 ≤ i ∧ i < 3) : ∃ x : Str, PyData.strOk x = true ∧ opIx (.str "efg") (.int i) = some (.str x) := by
  have h1 : i = 0 ∨ i = 1 ∨ i = 2 := by omega
  rcases h1 with h1 | h1 | h1 <;> subst h1
  · exact ⟨"e", by decide +kernel, rfl⟩
  · exact ⟨"f", by decide +kernel, rfl⟩
  · exact ⟨"g", by decide +kernel, rfl⟩
theorem eq_nilTies {ts : List T4} (st : ∀ t ∈ ts, PyData.strOk t.2.1 = true) : opEq (.lst (ts.map tieD)) (.lst []) = some (.bl ts.isEmpty) := by
  have h1 : fit 60 (.lst (ts.map tieD)) = true := by
    show fits 59 _ = true
    exact fits_ties st
  have h2 : fit 60 (.lst []) = true := by
    show fits 59 [] = true
    simp [fits]
  rw [opEq_fit h1 h2]
  cases ts with
  | nil => simp [eqD, eqDs]
  | cons x xs => simp [eqD, eqDs]
theorem mem_set {α : Type} {xs : List α} {i : Nat} {a x : α} (h : x ∈ xs.set i a) : x ∈ xs ∨ x = a := List.mem_or_eq_of_mem_set h
def Chg (o : O) : Prop := ∃ X cs' ρ', Dk cs' ∧ fit 60 X = true ∧ o = .rt X (.bor (deckD cs') :: ρ')
theorem changed_t {cs : List Int} {ps : List P2} {ts : List T4} (hd : Dk cs) (lp : 1 ≤ ps.length ∧ ps.length ≤ 1000) (lt : ts.length ≤ 1000) (sp : ∀ p ∈ ps, PyData.strOk p.2 = true) (st : ∀ t ∈ ts, PyData.strOk t.2.1 = true) : Chg (d_law_changed [.bor (deckD cs), .val (netD ps ts), .no, .no, .no, .no, .no, .no, .no, .no, .no]) := by
  have n1 := @next_t cs
  have n2 := @next_t cs.tail
  have n3 := @next_t cs.tail.tail
  have n4 := @next_t cs.tail.tail.tail
  have x0 : opIx (netD ps ts) (.int 0) = some (.tup (ps.map ptD)) := rfl
  have x1 : opIx (netD ps ts) (.int 1) = some (.tup (ts.map tieD)) := rfl
  have q1 := eq_nilTies st
  have lq : (0 : Int) < ps.length := by omega
  have llp : ((ps.map ptD).length : Int) = ps.length := by rw [List.length_map]
  have llt : ((ts.map tieD).length : Int) = ts.length := by rw [List.length_map]
  have b1 : 0 ≤ cs.tail.headD 0 % (ps.length : Int) := Int.emod_nonneg _ (by omega)
  have b2 : cs.tail.headD 0 % (ps.length : Int) < ps.length := Int.emod_lt_of_pos _ lq
  have hw : 0 ≤ cs.headD 0 % 4 ∧ cs.headD 0 % 4 < 4 := by omega
  have t3 := hd.tl.tl.tl
  have t4 := hd.tl.tl.tl.tl
  have e1' : ∀ i j : Int, opEq (.int i) (.int j) = some (.bl (i == j)) := fun i j => eq_int
  have pl1 : plainL (ts.map tieD) = true := plainL_ties
  have pl2 : plainL (ps.map ptD) = true := plainL_pts
  clear hd
  generalize hA : cs.tail.headD 0 % (ps.length : Int) = at1 at *
  generalize hW : cs.headD 0 % 4 = way at *
  by_cases hc : way = 0 ∨ ts = []
  · have hc2 : (way == 0) = true ∨ (way == 0) = false ∧ ts.isEmpty = true := by
      by_cases z : way = 0
      · left; simpa using z
      · right
        refine ⟨by simpa using z, ?_⟩
        rcases hc with h | h
        · exact absurd h z
        · rw [h]; rfl
    obtain ⟨p, hp1, a1⟩ := at_pts b1 b2
    obtain ⟨x, sx, e2⟩ := abc_ix (i := cs.tail.tail.headD 0 % 3) (by omega)
    have pp := @plain_pt p
    have y0 : opIx (ptD p) (.int 0) = some (.int p.1) := rfl
    have u1 := set_prs (ps := ps.map ptD) (i := at1) (v := .tup [.int p.1, .str x]) b1 (by rw [List.length_map]; exact b2)
    have eqs : (ps.map ptD).set at1.toNat (.tup [.int p.1, .str x]) = (ps.set at1.toNat (p.1, x)).map ptD := by
      rw [List.map_set]
      rfl
    rw [eqs] at u1
    have pl3 : plainL ((ps.set at1.toNat (p.1, x)).map ptD) = true := plainL_pts
    have fx : fit 60 (.tup [.tup ((ps.set at1.toNat (p.1, x)).map ptD), .tup (ts.map tieD)]) = true := fit_net (fun q hq => by
      rcases mem_set hq with h | h
      · exact sp q h
      · rw [h]; exact sx) st
    refine ⟨_, cs.tail.tail.tail, [.val (netD ps ts), .own (.lst ((ps.set at1.toNat (p.1, x)).map ptD)), .own (.lst (ts.map tieD)), .val (.int way), .val (.int at1), .no, .no, .no, .no, .no], t3, fx, ?_⟩
    clear fx sp st t3 t4 hw b1 b2 hp1 sx eqs hc lp lt n4
    generalize netD ps ts = nn at *
    generalize List.map ptD (ps.set at1.toNat (p.1, x)) = z3 at *
    generalize List.map ptD ps = z1 at *
    generalize List.map tieD ts = z2 at *
    generalize ptD p = zp at *
    unfold d_law_changed
    rcases hc2 with hc2 | ⟨hc2, hc3⟩ <;> walk_at "ev"
  · have h0 : (way == 0) = false := by
      rw [beq_eq_false_iff_ne]
      exact fun z => hc (.inl z)
    have hne : ts.isEmpty = false := by
      cases ts with
      | nil => exact absurd (.inr rfl) hc
      | cons _ _ => rfl
    have lpos : (0 : Int) < ts.length := by
      cases ts with
      | nil => cases hne
      | cons _ _ => simp
    rw [hne] at q1
    have b3 : 0 ≤ cs.tail.tail.headD 0 % (ts.length : Int) := Int.emod_nonneg _ (by omega)
    have b4 : cs.tail.tail.headD 0 % (ts.length : Int) < ts.length := Int.emod_lt_of_pos _ lpos
    generalize hS : cs.tail.tail.headD 0 % (ts.length : Int) = spot at *
    have sn : spot.toNat < ts.length := by omega
    obtain ⟨t, ht1, ht⟩ : ∃ t, t ∈ ts ∧ ts[spot.toNat]? = some t := ⟨ts[spot.toNat], List.getElem_mem sn, List.getElem?_eq_getElem sn⟩
    have a1 : atI (ts.map tieD) spot = some (.tup [.int t.1, .str t.2.1, .int t.2.2.1, .int t.2.2.2]) := atI_some b3 (by rw [List.getElem?_map, ht]; rfl)
    have done : ∀ (us : List T4), (∀ t ∈ us, PyData.strOk t.2.1 = true) → Hid (fit 60 (.tup [.tup (ps.map ptD), .tup (us.map tieD)]) = true) ∧ Hid (plainL (us.map tieD) = true) := fun us hu => ⟨⟨fit_net sp hu⟩, ⟨plainL_ties⟩⟩
    by_cases w1 : way = 1
    · subst w1
      obtain ⟨x, sx, e2⟩ := efg_ix (i := cs.tail.tail.tail.headD 0 % 3) (by omega)
      have u1 := set_prs (ps := ts.map tieD) (i := spot) (v := .tup [.int t.1, .str x, .int t.2.2.1, .int t.2.2.2]) b3 (by rw [List.length_map]; exact b4)
      have eqs : (ts.map tieD).set spot.toNat (.tup [.int t.1, .str x, .int t.2.2.1, .int t.2.2.2]) = (ts.set spot.toNat (t.1, x, t.2.2.1, t.2.2.2)).map tieD := by
        rw [List.map_set]
        rfl
      rw [eqs] at u1
      obtain ⟨f1, f2⟩ := done (ts.set spot.toNat (t.1, x, t.2.2.1, t.2.2.2)) (fun q hq => by
        rcases mem_set hq with h | h
        · exact st q h
        · rw [h]; exact sx)
      have f2 := f2.out
      refine ⟨_, cs.tail.tail.tail.tail, [.val (netD ps ts), .own (.lst (ps.map ptD)), .own (.lst ((ts.set spot.toNat (t.1, x, t.2.2.1, t.2.2.2)).map tieD)), .val (.int 1), .val (.int at1), .val (.int spot), .val (.int t.1), .val (.str t.2.1), .val (.int t.2.2.1), .val (.int t.2.2.2)], t4, f1.out, ?_⟩
      clear f1 done sp st t3 t4 hw b1 b2 b3 b4 ht ht1 sx eqs hc lp lt sn hne
      generalize netD ps ts = nn at *
      generalize List.map tieD (ts.set spot.toNat (t.1, x, t.2.2.1, t.2.2.2)) = z3 at *
      generalize List.map ptD ps = z1 at *
      generalize List.map tieD ts = z2 at *
      unfold d_law_changed
      walk_at "ev"
    · have g1 : (way == 1) = false := by simpa using w1
      by_cases w2 : way = 2
      · subst w2
        have u1 := set_prs (ps := ts.map tieD) (i := spot) (v := .tup [.int t.1, .str t.2.1, .int t.2.2.2, .int t.2.2.1]) b3 (by rw [List.length_map]; exact b4)
        have eqs : (ts.map tieD).set spot.toNat (.tup [.int t.1, .str t.2.1, .int t.2.2.2, .int t.2.2.1]) = (ts.set spot.toNat (t.1, t.2.1, t.2.2.2, t.2.2.1)).map tieD := by
          rw [List.map_set]
          rfl
        rw [eqs] at u1
        obtain ⟨f1, f2⟩ := done (ts.set spot.toNat (t.1, t.2.1, t.2.2.2, t.2.2.1)) (fun q hq => by
          rcases mem_set hq with h | h
          · exact st q h
          · rw [h]; exact st t ht1)
        have f2 := f2.out
        refine ⟨_, cs.tail.tail.tail, [.val (netD ps ts), .own (.lst (ps.map ptD)), .own (.lst ((ts.set spot.toNat (t.1, t.2.1, t.2.2.2, t.2.2.1)).map tieD)), .val (.int 2), .val (.int at1), .val (.int spot), .val (.int t.1), .val (.str t.2.1), .val (.int t.2.2.1), .val (.int t.2.2.2)], t3, f1.out, ?_⟩
        clear f1 done sp st t3 t4 hw b1 b2 b3 b4 ht ht1 eqs hc lp lt sn hne n4
        generalize netD ps ts = nn at *
        generalize List.map tieD (ts.set spot.toNat (t.1, t.2.1, t.2.2.2, t.2.2.1)) = z3 at *
        generalize List.map ptD ps = z1 at *
        generalize List.map tieD ts = z2 at *
        unfold d_law_changed
        walk_at "ev"
      · have g2 : (way == 2) = false := by simpa using w2
        have po := popAt_ok (ds := ts.map tieD) (i := spot) (d := tieD t) b3 (by omega) (by rw [List.getElem?_map, ht]; rfl)
        have eqs : (ts.map tieD).eraseIdx spot.toNat = (ts.eraseIdx spot.toNat).map tieD := by
          rw [List.eraseIdx_eq_take_drop_succ, List.eraseIdx_eq_take_drop_succ, List.map_append, List.map_take, List.map_drop]
        rw [eqs] at po
        obtain ⟨f1, f2⟩ := done (ts.eraseIdx spot.toNat) (fun q hq => st q (List.mem_of_mem_eraseIdx hq))
        have f2 := f2.out
        refine ⟨_, cs.tail.tail.tail, [.val (netD ps ts), .own (.lst (ps.map ptD)), .own (.lst ((ts.eraseIdx spot.toNat).map tieD)), .val (.int way), .val (.int at1), .val (.int spot), .val (.int t.1), .val (.str t.2.1), .val (.int t.2.2.1), .val (.int t.2.2.2)], t3, f1.out, ?_⟩
        clear f1 done sp st t3 t4 hw b1 b2 b3 b4 ht ht1 eqs hc lp lt sn hne n4
        generalize netD ps ts = nn at *
        generalize List.map tieD (ts.eraseIdx spot.toNat) = z3 at *
        generalize List.map ptD ps = z1 at *
        generalize List.map tieD ts = z2 at *
        generalize tieD t = zt at *
        unfold d_law_changed
        walk_at "ev"
end NT.Pure

set_option Elab.async false
set_option linter.all false
set_option maxRecDepth 100000
set_option maxHeartbeats 4000000
namespace NT.Pure
open PySem L2 NT NT.Den
local macro_rules | `(tactic| walk_at "ev") => `(tactic| simp (maxSteps := 100000000) only [iZip_ap, iDctN_ap, dctO_dK, gT_raw, rtb_rt, wO_nx, wO_rt, wO_rtN, wO_ex, stp_ap, sWhile_ap, wT_ok, sCalm_ap, iDct_ap, dctI_val, rtv_rt, rtvN_rtN, bnd_ok, bnd_ex, bnd_bad, bndO_ok, bndO_ex, bndO_bad, nxt_nx, nxt_rt, nxt_rtN, nxt_ex, nxt_bad, lft_some, mbind_ap, mpure_ap, lift_ap, eC_ap, rdV_val, eVar_ap, eBin_ap, eUn_ap, aNil_ap, aCons_ap, eFn_ap, eTup_ap, eLst_ap, tupO, lstO, tVal_ap, asB_bl, iteR_t, iteR_f, iteO_t, iteO_f, mAnd_ap, mOr_ap, mNot_ap, eAnd_ap, eOr_ap, eNot_ap, eChain_ap, vw_ok, vwN_ok, vwT_ok, eView_ap, eViewN_ap, tView_ap, sDo_ap, sSeq_ap, sSkip_ap, put_ap, sSet_ap, sSetN_ap, sRet_ap, sRetN_ap, sExpr_ap, sIf_ap, sRetO_ap, retO_own, sRaise_ap, sFor_ap, loop_nil, optO_some, sAsg_ap, iteS_t, gN_ap, gT_ap, gsNil_ap, bS_some, gsCons_ap, notBor_val, notBor_own, notBor_no, mineO_own, mineO_bor, with_own, with_bor, optR_some, mutAt_ap, eMut_ap, sPutAt_ap, outE_rt, outE_rtN, outE_nx, outE_ex, outN_rtN, outN_ex, eCall_ap, eCallN_ap, borO_bor, outO_rt, outO_rtN, outO_nx, outO_ex, outON_rtN, outON_ex, callO_ap, callON_ap, eCallO_ap, eCallON_ap, oHere_ap, oThere_ap, seqO_lst, seqO_tup, seqO_scr, iSeq_ap, sgnO_str, iSign_ap, iRange1_ap, iRange2_ap, eComp_ap, eSl_ap, oNone_ap, intO_int, oSome_ap, eGet2_ap, add_int, neg_int, mul_int, sub_int, lt_int, le_int, gt_int, ge_int, mod_int, fdiv_int, len_lst, len_tup, len_scr, len_str, ix_tup', ix_lst', tuple_lst, tuple_tup, list_lst, list_tup, append_lst, isLst_lst, isDct_dK, isDct_dT, is_bl, isNot_bl, plain_int, plain_str, plain_bl, plain_non, plain_tup, plainL_nil, plainL_cons, int_bl, int_int, viewS_val, viewS_own, viewS_bor, viewS_no, atI_0, atI_1, atI_2, atI_3, eq_int, ne_int, eq_bl, ne_bl, sl_tup,
  List.map_cons, List.map_nil, List.replicate_succ, List.replicate_zero, List.append_nil, List.nil_append, List.cons_append, List.length_cons, List.length_nil, List.getElem?_cons_zero, List.getElem?_cons_succ, List.set_cons_zero, List.set_cons_succ, Nat.reduceAdd, Nat.reduceLeDiff, Nat.reduceEqDiff, Int.reduceLT, Int.reduceLE, Int.reduceAdd, Int.reduceSub, Int.reduceNeg, Int.reduceBEq, cast_0, cast_1, cast_2, cast_3, cast_4, cast_5, cast_6, cast_7, cast_8, Int.reduceToNat, decide_true, decide_false, decide_eq_true_eq, if_true, if_false, ite_true, ite_false, reduceIte, Bool.and_true, Bool.true_and, Bool.and_false, Bool.false_and, Bool.or_false, Bool.false_or, Bool.or_true, Bool.true_or, Bool.not_true, Bool.not_false, eq_self, Bool.false_eq_true, and_true, true_and, beq_self_eq_true, Option.map_some, Option.bind_some, *])
theorem check_t {ps : List P2} {ts : List T4} (g : Good ps ts) : d_check [.val (netD ps ts)] = .rt (.bl true) [.val (netD ps ts)] := by
  obtain ⟨ρ1, h1⟩ := is_net_t g
  clear g
  unfold d_check
  walk_at "ev"
/-! law k27 -/
mutual
theorem eqD_self : ∀ (n : Nat) (d : D), fit n d = true → eqD d d = true
  | _, .non, _ => rfl
  | _, .bl b, _ => by simp [eqD]
  | _, .int i, _ => by simp [eqD]
  | _, .str x, _ => by simp [eqD]
  | 0, .tup _, h => by simp [fit] at h
  | 0, .lst _, h => by simp [fit] at h
  | n + 1, .tup ds, h => by simp only [eqD]; exact eqDs_self n ds (by simpa [fit] using h)
  | n + 1, .lst ds, h => by simp only [eqD]; exact eqDs_self n ds (by simpa [fit] using h)
  | _, .scr _, h => by simp [fit] at h
  | _, .dK _, h => by simp [fit] at h
  | _, .dT _, h => by simp [fit] at h
  | _, .exn _, h => by simp [fit] at h
  | _, .raw _, h => by simp [fit] at h
  | _, .obj _ _, h => by simp [fit] at h
theorem eqDs_self : ∀ (n : Nat) (ds : List D), fits n ds = true → eqDs ds ds = true
  | _, [], _ => by simp [eqDs]
  | n, d :: ds, h => by
    simp only [fits, Bool.and_eq_true] at h
    simp only [eqDs, eqD_self n d h.1, eqDs_self n ds h.2]
    rfl
end
theorem ab_ok {x : Str} (h : x = "a" ∨ x = "b") : isKindS x = true ∧ PyData.strOk x = true := by rcases h with h | h <;> subst h <;> exact ⟨by decide +kernel, by decide +kernel⟩
theorem ef_ok {x : Str} (h : x = "e" ∨ x = "f") : isKindS x = true ∧ PyData.strOk x = true := by rcases h with h | h <;> subst h <;> exact ⟨by decide +kernel, by decide +kernel⟩
theorem says_t {b : Bool} : ∃ ρ', d_law_says [.val (.bl b), .val (.bl b)] = .rt (.bl true) ρ' := by
  have i1 : opIsi "bool" (.bl b) = some (.bl true) := rfl
  have e1 : opEq (.bl b) (.bl b) = some (.bl true) := by cases b <;> rfl
  refine of_rtv ?_
  unfold d_law_says
  walk_at "ev"
theorem made_good {ps : List P2} {ts : List T4} (m : Made 6 8 ps ts) : Good ps ts ∧ Nt ps ts := by
  refine ⟨⟨by have := m.pl; omega, by have := m.tl; omega, fun p hp => ?_, fun t ht => ?_, m.pr, m.tr⟩, ⟨by have := m.pl; omega, by have := m.tl; omega, m.pr, m.tr, fun t ht => (m.tk t ht).2.2.2, fun p hp => (ab_ok (m.pk p hp).2.2).2, fun t ht => (ef_ok (m.tk t ht).2.2.1).2⟩⟩
  · have := m.pk p hp
    exact ⟨⟨this.1, by omega⟩, (ab_ok this.2.2).1⟩
  · have := m.tk t ht
    exact ⟨⟨this.1, by omega⟩, (ef_ok this.2.2.1).1, this.2.2.2⟩
theorem turn_good {ps : List P2} {ts : List T4} {as bs : List Int} (g : Good ps ts) (w : Tn ps ts as bs) (k3 : ∀ b ∈ as, nameOk b) (k4 : ∀ b ∈ bs, nameOk b) : Good (srt ptD (toPs ps as)) (srt tieD (toTs ps ts as bs)) := by
  have k1 := keys_toPs w.la (pw_nodup w.np)
  have k2 := keys_toTs (ps := ps) (as := as) w.lb (pw_nodup w.nt)
  have r1 := srt_rising (f := ptD) (key := (·.1)) (fun x => ⟨_, rfl⟩) (xs := toPs ps as) (by rw [k1]; exact w.na)
  have r2 := srt_rising (f := tieD) (key := (·.1)) (fun x => ⟨_, rfl⟩) (xs := toTs ps ts as bs) (by rw [k2]; exact w.nb)
  have hk : ∀ p ∈ toPs ps as, p.1 ∈ as := fun p hp => by
    rw [← k1]
    exact List.mem_map.mpr ⟨p, hp, rfl⟩
  have hk2 : ∀ p ∈ toTs ps ts as bs, p.1 ∈ bs := fun p hp => by
    rw [← k2]
    exact List.mem_map.mpr ⟨p, hp, rfl⟩
  have hp2 : ∀ p ∈ ps, ∃ q ∈ srt ptD (toPs ps as), q.1 = img (ps.map (·.1)) as p.1 := fun p hp => ⟨toP (img (ps.map (·.1)) as) p, r1.2.mem_iff.mpr (List.mem_map.mpr ⟨p, hp, rfl⟩), rfl⟩
  refine ⟨by rw [srt_len]; unfold toPs; rw [List.length_map]; have := w.lp; omega, by rw [srt_len]; unfold toTs; rw [List.length_map]; have := w.lt; omega, fun p hp => ?_, fun t ht => ?_, r1.1, r2.1⟩
  · have hm := srt_mem hp
    refine ⟨k3 _ (hk p hm), ?_⟩
    obtain ⟨q, hq, e⟩ := List.mem_map.mp hm
    rw [← e]
    exact (g.pk q hq).2
  · have hm := srt_mem ht
    refine ⟨k4 _ (hk2 t hm), ?_⟩
    obtain ⟨q, hq, e⟩ := List.mem_map.mp hm
    rw [← e]
    obtain ⟨p, hp, ep⟩ := (g.tk q hq).2.2.1
    obtain ⟨p', hp', ep'⟩ := (g.tk q hq).2.2.2
    refine ⟨(g.tk q hq).2.1, ?_, ?_⟩
    · have := hp2 p hp
      rw [ep] at this
      exact this
    · have := hp2 p' hp'
      rw [ep'] at this
      exact this
theorem kd_nm {ps : List P2} {ts : List T4} {as bs : List Int} (h1 : ps.length ≤ 9) (h2 : ts.length ≤ 9) : kd (nmD ps ts as bs) = true := kd_two (kd_row (by rw [List.length_zip, List.length_map]; omega)) (kd_row (by rw [List.length_zip, List.length_map]; omega))
def lawB27a : MS := (sIf (mAnd (tVal (eBin opEq (eBin opMod (eVar 5) (eC (.int 3))) (eC (.int 2)))) (mAnd (tVal (eUn (opIsi "tuple") (eVar 6))) (mAnd (tVal (eBin opEq (eFn opLen (aCons (eVar 6) aNil)) (eC (.int 2)))) (tVal (eCall 2 0 d_law_is_naming [] (aCons (eVar 2) (aCons (eVar 6) aNil))))))) (sSet 6 (eCallO 2 1 d_law_bent 1 (oHere (aCons (eVar 6) aNil)))) sSkip)
theorem step27a {ns cs : List Int} {ps : List P2} {ts : List T4} {as bs : List Int} {oth d : D} {k : Int} {s7 s8 : Sl} (g : Good ps ts) (w : Nt ps ts) (h1 : ps.length ≤ 9) (h2 : ts.length ≤ 9) (hd : Dk cs) (hk : kd d = true) :
    ∃ cs' d', Dk cs' ∧ kd d' = true ∧ lawB27a [.val (.scr ns), .own (deckD cs), .val (netD ps ts), .val (nmD ps ts as bs), .val oth, .val (.int k), .val d, s7, s8] = .nx [.val (.scr ns), .own (deckD cs'), .val (netD ps ts), .val (nmD ps ts as bs), .val oth, .val (.int k), .val d', s7, s8] := by
  have e1' : ∀ i j : Int, opEq (.int i) (.int j) = some (.bl (i == j)) := fun i j => eq_int
  cases q1 : (k % 3 == 2) with
  | false =>
    refine ⟨cs, d, hd, hk, ?_⟩
    clear g w hd hk
    generalize netD ps ts = nn at *
    unfold lawB27a
    walk_at "ev"
  | true =>
    rcases tup_kinds (kd_kn hk) with ⟨es, he⟩ | hno
    · subst he
      have i2 : opIsi "tuple" (.tup es) = some (.bl true) := rfl
      cases q2 : ((es.length : Int) == 2) with
      | false =>
        refine ⟨cs, .tup es, hd, hk, ?_⟩
        clear g w hd hk
        generalize netD ps ts = nn at *
        unfold lawB27a
        walk_at "ev"
      | true =>
        obtain ⟨ρ1, e1⟩ := law_naming_eq (ps := ps) (ts := ts) hk (by omega) (by omega)
        cases q3 : namB ps ts (.tup es) with
        | false =>
          rw [q3] at e1
          refine ⟨cs, .tup es, hd, hk, ?_⟩
          clear g w hd hk q3
          generalize netD ps ts = nn at *
          unfold lawB27a
          walk_at "ev"
        | true =>
          rw [q3] at e1
          obtain ⟨as', bs', ed, tn, _, k3, k4, k1, k2⟩ := namB_some w q3
          obtain ⟨d', cs', ρ', d1, d2, d3⟩ := bent_t hd (⟨h1, h2, k1, k2, k3, k4⟩ : Rows ps ts as' bs')
          rw [← ed] at d3
          refine ⟨cs', d', d1, d2, ?_⟩
          clear g w hd hk q3 tn k1 k2 k3 k4 d1 d2 ed
          generalize netD ps ts = nn at *
          unfold lawB27a
          walk_at "ev"
    · refine ⟨cs, d, hd, hk, ?_⟩
      clear g w hd hk
      generalize netD ps ts = nn at *
      unfold lawB27a
      walk_at "ev"
def due27 : M D := (eAnd (eCall 2 0 d_law_is_naming [] (aCons (eVar 2) (aCons (eVar 6) aNil))) (eBin opEq (eCall 2 7 d_law_turned [] (aCons (eVar 2) (aCons (eVar 6) aNil))) (eVar 4)))
def lawB27 : MS := (sSeq (sSet 6 (eCallO 2 1 d_law_bent 1 (oHere (aCons (eVar 3) aNil))))
    (sSeq lawB27a
    (sSeq (sSet 7 due27)
    (sSeq (sIf (mNot (tVal (eCall 2 0 d_law_says [] (aCons (eCall 3 0 d_right_naming [] (aCons (eVar 2) (aCons (eVar 4) (aCons (eVar 6) aNil)))) (aCons (eVar 7) aNil))))) (sRet (eC (.bl false))) sSkip)
    (sSeq (sSet 8 (eCallO 2 9 d_law_changed 1 (oHere (aCons (eVar 4) aNil))))
    (sIf (mNot (tVal (eCall 2 0 d_law_says [] (aCons (eCall 3 0 d_right_naming [] (aCons (eVar 2) (aCons (eVar 8) (aCons (eVar 3) aNil)))) (aCons (eBin opEq (eVar 8) (eVar 4)) aNil))))) (sRet (eC (.bl false))) sSkip))))))
structure Set27 (ps : List P2) (ts : List T4) (as bs : List Int) : Prop where
  g : Good ps ts
  w : Nt ps ts
  tn : Tn ps ts as bs
  rw' : Rows ps ts as bs
  p0 : 1 ≤ ps.length
theorem step27 {ns cs : List Int} {ps : List P2} {ts : List T4} {as bs : List Int} {k : Int} {s6 s7 s8 : Sl} (S : Set27 ps ts as bs) (hd : Dk cs) (f6 : isFree (some s6) = true) (f7 : isFree (some s7) = true) (f8 : isFree (some s8) = true) :
    ∃ cs' s6' s7' s8', Dk cs' ∧ isFree (some s6') = true ∧ isFree (some s7') = true ∧ isFree (some s8') = true ∧ lawB27 [.val (.scr ns), .own (deckD cs), .val (netD ps ts), .val (nmD ps ts as bs), .val (turnD ps ts as bs), .val (.int k), s6, s7, s8] = .nx [.val (.scr ns), .own (deckD cs'), .val (netD ps ts), .val (nmD ps ts as bs), .val (turnD ps ts as bs), .val (.int k), s6', s7', s8'] := by
  obtain ⟨g, w, tn, rr, p0⟩ := S
  obtain ⟨d, cs1, ρ1, d1, kd1, e1⟩ := bent_t hd rr
  obtain ⟨cs2, d', d2, kd2, e2⟩ := step27a (ns := ns) (as := as) (bs := bs) (oth := turnD ps ts as bs) (k := k) (s7 := s7) (s8 := s8) g w rr.l1 rr.l2 d1 kd1
  obtain ⟨ρ3, e3⟩ := law_naming_eq (ps := ps) (ts := ts) kd2 (by have := rr.l1; omega) (by have := rr.l2; omega)
  have ft := fit_turn (as := as) (bs := bs) w
  obtain ⟨ρ4, e4⟩ := right_naming_eq w kd2 ft
  obtain ⟨b, hb⟩ : ∃ b, b = (namB ps ts d' && eqD (turnO ps ts d') (turnD ps ts as bs)) := ⟨_, rfl⟩
  have e5 : ∃ ρ5, due27 [.val (.scr ns), .own (deckD cs2), .val (netD ps ts), .val (nmD ps ts as bs), .val (turnD ps ts as bs), .val (.int k), .val d', s7, s8] = .ok (.bl b) ρ5 ∧ ρ5 = [.val (.scr ns), .own (deckD cs2), .val (netD ps ts), .val (nmD ps ts as bs), .val (turnD ps ts as bs), .val (.int k), .val d', s7, s8] := by
    refine ⟨_, ?_, rfl⟩
    unfold due27
    cases q : namB ps ts d' with
    | false =>
      rw [q] at e3 hb
      rw [Bool.false_and] at hb
      clear e1 e2 e4 g w tn rr hd d1 d2 kd1 kd2 ft q
      generalize netD ps ts = nn at *
      walk_at "ev"
    | true =>
      rw [q] at e3 hb
      rw [Bool.true_and] at hb
      obtain ⟨as', bs', ed, tn', tu, _⟩ := namB_some w q
      obtain ⟨ρ6, e6⟩ := law_turned_t tn' w.sp w.st
      have e7 := opEq_fit (fit_turn (as := as') (bs := bs') w) ft
      rw [tu] at hb
      rw [← hb] at e7
      rw [← ed] at e6
      clear e1 e2 e4 g w tn tn' rr hd d1 d2 kd1 kd2 ft q hb ed tu
      generalize netD ps ts = nn at *
      generalize turnD ps ts as bs = oo at *
      generalize turnD ps ts as' bs' = oo2 at *
      walk_at "ev"
  obtain ⟨ρ5, e5, h5⟩ := e5
  subst h5
  rw [← hb] at e4
  obtain ⟨ρ7, e7⟩ := says_t (b := b)
  have gt := turn_good g tn rr.k3 rr.k4
  obtain ⟨X, cs3, ρ8, d3, fX, e8⟩ := changed_t (cs := cs2) (ps := srt ptD (toPs ps as)) (ts := srt tieD (toTs ps ts as bs)) d2 (by rw [srt_len]; unfold toPs; rw [List.length_map]; have := rr.l1; omega) (by rw [srt_len]; unfold toTs; rw [List.length_map]; have := rr.l2; omega) (fun p hp => by
    obtain ⟨q, hq, e⟩ := List.mem_map.mp (srt_mem hp)
    rw [← e]
    exact w.sp q hq) (fun p hp => by
    obtain ⟨q, hq, e⟩ := List.mem_map.mp (srt_mem hp)
    rw [← e]
    exact w.st q hq)
  obtain ⟨nb1, nb2⟩ := namB_of tn.la tn.lb tn.na tn.nb rr.k1 rr.k2 rr.k3 rr.k4
  obtain ⟨ρ9, e9⟩ := right_naming_eq (X := X) w (kd_nm (as := as) (bs := bs) rr.l1 rr.l2) fX
  rw [nb1, nb2, Bool.true_and] at e9
  have eA := opEq_fit fX ft
  rw [eqD_comm] at eA
  obtain ⟨ρB, eB⟩ := says_t (b := eqD (turnD ps ts as bs) X)
  have e8 : d_law_changed [.bor (deckD cs2), .val (turnD ps ts as bs), .no, .no, .no, .no, .no, .no, .no, .no, .no] = .rt X (.bor (deckD cs3) :: ρ8) := e8
  refine ⟨cs3, .val d', .val (.bl b), .val X, d3, rfl, rfl, rfl, ?_⟩
  have f6 := free_nb f6
  have f7 := free_nb f7
  have f8 := free_nb f8
  clear g w tn rr hd d1 d2 d3 kd1 kd2 ft gt fX nb1 nb2 hb e3 p0
  generalize netD ps ts = nn at *
  generalize turnD ps ts as bs = oo at *
  generalize nmD ps ts as bs = mm at *
  generalize eqD oo X = bb at *
  unfold lawB27
  walk_at "ev"
end NT.Pure

set_option Elab.async false
set_option linter.all false
set_option maxRecDepth 100000
set_option maxHeartbeats 4000000
namespace NT.Pure
open PySem L2 NT NT.Den
local macro_rules | `(tactic| walk_at "ev") => `(tactic| simp (maxSteps := 100000000) only [iZip_ap, iDctN_ap, dctO_dK, gT_raw, rtb_rt, wO_nx, wO_rt, wO_rtN, wO_ex, stp_ap, sWhile_ap, wT_ok, sCalm_ap, iDct_ap, dctI_val, rtv_rt, rtvN_rtN, bnd_ok, bnd_ex, bnd_bad, bndO_ok, bndO_ex, bndO_bad, nxt_nx, nxt_rt, nxt_rtN, nxt_ex, nxt_bad, lft_some, mbind_ap, mpure_ap, lift_ap, eC_ap, rdV_val, eVar_ap, eBin_ap, eUn_ap, aNil_ap, aCons_ap, eFn_ap, eTup_ap, eLst_ap, tupO, lstO, tVal_ap, asB_bl, iteR_t, iteR_f, iteO_t, iteO_f, mAnd_ap, mOr_ap, mNot_ap, eAnd_ap, eOr_ap, eNot_ap, eChain_ap, vw_ok, vwN_ok, vwT_ok, eView_ap, eViewN_ap, tView_ap, sDo_ap, sSeq_ap, sSkip_ap, put_ap, sSet_ap, sSetN_ap, sRet_ap, sRetN_ap, sExpr_ap, sIf_ap, sRetO_ap, retO_own, sRaise_ap, sFor_ap, loop_nil, optO_some, sAsg_ap, iteS_t, gN_ap, gT_ap, gsNil_ap, bS_some, gsCons_ap, notBor_val, notBor_own, notBor_no, mineO_own, mineO_bor, with_own, with_bor, optR_some, mutAt_ap, eMut_ap, sPutAt_ap, outE_rt, outE_rtN, outE_nx, outE_ex, outN_rtN, outN_ex, eCall_ap, eCallN_ap, borO_bor, outO_rt, outO_rtN, outO_nx, outO_ex, outON_rtN, outON_ex, callO_ap, callON_ap, eCallO_ap, eCallON_ap, oHere_ap, oThere_ap, seqO_lst, seqO_tup, seqO_scr, iSeq_ap, sgnO_str, iSign_ap, iRange1_ap, iRange2_ap, eComp_ap, eSl_ap, oNone_ap, intO_int, oSome_ap, eGet2_ap, add_int, neg_int, mul_int, sub_int, lt_int, le_int, gt_int, ge_int, mod_int, fdiv_int, len_lst, len_tup, len_scr, len_str, ix_tup', ix_lst', tuple_lst, tuple_tup, list_lst, list_tup, append_lst, isLst_lst, isDct_dK, isDct_dT, is_bl, isNot_bl, plain_int, plain_str, plain_bl, plain_non, plain_tup, plainL_nil, plainL_cons, int_bl, int_int, viewS_val, viewS_own, viewS_bor, viewS_no, atI_0, atI_1, atI_2, atI_3, eq_int, ne_int, eq_bl, ne_bl, sl_tup,
  List.map_cons, List.map_nil, List.replicate_succ, List.replicate_zero, List.append_nil, List.nil_append, List.cons_append, List.length_cons, List.length_nil, List.getElem?_cons_zero, List.getElem?_cons_succ, List.set_cons_zero, List.set_cons_succ, Nat.reduceAdd, Nat.reduceLeDiff, Nat.reduceEqDiff, Int.reduceLT, Int.reduceLE, Int.reduceAdd, Int.reduceSub, Int.reduceNeg, Int.reduceBEq, cast_0, cast_1, cast_2, cast_3, cast_4, cast_5, cast_6, cast_7, cast_8, Int.reduceToNat, decide_true, decide_false, decide_eq_true_eq, if_true, if_false, ite_true, ite_false, reduceIte, Bool.and_true, Bool.true_and, Bool.and_false, Bool.false_and, Bool.or_false, Bool.false_or, Bool.or_true, Bool.true_or, Bool.not_true, Bool.not_false, eq_self, Bool.false_eq_true, and_true, true_and, beq_self_eq_true, Option.map_some, Option.bind_some, *])
/-! loops and comprehensions with an invariant -/
theorem loop_inv {mg : MG} {b : MS} {I : List Sl → Prop} : ∀ {items : List D} {ρ : List Sl}, (∀ d ∈ items, ∀ ρ, I ρ → ∃ ρ1 ρ2, mg d ρ = some ρ1 ∧ b ρ1 = .nx ρ2 ∧ I ρ2) → I ρ → ∃ ρ', loop mg b items ρ = .nx ρ' ∧ I ρ'
  | [], ρ, _, h => ⟨ρ, rfl, h⟩
  | d :: ds, ρ, hs, h => by
    obtain ⟨ρ1, ρ2, h1, h2, h3⟩ := hs d List.mem_cons_self ρ h
    obtain ⟨ρ', h4, h5⟩ := loop_inv (items := ds) (fun x hx => hs x (List.mem_cons_of_mem _ hx)) h3
    refine ⟨ρ', ?_, h5⟩
    rw [loop_cons, h1, optO_some]
    show nxt (b ρ1) (k := _) = _
    rw [h2, nxt_nx]
    exact h4
theorem comp_inv {mg : MG} {t : M Bool} {e : M D} {vs : List Nat} {I : List Sl → Prop} {P : D → Prop} : ∀ {items acc : List D} {ρ : List Sl}, acc.length + items.length ≤ 100000 → (∀ ρ, I ρ → (vs.all fun v => isFree ρ[v]?) = true) →
    (∀ d ∈ items, ∀ ρ, I ρ → ∃ ρ1, mg d (wipeS ρ vs) = some ρ1 ∧ ((∃ ρ2, t ρ1 = .ok false ρ2 ∧ I (backS ρ ρ2 vs)) ∨ ∃ ρ2 y ρ3, t ρ1 = .ok true ρ2 ∧ e ρ2 = .ok y ρ3 ∧ P y ∧ I (backS ρ ρ3 vs))) → I ρ →
    ∃ ys ρ', compL mg t e vs items acc ρ = .ok (acc ++ ys) ρ' ∧ (∀ y ∈ ys, P y) ∧ ys.length ≤ items.length ∧ I ρ'
  | [], acc, ρ, _, _, _, h => ⟨[], ρ, (by rw [List.append_nil]; rfl), (fun _ h => by cases h), Nat.le_refl _, h⟩
  | d :: ds, acc, ρ, hl, hf, hs, h => by
    rw [List.length_cons] at hl
    obtain ⟨ρ1, h1, h2⟩ := hs d List.mem_cons_self ρ h
    unfold compL
    rw [if_pos (hf ρ h), h1]
    dsimp only
    rcases h2 with ⟨ρ2, h2, h3⟩ | ⟨ρ2, y, ρ3, h2, h3, h4, h5⟩
    · rw [h2]
      dsimp only
      obtain ⟨ys, ρ', q1, q2, q3, q4⟩ := comp_inv (items := ds) (acc := acc) (by omega) hf (fun x hx => hs x (List.mem_cons_of_mem _ hx)) h3
      exact ⟨ys, ρ', q1, q2, by rw [List.length_cons]; omega, q4⟩
    · rw [h2]
      dsimp only
      rw [h3]
      dsimp only
      rw [if_pos (by omega)]
      obtain ⟨ys, ρ', q1, q2, q3, q4⟩ := comp_inv (items := ds) (acc := acc ++ [y]) (by rw [List.length_append, List.length_singleton]; omega) hf (fun x hx => hs x (List.mem_cons_of_mem _ hx)) h5
      refine ⟨y :: ys, ρ', by rw [q1, List.append_assoc]; rfl, fun z hz => ?_, by rw [List.length_cons, List.length_cons]; omega, q4⟩
      rcases List.mem_cons.mp hz with hz | hz
      · rw [hz]; exact h4
      · exact q2 z hz
theorem law_t {ns : List Int} (hl : ns.length ≤ 63) : ∃ ρ', d_law [.val (.scr ns), .no, .no, .no, .no, .no, .no, .no, .no] = .rt (.bl true) ρ' := by
  obtain ⟨cs, ρ1, d1, _, e1⟩ := deck_t (m := 400) hl (by omega)
  have n1 := @next_t cs
  obtain ⟨ps, ts, cs1, ρ2, m, d2, e2⟩ := net_t (mp := 6) (mt := 8) (far := cs.headD 0 % 2) d1.tl (by omega) (by omega) (by omega)
  obtain ⟨g, w⟩ := made_good m
  have l1 : ps.length ≤ 9 := by have := m.pl; omega
  have l2 : ts.length ≤ 9 := by have := m.tl; omega
  obtain ⟨as, bs, cs2, ρ3, d3, la, lb, na, nb, k3, k4, e3⟩ := naming_t d2 l1 l2
  have tn := w.tn la lb na nb
  obtain ⟨ρ4, e4⟩ := law_turned_t tn w.sp w.st
  have c1 := check_t g
  have c2 : d_check [.val (turnD ps ts as bs)] = _ := check_t (turn_good g tn k3 k4)
  have rr : Rows ps ts as bs := ⟨l1, l2, fun p hp => (g.pk p hp).1, fun t ht => (g.tk t ht).1, k3, k4⟩
  have ft := fit_turn (as := as) (bs := bs) w
  obtain ⟨ρ5, e5⟩ := right_naming_eq (X := turnD ps ts as bs) w (kd_nm (as := as) (bs := bs) l1 l2) ft
  obtain ⟨nb1, nb2⟩ := namB_of la lb na nb rr.k1 rr.k2 k3 k4
  rw [nb1, nb2, eqD_self 60 _ ft] at e5
  have S : Set27 ps ts as bs := ⟨g, w, tn, rr, m.p0⟩
  have r8 : rng1 [.int 8] = some [.int 0, .int 1, .int 2, .int 3, .int 4, .int 5, .int 6, .int 7] := rfl
  obtain ⟨ρ6, q1, cs6, k6, s6, s7, s8, dk6, f5, f6, f7, f8, q2⟩ := loop_inv (mg := gN 5) (b := lawB27) (I := fun ρ => ∃ cs' s5 s6 s7 s8, Dk cs' ∧ isFree (some s5) = true ∧ isFree (some s6) = true ∧ isFree (some s7) = true ∧ isFree (some s8) = true ∧ ρ = [.val (.scr ns), .own (deckD cs'), .val (netD ps ts), .val (nmD ps ts as bs), .val (turnD ps ts as bs), s5, s6, s7, s8]) (items := [.int 0, .int 1, .int 2, .int 3, .int 4, .int 5, .int 6, .int 7]) (ρ := [.val (.scr ns), .own (deckD cs2), .val (netD ps ts), .val (nmD ps ts as bs), .val (turnD ps ts as bs), .no, .no, .no, .no])
    (fun d hd ρ ⟨cs', s5, s6, s7, s8, dk, f5, f6, f7, f8, e⟩ => by
      subst e
      obtain ⟨k, hk⟩ : ∃ k, d = .int k := by
        simp only [List.mem_cons, List.not_mem_nil, or_false] at hd
        rcases hd with h | h | h | h | h | h | h | h <;> exact ⟨_, h⟩
      subst hk
      obtain ⟨cs'', s6', s7', s8', z1, z2, z3, z4, z5⟩ := step27 (ns := ns) (k := k) S dk f6 f7 f8
      refine ⟨[.val (.scr ns), .own (deckD cs'), .val (netD ps ts), .val (nmD ps ts as bs), .val (turnD ps ts as bs), .val (.int k), s6, s7, s8], _, ?_, z5, cs'', .val (.int k), s6', s7', s8', z1, rfl, z2, z3, z4, rfl⟩
      show (if notBor (some s5) = true then _ else _) = _
      rw [if_pos (free_nb f5)]
      rfl) ⟨cs2, .no, .no, .no, .no, d3, rfl, rfl, rfl, rfl, rfl⟩
  subst q2
  have fn : fit 60 (nmD ps ts as bs) = true := by
    show (fits 58 _ && (fits 58 _ && true)) = true
    rw [fits_prs, fits_prs]
    rfl
  have e6 := opEq_fit fn fn
  rw [eqD_self 60 _ fn] at e6
  have x0 : opIx (nmD ps ts as bs) (.int 0) = some (.tup (((ps.map (·.1)).zip as).map prD)) := rfl
  have x1 : opIx (nmD ps ts as bs) (.int 1) = some (.tup (((ts.map (·.1)).zip bs).map prD)) := rfl
  have x2 : D.tup [.tup (((ps.map (·.1)).zip as).map prD), .tup (((ts.map (·.1)).zip bs).map prD)] = nmD ps ts as bs := rfl
  unfold lawB27 lawB27a due27 at q1
  refine of_rtv ?_
  have b1 : (true && true) = true := rfl
  rw [b1] at e5
  clear b1 S g w tn rr ft fn nb1 nb2 m d1 d2 d3 la lb na nb k3 k4 l1 l2 hl dk6 f5 f6 f7 f8
  generalize List.map prD ((ps.map (·.1)).zip as) = y1 at *
  generalize List.map prD ((ts.map (·.1)).zip bs) = y2 at *
  generalize netD ps ts = nn at *
  generalize turnD ps ts as bs = oo at *
  generalize nmD ps ts as bs = mm at *
  unfold d_law
  walk_at "ev"
end NT.Pure

namespace Lk27
open PySem L2 NT NT.Den
theorem all_mk {P : Program} {w : World} {K : PySem.W.Frag} {h : Heap} {mg : Str → Option Value} {fa : Addr} (X : K.In h) (G : h.Ns mainGlobals mg) (hfa : mg "law" = some (.ref fa))
    {f0 : Addr} {od0 an0 : Option Addr} {sl0 : Array (Option Value)} {oc0 kV0 dc0 pm0 cd0 ct0 : Value} {f1 : Addr} {od1 an1 : Option Addr} {sl1 : Array (Option Value)} {oc1 kV1 dc1 pm1 cd1 ct1 : Value} {f2 : Addr} {od2 an2 : Option Addr} {sl2 : Array (Option Value)} {oc2 kV2 dc2 pm2 cd2 ct2 : Value} {f3 : Addr} {od3 an3 : Option Addr} {sl3 : Array (Option Value)} {oc3 kV3 dc3 pm3 cd3 ct3 : Value} {f4 : Addr} {od4 an4 : Option Addr} {sl4 : Array (Option Value)} {oc4 kV4 dc4 pm4 cd4 ct4 : Value} {f5 : Addr} {od5 an5 : Option Addr} {sl5 : Array (Option Value)} {oc5 kV5 dc5 pm5 cd5 ct5 : Value} {f6 : Addr} {od6 an6 : Option Addr} {sl6 : Array (Option Value)} {oc6 kV6 dc6 pm6 cd6 ct6 : Value} {f7 : Addr} {od7 an7 : Option Addr} {sl7 : Array (Option Value)} {oc7 kV7 dc7 pm7 cd7 ct7 : Value} {f8 : Addr} {od8 an8 : Option Addr} {sl8 : Array (Option Value)} {oc8 kV8 dc8 pm8 cd8 ct8 : Value} {f9 : Addr} {od9 an9 : Option Addr} {sl9 : Array (Option Value)} {oc9 kV9 dc9 pm9 cd9 ct9 : Value} {f10 : Addr} {od10 an10 : Option Addr} {sl10 : Array (Option Value)} {oc10 kV10 dc10 pm10 cd10 ct10 : Value} {f11 : Addr} {od11 an11 : Option Addr} {sl11 : Array (Option Value)} {oc11 kV11 dc11 pm11 cd11 ct11 : Value} {f12 : Addr} {od12 an12 : Option Addr} {sl12 : Array (Option Value)} {oc12 kV12 dc12 pm12 cd12 ct12 : Value} {f13 : Addr} {od13 an13 : Option Addr} {sl13 : Array (Option Value)} {oc13 kV13 dc13 pm13 cd13 ct13 : Value} {f14 : Addr} {od14 an14 : Option Addr} {sl14 : Array (Option Value)} {oc14 kV14 dc14 pm14 cd14 ct14 : Value} {f15 : Addr} {od15 an15 : Option Addr} {sl15 : Array (Option Value)} {oc15 kV15 dc15 pm15 cd15 ct15 : Value} {f16 : Addr} {od16 an16 : Option Addr} {sl16 : Array (Option Value)} {oc16 kV16 dc16 pm16 cd16 ct16 : Value} {f17 : Addr} {od17 an17 : Option Addr} {sl17 : Array (Option Value)} {oc17 kV17 dc17 pm17 cd17 ct17 : Value} {f18 : Addr} {od18 an18 : Option Addr} {sl18 : Array (Option Value)} {oc18 kV18 dc18 pm18 cd18 ct18 : Value} {f19 : Addr} {od19 an19 : Option Addr} {sl19 : Array (Option Value)} {oc19 kV19 dc19 pm19 cd19 ct19 : Value} {f20 : Addr} {od20 an20 : Option Addr} {sl20 : Array (Option Value)} {oc20 kV20 dc20 pm20 cd20 ct20 : Value} {f21 : Addr} {od21 an21 : Option Addr} {sl21 : Array (Option Value)} {oc21 kV21 dc21 pm21 cd21 ct21 : Value} {f22 : Addr} {od22 an22 : Option Addr} {sl22 : Array (Option Value)} {oc22 kV22 dc22 pm22 cd22 ct22 : Value} {f23 : Addr} {od23 an23 : Option Addr} {sl23 : Array (Option Value)} {oc23 kV23 dc23 pm23 cd23 ct23 : Value} {f24 : Addr} {od24 an24 : Option Addr} {sl24 : Array (Option Value)} {oc24 kV24 dc24 pm24 cd24 ct24 : Value} {f25 : Addr} {od25 an25 : Option Addr} {sl25 : Array (Option Value)} {oc25 kV25 dc25 pm25 cd25 ct25 : Value} {f26 : Addr} {od26 an26 : Option Addr} {sl26 : Array (Option Value)} {oc26 kV26 dc26 pm26 cd26 ct26 : Value} {f27 : Addr} {od27 an27 : Option Addr} {sl27 : Array (Option Value)} {oc27 kV27 dc27 pm27 cd27 ct27 : Value} {f28 : Addr} {od28 an28 : Option Addr} {sl28 : Array (Option Value)} {oc28 kV28 dc28 pm28 cd28 ct28 : Value} {f29 : Addr} {od29 an29 : Option Addr} {sl29 : Array (Option Value)} {oc29 kV29 dc29 pm29 cd29 ct29 : Value} {f30 : Addr} {od30 an30 : Option Addr} {sl30 : Array (Option Value)} {oc30 kV30 dc30 pm30 cd30 ct30 : Value} {f31 : Addr} {od31 an31 : Option Addr} {sl31 : Array (Option Value)} {oc31 kV31 dc31 pm31 cd31 ct31 : Value} {f32 : Addr} {od32 an32 : Option Addr} {sl32 : Array (Option Value)} {oc32 kV32 dc32 pm32 cd32 ct32 : Value} {f33 : Addr} {od33 an33 : Option Addr} {sl33 : Array (Option Value)} {oc33 kV33 dc33 pm33 cd33 ct33 : Value} {f34 : Addr} {od34 an34 : Option Addr} {sl34 : Array (Option Value)} {oc34 kV34 dc34 pm34 cd34 ct34 : Value} {t0 : Tok} {t1 : Tok} {t2 : Tok} {t3 : Tok} {C0 : Addr}
    (a0 : PySem.W.nsIn K mainGlobals "_law_next" = some (some (.ref f0)))
    (l0 : K.lookup f0 = some ⟨oc0, od0, .func (PySem.W.fnOf "_law_next" "_law_next" (defArgs (topS 31)) (defBody (topS 31)) (defScope (topS 31)) .none kV0 dc0 pm0 an0 cd0 ct0), sl0⟩)
    (c0 : PySem.W.codeIn K cd0 "_law_next" = true)
    (k0 : PySem.W.keepIn K (.ref f0) = true)
    (a1 : PySem.W.nsIn K mainGlobals "_law_bent_row" = some (some (.ref f1)))
    (l1 : K.lookup f1 = some ⟨oc1, od1, .func (PySem.W.fnOf "_law_bent_row" "_law_bent_row" (defArgs (topS 41)) (defBody (topS 41)) (defScope (topS 41)) .none kV1 dc1 pm1 an1 cd1 ct1), sl1⟩)
    (c1 : PySem.W.codeIn K cd1 "_law_bent_row" = true)
    (k1 : PySem.W.keepIn K (.ref f1) = true)
    (a2 : PySem.W.nsIn K mainGlobals "_law_bent" = some (some (.ref f2)))
    (l2 : K.lookup f2 = some ⟨oc2, od2, .func (PySem.W.fnOf "_law_bent" "_law_bent" (defArgs (topS 42)) (defBody (topS 42)) (defScope (topS 42)) .none kV2 dc2 pm2 an2 cd2 ct2), sl2⟩)
    (c2 : PySem.W.codeIn K cd2 "_law_bent" = true)
    (k2 : PySem.W.keepIn K (.ref f2) = true)
    (a3 : PySem.W.nsIn K mainGlobals "_law_changed" = some (some (.ref f3)))
    (l3 : K.lookup f3 = some ⟨oc3, od3, .func (PySem.W.fnOf "_law_changed" "_law_changed" (defArgs (topS 43)) (defBody (topS 43)) (defScope (topS 43)) .none kV3 dc3 pm3 an3 cd3 ct3), sl3⟩)
    (c3 : PySem.W.codeIn K cd3 "_law_changed" = true)
    (k3 : PySem.W.keepIn K (.ref f3) = true)
    (a4 : PySem.W.nsIn K mainGlobals "_law_mixed" = some (some (.ref f4)))
    (l4 : K.lookup f4 = some ⟨oc4, od4, .func (PySem.W.fnOf "_law_mixed" "_law_mixed" (defArgs (topS 29)) (defBody (topS 29)) (defScope (topS 29)) .none kV4 dc4 pm4 an4 cd4 ct4), sl4⟩)
    (c4 : PySem.W.codeIn K cd4 "_law_mixed" = true)
    (k4 : PySem.W.keepIn K (.ref f4) = true)
    (a5 : PySem.W.nsIn K mainGlobals "_law_deck" = some (some (.ref f5)))
    (l5 : K.lookup f5 = some ⟨oc5, od5, .func (PySem.W.fnOf "_law_deck" "_law_deck" (defArgs (topS 30)) (defBody (topS 30)) (defScope (topS 30)) .none kV5 dc5 pm5 an5 cd5 ct5), sl5⟩)
    (c5 : PySem.W.codeIn K cd5 "_law_deck" = true)
    (k5 : PySem.W.keepIn K (.ref f5) = true)
    (a6 : PySem.W.nsIn K mainGlobals "_law_is_name" = some (some (.ref f6)))
    (l6 : K.lookup f6 = some ⟨oc6, od6, .func (PySem.W.fnOf "_law_is_name" "_law_is_name" (defArgs (topS 38)) (defBody (topS 38)) (defScope (topS 38)) .none kV6 dc6 pm6 an6 cd6 ct6), sl6⟩)
    (c6 : PySem.W.codeIn K cd6 "_law_is_name" = true)
    (k6 : PySem.W.keepIn K (.ref f6) = true)
    (a7 : PySem.W.nsIn K mainGlobals "_law_is_row" = some (some (.ref f7)))
    (l7 : K.lookup f7 = some ⟨oc7, od7, .func (PySem.W.fnOf "_law_is_row" "_law_is_row" (defArgs (topS 39)) (defBody (topS 39)) (defScope (topS 39)) .none kV7 dc7 pm7 an7 cd7 ct7), sl7⟩)
    (c7 : PySem.W.codeIn K cd7 "_law_is_row" = true)
    (k7 : PySem.W.keepIn K (.ref f7) = true)
    (a8 : PySem.W.nsIn K mainGlobals "_law_is_naming" = some (some (.ref f8)))
    (l8 : K.lookup f8 = some ⟨oc8, od8, .func (PySem.W.fnOf "_law_is_naming" "_law_is_naming" (defArgs (topS 40)) (defBody (topS 40)) (defScope (topS 40)) .none kV8 dc8 pm8 an8 cd8 ct8), sl8⟩)
    (c8 : PySem.W.codeIn K cd8 "_law_is_naming" = true)
    (k8 : PySem.W.keepIn K (.ref f8) = true)
    (a9 : PySem.W.nsIn K mainGlobals "_law_shuffled" = some (some (.ref f9)))
    (l9 : K.lookup f9 = some ⟨oc9, od9, .func (PySem.W.fnOf "_law_shuffled" "_law_shuffled" (defArgs (topS 34)) (defBody (topS 34)) (defScope (topS 34)) .none kV9 dc9 pm9 an9 cd9 ct9), sl9⟩)
    (c9 : PySem.W.codeIn K cd9 "_law_shuffled" = true)
    (k9 : PySem.W.keepIn K (.ref f9) = true)
    (a10 : PySem.W.nsIn K mainGlobals "_law_renamed" = some (some (.ref f10)))
    (l10 : K.lookup f10 = some ⟨oc10, od10, .func (PySem.W.fnOf "_law_renamed" "_law_renamed" (defArgs (topS 35)) (defBody (topS 35)) (defScope (topS 35)) .none kV10 dc10 pm10 an10 cd10 ct10), sl10⟩)
    (c10 : PySem.W.codeIn K cd10 "_law_renamed" = true)
    (k10 : PySem.W.keepIn K (.ref f10) = true)
    (a11 : PySem.W.nsIn K mainGlobals "_law_naming" = some (some (.ref f11)))
    (l11 : K.lookup f11 = some ⟨oc11, od11, .func (PySem.W.fnOf "_law_naming" "_law_naming" (defArgs (topS 36)) (defBody (topS 36)) (defScope (topS 36)) .none kV11 dc11 pm11 an11 cd11 ct11), sl11⟩)
    (c11 : PySem.W.codeIn K cd11 "_law_naming" = true)
    (k11 : PySem.W.keepIn K (.ref f11) = true)
    (a12 : PySem.W.nsIn K mainGlobals "_law_names" = some (some (.ref f12)))
    (l12 : K.lookup f12 = some ⟨oc12, od12, .func (PySem.W.fnOf "_law_names" "_law_names" (defArgs (topS 32)) (defBody (topS 32)) (defScope (topS 32)) .none kV12 dc12 pm12 an12 cd12 ct12), sl12⟩)
    (c12 : PySem.W.codeIn K cd12 "_law_names" = true)
    (k12 : PySem.W.keepIn K (.ref f12) = true)
    (a13 : PySem.W.nsIn K mainGlobals "_law_net" = some (some (.ref f13)))
    (l13 : K.lookup f13 = some ⟨oc13, od13, .func (PySem.W.fnOf "_law_net" "_law_net" (defArgs (topS 33)) (defBody (topS 33)) (defScope (topS 33)) .none kV13 dc13 pm13 an13 cd13 ct13), sl13⟩)
    (c13 : PySem.W.codeIn K cd13 "_law_net" = true)
    (k13 : PySem.W.keepIn K (.ref f13) = true)
    (a14 : PySem.W.nsIn K mainGlobals "_law_says" = some (some (.ref f14)))
    (l14 : K.lookup f14 = some ⟨oc14, od14, .func (PySem.W.fnOf "_law_says" "_law_says" (defArgs (topS 44)) (defBody (topS 44)) (defScope (topS 44)) .none kV14 dc14 pm14 an14 cd14 ct14), sl14⟩)
    (c14 : PySem.W.codeIn K cd14 "_law_says" = true)
    (k14 : PySem.W.keepIn K (.ref f14) = true)
    (a15 : PySem.W.nsIn K mainGlobals "_law_turned" = some (some (.ref f15)))
    (l15 : K.lookup f15 = some ⟨oc15, od15, .func (PySem.W.fnOf "_law_turned" "_law_turned" (defArgs (topS 37)) (defBody (topS 37)) (defScope (topS 37)) .none kV15 dc15 pm15 an15 cd15 ct15), sl15⟩)
    (c15 : PySem.W.codeIn K cd15 "_law_turned" = true)
    (k15 : PySem.W.keepIn K (.ref f15) = true)
    (a16 : PySem.W.nsIn K mainGlobals "are_rising" = some (some (.ref f16)))
    (l16 : K.lookup f16 = some ⟨oc16, od16, .func (PySem.W.fnOf "are_rising" "are_rising" (defArgs (topS 11)) (defBody (topS 11)) (defScope (topS 11)) .none kV16 dc16 pm16 an16 cd16 ct16), sl16⟩)
    (c16 : PySem.W.codeIn K cd16 "are_rising" = true)
    (k16 : PySem.W.keepIn K (.ref f16) = true)
    (a17 : PySem.W.nsIn K mainGlobals "is_kind" = some (some (.ref f17)))
    (l17 : K.lookup f17 = some ⟨oc17, od17, .func (PySem.W.fnOf "is_kind" "is_kind" (defArgs (topS 8)) (defBody (topS 8)) (defScope (topS 8)) .none kV17 dc17 pm17 an17 cd17 ct17), sl17⟩)
    (c17 : PySem.W.codeIn K cd17 "is_kind" = true)
    (k17 : PySem.W.keepIn K (.ref f17) = true)
    (a18 : PySem.W.nsIn K mainGlobals "is_int" = some (some (.ref f18)))
    (l18 : K.lookup f18 = some ⟨oc18, od18, .func (PySem.W.fnOf "is_int" "is_int" (defArgs (topS 6)) (defBody (topS 6)) (defScope (topS 6)) .none kV18 dc18 pm18 an18 cd18 ct18), sl18⟩)
    (c18 : PySem.W.codeIn K cd18 "is_int" = true)
    (k18 : PySem.W.keepIn K (.ref f18) = true)
    (a19 : PySem.W.nsIn K mainGlobals "is_name" = some (some (.ref f19)))
    (l19 : K.lookup f19 = some ⟨oc19, od19, .func (PySem.W.fnOf "is_name" "is_name" (defArgs (topS 7)) (defBody (topS 7)) (defScope (topS 7)) .none kV19 dc19 pm19 an19 cd19 ct19), sl19⟩)
    (c19 : PySem.W.codeIn K cd19 "is_name" = true)
    (k19 : PySem.W.keepIn K (.ref f19) = true)
    (a20 : PySem.W.nsIn K mainGlobals "is_tuple" = some (some (.ref f20)))
    (l20 : K.lookup f20 = some ⟨oc20, od20, .func (PySem.W.fnOf "is_tuple" "is_tuple" (defArgs (topS 9)) (defBody (topS 9)) (defScope (topS 9)) .none kV20 dc20 pm20 an20 cd20 ct20), sl20⟩)
    (c20 : PySem.W.codeIn K cd20 "is_tuple" = true)
    (k20 : PySem.W.keepIn K (.ref f20) = true)
    (a21 : PySem.W.nsIn K mainGlobals "are_points" = some (some (.ref f21)))
    (l21 : K.lookup f21 = some ⟨oc21, od21, .func (PySem.W.fnOf "are_points" "are_points" (defArgs (topS 15)) (defBody (topS 15)) (defScope (topS 15)) .none kV21 dc21 pm21 an21 cd21 ct21), sl21⟩)
    (c21 : PySem.W.codeIn K cd21 "are_points" = true)
    (k21 : PySem.W.keepIn K (.ref f21) = true)
    (a22 : PySem.W.nsIn K mainGlobals "are_ties" = some (some (.ref f22)))
    (l22 : K.lookup f22 = some ⟨oc22, od22, .func (PySem.W.fnOf "are_ties" "are_ties" (defArgs (topS 16)) (defBody (topS 16)) (defScope (topS 16)) .none kV22 dc22 pm22 an22 cd22 ct22), sl22⟩)
    (c22 : PySem.W.codeIn K cd22 "are_ties" = true)
    (k22 : PySem.W.keepIn K (.ref f22) = true)
    (a23 : PySem.W.nsIn K mainGlobals "points_of" = some (some (.ref f23)))
    (l23 : K.lookup f23 = some ⟨oc23, od23, .func (PySem.W.fnOf "points_of" "points_of" (defArgs (topS 19)) (defBody (topS 19)) (defScope (topS 19)) .none kV23 dc23 pm23 an23 cd23 ct23), sl23⟩)
    (c23 : PySem.W.codeIn K cd23 "points_of" = true)
    (k23 : PySem.W.keepIn K (.ref f23) = true)
    (a24 : PySem.W.nsIn K mainGlobals "is_net" = some (some (.ref f24)))
    (l24 : K.lookup f24 = some ⟨oc24, od24, .func (PySem.W.fnOf "is_net" "is_net" (defArgs (topS 17)) (defBody (topS 17)) (defScope (topS 17)) .none kV24 dc24 pm24 an24 cd24 ct24), sl24⟩)
    (c24 : PySem.W.codeIn K cd24 "is_net" = true)
    (k24 : PySem.W.keepIn K (.ref f24) = true)
    (a25 : PySem.W.nsIn K mainGlobals "check" = some (some (.ref f25)))
    (l25 : K.lookup f25 = some ⟨oc25, od25, .func (PySem.W.fnOf "check" "check" (defArgs (topS 18)) (defBody (topS 18)) (defScope (topS 18)) .none kV25 dc25 pm25 an25 cd25 ct25), sl25⟩)
    (c25 : PySem.W.codeIn K cd25 "check" = true)
    (k25 : PySem.W.keepIn K (.ref f25) = true)
    (a26 : PySem.W.nsIn K mainGlobals "names_of" = some (some (.ref f26)))
    (l26 : K.lookup f26 = some ⟨oc26, od26, .func (PySem.W.fnOf "names_of" "names_of" (defArgs (topS 24)) (defBody (topS 24)) (defScope (topS 24)) .none kV26 dc26 pm26 an26 cd26 ct26), sl26⟩)
    (c26 : PySem.W.codeIn K cd26 "names_of" = true)
    (k26 : PySem.W.keepIn K (.ref f26) = true)
    (a27 : PySem.W.nsIn K mainGlobals "are_names" = some (some (.ref f27)))
    (l27 : K.lookup f27 = some ⟨oc27, od27, .func (PySem.W.fnOf "are_names" "are_names" (defArgs (topS 10)) (defBody (topS 10)) (defScope (topS 10)) .none kV27 dc27 pm27 an27 cd27 ct27), sl27⟩)
    (c27 : PySem.W.codeIn K cd27 "are_names" = true)
    (k27 : PySem.W.keepIn K (.ref f27) = true)
    (a28 : PySem.W.nsIn K mainGlobals "turns" = some (some (.ref f28)))
    (l28 : K.lookup f28 = some ⟨oc28, od28, .func (PySem.W.fnOf "turns" "turns" (defArgs (topS 23)) (defBody (topS 23)) (defScope (topS 23)) .none kV28 dc28 pm28 an28 cd28 ct28), sl28⟩)
    (c28 : PySem.W.codeIn K cd28 "turns" = true)
    (k28 : PySem.W.keepIn K (.ref f28) = true)
    (a29 : PySem.W.nsIn K mainGlobals "is_naming" = some (some (.ref f29)))
    (l29 : K.lookup f29 = some ⟨oc29, od29, .func (PySem.W.fnOf "is_naming" "is_naming" (defArgs (topS 25)) (defBody (topS 25)) (defScope (topS 25)) .none kV29 dc29 pm29 an29 cd29 ct29), sl29⟩)
    (c29 : PySem.W.codeIn K cd29 "is_naming" = true)
    (k29 : PySem.W.keepIn K (.ref f29) = true)
    (a30 : PySem.W.nsIn K mainGlobals "net_of" = some (some (.ref f30)))
    (l30 : K.lookup f30 = some ⟨oc30, od30, .func (PySem.W.fnOf "net_of" "net_of" (defArgs (topS 21)) (defBody (topS 21)) (defScope (topS 21)) .none kV30 dc30 pm30 an30 cd30 ct30), sl30⟩)
    (c30 : PySem.W.codeIn K cd30 "net_of" = true)
    (k30 : PySem.W.keepIn K (.ref f30) = true)
    (a31 : PySem.W.nsIn K mainGlobals "ties_of" = some (some (.ref f31)))
    (l31 : K.lookup f31 = some ⟨oc31, od31, .func (PySem.W.fnOf "ties_of" "ties_of" (defArgs (topS 20)) (defBody (topS 20)) (defScope (topS 20)) .none kV31 dc31 pm31 an31 cd31 ct31), sl31⟩)
    (c31 : PySem.W.codeIn K cd31 "ties_of" = true)
    (k31 : PySem.W.keepIn K (.ref f31) = true)
    (a32 : PySem.W.nsIn K mainGlobals "turned_net" = some (some (.ref f32)))
    (l32 : K.lookup f32 = some ⟨oc32, od32, .func (PySem.W.fnOf "turned_net" "turned_net" (defArgs (topS 26)) (defBody (topS 26)) (defScope (topS 26)) .none kV32 dc32 pm32 an32 cd32 ct32), sl32⟩)
    (c32 : PySem.W.codeIn K cd32 "turned_net" = true)
    (k32 : PySem.W.keepIn K (.ref f32) = true)
    (a33 : PySem.W.nsIn K mainGlobals "right_naming" = some (some (.ref f33)))
    (l33 : K.lookup f33 = some ⟨oc33, od33, .func (PySem.W.fnOf "right_naming" "right_naming" (defArgs (topS 27)) (defBody (topS 27)) (defScope (topS 27)) .none kV33 dc33 pm33 an33 cd33 ct33), sl33⟩)
    (c33 : PySem.W.codeIn K cd33 "right_naming" = true)
    (k33 : PySem.W.keepIn K (.ref f33) = true)
    (a34 : PySem.W.nsIn K mainGlobals "law" = some (some (.ref f34)))
    (l34 : K.lookup f34 = some ⟨oc34, od34, .func (PySem.W.fnOf "law" "law" (defArgs (topS 45)) (defBody (topS 45)) (defScope (topS 45)) .none kV34 dc34 pm34 an34 cd34 ct34), sl34⟩)
    (c34 : PySem.W.codeIn K cd34 "law" = true)
    (k34 : PySem.W.keepIn K (.ref f34) = true)
    (q0 : PySem.W.nsIn K mainGlobals "MOST_LETTERS" = some (some (.int 8 t0)))
    (q1 : PySem.W.nsIn K mainGlobals "MOST_NAME" = some (some (.int 1000000 t1)))
    (q2 : PySem.W.nsIn K mainGlobals "MOST_POINTS" = some (some (.int 400 t2)))
    (q3 : PySem.W.nsIn K mainGlobals "MOST_TIES" = some (some (.int 600 t3)))
    (ea0 : PySem.W.nsIn K mainGlobals "NoNet" = some (some (.ref C0)))
    (ex0 : PySem.W.excIn K C0 [.type "ValueError", .type "Exception", .type "BaseException", .type "object"] "ValueError.__new__" = true)
    (ek0 : PySem.W.keepIn K (.ref C0) = true)
    (eb0 : PySem.W.subIn K (.ref C0) (.type "BaseException") = some true)
    (et0 : PySem.W.typeIn K (.ref C0) = some (.type "type"))
    (z0 : PySem.W.nsIn K mainGlobals "len" = some none)
    (z1 : PySem.W.nsIn K mainGlobals "isinstance" = some none)
    (z2 : PySem.W.nsIn K mainGlobals "int" = some none)
    (z3 : PySem.W.nsIn K mainGlobals "bool" = some none)
    (z4 : PySem.W.nsIn K mainGlobals "str" = some none)
    (z5 : PySem.W.nsIn K mainGlobals "tuple" = some none)
    (z6 : PySem.W.nsIn K mainGlobals "list" = some none)
    (z7 : PySem.W.nsIn K mainGlobals "dict" = some none)
    (z8 : PySem.W.nsIn K mainGlobals "range" = some none)
    (z9 : PySem.W.nsIn K mainGlobals "reversed" = some none)
    (z10 : PySem.W.nsIn K mainGlobals "sum" = some none)
    (z11 : PySem.W.nsIn K mainGlobals "max" = some none)
    (z12 : PySem.W.nsIn K mainGlobals "min" = some none)
    (z13 : PySem.W.nsIn K mainGlobals "sorted" = some none)
    (z14 : PySem.W.nsIn K mainGlobals "zip" = some none)
    (z15 : PySem.W.nsIn K mainGlobals "enumerate" = some none)
    (z16 : PySem.W.nsIn K mainGlobals "set" = some none) :
    ∃ fd : FuncData, (∀ (s : Shared) (v : Value), BindsTo s fd ⟨[v], []⟩ [("_law_script", v)]) ∧ ∀ base : Heap, K.In base → base.Ns mainGlobals mg → FnOk P w K mg base (L2.CX P w) 7 fa fd ["_law_script"] (spLaw K) := by
  have e := hfa.symm.trans (PySem.W.mg_of X G a34)
  cases e
  have B : Bt mg := ⟨PySem.W.mg_none_of X G z0, PySem.W.mg_none_of X G z1, PySem.W.mg_none_of X G z2, PySem.W.mg_none_of X G z3, PySem.W.mg_none_of X G z4, PySem.W.mg_none_of X G z5, PySem.W.mg_none_of X G z6, PySem.W.mg_none_of X G z7, PySem.W.mg_none_of X G z8, PySem.W.mg_none_of X G z9, PySem.W.mg_none_of X G z10, PySem.W.mg_none_of X G z11, PySem.W.mg_none_of X G z12, PySem.W.mg_none_of X G z13, PySem.W.mg_none_of X G z14, PySem.W.mg_none_of X G z15, PySem.W.mg_none_of X G z16⟩
  obtain ⟨cls, hcls⟩ : ∃ cls : Nat → Value, cls 0 = .ref C0 := ⟨fun n => if n = 0 then .ref C0 else .none, rfl⟩
  have c_MOST_LETTERS : Cst mg "MOST_LETTERS" (.int 8) := ⟨⟨_, PySem.W.mg_of X G q0, ⟨_, rfl⟩⟩⟩
  have c_MOST_NAME : Cst mg "MOST_NAME" (.int 1000000) := ⟨⟨_, PySem.W.mg_of X G q1, ⟨_, rfl⟩⟩⟩
  have c_MOST_POINTS : Cst mg "MOST_POINTS" (.int 400) := ⟨⟨_, PySem.W.mg_of X G q2, ⟨_, rfl⟩⟩⟩
  have c_MOST_TIES : Cst mg "MOST_TIES" (.int 600) := ⟨⟨_, PySem.W.mg_of X G q3, ⟨_, rfl⟩⟩⟩
  have X_NoNet : Exn K mg cls "NoNet" 0 := ⟨⟨_, hcls, PySem.W.mg_of X G ea0, ex0, ek0, eb0, et0⟩⟩
  have HC0 : cls 0 = .ref C0 := hcls
  have F0 := fun_mk (st := topS 31) l0 c0 k0
  have F1 := fun_mk (st := topS 41) l1 c1 k1
  have F2 := fun_mk (st := topS 42) l2 c2 k2
  have F3 := fun_mk (st := topS 43) l3 c3 k3
  have F4 := fun_mk (st := topS 29) l4 c4 k4
  have F5 := fun_mk (st := topS 30) l5 c5 k5
  have F6 := fun_mk (st := topS 38) l6 c6 k6
  have F7 := fun_mk (st := topS 39) l7 c7 k7
  have F8 := fun_mk (st := topS 40) l8 c8 k8
  have F9 := fun_mk (st := topS 34) l9 c9 k9
  have F10 := fun_mk (st := topS 35) l10 c10 k10
  have F11 := fun_mk (st := topS 36) l11 c11 k11
  have F12 := fun_mk (st := topS 32) l12 c12 k12
  have F13 := fun_mk (st := topS 33) l13 c13 k13
  have F14 := fun_mk (st := topS 44) l14 c14 k14
  have F15 := fun_mk (st := topS 37) l15 c15 k15
  have F16 := fun_mk (st := topS 11) l16 c16 k16
  have F17 := fun_mk (st := topS 8) l17 c17 k17
  have F18 := fun_mk (st := topS 6) l18 c18 k18
  have F19 := fun_mk (st := topS 7) l19 c19 k19
  have F20 := fun_mk (st := topS 9) l20 c20 k20
  have F21 := fun_mk (st := topS 15) l21 c21 k21
  have F22 := fun_mk (st := topS 16) l22 c22 k22
  have F23 := fun_mk (st := topS 19) l23 c23 k23
  have F24 := fun_mk (st := topS 17) l24 c24 k24
  have F25 := fun_mk (st := topS 18) l25 c25 k25
  have F26 := fun_mk (st := topS 24) l26 c26 k26
  have F27 := fun_mk (st := topS 10) l27 c27 k27
  have F28 := fun_mk (st := topS 23) l28 c28 k28
  have F29 := fun_mk (st := topS 25) l29 c29 k29
  have F30 := fun_mk (st := topS 21) l30 c30 k30
  have F31 := fun_mk (st := topS 20) l31 c31 k31
  have F32 := fun_mk (st := topS 26) l32 c32 k32
  have F33 := fun_mk (st := topS 27) l33 c33 k33
  have F34 := fun_mk (st := topS 45) l34 c34 k34
  refine ⟨PySem.W.fnOf "law" "law" (defArgs (topS 45)) (defBody (topS 45)) (defScope (topS 45)) .none kV34 dc34 pm34 an34 cd34 ct34, fun s v => .of_eq rfl, fun base _ _ => ?_⟩
  have C__law_next := cal_mk F0 (PySem.W.mg_of X G a0) (ok_law_next (base := base) (P := P) (w := w) (cls := cls) B F0 ) (F0.binds (ps := ["_law_deck_here"]) fun _ _ _ _ _ _ us hl => match us, hl with | [_], _ => rfl)
  have C__law_bent_row := cal_mk F1 (PySem.W.mg_of X G a1) (ok_law_bent_row (base := base) (P := P) (w := w) (cls := cls) B F1 C__law_next) (F1.binds (ps := ["_law_deck_here", "_law_row"]) fun _ _ _ _ _ _ us hl => match us, hl with | [_, _], _ => rfl)
  have C__law_bent := cal_mk F2 (PySem.W.mg_of X G a2) (ok_law_bent (base := base) (P := P) (w := w) (cls := cls) B F2 C__law_bent_row C__law_next) (F2.binds (ps := ["_law_deck_here", "_law_naming_here"]) fun _ _ _ _ _ _ us hl => match us, hl with | [_, _], _ => rfl)
  have C__law_changed := cal_mk F3 (PySem.W.mg_of X G a3) (ok_law_changed (base := base) (P := P) (w := w) (cls := cls) B F3 C__law_next) (F3.binds (ps := ["_law_deck_here", "_law_net_here"]) fun _ _ _ _ _ _ us hl => match us, hl with | [_, _], _ => rfl)
  have C__law_mixed := cal_mk F4 (PySem.W.mg_of X G a4) (ok_law_mixed (base := base) (P := P) (w := w) (cls := cls) B F4 ) (F4.binds (ps := ["_law_cell", "_law_k"]) fun _ _ _ _ _ _ us hl => match us, hl with | [_, _], _ => rfl)
  have C__law_deck := cal_mk F5 (PySem.W.mg_of X G a5) (ok_law_deck (base := base) (P := P) (w := w) (cls := cls) B F5 C__law_mixed) (F5.binds (ps := ["_law_script", "_law_many"]) fun _ _ _ _ _ _ us hl => match us, hl with | [_, _], _ => rfl)
  have C__law_is_name := cal_mk F6 (PySem.W.mg_of X G a6) (ok_law_is_name (base := base) (P := P) (w := w) (cls := cls) B F6 ) (F6.binds (ps := ["_law_thing"]) fun _ _ _ _ _ _ us hl => match us, hl with | [_], _ => rfl)
  have C__law_is_row := cal_mk F7 (PySem.W.mg_of X G a7) (ok_law_is_row (base := base) (P := P) (w := w) (cls := cls) B F7 C__law_is_name) (F7.binds (ps := ["_law_things", "_law_row"]) fun _ _ _ _ _ _ us hl => match us, hl with | [_, _], _ => rfl)
  have C__law_is_naming := cal_mk F8 (PySem.W.mg_of X G a8) (ok_law_is_naming (base := base) (P := P) (w := w) (cls := cls) B F8 C__law_is_row) (F8.binds (ps := ["_law_net_here", "_law_thing"]) fun _ _ _ _ _ _ us hl => match us, hl with | [_, _], _ => rfl)
  have C__law_shuffled := cal_mk F9 (PySem.W.mg_of X G a9) (ok_law_shuffled (base := base) (P := P) (w := w) (cls := cls) B F9 C__law_next) (F9.binds (ps := ["_law_deck_here", "_law_many"]) fun _ _ _ _ _ _ us hl => match us, hl with | [_, _], _ => rfl)
  have C__law_renamed := cal_mk F10 (PySem.W.mg_of X G a10) (ok_law_renamed (base := base) (P := P) (w := w) (cls := cls) B F10 C__law_next C__law_shuffled) (F10.binds (ps := ["_law_deck_here", "_law_things"]) fun _ _ _ _ _ _ us hl => match us, hl with | [_, _], _ => rfl)
  have C__law_naming := cal_mk F11 (PySem.W.mg_of X G a11) (ok_law_naming (base := base) (P := P) (w := w) (cls := cls) B F11 C__law_renamed) (F11.binds (ps := ["_law_deck_here", "_law_net_here"]) fun _ _ _ _ _ _ us hl => match us, hl with | [_, _], _ => rfl)
  have C__law_names := cal_mk F12 (PySem.W.mg_of X G a12) (ok_law_names (base := base) (P := P) (w := w) (cls := cls) B F12 C__law_next) (F12.binds (ps := ["_law_deck_here", "_law_many", "_law_far"]) fun _ _ _ _ _ _ us hl => match us, hl with | [_, _, _], _ => rfl)
  have C__law_net := cal_mk F13 (PySem.W.mg_of X G a13) (ok_law_net (base := base) (P := P) (w := w) (cls := cls) B F13 C__law_names C__law_next) (F13.binds (ps := ["_law_deck_here", "_law_most_points", "_law_most_ties", "_law_far"]) fun _ _ _ _ _ _ us hl => match us, hl with | [_, _, _, _], _ => rfl)
  have C__law_says := cal_mk F14 (PySem.W.mg_of X G a14) (ok_law_says (base := base) (P := P) (w := w) (cls := cls) B F14 ) (F14.binds (ps := ["_law_answer", "_law_due"]) fun _ _ _ _ _ _ us hl => match us, hl with | [_, _], _ => rfl)
  have C__law_turned := cal_mk F15 (PySem.W.mg_of X G a15) (ok_law_turned (base := base) (P := P) (w := w) (cls := cls) B F15 ) (F15.binds (ps := ["_law_net_here", "_law_naming_here"]) fun _ _ _ _ _ _ us hl => match us, hl with | [_, _], _ => rfl)
  have C_are_rising := cal_mk F16 (PySem.W.mg_of X G a16) (ok_are_rising (base := base) (P := P) (w := w) (cls := cls) B F16 ) (F16.binds (ps := ["row"]) fun _ _ _ _ _ _ us hl => match us, hl with | [_], _ => rfl)
  have C_is_kind := cal_mk F17 (PySem.W.mg_of X G a17) (ok_is_kind (base := base) (P := P) (w := w) (cls := cls) B F17 c_MOST_LETTERS) (F17.binds (ps := ["thing"]) fun _ _ _ _ _ _ us hl => match us, hl with | [_], _ => rfl)
  have C_is_int := cal_mk F18 (PySem.W.mg_of X G a18) (ok_is_int (base := base) (P := P) (w := w) (cls := cls) B F18 ) (F18.binds (ps := ["thing"]) fun _ _ _ _ _ _ us hl => match us, hl with | [_], _ => rfl)
  have C_is_name := cal_mk F19 (PySem.W.mg_of X G a19) (ok_is_name (base := base) (P := P) (w := w) (cls := cls) B F19 C_is_int c_MOST_NAME) (F19.binds (ps := ["thing"]) fun _ _ _ _ _ _ us hl => match us, hl with | [_], _ => rfl)
  have C_is_tuple := cal_mk F20 (PySem.W.mg_of X G a20) (ok_is_tuple (base := base) (P := P) (w := w) (cls := cls) B F20 ) (F20.binds (ps := ["thing", "many"]) fun _ _ _ _ _ _ us hl => match us, hl with | [_, _], _ => rfl)
  have C_are_points := cal_mk F21 (PySem.W.mg_of X G a21) (ok_are_points (base := base) (P := P) (w := w) (cls := cls) B F21 C_are_rising C_is_kind C_is_name C_is_tuple c_MOST_POINTS) (F21.binds (ps := ["thing"]) fun _ _ _ _ _ _ us hl => match us, hl with | [_], _ => rfl)
  have C_are_ties := cal_mk F22 (PySem.W.mg_of X G a22) (ok_are_ties (base := base) (P := P) (w := w) (cls := cls) B F22 C_are_rising C_is_kind C_is_name C_is_tuple c_MOST_TIES) (F22.binds (ps := ["thing", "points"]) fun _ _ _ _ _ _ us hl => match us, hl with | [_, _], _ => rfl)
  have C_points_of := cal_mk F23 (PySem.W.mg_of X G a23) (ok_points_of (base := base) (P := P) (w := w) (cls := cls) B F23 ) (F23.binds (ps := ["net"]) fun _ _ _ _ _ _ us hl => match us, hl with | [_], _ => rfl)
  have C_is_net := cal_mk F24 (PySem.W.mg_of X G a24) (ok_is_net (base := base) (P := P) (w := w) (cls := cls) B F24 C_are_points C_are_ties C_is_tuple C_points_of) (F24.binds (ps := ["thing"]) fun _ _ _ _ _ _ us hl => match us, hl with | [_], _ => rfl)
  have C_check := cal_mk F25 (PySem.W.mg_of X G a25) (ok_check (base := base) (P := P) (w := w) (cls := cls) B F25 C_is_net X_NoNet) (F25.binds (ps := ["thing"]) fun _ _ _ _ _ _ us hl => match us, hl with | [_], _ => rfl)
  have C_names_of := cal_mk F26 (PySem.W.mg_of X G a26) (ok_names_of (base := base) (P := P) (w := w) (cls := cls) B F26 ) (F26.binds (ps := ["items"]) fun _ _ _ _ _ _ us hl => match us, hl with | [_], _ => rfl)
  have C_are_names := cal_mk F27 (PySem.W.mg_of X G a27) (ok_are_names (base := base) (P := P) (w := w) (cls := cls) B F27 C_is_name) (F27.binds (ps := ["thing"]) fun _ _ _ _ _ _ us hl => match us, hl with | [_], _ => rfl)
  have C_turns := cal_mk F28 (PySem.W.mg_of X G a28) (ok_turns (base := base) (P := P) (w := w) (cls := cls) B F28 C_are_names C_is_tuple) (F28.binds (ps := ["names", "thing"]) fun _ _ _ _ _ _ us hl => match us, hl with | [_, _], _ => rfl)
  have C_is_naming := cal_mk F29 (PySem.W.mg_of X G a29) (ok_is_naming (base := base) (P := P) (w := w) (cls := cls) B F29 C_is_tuple C_names_of C_turns) (F29.binds (ps := ["net", "thing"]) fun _ _ _ _ _ _ us hl => match us, hl with | [_, _], _ => rfl)
  have C_net_of := cal_mk F30 (PySem.W.mg_of X G a30) (ok_net_of (base := base) (P := P) (w := w) (cls := cls) B F30 ) (F30.binds (ps := ["points", "ties"]) fun _ _ _ _ _ _ us hl => match us, hl with | [_, _], _ => rfl)
  have C_ties_of := cal_mk F31 (PySem.W.mg_of X G a31) (ok_ties_of (base := base) (P := P) (w := w) (cls := cls) B F31 ) (F31.binds (ps := ["net"]) fun _ _ _ _ _ _ us hl => match us, hl with | [_], _ => rfl)
  have C_turned_net := cal_mk F32 (PySem.W.mg_of X G a32) (ok_turned_net (base := base) (P := P) (w := w) (cls := cls) B F32 C_net_of C_points_of C_ties_of) (F32.binds (ps := ["net", "naming"]) fun _ _ _ _ _ _ us hl => match us, hl with | [_, _], _ => rfl)
  have C_right_naming := cal_mk F33 (PySem.W.mg_of X G a33) (ok_right_naming (base := base) (P := P) (w := w) (cls := cls) B F33 C_is_naming C_turned_net) (F33.binds (ps := ["net", "other", "thing"]) fun _ _ _ _ _ _ us hl => match us, hl with | [_, _, _], _ => rfl)
  exact (ok_law (base := base) (P := P) (w := w) (cls := cls) B F34 C__law_bent C__law_changed C__law_deck C__law_is_naming C__law_naming C__law_net C__law_next C__law_says C__law_turned C_check C_right_naming).imp (law_sp fun ns h => NT.Pure.law_t h)
end Lk27
open PySem PySem.W PyProof.Rows
set_option maxHeartbeats 0 in
theorem PySem.Challenge.cw_netturns_k27_namings_looked_at_holds : PySem.Challenge.rw_netturns_k27_namings_looked_at.Holds := by
  w_on; o_law; k_head; (case hw => w_witness2)
  k_fill
  refine L2.walk_of (l := PySem.Challenge.rw_netturns_k27_namings_looked_at) (n := 63) (k := 7) (x := "_law_script") (CX := fun w => L2.CX (PySem.Challenge.rw_netturns_k27_namings_looked_at).prog w) (sp := fun w => NT.spLaw _) rfl (by decide) rfl ⟨rfl, by decide, by decide⟩ (fun w h Y => PySem.W.kIn_of Y) ?F (fun _ _ a ns hl _ hS => ⟨a, ns, rfl, hS, hl, fun _ => rfl⟩) (fun w H s e s' h => NT.no_exc h)
  case F =>
    intro w mg fa h KX G hmg
    refine' Lk27.all_mk KX G hmg ?a0 ?l0 ?c0 ?k0 ?a1 ?l1 ?c1 ?k1 ?a2 ?l2 ?c2 ?k2 ?a3 ?l3 ?c3 ?k3 ?a4 ?l4 ?c4 ?k4 ?a5 ?l5 ?c5 ?k5 ?a6 ?l6 ?c6 ?k6 ?a7 ?l7 ?c7 ?k7 ?a8 ?l8 ?c8 ?k8 ?a9 ?l9 ?c9 ?k9 ?a10 ?l10 ?c10 ?k10 ?a11 ?l11 ?c11 ?k11 ?a12 ?l12 ?c12 ?k12 ?a13 ?l13 ?c13 ?k13 ?a14 ?l14 ?c14 ?k14 ?a15 ?l15 ?c15 ?k15 ?a16 ?l16 ?c16 ?k16 ?a17 ?l17 ?c17 ?k17 ?a18 ?l18 ?c18 ?k18 ?a19 ?l19 ?c19 ?k19 ?a20 ?l20 ?c20 ?k20 ?a21 ?l21 ?c21 ?k21 ?a22 ?l22 ?c22 ?k22 ?a23 ?l23 ?c23 ?k23 ?a24 ?l24 ?c24 ?k24 ?a25 ?l25 ?c25 ?k25 ?a26 ?l26 ?c26 ?k26 ?a27 ?l27 ?c27 ?k27 ?a28 ?l28 ?c28 ?k28 ?a29 ?l29 ?c29 ?k29 ?a30 ?l30 ?c30 ?k30 ?a31 ?l31 ?c31 ?k31 ?a32 ?l32 ?c32 ?k32 ?a33 ?l33 ?c33 ?k33 ?a34 ?l34 ?c34 ?k34 ?q0 ?q1 ?q2 ?q3 ?ea0 ?ex0 ?ek0 ?eb0 ?et0 ?z0 ?z1 ?z2 ?z3 ?z4 ?z5 ?z6 ?z7 ?z8 ?z9 ?z10 ?z11 ?z12 ?z13 ?z14 ?z15 ?z16
    (case a0 => k_is)
    (case l0 => k_is)
    (case c0 => k_is)
    (case k0 => k_is)
    (case a1 => k_is)
    (case l1 => k_is)
    (case c1 => k_is)
    (case k1 => k_is)
    (case a2 => k_is)
    (case l2 => k_is)
    (case c2 => k_is)
    (case k2 => k_is)
    (case a3 => k_is)
    (case l3 => k_is)
    (case c3 => k_is)
    (case k3 => k_is)
    (case a4 => k_is)
    (case l4 => k_is)
    (case c4 => k_is)
    (case k4 => k_is)
    (case a5 => k_is)
    (case l5 => k_is)
    (case c5 => k_is)
    (case k5 => k_is)
    (case a6 => k_is)
    (case l6 => k_is)
    (case c6 => k_is)
    (case k6 => k_is)
    (case a7 => k_is)
    (case l7 => k_is)
    (case c7 => k_is)
    (case k7 => k_is)
    (case a8 => k_is)
    (case l8 => k_is)
    (case c8 => k_is)
    (case k8 => k_is)
    (case a9 => k_is)
    (case l9 => k_is)
    (case c9 => k_is)
    (case k9 => k_is)
    (case a10 => k_is)
    (case l10 => k_is)
    (case c10 => k_is)
    (case k10 => k_is)
    (case a11 => k_is)
    (case l11 => k_is)
    (case c11 => k_is)
    (case k11 => k_is)
    (case a12 => k_is)
    (case l12 => k_is)
    (case c12 => k_is)
    (case k12 => k_is)
    (case a13 => k_is)
    (case l13 => k_is)
    (case c13 => k_is)
    (case k13 => k_is)
    (case a14 => k_is)
    (case l14 => k_is)
    (case c14 => k_is)
    (case k14 => k_is)
    (case a15 => k_is)
    (case l15 => k_is)
    (case c15 => k_is)
    (case k15 => k_is)
    (case a16 => k_is)
    (case l16 => k_is)
    (case c16 => k_is)
    (case k16 => k_is)
    (case a17 => k_is)
    (case l17 => k_is)
    (case c17 => k_is)
    (case k17 => k_is)
    (case a18 => k_is)
    (case l18 => k_is)
    (case c18 => k_is)
    (case k18 => k_is)
    (case a19 => k_is)
    (case l19 => k_is)
    (case c19 => k_is)
    (case k19 => k_is)
    (case a20 => k_is)
    (case l20 => k_is)
    (case c20 => k_is)
    (case k20 => k_is)
    (case a21 => k_is)
    (case l21 => k_is)
    (case c21 => k_is)
    (case k21 => k_is)
    (case a22 => k_is)
    (case l22 => k_is)
    (case c22 => k_is)
    (case k22 => k_is)
    (case a23 => k_is)
    (case l23 => k_is)
    (case c23 => k_is)
    (case k23 => k_is)
    (case a24 => k_is)
    (case l24 => k_is)
    (case c24 => k_is)
    (case k24 => k_is)
    (case a25 => k_is)
    (case l25 => k_is)
    (case c25 => k_is)
    (case k25 => k_is)
    (case a26 => k_is)
    (case l26 => k_is)
    (case c26 => k_is)
    (case k26 => k_is)
    (case a27 => k_is)
    (case l27 => k_is)
    (case c27 => k_is)
    (case k27 => k_is)
    (case a28 => k_is)
    (case l28 => k_is)
    (case c28 => k_is)
    (case k28 => k_is)
    (case a29 => k_is)
    (case l29 => k_is)
    (case c29 => k_is)
    (case k29 => k_is)
    (case a30 => k_is)
    (case l30 => k_is)
    (case c30 => k_is)
    (case k30 => k_is)
    (case a31 => k_is)
    (case l31 => k_is)
    (case c31 => k_is)
    (case k31 => k_is)
    (case a32 => k_is)
    (case l32 => k_is)
    (case c32 => k_is)
    (case k32 => k_is)
    (case a33 => k_is)
    (case l33 => k_is)
    (case c33 => k_is)
    (case k33 => k_is)
    (case a34 => k_is)
    (case l34 => k_is)
    (case c34 => k_is)
    (case k34 => k_is)
    (case q0 => k_is)
    (case q1 => k_is)
    (case q2 => k_is)
    (case q3 => k_is)
    (case ea0 => k_is)
    (case ex0 => k_exc)
    (case ek0 => k_is)
    (case eb0 => k_is)
    (case et0 => k_is)
    (case z0 => k_is)
    (case z1 => k_is)
    (case z2 => k_is)
    (case z3 => k_is)
    (case z4 => k_is)
    (case z5 => k_is)
    (case z6 => k_is)
    (case z7 => k_is)
    (case z8 => k_is)
    (case z9 => k_is)
    (case z10 => k_is)
    (case z11 => k_is)
    (case z12 => k_is)
    (case z13 => k_is)
    (case z14 => k_is)
    (case z15 => k_is)
    (case z16 => k_is)
