import PyProof.Rows.All
import Wide.All
import OpenK.AllK
import Wide.FinOn
import KE.KStateDown
import HandS.Base
import HandS.Call
import HandS.Ends
import HandS.More
import HandS.Words
import HandS.WordsExc
import HandS.Defaults
import HandS.Head0
import HandS.Head1
import HandS.Head2
import HandS.HeadEnd
import HandS.HeadHook1
import HandS.HeadHook2
import PySem.Challenge.RW_netturns_k87_whole_texts
import HandS.ForMost
import HandS.ForExc
import HandS.IsInst
import HandS.Rev
import HandS.Zip
import HandS.CallSlots
import HandS.TupAny
import HandS.RevTup
import HandS.Style
import HandS.Deep
import PyProof.StrBlock2
import HandS.TupLe
import KE.SortCalls
import KE.SortKeyed
import KE.SortData
import HandS.TryMany
import HandS.ExcIs
import HandS.TupMul
import KE.KDictPairs
import KE.GoesMore
import HandS.Conv
import KE.KDictList
import HandS.Remove
import HandS.BoundDict
import KE.DataMinMax
import HandS.SetFor
import KE.GoesEnum
import HandS.ListItems
import HandS.Text
import HandS.Iter
local macro_rules | `(tactic| exists $t:term, $n:ident) => `(tactic| generalize $t = $n at *)
open List renaming length_map → g8e, length_append → g9e, length_cons → h0e, mem_cons_self → h1e, mem_cons_of_mem → h2e, map_cons → h3e, append_assoc → h4e, append_nil → h5e, getElem?_eq_getElem → h7e, length_singleton → h8e, getElem?_set_ne → h9e, nil_append → i0e, getElem?_set_self → i1e, all_eq_true → i2e, getElem?_map → i3e, map_append → i4e, length_nil → i5e, map_map → i6e, mem_singleton → i7e, flatMap_cons → i8e, find?_cons → i9e, getD_eq_getElem?_getD → j1e, mem_append_left → j2e, length_range → j3e, not_mem_nil → j4e, map_nil → j6e, getElem?_eq_none → j7e, mem_append_right → j8e, getElem?_cons_succ → j9e, mem_cons → k1e, getElem?_append_left → k3e, cons_append → k4e, all_cons → k5e, all_map → k7e, getElem_mem → k8e, getElem?_append_right → k9e, drop_eq_getElem_cons → l0e, set_set → l2e, flatMap_nil → l3e, any_cons → l4e, getElem?_cons_zero → l5e, replicate_succ → l8e, mem_of_find?_eq_some → m0e, length_set → m1e, filter_eq_nil_iff → m3e, all_append → m4e, eraseIdx_sublist → m5e, length_eraseIdx_of_lt → m9e, drop_zero → n0e, any_eq_true → n1e, replicate_zero → n3e, set_cons_zero → n5e, set_cons_succ → n6e, range' → n9e, mem_range → o0e
open Bool renaming and_eq_true → h6e, true_and → k2e, false_ne_true → k6e, false_and → l6e, and_false → m2e, or_false → m6e, false_or → m7e, not_eq_true' → m8e, and_true → n4e, false_eq_true → n7e, eq_iff_iff → n8e
open Nat renaming le_refl → j0e, le_trans → l1e, zero_le → n2e
open Int renaming emod_lt_of_pos → j5e, emod_nonneg → k0e
open Option renaming isSome_map → l7e, getD_some → l9e
set_option Elab.async false
set_option linter.all false
set_option maxRecDepth 100000
set_option maxHeartbeats 4000000
namespace NT
open PySem PySem.Spec PyProof.Rows L2
abbrev Fra := PySem.W.Frag
def hT (x : Str) (st : Stmt) : He.DefD := ⟨(x, none), x, x, defArgs st, defBody st, defScope st, [], []⟩
def hA (y x : Str) (st : Stmt) : He.DefD := ⟨(y, none), x, x, defArgs st, defBody st, defScope st, [], []⟩
def hN (x : Str) (st : Stmt) : He.DefD := ⟨(x, none), x, x, defArgs st, defBody st, defScope st, [.non], []⟩
def hM (C m q : Str) (st : Stmt) : He.DefD := ⟨(C, some m), m, q, defArgs st, defBody st, defScope st, [], []⟩
def obsB (ex : List (Fra → Bool)) (fa : List He.Fa) (fn : List He.DefD) (K : Fra) : He.AlD := ((ex.all fun f => f K) && (He.obsD fa fn K).1, (He.obsD fa fn K).2)
def SaysB (ex : List (Fra → Bool)) (fa : List He.Fa) (fn : List He.DefD) (K : Fra) : Prop := obsB ex fa fn K = He.valD fn
def frL {β : Type} : List Addr → (List Addr → β) → β
 | [], k => k []
 | a :: r, k => HandSHeadRun.frNat a fun a => frL r fun r => k (a :: r)
def frK {β : Type} : Fra → (Fra → β) → β
 | [], k => k []
 | (a, o) :: r, k => HandSHeadRun.frNat a fun a => frK r fun r => k ((a, o) :: r)
theorem p8d {β : Type} : ∀ (l : Fra) (k : Fra → β), frK l k = k l
  | [], _ => rfl
  | (a, o) :: r, k => by
    unfold frK
    rw [HandSHeadRun.frNat_eq, p8d r]
def lvB (g : Addr → Option PySem.Obj) : Nat → List Addr → List Addr
 | 0, as => as
 | n + 1, as => frL (as.flatMap fun a => match g a with | some o => He.refsD o | none => []) fun bs => as ++ lvB g n bs
def fragB (n : Nat) (g : Addr → Option PySem.Obj) : Fra := He.frG g (lvB g n [mainGlobals])
def obsBG (n : Nat) (ex : List (Fra → Bool)) (fa : List He.Fa) (fn : List He.DefD) (g : Addr → Option PySem.Obj) : He.AlD := frK (fragB n g) fun K => obsB ex fa fn K
def hookB (n : Nat) (ex : List (Fra → Bool)) (fa : List He.Fa) (fn : List He.DefD) : PySem.W.Hook where
 α := He.AlD
 obs s := obsB ex fa fn (fragB n s.heap.get?)
 val _ := He.valD fn
 says _ h := ∃ K : Fra, K.In h ∧ SaysB ex fa fn K
 of _ _ e := ⟨_, He.frG_in, e⟩
 keeps _ _ _ := fun ⟨K, hK, c⟩ k => ⟨K, PySem.W.Frag.In.keeps hK k, c⟩
theorem obsBG_eq {n : Nat} {ex : List (Fra → Bool)} {fa : List He.Fa} {fn : List He.DefD} {g : Addr → Option PySem.Obj} {s : Shared} (h : ∀ a, g a = s.heap.get? a) : obsBG n ex fa fn g = (hookB n ex fa fn).obs s := by
 rw [show g = s.heap.get? from funext h]
 exact p8d _ _
end NT
set_option Elab.async false
set_option linter.all false
set_option maxRecDepth 100000
set_option maxHeartbeats 8000000
namespace Lk87
open PySem L2 NT
def topS (i : Nat) : Stmt := PySem.Challenge.pw_netturns_k87_whole_texts.main.body.getD i (.Pass ⟨0, 0, 0, 0⟩)
def faL0 : List He.Fa := [.glo "Reader", .cls "Reader", .glo "_law_alike", .glo "_law_mixed", .glo "_law_deck", .glo "_law_great", .glo "_law_next", .glo "_law_kinds", .glo "_law_names", .glo "_law_net", .glo "_law_net_words", .glo "net_words", .glo "net_text", .mkr "Reader", .meth "Reader" "is_done", .meth "Reader" "next_word", .meth "Reader" "take", .meth "Reader" "read_int", .meth "Reader" "want", .meth "Reader" "read_points", .meth "Reader" "read_ties", .meth "Reader" "read_net", .glo "are_rising", .glo "is_kind", .glo "is_int", .glo "is_name", .glo "is_tuple", .glo "are_points", .glo "are_ties", .glo "points_of", .glo "is_net", .glo "read_net", .glo "_law_net_right", .glo "_law_fresh", .glo "_law_added", .glo "_law_forbids", .glo "_law_loose", .glo "_law_part", .glo "_law_rule", .glo "_law_rule_words", .glo "are_among", .glo "is_part", .glo "is_forbid", .glo "are_forbids", .glo "are_names", .glo "is_loose", .glo "is_pair_of_names", .glo "is_small", .glo "points_stand", .glo "ties_of", .glo "ties_stand", .glo "is_rule", .glo "check", .meth "Reader" "read_ints", .meth "Reader" "read_kept", .meth "Reader" "read_loose", .meth "Reader" "read_net_in", .meth "Reader" "read_rule", .glo "read_rule", .glo "in_brackets"]
def faL1 : List He.Fa := [.glo "rule_words", .glo "rule_text", .glo "_law_rule_right", .glo "_law_turned", .glo "_law_turned_rule", .glo "law", .glo "NoRule", .exc "NoRule", .glo "NoText", .exc "NoText", .noat "Reader" "words", .noat "Reader" "at", .int "MOST_FIGURES" 7, .int "MOST_FORBIDS" 2, .int "MOST_FURTHER" 2, .int "MOST_LETTERS" 8, .int "MOST_LOOSE" 3, .int "MOST_NAME" 1000000, .int "MOST_POINTS" 400, .int "MOST_TIES" 600, .str "OPEN_SIGN" "(", .str "SHUT_SIGN" ")", .int "SMALL" 5, .free "len", .free "isinstance", .free "int", .free "bool", .free "str", .free "tuple", .free "list", .free "dict", .free "range", .free "reversed", .free "sum", .free "max", .free "min", .free "sorted", .free "zip", .free "enumerate", .free "set"]
def faL : List He.Fa := faL0 ++ faL1
def exL : List (Fra → Bool) := []
def fnL0 : List He.DefD := [hT "_law_alike" (topS 64), hT "_law_mixed" (topS 50), hT "_law_deck" (topS 52), hT "_law_great" (topS 70), hT "_law_next" (topS 53), hT "_law_kinds" (topS 65), hT "_law_names" (topS 54), hT "_law_net" (topS 55), hT "_law_net_words" (topS 62), hT "net_words" (topS 41), hT "net_text" (topS 44), hM "Reader" "__init__" "Reader.__init__" (inClass (topS 46) 0), hM "Reader" "is_done" "Reader.is_done" (inClass (topS 46) 2), hM "Reader" "next_word" "Reader.next_word" (inClass (topS 46) 1), hM "Reader" "take" "Reader.take" (inClass (topS 46) 3), hM "Reader" "read_int" "Reader.read_int" (inClass (topS 46) 5), hM "Reader" "want" "Reader.want" (inClass (topS 46) 4), hM "Reader" "read_points" "Reader.read_points" (inClass (topS 46) 7), hM "Reader" "read_ties" "Reader.read_ties" (inClass (topS 46) 8), hM "Reader" "read_net" "Reader.read_net" (inClass (topS 46) 9), hT "are_rising" (topS 12), hT "is_kind" (topS 9), hT "is_int" (topS 7), hT "is_name" (topS 8), hT "is_tuple" (topS 10), hT "are_points" (topS 17), hT "are_ties" (topS 18), hT "points_of" (topS 20), hT "is_net" (topS 19), hT "read_net" (topS 47), hT "_law_net_right" (topS 68), hT "_law_fresh" (topS 57), hT "_law_added" (topS 58), hT "_law_forbids" (topS 60), hT "_law_loose" (topS 59), hT "_law_part" (topS 56), hT "_law_rule" (topS 61), hT "_law_rule_words" (topS 63), hT "are_among" (topS 23), hT "is_part" (topS 24), hT "is_forbid" (topS 33), hT "are_forbids" (topS 34), hT "are_names" (topS 11), hT "is_loose" (topS 32), hT "is_pair_of_names" (topS 29), hT "is_small" (topS 22), hT "points_stand" (topS 30), hT "ties_of" (topS 21), hT "ties_stand" (topS 31), hT "is_rule" (topS 35), hT "check" (topS 36), hM "Reader" "read_ints" "Reader.read_ints" (inClass (topS 46) 6), hM "Reader" "read_kept" "Reader.read_kept" (inClass (topS 46) 11), hM "Reader" "read_loose" "Reader.read_loose" (inClass (topS 46) 12), hM "Reader" "read_net_in" "Reader.read_net_in" (inClass (topS 46) 10), hM "Reader" "read_rule" "Reader.read_rule" (inClass (topS 46) 13), hT "read_rule" (topS 48), hT "in_brackets" (topS 42), hT "rule_words" (topS 43), hT "rule_text" (topS 45)]
def fnL1 : List He.DefD := [hT "_law_rule_right" (topS 69), hT "_law_turned" (topS 66), hT "_law_turned_rule" (topS 67), hT "law" (topS 71)]
def fnL : List He.DefD := fnL0 ++ fnL1
def nmL0 : List Str := [("__name__" : Str), ("NetError" : Str), ("NoRule" : Str), ("NoText" : Str), ("MOST_NAME" : Str), ("MOST_LETTERS" : Str), ("is_int" : Str), ("is_name" : Str), ("is_kind" : Str), ("is_tuple" : Str), ("are_names" : Str), ("are_rising" : Str), ("MOST_POINTS" : Str), ("MOST_TIES" : Str), ("SMALL" : Str), ("are_points" : Str), ("are_ties" : Str), ("is_net" : Str), ("points_of" : Str), ("ties_of" : Str), ("is_small" : Str), ("are_among" : Str), ("is_part" : Str), ("MOST_LOOSE" : Str), ("MOST_FORBIDS" : Str), ("MOST_FURTHER" : Str), ("is_pair_of_names" : Str), ("points_stand" : Str), ("ties_stand" : Str), ("is_loose" : Str), ("is_forbid" : Str), ("are_forbids" : Str), ("is_rule" : Str), ("check" : Str), ("OPEN_SIGN" : Str), ("SHUT_SIGN" : Str), ("MOST_FIGURES" : Str), ("net_words" : Str), ("in_brackets" : Str), ("rule_words" : Str)]
def nmL1 : List Str := [("net_text" : Str), ("rule_text" : Str), ("Reader" : Str), ("read_net" : Str), ("read_rule" : Str), ("_law_mixed" : Str), ("_law_cell" : Str), ("_law_deck" : Str), ("_law_next" : Str), ("_law_names" : Str), ("_law_net" : Str), ("_law_part" : Str), ("_law_fresh" : Str), ("_law_added" : Str), ("_law_loose" : Str), ("_law_forbids" : Str), ("_law_rule" : Str), ("_law_net_words" : Str), ("_law_rule_words" : Str), ("_law_alike" : Str), ("_law_kinds" : Str), ("_law_turned" : Str), ("_law_turned_rule" : Str), ("_law_net_right" : Str), ("_law_rule_right" : Str), ("_law_great" : Str)]
def nmL : List Str := nmL0 ++ nmL1
def ob (s : PySem.W.SharedT) : He.AlD := obsBG 5 exL faL fnL (HandSHeadRun.getT s)
theorem run (w : World) : HandSHeadRun.RunEq (PySem.W.OpenLaw.row PySem.Challenge.rw_netturns_k87_whole_texts) (PySem.W.view (PySem.W.OpenLaw.row PySem.Challenge.rw_netturns_k87_whole_texts).prog [71]) (hookB 5 exL faL fnL) ob 30000 nmL w := by
 intro os
 kernel_rfl
end Lk87
set_option Elab.async false
set_option linter.all false
set_option maxRecDepth 100000
set_option maxHeartbeats 4000000
namespace NT
open PySem L2
def ExC (cls : Value) (a : Addr) : HO := .ext fun h => ∃ oe, h.get? a = some oe ∧ Zc cls none oe ∧ ∃ vs, oe.data = .fields vs
inductive D where
 | non | bl (b : Bool) | int (i : Int) | str (x : Str)
 | tup (ds : List D) | lst (ds : List D) | scr (ns : List Int)
 | dK (kvs : List (Key × D)) | dT (kvs : List (List Key × D)) | exn (a : Addr)
 | raw (ds : List D) | obj (c : Str) (fs : List (Str × D)) | hole | exo (n : Str) | fnv (n : Str)
instance : Inhabited D := ⟨.non⟩
def keyD : D → Bool
 | .int _ => true | .str _ => true | _ => false
def flat (ds : List D) : Bool := !ds.isEmpty && ds.all keyD
def Tp (G : Hp) (a : Addr) (xs : List V) (ds : List D) : Prop := (flat ds = true ∧ G a = some (.tup xs)) ∨ (flat ds = false ∧ ∃ o, G a = some (.frz o (.tup xs)) ∧ o.dict = none)
theorem Tp.rd {G : Hp} {a : Addr} {xs : List V} {ds : List D} (h : Tp G a xs ds) : Rd G a (.tup xs) := by
 rcases h with ⟨_, h⟩ | ⟨_, o, h, _⟩
 ·exact .inl h
 ·exact .inr ⟨o, h⟩
theorem Tp.ext {G G' : Hp} {a : Addr} {xs : List V} {ds : List D} (h : Tp G a xs ds) (e1 : ∀ a xs, G a = some (.tup xs) → G' a = some (.tup xs)) (e2 : ∀ a o xs, G a = some (.frz o (.tup xs)) → G' a = some (.frz o (.tup xs))) : Tp G' a xs ds := by
 rcases h with ⟨f, h⟩ | ⟨f, o, h, d⟩
 ·exact .inl ⟨f, e1 _ _ h⟩
 ·exact .inr ⟨f, o, e2 _ _ _ h, d⟩
theorem a3e {G G' : Hp} {a : Addr} {xs : List V} (h : Rd G a (.tup xs)) (e1 : ∀ a xs, G a = some (.tup xs) → G' a = some (.tup xs)) (e2 : ∀ a o xs, G a = some (.frz o (.tup xs)) → G' a = some (.frz o (.tup xs))) : Rd G' a (.tup xs) := by
 rcases h with h | ⟨o, h⟩
 ·exact .inl (e1 _ _ h)
 ·exact .inr ⟨o, e2 _ _ _ h⟩
mutual
inductive Rep (K : PySem.W.Frag) (G : Hp) : V → D → Prop
 | non : Rep K G .non .non
 | bl (b : Bool) : Rep K G (.bl b) (.bl b)
 | int (i : Int) : Rep K G (.int i) (.int i)
 | str (x : Str) : Rep K G (.str x) (.str x)
 | tup {a : Addr} {xs : List V} {ds : List D} : Tp G a xs ds → RepL K G xs ds → Rep K G (.ref a) (.tup ds)
 | lst {a : Addr} {xs : List V} {ds : List D} : G a = some (.lst xs) → RepL K G xs ds → Rep K G (.ref a) (.lst ds)
 | scr {a : Addr} {ns : List Int} : SqL K G a (ns.map V.int) → Rep K G (.ref a) (.scr ns)
 | exn {a : Addr} : Rep K G (.ref a) (.exn a)
 | dK {a : Addr} {xs : List (Key × V)} {ds : List (Key × D)} : Rd G a (.dK xs) → RepK K G xs ds → Rep K G (.ref a) (.dK ds)
 | dT {a : Addr} {xs : List (List Key × V)} {ds : List (List Key × D)} : Rd G a (.dT xs) → RepT K G xs ds → Rep K G (.ref a) (.dT ds)
 | raw {a : Addr} {xs : List V} {ds : List D} : Rd G a (.tup xs) → RepL K G xs ds → Rep K G (.ref a) (.raw ds)
 | hole {a : Addr} : Rep K G (.ref a) .hole
 | exo {a C : Addr} {n : Str} : PySem.W.nsIn K mainGlobals n = some (some (.ref C)) → G a = some (ExC (.ref C) a) → Rep K G (.ref a) (.exo n)
 | fnv {a : Addr} {n : Str} : PySem.W.nsIn K mainGlobals n = some (some (.ref a)) → Rep K G (.ref a) (.fnv n)
 | obj {a C dx : Addr} {c : Str} {xs : List (Str × V)} {fs : List (Str × D)} : PySem.W.nsIn K mainGlobals c = some (some (.ref C)) → G a = some (.ins C dx xs) → RepF K G xs fs → Rep K G (.ref a) (.obj c fs)
inductive RepL (K : PySem.W.Frag) (G : Hp) : List V → List D → Prop
 | nil : RepL K G [] []
 | cons {v : V} {vs : List V} {d : D} {ds : List D} : Rep K G v d → RepL K G vs ds → RepL K G (v :: vs) (d :: ds)
inductive RepK (K : PySem.W.Frag) (G : Hp) : List (Key × V) → List (Key × D) → Prop
 | nil : RepK K G [] []
 | cons {k : Key} {v : V} {vs : List (Key × V)} {d : D} {ds : List (Key × D)} : Rep K G v d → RepK K G vs ds → RepK K G ((k, v) :: vs) ((k, d) :: ds)
inductive RepT (K : PySem.W.Frag) (G : Hp) : List (List Key × V) → List (List Key × D) → Prop
 | nil : RepT K G [] []
 | cons {k : List Key} {v : V} {vs : List (List Key × V)} {d : D} {ds : List (List Key × D)} : Rep K G v d → RepT K G vs ds → RepT K G ((k, v) :: vs) ((k, d) :: ds)
inductive RepF (K : PySem.W.Frag) (G : Hp) : List (Str × V) → List (Str × D) → Prop
 | nil : RepF K G [] []
 | cons {k : Str} {v : V} {vs : List (Str × V)} {d : D} {ds : List (Str × D)} : Rep K G v d → RepF K G vs ds → RepF K G ((k, v) :: vs) ((k, d) :: ds)
end
structure Ext (K : PySem.W.Frag) (G G' : Hp) : Prop where
 tup : ∀ a xs, G a = some (.tup xs) → G' a = some (.tup xs)
 tupF : ∀ a o xs, G a = some (.frz o (.tup xs)) → G' a = some (.frz o (.tup xs))
 ins : ∀ a C dx xs, G a = some (.ins C dx xs) → G' a = some (.ins C dx xs)
 lst : ∀ a xs, G a = some (.lst xs) → G' a = some (.lst xs)
 scr : ∀ a xs, SqL K G a xs → SqL K G' a xs
 dK : ∀ a xs, Rd G a (.dK xs) → Rd G' a (.dK xs)
 dT : ∀ a xs, Rd G a (.dT xs) → Rd G' a (.dT xs)
 exc : ∀ a φ, G a = some (.ext φ) → G' a = some (.ext φ)
mutual
theorem Rep.ext {K : PySem.W.Frag} {G G' : Hp} (e : Ext K G G') : ∀ {v : V} {d : D}, Rep K G v d → Rep K G' v d
 | _, _, .non => .non
 | _, _, .bl b => .bl b
 | _, _, .int i => .int i
 | _, _, .str x => .str x
 | _, _, .tup h r => .tup (h.ext e.tup e.tupF) (RepL.ext e r)
 | _, _, .lst h r => .lst (e.lst _ _ h) (RepL.ext e r)
 | _, _, .scr h => .scr (e.scr _ _ h)
 | _, _, .exn => .exn
 | _, _, .dK h r => .dK (e.dK _ _ h) (RepK.ext e r)
 | _, _, .dT h r => .dT (e.dT _ _ h) (RepT.ext e r)
 | _, _, .raw h r => .raw (a3e h e.tup e.tupF) (RepL.ext e r)
 | _, _, .obj h1 h2 r => .obj h1 (e.ins _ _ _ _ h2) (RepF.ext e r)
 | _, _, .hole => .hole
 | _, _, .exo h1 h2 => .exo h1 (e.exc _ _ h2)
 | _, _, .fnv h1 => .fnv h1
theorem RepL.ext {K : PySem.W.Frag} {G G' : Hp} (e : Ext K G G') : ∀ {v : List V} {d : List D}, RepL K G v d → RepL K G' v d
 | _, _, .nil => .nil
 | _, _, .cons h r => .cons (Rep.ext e h) (RepL.ext e r)
theorem RepK.ext {K : PySem.W.Frag} {G G' : Hp} (e : Ext K G G') : ∀ {v : List (Key × V)} {d : List (Key × D)}, RepK K G v d → RepK K G' v d
 | _, _, .nil => .nil
 | _, _, .cons h r => .cons (Rep.ext e h) (RepK.ext e r)
theorem RepT.ext {K : PySem.W.Frag} {G G' : Hp} (e : Ext K G G') : ∀ {v : List (List Key × V)} {d : List (List Key × D)}, RepT K G v d → RepT K G' v d
 | _, _, .nil => .nil
 | _, _, .cons h r => .cons (Rep.ext e h) (RepT.ext e r)
theorem RepF.ext {K : PySem.W.Frag} {G G' : Hp} (e : Ext K G G') : ∀ {v : List (Str × V)} {d : List (Str × D)}, RepF K G v d → RepF K G' v d
 | _, _, .nil => .nil
 | _, _, .cons h r => .cons (Rep.ext e h) (RepF.ext e r)
end
abbrev Ex (G H : Hp) : Prop := Same G H
theorem Ex.rd {G H : Hp} (e : Ex G H) {a : Addr} {u : HO} (h : Rd G a u) : Rd H a u := by
 rcases h with h | ⟨o, h⟩
 ·exact .inl (e _ _ h)
 ·exact .inr ⟨o, e _ _ h⟩
theorem Ex.ext {K : PySem.W.Frag} {G H : Hp} (e : Ex G H) : Ext K G H := ⟨fun _ _ h => e _ _ h, fun _ _ _ h => e _ _ h, fun _ _ _ _ h => e _ _ h, fun _ _ h => e _ _ h, fun _ _ h => Same.seq e h, fun _ _ h => e.rd h, fun _ _ h => e.rd h, fun _ _ h => e _ _ h⟩
theorem Rep.mono {K : PySem.W.Frag} {G H : Hp} (e : Ex G H) {v : V} {d : D} (h : Rep K G v d) : Rep K H v d := h.ext e.ext
theorem RepL.mono {K : PySem.W.Frag} {G H : Hp} (e : Ex G H) {v : List V} {d : List D} (h : RepL K G v d) : RepL K H v d := h.ext e.ext
theorem RepK.mono {K : PySem.W.Frag} {G H : Hp} (e : Ex G H) {v : List (Key × V)} {d : List (Key × D)} (h : RepK K G v d) : RepK K H v d := h.ext e.ext
theorem RepT.mono {K : PySem.W.Frag} {G H : Hp} (e : Ex G H) {v : List (List Key × V)} {d : List (List Key × D)} (h : RepT K G v d) : RepT K H v d := h.ext e.ext
theorem RepF.mono {K : PySem.W.Frag} {G H : Hp} (e : Ex G H) {v : List (Str × V)} {d : List (Str × D)} (h : RepF K G v d) : RepF K H v d := h.ext e.ext
theorem RepL.length {K : PySem.W.Frag} {G : Hp} : ∀ {v : List V} {d : List D}, RepL K G v d → v.length = d.length
 | _, _, .nil => rfl
 | _, _, .cons _ r => by rw [h0e, h0e, RepL.length r]
theorem RepL.append {K : PySem.W.Frag} {G : Hp} : ∀ {v w : List V} {d e : List D}, RepL K G v d → RepL K G w e → RepL K G (v ++ w) (d ++ e)
 | _, _, _, _, .nil, h => h
 | _, _, _, _, .cons h r, q => .cons h (RepL.append r q)
theorem RepL.get {K : PySem.W.Frag} {G : Hp} : ∀ {v : List V} {d : List D} {i : Nat} {x : D}, RepL K G v d → d[i]? = some x → ∃ u, v[i]? = some u ∧ Rep K G u x
  | _, _, _, _, .nil, e => by simp at e
  | _, _, 0, _, .cons h _, e => by simp at e; subst e; exact ⟨_, rfl, h⟩
  | _, _, i + 1, x, .cons _ r, e => by
    obtain ⟨u, h1, h2⟩ := RepL.get (i := i) (x := x) r (by simpa using e)
    exact ⟨u, by simpa using h1, h2⟩
theorem RepL.set {K : PySem.W.Frag} {G : Hp} {u : V} {x : D} (hx : Rep K G u x) : ∀ {v : List V} {d : List D} (i : Nat), RepL K G v d → RepL K G (v.set i u) (d.set i x)
 | _, _, _, .nil => .nil
 | _, _, 0, .cons _ r => .cons hx r
 | _, _, i + 1, .cons h r => .cons h (RepL.set hx i r)
theorem RepL.take {K : PySem.W.Frag} {G : Hp} : ∀ {v : List V} {d : List D} (i : Nat), RepL K G v d → RepL K G (v.take i) (d.take i)
 | _, _, 0, _ => .nil
 | _, _, _ + 1, .nil => .nil
 | _, _, i + 1, .cons h r => .cons h (RepL.take i r)
theorem RepL.drop {K : PySem.W.Frag} {G : Hp} : ∀ {v : List V} {d : List D} (i : Nat), RepL K G v d → RepL K G (v.drop i) (d.drop i)
 | _, _, 0, h => h
 | _, _, _ + 1, .nil => .nil
 | _, _, i + 1, .cons _ r => RepL.drop i r
theorem RepL.reverse {K : PySem.W.Frag} {G : Hp} : ∀ {v : List V} {d : List D}, RepL K G v d → RepL K G v.reverse d.reverse
  | _, _, .nil => .nil
  | _, _, .cons h r => by
    rw [List.reverse_cons, List.reverse_cons]
    exact RepL.append (RepL.reverse r) (.cons h .nil)
theorem RepL.dropLast {K : PySem.W.Frag} {G : Hp} {v : List V} {d : List D} (h : RepL K G v d) : RepL K G v.dropLast d.dropLast := by
 rw [List.dropLast_eq_take, List.dropLast_eq_take, h.length]
 exact h.take _
theorem RepL.ints {K : PySem.W.Frag} {G : Hp} : ∀ (ns : List Int), RepL K G (ns.map V.int) (ns.map D.int)
 | [] => .nil
 | n :: ns => .cons (.int n) (RepL.ints ns)
theorem RepL.ints_inv {K : PySem.W.Frag} {G : Hp} : ∀ {ns : List Int} {vs : List V}, RepL K G vs (ns.map D.int) → vs = ns.map V.int
  | [], _, .nil => rfl
  | n :: ns, _, .cons h r => by
    cases h
    rw [h3e, RepL.ints_inv r]
mutual
def plain : D → Bool
 | .non => true | .bl _ => true | .int _ => true | .str _ => true
 | .tup ds => plainL ds
 | _ => false
def plainL : List D → Bool
 | [] => true
 | d :: ds => plain d && plainL ds
end
mutual
theorem Rep.plain {K : PySem.W.Frag} {G G' : Hp} (e : (∀ a xs, G a = some (.tup xs) → G' a = some (.tup xs)) ∧ ∀ a o xs, G a = some (.frz o (.tup xs)) → G' a = some (.frz o (.tup xs))) : ∀ {v : V} {d : D}, Rep K G v d → NT.plain d = true → Rep K G' v d
 | _, _, .non, _ => .non
 | _, _, .bl b, _ => .bl b
 | _, _, .int i, _ => .int i
 | _, _, .str x, _ => .str x
 | _, _, .tup h r, p => .tup (h.ext e.1 e.2) (RepL.plain e r (by simpa [NT.plain] using p))
 | _, _, .lst _ _, p => by simp [NT.plain] at p
 | _, _, .scr _, p => by simp [NT.plain] at p
 | _, _, .dK _ _, p => by simp [NT.plain] at p
 | _, _, .dT _ _, p => by simp [NT.plain] at p
 | _, _, .raw _ _, p => by simp [NT.plain] at p
 | _, _, .obj _ _ _, p => by simp [NT.plain] at p
 | _, _, .hole, p => by simp [NT.plain] at p
 | _, _, .exo _ _, p => by simp [NT.plain] at p
 | _, _, .fnv _, p => by simp [NT.plain] at p
theorem RepL.plain {K : PySem.W.Frag} {G G' : Hp} (e : (∀ a xs, G a = some (.tup xs) → G' a = some (.tup xs)) ∧ ∀ a o xs, G a = some (.frz o (.tup xs)) → G' a = some (.frz o (.tup xs))) : ∀ {v : List V} {d : List D}, RepL K G v d → plainL d = true → RepL K G' v d
  | _, _, .nil, _ => .nil
  | _, _, .cons h r, p => by
    simp [plainL] at p
    exact .cons (Rep.plain e h p.1) (RepL.plain e r p.2)
end
inductive Sl where
 | no | val (d : D) | own (d : D) | bor (d : D)
instance : Inhabited Sl := ⟨.no⟩
def Sl.mine : Sl → Option D
 | .own d => some d
 | .bor d => some d
 | _ => none
def Obj (K : PySem.W.Frag) (G H : Hp) (l : Addr) : D → Prop
 | .lst ds => ∃ xs, H l = some (.lst xs) ∧ RepL K G xs ds
 | .dK kvs => ∃ xs, H l = some (.dK xs) ∧ RepK K G xs kvs
 | .dT kvs => ∃ xs, H l = some (.dT xs) ∧ RepT K G xs kvs
 | .obj c fs => ∃ C dx xs, PySem.W.nsIn K mainGlobals c = some (some (.ref C)) ∧ H l = some (.ins C dx xs) ∧ RepF K G xs fs
 | _ => False
theorem Obj.mono {K : PySem.W.Frag} {G G' H H' : Hp} {l : Addr} {d : D} (e : Ext K G G') (h : Obj K G H l d) (hl : H' l = H l) : Obj K G' H' l d := by
 cases d with
 | lst ds => obtain ⟨xs, a, b⟩ := h; exact ⟨xs, hl.trans a, b.ext e⟩
 | dK ds => obtain ⟨xs, a, b⟩ := h; exact ⟨xs, hl.trans a, b.ext e⟩
 | dT ds => obtain ⟨xs, a, b⟩ := h; exact ⟨xs, hl.trans a, b.ext e⟩
 | obj c fs => obtain ⟨C, dx, xs, n, a, b⟩ := h; exact ⟨C, dx, xs, n, hl.trans a, b.ext e⟩
 | _ => exact h.elim
theorem Obj.some {K : PySem.W.Frag} {G H : Hp} {l : Addr} {d : D} (h : Obj K G H l d) : ∃ o, H l = .some o := by
 cases d with
 | lst ds => obtain ⟨xs, a, b⟩ := h; exact ⟨_, a⟩
 | dK ds => obtain ⟨xs, a, b⟩ := h; exact ⟨_, a⟩
 | dT ds => obtain ⟨xs, a, b⟩ := h; exact ⟨_, a⟩
 | obj c fs => obtain ⟨C, dx, xs, n, a, b⟩ := h; exact ⟨_, a⟩
 | _ => exact h.elim
theorem Obj.notFrz {K : PySem.W.Frag} {G H : Hp} {l : Addr} {d : D} (h : Obj K G H l d) (o : PySem.Obj) (u : HO) : H l ≠ .some (.frz o u) := by
 intro z
 cases d with
 | lst ds => obtain ⟨xs, a, b⟩ := h; rw [a] at z; cases z
 | dK ds => obtain ⟨xs, a, b⟩ := h; rw [a] at z; cases z
 | dT ds => obtain ⟨xs, a, b⟩ := h; rw [a] at z; cases z
 | obj c fs => obtain ⟨C, dx, xs, n, a, b⟩ := h; rw [a] at z; cases z
 | _ => exact h.elim
theorem Obj.notTup {K : PySem.W.Frag} {G H : Hp} {l : Addr} {d : D} (h : Obj K G H l d) (xs : List V) : H l ≠ .some (.tup xs) := by
 intro z
 cases d with
 | lst ds => obtain ⟨xs, a, b⟩ := h; rw [a] at z; cases z
 | dK ds => obtain ⟨xs, a, b⟩ := h; rw [a] at z; cases z
 | dT ds => obtain ⟨xs, a, b⟩ := h; rw [a] at z; cases z
 | obj c fs => obtain ⟨C, dx, xs, n, a, b⟩ := h; rw [a] at z; cases z
 | _ => exact h.elim
theorem Obj.rep {K : PySem.W.Frag} {G H : Hp} {l : Addr} {d : D} (h : Obj K G H l d) (hl : G l = Option.none) {o : HO} (ho : H l = .some o) : Rep K (upd G l o) (.ref l) d := by
 have e : Ex G (upd G l o) := fun b x q => by
  rw [upd_ne (ne_of_none q hl)]
  exact q
 cases d with
 | lst ds => obtain ⟨xs, a, b⟩ := h; rw [a] at ho; cases ho; exact .lst upd_same (b.mono e)
 | dK ds => obtain ⟨xs, a, b⟩ := h; rw [a] at ho; cases ho; exact .dK (.inl upd_same) (b.mono e)
 | dT ds => obtain ⟨xs, a, b⟩ := h; rw [a] at ho; cases ho; exact .dT (.inl upd_same) (b.mono e)
 | obj c fs => obtain ⟨C, dx, xs, n, a, b⟩ := h; rw [a] at ho; cases ho; exact .obj n upd_same (b.mono e)
 | _ => exact h.elim
structure Fm where
 H0 : Hp
 G0 : Hp
 B : List (Nat × Addr)
structure CS (K : PySem.W.Frag) (F : Fm) (G H : Hp) (σ : St) (ρ : List Sl) : Prop where
 ex : Ex G H
 g0 : Ex F.G0 G
 fr : ∀ b o, F.H0 b = some o → (∀ i, (i, b) ∉ F.B) → H b = some o
 gn : ∀ b, F.G0 b = none → G b ≠ none → F.H0 b = none ∨ ∃ xs, G b = some (.tup xs)
 len : σ.length = ρ.length
 vals : ∀ (i : Nat) d, ρ[i]? = some (.val d) → ∃ v, σ[i]? = some (some v) ∧ Rep K G v d
 owns : ∀ (i : Nat) d, ρ[i]? = some (.own d) → ∃ l, σ[i]? = some (some (.ref l)) ∧ Obj K G H l d ∧ G l = none ∧ F.H0 l = none
 bors : ∀ (i : Nat) d, ρ[i]? = some (.bor d) → ∃ l, σ[i]? = some (some (.ref l)) ∧ Obj K G H l d ∧ G l = none ∧ (i, l) ∈ F.B
 bb : ∀ (i : Nat) l, (i, l) ∈ F.B → ∃ d, ρ[i]? = some (.bor d) ∧ σ[i]? = some (some (.ref l))
 sep : ∀ (i j : Nat) (s t : Sl) (d e : D) (l : Addr), i ≠ j → ρ[i]? = some s → s.mine = some d → ρ[j]? = some t → t.mine = some e → σ[i]? = some (some (.ref l)) → σ[j]? ≠ some (some (.ref l))
section
variable {K : PySem.W.Frag} {F : Fm} {G H : Hp} {σ : St} {ρ : List Sl}
theorem CS.mine (c : CS K F G H σ ρ) {i : Nat} {s : Sl} {d : D} (h : ρ[i]? = some s) (hm : s.mine = some d) : ∃ l, σ[i]? = some (some (.ref l)) ∧ Obj K G H l d ∧ G l = none ∧ (F.H0 l = none ∨ (i, l) ∈ F.B) := by
  cases s with
  | own e =>
    cases hm
    obtain ⟨l, a, b, x, y⟩ := c.owns i _ h
    exact ⟨l, a, b, x, .inl y⟩
  | bor e =>
    cases hm
    obtain ⟨l, a, b, x, y⟩ := c.bors i _ h
    exact ⟨l, a, b, x, .inr y⟩
  | no => cases hm
  | val e => cases hm
theorem CS.fresh (c : CS K F G H σ ρ) {p : Addr} (h : H p = none) : F.H0 p = none ∧ G p = none ∧ F.G0 p = none := by
  have hg : G p = none := Same.free c.ex h
  refine ⟨?_, hg, Same.free c.g0 hg⟩
  cases q : F.H0 p with
  | none => rfl
  | some o =>
    by_cases hb : ∃ i, (i, p) ∈ F.B
    · obtain ⟨i, hi⟩ := hb
      obtain ⟨d, h1, h2⟩ := c.bb i p hi
      obtain ⟨l, h3, h4, _⟩ := c.bors i d h1
      rw [h2] at h3
      cases h3
      obtain ⟨o', e⟩ := h4.some
      rw [h] at e
      cases e
    · have := c.fr p o q fun i hi => hb ⟨i, hi⟩
      rw [h] at this
      cases this
theorem CS.notMine (c : CS K F G H σ ρ) {p : Addr} (h : H p = none) {i : Nat} {s : Sl} {d : D} (hi : ρ[i]? = some s) (hm : s.mine = some d) : σ[i]? ≠ some (some (.ref p)) := by
 intro z
 obtain ⟨l, h1, h2, _⟩ := c.mine hi hm
 rw [z] at h1
 cases h1
 obtain ⟨o, e⟩ := h2.some
 rw [h] at e
 cases e
theorem CS.alloc (c : CS K F G H σ ρ) {p : Addr} (h : H p = none) (o : HO) : CS K F (upd G p o) (upd H p o) σ ρ := by
 obtain ⟨h0, hg, hg0⟩ := c.fresh h
 have eG : Ex G (upd G p o) := fun b x e => by
  rw [upd_ne (ne_of_none e hg)]
  exact e
 have keep : ∀ {l d}, Obj K G H l d → G l = none → Obj K (upd G p o) (upd H p o) l d ∧ (upd G p o) l = none := fun {l d} ho hl => by
  obtain ⟨u, e⟩ := ho.some
  have ne : l ≠ p := ne_of_none e h
  exact ⟨ho.mono eG.ext (upd_ne ne), by rw [upd_ne ne]; exact hl⟩
 refine ⟨fun b x e => ?_, c.g0.trans eG, fun b x e hb => ?_, fun b e1 e2 => ?_, c.len, fun i d e => ?_, fun i d e => ?_, fun i d e => ?_, c.bb, c.sep⟩
 ·by_cases hb : b = p
  ·subst hb
   rw [upd_same] at e ⊢
   exact e
  ·rw [upd_ne hb] at e ⊢
   exact c.ex _ _ e
 ·have e1 := c.fr b x e hb
  rw [upd_ne (ne_of_none e1 h)]
  exact e1
 ·by_cases hb : b = p
  ·subst hb; exact .inl h0
  ·rw [upd_ne hb] at e2 ⊢
   exact c.gn b e1 e2
 ·obtain ⟨v, a, b⟩ := c.vals i d e
  exact ⟨v, a, b.mono eG⟩
 ·obtain ⟨l, a, b, x, y⟩ := c.owns i d e
  obtain ⟨k1, k2⟩ := keep b x
  exact ⟨l, a, k1, k2, y⟩
 ·obtain ⟨l, a, b, x, y⟩ := c.bors i d e
  obtain ⟨k1, k2⟩ := keep b x
  exact ⟨l, a, k1, k2, y⟩
theorem CS.allocN (c : CS K F G H σ ρ) {p : Addr} (h : H p = none) (o : HO) : CS K F G (upd H p o) σ ρ := by
 obtain ⟨h0, hg, hg0⟩ := c.fresh h
 have keep : ∀ {l d}, Obj K G H l d → Obj K G (upd H p o) l d := fun {l d} ho => by
  obtain ⟨u, e⟩ := ho.some
  exact ho.mono (Ex.ext (Same.refl G)) (upd_ne (ne_of_none e h))
 refine ⟨fun b x e => ?_, c.g0, fun b x e hb => ?_, c.gn, c.len, c.vals, fun i d e => ?_, fun i d e => ?_, c.bb, c.sep⟩
 ·rw [upd_ne (ne_of_none e hg)]
  exact c.ex _ _ e
 ·have e1 := c.fr b x e hb
  rw [upd_ne (ne_of_none e1 h)]
  exact e1
 ·obtain ⟨l, a, b, x, y⟩ := c.owns i d e
  exact ⟨l, a, keep b, x, y⟩
 ·obtain ⟨l, a, b, x, y⟩ := c.bors i d e
  exact ⟨l, a, keep b, x, y⟩
end
def layT (xs : List V) (H : Hp) (Q : VK) : Prop := (∀ p, H p = none → Q (.ref p) (upd H p (.tup xs))) ∨ ∀ p (o : PySem.Obj), H p = none → o.dict = none → Q (.ref p) (upd H p (.frz o (.tup xs)))
section
variable {X : Cx}
theorem y1b {pins : List (Addr × PySem.Obj)} {σ : St} {H : Hp} {s : Shared} {xs : List V} {its : List Value} {Q : VK} {ob : PySem.Obj} {n : Nat} (I : Inv X pins σ H s) (hz : xs.length ≤ sizeLine) (r : Vals xs its) (hc : ob.cls = .type "tuple") (hd : ob.dict = none) (ha : ob.data = .seq its.toArray n) (q : layT xs H Q) (hf : ob.isFreed = false := by rfl) :
  EP X pins σ Q (.ref s.heap.objs.size) { s with heap := s.heap.push ob } := by
 have g0 : (s.heap.push ob).get? s.heap.objs.size = some ob := Heap.get?_push_size _ hf
 have it : PyProof.Rows.IsTup (s.heap.push ob) s.heap.objs.size its.toArray := ⟨ob, g0, hc, n, ha⟩
 rcases q with q | q
 ·exact ⟨.ref s.heap.objs.size, _, I.laid (t' := s.toks) (o := .tup xs) (fun b _ e => Heap.get?_push_of_some _ e) (j0e _) ⟨hz, its, r, it⟩, rfl, q _ (I.hok.fresh (j0e _))⟩
 ·exact ⟨.ref s.heap.objs.size, _, I.laid (t' := s.toks) (o := .frz ob (.tup xs)) (fun b _ e => Heap.get?_push_of_some _ e) (j0e _) ⟨g0, hz, its, r, it⟩, rfl, q _ ob (I.hok.fresh (j0e _)) hd⟩
def tTupL (t : TA) : TE := fun σ H Q => t σ H fun xs H1 => xs.length ≤ sizeLine ∧ layT xs H1 Q
theorem s2d {es : List Expr} {t : TA} {x1 : _} {pos : Pos} (h : PA X es t) : PE X (.Tuple es x1 pos) (tTupL t) := ⟨fun pins s σ H Q I hq => by
 refine wpAny_Tuple_spliced (thn (h.run pos pins s σ H _ I hq) ?_)
 rintro us s1 ⟨xs, H1, I1, r, z, q⟩
 exact ⟨by rw [← r.length]; exact z, y1b I1 z r rfl rfl rfl q⟩⟩
theorem b7a : CallR X (.type "tuple") (fun xs H Q => ∃ p ys, xs = [.ref p] ∧ ((SqL X.K H p ys ∧ layT ys H Q) ∨ (SqT X.K H p ys ∧ Q (.ref p) H))) := fun pins s σ H xs us Q I r h => by
 obtain ⟨p, ys, ex, h⟩ := h
 subst ex
 obtain ⟨u, eu, rx⟩ := vals1 r
 subst eu
 cases rx
 rcases h with ⟨hq, q⟩ | ⟨hq, q⟩
 ·obtain ⟨its, rv, pl, hz⟩ := I.list hq
  have hn := rv.length
  refine call_tuple_list pl.isList (fun hh kp => ?_) (by rw [List.size_toArray]; omega)
  have J : Inv X pins σ H { s with heap := hh } := I.kept (t' := s.toks) kp
  exact y1b J hz rv rfl rfl rfl q
 ·obtain ⟨its, rv, pl, hz⟩ := I.tuple hq
  exact call_tuple_same pl ⟨.ref p, H, I, rfl, q⟩
def rCatL (K : PySem.W.Frag) : R2 := fun x y H Q => ∃ a b xs ys, (x = .ref a ∧ y = .ref b ∧ SqT K H a xs ∧ SqT K H b ys ∧ xs.length + ys.length ≤ sizeLine) ∧
 (xs = [] → Q (.ref b) H) ∧ (xs ≠ [] → ys = [] → Q (.ref a) H) ∧ (xs ≠ [] → ys ≠ [] → layT (xs ++ ys) H Q)
theorem s3d : OpR X (binaryOp .Add) (rCatL X.K) := fun pins s σ H x y v u Q I rx ry h => by
 obtain ⟨a, b, xs, ys, ⟨ex, ey, ha, hb, hz⟩, q0, q1, q2⟩ := h
 subst ex ey
 cases rx
 cases ry
 obtain ⟨its, r1, p1, _⟩ := I.tuple ha
 obtain ⟨jts, r2, p2, _⟩ := I.tuple hb
 by_cases hx : xs = []
 ·subst hx
  cases r1
  exact cat_tup0 p1 p2 ⟨.ref b, H, I, rfl, q0 rfl⟩
 ·refine HT.cat_tup p1 p2 (fun z => hx (r1.nil_iff.mp z)) (fun z => ⟨.ref a, H, I, rfl, q1 hx (r2.nil_iff.mp z)⟩) (fun z => ?_) (by rw [← r1.length, ← r2.length]; exact hz)
  exact y1b I (by rw [g9e]; exact hz) (r1.append r2) rfl rfl rfl (q2 hx fun w => z (r2.nil_iff.mpr w))
def rSlL2 (K : PySem.W.Frag) : V → Option Int → Option Int → Hp → VK → Prop := fun x lo hi H Q => ∃ a xs, (x = .ref a ∧ SqT K H a xs) ∧
 (HT.sIx xs.length 0 lo = 0 ∧ HT.sIx xs.length xs.length hi = xs.length → Q (.ref a) H) ∧ (¬ (HT.sIx xs.length 0 lo = 0 ∧ HT.sIx xs.length xs.length hi = xs.length) → layT (cutV xs lo hi) H Q)
theorem s4d : SlR X (rSlL2 X.K) := fun pins s σ H x v vl vu lo hi sl Q I rx hs pl pu h => by
 obtain ⟨a, xs, ⟨ex, hx⟩, q1, q2⟩ := h
 subst ex
 cases rx
 obtain ⟨its, r, ht, hz⟩ := I.tuple hx
 have hn : its.toArray.size = xs.length := (List.size_toArray).trans r.length.symm
 refine ⟨"tuple", _, PyProof.Rows.slot_tuple_getitem.lookup, ht.typeIs, ?_⟩
 by_cases hw : HT.sIx xs.length 0 lo = 0 ∧ HT.sIx xs.length xs.length hi = xs.length
 ·exact getItem_tuple_whole ht hs pl pu (by rw [hn]; exact hw) ⟨.ref a, H, I, rfl, q1 hw⟩
 ·refine HT.getItem_tuple_cut ht hs pl pu (by rw [hn]; exact hw) ?_ (by rw [hn]; exact hz)
  rw [hn]
  exact y1b I (l1e (cutV_length xs lo hi) hz) ((r.drop _).take _) rfl rfl rfl (q2 hw)
end
end NT
set_option Elab.async false
set_option linter.all false
set_option maxRecDepth 100000
set_option maxHeartbeats 4000000
namespace NT
open PySem L2
inductive R (α : Type) where
 | ok (a : α) (ρ : List Sl) | ex (c : Nat) (ρ : List Sl) | bad
abbrev M (α : Type) := List Sl → R α
def mpure {α : Type} (a : α) : M α := fun ρ => .ok a ρ
def mbind {α β : Type} (m : M α) (k : α → M β) : M β := fun ρ => match m ρ with
 | .ok a ρ' => k a ρ'
 | .ex c ρ' => .ex c ρ'
 | .bad => .bad
def lift {α : Type} (o : Option α) : M α := fun ρ => match o with
 | some a => .ok a ρ
 | none => .bad
def wpR {α : Type} (r : R α) (P : α → List Sl → Prop) (E : Nat → List Sl → Prop) : Prop := match r with
 | .ok a ρ => P a ρ
 | .ex c ρ => E c ρ
 | .bad => False
theorem a8a {α β : Type} {m : M α} {k : α → M β} {ρ : List Sl} {P : β → List Sl → Prop} {E : Nat → List Sl → Prop} (h : wpR (mbind m k ρ) P E) : wpR (m ρ) (fun a ρ' => wpR (k a ρ') P E) E := by
 unfold mbind at h
 cases e : m ρ with
 | ok a ρ' => rw [e] at h; exact h
 | ex c ρ' => rw [e] at h; exact h
 | bad => rw [e] at h; exact h
theorem wpR.mono {α : Type} {r : R α} {P P' : α → List Sl → Prop} {E E' : Nat → List Sl → Prop} (h : wpR r P E) (hp : ∀ a ρ, P a ρ → P' a ρ) (he : ∀ c ρ, E c ρ → E' c ρ) : wpR r P' E' := by
 cases r with
 | ok a ρ => exact hp _ _ h
 | ex c ρ => exact he _ _ h
 | bad => exact h
theorem c9a {α : Type} {o : Option α} {ρ : List Sl} {P : α → List Sl → Prop} {E : Nat → List Sl → Prop} (h : wpR (lift o ρ) P E) : ∃ a, o = some a ∧ P a ρ := by
 unfold lift at h
 cases o with
 | some a => exact ⟨a, rfl, h⟩
 | none => exact h.elim
def NoOwn (ρ : List Sl) : Prop := ∀ (i : Nat) s, ρ[i]? = some s → s.mine = none
def Inert {α : Type} (f : M α) : Prop := ∀ ρ, NoOwn ρ → ∀ a ρ', f ρ = .ok a ρ' → ρ' = ρ
theorem d6a {α : Type} {a : α} : Inert (mpure a) := fun ρ _ b ρ' h => by
 cases h; rfl
theorem c1a {α : Type} {o : Option α} : Inert (lift o) := fun ρ _ b ρ' h => by
 unfold lift at h
 cases o with
 | some a => cases h; rfl
 | none => cases h
theorem a7a {α β : Type} {m : M α} {k : α → M β} (hm : Inert m) (hk : ∀ a, Inert (k a)) : Inert (mbind m k) := fun ρ n b ρ' h => by
  unfold mbind at h
  cases e : m ρ with
  | ok a ρ1 =>
    rw [e] at h
    have e1 := hm ρ n a ρ1 e
    subst e1
    exact hk a ρ1 n b ρ' h
  | ex c ρ' => rw [e] at h; cases h
  | bad => rw [e] at h; cases h
section
variable (K : PySem.W.Frag) (cls : Nat → Value) (W : WX)
def POk (F : Fm) (G : Hp) (σ : St) (Q : VK) : D → List Sl → Prop := fun d ρ' => ∀ v G' H', Ex G G' → CS K F G' H' σ ρ' → Rep K G' v d → Q v H'
def PEx (F : Fm) (G : Hp) (σ : St) : Nat → List Sl → Prop := fun c ρ' => ∀ G' H', Ex G G' → CS K F G' H' σ ρ' → W (cls c) none σ H'
structure Fr (F : Fm) (G H : Hp) (σ : St) (ρ : List Sl) (l : Addr) (d : D) : Prop where
 obj : Obj K G H l d
 g : G l = none
 h0 : F.H0 l = none
 nm : ∀ (i : Nat) s e, ρ[i]? = some s → s.mine = some e → σ[i]? ≠ some (some (.ref l))
def PNw (F : Fm) (G : Hp) (σ : St) (Q : VK) : D → List Sl → Prop := fun d ρ' => ∀ l G' H', Ex G G' → CS K F G' H' σ ρ' → Fr K F G' H' σ ρ' l d → Q (.ref l) H'
def PTt (F : Fm) (G : Hp) (σ : St) (Q : Bool → Hp → Prop) : Bool → List Sl → Prop := fun b ρ' => ∀ G' H', Ex G G' → CS K F G' H' σ ρ' → Q b H'
def PAr (F : Fm) (G : Hp) (σ : St) (Q : List V → Hp → Prop) : List D → List Sl → Prop := fun ds ρ' => ∀ vs G' H', Ex G G' → CS K F G' H' σ ρ' → RepL K G' vs ds → Q vs H'
def SimE (te : TE) (f : M D) : Prop := ∀ F ρ σ G H, CS K F G H σ ρ → ∀ Q : VK, wpR (f ρ) (POk K F G σ Q) (PEx K cls W F G σ) → te σ H Q
def SimN (te : TE) (f : M D) : Prop := ∀ F ρ σ G H, CS K F G H σ ρ → ∀ Q : VK, wpR (f ρ) (PNw K F G σ Q) (PEx K cls W F G σ) → te σ H Q
def SimT (tt : TT) (f : M Bool) : Prop := ∀ F ρ σ G H, CS K F G H σ ρ → ∀ Q : Bool → Hp → Prop, wpR (f ρ) (PTt K F G σ Q) (PEx K cls W F G σ) → tt σ H Q
def SimA (ta : TA) (f : M (List D)) : Prop := ∀ F ρ σ G H, CS K F G H σ ρ → ∀ Q : List V → Hp → Prop, wpR (f ρ) (PAr K F G σ Q) (PEx K cls W F G σ) → ta σ H Q
end
section
variable {K : PySem.W.Frag} {cls : Nat → Value} {W : WX} {F : Fm} {G H : Hp} {σ : St} {ρ : List Sl}
theorem PEx.mono {G1 : Hp} (e : Ex G G1) {c : Nat} {ρ' : List Sl} (h : PEx K cls W F G σ c ρ') : PEx K cls W F G1 σ c ρ' := fun G' H' e1 c1 => h G' H' (e.trans e1) c1
theorem POk.mono {G1 : Hp} (e : Ex G G1) {Q : VK} {d : D} {ρ' : List Sl} (h : POk K F G σ Q d ρ') : POk K F G1 σ Q d ρ' := fun v G' H' e1 c1 r => h v G' H' (e.trans e1) c1 r
theorem PNw.mono {G1 : Hp} (e : Ex G G1) {Q : VK} {d : D} {ρ' : List Sl} (h : PNw K F G σ Q d ρ') : PNw K F G1 σ Q d ρ' := fun v G' H' e1 c1 r => h v G' H' (e.trans e1) c1 r
theorem PTt.mono {G1 : Hp} (e : Ex G G1) {Q : Bool → Hp → Prop} {d : Bool} {ρ' : List Sl} (h : PTt K F G σ Q d ρ') : PTt K F G1 σ Q d ρ' := fun G' H' e1 c1 => h G' H' (e.trans e1) c1
theorem PAr.mono {G1 : Hp} (e : Ex G G1) {Q : List V → Hp → Prop} {d : List D} {ρ' : List Sl} (h : PAr K F G σ Q d ρ') : PAr K F G1 σ Q d ρ' := fun v G' H' e1 c1 r => h v G' H' (e.trans e1) c1 r
theorem CS.freeze (c : CS K F G H σ ρ) {l : Addr} {d : D} (f : Fr K F G H σ ρ l d) : ∃ o, H l = some o ∧ CS K F (upd G l o) H σ ρ ∧ Rep K (upd G l o) (.ref l) d ∧ Ex G (upd G l o) := by
 obtain ⟨o, e⟩ := f.obj.some
 have eG : Ex G (upd G l o) := fun b x q => by
  rw [upd_ne (ne_of_none q f.g)]
  exact q
 refine ⟨o, e, ?_, f.obj.rep f.g e, eG⟩
 have keep : ∀ {i : Nat} {s : Sl} {d : D} {l' : Addr}, ρ[i]? = some s → s.mine = some d → σ[i]? = some (some (.ref l')) → Obj K G H l' d → G l' = none → Obj K (upd G l o) H l' d ∧ (upd G l o) l' = none := fun {i s d l'} h1 h2 h3 h4 h5 => by
  have ne : l' ≠ l := fun z => f.nm i s d h1 h2 (z ▸ h3)
  exact ⟨h4.mono eG.ext rfl, by rw [upd_ne ne]; exact h5⟩
 refine ⟨fun b x q => ?_, c.g0.trans eG, c.fr, fun b e1 e2 => ?_, c.len, fun i d e => ?_, fun i d e => ?_, fun i d e => ?_, c.bb, c.sep⟩
 ·by_cases hb : b = l
  ·subst hb
   rw [upd_same] at q
   rw [← q]
   exact e
  ·rw [upd_ne hb] at q
   exact c.ex _ _ q
 ·by_cases hb : b = l
  ·subst hb; exact .inl f.h0
  ·rw [upd_ne hb] at e2 ⊢
   exact c.gn b e1 e2
 ·obtain ⟨v, a, b⟩ := c.vals i d e
  exact ⟨v, a, b.mono eG⟩
 ·obtain ⟨l', a, b, x, y⟩ := c.owns i d e
  obtain ⟨k1, k2⟩ := keep e rfl a b x
  exact ⟨l', a, k1, k2, y⟩
 ·obtain ⟨l', a, b, x, y⟩ := c.bors i d e
  obtain ⟨k1, k2⟩ := keep e rfl a b x
  exact ⟨l', a, k1, k2, y⟩
theorem SimN.frz {te : TE} {f : M D} (h : SimN K cls W te f) : SimE K cls W te f := fun F ρ σ G H c Q w =>
 h F ρ σ G H c Q (w.mono (fun d ρ' p l G' H' e c' fr => by
  obtain ⟨o, ho, c2, r, e2⟩ := c'.freeze fr
  exact p _ _ _ (e.trans e2) c2 r) fun _ _ p => p)
theorem y2b (c : CS K F G H σ ρ) {p : Addr} (h : H p = none) {o : HO} {d : D} (ho : Obj K G (upd H p o) p d) : CS K F G (upd H p o) σ ρ ∧ Fr K F G (upd H p o) σ ρ p d := by
 obtain ⟨h0, hg, hg0⟩ := c.fresh h
 exact ⟨c.allocN h o, ho, hg, h0, fun i s e h1 h2 => c.notMine h h1 h2⟩
end
def Val1 (K : PySem.W.Frag) (r : V → Hp → VK → Prop) (g : D → Option D) : Prop := ∀ F G H σ ρ x d z, CS K F G H σ ρ → Rep K G x d → g d = some z → ∀ Q : VK, POk K F G σ Q z ρ → r x H Q
def Val2 (K : PySem.W.Frag) (r : R2) (g : D → D → Option D) : Prop := ∀ F G H σ ρ x y d e z, CS K F G H σ ρ → Rep K G x d → Rep K G y e → g d e = some z → ∀ Q : VK, POk K F G σ Q z ρ → r x y H Q
def ValA (K : PySem.W.Frag) (r : List V → Hp → VK → Prop) (g : List D → Option D) : Prop := ∀ F G H σ ρ xs ds z, CS K F G H σ ρ → RepL K G xs ds → g ds = some z → ∀ Q : VK, POk K F G σ Q z ρ → r xs H Q
def New2 (K : PySem.W.Frag) (r : R2) (g : D → D → Option D) : Prop := ∀ F G H σ ρ x y d e z, CS K F G H σ ρ → Rep K G x d → Rep K G y e → g d e = some z → ∀ Q : VK, PNw K F G σ Q z ρ → r x y H Q
def NewA (K : PySem.W.Frag) (r : List V → Hp → VK → Prop) (g : List D → Option D) : Prop := ∀ F G H σ ρ xs ds z, CS K F G H σ ρ → RepL K G xs ds → g ds = some z → ∀ Q : VK, PNw K F G σ Q z ρ → r xs H Q
structure QE (X : Cx) (cls : Nat → Value) (W : WX) (e : Expr) (f : M D) : Prop where
 sim : ∃ t, PE X e t ∧ SimE X.K cls W t f
 inert : Inert f
structure QN (X : Cx) (cls : Nat → Value) (W : WX) (e : Expr) (f : M D) : Prop where
 sim : ∃ t, PE X e t ∧ SimN X.K cls W t f
 inert : Inert f
structure QT (X : Cx) (cls : Nat → Value) (W : WX) (e : Expr) (f : M Bool) : Prop where
 sim : ∃ t, PT X e t ∧ SimT X.K cls W t f
 inert : Inert f
structure QW (X : Cx) (cls : Nat → Value) (W : WX) (e : Expr) (f : M Bool) : Prop where
 sim : ∃ t, PW X e t ∧ SimT X.K cls W t f
 inert : Inert f
structure QA (X : Cx) (cls : Nat → Value) (W : WX) (es : List Expr) (f : M (List D)) : Prop where
 sim : ∃ t, PA X es t ∧ SimA X.K cls W t f
 inert : Inert f
section
variable {X : Cx} {cls : Nat → Value} {W : WX} {e a b : Expr} {es : List Expr} {f g : M D} {pos : Pos}
theorem QN.frz (h : QN X cls W e f) : QE X cls W e f := ⟨let ⟨t, p, s⟩ := h.sim; ⟨t, p, s.frz⟩, h.inert⟩
def eVar (i : Nat) : M D := fun ρ => match ρ[i]? with
 | some (.val d) => .ok d ρ
 | _ => .bad
def eC (d : D) : M D := mpure d
def eBin (op : D → D → Option D) (a b : M D) : M D := mbind a fun x => mbind b fun y => lift (op x y)
def eUn (op : D → Option D) (a : M D) : M D := mbind a fun x => lift (op x)
def aNil : M (List D) := mpure []
def aCons (a : M D) (r : M (List D)) : M (List D) := mbind a fun x => mbind r fun xs => mpure (x :: xs)
def eFn (op : List D → Option D) (a : M (List D)) : M D := mbind a fun xs => lift (op xs)
def eTup (a : M (List D)) : M D := mbind a fun xs => lift (if xs.length ≤ 100000 then some (.tup xs) else none)
def eLst (a : M (List D)) : M D := mbind a fun xs => lift (if xs.length ≤ 100000 then some (.lst xs) else none)
theorem p4b {n : Nat} (h : n ≤ 100000) : n ≤ sizeLine := l1e h (by decide)
theorem i9d {n : Nat} (h : n ≤ 100000) : n < sizeLine := Nat.lt_of_le_of_lt h (by decide)
theorem a2a (i : Nat) {x : Str} (h : PE X (.Name x pos) (tVar i)) : QE X cls W (.Name x pos) (eVar i) := by
 refine ⟨⟨_, h, fun F ρ σ G H c Q w => ?_⟩, fun ρ _ a ρ' e => ?_⟩
 ·unfold eVar at w
  split at w
  ·rename_i d e
   obtain ⟨v, hv, r⟩ := c.vals i d e
   exact ⟨v, hv, w v G H (Same.refl G) c r⟩
  ·exact w.elim
 ·unfold eVar at e
  split at e
  ·cases e; rfl
  ·cases e
theorem q_c {e : Expr} {v : V} {d : D} (h : PE X e (tC v)) (r : ∀ G, Rep X.K G v d) : QE X cls W e (eC d) :=
 ⟨⟨_, h, fun F ρ σ G H c Q w => w v G H (Same.refl G) c (r G)⟩, d6a⟩
theorem a6a {i j : _} : QE X cls W (.Constant (.int i) j pos) (eC (.int i)) := q_c pe_int fun _ => .int i
theorem c7a {x j} : QE X cls W (.Constant (.str x) j pos) (eC (.str x)) := q_c pe_str fun _ => .str x
theorem q_bl {x j} : QE X cls W (.Constant (.bool x) j pos) (eC (.bl x)) := q_c pe_bl fun _ => .bl x
theorem p5b {K : PySem.W.Frag} {ta tb : TE} {f g : M D} {r : R2} {op : D → D → Option D} (ha : SimE K cls W ta f) (hb : SimE K cls W tb g) (hr : Val2 K r op) : SimE K cls W (tOp r ta tb) (eBin op f g) := fun F ρ σ G H c Q w => by
 refine ha F ρ σ G H c _ ((a8a w).mono (fun x ρ1 w1 v1 G1 H1 e1 c1 r1 => ?_) fun _ _ p => p)
 refine hb F ρ1 σ G1 H1 c1 _ ((a8a w1).mono (fun y ρ2 w2 v2 G2 H2 e2 c2 r2 => ?_) fun _ _ p => p.mono e1)
 obtain ⟨z, ez, p⟩ := c9a w2
 exact hr F G2 H2 σ ρ2 v1 v2 x y z c2 (r1.mono e2) r2 ez Q (p.mono (e1.trans e2))
theorem j0d {K : PySem.W.Frag} {ta tb : TE} {f g : M D} {r : R2} {op : D → D → Option D} (ha : SimE K cls W ta f) (hb : SimE K cls W tb g) (hr : New2 K r op) : SimN K cls W (tOp r ta tb) (eBin op f g) := fun F ρ σ G H c Q w => by
 refine ha F ρ σ G H c _ ((a8a w).mono (fun x ρ1 w1 v1 G1 H1 e1 c1 r1 => ?_) fun _ _ p => p)
 refine hb F ρ1 σ G1 H1 c1 _ ((a8a w1).mono (fun y ρ2 w2 v2 G2 H2 e2 c2 r2 => ?_) fun _ _ p => p.mono e1)
 obtain ⟨z, ez, p⟩ := c9a w2
 exact hr F G2 H2 σ ρ2 v1 v2 x y z c2 (r1.mono e2) r2 ez Q (p.mono (e1.trans e2))
theorem i0a {op : D → D → Option D} {f g : M D} (hf : Inert f) (hg : Inert g) : Inert (eBin op f g) := a7a hf fun _ => a7a hg fun _ => c1a
theorem b8a {op : Operator} {r : R2} {h : D → D → Option D} (ho : OpR X (binaryOp op) r) (hv : Val2 X.K r h) (ha : QE X cls W a f) (hb : QE X cls W b g) : QE X cls W (.BinOp a op b pos) (eBin h f g) := by
 obtain ⟨⟨ta, pa, sa⟩, ia⟩ := ha
 obtain ⟨⟨tb, pb, sb⟩, ib⟩ := hb
 exact ⟨⟨_, pe_op ho pa pb, p5b sa sb hv⟩, i0a ia ib⟩
theorem e3a {op : Operator} {r : R2} {h : D → D → Option D} (ho : OpR X (binaryOp op) r) (hv : New2 X.K r h) (ha : QE X cls W a f) (hb : QE X cls W b g) : QN X cls W (.BinOp a op b pos) (eBin h f g) := by
 obtain ⟨⟨ta, pa, sa⟩, ia⟩ := ha
 obtain ⟨⟨tb, pb, sb⟩, ib⟩ := hb
 exact ⟨⟨_, pe_op ho pa pb, j0d sa sb hv⟩, i0a ia ib⟩
theorem k6a {op : CmpOp} {r : R2} {h : D → D → Option D} (ho : OpR X (compareOp op) r) (hv : Val2 X.K r h) (ha : QE X cls W a f) (hb : QE X cls W b g) (hm : behindInMarks op b = false) : QE X cls W (.Compare a [op] [b] pos) (eBin h f g) := by
 obtain ⟨⟨ta, pa, sa⟩, ia⟩ := ha
 obtain ⟨⟨tb, pb, sb⟩, ib⟩ := hb
 exact ⟨⟨_, pe_cmpR ho pa pb hm, p5b sa sb hv⟩, i0a ia ib⟩
theorem q_ix {r : R2} {h : D → D → Option D} (ho : IxR X r) (hv : Val2 X.K r h) (ha : QE X cls W a f) (hb : QE X cls W b g) (hs : PlainIx b) : QE X cls W (.Subscript a b pos) (eBin h f g) := by
 obtain ⟨⟨ta, pa, sa⟩, ia⟩ := ha
 obtain ⟨⟨tb, pb, sb⟩, ib⟩ := hb
 exact ⟨⟨_, pe_ix ho pa pb hs, p5b sa sb hv⟩, i0a ia ib⟩
theorem q_un {op : UnaryOp} {r : V → Hp → VK → Prop} {h : D → Option D} (ho : UnR X (unaryOp op) r) (hv : Val1 X.K r h) (ha : QE X cls W a f) : QE X cls W (.UnaryOp op a pos) (eUn h f) := by
 obtain ⟨⟨ta, pa, sa⟩, ia⟩ := ha
 refine ⟨⟨_, pe_un ho pa, fun F ρ σ G H c Q w => ?_⟩, a7a ia fun _ => c1a⟩
 refine sa F ρ σ G H c _ ((a8a w).mono (fun x ρ1 w1 v1 G1 H1 e1 c1 r1 => ?_) fun _ _ p => p)
 obtain ⟨z, ez, p⟩ := c9a w1
 exact hv F G1 H1 σ ρ1 v1 x z c1 r1 ez Q (p.mono e1)
theorem a1a : QA X cls W [] aNil := ⟨⟨_, pa_nil, fun F ρ σ G H c Q w => w [] G H (Same.refl G) c .nil⟩, d6a⟩
theorem a0a {r : M (List D)} (ha : QE X cls W a f) (hr : QA X cls W es r) (hs : starEach (a :: es) X.env = (false, eval a X.env) :: starEach es X.env := by rfl) : QA X cls W (a :: es) (aCons f r) := by
 obtain ⟨⟨ta, pa, sa⟩, ia⟩ := ha
 obtain ⟨⟨tr, pr, sr⟩, ir⟩ := hr
 refine ⟨⟨_, pa_cons pa pr hs, fun F ρ σ G H c Q w => ?_⟩, a7a ia fun _ => a7a ir fun _ => d6a⟩
 refine sa F ρ σ G H c _ ((a8a w).mono (fun x ρ1 w1 v1 G1 H1 e1 c1 r1 => ?_) fun _ _ p => p)
 refine sr F ρ1 σ G1 H1 c1 _ ((a8a w1).mono (fun y ρ2 w2 v2 G2 H2 e2 c2 r2 => ?_) fun _ _ p => p.mono e1)
 exact w2 (v1 :: v2) G2 H2 (e1.trans e2) c2 (.cons (r1.mono e2) r2)
theorem p6b {K : PySem.W.Frag} {F : Fm} {G H : Hp} {σ : St} {ρ : List Sl} {Q : VK} {ds : List D} {vs : List V} (c : CS K F G H σ ρ) (q : POk K F G σ Q (.tup ds) ρ) (r : RepL K G vs ds) : layT vs H Q := by
  cases hf : flat ds with
  | true =>
    refine .inl fun p hp => ?_
    have e2 : Ex G (upd G p (.tup vs)) := fun b x e => by
      rw [upd_ne (ne_of_none e (c.fresh hp).2.1)]
      exact e
    exact q _ _ _ e2 (c.alloc hp _) (.tup (.inl ⟨hf, upd_same⟩) (r.mono e2))
  | false =>
    refine .inr fun p o hp ho => ?_
    have e2 : Ex G (upd G p (.frz o (.tup vs))) := fun b x e => by
      rw [upd_ne (ne_of_none e (c.fresh hp).2.1)]
      exact e
    exact q _ _ _ e2 (c.alloc hp _) (.tup (.inr ⟨hf, o, upd_same, ho⟩) (r.mono e2))
theorem e9a {r : M (List D)} {x1} (ha : QA X cls W es r) : QE X cls W (.Tuple es x1 pos) (eTup r) := by
 obtain ⟨⟨ta, pa, sa⟩, ia⟩ := ha
 refine ⟨⟨_, s2d pa, fun F ρ σ G H c Q w => ?_⟩, a7a ia fun _ => c1a⟩
 refine sa F ρ σ G H c _ ((a8a w).mono (fun xs ρ1 w1 v1 G1 H1 e1 c1 r1 => ?_) fun _ _ p => p)
 obtain ⟨z, ez, p⟩ := c9a w1
 split at ez
 ·rename_i hl
  cases ez
  exact ⟨by rw [r1.length]; exact p4b hl, p6b c1 (p.mono e1) r1⟩
 ·cases ez
theorem e4a {r : M (List D)} (ha : QA X cls W es r) : QN X cls W (.List es pos) (eLst r) := by
 obtain ⟨⟨ta, pa, sa⟩, ia⟩ := ha
 refine ⟨⟨_, pe_lst pa, fun F ρ σ G H c Q w => ?_⟩, a7a ia fun _ => c1a⟩
 refine sa F ρ σ G H c _ ((a8a w).mono (fun xs ρ1 w1 v1 G1 H1 e1 c1 r1 => ?_) fun _ _ p => p)
 obtain ⟨z, ez, p⟩ := c9a w1
 split at ez
 ·rename_i hl
  cases ez
  refine ⟨by rw [r1.length]; exact p4b hl, fun q hq => ?_⟩
  obtain ⟨c2, f2⟩ := y2b c1 hq (o := .lst v1) (d := .lst xs) ⟨v1, upd_same, r1⟩
  exact p _ _ _ e1 c2 f2
 ·cases ez
theorem q_fn {e' : Expr} {r : List V → Hp → VK → Prop} {h : List D → Option D} {fa : M (List D)} (hp : ∀ ta, PA X es ta → PE X e' (tCB r ta)) (hv : ValA X.K r h) (ha : QA X cls W es fa) : QE X cls W e' (eFn h fa) := by
 obtain ⟨⟨ta, pa, sa⟩, ia⟩ := ha
 refine ⟨⟨_, hp _ pa, fun F ρ σ G H c Q w => ?_⟩, a7a ia fun _ => c1a⟩
 refine sa F ρ σ G H c _ ((a8a w).mono (fun xs ρ1 w1 v1 G1 H1 e1 c1 r1 => ?_) fun _ _ p => p)
 obtain ⟨z, ez, p⟩ := c9a w1
 exact hv F G1 H1 σ ρ1 v1 xs z c1 r1 ez Q (p.mono e1)
theorem u0c {e' : Expr} {r : List V → Hp → VK → Prop} {h : List D → Option D} {fa : M (List D)} (hp : ∀ ta, PA X es ta → PE X e' (tCB r ta)) (hv : NewA X.K r h) (ha : QA X cls W es fa) : QN X cls W e' (eFn h fa) := by
 obtain ⟨⟨ta, pa, sa⟩, ia⟩ := ha
 refine ⟨⟨_, hp _ pa, fun F ρ σ G H c Q w => ?_⟩, a7a ia fun _ => c1a⟩
 refine sa F ρ σ G H c _ ((a8a w).mono (fun xs ρ1 w1 v1 G1 H1 e1 c1 r1 => ?_) fun _ _ p => p)
 obtain ⟨z, ez, p⟩ := c9a w1
 exact hv F G1 H1 σ ρ1 v1 xs z c1 r1 ez Q (p.mono e1)
def asB (d : D) : Option Bool := match d with | .bl b => some b | _ => none
def tVal (a : M D) : M Bool := mbind a fun x => lift (asB x)
def mAnd (a b : M Bool) : M Bool := mbind a fun x => if x then b else mpure false
def mOr (a b : M Bool) : M Bool := mbind a fun x => if x then mpure true else b
def mNot (a : M Bool) : M Bool := mbind a fun x => mpure (!x)
def eB (a : M Bool) : M D := mbind a fun x => mpure (.bl x)
theorem a3b {d : D} {b : Bool} (h : asB d = some b) : d = .bl b := by
 cases d <;> first | (cases h; rfl) | cases h
theorem d0a (ha : QE X cls W a f) (he : ∀ whole, isTrue a X.env whole = (do let v ← whole; standAt a.pos; holding [v] (truthy v)) := by intro _; rfl) : QT X cls W a (tVal f) := by
 obtain ⟨⟨ta, pa, sa⟩, ia⟩ := ha
 refine ⟨⟨_, pt_val pa he, fun F ρ σ G H c Q w => ?_⟩, a7a ia fun _ => c1a⟩
 refine sa F ρ σ G H c _ ((a8a w).mono (fun x ρ1 w1 v1 G1 H1 e1 c1 r1 => ?_) fun _ _ p => p)
 obtain ⟨z, ez, p⟩ := c9a w1
 have := a3b ez
 subst this
 cases r1
 exact ⟨z, rfl, p _ _ e1 c1⟩
theorem c4a {op : CmpOp} {r : R2} {h : D → D → Option D} (ho : OpR X (compareOp op) r) (hv : Val2 X.K r h) (ha : QE X cls W a f) (hb : QE X cls W b g) (hm : behindInMarks op b = false) : QT X cls W (.Compare a [op] [b] pos) (tVal (eBin h f g)) := by
 obtain ⟨⟨ta, pa, sa⟩, ia⟩ := ha
 obtain ⟨⟨tb, pb, sb⟩, ib⟩ := hb
 refine ⟨⟨_, pt_cmpR ho pa pb hm, fun F ρ σ G H c Q w => ?_⟩, a7a (i0a ia ib) fun _ => c1a⟩
 refine p5b sa sb hv F ρ σ G H c _ ((a8a w).mono (fun x ρ1 w1 v1 G1 H1 e1 c1 r1 => ?_) fun _ _ p => p)
 obtain ⟨z, ez, p⟩ := c9a w1
 have := a3b ez
 subst this
 cases r1
 exact ⟨z, rfl, p _ _ e1 c1⟩
variable {tf tg : M Bool} {rest : List Expr}
theorem s5d {K : PySem.W.Frag} {t u : TT} (ha : SimT K cls W t tf) (hb : SimT K cls W u tg) : SimT K cls W (tAnd t u) (mAnd tf tg) := fun F ρ σ G H c Q w => by
  refine ha F ρ σ G H c _ ((a8a w).mono (fun x ρ1 w1 G1 H1 e1 c1 => ?_) fun _ _ p => p)
  cases x with
  | true =>
    show u σ H1 Q
    exact hb F ρ1 σ G1 H1 c1 Q (w1.mono (fun _ _ p => p.mono e1) fun _ _ p => p.mono e1)
  | false => exact w1 G1 H1 e1 c1
theorem a4e {K : PySem.W.Frag} {t u : TT} (ha : SimT K cls W t tf) (hb : SimT K cls W u tg) : SimT K cls W (tOr t u) (mOr tf tg) := fun F ρ σ G H c Q w => by
  refine ha F ρ σ G H c _ ((a8a w).mono (fun x ρ1 w1 G1 H1 e1 c1 => ?_) fun _ _ p => p)
  cases x with
  | false =>
    show u σ H1 Q
    exact hb F ρ1 σ G1 H1 c1 Q (w1.mono (fun _ _ p => p.mono e1) fun _ _ p => p.mono e1)
  | true => exact w1 G1 H1 e1 c1
theorem y3c (h1 : Inert tf) (h2 : Inert tg) : Inert (mAnd tf tg) := a7a h1 fun x => by
 cases x
 ·exact d6a
 ·exact h2
theorem j1d (h1 : Inert tf) (h2 : Inert tg) : Inert (mOr tf tg) := a7a h1 fun x => by
 cases x
 ·exact h2
 ·exact d6a
theorem QW.qt (h : QW X cls W e tf) : QT X cls W e tf := ⟨let ⟨t, p, s⟩ := h.sim; ⟨t, p.pt, s⟩, h.inert⟩
theorem p7b (ha : QT X cls W a tf) : QW X cls W (.BoolOp .And [a] pos) tf := ⟨let ⟨t, p, s⟩ := ha.sim; ⟨t, pw_and1 p, s⟩, ha.inert⟩
theorem f9a (ha : QT X cls W a tf) : QW X cls W (.BoolOp .Or [a] pos) tf := ⟨let ⟨t, p, s⟩ := ha.sim; ⟨t, pw_or1 p, s⟩, ha.inert⟩
theorem m1c (ha : QT X cls W a tf) (hb : QW X cls W (.BoolOp .And (b :: rest) pos) tg) : QW X cls W (.BoolOp .And (a :: b :: rest) pos) (mAnd tf tg) :=
 ⟨let ⟨t, p, s⟩ := ha.sim; let ⟨u, q, z⟩ := hb.sim; ⟨_, pw_and p q, s5d s z⟩, y3c ha.inert hb.inert⟩
theorem f3a (ha : QT X cls W a tf) (hb : QW X cls W (.BoolOp .Or (b :: rest) pos) tg) : QW X cls W (.BoolOp .Or (a :: b :: rest) pos) (mOr tf tg) :=
 ⟨let ⟨t, p, s⟩ := ha.sim; let ⟨u, q, z⟩ := hb.sim; ⟨_, pw_or p q, a4e s z⟩, j1d ha.inert hb.inert⟩
theorem d4a (ha : QT X cls W a tf) : QT X cls W (.UnaryOp .Not a pos) (mNot tf) := by
 obtain ⟨⟨t, p, s⟩, i⟩ := ha
 refine ⟨⟨_, pt_not p, fun F ρ σ G H c Q w => ?_⟩, a7a i fun _ => d6a⟩
 exact s F ρ σ G H c _ ((a8a w).mono (fun x ρ1 w1 G1 H1 e1 c1 => w1 G1 H1 e1 c1) fun _ _ p => p)
theorem m2c {K : PySem.W.Frag} {te : TE} {f : M D} (h : SimE K cls W te f) : ∀ F ρ σ G H, CS K F G H σ ρ → ∀ Q : Bool → Hp → Prop, wpR (tVal f ρ) (PTt K F G σ Q) (PEx K cls W F G σ) → te σ H fun x H1 => ∃ c, x = .bl c ∧ Q c H1 := fun F ρ σ G H c Q w => by
 refine h F ρ σ G H c _ ((a8a w).mono (fun x ρ1 w1 v1 G1 H1 e1 c1 r1 => ?_) fun _ _ p => p)
 obtain ⟨z, ez, p⟩ := c9a w1
 have := a3b ez
 subst this
 cases r1
 exact ⟨z, rfl, p _ _ e1 c1⟩
theorem h1b {op : BoolOp} (ha : QE X cls W a f) : QE X cls W (.BoolOp op [a] pos) f := ⟨let ⟨t, p, s⟩ := ha.sim; ⟨t, pe_one p, s⟩, ha.inert⟩
def eAnd (a b : M D) : M D := mbind (tVal a) fun x => if x then b else mpure (.bl false)
def eOr (a b : M D) : M D := mbind (tVal a) fun x => if x then mpure (.bl true) else b
def eNot (a : M D) : M D := mbind (tVal a) fun x => mpure (.bl (!x))
theorem k9a (h : Inert f) : Inert (tVal f) := a7a h fun _ => c1a
theorem x1a (ha : QE X cls W a f) (hb : QE X cls W (.BoolOp .And (b :: rest) pos) g) : QE X cls W (.BoolOp .And (a :: b :: rest) pos) (eAnd f g) := by
 obtain ⟨⟨ta, pa, sa⟩, ia⟩ := ha
 obtain ⟨⟨tb, pb, sb⟩, ib⟩ := hb
 refine ⟨⟨_, pe_and pa pb, fun F ρ σ G H c Q w => ?_⟩, a7a (k9a ia) fun x => by cases x; exact d6a; exact ib⟩
 refine m2c sa F ρ σ G H c (fun c H1 => if c = true then tb σ H1 Q else Q (.bl false) H1) ((a8a w).mono (fun x ρ1 w1 G1 H1 e1 c1 => ?_) fun _ _ p => p)
 cases x with
 | true => exact sb F ρ1 σ G1 H1 c1 Q (w1.mono (fun _ _ p => p.mono e1) fun _ _ p => p.mono e1)
 | false => exact w1 _ G1 H1 e1 c1 (.bl false)
theorem q_or (ha : QE X cls W a f) (hb : QE X cls W (.BoolOp .Or (b :: rest) pos) g) : QE X cls W (.BoolOp .Or (a :: b :: rest) pos) (eOr f g) := by
 obtain ⟨⟨ta, pa, sa⟩, ia⟩ := ha
 obtain ⟨⟨tb, pb, sb⟩, ib⟩ := hb
 refine ⟨⟨_, pe_or pa pb, fun F ρ σ G H c Q w => ?_⟩, a7a (k9a ia) fun x => by cases x; exact ib; exact d6a⟩
 refine m2c sa F ρ σ G H c (fun c H1 => if c = true then Q (.bl true) H1 else tb σ H1 Q) ((a8a w).mono (fun x ρ1 w1 G1 H1 e1 c1 => ?_) fun _ _ p => p)
 cases x with
 | false => exact sb F ρ1 σ G1 H1 c1 Q (w1.mono (fun _ _ p => p.mono e1) fun _ _ p => p.mono e1)
 | true => exact w1 _ G1 H1 e1 c1 (.bl true)
theorem a5e (ha : QE X cls W a f) : QE X cls W (.UnaryOp .Not a pos) (eNot f) := by
 obtain ⟨⟨ta, pa, sa⟩, ia⟩ := ha
 refine ⟨⟨_, pe_not pa, fun F ρ σ G H c Q w => ?_⟩, a7a (k9a ia) fun x => d6a⟩
 exact m2c sa F ρ σ G H c (fun c H1 => Q (.bl (!c)) H1) ((a8a w).mono (fun x ρ1 w1 G1 H1 e1 c1 => w1 _ G1 H1 e1 c1 (.bl _)) fun _ _ p => p)
def eChain (h h' : D → D → Option D) (a b c : M D) : M D := mbind a fun x => mbind b fun y => mbind (lift (h x y)) fun z => mbind (lift (asB z)) fun k => if k then mbind c fun u => lift (h' y u) else mpure (.bl false)
theorem s6d {op op' : CmpOp} {r r' : R2} {h h' : D → D → Option D} {c : Expr} {k : M D} (ho : OpR X (compareOp op) r) (ho' : OpR X (compareOp op') r') (hv : Val2 X.K r h) (hv' : Val2 X.K r' h') (ha : QE X cls W a f) (hb : QE X cls W b g) (hc : QE X cls W c k) (hm : lastMarks [op, op'] [b, c] = false := by rfl) :
    QE X cls W (.Compare a [op, op'] [b, c] pos) (eChain h h' f g k) := by
  obtain ⟨⟨ta, pa, sa⟩, ia⟩ := ha
  obtain ⟨⟨tb, pb, sb⟩, ib⟩ := hb
  obtain ⟨⟨tc, pc, sc⟩, ic⟩ := hc
  refine ⟨⟨_, pe_chain ho ho' pa pb pc hm, fun F ρ σ G H c Q w => ?_⟩, a7a ia fun _ => a7a ib fun _ => a7a c1a fun _ => a7a c1a fun z => by cases z; exact d6a; exact a7a ic fun _ => c1a⟩
  refine sa F ρ σ G H c _ ((a8a w).mono (fun x ρ1 w1 v1 G1 H1 e1 c1 r1 => ?_) fun _ _ p => p)
  refine sb F ρ1 σ G1 H1 c1 _ ((a8a w1).mono (fun y ρ2 w2 v2 G2 H2 e2 c2 r2 => ?_) fun _ _ p => p.mono e1)
  obtain ⟨z, ez, p⟩ := c9a (a8a w2)
  obtain ⟨kk, ek, p⟩ := c9a (a8a p)
  have := a3b ek
  subst this
  refine hv F G2 H2 σ ρ2 v1 v2 x y _ c2 (r1.mono e2) r2 ez _ fun v3 G3 H3 e3 c3 r3 => ?_
  cases r3
  refine ⟨kk, rfl, ?_⟩
  cases kk with
  | false => exact p _ G3 H3 ((e1.trans e2).trans e3) c3 (.bl false)
  | true =>
    have p : wpR (mbind k (fun u => lift (h' y u)) ρ2) (POk X.K F G σ Q) (PEx X.K cls W F G σ) := p
    refine sc F ρ2 σ G3 H3 c3 _ ((a8a p).mono (fun u ρ4 w4 v4 G4 H4 e4 c4 r4 => ?_) fun _ _ p => p.mono ((e1.trans e2).trans e3))
    obtain ⟨q, eq, pp⟩ := c9a w4
    exact hv' F G4 H4 σ ρ4 v2 v4 y u q c4 (r2.mono (e3.trans e4)) r4 eq Q (pp.mono (((e1.trans e2).trans e3).trans e4))
end
end NT
set_option Elab.async false
set_option linter.all false
set_option maxRecDepth 100000
set_option maxHeartbeats 4000000
namespace NT
open PySem L2
section
variable {K : PySem.W.Frag} {F : Fm} {G H : Hp} {σ : St} {ρ : List Sl}
theorem b3a {α : Type} {l : List α} {i j : Nat} {a b : α} (h : (l.set i a)[j]? = some b) : (i = j ∧ a = b ∧ i < l.length) ∨ (i ≠ j ∧ l[j]? = some b) := by
 by_cases e : i = j
 ·subst e
  by_cases hl : i < l.length
  ·rw [i1e hl] at h
   exact .inl ⟨rfl, Option.some.inj h, hl⟩
  ·rw [j7e (by simpa using hl)] at h
   cases h
 ·rw [h9e e] at h
  exact .inr ⟨e, h⟩
def notBor : Option Sl → Bool
 | some (.bor _) => false
 | some _ => true
 | none => false
theorem l4a {s : Option Sl} (h : notBor s = true) : ∃ t, s = some t ∧ ∀ d, t ≠ .bor d := by
  cases s with
  | none => cases h
  | some t =>
    refine ⟨t, rfl, fun d e => ?_⟩
    subst e
    cases h
theorem CS.setAny (c : CS K F G H σ ρ) {i : Nat} (hb : notBor ρ[i]? = true) {v : V} {s : Sl}
    (hv : ∀ d, s = .val d → Rep K G v d) (ho : ∀ d, s = .own d → ∃ l, v = .ref l ∧ Fr K F G H σ ρ l d) (hbr : ∀ d, s ≠ .bor d) : CS K F G H (σ.set i (some v)) (ρ.set i s) := by
  obtain ⟨t, et, nb⟩ := l4a hb
  have hi : i < ρ.length := (List.getElem?_eq_some_iff.mp et).1
  have hi' : i < σ.length := by rw [c.len]; exact hi
  refine ⟨c.ex, c.g0, c.fr, c.gn, by simpa using c.len, fun j d e => ?_, fun j d e => ?_, fun j d e => ?_, fun j l e => ?_, fun j k s1 s2 d1 d2 l hjk e1 m1 e2 m2 v1 v2 => ?_⟩
  · rcases b3a e with ⟨rfl, e1, _⟩ | ⟨ne, e1⟩
    · exact ⟨v, i1e hi', hv d e1⟩
    · rw [h9e ne]
      exact c.vals j d e1
  · rcases b3a e with ⟨rfl, e1, _⟩ | ⟨ne, e1⟩
    · obtain ⟨l, rfl, f⟩ := ho d e1
      exact ⟨l, i1e hi', f.obj, f.g, f.h0⟩
    · rw [h9e ne]
      exact c.owns j d e1
  · rcases b3a e with ⟨rfl, e1, _⟩ | ⟨ne, e1⟩
    · exact (hbr d e1).elim
    · rw [h9e ne]
      exact c.bors j d e1
  · obtain ⟨d, h1, h2⟩ := c.bb j l e
    have ne : i ≠ j := fun z => by
      subst z
      rw [et] at h1
      cases h1
      exact nb d rfl
    exact ⟨d, by rw [h9e ne]; exact h1, by rw [h9e ne]; exact h2⟩
  · rcases b3a e1 with ⟨rfl, a1, _⟩ | ⟨n1, a1⟩
    · rcases b3a e2 with ⟨rfl, a2, _⟩ | ⟨n2, a2⟩
      · exact hjk rfl
      · rw [h9e n2] at v2
        rw [i1e hi'] at v1
        cases v1
        subst a1
        cases s with
        | own d =>
          obtain ⟨l', e', f⟩ := ho d rfl
          cases e'
          exact f.nm k s2 d2 a2 m2 v2
        | bor d => exact hbr d rfl
        | no => cases m1
        | val d => cases m1
    · rw [h9e n1] at v1
      rcases b3a e2 with ⟨rfl, a2, _⟩ | ⟨n2, a2⟩
      · rw [i1e hi'] at v2
        cases v2
        subst a2
        cases s with
        | own d =>
          obtain ⟨l', e', f⟩ := ho d rfl
          cases e'
          exact f.nm j s1 d1 a1 m1 v1
        | bor d => exact hbr d rfl
        | no => cases m2
        | val d => cases m2
      · rw [h9e n2] at v2
        exact c.sep j k s1 s2 d1 d2 l hjk a1 m1 a2 m2 v1 v2
theorem CS.setVal (c : CS K F G H σ ρ) {i : Nat} (hb : notBor ρ[i]? = true) {v : V} {d : D} (r : Rep K G v d) : CS K F G H (σ.set i (some v)) (ρ.set i (.val d)) :=
 c.setAny hb (fun e h => by cases h; exact r) (fun e h => by cases h) (fun e h => by cases h)
theorem CS.setOwn (c : CS K F G H σ ρ) {i : Nat} (hb : notBor ρ[i]? = true) {l : Addr} {d : D} (r : Fr K F G H σ ρ l d) : CS K F G H (σ.set i (some (.ref l))) (ρ.set i (.own d)) :=
 c.setAny hb (fun e h => by cases h) (fun e h => by cases h; exact ⟨l, rfl, r⟩) (fun e h => by cases h)
def Sl.with : Sl → D → Sl
 | .own _, d => .own d
 | .bor _, d => .bor d
 | s, _ => s
theorem CS.write (c : CS K F G H σ ρ) {i : Nat} {s : Sl} {d d' : D} {l : Addr} {o : HO} (h : ρ[i]? = some s) (hm : s.mine = some d) (hl : σ[i]? = some (some (.ref l))) (ho : Obj K G (upd H l o) l d') : CS K F G (upd H l o) σ (ρ.set i (s.with d')) := by
  obtain ⟨l', e1, o1, g1, f1⟩ := c.mine h hm
  rw [hl] at e1
  cases e1
  have hi : i < ρ.length := (List.getElem?_eq_some_iff.mp h).1
  have other : ∀ {j : Nat} {t : Sl} {e : D} {k : Addr}, i ≠ j → ρ[j]? = some t → t.mine = some e → σ[j]? = some (some (.ref k)) → k ≠ l := fun {j t e k} ne h1 h2 h3 z => by
    subst z
    exact c.sep i j s t d e k ne h hm h1 h2 hl h3
  refine ⟨fun b x e => ?_, c.g0, fun b x e hb => ?_, c.gn, by simpa using c.len, fun j d e => ?_, fun j d e => ?_, fun j d e => ?_, fun j k e => ?_, fun j k s1 s2 d1 d2 l hjk e1 m1 e2 m2 v1 v2 => ?_⟩
  · rw [upd_ne (ne_of_none e g1)]
    exact c.ex _ _ e
  · have ne : b ≠ l := fun z => by
      subst z
      rcases f1 with z | z
      · rw [z] at e; cases e
      · exact hb _ z
    rw [upd_ne ne]
    exact c.fr b x e hb
  · rcases b3a e with ⟨rfl, e1, _⟩ | ⟨ne, e1⟩
    · cases s with
      | own x => exact nomatch (show Sl.own d' = Sl.val d from e1)
      | bor x => exact nomatch (show Sl.bor d' = Sl.val d from e1)
      | no => cases hm
      | val x => cases hm
    · exact c.vals j d e1
  · rcases b3a e with ⟨rfl, e1, _⟩ | ⟨ne, e1⟩
    · cases s with
      | own x =>
        cases e1
        obtain ⟨l2, a, b, x, y⟩ := c.owns i _ h
        rw [hl] at a
        cases a
        exact ⟨l, hl, ho, g1, y⟩
      | bor x => cases e1
      | no => cases hm
      | val x => cases hm
    · obtain ⟨l2, a, b, x, y⟩ := c.owns j d e1
      have ne2 : l2 ≠ l := other ne e1 rfl a
      exact ⟨l2, a, b.mono (Ex.ext (Same.refl G)) (upd_ne ne2), x, y⟩
  · rcases b3a e with ⟨rfl, e1, _⟩ | ⟨ne, e1⟩
    · cases s with
      | bor x =>
        cases e1
        obtain ⟨l2, a, b, x, y⟩ := c.bors i _ h
        rw [hl] at a
        cases a
        exact ⟨l, hl, ho, g1, y⟩
      | own x => cases e1
      | no => cases hm
      | val x => cases hm
    · obtain ⟨l2, a, b, x, y⟩ := c.bors j d e1
      have ne2 : l2 ≠ l := other ne e1 rfl a
      exact ⟨l2, a, b.mono (Ex.ext (Same.refl G)) (upd_ne ne2), x, y⟩
  · obtain ⟨d1, h1, h2⟩ := c.bb j k e
    by_cases ne : i = j
    · subst ne
      rw [h] at h1
      cases h1
      exact ⟨d', by rw [i1e hi]; rfl, h2⟩
    · exact ⟨d1, by rw [h9e ne]; exact h1, h2⟩
  · have back : ∀ {j : Nat} {t : Sl} {e : D}, (ρ.set i (s.with d'))[j]? = some t → t.mine = some e → ∃ t' e', ρ[j]? = some t' ∧ t'.mine = some e' := fun {j t e} h1 h2 => by
      rcases b3a h1 with ⟨rfl, _, _⟩ | ⟨_, h1⟩
      · exact ⟨s, d, h, hm⟩
      · exact ⟨t, e, h1, h2⟩
    obtain ⟨t1, x1, a1, b1⟩ := back e1 m1
    obtain ⟨t2, x2, a2, b2⟩ := back e2 m2
    exact c.sep j k t1 t2 x1 x2 l hjk a1 b1 a2 b2 v1 v2
def Fm.with (F : Fm) (p : Addr) (o : HO) : Fm := ⟨upd F.H0 p o, F.G0, F.B⟩
theorem CS.protect (c : CS K F G H σ ρ) {p : Addr} {o : HO} (hp : H p = some o) (hg : G p = none) (hn : ∀ (i : Nat) s e, ρ[i]? = some s → s.mine = some e → σ[i]? ≠ some (some (.ref p))) : CS K (F.with p o) G H σ ρ := by
 refine ⟨c.ex, c.g0, fun b x e hb => ?_, fun b e1 e2 => ?_, c.len, c.vals, fun i d e => ?_, c.bors, c.bb, c.sep⟩
 ·by_cases z : b = p
  ·subst z
   have e : upd F.H0 b o b = some x := e
   rw [upd_same] at e
   rw [← e]
   exact hp
  ·have e : upd F.H0 p o b = some x := e
   rw [upd_ne z] at e
   exact c.fr b x e hb
 ·show upd F.H0 p o b = none ∨ _
  have z : b ≠ p := fun z => by
   subst z
   exact e2 hg
  rw [upd_ne z]
  exact c.gn b e1 e2
 ·obtain ⟨l, a, b, x, y⟩ := c.owns i d e
  refine ⟨l, a, b, x, ?_⟩
  show upd F.H0 p o l = none
  have z : l ≠ p := fun z => by
   subst z
   exact hn i _ d e rfl a
  rw [upd_ne z]
  exact y
theorem CS.unprotect {p : Addr} {o : HO} (c : CS K (F.with p o) G H σ ρ) (h0 : F.H0 p = none) (hg0 : F.G0 p = none) (hb : ∀ i, (i, p) ∉ F.B) (ho : ∀ xs, o ≠ .tup xs := by intro _ z; cases z) : CS K F G H σ ρ ∧ H p = some o ∧ G p = none ∧ ∀ (i : Nat) s e, ρ[i]? = some s → s.mine = some e → σ[i]? ≠ some (some (.ref p)) := by
  have hH : H p = some o := c.fr p o (show upd F.H0 p o p = some o from upd_same) hb
  have hG : G p = none := by
    cases q : G p with
    | none => rfl
    | some x =>
      have z := c.gn p hg0 (by rw [q]; exact fun z => by cases z)
      have z : upd F.H0 p o p = none ∨ _ := z
      rw [upd_same] at z
      rcases z with z | ⟨xs, z⟩
      · cases z
      · have := c.ex _ _ z
        rw [hH] at this
        cases this
        exact (ho _ rfl).elim
  refine ⟨⟨c.ex, c.g0, fun b x e hb => ?_, fun b e1 e2 => ?_, c.len, c.vals, fun i d e => ?_, c.bors, c.bb, c.sep⟩, hH, hG, fun i s e h1 h2 h3 => ?_⟩
  · have ne : b ≠ p := ne_of_none e h0
    exact c.fr b x (show upd F.H0 p o b = some x by rw [upd_ne ne]; exact e) hb
  · have ne : b ≠ p := fun z => by
      subst z
      exact e2 hG
    have z := c.gn b e1 e2
    have z : upd F.H0 p o b = none ∨ _ := z
    rw [upd_ne ne] at z
    exact z
  · obtain ⟨l, a, b, x, y⟩ := c.owns i d e
    have y : upd F.H0 p o l = none := y
    have ne : l ≠ p := fun z => by
      subst z
      rw [upd_same] at y
      cases y
    rw [upd_ne ne] at y
    exact ⟨l, a, b, x, y⟩
  · cases s with
    | own d =>
      obtain ⟨l, a, b, x, y⟩ := c.owns i d h1
      rw [h3] at a
      cases a
      have y : upd F.H0 p o p = none := y
      rw [upd_same] at y
      cases y
    | bor d =>
      obtain ⟨l, a, b, x, y⟩ := c.bors i d h1
      rw [h3] at a
      cases a
      exact hb i y
    | no => cases h2
    | val d => cases h2
end
inductive O where
 | nx (ρ : List Sl) | rt (d : D) (ρ : List Sl) | rtN (d : D) (ρ : List Sl) | ex (c : Nat) (ρ : List Sl) | bad
abbrev MS := List Sl → O
def PO (K : PySem.W.Frag) (cls : Nat → Value) (W : WX) (F : Fm) (G : Hp) (E : Ends) : O → Prop
 | .nx ρ' => ∀ σ' G' H', Ex G G' → CS K F G' H' σ' ρ' → E.nx σ' H'
 | .rt d ρ' => ∀ v σ' G' H', Ex G G' → CS K F G' H' σ' ρ' → Rep K G' v d → E.rt v H'
 | .rtN d ρ' => ∀ l σ' G' H', Ex G G' → CS K F G' H' σ' ρ' → Fr K F G' H' σ' ρ' l d → E.rt (.ref l) H'
 | .ex c ρ' => ∀ σ' G' H', Ex G G' → CS K F G' H' σ' ρ' → W (cls c) none σ' H'
 | .bad => False
def SimS (K : PySem.W.Frag) (cls : Nat → Value) (W : WX) (t : TS) (f : MS) : Prop := ∀ F ρ σ G H, CS K F G H σ ρ → ∀ E : Ends, PO K cls W F G E (f ρ) → t E σ H
theorem PO.mono {K : PySem.W.Frag} {cls : Nat → Value} {W : WX} {F : Fm} {G G1 : Hp} {E : Ends} (e : Ex G G1) {o : O} (h : PO K cls W F G E o) : PO K cls W F G1 E o := by
 cases o with
 | nx ρ => exact fun σ' G' H' e1 c => h σ' G' H' (e.trans e1) c
 | rt d ρ => exact fun v σ' G' H' e1 c r => h v σ' G' H' (e.trans e1) c r
 | rtN d ρ => exact fun v σ' G' H' e1 c r => h v σ' G' H' (e.trans e1) c r
 | ex c ρ => exact fun σ' G' H' e1 c => h σ' G' H' (e.trans e1) c
 | bad => exact h
structure QS (X : Cx) (cls : Nat → Value) (W : WX) (st : Stmt) (f : MS) : Prop where
 sim : ∃ t, PS X st t ∧ SimS X.K cls W t f
structure QB (X : Cx) (cls : Nat → Value) (W : WX) (st : List Stmt) (f : MS) : Prop where
 sim : ∃ t, PSs X st t ∧ SimS X.K cls W t f
def sSkip : MS := fun ρ => .nx ρ
def sSeq (f g : MS) : MS := fun ρ => match f ρ with
 | .nx ρ' => g ρ'
 | o => o
def sDo {α : Type} (f : M α) (k : α → MS) : MS := fun ρ => match f ρ with
 | .ok a ρ' => k a ρ'
 | .ex c ρ' => .ex c ρ'
 | .bad => .bad
def put (i : Nat) (s : Sl) : MS := fun ρ => if notBor ρ[i]? then .nx (ρ.set i s) else .bad
def sSet (i : Nat) (f : M D) : MS := sDo f fun d => put i (.val d)
def sSetN (i : Nat) (f : M D) : MS := sDo f fun d => put i (.own d)
def sRet (f : M D) : MS := sDo f fun d => fun ρ => .rt d ρ
def sRetN (f : M D) : MS := sDo f fun d => fun ρ => .rtN d ρ
def sExpr (f : M D) : MS := sDo f fun _ => sSkip
def sIf (c : M Bool) (f g : MS) : MS := sDo c fun b => if b then f else g
def sRetO (i : Nat) : MS := fun ρ => match ρ[i]? with
 | some (.own d) => .rtN d (ρ.set i .no)
 | _ => .bad
def sFz (i : Nat) : MS := fun ρ => match ρ[i]? with
 | some (.own d) => .nx (ρ.set i (.val d))
 | some (.val d) => .nx ρ
 | _ => .bad
section
variable {X : Cx} {cls : Nat → Value} {W : WX} {e a b : Expr} {es : List Expr} {f g : M D} {pos : Pos} {sf sg : MS} {st : Stmt} {sts : List Stmt}
theorem s7d {K : PySem.W.Frag} {t u : TS} (ha : SimS K cls W t sf) (hb : SimS K cls W u sg) : SimS K cls W (tSeq t u) (sSeq sf sg) := fun F ρ σ G H c E w => by
  refine ha F ρ σ G H c { E with nx := u E } ?_
  unfold sSeq at w
  cases q : sf ρ with
  | nx ρ' =>
    rw [q] at w
    exact fun σ' G' H' e1 c1 => hb F ρ' σ' G' H' c1 E (w.mono e1)
  | rt d ρ' => rw [q] at w; exact w
  | rtN d ρ' => rw [q] at w; exact w
  | ex c ρ' => rw [q] at w; exact w
  | bad => rw [q] at w; exact w
theorem o9a {K : PySem.W.Frag} {F : Fm} {G : Hp} {σ : St} {E : Ends} {α : Type} {f : M α} {k : α → MS} {ρ : List Sl} {P : α → List Sl → Prop} (w : PO K cls W F G E (sDo f k ρ)) (h : ∀ a ρ', PO K cls W F G E (k a ρ') → P a ρ') : wpR (f ρ) P (PEx K cls W F G σ) := by
 unfold sDo at w
 cases q : f ρ with
 | ok a ρ' => rw [q] at w; exact h a ρ' w
 | ex c ρ' => rw [q] at w; exact fun G' H' e c => w σ G' H' e c
 | bad => rw [q] at w; exact w
theorem c5a : QB X cls W [] sSkip := ⟨⟨_, pss_nil, fun F ρ σ G H c E w => w σ G H (Same.refl G) c⟩⟩
theorem a4a (h : QS X cls W st sf) : QB X cls W [st] sf := ⟨let ⟨t, p, s⟩ := h.sim; ⟨t, pss_one p, s⟩⟩
theorem a3a (h : QS X cls W st sf) (r : QB X cls W sts sg) : QB X cls W (st :: sts) (sSeq sf sg) := ⟨let ⟨t, p, s⟩ := h.sim; let ⟨u, q, z⟩ := r.sim; ⟨_, pss_cons p q, s7d s z⟩⟩
theorem p9d {i : Nat} {s : Sl} {ρ : List Sl} {K : PySem.W.Frag} {F : Fm} {G : Hp} {E : Ends} (h : PO K cls W F G E (put i s ρ)) : notBor ρ[i]? = true ∧ ∀ σ' G' H', Ex G G' → CS K F G' H' σ' (ρ.set i s) → E.nx σ' H' := by
 unfold put at h
 split at h
 ·rename_i hb
  exact ⟨hb, h⟩
 ·exact h.elim
theorem y4c {K : PySem.W.Frag} {te : TE} {i : Nat} (ha : SimE K cls W te f) : SimS K cls W (tAsg te (gName i)) (sSet i f) := fun F ρ σ G H c E w =>
 ha F ρ σ G H c _ (o9a w fun d ρ' p v G1 H1 e1 c1 r1 => by
  obtain ⟨hb, q⟩ := p9d p
  exact q _ _ _ e1 (c1.setVal hb r1))
theorem p8b {K : PySem.W.Frag} {te : TE} {i : Nat} (ha : SimN K cls W te f) : SimS K cls W (tAsg te (gName i)) (sSetN i f) := fun F ρ σ G H c E w =>
 ha F ρ σ G H c _ (o9a w fun d ρ' p v G1 H1 e1 c1 r1 => by
  obtain ⟨hb, q⟩ := p9d p
  exact q _ _ _ e1 (c1.setOwn hb r1))
theorem d2a (i : Nat) (hp : ∀ te, PE X e te → PS X st (tAsg te (gName i))) (ha : QE X cls W e f) : QS X cls W st (sSet i f) := ⟨let ⟨t, p, s⟩ := ha.sim; ⟨_, hp t p, y4c s⟩⟩
theorem g4a (i : Nat) (hp : ∀ te, PE X e te → PS X st (tAsg te (gName i))) (ha : QN X cls W e f) : QS X cls W st (sSetN i f) := ⟨let ⟨t, p, s⟩ := ha.sim; ⟨_, hp t p, p8b s⟩⟩
theorem b9a (ha : QE X cls W e f) : QS X cls W (.Return (some e) pos) (sRet f) := by
 obtain ⟨⟨t, p, s⟩, _⟩ := ha
 exact ⟨⟨_, ps_ret p, fun F ρ σ G H c E w => s F ρ σ G H c _ (o9a w fun d ρ' p v G1 H1 e1 c1 r1 => p v σ G1 H1 e1 c1 r1)⟩⟩
theorem y5c (ha : QN X cls W e f) : QS X cls W (.Return (some e) pos) (sRetN f) := by
 obtain ⟨⟨t, p, s⟩, _⟩ := ha
 exact ⟨⟨_, ps_ret p, fun F ρ σ G H c E w => s F ρ σ G H c _ (o9a w fun d ρ' p v G1 H1 e1 c1 r1 => p v σ G1 H1 e1 c1 r1)⟩⟩
theorem g0a (ha : QE X cls W e f) (hs : swapsWith e none pos.line X.env = pure false := by rfl) : QS X cls W (.Expr e pos) (sExpr f) := by
 obtain ⟨⟨t, p, s⟩, _⟩ := ha
 exact ⟨⟨_, ps_expr p hs, fun F ρ σ G H c E w => s F ρ σ G H c _ (o9a w fun d ρ' p v G1 H1 e1 c1 r1 => p σ G1 H1 e1 c1)⟩⟩
theorem q_if {c : Expr} {cf : M Bool} {s1 s2 : List Stmt} (hc : QT X cls W c cf) (h1 : QB X cls W s1 sf) (h2 : QB X cls W s2 sg) : QS X cls W (.If c s1 s2 pos) (sIf cf sf sg) := by
 obtain ⟨⟨t, p, s⟩, _⟩ := hc
 obtain ⟨⟨t1, p1, m1⟩⟩ := h1
 obtain ⟨⟨t2, p2, m2⟩⟩ := h2
 refine ⟨⟨_, ps_if p p1 p2, fun F ρ σ G H c E w => s F ρ σ G H c _ (o9a w fun b ρ' q G1 H1 e1 c1 => ?_)⟩⟩
 cases b with
 | true => exact m1 F ρ' σ G1 H1 c1 E (q.mono e1)
 | false => exact m2 F ρ' σ G1 H1 c1 E (q.mono e1)
theorem CS.drop {K : PySem.W.Frag} {F : Fm} {G H : Hp} {σ : St} {ρ : List Sl} (c : CS K F G H σ ρ) {i : Nat} {d : D} (h : ρ[i]? = some (.own d)) : ∃ l, σ[i]? = some (some (.ref l)) ∧ CS K F G H σ (ρ.set i .no) ∧ Fr K F G H σ (ρ.set i .no) l d := by
 obtain ⟨l, a, b, x, y⟩ := c.owns i d h
 have old : ∀ {j : Nat} {s : Sl} {e : D}, (ρ.set i .no)[j]? = some s → s.mine = some e → i ≠ j ∧ ρ[j]? = some s := fun {j s e} h1 h2 => by
  rcases b3a h1 with ⟨_, z, _⟩ | z
  ·subst z; cases h2
  ·exact z
 refine ⟨l, a, ⟨c.ex, c.g0, c.fr, c.gn, by simpa using c.len, fun j d e => ?_, fun j d e => ?_, fun j d e => ?_, fun j l e => ?_, fun j k s1 s2 d1 d2 l hjk e1 m1 e2 m2 v1 v2 => ?_⟩, b, x, y, fun j s e h1 h2 h3 => ?_⟩
 ·rcases b3a e with ⟨_, z, _⟩ | ⟨_, z⟩
  ·cases z
  ·exact c.vals j d z
 ·exact c.owns j d (old e rfl).2
 ·exact c.bors j d (old e rfl).2
 ·obtain ⟨d1, h1, h2⟩ := c.bb j l e
  have ne : i ≠ j := fun z => by
   subst z
   rw [h] at h1
   cases h1
  exact ⟨d1, by rw [h9e ne]; exact h1, h2⟩
 ·exact c.sep j k s1 s2 d1 d2 l hjk (old e1 m1).2 m1 (old e2 m2).2 m2 v1 v2
 ·obtain ⟨ne, h1⟩ := old h1 h2
  exact c.sep i j _ s d e l ne h rfl h1 h2 a h3
theorem y3b (i : Nat) {x : Str} {p : Pos} (h : PE X (.Name x p) (tVar i)) : QS X cls W (.Return (some (.Name x p)) pos) (sRetO i) := by
 refine ⟨⟨_, ps_ret h, fun F ρ σ G H c E w => ?_⟩⟩
 unfold sRetO at w
 split at w
 ·rename_i d e
  obtain ⟨l, a, c2, f⟩ := c.drop e
  exact ⟨.ref l, a, w l σ G H (Same.refl G) c2 f⟩
 ·exact w.elim
abbrev MG := D → List Sl → Option (List Sl)
abbrev MGs := List D → List Sl → Option (List Sl)
def But (ts : List Nat) (σ σ' : St) : Prop := σ'.length = σ.length ∧ ∀ j : Nat, j ∉ ts → σ'[j]? = σ[j]?
theorem But.trans {ts us : List Nat} {a b c : St} (h : But ts a b) (h' : But us b c) : But (ts ++ us) a c := ⟨h'.1.trans h.1, fun j hj => (h'.2 j fun z => hj (j8e _ z)).trans (h.2 j fun z => hj (j2e _ z))⟩
def SimG (K : PySem.W.Frag) (g : TG) (m : MG) (ts : List Nat) : Prop := ∀ F ρ σ G H v d ρ', CS K F G H σ ρ → Rep K G v d → m d ρ = some ρ' → ∀ Q : St → Hp → Prop, (∀ σ', But ts σ σ' → CS K F G H σ' ρ' → Q σ' H) → g v σ H Q
def SimGs (K : PySem.W.Frag) (g : TGs) (m : MGs) (ts : List Nat) : Prop := ∀ F ρ σ G H v d ρ', CS K F G H σ ρ → RepL K G v d → m d ρ = some ρ' → ∀ Q : St → Hp → Prop, (∀ σ', But ts σ σ' → CS K F G H σ' ρ' → Q σ' H) → g v σ H Q
def gN (i : Nat) : MG := fun d ρ => if notBor ρ[i]? then some (ρ.set i (.val d)) else none
def gsNil : MGs := fun ds ρ => match ds with | [] => some ρ | _ => none
def gsCons (m : MG) (r : MGs) : MGs := fun ds ρ => match ds with
 | d :: ds => (m d ρ).bind (r ds)
 | [] => none
def gT (m : MGs) : MG := fun d ρ => match d with
 | .tup ds => m ds ρ
 | .raw ds => m ds ρ
 | _ => none
structure QG (X : Cx) (tg : Expr) (m : MG) (ts : List Nat) : Prop where
 sim : ∃ g, PG X tg g ∧ SimG X.K g m ts
structure QGs (X : Cx) (tg : List Expr) (n : Nat) (m : MGs) (ts : List Nat) : Prop where
 sim : ∃ g, PGs X tg g ∧ SimGs X.K g m ts
 len : ∀ ds ρ ρ', m ds ρ = some ρ' → ds.length = n
theorem a5a (i : Nat) (h : PG X e (gName i)) : QG X e (gN i) [i] := ⟨⟨_, h, fun F ρ σ G H v d ρ' c r m Q q => by
 unfold gN at m
 split at m
 ·rename_i hb
  cases m
  exact q _ ⟨m1e, fun j hj => h9e (fun z => hj (by simp [z]))⟩ (c.setVal hb r)
 ·cases m⟩⟩
theorem h3a : QGs X [] 0 gsNil [] := ⟨⟨_, pgs_nil, fun F ρ σ G H v d ρ' c r m Q q => by
  cases r with
  | nil => cases m; exact ⟨rfl, q σ ⟨rfl, fun _ _ => rfl⟩ c⟩
  | cons _ _ => cases m⟩, fun ds ρ ρ' h => by
    cases ds with
    | nil => rfl
    | cons _ _ => cases h⟩
theorem b1a {m : MG} {ms : MGs} {n : Nat} {ts us : List Nat} (h : QG X e m ts) (r : QGs X es n ms us) (hs : (assignEach (e :: es) X.env).map (·.2) = assign e X.env :: (assignEach es X.env).map (·.2) := by rfl) : QGs X (e :: es) (n + 1) (gsCons m ms) (ts ++ us) := by
  obtain ⟨⟨g, p, s⟩⟩ := h
  obtain ⟨⟨gs, ps, ss⟩, hl⟩ := r
  refine ⟨⟨_, pgs_cons p ps hs, fun F ρ σ G H v d ρ' c r m Q q => ?_⟩, fun ds ρ ρ' h => ?_⟩
  · cases r with
    | nil => cases m
    | cons r1 r2 =>
      rename_i v1 vs d1 ds1
      obtain ⟨ρ1, h1, h2⟩ := Option.bind_eq_some_iff.mp m
      exact ⟨v1, vs, rfl, s F ρ σ G H v1 d1 ρ1 c r1 h1 _ fun σ1 b1 c1 => ss F ρ1 σ1 G H vs ds1 ρ' c1 r2 h2 Q fun σ2 b2 c2 => q σ2 (b1.trans b2) c2⟩
  · cases ds with
    | nil => cases h
    | cons d ds =>
      obtain ⟨ρ1, h1, h2⟩ := Option.bind_eq_some_iff.mp h
      rw [h0e, hl ds ρ1 ρ' h2]
theorem i8a {k : Nat} {n : Nat} {ms : MGs} {ts : List Nat} (h : QGs X es n ms ts) (hc : X.calm = true) (hn : (assignEach es X.env).length = n := by rfl) (hst : (assignEach es X.env).findIdx? (·.1) = none := by rfl) : QG X (.Tuple es k pos) (gT ms) ts := by
  obtain ⟨⟨gs, ps, ss⟩, hl⟩ := h
  refine ⟨⟨_, pg_tup hc ps hn hst, fun F ρ σ G H v d ρ' c r m Q q => ?_⟩⟩
  unfold gT at m
  cases r with
  | tup h r =>
    rename_i a xs ds
    exact ⟨a, xs, rfl, .inl (c.ex.rd h.rd), by rw [r.length]; exact hl ds ρ ρ' m, ss F ρ σ G H xs ds ρ' c r m Q q⟩
  | raw h r =>
    rename_i a xs ds
    exact ⟨a, xs, rfl, .inl (c.ex.rd h), by rw [r.length]; exact hl ds ρ ρ' m, ss F ρ σ G H xs ds ρ' c r m Q q⟩
  | _ => cases m
def sAsg (f : M D) (m : MG) : MS := sDo f fun d => fun ρ => match m d ρ with
 | some ρ' => .nx ρ'
 | none => .bad
theorem y6c {m : MG} {tg : Expr} {ts : List Nat} (hp : ∀ te g, PE X e te → PG X tg g → PS X st (tAsg te g)) (ha : QE X cls W e f) (hg : QG X tg m ts) : QS X cls W st (sAsg f m) := by
  obtain ⟨⟨t, p, s⟩, _⟩ := ha
  obtain ⟨⟨g, pg, sg⟩⟩ := hg
  refine ⟨⟨_, hp t g p pg, fun F ρ σ G H c E w => s F ρ σ G H c _ (o9a w fun d ρ' q v G1 H1 e1 c1 r1 => ?_)⟩⟩
  cases h : m d ρ' with
  | none => rw [h] at q; exact q.elim
  | some ρ2 =>
    rw [h] at q
    exact sg F ρ' σ G1 H1 v d ρ2 c1 r1 h _ fun σ' _ c2 => q σ' G1 H1 e1 c2
def Walks (K : PySem.W.Frag) (J : It) (G : Hp) (ds : List D) : Prop := ∀ F G1 H1 σ ρ, Ex G G1 → CS K F G1 H1 σ ρ →
 (∀ (i : Nat) d, ds[i]? = some d → J.go i H1 ∧ ∀ x H2, J.yld i H1 x H2 → ∃ G2, Ex G1 G2 ∧ CS K F G2 H2 σ ρ ∧ Rep K G2 x d) ∧ J.stop ds.length H1
def SimI (K : PySem.W.Frag) (cls : Nat → Value) (W : WX) (wi : TI) (f : M (List D)) : Prop := ∀ F ρ σ G H, CS K F G H σ ρ → ∀ Q : It → Hp → Prop, wpR (f ρ) (fun ds ρ' => ∀ J G' H', Ex G G' → CS K F G' H' σ ρ' → Walks K J G' ds → Q J H') (PEx K cls W F G σ) → wi σ H Q
structure QI (X : Cx) (cls : Nat → Value) (W : WX) (tg iter : Expr) (f : M (List D)) : Prop where
 sim : ∃ wi, PI X tg iter wi ∧ SimI X.K cls W wi f
 inert : Inert f
def loop (m : MG) (b : MS) : List D → MS
  | [] => sSkip
  | d :: ds => fun ρ => match m d ρ with
    | none => .bad
    | some ρ1 => match b ρ1 with
      | .nx ρ2 => loop m b ds ρ2
      | o => o
def sFor (f : M (List D)) (m : MG) (b : MS) : MS := sDo f fun ds => loop m b ds
theorem u1c {K : PySem.W.Frag} {wi : TI} {fi : M (List D)} {g : TG} {m : MG} {tb : TS} {b : MS} {ts : List Nat} {F : Fm} {ρ : List Sl} {σ : St} {G H : Hp} (hi : ∀ Q : It → Hp → Prop, wpR (fi ρ) (fun ds ρ' => ∀ J G' H', Ex G G' → CS K F G' H' σ ρ' → Walks K J G' ds → Q J H') (PEx K cls W F G σ) → wi σ H Q) (hg : SimG K g m ts) (hb : SimS K cls W tb b) (E : Ends) (w : PO K cls W F G E (sFor fi m b ρ)) : tFor wi g tb E σ H := by
  refine hi _ (o9a w fun ds ρ1 q J G1 H1 e1 c1 wk => ?_)
  refine ⟨fun i n σ2 H2 => ∃ ρ2 G2, i + n = ds.length ∧ Ex G1 G2 ∧ CS K F G2 H2 σ2 ρ2 ∧ PO K cls W F G E (loop m b (ds.drop i) ρ2), ⟨ds.length, ρ1, G1, by omega, Same.refl G1, c1, q⟩, ?_⟩
  rintro i n σ2 H2 ⟨ρ2, G2, hn, e2, c2, p⟩
  obtain ⟨wg, wst⟩ := wk F G2 H2 σ2 ρ2 e2 c2
  by_cases hlt : i < ds.length
  · have hd : ds[i]? = some ds[i] := h7e hlt
    obtain ⟨go, yl⟩ := wg i _ hd
    refine .inr ⟨go, fun σ3 H3 => ∃ ρ3 G3, Ex G1 G3 ∧ CS K F G3 H3 σ3 ρ3 ∧ PO K cls W F G E (loop m b (ds.drop (i + 1)) ρ3), fun σ3 H3 ⟨ρ3, G3, e3, c3, p3⟩ => ⟨n - 1, by omega, ρ3, G3, by omega, e3, c3, p3⟩, fun x H3 hy => ?_⟩
    obtain ⟨G3, e3, c3, r3⟩ := yl x H3 hy
    rw [l0e hlt] at p
    unfold loop at p
    cases hm : m ds[i] ρ2 with
    | none => rw [hm] at p; exact p.elim
    | some ρ3 =>
      rw [hm] at p
      have p : PO K cls W F G E (match b ρ3 with
        | O.nx ρ2 => loop m b (ds.drop (i + 1)) ρ2
        | o => o) := p
      refine hg F ρ2 σ2 G3 H3 x _ ρ3 c3 r3 hm _ fun σ4 _ c4 => ?_
      refine hb F ρ3 σ4 G3 H3 c4 _ ?_
      cases hq : b ρ3 with
      | nx ρ4 =>
        rw [hq] at p
        exact fun σ5 G5 H5 e5 c5 => ⟨ρ4, G5, (e2.trans e3).trans e5, c5, p⟩
      | rt d ρ' => rw [hq] at p; exact PO.mono ((e1.trans e2).trans e3) (o := .rt d ρ') p
      | rtN d ρ' => rw [hq] at p; exact PO.mono ((e1.trans e2).trans e3) (o := .rtN d ρ') p
      | ex c ρ' => rw [hq] at p; exact PO.mono (E := E) ((e1.trans e2).trans e3) (o := .ex c ρ') p
      | bad => rw [hq] at p; exact p.elim
  · have e : i = ds.length := by omega
    subst e
    refine .inl ⟨wst, ?_⟩
    rw [List.drop_length] at p
    exact p σ2 G2 H2 (e1.trans e2) c2
theorem s8d {K : PySem.W.Frag} {wi : TI} {fi : M (List D)} {g : TG} {m : MG} {tb : TS} {b : MS} {ts : List Nat} (hi : SimI K cls W wi fi) (hg : SimG K g m ts) (hb : SimS K cls W tb b) : SimS K cls W (tFor wi g tb) (sFor fi m b) := fun F ρ σ G H c E w => u1c (hi F ρ σ G H c) hg hb E w
theorem h1a {tg iter : Expr} {fi : M (List D)} {m : MG} {body : List Stmt} {bf : MS} {ts : List Nat} (hi : QI X cls W tg iter fi) (hg : QG X tg m ts) (hb : QB X cls W body bf) (hp : ∀ wi g tb, PI X tg iter wi → PG X tg g → PSs X body tb → PS X st (tFor wi g tb)) : QS X cls W st (sFor fi m bf) := by
 obtain ⟨⟨wi, pi, si⟩, _⟩ := hi
 obtain ⟨⟨g, pg, sg⟩⟩ := hg
 obtain ⟨⟨tb, pb, sb⟩⟩ := hb
 exact ⟨⟨_, hp wi g tb pi pg pb, s8d si sg sb⟩⟩
def items (d : D) : Option (List D) := match d with
 | .lst ds => some ds
 | .tup ds => some ds
 | .str x => some (x.cps.toList.map fun c => .str ⟨#[c]⟩)
 | _ => none
def iSeq (f : M D) : M (List D) := mbind f fun d => lift (match d with | .lst ds => some ds | .tup ds => some ds | .scr ns => some (ns.map D.int) | _ => none)
theorem a6e {tg l : Expr} {tl : TE} (hl : PE X l tl) : PI X tg l (fun σ H R => tl σ H fun x H1 => ∃ a, x = .ref a ∧ (((∃ xs, SqL X.K H1 a xs) ∧ R (Itl X.K a) H1) ∨ ((∃ xs, SqT X.K H1 a xs) ∧ R (Itt X.K a) H1))) := by
 refine ⟨fun pins s σ H R I h => ?_⟩
 refine thn (hl.run pins s σ H _ I h) fun v s1 ⟨x, H1, I1, r1, q1⟩ => ?_
 obtain ⟨a, e, q1⟩ := q1
 subst e
 cases r1
 rcases q1 with ⟨⟨xs, hq⟩, q⟩ | ⟨⟨xs, hq⟩, q⟩
 ·obtain ⟨its, rv, p, hz⟩ := I1.list hq
  refine wpAny_pyIter_list p.isList ?_
  refine ⟨s1.heap.objs.size, [s1.heap.objs.size], _, _, H1, rfl, I1.kept (t' := s1.toks) fun b o e => Heap.get?_push_of_some _ e, turn_list a _, ⟨_, Heap.get?_push_size _ rfl, rfl, rfl⟩, fun b hb => ?_, q⟩
  have e : b = s1.heap.objs.size := by simpa using hb
  subst e
  exact I1.fpOk (j0e _) (I1.hok.fresh (j0e _))
 ·obtain ⟨its, rv, p, hz⟩ := I1.tuple hq
  refine wpAny_pyIter_tuple (show s1.heap.IsTuple a its.toArray from p) ?_
  refine ⟨s1.heap.objs.size, [s1.heap.objs.size], _, _, H1, rfl, I1.kept (t' := s1.toks) fun b o e => Heap.get?_push_of_some _ e, turn_tuple a _, ⟨_, Heap.get?_push_size _ rfl, rfl, rfl⟩, fun b hb => ?_, q⟩
  have e : b = s1.heap.objs.size := by simpa using hb
  subst e
  exact I1.fpOk (j0e _) (I1.hok.fresh (j0e _))
theorem y4b {K : PySem.W.Frag} {G : Hp} {a : Addr} {xs : List V} {ds : List D} (h : SqL K G a xs) (r : RepL K G xs ds) : Walks K (Itl K a) G ds := fun F G1 H1 σ ρ e1 c1 => by
 have h1 : SqL K H1 a xs := Same.seq (e1.trans c1.ex) h
 refine ⟨fun i d hd => ?_, ⟨xs, h1, by rw [r.length]; exact j0e _⟩⟩
 obtain ⟨u, hu, ru⟩ := r.get hd
 refine ⟨⟨xs, u, h1, hu⟩, fun x H2 ⟨e, y⟩ => ?_⟩
 subst e
 have hx := y xs h1
 rw [hu] at hx
 cases hx
 exact ⟨G1, Same.refl G1, c1, ru.mono e1⟩
theorem y7c {K : PySem.W.Frag} {G : Hp} {a : Addr} {xs : List V} {ds : List D} (h : Rd G a (.tup xs)) (r : RepL K G xs ds) : Walks K (Itt K a) G ds := fun F G1 H1 σ ρ e1 c1 => by
 have h1 : SqT K H1 a xs := .inl (c1.ex.rd (e1.rd h))
 refine ⟨fun i d hd => ?_, ⟨xs, h1, by rw [r.length]; exact j0e _⟩⟩
 obtain ⟨u, hu, ru⟩ := r.get hd
 refine ⟨⟨xs, u, h1, hu⟩, fun x H2 ⟨e, y⟩ => ?_⟩
 subst e
 have hx := y xs h1
 rw [hu] at hx
 cases hx
 exact ⟨G1, Same.refl G1, c1, ru.mono e1⟩
theorem d5a {tg : Expr} (ha : QE X cls W e f) : QI X cls W tg e (iSeq f) := by
  obtain ⟨⟨t, p, s⟩, ia⟩ := ha
  refine ⟨⟨_, a6e p, fun F ρ σ G H c Q w => ?_⟩, a7a ia fun _ => c1a⟩
  refine s F ρ σ G H c _ ((a8a w).mono (fun d ρ1 w1 v1 G1 H1 e1 c1 r1 => ?_) fun _ _ p => p)
  obtain ⟨ds, ed, p⟩ := c9a w1
  cases r1 with
  | lst h r =>
    cases ed
    exact ⟨_, rfl, .inl ⟨⟨_, .inl (.inl (c1.ex _ _ h))⟩, p _ G1 H1 e1 c1 (y4b (.inl (.inl h)) r)⟩⟩
  | tup h r =>
    cases ed
    exact ⟨_, rfl, .inr ⟨⟨_, .inl (c1.ex.rd h.rd)⟩, p _ G1 H1 e1 c1 (y7c h.rd r)⟩⟩
  | scr h =>
    cases ed
    exact ⟨_, rfl, .inl ⟨⟨_, Same.seq c1.ex h⟩, p _ G1 H1 e1 c1 (y4b h (RepL.ints _))⟩⟩
  | _ => cases ed
def rng1 (ds : List D) : Option (List D) := match ds with
 | [.int j] => if -(2 ^ 62) ≤ j ∧ j < 2 ^ 62 then some ((List.range j.toNat).map fun k => D.int (k : Nat)) else none
 | _ => none
def rng2 (ds : List D) : Option (List D) := match ds with
 | [.int i, .int j] => if -(2 ^ 62) ≤ i ∧ i < 2 ^ 62 ∧ -(2 ^ 62) ≤ j ∧ j < 2 ^ 62 then some ((List.range (j - i).toNat).map fun k => D.int (i + (k : Nat))) else none
 | _ => none
def iRange1 (f : M (List D)) : M (List D) := mbind f fun ds => lift (rng1 ds)
def iRange2 (f : M (List D)) : M (List D) := mbind f fun ds => lift (rng2 ds)
theorem y5b {K : PySem.W.Frag} {G : Hp} {lo : Int} {n : Nat} : Walks K (Itr lo n) G ((List.range n).map fun k => D.int (lo + (k : Nat))) := fun F G1 H1 σ ρ e1 c1 => by
  refine ⟨fun i d hd => ?_, by show n ≤ _; simp⟩
  rw [i3e] at hd
  cases h : (List.range n)[i]? with
  | none => rw [h] at hd; cases hd
  | some k =>
    rw [h] at hd
    cases hd
    obtain ⟨hi, e⟩ := List.getElem?_eq_some_iff.mp h
    rw [List.getElem_range] at e
    subst e
    rw [j3e] at hi
    refine ⟨hi, fun x H2 ⟨e, y⟩ => ?_⟩
    subst e
    subst y
    exact ⟨G1, Same.refl G1, c1, .int _⟩
theorem h5a {tg iter : Expr} {fa : M (List D)} (hp : ∀ ta, PA X es ta → PI X tg iter (iRng1 ta)) (ha : QA X cls W es fa) : QI X cls W tg iter (iRange1 fa) := by
  obtain ⟨⟨t, p, s⟩, ia⟩ := ha
  refine ⟨⟨_, hp _ p, fun F ρ σ G H c Q w => ?_⟩, a7a ia fun _ => c1a⟩
  refine s F ρ σ G H c _ ((a8a w).mono (fun d ρ1 w1 v1 G1 H1 e1 c1 r1 => ?_) fun _ _ p => p)
  obtain ⟨ds, ed, p⟩ := c9a w1
  unfold rng1 at ed
  split at ed
  · rename_i j
    split at ed
    · rename_i hj
      cases ed
      cases r1 with
      | cons r0 rn =>
        cases rn
        cases r0
        refine ⟨j, rfl, hj.1, hj.2, p _ G1 H1 e1 c1 ?_⟩
        have hw := y5b (K := X.K) (G := G1) (lo := 0) (n := j.toNat)
        simpa using hw
    · cases ed
  · cases ed
theorem y8c {tg iter : Expr} {fa : M (List D)} (hp : ∀ ta, PA X es ta → PI X tg iter (iRng2 ta)) (ha : QA X cls W es fa) : QI X cls W tg iter (iRange2 fa) := by
  obtain ⟨⟨t, p, s⟩, ia⟩ := ha
  refine ⟨⟨_, hp _ p, fun F ρ σ G H c Q w => ?_⟩, a7a ia fun _ => c1a⟩
  refine s F ρ σ G H c _ ((a8a w).mono (fun d ρ1 w1 v1 G1 H1 e1 c1 r1 => ?_) fun _ _ p => p)
  obtain ⟨ds, ed, p⟩ := c9a w1
  unfold rng2 at ed
  split at ed
  · rename_i i j
    split at ed
    · rename_i hj
      cases ed
      cases r1 with
      | cons r0 rn =>
        cases rn with
        | cons r1 rn =>
          cases rn
          cases r0
          cases r1
          exact ⟨i, j, rfl, hj, p _ G1 H1 e1 c1 y5b⟩
    · cases ed
  · cases ed
end
end NT
set_option Elab.async false
set_option linter.all false
set_option maxRecDepth 100000
set_option maxHeartbeats 4000000
namespace NT
open PySem L2
def mineAt (σ : St) (ρ : List Sl) (b : Addr) : Prop := ∃ (i : Nat) (s : Sl) (d : D), ρ[i]? = some s ∧ s.mine = some d ∧ σ[i]? = some (some (.ref b))
open Classical in
noncomputable def gPlus (σ : St) (ρ : List Sl) (G H : Hp) : Hp := fun b => if mineAt σ ρ b then H b else G b
open Classical in
noncomputable def gMinus (σ : St) (ρ : List Sl) (G : Hp) : Hp := fun b => if mineAt σ ρ b then none else G b
def viewS : Sl → Sl
 | .own d => .val d
 | .bor d => .val d
 | s => s
section
variable {K : PySem.W.Frag} {F : Fm} {G H G' H' : Hp} {σ : St} {ρ : List Sl} {cls : Nat → Value} {W : WX}
theorem s1a (c : CS K F G H σ ρ) : Ex G (gPlus σ ρ G H) := fun b o e => by
 unfold gPlus
 split
 ·exact c.ex _ _ e
 ·exact e
theorem g6a {b : Addr} (h : mineAt σ ρ b) : gMinus σ ρ G b = none := by
 unfold gMinus
 rw [if_pos h]
theorem e5a {b : Addr} (h : ¬ mineAt σ ρ b) : gMinus σ ρ G b = G b := by
 unfold gMinus
 rw [if_neg h]
theorem h8a (c : CS K F G H σ ρ) {b : Addr} (h : mineAt σ ρ b) : ∃ d, Obj K G H b d ∧ G b = none ∧ (F.H0 b = none ∨ ∃ i, (i, b) ∈ F.B) := by
 obtain ⟨i, s, d, h1, h2, h3⟩ := h
 obtain ⟨l, a1, a2, a3, a4⟩ := c.mine h1 h2
 rw [h3] at a1
 cases a1
 exact ⟨d, a2, a3, a4.imp id fun z => ⟨i, z⟩⟩
theorem n3a : NoOwn (ρ.map viewS) := fun i s h => by
  rw [i3e] at h
  cases e : ρ[i]? with
  | none => rw [e] at h; cases h
  | some t =>
    rw [e] at h
    cases h
    cases t <;> rfl
theorem g5c {i : Nat} {s : Sl} (h : (ρ.map viewS)[i]? = some s) : ∃ t, ρ[i]? = some t ∧ viewS t = s := by
  rw [i3e] at h
  cases e : ρ[i]? with
  | none => rw [e] at h; cases h
  | some t =>
    rw [e] at h
    cases h
    exact ⟨t, rfl, rfl⟩
theorem CS.view (c : CS K F G H σ ρ) : CS K ⟨H, gPlus σ ρ G H, []⟩ (gPlus σ ρ G H) H σ (ρ.map viewS) := by
  have eP := s1a c
  refine ⟨fun b o e => ?_, Same.refl _, fun b o e _ => e, fun b e1 e2 => (e2 e1).elim, by simpa using c.len, fun i d e => ?_, fun i d e => ?_, fun i d e => ?_, fun i l e => (by cases e), fun i j s t d e l _ h1 h2 _ _ _ _ => ?_⟩
  · unfold gPlus at e
    split at e
    · exact e
    · exact c.ex _ _ e
  · obtain ⟨t, h1, h2⟩ := g5c e
    have mine : ∀ s, ρ[i]? = some s → s.mine = some d → ∃ v, σ[i]? = some (some v) ∧ Rep K (gPlus σ ρ G H) v d := fun s h1 h2 => by
      obtain ⟨l, a1, a2, a3, a4⟩ := c.mine h1 h2
      obtain ⟨o, ho⟩ := a2.some
      refine ⟨_, a1, ?_⟩
      have hm : mineAt σ ρ l := ⟨i, s, d, h1, h2, a1⟩
      refine (a2.rep a3 ho).mono fun b x e => ?_
      by_cases hb : b = l
      · subst hb
        rw [upd_same] at e
        unfold gPlus
        rw [if_pos hm, ← e]
        exact ho
      · rw [upd_ne hb] at e
        exact eP b x e
    cases t with
    | val d' =>
      cases h2
      obtain ⟨v, a, b⟩ := c.vals i d h1
      exact ⟨v, a, b.mono eP⟩
    | own d' => cases h2; exact mine _ h1 rfl
    | bor d' => cases h2; exact mine _ h1 rfl
    | no => cases h2
  · obtain ⟨t, h1, h2⟩ := g5c e
    cases t <;> cases h2
  · obtain ⟨t, h1, h2⟩ := g5c e
    cases t <;> cases h2
  · have z := n3a i s h1
    rw [z] at h2
    cases h2
theorem CS.unview (c : CS K F G H σ ρ) (c' : CS K ⟨H, gPlus σ ρ G H, []⟩ G' H' σ (ρ.map viewS)) : CS K F (gMinus σ ρ G') H' σ ρ ∧ Ex G (gMinus σ ρ G') := by
  have keep : ∀ b o, H b = some o → H' b = some o := fun b o e => c'.fr b o e fun i z => by cases z
  have eG : Ex G (gMinus σ ρ G') := fun b o e => by
    have nm : ¬ mineAt σ ρ b := fun z => by
      obtain ⟨d, _, g, _⟩ := h8a c z
      rw [g] at e
      cases e
    rw [e5a nm]
    exact c'.g0 b o (s1a c b o e)
  have obj : ∀ {l d}, Obj K G H l d → Obj K (gMinus σ ρ G') H' l d := fun {l d} h => by
    obtain ⟨o, ho⟩ := h.some
    exact h.mono eG.ext ((keep l o ho).trans ho.symm)
  refine ⟨⟨fun b o e => ?_, c.g0.trans eG, fun b o e hb => keep b o (c.fr b o e hb), fun b e1 e2 => ?_, c.len, fun i d e => ?_, fun i d e => ?_, fun i d e => ?_, c.bb, c.sep⟩, eG⟩
  · by_cases nm : mineAt σ ρ b
    · rw [g6a nm] at e
      cases e
    · rw [e5a nm] at e
      exact c'.ex _ _ e
  · by_cases nm : mineAt σ ρ b
    · rw [g6a nm] at e2
      exact (e2 rfl).elim
    · rw [e5a nm] at e2
      cases q : G b with
      | some o => exact (c.gn b e1 (by rw [q]; exact fun z => by cases z)).imp id fun ⟨xs, z⟩ => ⟨xs, by rw [e5a nm]; exact c'.g0 b _ (s1a c b _ z)⟩
      | none =>
        have hp : gPlus σ ρ G H b = none := by
          unfold gPlus
          rw [if_neg nm]
          exact q
        exact (c'.gn b hp e2).imp (fun z => (c.fresh z).1) fun ⟨xs, z⟩ => ⟨xs, by rw [e5a nm]; exact z⟩
  · obtain ⟨v, a, b⟩ := c.vals i d e
    exact ⟨v, a, b.mono eG⟩
  · obtain ⟨l, a, b, x, y⟩ := c.owns i d e
    exact ⟨l, a, obj b, g6a ⟨i, _, d, e, rfl, a⟩, y⟩
  · obtain ⟨l, a, b, x, y⟩ := c.bors i d e
    exact ⟨l, a, obj b, g6a ⟨i, _, d, e, rfl, a⟩, y⟩
theorem CS.viewFrz (c : CS K F G H σ ρ) (c' : CS K ⟨H, gPlus σ ρ G H, []⟩ G' H' σ (ρ.map viewS)) (a : Addr) (ob : PySem.Obj) (xs : List V) (h : G' a = some (.frz ob (.tup xs))) : gMinus σ ρ G' a = some (.frz ob (.tup xs)) := by
 have nm : ¬ mineAt σ ρ a := fun z => by
  obtain ⟨d, o, _, _⟩ := h8a c z
  obtain ⟨x, hx⟩ := o.some
  have e1 := c'.fr a x hx fun i z => by cases z
  have e2 := c'.ex a _ h
  rw [e1] at e2
  cases e2
  exact o.notFrz ob _ hx
 rw [e5a nm]
 exact h
theorem CS.viewTup (c : CS K F G H σ ρ) (c' : CS K ⟨H, gPlus σ ρ G H, []⟩ G' H' σ (ρ.map viewS)) (a : Addr) (xs : List V) (h : G' a = some (.tup xs)) : gMinus σ ρ G' a = some (.tup xs) := by
 have nm : ¬ mineAt σ ρ a := fun z => by
  obtain ⟨d, o, _, _⟩ := h8a c z
  obtain ⟨x, hx⟩ := o.some
  have e1 := c'.fr a x hx fun i z => by cases z
  have e2 := c'.ex a _ h
  rw [e1] at e2
  cases e2
  exact o.notTup xs hx
 rw [e5a nm]
 exact h
def plainK {κ : Type} : List (κ × D) → Bool
 | [] => true
 | (_, d) :: r => plain d && plainK r
def plainO : D → Bool
 | .lst ds => plainL ds
 | .dK kvs => plainK kvs
 | .dT kvs => plainK kvs
 | _ => false
theorem RepK.plain (e : (∀ a xs, G a = some (.tup xs) → G' a = some (.tup xs)) ∧ ∀ a o xs, G a = some (.frz o (.tup xs)) → G' a = some (.frz o (.tup xs))) : ∀ {v : List (Key × V)} {d : List (Key × D)}, RepK K G v d → plainK d = true → RepK K G' v d
  | _, _, .nil, _ => .nil
  | _, _, .cons h r, p => by
    simp [plainK] at p
    exact .cons (Rep.plain e h p.1) (RepK.plain e r p.2)
theorem RepT.plain (e : (∀ a xs, G a = some (.tup xs) → G' a = some (.tup xs)) ∧ ∀ a o xs, G a = some (.frz o (.tup xs)) → G' a = some (.frz o (.tup xs))) : ∀ {v : List (List Key × V)} {d : List (List Key × D)}, RepT K G v d → plainK d = true → RepT K G' v d
  | _, _, .nil, _ => .nil
  | _, _, .cons h r, p => by
    simp [plainK] at p
    exact .cons (Rep.plain e h p.1) (RepT.plain e r p.2)
theorem y9c (e : (∀ a xs, G a = some (.tup xs) → G' a = some (.tup xs)) ∧ ∀ a o xs, G a = some (.frz o (.tup xs)) → G' a = some (.frz o (.tup xs))) {l : Addr} {d : D} (h : Obj K G H l d) (p : plainO d = true) : Obj K G' H l d := by
 cases d with
 | lst ds => obtain ⟨xs, a, b⟩ := h; exact ⟨xs, a, b.plain e p⟩
 | dK ds => obtain ⟨xs, a, b⟩ := h; exact ⟨xs, a, b.plain e p⟩
 | dT ds => obtain ⟨xs, a, b⟩ := h; exact ⟨xs, a, b.plain e p⟩
 | obj c fs => cases p
 | _ => exact h.elim
def eView (f : M D) : M D := fun ρ => match f (ρ.map viewS) with
 | .ok d _ => if plain d then .ok d ρ else .bad
 | _ => .bad
def eViewN (f : M D) : M D := fun ρ => match f (ρ.map viewS) with
 | .ok d _ => if plainO d then .ok d ρ else .bad
 | _ => .bad
def tView (f : M Bool) : M Bool := fun ρ => match f (ρ.map viewS) with
 | .ok d _ => .ok d ρ
 | _ => .bad
def iView (f : M (List D)) : M (List D) := fun ρ => match f (ρ.map viewS) with
 | .ok d _ => if plainL d then .ok d ρ else .bad
 | _ => .bad
theorem j2d {te : TE} {f : M D} (h : SimE K cls W te f) (hi : Inert f) : SimE K cls W te (eView f) := fun F ρ σ G H c Q w => by
  unfold eView at w
  refine h _ _ σ _ H c.view Q ?_
  cases q : f (ρ.map viewS) with
  | ok d ρ' =>
    rw [q] at w
    dsimp only at w
    have e := hi _ n3a d ρ' q
    subst e
    intro v G' H' e' c' r
    by_cases hp : plain d = true
    · have w : POk K F G σ Q d ρ := by
        rw [if_pos hp] at w
        exact w
      obtain ⟨c2, e2⟩ := c.unview c'
      exact w v _ _ e2 c2 (r.plain ⟨c.viewTup c', c.viewFrz c'⟩ hp)
    · rw [if_neg hp] at w
      exact w.elim
  | ex c ρ' => rw [q] at w; exact w.elim
  | bad => rw [q] at w; exact w.elim
theorem y6b {te : TE} {f : M D} (h : SimN K cls W te f) (hi : Inert f) : SimN K cls W te (eViewN f) := fun F ρ σ G H c Q w => by
  unfold eViewN at w
  refine h _ _ σ _ H c.view Q ?_
  cases q : f (ρ.map viewS) with
  | ok d ρ' =>
    rw [q] at w
    dsimp only at w
    have e := hi _ n3a d ρ' q
    subst e
    intro l G' H' e' c' r
    by_cases hp : plainO d = true
    · have w : PNw K F G σ Q d ρ := by
        rw [if_pos hp] at w
        exact w
      obtain ⟨c2, e2⟩ := c.unview c'
      have hn : H l = none := r.h0
      have nm : ¬ mineAt σ ρ l := fun z => by
        obtain ⟨d, o, _, _⟩ := h8a c z
        obtain ⟨x, hx⟩ := o.some
        rw [hn] at hx
        cases hx
      refine w l _ _ e2 c2 ⟨y9c ⟨c.viewTup c', c.viewFrz c'⟩ r.obj hp, ?_, (c.fresh hn).1, fun i s e h1 h2 h3 => nm ⟨i, s, e, h1, h2, h3⟩⟩
      rw [e5a nm]
      exact r.g
    · rw [if_neg hp] at w
      exact w.elim
  | ex c ρ' => rw [q] at w; exact w.elim
  | bad => rw [q] at w; exact w.elim
theorem z0c {te : TT} {f : M Bool} (h : SimT K cls W te f) (hi : Inert f) : SimT K cls W te (tView f) := fun F ρ σ G H c Q w => by
  unfold tView at w
  refine h _ _ σ _ H c.view Q ?_
  cases q : f (ρ.map viewS) with
  | ok d ρ' =>
    rw [q] at w
    dsimp only at w
    have e := hi _ n3a d ρ' q
    subst e
    intro G' H' e' c'
    obtain ⟨c2, e2⟩ := c.unview c'
    exact w _ _ e2 c2
  | ex c ρ' => rw [q] at w; exact w.elim
  | bad => rw [q] at w; exact w.elim
theorem u2c {f : M D} : Inert (eView f) := fun ρ n a ρ' h => by
 unfold eView at h
 split at h
 ·split at h
  ·cases h; rfl
  ·cases h
 ·cases h
theorem g6c {f : M D} : Inert (eViewN f) := fun ρ n a ρ' h => by
 unfold eViewN at h
 split at h
 ·split at h
  ·cases h; rfl
  ·cases h
 ·cases h
theorem g7c {f : M Bool} : Inert (tView f) := fun ρ n a ρ' h => by
 unfold tView at h
 split at h
 ·cases h; rfl
 ·cases h
end
section
variable {X : Cx} {cls : Nat → Value} {W : WX} {e a b : Expr} {es : List Expr} {f g : M D} {tf : M Bool} {pos : Pos} {sf sg : MS} {st : Stmt} {sts : List Stmt}
theorem QE.view (h : QE X cls W e f) : QE X cls W e (eView f) := ⟨let ⟨t, p, s⟩ := h.sim; ⟨t, p, j2d s h.inert⟩, u2c⟩
theorem QN.view (h : QN X cls W e f) : QN X cls W e (eViewN f) := ⟨let ⟨t, p, s⟩ := h.sim; ⟨t, p, y6b s h.inert⟩, g6c⟩
theorem QT.view (h : QT X cls W e tf) : QT X cls W e (tView tf) := ⟨let ⟨t, p, s⟩ := h.sim; ⟨t, p, z0c s h.inert⟩, g7c⟩
def Mut1 (K : PySem.W.Frag) (T : String) (r : V → List V → Hp → VK → Prop) (op : D → List D → Option (D × D)) : Prop := ∀ G H l d vs xs z d', Obj K G H l d → RepL K G vs xs → Ex G H → op d xs = some (z, d') → ∀ Q : VK, (∀ v o, Rep K G v z → Obj K G (upd H l o) l d' → Q v (upd H l o)) → r (.ref l) vs H Q
def isLst : D → Bool
 | .lst _ => true
 | _ => false
def isDct : D → Bool
 | .dK _ => true
 | .dT _ => true
 | _ => false
def mineOf (ρ : List Sl) (i : Nat) : Option (Sl × D) := match ρ[i]? with
  | some s => match s.mine with
    | some d => some (s, d)
    | none => none
  | none => none
theorem d7a {ρ : List Sl} {i : Nat} {s : Sl} {d : D} (h : mineOf ρ i = some (s, d)) : ρ[i]? = some s ∧ s.mine = some d := by
 unfold mineOf at h
 split at h
 ·rename_i s' e
  split at h
  ·rename_i d' e2
   cases h
   exact ⟨e, e2⟩
  ·cases h
 ·cases h
def mutAt (i : Nat) (op : D → Option (D × D)) : M D := fun ρ => match mineOf ρ i with
  | some (s, d) => match op d with
    | some (z, d') => .ok z (ρ.set i (s.with d'))
    | none => .bad
  | none => .bad
def eMut (ok : D → Bool) (i : Nat) (op : D → List D → Option (D × D)) (fa : M (List D)) : M D := fun ρ => match mineOf ρ i with
 | some (_, d) => if ok d then mbind fa (fun xs => mutAt i fun d => op d xs) ρ else .bad
 | none => .bad
theorem y7b {ok : D → Bool} {i : Nat} {op : D → List D → Option (D × D)} {fa : M (List D)} : Inert (eMut ok i op fa) := fun ρ n a ρ' h => by
 unfold eMut at h
 split at h
 ·rename_i s d e
  obtain ⟨h1, h2⟩ := d7a e
  rw [n i _ h1] at h2
  cases h2
 ·cases h
theorem p9b {i : Nat} {op : D → Option (D × D)} {ρ : List Sl} {P : D → List Sl → Prop} {E : Nat → List Sl → Prop} (h : wpR (mutAt i op ρ) P E) : ∃ s d z d', ρ[i]? = some s ∧ s.mine = some d ∧ op d = some (z, d') ∧ P z (ρ.set i (s.with d')) := by
 unfold mutAt at h
 split at h
 ·rename_i s d e
  obtain ⟨h1, h2⟩ := d7a e
  split at h
  ·rename_i z d' e2
   exact ⟨s, d, z, d', h1, h2, e2, h⟩
  ·exact h.elim
 ·exact h.elim
theorem a7e {K : PySem.W.Frag} {T : String} {ok : D → Bool} {i : Nat} {r : V → List V → Hp → VK → Prop} {op : D → List D → Option (D × D)} {t : TA} {fa : M (List D)} (hr : Mut1 K T r op) (hT : ∀ G H l d, ok d = true → Obj K G H l d → tyV K T (.ref l) H) (ha : SimA K cls W t fa) : SimE K cls W (tBM K T r (tVar i) t) (eMut ok i op fa) := fun F ρ σ G H c Q w => by
 unfold eMut at w
 split at w
 ·rename_i s d e
  obtain ⟨h1, h2⟩ := d7a e
  obtain ⟨l, a1, a2, a3, a4⟩ := c.mine h1 h2
  split at w
  ·rename_i hok
   refine ⟨.ref l, a1, hT G H l d hok a2, ?_⟩
   refine ha F ρ σ G H c _ ((a8a w).mono (fun xs ρ1 w1 v1 G1 H1 e1 c1 r1 => ?_) fun _ _ p => p)
   obtain ⟨s1, d1, z, d', b1, b2, b3, b4⟩ := p9b w1
   obtain ⟨l1, x1, x2, x3, x4⟩ := c1.mine b1 b2
   rw [a1] at x1
   cases x1
   exact hr G1 H1 l d1 v1 xs z d' x2 r1 c1.ex b3 Q fun v o rv ho => b4 v G1 _ e1 (c1.write b1 b2 a1 ho) rv
  ·exact w.elim
 ·exact w.elim
theorem s9d {K : PySem.W.Frag} {T : String} {ok : D → Bool} {i : Nat} {r : V → List V → Hp → VK → Prop} {op : D → List D → Option (D × D)} (hr : Mut1 K T r op) (hT : ∀ G H l d, ok d = true → Obj K G H l d → tyV K T (.ref l) H) : SimE K cls W (tBM0 K T r (tVar i)) (eMut ok i op aNil) := fun F ρ σ G H c Q w => by
 unfold eMut at w
 split at w
 ·rename_i s d e
  obtain ⟨h1, h2⟩ := d7a e
  obtain ⟨l, a1, a2, a3, a4⟩ := c.mine h1 h2
  split at w
  ·rename_i hok
   refine ⟨.ref l, a1, hT G H l d hok a2, ?_⟩
   obtain ⟨s1, d1, z, d', b1, b2, b3, b4⟩ := p9b w
   obtain ⟨l1, x1, x2, x3, x4⟩ := c.mine b1 b2
   rw [a1] at x1
   cases x1
   exact hr G H l d1 [] [] z d' x2 .nil c.ex b3 Q fun v o rv ho => b4 v G _ (Same.refl G) (c.write b1 b2 a1 ho) rv
  ·exact w.elim
 ·exact w.elim
theorem z1c {K : PySem.W.Frag} (G H : Hp) (l : Addr) (d : D) (h : isLst d = true) (ho : Obj K G H l d) : tyV K "list" (.ref l) H := by
 cases d with
 | lst ds => obtain ⟨xs, e, _⟩ := ho; exact .inl ⟨rfl, xs, .inl (.inl e)⟩
 | _ => cases h
theorem q_lm (i : Nat) {r : V → List V → Hp → VK → Prop} {op : D → List D → Option (D × D)} {fa : M (List D)} (hp : ∀ t, PA X es t → PE X e (tBM X.K "list" r (tVar i) t)) (hr : Mut1 X.K "list" r op) (ha : QA X cls W es fa) : QE X cls W e (eMut isLst i op fa) := by
 obtain ⟨⟨t, p, s⟩, _⟩ := ha
 exact ⟨⟨_, hp t p, a7e hr (fun G H l d => z1c G H l d) s⟩, y7b⟩
theorem f3e (i : Nat) {r : V → List V → Hp → VK → Prop} {op : D → List D → Option (D × D)} (hp : PE X e (tBM0 X.K "list" r (tVar i))) (hr : Mut1 X.K "list" r op) : QE X cls W e (eMut isLst i op aNil) :=
 ⟨⟨_, hp, s9d hr (fun G H l d => z1c G H l d)⟩, y7b⟩
def opAppend : D → List D → Option (D × D)
 | .lst ds, [x] => if ds.length ≤ 100000 then some (.non, .lst (ds ++ [x])) else none
 | _, _ => none
theorem d9a {K : PySem.W.Frag} : Mut1 K "list" rAppend opAppend := fun G H l d vs xs z d' ho rv ex h Q q => by
  unfold opAppend at h
  split at h
  · split at h
    · rename_i hl
      cases h
      obtain ⟨ys, e, r⟩ := ho
      cases rv with
      | cons r1 r2 =>
        cases r2
        exact ⟨l, ys, _, rfl, rfl, e, by rw [r.length]; exact i9d hl, q _ _ .non ⟨_, upd_same, r.append (.cons r1 .nil)⟩⟩
    · cases h
  · cases h
def opPop : D → List D → Option (D × D)
  | .lst ds, [] => match ds[ds.length - 1]? with
    | some y => some (y, .lst ds.dropLast)
    | none => none
  | _, _ => none
theorem t0d {K : PySem.W.Frag} : Mut1 K "list" rPop opPop := fun G H l d vs xs z d' ho rv ex h Q q => by
 unfold opPop at h
 split at h
 ·split at h
  ·rename_i y e
   cases h
   obtain ⟨ys, eh, r⟩ := ho
   obtain ⟨u, hu, ru⟩ := r.get e
   cases rv
   exact ⟨l, ys, u, rfl, rfl, eh, by rw [r.length]; exact hu, q _ _ ru ⟨_, upd_same, r.dropLast⟩⟩
  ·cases h
 ·cases h
def putAt (ok : D → Bool) (i : Nat) (op : D → D → D → Option D) (fk : M D) (v : D) : M D := fun ρ => match mineOf ρ i with
 | some (_, d) => if ok d then mbind fk (fun k => mutAt i fun d => (op d k v).map fun d' => (.non, d')) ρ else .bad
 | none => .bad
def sPutAt (ok : D → Bool) (i : Nat) (op : D → D → D → Option D) (fk fe : M D) : MS := sDo (mbind fe fun v => putAt ok i op fk v) fun _ => sSkip
def PutOk (K : PySem.W.Frag) (t : V → V → V → Hp → (Hp → Prop) → Prop) (op : D → D → D → Option D) : Prop := ∀ G H l d k kd v vd d', Ex G H → Obj K G H l d → Rep K G k kd → Rep K G v vd → op d kd vd = some d' → ∀ Q : Hp → Prop, (∀ o, Obj K G (upd H l o) l d' → Q (upd H l o)) → t (.ref l) k v H Q
theorem y8b {K : PySem.W.Frag} {te tk : TE} {ok : D → Bool} {i : Nat} {fk fe : M D} {t : V → V → V → Hp → (Hp → Prop) → Prop} {op : D → D → D → Option D} (hr : PutOk K t op) (he : SimE K cls W te fe) (hk : SimE K cls W tk fk) :
  SimS K cls W (fun E σ H => te σ H fun v H1 => tVar i σ H1 fun o H2 => tk σ H2 fun k H3 => t o k v H3 fun H4 => E.nx σ H4) (sPutAt ok i op fk fe) := fun F ρ σ G H c E w => by
 have w : wpR _ (fun _ ρ' => ∀ σ' G' H', Ex G G' → CS K F G' H' σ' ρ' → E.nx σ' H') (PEx K cls W F G σ) := o9a (σ := σ) w fun a ρ' p => p
 refine he F ρ σ G H c _ ((a8a w).mono (fun v ρ1 w1 v1 G1 H1 e1 c1 r1 => ?_) fun _ _ p => p)
 unfold putAt at w1
 split at w1
 ·rename_i s d e
  obtain ⟨h1, h2⟩ := d7a e
  obtain ⟨l, a1, a2, a3, a4⟩ := c1.mine h1 h2
  split at w1
  ·rename_i hok
   refine ⟨.ref l, a1, ?_⟩
   refine hk F ρ1 σ G1 H1 c1 _ ((a8a w1).mono (fun k ρ2 w2 v2 G2 H2 e2 c2 r2 => ?_) fun _ _ p => p.mono e1)
   obtain ⟨s1, d1, z, d', b1, b2, b3, b4⟩ := p9b w2
   obtain ⟨d2, x1, x2⟩ := Option.map_eq_some_iff.mp b3
   cases x2
   obtain ⟨l1, y1, y2, y3, y4⟩ := c2.mine b1 b2
   rw [a1] at y1
   cases y1
   exact hr G2 H2 l d1 v2 k v1 v d' c2.ex y2 r2 (r1.mono e2) x1 _ fun o ho => b4 σ G2 _ (e1.trans e2) (c2.write b1 b2 a1 ho)
  ·exact w1.elim
 ·exact w1.elim
def opSetIx : D → D → D → Option D
 | .lst ds, .int k, v => (ixN ds.length k).map fun j => .lst (ds.set j v)
 | _, _, _ => none
theorem t1d {K : PySem.W.Frag} : PutOk K rSetL opSetIx := fun G H l d k kd v vd d' ex ho rk rv h Q q => by
 unfold opSetIx at h
 split at h
 ·rename_i ds k
  obtain ⟨j, h1, h2⟩ := Option.map_eq_some_iff.mp h
  cases h2
  obtain ⟨xs, e, r⟩ := ho
  cases rk
  exact ⟨l, xs, k, j, rfl, rfl, e, by rw [r.length]; exact h1, q _ ⟨_, upd_same, r.set rv j⟩⟩
 ·cases h
theorem t2d (i : Nat) {k : Expr} {fk : M D} (hp : ∀ te tk, PE X e te → PE X k tk → PS X st (tAsg te (gSub (tVar i) tk rSetL))) (he : QE X cls W e f) (hk : QE X cls W k fk) : QS X cls W st (sPutAt isLst i opSetIx fk f) := by
 obtain ⟨⟨te, pe, se⟩, _⟩ := he
 obtain ⟨⟨tk, pk, sk⟩, _⟩ := hk
 exact ⟨⟨_, hp _ _ pe pk, y8b t1d se sk⟩⟩
section
variable {κ : Type} [DecidableEq κ]
def lookD (kvs : List (κ × D)) (k : κ) : Option D := (kvs.find? fun kv => decide (kv.1 = k)).map (·.2)
def putD (kvs : List (κ × D)) (k : κ) (v : D) : List (κ × D) :=
 if (kvs.any fun kv => decide (kv.1 = k)) = true then kvs.map (fun kv => if kv.1 = k then (kv.1, v) else kv) else kvs ++ [(k, v)]
end
def keyK : D → Option Key
 | .int i => some (.inl i)
 | .str x => some (.inr x)
 | _ => none
def keysK : List D → Option (List Key)
  | [] => some []
  | d :: ds => match keyK d, keysK ds with
    | some k, some ks => some (k :: ks)
    | _, _ => none
def keyT : D → Option (List Key)
 | .tup (d :: ds) => keysK (d :: ds)
 | _ => none
theorem y9b : ∀ {ds : List D} {ks : List Key}, keysK ds = some ks → ds.all keyD = true
  | [], _, _ => rfl
  | d :: ds, _, h => by
    unfold keysK at h
    split at h
    · rename_i k ks h1 h2
      rw [k5e, y9b h2, n4e]
      cases d <;> first | rfl | cases h1
    · cases h
theorem z2c {G : Hp} {a : Addr} {xs : List V} {ds : List D} {ks : List Key} (h : keyT (.tup ds) = some ks) (t : Tp G a xs ds) : G a = some (.tup xs) ∧ keysK ds = some ks := by
  cases ds with
  | nil => cases h
  | cons d ds =>
    have h : keysK (d :: ds) = some ks := h
    have hf : flat (d :: ds) = true := y9b h
    rcases t with ⟨_, t⟩ | ⟨f, _⟩
    · exact ⟨t, h⟩
    · rw [hf] at f
      cases f
section
variable {K : PySem.W.Frag} {G : Hp}
theorem q0b {d : D} {k : Key} (h : keyK d = some k) {v : V} (r : Rep K G v d) : v = kV k := by
 cases d with
 | int i => cases h; cases r; rfl
 | str i => cases h; cases r; rfl
 | _ => cases h
theorem h2b : ∀ {ds : List D} {ks : List Key}, keysK ds = some ks → ∀ {vs : List V}, RepL K G vs ds → vs = ks.map kV
  | [], _, h, _, .nil => by cases h; rfl
  | d :: ds, _, h, _, .cons r1 r2 => by
    unfold keysK at h
    split at h
    · rename_i k ks h1 h2
      cases h
      rw [h3e, q0b h1 r1, h2b h2 r2]
    · cases h
theorem RepK.look {k : Key} : ∀ {xs : List (Key × V)} {ds : List (Key × D)}, RepK K G xs ds → (lookD ds k = none ∧ valV xs k = none) ∨ ∃ d v, lookD ds k = some d ∧ valV xs k = some v ∧ Rep K G v d
  | _, _, .nil => .inl ⟨rfl, rfl⟩
  | _, _, .cons (k := j) (v := v) (vs := vs) (d := d) (ds := ds) h r => by
    by_cases e : j = k
    · exact .inr ⟨d, v, by simp [lookD, i9e, e], by simp [valV, i9e, e], h⟩
    · have e1 : lookD ((j, d) :: ds) k = lookD ds k := by simp [lookD, i9e, e]
      have e2 : valV ((j, v) :: vs) k = valV vs k := by simp [valV, i9e, e]
      rw [e1, e2]
      exact RepK.look r
theorem RepT.look {k : List Key} : ∀ {xs : List (List Key × V)} {ds : List (List Key × D)}, RepT K G xs ds → (lookD ds k = none ∧ valV xs k = none) ∨ ∃ d v, lookD ds k = some d ∧ valV xs k = some v ∧ Rep K G v d
  | _, _, .nil => .inl ⟨rfl, rfl⟩
  | _, _, .cons (k := j) (v := v) (vs := vs) (d := d) (ds := ds) h r => by
    by_cases e : j = k
    · exact .inr ⟨d, v, by simp [lookD, i9e, e], by simp [valV, i9e, e], h⟩
    · have e1 : lookD ((j, d) :: ds) k = lookD ds k := by simp [lookD, i9e, e]
      have e2 : valV ((j, v) :: vs) k = valV vs k := by simp [valV, i9e, e]
      rw [e1, e2]
      exact RepT.look r
theorem RepK.any {k : Key} : ∀ {xs : List (Key × V)} {ds : List (Key × D)}, RepK K G xs ds → (xs.any fun kv => decide (kv.1 = k)) = ds.any fun kv => decide (kv.1 = k)
 | _, _, .nil => rfl
 | _, _, .cons h r => by rw [l4e, l4e, RepK.any r]
theorem RepT.any {k : List Key} : ∀ {xs : List (List Key × V)} {ds : List (List Key × D)}, RepT K G xs ds → (xs.any fun kv => decide (kv.1 = k)) = ds.any fun kv => decide (kv.1 = k)
 | _, _, .nil => rfl
 | _, _, .cons h r => by rw [l4e, l4e, RepT.any r]
theorem RepK.mapPut {k : Key} {v : V} {d : D} (hv : Rep K G v d) : ∀ {xs : List (Key × V)} {ds : List (Key × D)}, RepK K G xs ds → RepK K G (xs.map fun kv => if kv.1 = k then (kv.1, v) else kv) (ds.map fun kv => if kv.1 = k then (kv.1, d) else kv)
  | _, _, .nil => .nil
  | _, _, .cons (k := j) h r => by
    rw [h3e, h3e]
    by_cases e : j = k
    · simp only [e, if_true]
      exact .cons hv (RepK.mapPut hv r)
    · simp only [e, if_false]
      exact .cons h (RepK.mapPut hv r)
theorem RepT.mapPut {k : List Key} {v : V} {d : D} (hv : Rep K G v d) : ∀ {xs : List (List Key × V)} {ds : List (List Key × D)}, RepT K G xs ds → RepT K G (xs.map fun kv => if kv.1 = k then (kv.1, v) else kv) (ds.map fun kv => if kv.1 = k then (kv.1, d) else kv)
  | _, _, .nil => .nil
  | _, _, .cons (k := j) h r => by
    rw [h3e, h3e]
    by_cases e : j = k
    · simp only [e, if_true]
      exact .cons hv (RepT.mapPut hv r)
    · simp only [e, if_false]
      exact .cons h (RepT.mapPut hv r)
theorem RepK.snoc {k : Key} {v : V} {d : D} (hv : Rep K G v d) : ∀ {xs : List (Key × V)} {ds : List (Key × D)}, RepK K G xs ds → RepK K G (xs ++ [(k, v)]) (ds ++ [(k, d)])
 | _, _, .nil => .cons hv .nil
 | _, _, .cons h r => .cons h (RepK.snoc hv r)
theorem RepT.snoc {k : List Key} {v : V} {d : D} (hv : Rep K G v d) : ∀ {xs : List (List Key × V)} {ds : List (List Key × D)}, RepT K G xs ds → RepT K G (xs ++ [(k, v)]) (ds ++ [(k, d)])
 | _, _, .nil => .cons hv .nil
 | _, _, .cons h r => .cons h (RepT.snoc hv r)
theorem RepK.put {k : Key} {v : V} {d : D} (hv : Rep K G v d) {xs : List (Key × V)} {ds : List (Key × D)} (h : RepK K G xs ds) : RepK K G (putK xs k v) (putD ds k d) := by
 unfold putK putD
 rw [h.any]
 split
 ·exact h.mapPut hv
 ·exact h.snoc hv
theorem RepT.put {k : List Key} {v : V} {d : D} (hv : Rep K G v d) {xs : List (List Key × V)} {ds : List (List Key × D)} (h : RepT K G xs ds) : RepT K G (putK xs k v) (putD ds k d) := by
 unfold putK putD
 rw [h.any]
 split
 ·exact h.mapPut hv
 ·exact h.snoc hv
theorem RepK.length : ∀ {xs : List (Key × V)} {ds : List (Key × D)}, RepK K G xs ds → xs.length = ds.length
 | _, _, .nil => rfl
 | _, _, .cons _ r => by rw [h0e, h0e, RepK.length r]
theorem RepT.length : ∀ {xs : List (List Key × V)} {ds : List (List Key × D)}, RepT K G xs ds → xs.length = ds.length
 | _, _, .nil => rfl
 | _, _, .cons _ r => by rw [h0e, h0e, RepT.length r]
end
def opPutD : D → D → D → Option D
  | .dK kvs, k, v => match keyK k with
    | some k => if kvs.length ≤ 100000 then some (.dK (putD kvs k v)) else none
    | none => none
  | .dT kvs, k, v => match keyT k with
    | some k => if kvs.length ≤ 100000 then some (.dT (putD kvs k v)) else none
    | none => none
  | _, _, _ => none
def opGetD : D → D → Option (Option D)
  | .dK kvs, k => match keyK k with
    | some k => some (lookD kvs k)
    | none => none
  | .dT kvs, k => match keyT k with
    | some k => some (lookD kvs k)
    | none => none
  | _, _ => none
theorem t3d {K : PySem.W.Frag} : PutOk K (fun o k v H Q => ∃ a H4, o = .ref a ∧ DPut H a k v H4 ∧ Q H4) opPutD := fun G H l d k kd v vd d' ex ho rk rv h Q q => by
  unfold opPutD at h
  split at h
  · split at h
    · rename_i kk hk
      split at h
      · rename_i hl
        cases h
        obtain ⟨xs, e, r⟩ := ho
        rw [q0b hk rk]
        exact ⟨l, _, rfl, DPut.k e (by rw [r.length]; exact i9d hl), q _ ⟨_, upd_same, r.put rv⟩⟩
      · cases h
    · cases h
  · split at h
    · rename_i kk hk
      split at h
      · rename_i hl
        cases h
        obtain ⟨xs, e, r⟩ := ho
        cases rk with
        | tup ht rt =>
          obtain ⟨ht, hk⟩ := z2c hk ht
          have e2 := h2b hk rt
          subst e2
          exact ⟨l, _, rfl, DPut.t e (ex _ _ ht) (by rw [r.length]; exact i9d hl), q _ ⟨_, upd_same, r.put rv⟩⟩
        | _ => cases hk
      · cases h
    · cases h
  · cases h
theorem g8c {K : PySem.W.Frag} {F : Fm} {G H : Hp} {σ : St} {ρ : List Sl} {x y : V} {d k : D} {o : Option D} (c : CS K F G H σ ρ) (rd : Rep K G x d) (rk : Rep K G y k) (h : opGetD d k = some o) : ∃ a r, x = .ref a ∧ IsD H a ∧ DGet H a y r ∧ ((o = none ∧ r = none) ∨ ∃ z v, o = some z ∧ r = some v ∧ Rep K G v z) := by
  unfold opGetD at h
  split at h
  · split at h
    · rename_i kk hk
      cases h
      rw [q0b hk rk]
      cases rd with
      | dK hd r =>
        have hd := c.ex.rd hd
        exact ⟨_, _, rfl, .inl ⟨_, hd⟩, .inl ⟨_, _, hd, rfl, rfl⟩, r.look.imp (fun z => z) fun ⟨z, v, p, q, r⟩ => ⟨z, v, p, q, r⟩⟩
    · cases h
  · split at h
    · rename_i kk hk
      cases h
      cases rd with
      | dT hd r =>
        have hd := c.ex.rd hd
        cases rk with
        | tup ht rt =>
          obtain ⟨ht, hk⟩ := z2c hk ht
          have e2 := h2b hk rt
          subst e2
          exact ⟨_, _, rfl, .inr ⟨_, hd⟩, .inr ⟨_, _, _, hd, rfl, c.ex _ _ ht, rfl⟩, r.look.imp (fun z => z) fun ⟨z, v, p, q, r⟩ => ⟨z, v, p, q, r⟩⟩
        | _ => cases hk
    · cases h
  · cases h
theorem m3c (i : Nat) {k : Expr} {fk : M D} (hp : ∀ te tk, PE X e te → PE X k tk → PS X st (sDPut (tVar i) tk te)) (he : QE X cls W e f) (hk : QE X cls W k fk) : QS X cls W st (sPutAt isDct i opPutD fk f) := by
 obtain ⟨⟨te, pe, se⟩, _⟩ := he
 obtain ⟨⟨tk, pk, sk⟩, _⟩ := hk
 exact ⟨⟨_, hp _ _ pe pk, y8b t3d se sk⟩⟩
def opIxD (d k : D) : Option D := (opGetD d k).bind id
theorem p0a {k : Expr} {fk : M D} (hp : ∀ td tk, PE X a td → PE X k tk → PE X e (tDGet td tk)) (ha : QE X cls W a f) (hk : QE X cls W k fk) : QE X cls W e (eBin opIxD f fk) := by
 obtain ⟨⟨ta, pa, sa⟩, ia⟩ := ha
 obtain ⟨⟨tk, pk, sk⟩, ik⟩ := hk
 refine ⟨⟨_, hp _ _ pa pk, fun F ρ σ G H c Q w => ?_⟩, i0a ia ik⟩
 refine sa F ρ σ G H c _ ((a8a w).mono (fun x ρ1 w1 v1 G1 H1 e1 c1 r1 => ?_) fun _ _ p => p)
 refine sk F ρ1 σ G1 H1 c1 _ ((a8a w1).mono (fun y ρ2 w2 v2 G2 H2 e2 c2 r2 => ?_) fun _ _ p => p.mono e1)
 obtain ⟨z, ez, p⟩ := c9a w2
 obtain ⟨o, eo, e3⟩ := Option.bind_eq_some_iff.mp ez
 have e3 : o = some z := e3
 subst e3
 obtain ⟨aa, r, hx, _, hg, q⟩ := g8c c2 (r1.mono e2) r2 eo
 rcases q with ⟨q, _⟩ | ⟨z', v, q1, q2, q3⟩
 ·cases q
 ·cases q1
  subst q2
  exact ⟨aa, v, hx, hg, p v G2 H2 (e1.trans e2) c2 q3⟩
def eGet2 (f fk fx : M D) : M D := mbind f fun d => fun ρ => if isDct d then mbind fk (fun k => mbind fx fun x => lift ((opGetD d k).map fun o => o.getD x)) ρ else .bad
def opInD (neg : Bool) (k d : D) : Option D := (opGetD d k).map fun o => .bl (if neg then !o.isSome else o.isSome)
theorem t4d {K : PySem.W.Frag} {td tk : TE} {fd fk : M D} (sk : SimE K cls W tk fk) (sd : SimE K cls W td fd) : SimE K cls W (tDIn tk td) (eBin (opInD false) fk fd) := fun F ρ σ G H c Q w => by
 refine sk F ρ σ G H c _ ((a8a w).mono (fun x ρ1 w1 v1 G1 H1 e1 c1 r1 => ?_) fun _ _ p => p)
 refine sd F ρ1 σ G1 H1 c1 _ ((a8a w1).mono (fun y ρ2 w2 v2 G2 H2 e2 c2 r2 => ?_) fun _ _ p => p.mono e1)
 obtain ⟨z, ez, p⟩ := c9a w2
 obtain ⟨o, eo, e3⟩ := Option.map_eq_some_iff.mp ez
 obtain ⟨aa, r, hx, _, hg, q⟩ := g8c c2 r2 (r1.mono e2) eo
 refine ⟨aa, r, hx, hg, p _ G2 H2 (e1.trans e2) c2 ?_⟩
 rcases q with ⟨q1, q2⟩ | ⟨z', v, q1, q2, q3⟩
 ·subst q1; subst q2; subst e3; exact .bl _
 ·subst q1; subst q2; subst e3; exact .bl _
theorem j3d {K : PySem.W.Frag} {td tk : TE} {fd fk : M D} (sk : SimE K cls W tk fk) (sd : SimE K cls W td fd) : SimE K cls W (tDNotIn tk td) (eBin (opInD true) fk fd) := fun F ρ σ G H c Q w => by
 refine sk F ρ σ G H c _ ((a8a w).mono (fun x ρ1 w1 v1 G1 H1 e1 c1 r1 => ?_) fun _ _ p => p)
 refine sd F ρ1 σ G1 H1 c1 _ ((a8a w1).mono (fun y ρ2 w2 v2 G2 H2 e2 c2 r2 => ?_) fun _ _ p => p.mono e1)
 obtain ⟨z, ez, p⟩ := c9a w2
 obtain ⟨o, eo, e3⟩ := Option.map_eq_some_iff.mp ez
 obtain ⟨aa, r, hx, _, hg, q⟩ := g8c c2 r2 (r1.mono e2) eo
 refine ⟨aa, r, hx, hg, p _ G2 H2 (e1.trans e2) c2 ?_⟩
 rcases q with ⟨q1, q2⟩ | ⟨z', v, q1, q2, q3⟩
 ·subst q1; subst q2; subst e3; exact .bl _
 ·subst q1; subst q2; subst e3; exact .bl _
theorem g9c : QN X cls W (.Dict [] [] pos) (eC (.dK [])) := ⟨⟨_, pe_dnewK, fun F ρ σ G H c Q w p hp => by
 obtain ⟨c2, f2⟩ := y2b c hp (o := .dK []) (d := .dK []) ⟨[], upd_same, .nil⟩
 exact w p G _ (Same.refl G) c2 f2⟩, d6a⟩
theorem t5d : QN X cls W (.Dict [] [] pos) (eC (.dT [])) := ⟨⟨_, pe_dnewT, fun F ρ σ G H c Q w p hp => by
 obtain ⟨c2, f2⟩ := y2b c hp (o := .dT []) (d := .dT []) ⟨[], upd_same, .nil⟩
 exact w p G _ (Same.refl G) c2 f2⟩, d6a⟩
end
end NT
set_option Elab.async false
set_option linter.all false
set_option maxRecDepth 100000
set_option maxHeartbeats 4000000
namespace NT
open PySem L2
def isFree (s : Option Sl) : Bool := match s with
 | some .no => true
 | some (.val _) => true
 | _ => false
def wipeS (ρ : List Sl) : List Nat → List Sl
 | [] => ρ
 | v :: vs => (wipeS ρ vs).set v .no
def backS (ρ : List Sl) : List Sl → List Nat → List Sl
 | r, [] => r
 | r, v :: vs => (backS ρ r vs).set v (ρ.getD v .no)
section
variable {K : PySem.W.Frag} {F : Fm} {G H G' H' : Hp} {σ σ' : St} {ρ ρ' : List Sl} {cls : Nat → Value} {W : WX}
theorem p6a {i : Nat} (h : isFree ρ[i]? = true) {s : Sl} {d : D} (hs : ρ[i]? = some s) (hm : s.mine = some d) : False := by
 rw [hs] at h
 cases s with
 | own x => exact k6e h
 | bor x => exact k6e h
 | no => cases hm
 | val x => cases hm
theorem CS.clear (c : CS K F G H σ ρ) {i : Nat} (h : isFree ρ[i]? = true) : CS K F G H (σ.set i none) (ρ.set i .no) := by
 have old : ∀ {j : Nat} {s : Sl}, (ρ.set i .no)[j]? = some s → s ≠ .no → i ≠ j ∧ ρ[j]? = some s := fun {j s} h1 h2 => by
  rcases b3a h1 with ⟨_, z, _⟩ | z
  ·exact (h2 z.symm).elim
  ·exact z
 have nn : ∀ {s : Sl} {d : D}, s.mine = some d → s ≠ .no := fun h z => by subst z; cases h
 refine ⟨c.ex, c.g0, c.fr, c.gn, by simpa using c.len, fun j d e => ?_, fun j d e => ?_, fun j d e => ?_, fun j l e => ?_, fun j k s1 s2 d1 d2 l hjk e1 m1 e2 m2 v1 v2 => ?_⟩
 ·obtain ⟨ne, e⟩ := old e (fun z => by cases z)
  rw [h9e ne]
  exact c.vals j d e
 ·obtain ⟨ne, e⟩ := old e (fun z => by cases z)
  rw [h9e ne]
  exact c.owns j d e
 ·obtain ⟨ne, e⟩ := old e (fun z => by cases z)
  rw [h9e ne]
  exact c.bors j d e
 ·obtain ⟨d, h1, h2⟩ := c.bb j l e
  have ne : i ≠ j := fun z => by
   subst z
   exact p6a h h1 rfl
  exact ⟨d, by rw [h9e ne]; exact h1, by rw [h9e ne]; exact h2⟩
 ·obtain ⟨n1, e1⟩ := old e1 (nn m1)
  obtain ⟨n2, e2⟩ := old e2 (nn m2)
  rw [h9e n1] at v1
  rw [h9e n2] at v2
  exact c.sep j k s1 s2 d1 d2 l hjk e1 m1 e2 m2 v1 v2
theorem l9a : ∀ (vs : List Nat), (wipeS ρ vs).length = ρ.length
 | [] => rfl
 | v :: vs => by unfold wipeS; rw [m1e, l9a vs]
theorem n2b {i : Nat} (h : isFree ρ[i]? = true) : ∀ (vs : List Nat), isFree (wipeS ρ vs)[i]? = true
  | [] => h
  | v :: vs => by
    unfold wipeS
    by_cases e : v = i
    · subst e
      have hl : v < (wipeS ρ vs).length := by
        rw [l9a]
        cases q : ρ[v]? with
        | none => rw [q] at h; cases h
        | some s => exact (List.getElem?_eq_some_iff.mp q).1
      rw [i1e hl]
      rfl
    · rw [h9e e]
      exact n2b h vs
theorem CS.wipe (c : CS K F G H σ ρ) : ∀ (vs : List Nat), (∀ v ∈ vs, isFree ρ[v]? = true) → CS K F G H (wipe σ vs) (wipeS ρ vs)
 | [], _ => c
 | v :: vs, h => (CS.wipe c vs fun u hu => h u (h2e _ hu)).clear (n2b (h v h1e) vs)
theorem i1a : ∀ (vs : List Nat), (backS ρ ρ' vs).length = ρ'.length
 | [] => rfl
 | v :: vs => by unfold backS; rw [m1e, i1a vs]
theorem q1b {i : Nat} (hl : i < ρ'.length) : ∀ (vs : List Nat), i ∈ vs → (backS ρ ρ' vs)[i]? = some (ρ.getD i .no)
  | v :: vs, h => by
    unfold backS
    by_cases e : v = i
    · subst e
      rw [i1e (by rw [i1a]; exact hl)]
    · rw [h9e e]
      exact q1b hl vs ((List.mem_cons.mp h).resolve_left fun z => e z.symm)
theorem s2a {i : Nat} : ∀ (vs : List Nat), i ∉ vs → (backS ρ ρ' vs)[i]? = ρ'[i]?
  | [], _ => rfl
  | v :: vs, h => by
    unfold backS
    rw [h9e (fun e => h (by simp [e]))]
    exact s2a vs fun z => h (h2e _ z)
theorem CS.unwipe (c : CS K F G H σ ρ) (c' : CS K F G' H' σ' ρ') (e : Ex G G') {vs : List Nat} (hf : ∀ v ∈ vs, isFree ρ[v]? = true) (hs : ∀ j : Nat, j ∉ vs → σ'[j]? = σ[j]?) (hl : σ'.length = σ.length) : CS K F G' H' σ (backS ρ ρ' vs) := by
 have rl : ρ'.length = ρ.length := by rw [← c'.len, hl, c.len]
 have cas : ∀ {i : Nat} {s : Sl}, (backS ρ ρ' vs)[i]? = some s → (i ∈ vs ∧ ρ[i]? = some s) ∨ (i ∉ vs ∧ ρ'[i]? = some s) := fun {i s} h => by
  by_cases hi : i ∈ vs
  ·have hlt : i < ρ'.length := by
    rw [← i1a (ρ := ρ) vs]
    exact (List.getElem?_eq_some_iff.mp h).1
   rw [q1b hlt vs hi] at h
   cases h
   refine .inl ⟨hi, ?_⟩
   rw [j1e, h7e (by rw [← rl]; exact hlt)]
   rfl
  ·rw [s2a vs hi] at h
   exact .inr ⟨hi, h⟩
 have mn : ∀ {i : Nat} {s : Sl} {d : D}, (backS ρ ρ' vs)[i]? = some s → s.mine = some d → i ∉ vs ∧ ρ'[i]? = some s := fun {i s d} h hm => by
  rcases cas h with ⟨a, b⟩ | z
  ·exact (p6a (hf i a) b hm).elim
  ·exact z
 refine ⟨c'.ex, c'.g0, c'.fr, c'.gn, by rw [i1a, rl]; exact c.len, fun j d q => ?_, fun j d q => ?_, fun j d q => ?_, fun j l q => ?_, fun j k s1 s2 d1 d2 l hjk e1 m1 e2 m2 v1 v2 => ?_⟩
 ·rcases cas q with ⟨a, b⟩ | ⟨a, b⟩
  ·obtain ⟨v, x, y⟩ := c.vals j d b
   exact ⟨v, x, y.mono e⟩
  ·rw [← hs j a]
   exact c'.vals j d b
 ·obtain ⟨a, b⟩ := mn q rfl
  rw [← hs j a]
  exact c'.owns j d b
 ·obtain ⟨a, b⟩ := mn q rfl
  rw [← hs j a]
  exact c'.bors j d b
 ·obtain ⟨d0, h1, h2⟩ := c.bb j l q
  have nv : j ∉ vs := fun z => p6a (hf j z) h1 rfl
  obtain ⟨d, h3, h4⟩ := c'.bb j l q
  exact ⟨d, by rw [s2a vs nv]; exact h3, h2⟩
 ·obtain ⟨n1, e1⟩ := mn e1 m1
  obtain ⟨n2, e2⟩ := mn e2 m2
  rw [← hs j n1] at v1
  rw [← hs k n2] at v2
  exact c'.sep j k s1 s2 d1 d2 l hjk e1 m1 e2 m2 v1 v2
theorem q2b {σ : St} : ∀ (vs : List Nat) (j : Nat), j ∉ vs → (wipe σ vs)[j]? = σ[j]?
  | [], _, _ => rfl
  | v :: vs, j, h => by
    unfold wipe
    rw [h9e (fun e => h (by simp [e]))]
    exact q2b vs j fun z => h (h2e _ z)
theorem h0c {σ : St} : ∀ (vs : List Nat) (j : Nat), j ∈ vs → j < σ.length → (wipe σ vs)[j]? = some none
  | v :: vs, j, h, hl => by
    unfold wipe
    by_cases e : v = j
    · subst e
      rw [i1e (by rw [wipe_length]; exact hl)]
    · rw [h9e e]
      exact h0c vs j ((List.mem_cons.mp h).resolve_left fun z => e z.symm) hl
theorem j4d {σ σ2 : St} {vs ts : List Nat} (b : But ts (wipe σ vs) σ2) (hts : ∀ t ∈ ts, t ∈ vs) : wipe σ2 vs = wipe σ vs := by
 have hl : σ2.length = σ.length := by rw [b.1, wipe_length]
 refine List.ext_getElem? fun j => ?_
 by_cases hj : j ∈ vs
 ·by_cases hlt : j < σ.length
  ·rw [h0c vs j hj (by rw [hl]; exact hlt), h0c vs j hj hlt]
  ·rw [j7e (by rw [wipe_length, hl]; omega), j7e (by rw [wipe_length]; omega)]
 ·rw [q2b vs j hj, b.2 j fun z => hj (hts j z)]
def noW : WX := fun _ _ _ _ => False
def compL (m : MG) (t : M Bool) (e : M D) (vs : List Nat) : List D → List D → M (List D)
  | [], acc => mpure acc
  | d :: ds, acc => fun ρ => if (vs.all fun v => isFree ρ[v]?) then match m d (wipeS ρ vs) with
      | none => .bad
      | some ρ1 => match t ρ1 with
        | .ok true ρ2 => match e ρ2 with
          | .ok y ρ3 => if acc.length ≤ 100000 then compL m t e vs ds (acc ++ [y]) (backS ρ ρ3 vs) else .bad
          | _ => .bad
        | .ok false ρ2 => compL m t e vs ds acc (backS ρ ρ2 vs)
        | _ => .bad
    else .bad
def eComp (fi : M (List D)) (m : MG) (t : M Bool) (e : M D) (vs : List Nat) : M D := mbind fi fun ds => mbind (compL m t e vs ds []) fun ys => mpure (.lst ys)
theorem p7a {m : MG} {t : M Bool} {e : M D} {vs : List Nat} (hm : ∀ d ρ ρ', m d ρ = some ρ' → NoOwn ρ → NoOwn ρ' ∧ ρ'.length = ρ.length ∧ ∀ j, j ∉ vs → ρ'[j]? = ρ[j]?) (ht : Inert t) (he : Inert e) : ∀ ds acc, Inert (compL m t e vs ds acc)
  | [], acc => d6a
  | d :: ds, acc => fun ρ n a ρ' h => by
    unfold compL at h
    split at h
    · rename_i hall
      have hfr : ∀ v ∈ vs, isFree ρ[v]? = true := by simpa using hall
      have nw : NoOwn (wipeS ρ vs) := by
        have : ∀ vs : List Nat, NoOwn (wipeS ρ vs) := fun vs => by
          induction vs with
          | nil => exact n
          | cons v vs ih =>
            intro i s hs
            unfold wipeS at hs
            rcases b3a hs with ⟨_, z, _⟩ | ⟨_, z⟩
            · rw [← z]; rfl
            · exact ih i s z
        exact this vs
      have wg : ∀ (vs : List Nat) (j : Nat), j ∉ vs → (wipeS ρ vs)[j]? = ρ[j]? := fun vs => by
        induction vs with
        | nil => exact fun _ _ => rfl
        | cons v vs ih =>
          intro j hj
          unfold wipeS
          rw [h9e (fun e => hj (by simp [e]))]
          exact ih j fun z => hj (h2e _ z)
      split at h
      · cases h
      · rename_i ρ1 h1
        obtain ⟨n1, l1, g1⟩ := hm d _ ρ1 h1 nw
        have same : backS ρ ρ1 vs = ρ := by
          refine List.ext_getElem? fun j => ?_
          have rl : ρ1.length = ρ.length := by rw [l1, l9a]
          by_cases hj : j ∈ vs
          · by_cases hlt : j < ρ.length
            · rw [q1b (by rw [rl]; exact hlt) vs hj, j1e, h7e hlt]
              rfl
            · rw [j7e (by rw [i1a, rl]; omega), j7e (by omega)]
          · rw [s2a vs hj, g1 j hj, wg vs j hj]
        split at h
        · rename_i ρ2 h2
          have e2 := ht ρ1 n1 _ ρ2 h2
          subst e2
          split at h
          · rename_i y ρ3 h3
            have e3 := he ρ2 n1 _ ρ3 h3
            subst e3
            split at h
            · rw [same] at h
              exact p7a hm ht he ds _ ρ n a ρ' h
            · cases h
          · cases h
        · rename_i ρ2 h2
          have e2 := ht ρ1 n1 _ ρ2 h2
          subst e2
          rw [same] at h
          exact p7a hm ht he ds _ ρ n a ρ' h
        · cases h
    · cases h
structure GOk (m : MG) (ts : List Nat) : Prop where
 run : ∀ d ρ ρ', m d ρ = some ρ' → NoOwn ρ → NoOwn ρ' ∧ ρ'.length = ρ.length ∧ ∀ j, j ∉ ts → ρ'[j]? = ρ[j]?
structure GsOk (m : MGs) (ts : List Nat) : Prop where
 run : ∀ d ρ ρ', m d ρ = some ρ' → NoOwn ρ → NoOwn ρ' ∧ ρ'.length = ρ.length ∧ ∀ j, j ∉ ts → ρ'[j]? = ρ[j]?
theorem c3a {i : Nat} : GOk (gN i) [i] := ⟨fun d ρ ρ' h n => by
 unfold gN at h
 split at h
 ·cases h
  refine ⟨fun j s hs => ?_, m1e, fun j hj => h9e fun z => hj (by simp [z])⟩
  rcases b3a hs with ⟨_, z, _⟩ | ⟨_, z⟩
  ·rw [← z]; rfl
  ·exact n j s z
 ·cases h⟩
theorem h1c : GsOk gsNil [] := ⟨fun d ρ ρ' h n => by
 unfold gsNil at h
 split at h
 ·cases h; exact ⟨n, rfl, fun _ _ => rfl⟩
 ·cases h⟩
theorem k1a {m : MG} {ms : MGs} {ts us : List Nat} (h1 : GOk m ts) (h2 : GsOk ms us) : GsOk (gsCons m ms) (ts ++ us) := ⟨fun d ρ ρ' h n => by
 unfold gsCons at h
 split at h
 ·obtain ⟨ρ1, a, b⟩ := Option.bind_eq_some_iff.mp h
  obtain ⟨n1, l1, g1⟩ := h1.run _ _ _ a n
  obtain ⟨n2, l2, g2⟩ := h2.run _ _ _ b n1
  exact ⟨n2, l2.trans l1, fun j hj => (g2 j fun z => hj (j8e _ z)).trans (g1 j fun z => hj (j2e _ z))⟩
 ·cases h⟩
theorem h2c {ms : MGs} {ts : List Nat} (h : GsOk ms ts) : GOk (gT ms) ts := ⟨fun d ρ ρ' q n => by
 unfold gT at q
 split at q
 ·exact h.run _ _ _ q n
 ·exact h.run _ _ _ q n
 ·cases q⟩
end
section
variable {X : Cx} {cls : Nat → Value} {W : WX} {e a b : Expr} {es : List Expr} {f g : M D} {tf : M Bool} {pos : Pos} {sf sg : MS} {st : Stmt} {sts : List Stmt}
theorem p8a {K : PySem.W.Frag} {wi : TI} {fi : M (List D)} {g : TG} {m : MG} {tt : TT} {tm : M Bool} {te : TE} {em : M D} {vs ts : List Nat} {F : Fm} {ρ : List Sl} {σ : St} {G H : Hp} (hi : ∀ Q : It → Hp → Prop, wpR (fi ρ) (fun ds ρ' => ∀ J G' H', Ex G G' → CS K F G' H' σ ρ' → Walks K J G' ds → Q J H') (PEx K cls W F G σ) → wi σ H Q) (hg : SimG K g m ts) (ht : SimT K cls noW tt tm) (he : SimE K cls noW te em) (hts : ∀ t ∈ ts, t ∈ vs) (Q : VK)
    (w : wpR (eComp fi m tm em vs ρ) (PNw K F G σ Q) (PEx K cls W F G σ)) : tLc wi g tt te vs σ H Q := by
  refine hi _ ((a8a w).mono (fun ds ρ1 w1 J G1 H1 e1 c1 wk => ?_) fun _ _ p => p)
  intro p hp
  obtain ⟨h0, hg0, hgg⟩ := c1.fresh hp
  have nB : ∀ i, (i, p) ∉ F.B := fun i hi => by
    obtain ⟨d, x1, x2⟩ := c1.bb i p hi
    exact c1.notMine hp x1 rfl x2
  refine ⟨fun i n H2 => ∃ ρ2 G2 acc ys, i + n = ds.length ∧ Ex G1 G2 ∧ CS K F G2 H2 σ ρ2 ∧ H2 p = some (.lst acc) ∧ G2 p = none ∧ (∀ (i : Nat) s e, ρ2[i]? = some s → s.mine = some e → σ[i]? ≠ some (some (.ref p))) ∧ RepL K G2 acc ys ∧
    wpR (compL m tm em vs (ds.drop i) ys ρ2) (fun ys ρ' => PNw K F G σ Q (.lst ys) ρ') (PEx K cls W F G σ), ?_, ?_⟩
  · obtain ⟨c2, f2⟩ := y2b c1 hp (o := .lst []) (d := .lst []) ⟨[], upd_same, .nil⟩
    exact ⟨ds.length, ρ1, G1, [], [], by omega, Same.refl G1, c2, upd_same, f2.g, f2.nm, .nil, (a8a w1).mono (fun _ _ p => p) fun _ _ p => p⟩
  · rintro i n H2 ⟨ρ2, G2, acc, ys, hn, e2, c2, hD, gD, nD, rA, wp⟩
    by_cases hlt : i < ds.length
    · obtain ⟨wg, wst⟩ := wk F G2 H2 σ ρ2 e2 c2
      have hd : ds[i]? = some ds[i] := h7e hlt
      refine .inr ⟨(wg i _ hd).1, fun H3 => ∃ ρ3 G3 acc ys, Ex G1 G3 ∧ CS K F G3 H3 σ ρ3 ∧ H3 p = some (.lst acc) ∧ G3 p = none ∧ (∀ (i : Nat) s e, ρ3[i]? = some s → s.mine = some e → σ[i]? ≠ some (some (.ref p))) ∧ RepL K G3 acc ys ∧
          wpR (compL m tm em vs (ds.drop (i + 1)) ys ρ3) (fun ys ρ' => PNw K F G σ Q (.lst ys) ρ') (PEx K cls W F G σ), fun H3 ⟨ρ3, G3, acc, ys, q1, q2, q3, q4, q5, q6, q7⟩ => ⟨n - 1, by omega, ρ3, G3, acc, ys, by omega, q1, q2, q3, q4, q5, q6, q7⟩, fun x H3 hy => ?_⟩
      -- the pair's heap: protect the list
      have c2p := c2.protect hD gD nD
      obtain ⟨wg2, _⟩ := wk (F.with p (.lst acc)) G2 H2 σ ρ2 e2 c2p
      obtain ⟨G3, e3, c3, r3⟩ := (wg2 i _ hd).2 x H3 hy
      rw [l0e hlt] at wp
      unfold compL at wp
      split at wp
      · rename_i hall
        have hfr : ∀ v ∈ vs, isFree ρ2[v]? = true := by simpa using hall
        cases hm : m ds[i] (wipeS ρ2 vs) with
        | none => rw [hm] at wp; exact wp.elim
        | some ρ3 =>
          rw [hm] at wp
          dsimp only at wp
          refine hg _ _ (wipe σ vs) G3 H3 x _ ρ3 (c3.wipe vs hfr) r3 hm _ fun σ4 b4 c4 => ⟨j4d b4 hts, ?_⟩
          have hs4 : ∀ j : Nat, j ∉ vs → σ4[j]? = σ[j]? := fun j hj => (b4.2 j fun z => hj (hts j z)).trans (q2b vs j hj)
          have hl4 : σ4.length = σ.length := by rw [b4.1, wipe_length]
          refine ht _ ρ3 σ4 G3 H3 c4 _ ?_
          cases ht' : tm ρ3 with
          | bad => rw [ht'] at wp; exact wp.elim
          | ex n ρ' => rw [ht'] at wp; exact wp.elim
          | ok bb ρ5 =>
            rw [ht'] at wp
            intro G5 H5 e5 c5
            cases bb with
            | false =>
              dsimp only at wp
              have cu := c3.unwipe c5 e5 hfr hs4 hl4
              obtain ⟨k1, k2, k3, k4⟩ := cu.unprotect h0 hgg nB
              exact ⟨_, G5, acc, ys, (e2.trans e3).trans e5, k1, k2, k3, k4, rA.mono (e3.trans e5), wp⟩
            | true =>
              dsimp only at wp
              refine he _ ρ5 σ4 G5 H5 c5 _ ?_
              cases he' : em ρ5 with
              | bad => rw [he'] at wp; exact wp.elim
              | ex n ρ' => rw [he'] at wp; exact wp.elim
              | ok y ρ6 =>
                rw [he'] at wp
                dsimp only at wp
                intro v6 G6 H6 e6 c6 r6
                split at wp
                · rename_i hz
                  have cu := c3.unwipe c6 (e5.trans e6) hfr hs4 hl4
                  obtain ⟨k1, k2, k3, k4⟩ := cu.unprotect h0 hgg nB
                  refine ⟨acc, k2, by rw [rA.length]; exact i9d hz, _, G6, acc ++ [v6], ys ++ [y], ((e2.trans e3).trans e5).trans e6, ?_, upd_same, k3, k4, (rA.mono ((e3.trans e5).trans e6)).append (.cons r6 .nil), wp⟩
                  -- the list is written
                  refine ⟨fun b o e => ?_, k1.g0, fun b o e hb => ?_, k1.gn, k1.len, k1.vals, fun j d q => ?_, fun j d q => ?_, k1.bb, k1.sep⟩
                  · rw [upd_ne (ne_of_none e k3)]
                    exact k1.ex _ _ e
                  · rw [upd_ne (ne_of_none e h0)]
                    exact k1.fr b o e hb
                  · obtain ⟨l, x1, x2, x3, x4⟩ := k1.owns j d q
                    have ne : l ≠ p := fun z => k4 j _ d q rfl (z ▸ x1)
                    exact ⟨l, x1, x2.mono (Ex.ext (Same.refl _)) (upd_ne ne), x3, x4⟩
                  · obtain ⟨l, x1, x2, x3, x4⟩ := k1.bors j d q
                    have ne : l ≠ p := fun z => k4 j _ d q rfl (z ▸ x1)
                    exact ⟨l, x1, x2.mono (Ex.ext (Same.refl _)) (upd_ne ne), x3, x4⟩
                · exact wp.elim
      · exact wp.elim
    · have e : i = ds.length := by omega
      subst e
      obtain ⟨wg, wst⟩ := wk F G2 H2 σ ρ2 e2 c2
      refine .inl ⟨wst, ?_⟩
      rw [List.drop_length] at wp
      exact wp p G2 H2 (e1.trans e2) c2 ⟨⟨acc, hD, rA⟩, gD, h0, nD⟩
theorem a4b {K : PySem.W.Frag} {wi : TI} {fi : M (List D)} {g : TG} {m : MG} {tt : TT} {tm : M Bool} {te : TE} {em : M D} {vs ts : List Nat} (hi : SimI K cls W wi fi) (hg : SimG K g m ts) (ht : SimT K cls noW tt tm) (he : SimE K cls noW te em) (hts : ∀ t ∈ ts, t ∈ vs) :
  SimN K cls W (tLc wi g tt te vs) (eComp fi m tm em vs) := fun F ρ σ G H c Q w => p8a (hi F ρ σ G H c) hg ht he hts Q w
structure QTs (X : Cx) (cls : Nat → Value) (W : WX) (ifs : List Expr) (f : M Bool) : Prop where
 sim : ∃ t, PTs X ifs t ∧ SimT X.K cls W t f
 inert : Inert f
theorem e7a : QTs X cls W [] (mpure true) := ⟨⟨_, pts_nil, fun F ρ σ G H c Q w => w G H (Same.refl G) c⟩, d6a⟩
theorem h3b (h : QT X cls W e tf) : QTs X cls W [e] tf := ⟨let ⟨t, p, s⟩ := h.sim; ⟨t, pts_one p, s⟩, h.inert⟩
end
end NT
set_option Elab.async false
set_option linter.all false
set_option maxRecDepth 100000
set_option maxHeartbeats 4000000
namespace NT
open PySem L2
def tOfE (K : PySem.W.Frag) (cls : Nat → Value) (W : WX) (f : M D) : TE := fun σ H Q => ∃ F ρ G, CS K F G H σ ρ ∧ wpR (f ρ) (POk K F G σ Q) (PEx K cls W F G σ)
def tOfT (K : PySem.W.Frag) (cls : Nat → Value) (W : WX) (f : M Bool) : TT := fun σ H Q => ∃ F ρ G, CS K F G H σ ρ ∧ wpR (f ρ) (PTt K F G σ Q) (PEx K cls W F G σ)
def tOfG (K : PySem.W.Frag) (m : MG) (ts : List Nat) : TG := fun v σ H Q => ∃ F ρ G d ρ', CS K F G H σ ρ ∧ Rep K G v d ∧ m d ρ = some ρ' ∧ ∀ σ', But ts σ σ' → CS K F G H σ' ρ' → Q σ' H
section
variable {X : Cx} {cls : Nat → Value} {W : WX} {e a b : Expr} {es : List Expr} {f g : M D} {tf : M Bool} {pos : Pos} {sf sg : MS} {st : Stmt} {sts : List Stmt}
theorem QE.pe (h : QE X cls W e f) : PE X e (tOfE X.K cls W f) := by
 obtain ⟨⟨t, p, s⟩, _⟩ := h
 exact ⟨fun pins sh σ H Q I ⟨F, ρ, G, c, w⟩ => p.run pins sh σ H Q I (s F ρ σ G H c Q w)⟩
theorem QT.pt (h : QT X cls W e tf) : PT X e (tOfT X.K cls W tf) := by
 obtain ⟨⟨t, p, s⟩, _⟩ := h
 exact ⟨fun pins sh σ H Q I ⟨F, ρ, G, c, w⟩ => p.run pins sh σ H Q I (s F ρ σ G H c Q w)⟩
theorem QTs.pt (h : QTs X cls W es tf) : PTs X es (tOfT X.K cls W tf) := by
 obtain ⟨⟨t, p, s⟩, _⟩ := h
 exact ⟨fun pins sh σ H Q I ⟨F, ρ, G, c, w⟩ => p.run pins sh σ H Q I (s F ρ σ G H c Q w)⟩
theorem QG.pg {m : MG} {ts : List Nat} (h : QG X e m ts) : PG X e (tOfG X.K m ts) := by
 obtain ⟨⟨g, p, s⟩⟩ := h
 exact ⟨fun pins sh σ H v u Q I r ⟨F, ρ, G, d, ρ', c, rv, hm, q⟩ => p.run pins sh σ H v u Q I r (s F ρ σ G H v d ρ' c rv hm Q q)⟩
theorem h4b {K : PySem.W.Frag} : SimE K cls W (tOfE K cls W f) f := fun F ρ σ G H c Q w => ⟨F, ρ, G, c, w⟩
theorem h5b {K : PySem.W.Frag} : SimT K cls W (tOfT K cls W tf) tf := fun F ρ σ G H c Q w => ⟨F, ρ, G, c, w⟩
theorem h6b {K : PySem.W.Frag} {m : MG} {ts : List Nat} : SimG K (tOfG K m ts) m ts := fun F ρ σ G H v d ρ' c r h Q q => ⟨F, ρ, G, d, ρ', c, r, h, q⟩
variable {elt tg iter : Expr} {ifs : List Expr} {scope : Scope} {own : List (Str × Nat)} {fi : M (List D)} {m : MG} {tm : M Bool} {em : M D} {vs ts : List Nat}
theorem x2a (hi : Inert fi) (gok : GOk m ts) (hts : ∀ t ∈ ts, t ∈ vs) (ht : Inert tm) (he : Inert em) : Inert (eComp fi m tm em vs) :=
 a7a hi fun ds => a7a (p7a (fun d ρ ρ' h n => let ⟨a, b, c⟩ := gok.run d ρ ρ' h n; ⟨a, b, fun j hj => c j fun z => hj (hts j z)⟩) ht he ds []) fun _ => d6a
theorem i2a (hc : X.calm = true) (hN : X.N.Nodup) (hi : QI X cls W tg iter fi) (ok : BlkOk X.N X.env.scope scope own)
  (hg : ∀ (s : Shared) (H : Hp) (C : Addr) (cl : List (Str × Addr)) (fp : List Addr), QG (X.blk s H scope (compEnvC scope cl C X.env) fp) tg m ts)
  (ht : ∀ (s : Shared) (H : Hp) (C : Addr) (cl : List (Str × Addr)) (fp : List Addr), QTs (X.blk s H scope (compEnvC scope cl C X.env) fp) cls noW ifs tm)
  (he : ∀ (s : Shared) (H : Hp) (C : Addr) (cl : List (Str × Addr)) (fp : List Addr), QE (X.blk s H scope (compEnvC scope cl C X.env) fp) cls noW elt em)
  (gok : GOk m ts) (hvs : own.map (·.2) = vs) (hts : ∀ t ∈ ts, t ∈ vs) (hs : ∀ x, foldedSetIterable iter X.env x = pure x := by intro _; rfl) :
  QN X cls W (.ListComp elt [⟨tg, iter, ifs, 0⟩] scope pos) (eComp fi m tm em vs) := by
 obtain ⟨⟨wi, pi, si⟩, ii⟩ := hi
 subst hvs
 refine ⟨⟨_, pe_lc hc hN pi ok (g := tOfG X.K m ts) (tt := tOfT X.K cls noW tm) (te := tOfE X.K cls noW em) (fun s H C cl fp => (hg s H C cl fp).pg) (fun s H C cl fp => (ht s H C cl fp).pt) (fun s H C cl fp => (he s H C cl fp).pe) hs, ?_⟩, x2a ii gok hts (ht X.s_0 X.H_0 0 [] []).inert (he X.s_0 X.H_0 0 [] []).inert⟩
 exact a4b si h6b h5b h4b hts
theorem q3b (i : Nat) {y : Str} {py spos : Pos} (hc : X.calm = true) (hN : X.N.Nodup) (hy : X.N[i]? = some y) (hyl : X.env.scope.names.lookup y = some .local)
  (hsw : swapsWith (.ListComp elt [⟨tg, iter, ifs, 0⟩] scope pos) (some (.Name y py)) spos.line X.env = pure true) (hi : QI X cls W tg iter fi) (ok : BlkOk X.N X.env.scope scope own)
  (hg : ∀ (s : Shared) (H : Hp) (C : Addr) (cl : List (Str × Addr)) (fp : List Addr), QG (X.blk s H scope (compEnvC scope cl C X.env) fp) tg m ts)
  (ht : ∀ (s : Shared) (H : Hp) (C : Addr) (cl : List (Str × Addr)) (fp : List Addr), QTs (X.blk s H scope (compEnvC scope cl C X.env) fp) cls noW ifs tm)
  (he : ∀ (s : Shared) (H : Hp) (C : Addr) (cl : List (Str × Addr)) (fp : List Addr), QE (X.blk s H scope (compEnvC scope cl C X.env) fp) cls noW elt em)
  (gok : GOk m ts) (hvs : own.map (·.2) = vs) (hts : ∀ t ∈ ts, t ∈ vs) (hs : ∀ x, foldedSetIterable iter X.env x = pure x := by intro _; rfl) :
  QS X cls W (.Assign [.Name y py] (.ListComp elt [⟨tg, iter, ifs, 0⟩] scope pos) spos) (sSetN i (eComp fi m tm em vs)) := by
 obtain ⟨⟨wi, pi, si⟩, ii⟩ := hi
 subst hvs
 exact ⟨⟨_, ps_setLc hc hN hy hyl hsw pi ok (g := tOfG X.K m ts) (tt := tOfT X.K cls noW tm) (te := tOfE X.K cls noW em) (fun s H C cl fp => (hg s H C cl fp).pg) (fun s H C cl fp => (ht s H C cl fp).pt) (fun s H C cl fp => (he s H C cl fp).pe) hs, p8b (a4b si h6b h5b h4b hts)⟩⟩
theorem q4b (i : Nat) {y : Str} {py spos : Pos} (hc : X.calm = true) (hN : X.N.Nodup) (hy : X.N[i]? = some y) (hyl : X.env.scope.names.lookup y = some .local)
  (hsw : swapsWith (.ListComp elt [⟨tg, iter, ifs, 0⟩] scope pos) (some (.Name y py)) spos.line X.env = pure true) (hi : QI X cls W tg iter fi) (ok : BlkOk X.N X.env.scope scope own)
  (hg : ∀ (s : Shared) (H : Hp) (C : Addr) (cl : List (Str × Addr)) (fp : List Addr), QG (X.blk s H scope (compEnvC scope cl C X.env) fp) tg m ts)
  (ht : ∀ (s : Shared) (H : Hp) (C : Addr) (cl : List (Str × Addr)) (fp : List Addr), QTs (X.blk s H scope (compEnvC scope cl C X.env) fp) cls noW ifs tm)
  (he : ∀ (s : Shared) (H : Hp) (C : Addr) (cl : List (Str × Addr)) (fp : List Addr), QE (X.blk s H scope (compEnvC scope cl C X.env) fp) cls noW elt em)
  (gok : GOk m ts) (hvs : own.map (·.2) = vs) (hts : ∀ t ∈ ts, t ∈ vs) (hs : ∀ x, foldedSetIterable iter X.env x = pure x := by intro _; rfl) :
  QS X cls W (.Assign [.Name y py] (.ListComp elt [⟨tg, iter, ifs, 0⟩] scope pos) spos) (sSet i (eComp fi m tm em vs)) := by
 obtain ⟨⟨wi, pi, si⟩, ii⟩ := hi
 subst hvs
 exact ⟨⟨_, ps_setLc hc hN hy hyl hsw pi ok (g := tOfG X.K m ts) (tt := tOfT X.K cls noW tm) (te := tOfE X.K cls noW em) (fun s H C cl fp => (hg s H C cl fp).pg) (fun s H C cl fp => (ht s H C cl fp).pt) (fun s H C cl fp => (he s H C cl fp).pe) hs, y4c (a4b si h6b h5b h4b hts).frz⟩⟩
end
def spD (K : PySem.W.Frag) (cls : Nat → Value) (np ns : Nat) (den : MS) : Sp := fun vs H Q E => vs.length = np ∧ ∃ G B args H0, CS K ⟨H0, G, B⟩ G H (vs.map some) args ∧
 PO K cls (fun c d _ H' => E c d H') ⟨H0, G, B⟩ G ⟨fun _ H' => Q .non H', Q, fun _ _ => False, fun _ _ => False⟩ (den (args ++ List.replicate ns .no))
section
variable {K : PySem.W.Frag} {F : Fm} {G H G' H' : Hp} {σ σ' : St} {ρ ρ' : List Sl} {cls : Nat → Value} {W : WX}
theorem t6d {n i : Nat} {α : Type} {l : List α} {a b : α} (h : (l ++ List.replicate n a)[i]? = some b) : l[i]? = some b ∨ (l.length ≤ i ∧ b = a) := by
 by_cases hi : i < l.length
 ·rw [k3e hi] at h
  exact .inl h
 ·rw [k9e (by omega)] at h
  exact .inr ⟨by omega, (List.eq_of_mem_replicate (List.mem_of_getElem? h))⟩
theorem CS.pad (c : CS K F G H σ ρ) (n : Nat) : CS K F G H (σ ++ List.replicate n none) (ρ ++ List.replicate n .no) := by
 have up : ∀ {i : Nat} {v : Option V}, σ[i]? = some v → (σ ++ List.replicate n none)[i]? = some v := fun {i v} h => by
  rw [k3e (List.getElem?_eq_some_iff.mp h).1]
  exact h
 have upr : ∀ {i : Nat} {v : Sl}, ρ[i]? = some v → (ρ ++ List.replicate n .no)[i]? = some v := fun {i v} h => by
  rw [k3e (List.getElem?_eq_some_iff.mp h).1]
  exact h
 have dn : ∀ {i : Nat} {s : Sl}, (ρ ++ List.replicate n .no)[i]? = some s → s ≠ .no → ρ[i]? = some s := fun {i s} h hn => (t6d h).resolve_right fun z => hn z.2
 have nn : ∀ {s : Sl} {d : D}, s.mine = some d → s ≠ .no := fun h z => by subst z; cases h
 have back : ∀ {i : Nat} {s : Sl} {v : Option V}, ρ[i]? = some s → (σ ++ List.replicate n none)[i]? = some v → σ[i]? = some v := fun {i s v} h h' => by
  have hl : i < σ.length := by
   rw [c.len]
   exact (List.getElem?_eq_some_iff.mp h).1
  rw [k3e hl] at h'
  exact h'
 refine ⟨c.ex, c.g0, c.fr, c.gn, by simp [c.len], fun j d e => ?_, fun j d e => ?_, fun j d e => ?_, fun j l e => ?_, fun j k s1 s2 d1 d2 l hjk e1 m1 e2 m2 v1 v2 => ?_⟩
 ·obtain ⟨v, x, y⟩ := c.vals j d (dn e fun z => by cases z)
  exact ⟨v, up x, y⟩
 ·obtain ⟨v, x, y⟩ := c.owns j d (dn e fun z => by cases z)
  exact ⟨v, up x, y⟩
 ·obtain ⟨v, x, y⟩ := c.bors j d (dn e fun z => by cases z)
  exact ⟨v, up x, y⟩
 ·obtain ⟨d, x, y⟩ := c.bb j l e
  exact ⟨d, upr x, up y⟩
 ·have e1 := dn e1 (nn m1)
  have e2 := dn e2 (nn m2)
  exact c.sep j k s1 s2 d1 d2 l hjk e1 m1 e2 m2 (back e1 v1) (back e2 v2)
theorem CS.args (ex : Ex G H) {vs : List V} {ds : List D} (r : RepL K G vs ds) : CS K ⟨H, G, []⟩ G H (vs.map some) (ds.map .val) := by
 have val : ∀ {i : Nat} {s : Sl}, (ds.map Sl.val)[i]? = some s → ∃ d, ds[i]? = some d ∧ s = .val d := fun {i s} h => by
  rw [i3e] at h
  cases q : ds[i]? with
  | none => rw [q] at h; cases h
  | some d => rw [q] at h; cases h; exact ⟨d, rfl, rfl⟩
 refine ⟨ex, Same.refl G, fun b o e _ => e, fun b e1 e2 => (e2 e1).elim, by simp [r.length], fun j d e => ?_, fun j d e => ?_, fun j d e => ?_, fun j l e => (by cases e), fun j k s1 s2 d1 d2 l hjk e1 m1 e2 m2 v1 v2 => ?_⟩
 ·obtain ⟨d', h1, h2⟩ := val e
  cases h2
  obtain ⟨v, hv, rv⟩ := r.get h1
  exact ⟨v, by rw [i3e, hv]; rfl, rv⟩
 ·obtain ⟨d', h1, h2⟩ := val e; cases h2
 ·obtain ⟨d', h1, h2⟩ := val e; cases h2
 ·obtain ⟨d', h1, h2⟩ := val e1
  subst h2
  cases m1
theorem CS.back0 (c : CS K F G H σ ρ) (c' : CS K ⟨H, G, []⟩ G' H' σ' ρ') : CS K F G' H' σ ρ := by
  have keep : ∀ b o, H b = some o → H' b = some o := fun b o e => c'.fr b o e fun i z => by cases z
  have eG : Ex G G' := c'.g0
  have obj : ∀ {l d}, Obj K G H l d → G l = none → Obj K G' H' l d ∧ G' l = none := fun {l d} h hg => by
    obtain ⟨o, ho⟩ := h.some
    refine ⟨h.mono eG.ext ((keep l o ho).trans ho.symm), ?_⟩
    cases q : G' l with
    | none => rfl
    | some x =>
      rcases c'.gn l hg (by rw [q]; exact fun z => by cases z) with z | ⟨xs, z⟩
      · have z : H l = none := z
        rw [ho] at z
        cases z
      · have z := c'.ex _ _ z
        rw [keep l o ho, ← ho] at z
        exact (h.notTup xs z).elim
  refine ⟨c'.ex, c.g0.trans eG, fun b o e hb => keep b o (c.fr b o e hb), fun b e1 e2 => ?_, c.len, fun j d e => ?_, fun j d e => ?_, fun j d e => ?_, c.bb, c.sep⟩
  · cases q : G b with
    | some o => exact (c.gn b e1 (by rw [q]; exact fun z => by cases z)).imp id fun ⟨xs, z⟩ => ⟨xs, eG _ _ z⟩
    | none => exact (c'.gn b q e2).imp (fun z => (c.fresh z).1) id
  · obtain ⟨v, x, y⟩ := c.vals j d e
    exact ⟨v, x, y.mono eG⟩
  · obtain ⟨l, x, y, z, u⟩ := c.owns j d e
    obtain ⟨k1, k2⟩ := obj y z
    exact ⟨l, x, k1, k2, u⟩
  · obtain ⟨l, x, y, z, u⟩ := c.bors j d e
    obtain ⟨k1, k2⟩ := obj y z
    exact ⟨l, x, k1, k2, u⟩
theorem Fr.back0 (c : CS K F G H σ ρ) {l : Addr} {d : D} (f : Fr K ⟨H, G, []⟩ G' H' σ' ρ' l d) : Fr K F G' H' σ ρ l d := by
 have hn : H l = none := f.h0
 exact ⟨f.obj, f.g, (c.fresh hn).1, fun i s e h1 h2 => c.notMine hn h1 h2⟩
end
def eCall (np ns : Nat) (den : MS) (dds : List D) (fa : M (List D)) : M D := mbind fa fun ds => fun ρ => if (ds ++ dds).length = np then match den ((ds ++ dds).map .val ++ List.replicate ns .no) with
 | .rt d _ => .ok d ρ
 | .rtN d _ => .ok d ρ
 | .nx _ => .ok .non ρ
 | .ex c _ => .ex c ρ
 | .bad => .bad
 else .bad
def eCallN (np ns : Nat) (den : MS) (dds : List D) (fa : M (List D)) : M D := mbind fa fun ds => fun ρ => if (ds ++ dds).length = np then match den ((ds ++ dds).map .val ++ List.replicate ns .no) with
 | .rtN d _ => .ok d ρ
 | .ex c _ => .ex c ρ
 | _ => .bad
 else .bad
theorem n3b {np ns : Nat} {den : MS} {dds : List D} {fa : M (List D)} (h : Inert fa) : Inert (eCall np ns den dds fa) := a7a h fun ds ρ n a ρ' q => by
 split at q
 ·split at q <;> first | (cases q; rfl) | cases q
 ·cases q
theorem h3c {np ns : Nat} {den : MS} {dds : List D} {fa : M (List D)} (h : Inert fa) : Inert (eCallN np ns den dds fa) := a7a h fun ds ρ n a ρ' q => by
 split at q
 ·split at q <;> first | (cases q; rfl) | cases q
 ·cases q
section
variable {X : Cx} {cls : Nat → Value} {W : WX} {e a b : Expr} {es : List Expr} {f g : M D} {tf : M Bool} {pos : Pos} {sf sg : MS} {st : Stmt} {sts : List Stmt}
theorem m4c {K : PySem.W.Frag} {np ns : Nat} {den : MS} {dvs : List V} {dds : List D} {ta : TA} {fa : M (List D)} (hd : ∀ G, RepL K G dvs dds) (ha : SimA K cls W ta fa) : SimE K cls W (tCallSD (spD K cls np ns den) dvs (WE W) ta) (eCall np ns den dds fa) := fun F ρ σ G H c Q w => by
 refine ha F ρ σ G H c _ ((a8a w).mono (fun xs ρ1 w1 v1 G1 H1 e1 c1 r1 => ?_) fun _ _ p => p)
 split at w1
 ·rename_i hl
  have r2 : RepL K G1 (v1 ++ dvs) (xs ++ dds) := r1.append (hd G1)
  refine ⟨by rw [r2.length]; exact hl, G1, [], _, H1, CS.args c1.ex r2, ?_⟩
  split at w1
  ·rename_i d ρ' q
   rw [q]
   exact fun v σ' G' H' e' c' r => w1 v G' H' (e1.trans e') (c1.back0 c') r
  ·rename_i d ρ' q
   rw [q]
   intro l σ' G' H' e' c' fr
   obtain ⟨o, ho, c2, r, e2⟩ := (c1.back0 c').freeze (fr.back0 c1)
   exact w1 _ _ _ ((e1.trans e').trans e2) c2 r
  ·rename_i ρ' q
   rw [q]
   exact fun σ' G' H' e' c' => w1 _ G' H' (e1.trans e') (c1.back0 c') .non
  ·rename_i n ρ' q
   rw [q]
   exact fun σ' G' H' e' c' => w1 G' H' (e1.trans e') (c1.back0 c')
  ·exact w1.elim
 ·exact w1.elim
theorem z3c {K : PySem.W.Frag} {np ns : Nat} {den : MS} {dvs : List V} {dds : List D} {ta : TA} {fa : M (List D)} (hd : ∀ G, RepL K G dvs dds) (ha : SimA K cls W ta fa) : SimN K cls W (tCallSD (spD K cls np ns den) dvs (WE W) ta) (eCallN np ns den dds fa) := fun F ρ σ G H c Q w => by
 refine ha F ρ σ G H c _ ((a8a w).mono (fun xs ρ1 w1 v1 G1 H1 e1 c1 r1 => ?_) fun _ _ p => p)
 split at w1
 ·rename_i hl
  have r2 : RepL K G1 (v1 ++ dvs) (xs ++ dds) := r1.append (hd G1)
  refine ⟨by rw [r2.length]; exact hl, G1, [], _, H1, CS.args c1.ex r2, ?_⟩
  split at w1
  ·rename_i d ρ' q
   rw [q]
   exact fun l σ' G' H' e' c' fr => w1 l G' H' (e1.trans e') (c1.back0 c') (fr.back0 c1)
  ·rename_i n ρ' q
   rw [q]
   exact fun σ' G' H' e' c' => w1 G' H' (e1.trans e') (c1.back0 c')
  ·exact w1.elim
 ·exact w1.elim
theorem a8e {np ns : Nat} {den : MS} {dvs : List V} {dds : List D} {fa : M (List D)} (hp : ∀ ta, PA X es ta → PE X e (tCallSD (spD X.K cls np ns den) dvs (WE W) ta)) (hd : ∀ G, RepL X.K G dvs dds) (ha : QA X cls W es fa) : QE X cls W e (eCall np ns den dds fa) :=
 ⟨let ⟨t, p, s⟩ := ha.sim; ⟨_, hp t p, m4c hd s⟩, n3b ha.inert⟩
theorem t7d {np ns : Nat} {den : MS} {dvs : List V} {dds : List D} {fa : M (List D)} (hp : ∀ ta, PA X es ta → PE X e (tCallSD (spD X.K cls np ns den) dvs (WE W) ta)) (hd : ∀ G, RepL X.K G dvs dds) (ha : QA X cls W es fa) : QN X cls W e (eCallN np ns den dds fa) :=
 ⟨let ⟨t, p, s⟩ := ha.sim; ⟨_, hp t p, z3c hd s⟩, h3c ha.inert⟩
end
theorem b6a {P : Program} {w : World} {K : PySem.W.Frag} {mg : Str → Option Value} {base : Heap} {cls : Nat → Value} {x qual : Str} {st : Stmt} {f : Addr} {fd : FuncData} {N ps : List Str} {k np ns : Nat} {den : MS} (Fn : Fun K x qual st f fd) (S : FnScope N ps (defScope st)) (hp : ps.length = np) (hn : N.length = np + ns)
  (hb : ∀ (cdv : Value) (A : Around) (outer : List Env) (s : Shared) (H : Hp) (E : XK), Room k (A.deeper (PyProof.Rows.envOfC qual (defScope st) s.heap.objs.size f cdv)) →
   Takes (cxOf (L2.CX P w) P w K mg base N qual (defScope st) f cdv A outer s H E) (fun c d _ H' => E c d H') →
   QB (cxOf (L2.CX P w) P w K mg base N qual (defScope st) f cdv A outer s H E) cls (fun c d _ H' => E c d H') (defBody st) den) : FnOk P w K mg base (L2.CX P w) (k + 1) f fd ps (spD K cls np ns den) := by
 refine Fn.okX S (fun vs H Q E h => by rw [h.1, hp]) fun cdv A outer s H vs Q E hr h => ?_
 obtain ⟨hl, G, B, args, H0, c, po⟩ := h
 obtain ⟨⟨t, pt, sim⟩⟩ := hb cdv A outer s H E hr (takes_of (E := E) rfl rfl rfl rfl)
 refine ⟨t, pt, ?_⟩
 have c2 := c.pad ns
 have e : L2.start N vs = vs.map some ++ List.replicate ns none := by
  unfold L2.start
  rw [hn, hl, Nat.add_sub_cancel_left]
 rw [e]
 exact sim _ _ _ G H c2 _ po
end NT
set_option Elab.async false
set_option linter.all false
set_option maxRecDepth 100000
set_option maxHeartbeats 4000000
namespace NT
open PySem L2
section
variable {K : PySem.W.Frag} {F : Fm} {G H G' H' : Hp} {σ σ' : St} {ρ ρ' : List Sl} {cls : Nat → Value} {W : WX}
theorem z0b {α : Type} {l r : List α} {a x : α} {i : Nat} (h : (l ++ a :: r)[i]? = some x) : (i < l.length ∧ l[i]? = some x) ∨ (i = l.length ∧ x = a) ∨ ∃ j, i = l.length + 1 + j ∧ r[j]? = some x := by
 by_cases h1 : i < l.length
 ·rw [k3e h1] at h
  exact .inl ⟨h1, h⟩
 ·rw [k9e (by omega)] at h
  by_cases h2 : i = l.length
  ·subst h2
   rw [Nat.sub_self] at h
   exact .inr (.inl ⟨rfl, (Option.some.inj h).symm⟩)
  ·refine .inr (.inr ⟨i - l.length - 1, by omega, ?_⟩)
   have e : i - l.length = (i - l.length - 1) + 1 := by omega
   rw [e, j9e] at h
   exact h
theorem f4e {α : Type} {l r : List α} {a x : α} {i : Nat} (h : l[i]? = some x) : (l ++ a :: r)[i]? = some x := by
 rw [k3e (List.getElem?_eq_some_iff.mp h).1]
 exact h
theorem t8d {α : Type} {l r : List α} {a : α} : (l ++ a :: r)[l.length]? = some a := by
 rw [k9e (j0e _), Nat.sub_self]
 rfl
theorem f5e {α : Type} {l r : List α} {a x : α} {j : Nat} (h : r[j]? = some x) : (l ++ a :: r)[l.length + 1 + j]? = some x := by
 rw [k9e (by omega)]
 have e : l.length + 1 + j - l.length = j + 1 := by omega
 rw [e, j9e]
 exact h
theorem x3a {ds : List D} {i : Nat} {s : Sl} (h : (ds.map Sl.val)[i]? = some s) : ∃ d, ds[i]? = some d ∧ s = .val d := by
 rw [i3e] at h
 cases q : ds[i]? with
 | none => rw [q] at h; cases h
 | some d => rw [q] at h; cases h; exact ⟨d, rfl, rfl⟩
theorem map_some {vs : List V} {i : Nat} {v : V} (h : vs[i]? = some v) : (vs.map some)[i]? = some (some v) := by
 rw [i3e, h]
 rfl
theorem CS.argsO (c : CS K F G H σ ρ) {j : Nat} {s : Sl} {d : D} {l : Addr} (hj : ρ[j]? = some s) (hm : s.mine = some d) (hl : σ[j]? = some (some (.ref l))) {vs1 vs2 : List V} {pre post : List D} (r1 : RepL K G vs1 pre) (r2 : RepL K G vs2 post) :
  CS K ⟨H, G, [(pre.length, l)]⟩ G H ((vs1 ++ .ref l :: vs2).map some) (pre.map .val ++ .bor d :: post.map .val) := by
 obtain ⟨l', a1, a2, a3, a4⟩ := c.mine hj hm
 rw [hl] at a1
 cases a1
 have e1 : (pre.map Sl.val).length = pre.length := g8e _
 have e2 : vs1.length = pre.length := r1.length
 have eσ : (vs1 ++ V.ref l :: vs2).map some = vs1.map some ++ some (V.ref l) :: vs2.map some := by simp
 rw [eσ]
 have el : (vs1.map some).length = pre.length := by rw [g8e, e2]
 have one : ∀ {i : Nat} {t : Sl} {x : D}, (pre.map Sl.val ++ Sl.bor d :: post.map Sl.val)[i]? = some t → t.mine = some x → i = pre.length ∧ t = .bor d := fun {i t x} h h2 => by
  rcases z0b h with ⟨_, z⟩ | ⟨z, z2⟩ | ⟨_, _, z⟩
  ·obtain ⟨_, _, z⟩ := x3a z
   subst z; cases h2
  ·exact ⟨by rw [z, e1], z2⟩
  ·obtain ⟨_, _, z⟩ := x3a z
   subst z; cases h2
 refine ⟨c.ex, Same.refl G, fun b o e _ => e, fun b x y => (y x).elim, by simp [e2, r2.length], fun i x e => ?_, fun i x e => ?_, fun i x e => ?_, fun i k e => ?_, fun i k s1 s2 d1 d2 l hjk e1 m1 e2 m2 v1 v2 => ?_⟩
 ·rcases z0b e with ⟨_, z⟩ | ⟨z, z2⟩ | ⟨m, z, z2⟩
  ·obtain ⟨d', h1, h2⟩ := x3a z
   cases h2
   obtain ⟨v, hv, rv⟩ := r1.get h1
   exact ⟨v, f4e (map_some hv), rv⟩
  ·cases z2
  ·obtain ⟨d', h1, h2⟩ := x3a z2
   cases h2
   obtain ⟨v, hv, rv⟩ := r2.get h1
   refine ⟨v, ?_, rv⟩
   rw [z, e1, ← el]
   exact f5e (map_some hv)
 ·obtain ⟨_, z⟩ := one e rfl
  cases z
 ·obtain ⟨z1, z⟩ := one e rfl
  cases z
  subst z1
  refine ⟨l, ?_, a2, a3, List.mem_singleton.mpr rfl⟩
  rw [← el]
  exact t8d
 ·have e := List.mem_singleton.mp e
  cases e
  refine ⟨d, ?_, ?_⟩
  ·rw [← e1]
   exact t8d
  ·rw [← el]
   exact t8d
 ·obtain ⟨z1, _⟩ := one e1 m1
  obtain ⟨z2, _⟩ := one e2 m2
  exact hjk (z1.trans z2.symm)
theorem CS.backO (c : CS K F G H σ ρ) {j k : Nat} {s : Sl} {d d' : D} {l : Addr} (hj : ρ[j]? = some s) (hm : s.mine = some d) (hl : σ[j]? = some (some (.ref l))) (c' : CS K ⟨H, G, [(k, l)]⟩ G' H' σ' ρ') (hk : ρ'[k]? = some (.bor d')) : CS K F G' H' σ (ρ.set j (s.with d')) := by
  obtain ⟨l', a1, a2, a3, a4⟩ := c.mine hj hm
  rw [hl] at a1
  cases a1
  obtain ⟨l', b1, b2, b3, b4⟩ := c'.bors k d' hk
  have b4 := List.mem_singleton.mp b4
  cases b4
  have keep : ∀ b o, H b = some o → b ≠ l → H' b = some o := fun b o e ne => c'.fr b o e fun i z => ne (by have z := List.mem_singleton.mp z; cases z; rfl)
  have eG : Ex G G' := c'.g0
  have jl : j < ρ.length := (List.getElem?_eq_some_iff.mp hj).1
  have obj : ∀ {m e}, Obj K G H m e → G m = none → m ≠ l → Obj K G' H' m e ∧ G' m = none := fun {m e} h hg ne => by
    obtain ⟨o, ho⟩ := h.some
    refine ⟨h.mono eG.ext ((keep m o ho ne).trans ho.symm), ?_⟩
    cases q : G' m with
    | none => rfl
    | some x =>
      rcases c'.gn m hg (by rw [q]; exact fun z => by cases z) with z | ⟨xs, z⟩
      · have z : H m = none := z
        rw [ho] at z
        cases z
      · have z := c'.ex _ _ z
        rw [keep m o ho ne, ← ho] at z
        exact (h.notTup xs z).elim
  have other : ∀ {i : Nat} {t : Sl} {e : D} {m : Addr}, j ≠ i → ρ[i]? = some t → t.mine = some e → σ[i]? = some (some (.ref m)) → m ≠ l := fun {i t e m} ne h1 h2 h3 z => by
    subst z
    exact c.sep j i s t d e m ne hj hm h1 h2 hl h3
  refine ⟨c'.ex, c.g0.trans eG, fun b o e hb => ?_, fun b e1 e2 => ?_, by simpa using c.len, fun i x e => ?_, fun i x e => ?_, fun i x e => ?_, fun i m e => ?_, fun i m s1 s2 d1 d2 l2 hjk e1 m1 e2 m2 v1 v2 => ?_⟩
  · have ne : b ≠ l := fun z => by
      subst z
      rcases a4 with z | z
      · rw [z] at e; cases e
      · exact hb _ z
    exact keep b o (c.fr b o e hb) ne
  · cases q : G b with
    | some o => exact (c.gn b e1 (by rw [q]; exact fun z => by cases z)).imp id fun ⟨xs, z⟩ => ⟨xs, eG _ _ z⟩
    | none => exact (c'.gn b q e2).imp (fun z => (c.fresh z).1) id
  · rcases b3a e with ⟨_, z, _⟩ | ⟨_, z⟩
    · cases s with
      | own y => exact nomatch (show Sl.own d' = Sl.val x from z)
      | bor y => exact nomatch (show Sl.bor d' = Sl.val x from z)
      | no => cases hm
      | val y => cases hm
    · obtain ⟨v, y, w⟩ := c.vals i x z
      exact ⟨v, y, w.mono eG⟩
  · rcases b3a e with ⟨rfl, z, _⟩ | ⟨ne, z⟩
    · cases s with
      | own y =>
        cases z
        obtain ⟨l2, x1, x2, x3, x4⟩ := c.owns j _ hj
        rw [hl] at x1
        cases x1
        exact ⟨l, hl, b2, b3, x4⟩
      | bor y => exact nomatch (show Sl.bor d' = Sl.own x from z)
      | no => cases hm
      | val y => cases hm
    · obtain ⟨l2, x1, x2, x3, x4⟩ := c.owns i x z
      obtain ⟨k1, k2⟩ := obj x2 x3 (other ne z rfl x1)
      exact ⟨l2, x1, k1, k2, x4⟩
  · rcases b3a e with ⟨rfl, z, _⟩ | ⟨ne, z⟩
    · cases s with
      | bor y =>
        cases z
        obtain ⟨l2, x1, x2, x3, x4⟩ := c.bors j _ hj
        rw [hl] at x1
        cases x1
        exact ⟨l, hl, b2, b3, x4⟩
      | own y => exact nomatch (show Sl.own d' = Sl.bor x from z)
      | no => cases hm
      | val y => cases hm
    · obtain ⟨l2, x1, x2, x3, x4⟩ := c.bors i x z
      obtain ⟨k1, k2⟩ := obj x2 x3 (other ne z rfl x1)
      exact ⟨l2, x1, k1, k2, x4⟩
  · obtain ⟨y, h1, h2⟩ := c.bb i m e
    by_cases ne : j = i
    · subst ne
      rw [hj] at h1
      cases h1
      exact ⟨d', by rw [i1e jl]; rfl, h2⟩
    · exact ⟨y, by rw [h9e ne]; exact h1, h2⟩
  · have back : ∀ {i : Nat} {t : Sl} {e : D}, (ρ.set j (s.with d'))[i]? = some t → t.mine = some e → ∃ t' e', ρ[i]? = some t' ∧ t'.mine = some e' := fun {i t e} h1 h2 => by
      rcases b3a h1 with ⟨rfl, _, _⟩ | ⟨_, h1⟩
      · exact ⟨s, d, hj, hm⟩
      · exact ⟨t, e, h1, h2⟩
    obtain ⟨t1, x1, y1, z1⟩ := back e1 m1
    obtain ⟨t2, x2, y2, z2⟩ := back e2 m2
    exact c.sep i m t1 t2 x1 x2 l2 hjk y1 z1 y2 z2 v1 v2
end
def SimAO (K : PySem.W.Frag) (cls : Nat → Value) (W : WX) (j : Nat) (ta : TA) (f : M (List D × List D)) : Prop := ∀ F ρ σ G H l, CS K F G H σ ρ → σ[j]? = some (some (.ref l)) → ∀ Q : List V → Hp → Prop,
 wpR (f ρ) (fun p ρ' => ∀ vs1 vs2 G' H', Ex G G' → CS K F G' H' σ ρ' → RepL K G' vs1 p.1 → RepL K G' vs2 p.2 → Q (vs1 ++ .ref l :: vs2) H') (PEx K cls W F G σ) → ta σ H Q
structure QAO (X : Cx) (cls : Nat → Value) (W : WX) (j : Nat) (es : List Expr) (f : M (List D × List D)) : Prop where
 sim : ∃ t, PA X es t ∧ SimAO X.K cls W j t f
def oHere (r : M (List D)) : M (List D × List D) := mbind r fun xs => mpure ([], xs)
def oThere (a : M D) (r : M (List D × List D)) : M (List D × List D) := mbind a fun x => mbind r fun p => mpure (x :: p.1, p.2)
def after {α : Type} (ρ ρ' : List Sl) (k j : Nat) (s : Sl) (r : α) : R α := match ρ'[k]? with
 | some (.bor d') => .ok r (ρ.set j (s.with d'))
 | _ => .bad
def afterX {α : Type} (ρ ρ' : List Sl) (k j : Nat) (s : Sl) (c : Nat) : R α := match ρ'[k]? with
 | some (.bor d') => .ex c (ρ.set j (s.with d'))
 | _ => .bad
def callO (np ns : Nat) (den : MS) (j : Nat) (p : List D × List D) : M D := fun ρ => match mineOf ρ j with
  | some (s, d) => if p.1.length + 1 + p.2.length = np then match den ((p.1.map .val ++ .bor d :: p.2.map .val) ++ List.replicate ns .no) with
    | .rt r ρ' => after ρ ρ' p.1.length j s r
    | .rtN r ρ' => after ρ ρ' p.1.length j s r
    | .nx ρ' => after ρ ρ' p.1.length j s .non
    | .ex c ρ' => afterX ρ ρ' p.1.length j s c
    | .bad => .bad
    else .bad
  | none => .bad
def callON (np ns : Nat) (den : MS) (j : Nat) (p : List D × List D) : M D := fun ρ => match mineOf ρ j with
  | some (s, d) => if p.1.length + 1 + p.2.length = np then match den ((p.1.map .val ++ .bor d :: p.2.map .val) ++ List.replicate ns .no) with
    | .rtN r ρ' => after ρ ρ' p.1.length j s r
    | .ex c ρ' => afterX ρ ρ' p.1.length j s c
    | _ => .bad
    else .bad
  | none => .bad
def eCallO (np ns : Nat) (den : MS) (j : Nat) (fa : M (List D × List D)) : M D := fun ρ => match mineOf ρ j with
 | some _ => mbind fa (callO np ns den j) ρ
 | none => .bad
def eCallON (np ns : Nat) (den : MS) (j : Nat) (fa : M (List D × List D)) : M D := fun ρ => match mineOf ρ j with
 | some _ => mbind fa (callON np ns den j) ρ
 | none => .bad
theorem p9a {np ns : Nat} {den : MS} {j : Nat} {fa : M (List D × List D)} : Inert (eCallO np ns den j fa) := fun ρ n a ρ' h => by
 unfold eCallO at h
 split at h
 ·rename_i p e
  obtain ⟨h1, h2⟩ := d7a (s := p.1) (d := p.2) e
  rw [n j _ h1] at h2
  cases h2
 ·cases h
theorem z1b {np ns : Nat} {den : MS} {j : Nat} {fa : M (List D × List D)} : Inert (eCallON np ns den j fa) := fun ρ n a ρ' h => by
 unfold eCallON at h
 split at h
 ·rename_i p e
  obtain ⟨h1, h2⟩ := d7a (s := p.1) (d := p.2) e
  rw [n j _ h1] at h2
  cases h2
 ·cases h
section
variable {X : Cx} {cls : Nat → Value} {W : WX} {e a b : Expr} {es : List Expr} {f g : M D} {tf : M Bool} {pos : Pos} {sf sg : MS} {st : Stmt} {sts : List Stmt}
theorem c2a (j : Nat) {r : M (List D)} (hv : PE X a (tVar j)) (hr : QA X cls W es r) (hs : starEach (a :: es) X.env = (false, eval a X.env) :: starEach es X.env := by rfl) : QAO X cls W j (a :: es) (oHere r) := by
 obtain ⟨⟨t, p, s⟩, _⟩ := hr
 refine ⟨⟨_, pa_cons hv p hs, fun F ρ σ G H l c hl Q w => ⟨.ref l, hl, ?_⟩⟩⟩
 exact s F ρ σ G H c _ ((a8a w).mono (fun xs ρ1 w1 v1 G1 H1 e1 c1 r1 => w1 [] v1 G1 H1 e1 c1 .nil r1) fun _ _ p => p)
theorem a5b {α : Type} {ρ ρ' : List Sl} {k j : Nat} {s : Sl} {r : α} {P : α → List Sl → Prop} {E : Nat → List Sl → Prop} (h : wpR (after ρ ρ' k j s r) P E) : ∃ d', ρ'[k]? = some (.bor d') ∧ P r (ρ.set j (s.with d')) := by
 unfold after at h
 split at h
 ·rename_i d' e; exact ⟨d', e, h⟩
 ·exact h.elim
theorem z2b {α : Type} {ρ ρ' : List Sl} {k j : Nat} {s : Sl} {c : Nat} {P : α → List Sl → Prop} {E : Nat → List Sl → Prop} (h : wpR (afterX ρ ρ' k j s c : R α) P E) : ∃ d', ρ'[k]? = some (.bor d') ∧ E c (ρ.set j (s.with d')) := by
 unfold afterX at h
 split at h
 ·rename_i d' e; exact ⟨d', e, h⟩
 ·exact h.elim
theorem m5c {K : PySem.W.Frag} {F : Fm} {G H G' H' : Hp} {σ σ' : St} {ρ ρ' : List Sl} {j k : Nat} {s : Sl} {d d' : D} {l m : Addr} {x : D} (c : CS K F G H σ ρ) (hj : ρ[j]? = some s) (hm : s.mine = some d) (f : Fr K ⟨H, G, [(k, l)]⟩ G' H' σ' ρ' m x) : Fr K F G' H' σ (ρ.set j (s.with d')) m x := by
 have hn : H m = none := f.h0
 refine ⟨f.obj, f.g, (c.fresh hn).1, fun i t e h1 h2 => ?_⟩
 rcases b3a h1 with ⟨rfl, _, _⟩ | ⟨_, h1⟩
 ·exact c.notMine hn hj hm
 ·exact c.notMine hn h1 h2
theorem h7b {K : PySem.W.Frag} {np ns : Nat} {den : MS} {j : Nat} {ta : TA} {fa : M (List D × List D)} (ha : SimAO K cls W j ta fa) : SimE K cls W (tCallSD (spD K cls np ns den) [] (WE W) ta) (eCallO np ns den j fa) := fun F ρ σ G H c Q w => by
 unfold eCallO at w
 split at w
 ·rename_i p0 e0
  obtain ⟨h1, h2⟩ := d7a (s := p0.1) (d := p0.2) e0
  obtain ⟨l, a1, a2, a3, a4⟩ := c.mine h1 h2
  refine ha F ρ σ G H l c a1 _ ((a8a w).mono (fun p ρ1 w1 vs1 vs2 G1 H1 e1 c1 r1 r2 => ?_) fun _ _ p => p)
  unfold callO at w1
  split at w1
  ·rename_i s d es
   obtain ⟨b1, b2⟩ := d7a es
   split at w1
   ·rename_i hl
    have cc := c1.argsO b1 b2 a1 r1 r2
    refine ⟨?_, G1, [(p.1.length, l)], p.1.map .val ++ .bor d :: p.2.map .val, H1, ?_, ?_⟩
    ·rw [h5e, g9e, h0e, r1.length, r2.length]
     omega
    ·rw [h5e]
     exact cc
    ·split at w1
     ·rename_i r ρ' q
      rw [q]
      obtain ⟨d', k1, k2⟩ := a5b w1
      exact fun v σ' G' H' e' c' rv => k2 v G' H' (e1.trans e') (c1.backO b1 b2 a1 c' k1) rv
     ·rename_i r ρ' q
      rw [q]
      obtain ⟨d', k1, k2⟩ := a5b w1
      intro m σ' G' H' e' c' fr
      obtain ⟨o, ho, c2, rr, e2⟩ := (c1.backO b1 b2 a1 c' k1).freeze (m5c c1 b1 b2 fr)
      exact k2 _ _ _ ((e1.trans e').trans e2) c2 rr
     ·rename_i ρ' q
      rw [q]
      obtain ⟨d', k1, k2⟩ := a5b w1
      exact fun σ' G' H' e' c' => k2 _ G' H' (e1.trans e') (c1.backO b1 b2 a1 c' k1) .non
     ·rename_i n ρ' q
      rw [q]
      obtain ⟨d', k1, k2⟩ := z2b w1
      exact fun σ' G' H' e' c' => k2 G' H' (e1.trans e') (c1.backO b1 b2 a1 c' k1)
     ·exact w1.elim
   ·exact w1.elim
  ·exact w1.elim
 ·exact w.elim
theorem u3c {K : PySem.W.Frag} {np ns : Nat} {den : MS} {j : Nat} {ta : TA} {fa : M (List D × List D)} (ha : SimAO K cls W j ta fa) : SimN K cls W (tCallSD (spD K cls np ns den) [] (WE W) ta) (eCallON np ns den j fa) := fun F ρ σ G H c Q w => by
 unfold eCallON at w
 split at w
 ·rename_i p0 e0
  obtain ⟨h1, h2⟩ := d7a (s := p0.1) (d := p0.2) e0
  obtain ⟨l, a1, a2, a3, a4⟩ := c.mine h1 h2
  refine ha F ρ σ G H l c a1 _ ((a8a w).mono (fun p ρ1 w1 vs1 vs2 G1 H1 e1 c1 r1 r2 => ?_) fun _ _ p => p)
  unfold callON at w1
  split at w1
  ·rename_i s d es
   obtain ⟨b1, b2⟩ := d7a es
   split at w1
   ·rename_i hl
    have cc := c1.argsO b1 b2 a1 r1 r2
    refine ⟨?_, G1, [(p.1.length, l)], p.1.map .val ++ .bor d :: p.2.map .val, H1, ?_, ?_⟩
    ·rw [h5e, g9e, h0e, r1.length, r2.length]
     omega
    ·rw [h5e]
     exact cc
    ·split at w1
     ·rename_i r ρ' q
      rw [q]
      obtain ⟨d', k1, k2⟩ := a5b w1
      exact fun m σ' G' H' e' c' fr => k2 m G' H' (e1.trans e') (c1.backO b1 b2 a1 c' k1) (m5c c1 b1 b2 fr)
     ·rename_i n ρ' q
      rw [q]
      obtain ⟨d', k1, k2⟩ := z2b w1
      exact fun σ' G' H' e' c' => k2 G' H' (e1.trans e') (c1.backO b1 b2 a1 c' k1)
     ·exact w1.elim
   ·exact w1.elim
  ·exact w1.elim
 ·exact w.elim
theorem t9d {np ns : Nat} {den : MS} {j : Nat} {fa : M (List D × List D)} (hp : ∀ ta, PA X es ta → PE X e (tCallSD (spD X.K cls np ns den) [] (WE W) ta)) (ha : QAO X cls W j es fa) : QE X cls W e (eCallO np ns den j fa) :=
 ⟨let ⟨t, p, s⟩ := ha.sim; ⟨_, hp t p, h7b s⟩, p9a⟩
theorem j5d {np ns : Nat} {den : MS} {j : Nat} {fa : M (List D × List D)} (hp : ∀ ta, PA X es ta → PE X e (tCallSD (spD X.K cls np ns den) [] (WE W) ta)) (ha : QAO X cls W j es fa) : QN X cls W e (eCallON np ns den j fa) :=
 ⟨let ⟨t, p, s⟩ := ha.sim; ⟨_, hp t p, u3c s⟩, z1b⟩
end
end NT
set_option Elab.async false
set_option linter.all false
set_option maxRecDepth 100000
set_option maxHeartbeats 4000000
namespace NT.RV
open PySem L2 PySem.Spec PyProof.Rows
section
variable {prog : Program} {w : World} {A : Around} {E : Value → Shared → Prop} {s : Shared}
theorem u0d {it l S : Addr} {items : Array Value} {c₀ : Nat} {R : Result → Shared → Prop} (hh : A.handled = none) (hit : s.heap.IsRevIter it l ((items.size : Int) - 1)) (hl : s.heap.IsList l items) (hne : l ≠ it) (hn : items.size ≤ sizeLine)
  (hS : s.heap.get? S = some { cls := .type "list", data := .seq #[] c₀ }) (hSi : S ≠ it) (hSl : S ≠ l)
  (hR : ∀ h' tk acc' c', (∀ b o, b ≠ S → b ≠ it → s.heap.get? b = some o → h'.get? b = some o) → h'.get? S = some { cls := .type "list", dict := none, data := .seq acc' c', slots := #[] } →
   ItemsOf (fun i v => items[items.size - 1 - i]? = some v) acc' items.size → R (.ok (.ret .none)) { s with heap := h', toks := tk }) :
  wpAny (model prog w) A.in1 (Builtin.List.listExtendWith (.ref S) (.ref it) .none) (fun fin s' => match fin with | .done f => R (.ok f) s' | .again c' => c'.quiet = true ∧ codeAny (model prog w) A c' R s') (fun e s' => R (.error e) s') s := by
 have W := (Walks.listRev (prog := prog) (w := w) (A := A.in1) hh it l hne items).toS
 have hSf : S ∉ [it, l] := by simp only [k1e, j4e, or_false, not_or]; exact ⟨hSi, hSl⟩
 have hT : s.TypeIs (.ref it) "list_reverseiterator" := hit.typeIs
 have h1 : Builtin.List.listSameRef (.ref S) (.ref it) = false := by simp [Builtin.List.listSameRef, hSi]
 unfold Builtin.List.listExtendWith
 refine wpAny_bind (wpAny_typeOf hT ?_)
 rw [if_neg (by rw [h1]; decide)]
 refine wpAny_bind (wpAny_pyIter_revIter hit ?_)
 refine wpAny_bind (wpAny_holding ?_)
 unfold Builtin.List.listLengthHint
 refine wpAny_bind (wpAny_specialOf hT RT.nolen_lri ?_)
 show wpAny _ A.in1 (specialOf (Value.ref it) (Str.ofString "__length_hint__") >>= _) _ _ _
 refine wpAny_bind (wpAny_specialOf hT RT.hint_lri ?_)
 generalize hid : ("list_reverseiterator.__length_hint__" : String) = id0
 wp_delta
 rw [show splitId id0 = some ("list_reverseiterator", "__length_hint__") from by subst hid; decide +kernel]
 subst hid
 refine wpAny_bind (wpAny_isInstance (b := true) hT (by rw [isSubtype_type]; kernel_rfl) ?_)
 refine wpAny_pure ?_
 rw [if_neg (by decide)]
 have e0 : ((items.size : Nat) : Int) - 1 - ((0 : Nat) : Int) = (items.size : Int) - 1 := by omega
 refine wpAny_pure ⟨plainId_quiet F.plain_extend_loop _, codeAny_extend_loopS W hn _ hSf _ items.size 0 _ _ _ rfl (n2e _) ⟨n2e _, by rw [e0]; exact hit, hl⟩ hS (ItemsOf.nil _) fun s' acc' c' hm hS' hacc => ?_⟩
 rw [Moved.eq_with hm]
 refine hR s'.heap s'.toks acc' c' (fun b o hb hb2 e => hm.heap b o (fun hmem => ?_) e) hS' hacc
 rcases List.mem_cons.mp hmem with e' | hmem
 ·exact hb e'
 ·exact hb2 (List.mem_singleton.mp hmem)
theorem j6d {it l S : Addr} {items : Array Value} {R : Result → Shared → Prop} (hh : A.handled = none) (hit : s.heap.IsRevIter it l ((items.size : Int) - 1)) (hl : s.heap.IsList l items) (hne : l ≠ it) (hn : items.size ≤ sizeLine)
  (hS : s.heap.get? S = some { cls := .type "list", data := .seq #[] }) (hSi : S ≠ it) (hSl : S ≠ l)
  (hR : ∀ h' tk acc' c', (∀ b o, b ≠ S → b ≠ it → s.heap.get? b = some o → h'.get? b = some o) → h'.get? S = some { cls := .type "list", dict := none, data := .seq acc' c', slots := #[] } →
   ItemsOf (fun i v => items[items.size - 1 - i]? = some v) acc' items.size → R (.ok (.ret .none)) { s with heap := h', toks := tk }) :
  wpAny (model prog w) A.in1 (Builtin.«list.__init__» ⟨[.ref S, .ref it], []⟩) (fun fin s' => match fin with | .done f => R (.ok f) s' | .again c' => c'.quiet = true ∧ codeAny (model prog w) A c' R s') (fun e s' => R (.error e) s') s := by
 show wpAny _ _ (do let old ← Builtin.List.listItems (.ref S); Builtin.List.listUpdate (.ref S) (fun _ => #[]); letGo old.toList.reverse; Builtin.List.listExtendWith (.ref S) (.ref it) .none) _ _ s
 refine wpAny_bind ?_
 unfold Builtin.List.listItems
 refine wpAny_bind (wpAny_seqItems hS rfl (wpAny_pure ?_))
 show wpAny _ _ (updateSeq S (fun _ => #[]) >>= fun _ => letGo (#[] : Array Value).toList.reverse >>= fun _ => Builtin.List.listExtendWith (.ref S) (.ref it) .none) _ _ s
 refine wpAny_bind (wpAny_updateSeq hS rfl ?_)
 have hS₂ := Heap.get?_update_self (Obj.mapSeq (fun _ => (#[] : Array Value))) hS rfl
 have oth : ∀ b o, b ≠ S → s.heap.get? b = some o → (s.heap.update S (Obj.mapSeq (fun _ => (#[] : Array Value)))).get? b = some o := fun b o hb e => (Heap.get?_update_other _ _ (Ne.symm hb)).trans e
 refine wpAny_bind (wpAny_letGo ?_)
 refine u0d hh (hit.at fun o e => oth _ o (Ne.symm hSi) e) (hl.at fun o e => oth _ o (Ne.symm hSl) e) hne hn hS₂ hSi hSl fun h' tk acc' c' hk hS' hacc => ?_
 exact hR h' tk acc' c' (fun b o hb hb2 e => hk b o hb hb2 (oth b o hb e)) hS' hacc
theorem j7d {it l : Addr} {items : Array Value} {Q : Value → Shared → Prop} (hh : A.handled = none) (hit : s.heap.IsRevIter it l ((items.size : Int) - 1)) (hl : s.heap.IsList l items) (hne : l ≠ it) (hn : items.size ≤ sizeLine)
  (hQ : ∀ h' tk acc' c', (∀ b o, b ≠ it → s.heap.get? b = some o → h'.get? b = some o) → h'.get? s.heap.objs.size = some { cls := .type "list", dict := none, data := .seq acc' c', slots := #[] } →
   ItemsOf (fun i v => items[items.size - 1 - i]? = some v) acc' items.size → Q (.ref s.heap.objs.size) { s with heap := h', toks := tk }) :
  wpAny (model prog w) A (call (.type "list") [.ref it]) Q E s := by
 refine callType_codes (Q₁ := fun obj s₁ => obj = .ref s.heap.objs.size ∧ s₁ = { s with heap := s.heap.push { cls := .type "list", data := .seq #[] } }) F.called_list (F.typeCall_list_1 _) F.entry_list_init
  (code_list_new _ ⟨rfl, rfl⟩) fun obj s₁ h₁ => ?_
 obtain ⟨rfl, rfl⟩ := h₁
 obtain ⟨oi, hoi, _⟩ := id hit
 obtain ⟨ol, hol, _⟩ := id hl
 have hS : (s.heap.push { cls := .type "list", data := .seq #[] }).get? s.heap.objs.size = some { cls := .type "list", data := .seq #[] } := Heap.get?_push_size _ rfl
 refine ⟨⟨_, hS, rfl⟩, F.args_list_init_2 _ _, j6d (A := A.in1) hh (hit.at fun o e => Heap.get?_push_of_some _ e) (hl.push _) hne hn hS (Nat.ne_of_gt (Heap.lt_size hoi)) (Nat.ne_of_gt (Heap.lt_size hol)) fun h' tk acc' c' hk hS' hacc => ?_⟩
 exact ⟨rfl, hQ h' tk acc' c' (fun b o hb e => hk b o (Nat.ne_of_lt (Heap.lt_size e)) hb (Heap.get?_push_of_some _ e)) hS' hacc⟩
end
section
variable {X : Cx}
def tLstRev (K : PySem.W.Frag) (te : TE) : TE := fun σ H Q => te σ H fun v H1 => ∃ (a : Addr) (xs : List V), v = .ref a ∧ SqL K H1 a xs ∧ ∀ q, H1 q = none → Q (.ref q) (upd H1 q (.lst xs.reverse))
theorem pe_lstRev {e : Expr} {te : TE} {p p2 pos pos2 : Pos} (hc : X.calm = true) (hg : Gl X "list") (hm : X.mg "list" = none) (hg2 : Gl X "reversed") (hm2 : X.mg "reversed" = none) (he : PE X e te)
  (hs : starEach [e] X.env = (false, eval e X.env) :: starEach [] X.env := by rfl)
  (hs2 : starEach [.Call (.Name "reversed" p2) [e] [] pos2] X.env = (false, eval (.Call (.Name "reversed" p2) [e] [] pos2) X.env) :: starEach [] X.env := by rfl) :
  PE X (.Call (.Name "list" p) [.Call (.Name "reversed" p2) [e] [] pos2] [] pos) (tLstRev X.K te) := by
 refine ⟨fun pins s σ H Q I h => ?_⟩
 refine Call_ (ld_blt I hg hm (show bootBuiltins "list" = some (.type "list") by decide +kernel) (PyProof.Rows.callWith_type1 (args_cons (Call_ (ld_blt I hg2 hm2 PyProof.Rows.boot_reversed (PyProof.Rows.callWith_type1 (args_cons (thn (he.run pins s σ H _ I h) fun u s1 ⟨v, H1, I1, r1, q1⟩ => args_nil ?_) hs) hs rfl))) hs2) hs2 rfl))
 obtain ⟨a, xs, ev, hq, q⟩ := q1
 subst ev
 obtain rfl : u = Value.ref a := r1
 obtain ⟨its, rv, p', hz⟩ := I1.list hq
 refine call_reversed_list p'.isList (args_nil ?_)
 have k0 : ∀ b o, s1.heap.get? b = some o → (s1.heap.push (revObj a ((its.toArray.size : Int) - 1))).get? b = some o := fun b o e => Heap.get?_push_of_some _ e
 have I2 : Inv X pins σ H1 { s1 with heap := s1.heap.push (revObj a ((its.toArray.size : Int) - 1)) } := I1.kept (t' := s1.toks) k0
 obtain ⟨f0, f1, f2, f3, f4, f5⟩ := I1.fpOk (H' := H1) (b := s1.heap.objs.size) (j0e _) (I1.hok.fresh (j0e _))
 have hl := p'.isList
 obtain ⟨ol, hol, _⟩ := id hl
 have hne : a ≠ s1.heap.objs.size := Nat.ne_of_lt (Heap.lt_size hol)
 have hn : its.toArray.size ≤ sizeLine := by rw [List.size_toArray, ← rv.length]; exact hz
 refine j7d (s := { s1 with heap := s1.heap.push (revObj a ((its.toArray.size : Int) - 1)) }) (I1.ok.hd hc) ⟨_, Heap.get?_push_size _ rfl, rfl, rfl⟩ (hl.push _) hne hn fun h' tk acc c' hk hS' hi => ?_
 generalize hit : s1.heap.objs.size = it at *
 generalize hs2' : s1.heap.push (revObj a ((its.toArray.size : Int) - 1)) = h2 at *
 have fS : H1 h2.objs.size = none := I2.hok.fresh (j0e _)
 have lt : ∀ {b : Addr} {o : PySem.Obj}, h2.get? b = some o → b ≠ h2.objs.size := fun e => Nat.ne_of_lt (Heap.lt_size e)
 have nit : ∀ b u, H1 b = some u → b ≠ it := fun b u e z => by rw [z, f0] at e; cases e
 have vr : Vals xs.reverse acc.toList := RT.vals_rev rv hi
 refine ⟨.ref h2.objs.size, upd H1 h2.objs.size (.lst xs.reverse), ?_, rfl, q _ fS⟩
 refine I2.step (g' := s1.gens) (t' := tk) (d' := s1.drawn) (ch := [it]) (fun b hb => ?_) (fun b o _ _ hc e _ => hk b o (fun z => hc (by simp [z])) e) (fun b o _ _ hc e _ => ⟨o.slots, hk b o (fun z => hc (by simp [z])) e⟩)
  (fun b o hc e n => by rw [upd_ne (lt e)]; exact n) (fun b o hc e => ⟨o, hk b o (fun z => hc (by simp [z])) e⟩) (fun b ys e => by rw [upd_ne (ne_of_none e fS)]; exact e) (fun b o u e => by rw [upd_ne (ne_of_none e fS)]; exact e)
  (fun b ps e => ⟨#[], by rw [upd_ne (ne_of_none e fS), e]; simp⟩) (fun m hm => ?_) (fun b u e => ?_) I2.bare
 ·have e : b = it := by simpa using hb
  subst e
  exact ⟨f3, f1, f4, f5⟩
 ·obtain ⟨o, es, ep, ho, r⟩ := hm
  exact ⟨o, es, ep, hk _ o (Ne.symm f1) ho, r⟩
 ·by_cases hb : b = h2.objs.size
  ·subst hb
   rw [upd_same] at e
   cases e
   exact ⟨by rw [List.length_reverse]; exact hz, acc.toList, c', vr, by rw [Array.toArray_toList]; exact hS'⟩
  ·rw [upd_ne hb] at e
   refine (I2.hok b u e).stay (fun c v hc q => hk c v ?_ q) (fun c q => by rw [upd_ne (ne_of_none q fS)]; exact q) fun c ys q => by rw [upd_ne (ne_of_none q fS)]; exact q
   rcases hc with z | z
   ·rw [z]; exact nit b u e
   ·exact nit c _ z
end
end NT.RV
set_option Elab.async false
set_option linter.all false
set_option maxRecDepth 100000
set_option maxHeartbeats 4000000
namespace NT
open PySem L2
section
variable {K : PySem.W.Frag} {X : Cx}
theorem pok {F : Fm} {G H : Hp} {σ : St} {ρ : List Sl} {Q : VK} {z : D} {v : V} (c : CS K F G H σ ρ) (p : POk K F G σ Q z ρ) (r : Rep K G v z) : Q v H := p v G H (Same.refl G) c r
theorem k7a {F : Fm} {G H : Hp} {σ : St} {ρ : List Sl} {Q : VK} {ds : List D} {vs : List V} (c : CS K F G H σ ρ) (q : PNw K F G σ Q (.lst ds) ρ) (r : RepL K G vs ds) {p : Addr} (hp : H p = none) : Q (.ref p) (upd H p (.lst vs)) := by
 obtain ⟨c2, f2⟩ := y2b c hp (o := .lst vs) (d := .lst ds) ⟨vs, upd_same, r⟩
 exact q _ _ _ (Same.refl G) c2 f2
def op2 (g : Int → Int → D) : D → D → Option D
 | .int i, .int j => some (g i j)
 | _, _ => none
theorem m6c {g : Int → Int → V} {g' : Int → Int → D} (h : ∀ G i j, Rep K G (g i j) (g' i j)) : Val2 K (rI0 g) (op2 g') := fun F G H σ ρ x y d e z c rx ry hz Q p => by
 unfold op2 at hz
 split at hz
 ·cases hz
  cases rx
  cases ry
  exact ⟨_, _, rfl, rfl, pok c p (h G _ _)⟩
 ·cases hz
def op2C (C : Int → Int → Bool) (g : Int → Int → D) : D → D → Option D
 | .int i, .int j => if C i j then some (g i j) else none
 | _, _ => none
theorem u1d {C : Int → Int → Prop} {C' : Int → Int → Bool} {g : Int → Int → V} {g' : Int → Int → D} (hC : ∀ i j, C' i j = true → C i j) (h : ∀ G i j, Rep K G (g i j) (g' i j)) : Val2 K (rI C g) (op2C C' g') := fun F G H σ ρ x y d e z c rx ry hz Q p => by
 unfold op2C at hz
 split at hz
 ·split at hz
  ·rename_i hc
   cases hz
   cases rx
   cases ry
   exact ⟨_, _, rfl, rfl, hC _ _ hc, pok c p (h G _ _)⟩
  ·cases hz
 ·cases hz
theorem Val2.eq {r : R2} {g g' : D → D → Option D} (h : Val2 K r g) (e : ∀ d e, g' d e = g d e) : Val2 K r g' := fun F G H σ ρ x y d e' z c rx ry hz Q p => h F G H σ ρ x y d e' z c rx ry (by rw [← e]; exact hz) Q p
def opSub := op2 fun i j => D.int (i - j)
def opLt := op2 fun i j => D.bl (decide (i < j))
def intsOf : List D → Option (List Int)
 | [] => some []
 | .int i :: ds => (intsOf ds).map (i :: ·)
 | _ => none
theorem h8b : ∀ {ds : List D} {ns : List Int}, intsOf ds = some ns → ds = ns.map D.int
  | [], _, h => by cases h; rfl
  | .int i :: ds, _, h => by
    obtain ⟨ms, h1, h2⟩ := Option.map_eq_some_iff.mp h
    subst h2
    rw [h3e, h8b h1]
def leTup (ns ms : List Int) : Bool := Ob.lexAt (fun j => decide (ns.getD j 0 = ms.getD j 0)) (fun j => decide (ns.getD j 0 ≤ ms.getD j 0)) (decide (ns.length ≤ ms.length)) 0 (min ns.length ms.length)
def opLe : D → D → Option D
  | .int i, .int j => some (.bl (decide (i ≤ j)))
  | .tup ds, .tup es => match intsOf ds, intsOf es with
    | some ns, some ms => some (.bl (leTup ns ms))
    | _, _ => none
  | _, _ => none
def opGt := op2 fun i j => D.bl (decide (j < i))
def opGe := op2 fun i j => D.bl (decide (j ≤ i))
theorem m0a : Val2 K (rI0 fun i j => .int (i - j)) opSub := m6c fun _ _ _ => .int _
theorem z4c : Val2 K (rI0 fun i j => .bl (decide (i < j))) opLt := m6c fun _ _ _ => .bl _
theorem RepL.intsV {G : Hp} {vs : List V} {ds : List D} {ns : List Int} (r : RepL K G vs ds) (h : intsOf ds = some ns) : vs = ns.map V.int := by
 have := h8b h
 subst this
 exact r.ints_inv
def rLeA (K : PySem.W.Frag) : R2 := fun x y H Q => rI0 (fun i j => .bl (decide (i ≤ j))) x y H Q ∨ rLeT K x y H Q
theorem h9b (hu : X.A.units < cLine) : OpR X (compareOp .LtE) (rLeA X.K) := OpR.or op_le (op_leT hu)
theorem i0b : Val2 K (rLeA K) opLe := fun F G H σ ρ x y d e z c rx ry hz Q p => by
  unfold opLe at hz
  split at hz
  · cases hz
    cases rx
    cases ry
    exact .inl ⟨_, _, rfl, rfl, pok c p (.bl _)⟩
  · split at hz
    · rename_i ns ms h1 h2
      cases hz
      cases rx with
      | tup hx r1 =>
        cases ry with
        | tup hy r2 =>
          have e1 := r1.intsV h1
          have e2 := r2.intsV h2
          subst e1
          subst e2
          exact .inr ⟨_, _, ns, ms, rfl, rfl, .inl (c.ex.rd hx.rd), .inl (c.ex.rd hy.rd), pok c p (.bl _)⟩
    · cases hz
  · cases hz
theorem j4a : Val2 K (rI0 fun i j => .bl (decide (j < i))) opGt := m6c fun _ _ _ => .bl _
theorem z5c : Val2 K (rI0 fun i j => .bl (decide (j ≤ i))) opGe := m6c fun _ _ _ => .bl _
def mulOk (i j : Int) : Bool := decide ((-(2 ^ 64) < i ∧ i < 2 ^ 64) ∨ (-(2 ^ 64) < j ∧ j < 2 ^ 64))
def opMod := op2C (fun _ j => decide (0 < j)) fun i j => D.int (i % j)
def opFdiv := op2C (fun _ j => decide (0 < j ∧ j < 1073741824)) fun i j => D.int (i / j)
def opPow := op2C (fun i j => decide (0 ≤ j ∧ j ≤ 1000000 ∧ i.natAbs < 2 ^ 64)) fun i j => D.int (i ^ j.toNat)
theorem c8a : Val2 K (rI (fun _ j => 0 < j) fun i j => .int (i % j)) opMod := u1d (fun i j h => of_decide_eq_true h) fun _ _ _ => .int _
theorem n4a : Val2 K (rI CDiv fun i j => .int (i / j)) opFdiv := u1d (fun i j h => (show 0 < j ∧ j < 1073741824 from of_decide_eq_true h)) fun _ _ _ => .int _
theorem u2d : Val2 K (rI CPow fun i j => .int (i ^ j.toNat)) opPow := u1d (fun i j h => (show 0 ≤ j ∧ j ≤ 1000000 ∧ i.natAbs < 2 ^ 64 from of_decide_eq_true h)) fun _ _ _ => .int _
def opAdd : D → D → Option D
 | .int i, .int j => some (.int (i + j))
 | .str x, .str y => if x.length + y.length ≤ 100000 then some (.str (x ++ y)) else none
 | .tup xs, .tup ys => if xs.length + ys.length ≤ 100000 then some (.tup (xs ++ ys)) else none
 | _, _ => none
def rAddA (K : PySem.W.Frag) : R2 := fun x y H Q => rI0 (fun i j => .int (i + j)) x y H Q ∨ ((∃ i j, x = .str i ∧ y = .str j ∧ i.length + j.length ≤ sizeLine ∧ Q (.str (i ++ j)) H) ∨ rCatL K x y H Q)
theorem f5a : OpR X (binaryOp .Add) (rAddA X.K) := OpR.or op_add (OpR.or op_add_str s3d)
theorem f6a : Val2 K (rAddA K) opAdd := fun F G H σ ρ x y d e z c rx ry hz Q p => by
  unfold opAdd at hz
  split at hz
  · cases hz
    cases rx
    cases ry
    exact .inl ⟨_, _, rfl, rfl, pok c p (.int _)⟩
  · split at hz
    · rename_i hl
      cases hz
      cases rx
      cases ry
      exact .inr (.inl ⟨_, _, rfl, rfl, p4b hl, pok c p (.str _)⟩)
    · cases hz
  · split at hz
    · rename_i hl
      cases hz
      cases rx with
      | tup hx r1 =>
        cases ry with
        | tup hy r2 =>
          refine .inr (.inr ⟨_, _, _, _, ⟨rfl, rfl, .inl (c.ex.rd hx.rd), .inl (c.ex.rd hy.rd), by rw [r1.length, r2.length]; exact p4b hl⟩, fun e => ?_, fun _ e => ?_, fun _ _ => ?_⟩)
          · subst e
            cases r1
            exact pok c p (.tup hy r2)
          · subst e
            cases r2
            rw [h5e] at p
            exact pok c p (.tup hx r1)
          · exact p6b c p (r1.append r2)
    · cases hz
  · cases hz
def strRep (x : Str) (n : Int) : Str := Txt.mul x n
def rMulS : R2 := fun x y H Q => ∃ z n, x = .str z ∧ y = .int n ∧ z.length ≤ 1000 ∧ -1000 ≤ n ∧ n ≤ 1000 ∧ Q (.str (Txt.mul z n)) H
theorem u3d : OpR X (binaryOp .Mult) rMulS := by
 intro pins s σ H x y v u Q I rx ry h
 obtain ⟨z, n, rfl, rfl, hz, h1, h2, q⟩ := h
 obtain ⟨t, rfl⟩ := rx
 obtain ⟨t', rfl⟩ := ry
 refine SB.mul ⟨?_, fun h3 h4 => ?_, fun h3 h4 => ?_⟩ fun t' k => ⟨.str _, H, I.tok k, ⟨_, rfl⟩, q⟩
 ·simp only [Bool.or_eq_false_iff, decide_eq_false_iff_not]
  omega
 ·have h5 : (1 : Int) ≤ n := by omega
  have h6 : (1000 : Int) ≤ (2 ^ 63 - 1) / n := by
   refine (Int.le_ediv_iff_mul_le (by omega)).mpr ?_
   have : (1000 : Int) * n ≤ 1000 * 1000 := by omega
   have e : (2 : Int) ^ 63 - 1 = 9223372036854775807 := by decide
   omega
  have h7 : (z.length : Int) ≤ 1000 := by omega
  omega
 ·show decide (z.length * n.toNat > sizeLine) = false
  have : z.length * n.toNat ≤ 1000 * 1000 := Nat.mul_le_mul hz (by omega)
  simp only [decide_eq_false_iff_not]
  have e := sizeLine_eq
  omega
def opMul : D → D → Option D
 | .int i, .int j => if mulOk i j then some (.int (i * j)) else none
 | .str x, .int n => if x.length ≤ 1000 ∧ -1000 ≤ n ∧ n ≤ 1000 then some (.str (strRep x n)) else none
 | _, _ => none
theorem f0a : OpR X (binaryOp .Mult) (fun x y H Q => rI CMul (fun i j => .int (i * j)) x y H Q ∨ rMulS x y H Q) := OpR.or op_mul u3d
theorem f1a : Val2 K (fun x y H Q => rI CMul (fun i j => .int (i * j)) x y H Q ∨ rMulS x y H Q) opMul := fun F G H σ ρ x y d e z c rx ry hz Q p => by
 unfold opMul at hz
 split at hz
 ·split at hz
  ·rename_i hc
   cases hz
   cases rx
   cases ry
   exact .inl ⟨_, _, rfl, rfl, (show (-(2 ^ 64) < _ ∧ _ < 2 ^ 64) ∨ (-(2 ^ 64) < _ ∧ _ < 2 ^ 64) from of_decide_eq_true hc), pok c p (.int _)⟩
  ·cases hz
 ·split at hz
  ·rename_i hc
   cases hz
   cases rx
   cases ry
   exact .inr ⟨_, _, rfl, rfl, hc.1, hc.2.1, hc.2.2, pok c p (.str _)⟩
  ·cases hz
 ·cases hz
def opNeg : D → Option D
 | .int i => some (.int (-i))
 | _ => none
theorem u4d : Val1 K (rU fun i => .int (-i)) opNeg := fun F G H σ ρ x d z c rx hz Q p => by
 unfold opNeg at hz
 split at hz
 ·cases hz
  cases rx
  exact ⟨_, rfl, pok c p (.int _)⟩
 ·cases hz
def opCat : D → D → Option D
 | .lst xs, .lst ys => if xs.length + ys.length ≤ 100000 then some (.lst (xs ++ ys)) else none
 | _, _ => none
theorem d8a : New2 K rCat opCat := fun F G H σ ρ x y d e z c rx ry hz Q p => by
  unfold opCat at hz
  split at hz
  · split at hz
    · rename_i hl
      cases hz
      cases rx with
      | lst hx r1 =>
        cases ry with
        | lst hy r2 => exact ⟨_, _, _, _, rfl, rfl, c.ex _ _ hx, c.ex _ _ hy, by rw [r1.length, r2.length]; exact p4b hl, fun q hq => k7a c p (r1.append r2) hq⟩
    · cases hz
  · cases hz
theorem RepL.flat {G : Hp} {vs : List V} {ds : List D} (r : RepL K G vs ds) : ∀ n : Nat, RepL K G (List.replicate n vs).flatten (List.replicate n ds).flatten
  | 0 => .nil
  | n + 1 => by
    rw [l8e, l8e, List.flatten_cons, List.flatten_cons]
    exact r.append (RepL.flat r n)
def opRepL : D → D → Option D
 | .lst xs, .int k => if -1000 ≤ k ∧ k ≤ 1000 ∧ xs.length ≤ 1000 then some (.lst (List.replicate k.toNat xs).flatten) else none
 | _, _ => none
theorem u5d : New2 K rRep opRepL := fun F G H σ ρ x y d e z c rx ry hz Q p => by
  unfold opRepL at hz
  split at hz
  · split at hz
    · rename_i hl
      cases hz
      cases ry
      cases rx with
      | lst hx r1 =>
        refine ⟨_, _, _, rfl, rfl, c.ex _ _ hx, by omega, by omega, ?_, fun q hq => k7a c p (r1.flat _) hq⟩
        rw [r1.length]
        exact l1e (Nat.mul_le_mul hl.2.2 (show _ ≤ 1000 by omega)) (by decide)
    · cases hz
  · cases hz
theorem IxR.or {r r' : R2} (h : IxR X r) (h' : IxR X r') : IxR X (fun x y H Q => r x y H Q ∨ r' x y H Q) := fun value slice pins s σ H x y v u Q I rx ry q hs => q.elim (fun z => h value slice pins s σ H x y v u Q I rx ry z hs) fun z => h' value slice pins s σ H x y v u Q I rx ry z hs
theorem SlR.or {r r' : V → Option Int → Option Int → Hp → VK → Prop} (h : SlR X r) (h' : SlR X r') : SlR X (fun x lo hi H Q => r x lo hi H Q ∨ r' x lo hi H Q) := fun pins s σ H x v vl vu lo hi sl Q I rx hs pl pu q => q.elim (fun z => h pins s σ H x v vl vu lo hi sl Q I rx hs pl pu z) fun z => h' pins s σ H x v vl vu lo hi sl Q I rx hs pl pu z
def opIx : D → D → Option D
 | .lst ds, .int i => atI ds i
 | .tup ds, .int i => atI ds i
 | .scr ns, .int i => (atI ns i).map .int
 | .str x, .int i => if x.length ≤ 100000 then (atI x.cps.toList i).map fun c => .str ⟨#[c]⟩ else none
 | _, _ => none
def rIxA (K : PySem.W.Frag) : R2 := fun x y H Q => rIxL K x y H Q ∨ (rIxT K x y H Q ∨ rIxS x y H Q)
theorem a9a : IxR X (rIxA X.K) := IxR.or ix_list (IxR.or ix_tup ix_str)
theorem RepL.atI {G : Hp} {vs : List V} {ds : List D} (r : RepL K G vs ds) {i : Int} {d : D} (h : L2.atI ds i = some d) : ∃ v, L2.atI vs i = some v ∧ Rep K G v d := by
 unfold L2.atI at h ⊢
 rw [r.length]
 obtain ⟨j, h1, h2⟩ := Option.bind_eq_some_iff.mp h
 obtain ⟨v, h3, h4⟩ := r.get h2
 exact ⟨v, by rw [h1]; exact h3, h4⟩
theorem b0a : Val2 K (rIxA K) opIx := fun F G H σ ρ x y d e z c rx ry hz Q p => by
  unfold opIx at hz
  split at hz
  · cases ry
    cases rx with
    | lst hx r1 =>
      obtain ⟨v, h1, h2⟩ := r1.atI hz
      exact .inl ⟨_, _, _, v, rfl, rfl, .inl (.inl (c.ex _ _ hx)), h1, pok c p h2⟩
  · cases ry
    cases rx with
    | tup hx r1 =>
      obtain ⟨v, h1, h2⟩ := r1.atI hz
      exact .inr (.inl ⟨_, _, _, v, rfl, rfl, .inl (c.ex.rd hx.rd), h1, pok c p h2⟩)
  · cases ry
    cases rx with
    | scr hx =>
      obtain ⟨n, h1, h2⟩ := Option.map_eq_some_iff.mp hz
      subst h2
      refine .inl ⟨_, _, _, .int n, rfl, rfl, Same.seq c.ex hx, ?_, pok c p (.int _)⟩
      unfold L2.atI at h1 ⊢
      rw [g8e]
      obtain ⟨j, h3, h4⟩ := Option.bind_eq_some_iff.mp h1
      rw [h3]
      show (List.map V.int _)[j]? = _
      rw [i3e, h4]
      rfl
  · split at hz
    · rename_i hl
      cases rx
      cases ry
      obtain ⟨n, h1, h2⟩ := Option.map_eq_some_iff.mp hz
      subst h2
      exact .inr (.inr ⟨_, _, _, rfl, rfl, p4b hl, h1, pok c p (.str _)⟩)
    · cases hz
  · cases hz
def SimO (K : PySem.W.Frag) (cls : Nat → Value) (W : WX) (t : TO) (f : M (Option Int)) : Prop := ∀ F ρ σ G H, CS K F G H σ ρ → ∀ Q : Option Int → Hp → Prop, wpR (f ρ) (fun o ρ' => ∀ G' H', Ex G G' → CS K F G' H' σ ρ' → Q o H') (PEx K cls W F G σ) → t σ H Q
structure QO (X : Cx) (cls : Nat → Value) (W : WX) (e : Option Expr) (f : M (Option Int)) : Prop where
 sim : ∃ t, L2.PO X e t ∧ SimO X.K cls W t f
 inert : Inert f
def oNone : M (Option Int) := mpure none
def oSome (f : M D) : M (Option Int) := mbind f fun d => lift (match d with | .int i => some (some i) | _ => none)
theorem i1b {cls : Nat → Value} {W : WX} : QO X cls W none oNone := ⟨⟨_, po_none, fun F ρ σ G H c Q w => w G H (Same.refl G) c⟩, d6a⟩
theorem i2b {cls : Nat → Value} {W : WX} {e : Expr} {f : M D} (h : QE X cls W e f) : QO X cls W (some e) (oSome f) := by
 obtain ⟨⟨t, p, s⟩, i⟩ := h
 refine ⟨⟨_, po_some p, fun F ρ σ G H c Q w => ?_⟩, a7a i fun _ => c1a⟩
 refine s F ρ σ G H c _ ((a8a w).mono (fun d ρ1 w1 v1 G1 H1 e1 c1 r1 => ?_) fun _ _ p => p)
 obtain ⟨z, ez, p⟩ := c9a w1
 cases r1 with
 | int i => cases ez; exact ⟨i, rfl, p G1 H1 e1 c1⟩
 | _ => cases ez
def cutL {α : Type} (xs : List α) (lo hi : Option Int) : List α := List.take (HT.sIx xs.length xs.length hi - HT.sIx xs.length 0 lo) (List.drop (HT.sIx xs.length 0 lo) xs)
theorem u6d (xs : List V) (lo hi : Option Int) : cutV xs lo hi = cutL xs lo hi := rfl
theorem RepL.cut {G : Hp} {vs : List V} {ds : List D} (r : RepL K G vs ds) (lo hi : Option Int) : RepL K G (cutV vs lo hi) (cutL ds lo hi) := by
 rw [u6d]
 unfold cutL
 rw [r.length]
 exact (r.drop _).take _
def opSl (d : D) (lo hi : Option Int) : Option D := match d with
 | .tup ds => some (.tup (cutL ds lo hi))
 | .str x => if x.length ≤ 100000 then some (.str (cutS x lo hi)) else none
 | _ => none
def opSlL (d : D) (lo hi : Option Int) : Option D := match d with
 | .lst ds => some (.lst (cutL ds lo hi))
 | .scr ns => some (.lst ((cutL ns lo hi).map .int))
 | _ => none
def eSl (op : D → Option Int → Option Int → Option D) (f : M D) (lo hi : M (Option Int)) : M D := mbind f fun x => mbind lo fun l => mbind hi fun h => lift (op x l h)
theorem z6c {α : Type} {xs : List α} {lo hi : Option Int} (h : HT.sIx xs.length 0 lo = 0 ∧ HT.sIx xs.length xs.length hi = xs.length) : cutL xs lo hi = xs := by
 unfold cutL
 rw [h.1, h.2, Nat.sub_zero, n0e, List.take_length]
theorem q_sl {cls : Nat → Value} {W : WX} {e : Expr} {lo hi : Option Expr} {p2 pos : Pos} {f : M D} {fl fh : M (Option Int)} (ha : QE X cls W e f) (hl : QO X cls W lo fl) (hh : QO X cls W hi fh)
    (hp : ∀ te tl th, PE X e te → L2.PO X lo tl → L2.PO X hi th → PE X (.Subscript e (.Slice lo hi none p2) pos) (tSl (fun x lo hi H Q => rSlL2 X.K x lo hi H Q ∨ rSlS x lo hi H Q) te tl th)) : QE X cls W (.Subscript e (.Slice lo hi none p2) pos) (eSl opSl f fl fh) := by
  obtain ⟨⟨ta, pa, sa⟩, ia⟩ := ha
  obtain ⟨⟨tl, pl, sl⟩, il⟩ := hl
  obtain ⟨⟨th, ph, sh⟩, ih⟩ := hh
  refine ⟨⟨_, hp _ _ _ pa pl ph, fun F ρ σ G H c Q w => ?_⟩, a7a ia fun _ => a7a il fun _ => a7a ih fun _ => c1a⟩
  refine sa F ρ σ G H c _ ((a8a w).mono (fun x ρ1 w1 v1 G1 H1 e1 c1 r1 => ?_) fun _ _ p => p)
  refine sl F ρ1 σ G1 H1 c1 _ ((a8a w1).mono (fun l ρ2 w2 G2 H2 e2 c2 => ?_) fun _ _ p => p.mono e1)
  refine sh F ρ2 σ G2 H2 c2 _ ((a8a w2).mono (fun h ρ3 w3 G3 H3 e3 c3 => ?_) fun _ _ p => p.mono (e1.trans e2))
  obtain ⟨z, ez, p⟩ := c9a w3
  have p := p.mono ((e1.trans e2).trans e3)
  have r1 := r1.mono (e2.trans e3)
  unfold opSl at ez
  split at ez
  · cases ez
    cases r1 with
    | tup hx r =>
      refine .inl ⟨_, _, ⟨rfl, .inl (c3.ex.rd hx.rd)⟩, fun hw => ?_, fun hw => p6b c3 p (r.cut l h)⟩
      rw [r.length] at hw
      rw [z6c hw] at p
      exact pok c3 p (.tup hx r)
  · split at ez
    · rename_i hz
      cases ez
      cases r1
      exact .inr ⟨_, rfl, p4b hz, pok c3 p (.str _)⟩
    · cases ez
  · cases ez
theorem j8d {cls : Nat → Value} {W : WX} {e : Expr} {lo hi : Option Expr} {p2 pos : Pos} {f : M D} {fl fh : M (Option Int)} (ha : QE X cls W e f) (hl : QO X cls W lo fl) (hh : QO X cls W hi fh)
    (hp : ∀ te tl th, PE X e te → L2.PO X lo tl → L2.PO X hi th → PE X (.Subscript e (.Slice lo hi none p2) pos) (tSl (rSlL X.K) te tl th)) : QN X cls W (.Subscript e (.Slice lo hi none p2) pos) (eSl opSlL f fl fh) := by
  obtain ⟨⟨ta, pa, sa⟩, ia⟩ := ha
  obtain ⟨⟨tl, pl, sl⟩, il⟩ := hl
  obtain ⟨⟨th, ph, sh⟩, ih⟩ := hh
  refine ⟨⟨_, hp _ _ _ pa pl ph, fun F ρ σ G H c Q w => ?_⟩, a7a ia fun _ => a7a il fun _ => a7a ih fun _ => c1a⟩
  refine sa F ρ σ G H c _ ((a8a w).mono (fun x ρ1 w1 v1 G1 H1 e1 c1 r1 => ?_) fun _ _ p => p)
  refine sl F ρ1 σ G1 H1 c1 _ ((a8a w1).mono (fun l ρ2 w2 G2 H2 e2 c2 => ?_) fun _ _ p => p.mono e1)
  refine sh F ρ2 σ G2 H2 c2 _ ((a8a w2).mono (fun h ρ3 w3 G3 H3 e3 c3 => ?_) fun _ _ p => p.mono (e1.trans e2))
  obtain ⟨z, ez, p⟩ := c9a w3
  have p := p.mono ((e1.trans e2).trans e3)
  have r1 := r1.mono (e2.trans e3)
  unfold opSlL at ez
  split at ez
  · cases ez
    cases r1 with
    | lst hx r => exact ⟨_, _, rfl, .inl (.inl (c3.ex _ _ hx)), fun q hq => k7a c3 p (r.cut l h) hq⟩
  · cases ez
    cases r1 with
    | scr hx =>
      refine ⟨_, _, rfl, Same.seq c3.ex hx, fun q hq => ?_⟩
      have r := (RepL.ints (K := X.K) (G := G3) ‹List Int›).cut l h
      refine k7a c3 p ?_ hq
      have e : cutL (List.map D.int ‹List Int›) l h = (cutL ‹List Int› l h).map D.int := by
        unfold cutL
        rw [g8e, List.map_take, List.map_drop]
      rw [← e]
      exact r
  · cases ez
end
end NT
set_option Elab.async false
set_option linter.all false
set_option maxRecDepth 100000
set_option maxHeartbeats 4000000
namespace NT
open PySem L2
mutual
def py : D → PyData
 | .non => .none | .bl b => .bool b | .int i => .int i | .str x => .str x
 | .tup ds => .tuple (pys ds) | .lst ds => .list (pys ds)
 | .scr _ => .none | .dK _ => .none | .dT _ => .none | .exn _ => .none | .raw _ => .none | .obj _ _ => .none | .hole => .none | .exo _ => .none | .fnv _ => .none
def pys : List D → List PyData
 | [] => []
 | d :: ds => py d :: pys ds
end
mutual
def fit : Nat → D → Bool
 | _, .non => true | _, .bl _ => true | _, .int _ => true | _, .str x => PyData.strOk x
 | 0, .tup _ => false | 0, .lst _ => false
 | n + 1, .tup ds => fits n ds | n + 1, .lst ds => fits n ds
 | _, .scr _ => false | _, .dK _ => false | _, .dT _ => false | _, .exn _ => false | _, .raw _ => false | _, .obj _ _ => false | _, .hole => false | _, .exo _ => false | _, .fnv _ => false
def fits : Nat → List D → Bool
 | _, [] => true
 | n, d :: ds => fit n d && fits n ds
end
mutual
def eqD : D → D → Bool
 | .non, .non => true
 | .bl a, .bl b => a == b
 | .bl a, .int j => (if a then 1 else 0) == j
 | .int i, .bl b => i == (if b then 1 else 0)
 | .int i, .int j => i == j
 | .str x, .str y => x == y
 | .tup xs, .tup ys => eqDs xs ys
 | .lst xs, .lst ys => eqDs xs ys
 | _, _ => false
def eqDs : List D → List D → Bool
 | [], [] => true
 | x :: xs, y :: ys => eqD x y && eqDs xs ys
 | _, _ => false
end
mutual
theorem z7c : ∀ (n : Nat) (d : D), fit n d = true → (py d).canLay0 = true ∧ (py d).depth ≤ n
  | n, .non, _ => ⟨rfl, n2e _⟩
  | n, .bl _, _ => ⟨rfl, n2e _⟩
  | n, .int _, _ => ⟨rfl, n2e _⟩
  | n, .str x, h => ⟨by simpa [fit, py, PyData.canLay0] using h, n2e _⟩
  | 0, .tup _, h => by simp [fit] at h
  | 0, .lst _, h => by simp [fit] at h
  | n + 1, .tup ds, h => by
    have ⟨a, b⟩ := n5a n ds (by simpa [fit] using h)
    exact ⟨by simpa [py, PyData.canLay0] using a, by simp only [py, PyData.depth]; omega⟩
  | n + 1, .lst ds, h => by
    have ⟨a, b⟩ := n5a n ds (by simpa [fit] using h)
    exact ⟨by simpa [py, PyData.canLay0] using a, by simp only [py, PyData.depth]; omega⟩
  | _, .scr _, h => by simp [fit] at h
  | _, .dK _, h => by simp [fit] at h
  | _, .dT _, h => by simp [fit] at h
  | _, .exn _, h => by simp [fit] at h
  | _, .raw _, h => by simp [fit] at h
  | _, .obj _ _, h => by simp [fit] at h
  | _, .hole, h => by simp [fit] at h
  | _, .exo _, h => by simp [fit] at h
  | _, .fnv _, h => by simp [fit] at h
theorem n5a : ∀ (n : Nat) (ds : List D), fits n ds = true → PyData.canLayAll0 (pys ds) = true ∧ PyData.depthAll (pys ds) ≤ n
  | n, [], _ => ⟨by simp [pys, PyData.canLayAll0], by simp [pys, PyData.depthAll]⟩
  | n, d :: ds, h => by
    simp only [fits, h6e] at h
    have ⟨a, b⟩ := z7c n d h.1
    have ⟨a2, b2⟩ := n5a n ds h.2
    exact ⟨by simp [pys, PyData.canLayAll0, a, a2], by simp only [pys, PyData.depthAll]; omega⟩
end
mutual
theorem m7c : ∀ (n m : Nat) (d e : D), fit n d = true → fit m e = true → PyData.eqv (py d) (py e) = eqD d e
  | n, m, d, e, hd, he => by
    cases d <;> cases e <;> first
      | rfl
      | (simp [fit] at hd; done)
      | (simp [fit] at he; done)
      | (rename_i xs ys
         cases n with
         | zero => simp [fit] at hd
         | succ n =>
           cases m with
           | zero => simp [fit] at he
           | succ m =>
             have e1 := z8c n m xs ys (by simpa [fit] using hd) (by simpa [fit] using he)
             simpa [py, PyData.eqv, eqD] using e1)
theorem z8c : ∀ (n m : Nat) (d e : List D), fits n d = true → fits m e = true → PyData.eqvAll (pys d) (pys e) = eqDs d e
  | n, m, [], [], _, _ => by simp [pys, PyData.eqvAll, eqDs]
  | n, m, [], _ :: _, _, _ => by simp [pys, PyData.eqvAll, eqDs]
  | n, m, _ :: _, [], _, _ => by simp [pys, PyData.eqvAll, eqDs]
  | n, m, d :: ds, e :: es, hd, he => by
    simp only [fits, h6e] at hd he
    simp only [pys, PyData.eqvAll, eqDs, m7c n m d e hd.1 he.1, z8c n m ds es hd.2 he.2]
end
section
variable {K : PySem.W.Frag} {X : Cx} {G H : Hp}
mutual
theorem Rep.dp (e : Ex G H) : ∀ {v : V} {d : D}, Rep K G v d → ∀ n, fit n d = true → Dp K H v (py d)
  | _, _, .non, _, _ => .non
  | _, _, .bl b, _, _ => .bl b
  | _, _, .int i, _, _ => .int i
  | _, _, .str x, _, _ => .str x
  | _, _, .tup h r, n, f => by
    cases n with
    | zero => simp [fit] at f
    | succ n => exact .tup (.inl (e.rd h.rd)) (RepL.dp e r n (by simpa [fit] using f))
  | _, _, .lst h r, n, f => by
    cases n with
    | zero => simp [fit] at f
    | succ n => exact .lst (.inl (.inl (e _ _ h))) (RepL.dp e r n (by simpa [fit] using f))
  | _, _, .scr _, n, f => by simp [fit] at f
  | _, _, .dK _ _, n, f => by simp [fit] at f
  | _, _, .dT _ _, n, f => by simp [fit] at f
  | _, _, .raw _ _, n, f => by simp [fit] at f
  | _, _, .obj _ _ _, n, f => by simp [fit] at f
  | _, _, .hole, n, f => by simp [fit] at f
  | _, _, .exo _ _, n, f => by simp [fit] at f
  | _, _, .fnv _, n, f => by simp [fit] at f
theorem RepL.dp (e : Ex G H) : ∀ {v : List V} {d : List D}, RepL K G v d → ∀ n, fits n d = true → DpAll K H v (pys d)
  | _, _, .nil, _, _ => .nil
  | _, _, .cons h r, n, f => by
    simp only [fits, h6e] at f
    exact .cons (Rep.dp e h n f.1) (RepL.dp e r n f.2)
end
theorem j0a {d : D} (h : fit 60 d = true) : SeqAt.shaped (py d) = true := by
 have ⟨a, b⟩ := z7c 60 d h
 unfold SeqAt.shaped
 rw [a, k2e]
 exact decide_eq_true (by omega)
def opEq (d e : D) : Option D := if fit 60 d && fit 60 e then some (.bl (eqD d e)) else none
def opNe (d e : D) : Option D := if fit 60 d && fit 60 e then some (.bl (!eqD d e)) else none
theorem g5a : Val2 K (rEqD K) opEq := fun F G H σ ρ x y d e z c rx ry hz Q p => by
 unfold opEq at hz
 split at hz
 ·rename_i h
  cases hz
  simp only [h6e] at h
  refine ⟨py d, py e, rx.dp c.ex 60 h.1, ry.dp c.ex 60 h.2, j0a h.1, j0a h.2, ?_⟩
  rw [m7c 60 60 d e h.1 h.2]
  exact pok c p (.bl _)
 ·cases hz
theorem l0a : Val2 K (rNeD K) opNe := fun F G H σ ρ x y d e z c rx ry hz Q p => by
 unfold opNe at hz
 split at hz
 ·rename_i h
  cases hz
  simp only [h6e] at h
  refine ⟨py d, py e, rx.dp c.ex 60 h.1, ry.dp c.ex 60 h.2, j0a h.1, j0a h.2, ?_⟩
  rw [m7c 60 60 d e h.1 h.2]
  exact pok c p (.bl _)
 ·cases hz
def rInQ (K : PySem.W.Frag) (neg : Bool) : R2 := fun x y H Q => (∃ d ds, Dp K H x d ∧ (Dp K H y (.list ds) ∨ Dp K H y (.tuple ds)) ∧ SeqAt.shaped d = true ∧ SeqAt.shaped (.list ds) = true ∧ Q (.bl (if neg then !ds.any fun z => PyData.eqv z d else ds.any fun z => PyData.eqv z d)) H) ∨
 ∃ (c : Nat) (z : Str), x = .str ⟨#[c]⟩ ∧ y = .str z ∧ Q (.bl (if neg then !decide (c ∈ z.cps.toList) else decide (c ∈ z.cps.toList))) H
theorem h6a (hu : X.A.units + 65 < cLine) : OpR X (compareOp .NotIn) (rInQ X.K true) := by
 intro pins s σ H x y v u Q I rx ry h
 rcases h with h | h
 ·obtain ⟨d, ds, hd, he, sd, se, q⟩ := h
  rcases he with he | he
  ·exact op_notInD hu pins s σ H x y v u Q I rx ry ⟨d, ds, hd, he, sd, se, q⟩
  ·obtain ⟨as, r1⟩ := Dp.reads I d x v hd rx
   obtain ⟨bs, r2⟩ := Dp.reads I (.tuple ds) y u he ry
   have hl : PyData.canLayAll0 ds = true := SeqAt.canLay_of_shaped se
   exact SeqAt.notIn_tuple_reads r2 r1 hl (SeqAt.canLay_of_shaped sd) (PyProof.Rows.room_in_shaped sd hu) ⟨.bl _, H, I, rfl, q⟩
 ·exact op_notIn_sign pins s σ H x y v u Q I rx ry h
def inD (d : D) (ds : List D) : Bool := ds.any fun z => eqD z d
def opIn (neg : Bool) (x y : D) : Option D := match y with
  | .lst ds => if fit 60 x && fits 60 ds then some (.bl (if neg then !inD x ds else inD x ds)) else none
  | .tup ds => if fit 60 x && fits 60 ds then some (.bl (if neg then !inD x ds else inD x ds)) else none
  | .str z => match x with
    | .str ⟨⟨[c]⟩⟩ => some (.bl (if neg then !decide (c ∈ z.cps.toList) else decide (c ∈ z.cps.toList)))
    | _ => none
  | _ => none
theorem z9c {n m : Nat} {d : D} (hd : fit n d = true) : ∀ {ds : List D}, fits m ds = true → ((pys ds).any fun z => PyData.eqv z (py d)) = inD d ds
  | [], _ => rfl
  | e :: ds, h => by
    simp only [fits, h6e] at h
    unfold inD
    rw [pys, l4e, l4e, m7c m n e d h.1 hd]
    rw [z9c hd h.2]
    rfl
theorem p1a (neg : Bool) : Val2 K (rInQ K neg) (opIn neg) := fun F G H σ ρ x y d e z c rx ry hz Q p => by
 unfold opIn at hz
 split at hz
 ·split at hz
  ·rename_i ds h
   cases hz
   simp only [h6e] at h
   have f61 : fit 61 (.lst ds) = true := by simpa [fit] using h.2
   refine .inl ⟨py d, pys ds, rx.dp c.ex 60 h.1, .inl (by simpa [py] using ry.dp c.ex 61 f61), j0a h.1, ?_, ?_⟩
   ·have ⟨a, b⟩ := n5a 60 ds h.2
    unfold SeqAt.shaped
    simp only [PyData.canLay0, PyData.depth, a, k2e]
    exact decide_eq_true (by omega)
   ·rw [z9c h.1 h.2]
    exact pok c p (.bl _)
  ·cases hz
 ·split at hz
  ·rename_i ds h
   cases hz
   simp only [h6e] at h
   have f61 : fit 61 (.tup ds) = true := by simpa [fit] using h.2
   refine .inl ⟨py d, pys ds, rx.dp c.ex 60 h.1, .inr (by simpa [py] using ry.dp c.ex 61 f61), j0a h.1, ?_, ?_⟩
   ·have ⟨a, b⟩ := n5a 60 ds h.2
    unfold SeqAt.shaped
    simp only [PyData.canLay0, PyData.depth, a, k2e]
    exact decide_eq_true (by omega)
   ·rw [z9c h.1 h.2]
    exact pok c p (.bl _)
  ·cases hz
 ·split at hz
  ·cases hz
   cases rx
   cases ry
   exact .inr ⟨_, _, rfl, rfl, pok c p (.bl _)⟩
  ·cases hz
 ·cases hz
def rIsA : R2 := fun x y H Q => (∃ a b : Bool, x = .bl a ∧ y = .bl b ∧ Q (.bl (decide (a = b))) H) ∨ (y = .non ∧ Q (.bl (decide (x = .non))) H)
def rIsNotA : R2 := fun x y H Q => (∃ a b : Bool, x = .bl a ∧ y = .bl b ∧ Q (.bl (!decide (a = b))) H) ∨ (y = .non ∧ Q (.bl (!decide (x = .non))) H)
theorem a9e : OpR X (compareOp .Is) rIsA := OpR.or op_isBl op_isN
def isNon : D → Bool
 | .non => true
 | _ => false
def opIs : D → D → Option D
 | .bl a, .bl b => some (.bl (a == b))
 | d, .non => some (.bl (isNon d))
 | _, _ => none
def opIsNot : D → D → Option D
 | .bl a, .bl b => some (.bl (!(a == b)))
 | d, .non => some (.bl (!isNon d))
 | _, _ => none
theorem a0d {v : V} {d : D} (r : Rep K G v d) : decide (v = .non) = isNon d := by
 cases r <;> first | rfl | exact decide_eq_false (fun z => nomatch z)
theorem b0e : Val2 K rIsA opIs := fun F G H σ ρ x y d e z c rx ry hz Q p => by
 unfold opIs at hz
 split at hz
 ·cases hz
  cases rx
  cases ry
  refine .inl ⟨_, _, rfl, rfl, ?_⟩
  have e : ∀ a b : Bool, decide (a = b) = (a == b) := by decide
  rw [e]
  exact pok c p (.bl _)
 ·cases hz
  cases ry
  refine .inr ⟨rfl, ?_⟩
  rw [a0d rx]
  exact pok c p (.bl _)
 ·cases hz
def opLen : List D → Option D
 | [.lst ds] => some (.int ds.length)
 | [.tup ds] => some (.int ds.length)
 | [.scr ns] => some (.int ns.length)
 | [.str x] => if x.length ≤ 100000 then some (.int x.length) else none
 | _ => none
theorem c0a : ValA K (fun xs H Q => ∃ x n, xs = [x] ∧ LenV K x H n ∧ Q (.int (n : Nat)) H) opLen := fun F G H σ ρ xs ds z c r hz Q p => by
  unfold opLen at hz
  split at hz
  · cases hz
    cases r with
    | cons r1 r2 =>
      cases r2
      cases r1 with
      | lst h r => exact ⟨_, _, rfl, .inl ⟨_, .inl (.inl (c.ex _ _ h)), r.length.symm⟩, pok c p (.int _)⟩
  · cases hz
    cases r with
    | cons r1 r2 =>
      cases r2
      cases r1 with
      | tup h r => exact ⟨_, _, rfl, .inr ⟨_, .inl (c.ex.rd h.rd), r.length.symm⟩, pok c p (.int _)⟩
  · cases hz
    cases r with
    | cons r1 r2 =>
      cases r2
      cases r1 with
      | scr h => exact ⟨_, _, rfl, .inl ⟨_, Same.seq c.ex h, (g8e _).symm⟩, pok c p (.int _)⟩
  · split at hz
    · rename_i hl
      cases hz
      cases r with
      | cons r1 r2 =>
        cases r2
        cases r1
        exact ⟨_, _, rfl, ⟨p4b hl, rfl⟩, pok c p (.int _)⟩
    · cases hz
  · cases hz
def opInt : List D → Option D
 | [.int i] => some (.int i)
 | [.bl b] => some (.int (if b then 1 else 0))
 | _ => none
theorem a1d : ValA K (fun xs H Q => (∃ i, xs = [.int i] ∧ Q (.int i) H) ∨ ∃ k, xs = [.bl k] ∧ Q (.int (if k = true then 1 else 0)) H) opInt := fun F G H σ ρ xs ds z c r hz Q p => by
  unfold opInt at hz
  split at hz
  · cases hz
    cases r with
    | cons r1 r2 =>
      cases r2
      cases r1
      exact .inl ⟨_, rfl, pok c p (.int _)⟩
  · cases hz
    cases r with
    | cons r1 r2 =>
      cases r2
      cases r1
      exact .inr ⟨_, rfl, pok c p (.int _)⟩
  · cases hz
def opTuple : List D → Option D
 | [.lst ds] => some (.tup ds)
 | [.tup ds] => some (.tup ds)
 | _ => none
theorem d3a : ValA K (fun xs H Q => ∃ p ys, xs = [.ref p] ∧ ((SqL K H p ys ∧ layT ys H Q) ∨ (SqT K H p ys ∧ Q (.ref p) H))) opTuple := fun F G H σ ρ xs ds z c r hz Q p => by
  unfold opTuple at hz
  split at hz
  · cases hz
    cases r with
    | cons r1 r2 =>
      cases r2
      cases r1 with
      | lst h r => exact ⟨_, _, rfl, .inl ⟨.inl (.inl (c.ex _ _ h)), p6b c p r⟩⟩
  · cases hz
    cases r with
    | cons r1 r2 =>
      cases r2
      cases r1 with
      | tup h r => exact ⟨_, _, rfl, .inr ⟨.inl (c.ex.rd h.rd), pok c p (.tup h r)⟩⟩
  · cases hz
def opList : List D → Option D
 | [.lst ds] => some (.lst ds)
 | [.tup ds] => some (.lst ds)
 | [.scr ns] => some (.lst (ns.map .int))
 | _ => none
theorem q5b : NewA K (fun xs H Q => ∃ p ys, xs = [.ref p] ∧ (SqL K H p ys ∨ SqT K H p ys) ∧ ∀ l, H l = none → Q (.ref l) (upd H l (.lst ys))) opList := fun F G H σ ρ xs ds z c r hz Q p => by
  unfold opList at hz
  split at hz
  · cases hz
    cases r with
    | cons r1 r2 =>
      cases r2
      cases r1 with
      | lst h r => exact ⟨_, _, rfl, .inl (.inl (.inl (c.ex _ _ h))), fun l hl => k7a c p r hl⟩
  · cases hz
    cases r with
    | cons r1 r2 =>
      cases r2
      cases r1 with
      | tup h r => exact ⟨_, _, rfl, .inr (.inl (c.ex.rd h.rd)), fun l hl => k7a c p r hl⟩
  · cases hz
    cases r with
    | cons r1 r2 =>
      cases r2
      cases r1 with
      | scr h => exact ⟨_, _, rfl, .inl (Same.seq c.ex h), fun l hl => k7a c p (RepL.ints _) hl⟩
  · cases hz
def opMax2 : List D → Option D
 | [.int i, .int j] => some (.int (if j > i then j else i))
 | _ => none
def opMin2 : List D → Option D
 | [.int i, .int j] => some (.int (if j < i then j else i))
 | _ => none
theorem m8c : ValA K (fun xs H Q => ∃ i j, xs = [.int i, .int j] ∧ Q (.int (if j < i then j else i)) H) opMin2 := fun F G H σ ρ xs ds z c r hz Q p => by
  unfold opMin2 at hz
  split at hz
  · cases hz
    cases r with
    | cons r1 r2 =>
      cases r2 with
      | cons r3 r4 =>
        cases r4
        cases r1
        cases r3
        exact ⟨_, _, rfl, pok c p (.int _)⟩
  · cases hz
def tyName : D → String
 | .non => "NoneType" | .bl _ => "bool" | .int _ => "int" | .str _ => "str" | .tup _ => "tuple" | .lst _ => "list" | .dK _ => "dict"
 | .scr _ => "" | .dT _ => "" | .exn _ => "" | .raw _ => "" | .obj _ _ => "" | .hole => "" | .exo _ => "" | .fnv _ => ""
def isT (T : String) (d : D) : Bool := T == tyName d || (T == "int" && tyName d == "bool")
def opIsi (T : String) (d : D) : Option D := if tyName d == "" then none else some (.bl (isT T d))
theorem u7d : ∀ a ∈ ["NoneType", "bool", "int", "str", "tuple", "list", "dict"], ∀ b ∈ ["bool", "int", "str", "tuple", "list", "dict"], kitB a b = some (b == a || (b == "int" && a == "bool")) := by decide +kernel
theorem u8d {F : Fm} {σ : St} {ρ : List Sl} (c : CS K F G H σ ρ) {v : V} {d : D} (r : Rep K G v d) (hn : tyName d ≠ "") : TyX K H v (.type (tyName d)) := by
  cases r with
  | non => exact .base .non
  | bl b => exact .base (.bl b)
  | int i => exact .base (.int i)
  | str x => exact .base (.str x)
  | tup h _ =>
    rcases h with ⟨_, h⟩ | ⟨_, o, h, _⟩
    · exact .base (.tup (c.ex _ _ h))
    · exact .fTuple (c.ex _ _ h)
  | raw _ _ => exact (hn rfl).elim
  | obj _ _ _ => exact (hn rfl).elim
  | hole => exact (hn rfl).elim
  | lst h _ => exact .base (.lst (c.ex _ _ h))
  | scr _ => exact (hn rfl).elim
  | dK h _ =>
    rcases h with h | ⟨o, h⟩
    · exact .base (.dK (c.ex _ _ h))
    · exact .fDict (c.ex _ _ h)
  | dT _ _ => exact (hn rfl).elim
  | exn => exact (hn rfl).elim
  | exo _ _ => exact (hn rfl).elim
  | fnv _ => exact (hn rfl).elim
theorem o6a (T : String) {cls : Nat → Value} {W : WX} {e a : Expr} {f : M D} (hT : T ∈ ["bool", "int", "str", "tuple", "list", "dict"]) (hp : ∀ te, PE X a te → PE X e (tCB (rIsi X.K) (tCons te (tCons (tC (.ty T)) tNil)))) (ha : QE X cls W a f) : QE X cls W e (eUn (opIsi T) f) := by
 obtain ⟨⟨ta, pa, sa⟩, ia⟩ := ha
 refine ⟨⟨_, hp _ pa, fun F ρ σ G H c Q w => ?_⟩, a7a ia fun _ => c1a⟩
 refine sa F ρ σ G H c _ ((a8a w).mono (fun d ρ1 w1 v1 G1 H1 e1 c1 r1 => ?_) fun _ _ p => p)
 obtain ⟨z, ez, p⟩ := c9a w1
 unfold opIsi at ez
 split at ez
 ·cases ez
 ·rename_i hn
  cases ez
  have hne : tyName d ≠ "" := by simpa using hn
  have hmem : tyName d ∈ ["NoneType", "bool", "int", "str", "tuple", "list", "dict"] := by
   cases d <;> first | (simp [tyName]; done) | exact (hne rfl).elim
  exact ⟨v1, .ty T, .type (tyName d), .type T, isT T d, rfl, .ty T, u8d c1 r1 hne, kit_ty (u7d _ hmem _ hT), pok c1 (p.mono e1) (.bl _)⟩
def opLstRev : D → Option D
 | .lst ds => some (.lst ds.reverse)
 | _ => none
theorem j9d {cls : Nat → Value} {W : WX} {e a : Expr} {f : M D} (hp : ∀ te, PE X a te → PE X e (RV.tLstRev X.K te)) (ha : QE X cls W a f) : QN X cls W e (eUn opLstRev f) := by
  obtain ⟨⟨ta, pa, sa⟩, ia⟩ := ha
  refine ⟨⟨_, hp _ pa, fun F ρ σ G H c Q w => ?_⟩, a7a ia fun _ => c1a⟩
  refine sa F ρ σ G H c _ ((a8a w).mono (fun d ρ1 w1 v1 G1 H1 e1 c1 r1 => ?_) fun _ _ p => p)
  obtain ⟨z, ez, p⟩ := c9a w1
  cases r1 with
  | lst h r =>
    cases ez
    exact ⟨_, _, rfl, .inl (.inl (c1.ex _ _ h)), fun q hq => k7a c1 (p.mono e1) r.reverse hq⟩
  | _ => cases ez
def opSum : List D → Option D
 | [.lst ds] => (intsOf ds).map fun ns => .int ns.sum
 | _ => none
end
def sRaise (c : Nat) : MS := fun ρ => .ex c ρ
theorem u9d {X : Cx} {cls : Nat → Value} {W : WX} {st : Stmt} (c : Nat) (hp : PS X st (fun _ σ H => W (cls c) none σ H)) : QS X cls W st (sRaise c) := ⟨⟨_, hp, fun F ρ σ G H cs E w => w σ G H (Same.refl G) cs⟩⟩
end NT
set_option Elab.async false
set_option linter.all false
set_option maxRecDepth 100000
set_option maxHeartbeats 4000000
namespace NT
open PySem L2
section
variable {X : Cx} {cls : Nat → Value} {W : WX} {e a b : Expr} {es : List Expr} {f g : M D} {tf : M Bool} {pos : Pos} {sf sg : MS} {st : Stmt} {sts : List Stmt}
theorem q0d {K : PySem.W.Frag} {te : TE} (h : SimE K cls W te f) : SimT K cls W (tB te) (tVal f) := fun F ρ σ G H c Q w => m2c h F ρ σ G H c Q w
theorem q1d (hu : X.A.units + 1 < cLine) (ha : QE X cls W a f) (hb : QE X cls W b g) (hm : behindInMarks .In b = false := by rfl) : QT X cls W (.Compare a [.In] [b] pos) (tVal (eBin (opInD false) f g)) := by
 obtain ⟨⟨ta, pa, sa⟩, ia⟩ := ha
 obtain ⟨⟨tb, pb, sb⟩, ib⟩ := hb
 exact ⟨⟨_, pt_cmp (pc_din hu pa pb) hm, q0d (t4d sa sb)⟩, k9a (i0a ia ib)⟩
theorem q0a (hu : X.A.units + 1 < cLine) (ha : QE X cls W a f) (hb : QE X cls W b g) (hm : behindInMarks .NotIn b = false := by rfl) : QT X cls W (.Compare a [.NotIn] [b] pos) (tVal (eBin (opInD true) f g)) := by
 obtain ⟨⟨ta, pa, sa⟩, ia⟩ := ha
 obtain ⟨⟨tb, pb, sb⟩, ib⟩ := hb
 exact ⟨⟨_, pt_cmp (pc_dnotin hu pa pb) hm, q0d (j3d sa sb)⟩, k9a (i0a ia ib)⟩
def signs (x : Str) : List D := x.cps.toList.map fun c => D.str ⟨#[c]⟩
def iSign (f : M D) : M (List D) := mbind f fun d => lift (match d with | .str x => some (signs x) | _ => none)
theorem a2d {K : PySem.W.Frag} {G : Hp} {x : Str} : Walks K (Its x) G (signs x) := fun F G1 H1 σ ρ e1 c1 => by
  refine ⟨fun i d hd => ?_, ?_⟩
  · unfold signs at hd
    rw [i3e] at hd
    cases h : x.cps.toList[i]? with
    | none => rw [h] at hd; cases hd
    | some k =>
      rw [h] at hd
      cases hd
      have hk : x.cps[i]? = some k := by simpa using h
      obtain ⟨hi, _⟩ := Array.getElem?_eq_some_iff.mp hk
      refine ⟨hi, fun v H2 ⟨e, c, hc, hv⟩ => ?_⟩
      subst e
      subst hv
      rw [hk] at hc
      cases hc
      exact ⟨G1, Same.refl G1, c1, .str _⟩
  · show x.cps.size ≤ _
    unfold signs
    simp
theorem q2d {tg : Expr} (ha : QE X cls W e f) : QI X cls W tg e (iSign f) := by
  obtain ⟨⟨t, p, s⟩, ia⟩ := ha
  refine ⟨⟨_, pi_str p, fun F ρ σ G H c Q w => ?_⟩, a7a ia fun _ => c1a⟩
  refine s F ρ σ G H c _ ((a8a w).mono (fun d ρ1 w1 v1 G1 H1 e1 c1 r1 => ?_) fun _ _ p => p)
  obtain ⟨ds, ed, p⟩ := c9a w1
  cases r1 with
  | str x =>
    cases ed
    exact ⟨x, rfl, p _ G1 H1 e1 c1 a2d⟩
  | _ => cases ed
end
structure Cal (P : Program) (w : World) (K : PySem.W.Frag) (mg : Str → Option Value) (base : Heap) (cls : Nat → Value) (x : Str) (ps : List Str) (k np ns : Nat) (den : MS) (ds : List Value) : Prop where
 ex : ∃ f fd, FnOk P w K mg base (L2.CX P w) k f fd ps (spD K cls np ns den) ∧ mg x = some (.ref f) ∧ PySem.W.keepIn K (.ref f) = true ∧ Binds K fd ps ds
structure Cst (mg : Str → Option Value) (x : Str) (v : V) : Prop where
 ex : ∃ u, mg x = some u ∧ RelV v u
structure Exn (K : PySem.W.Frag) (mg : Str → Option Value) (cls : Nat → Value) (x : Str) (c : Nat) : Prop where
 ex : ∃ C, cls c = .ref C ∧ mg x = some (.ref C) ∧ PySem.W.excIn K C [.type "ValueError", .type "Exception", .type "BaseException", .type "object"] "ValueError.__new__" = true ∧ PySem.W.keepIn K (.ref C) = true ∧
  PySem.W.subIn K (.ref C) (.type "BaseException") = some true ∧ PySem.W.typeIn K (.ref C) = some (.type "type")
section
variable {X : Cx} {cls : Nat → Value} {W : WX} {e a b : Expr} {es : List Expr} {f g : M D} {tf : M Bool} {p pos : Pos} {sf sg : MS} {st : Stmt} {sts : List Stmt} {x : Str} {ps : List Str} {k j np ns : Nat} {den : MS} {ds : List Value}
theorem m9c {dvs : List V} {ta : TA} (C : Cal X.prog X.w X.K X.mg X.base cls x ps k np ns den ds) (hr : Room j X.A) (hj : k ≤ j) (tk : Takes X W) (hd : Vals dvs ds) (ha : PA X (e :: es) ta) (hg : Gl X x) (hdb : (x == ("__debug__" : Str)) = false) (he : starEach (e :: es) X.env = (false, eval e X.env) :: starEach es X.env) (hpl : (backTo pos (starEach es X.env)).any (·.1) = false) :
  PE X (.Call (.Name x p) (e :: es) [] pos) (tCallSD (spD X.K cls np ns den) dvs (WE W) ta) := by
 obtain ⟨f, fd, F, hm, hk, hb⟩ := C.ex
 exact pe_callSD F (hr.mono hj) hg hm hk hb hd (fun σ => passAt tk σ) ha hdb he hpl
theorem d1a {fa : M (List D)} (C : Cal X.prog X.w X.K X.mg X.base cls x ps k np ns den []) (hr : Room j X.A) (hj : k ≤ j) (tk : Takes X W) (ha : QA X cls W (e :: es) fa) (hg : Gl X x := by rfl) (hdb : (x == ("__debug__" : Str)) = false := by decide) (he : starEach (e :: es) X.env = (false, eval e X.env) :: starEach es X.env := by rfl) (hpl : (backTo pos (starEach es X.env)).any (·.1) = false := by rfl) :
  QE X cls W (.Call (.Name x p) (e :: es) [] pos) (eCall np ns den [] fa) := a8e (dvs := []) (fun _ pa => m9c C hr hj tk .nil pa hg hdb he hpl) (fun _ => .nil) ha
theorem j5a {fa : M (List D)} (C : Cal X.prog X.w X.K X.mg X.base cls x ps k np ns den []) (hr : Room j X.A) (hj : k ≤ j) (tk : Takes X W) (ha : QA X cls W (e :: es) fa) (hg : Gl X x := by rfl) (hdb : (x == ("__debug__" : Str)) = false := by decide) (he : starEach (e :: es) X.env = (false, eval e X.env) :: starEach es X.env := by rfl) (hpl : (backTo pos (starEach es X.env)).any (·.1) = false := by rfl) :
  QN X cls W (.Call (.Name x p) (e :: es) [] pos) (eCallN np ns den [] fa) := t7d (dvs := []) (fun _ pa => m9c C hr hj tk .nil pa hg hdb he hpl) (fun _ => .nil) ha
theorem e6a {i : Nat} {fa : M (List D × List D)} (C : Cal X.prog X.w X.K X.mg X.base cls x ps k np ns den []) (hr : Room j X.A) (hj : k ≤ j) (tk : Takes X W) (ha : QAO X cls W i (e :: es) fa) (hg : Gl X x := by rfl) (hdb : (x == ("__debug__" : Str)) = false := by decide) (he : starEach (e :: es) X.env = (false, eval e X.env) :: starEach es X.env := by rfl) (hpl : (backTo pos (starEach es X.env)).any (·.1) = false := by rfl) :
  QE X cls W (.Call (.Name x p) (e :: es) [] pos) (eCallO np ns den i fa) := t9d (fun _ pa => m9c C hr hj tk .nil pa hg hdb he hpl) ha
theorem h4c {i : Nat} {fa : M (List D × List D)} (C : Cal X.prog X.w X.K X.mg X.base cls x ps k np ns den []) (hr : Room j X.A) (hj : k ≤ j) (tk : Takes X W) (ha : QAO X cls W i (e :: es) fa) (hg : Gl X x := by rfl) (hdb : (x == ("__debug__" : Str)) = false := by decide) (he : starEach (e :: es) X.env = (false, eval e X.env) :: starEach es X.env := by rfl) (hpl : (backTo pos (starEach es X.env)).any (·.1) = false := by rfl) :
  QN X cls W (.Call (.Name x p) (e :: es) [] pos) (eCallON np ns den i fa) := j5d (fun _ pa => m9c C hr hj tk .nil pa hg hdb he hpl) ha
theorem l5a {v : V} {d : D} (C : Cst X.mg x v) (r : ∀ G, Rep X.K G v d) (hg : Gl X x := by rfl) (hdb : (x == ("__debug__" : Str)) = false := by decide) : QE X cls W (.Name x pos) (eC d) := by
 obtain ⟨u, h1, h2⟩ := C.ex
 exact q_c (pe_glob hg h1 h2 hdb) r
theorem z3b {c : Nat} {m : Str} {i : Nat} {p2 pos2 : Pos} (C : Exn X.K X.mg cls x c) (hc : X.calm = true) (tk : Takes X W) (hg : Gl X x := by rfl) (hdb : (x == ("__debug__" : Str)) = false := by decide) : QS X cls W (.Raise (some (.Call (.Name x p) [.Constant (.str m) i p2] [] pos2)) none pos) (sRaise c) := by
 obtain ⟨A, h0, h1, h2, h3, h4, h5⟩ := C.ex
 refine u9d c ?_
 have hp := ps_raise (pos := pos) hc tk (pmk_own (p := p) (p2 := p2) (pos := pos2) (m := m) (j := i) PySem.F.excBase_ValueError h2 h1 h3 (raises_own h4 h5) hg hdb)
 rw [h0]
 exact hp
end
structure Bt (mg : Str → Option Value) : Prop where
 len : mg "len" = none
 isinstance : mg "isinstance" = none
 int : mg "int" = none
 bool : mg "bool" = none
 str : mg "str" = none
 tuple : mg "tuple" = none
 list : mg "list" = none
 dict : mg "dict" = none
 range : mg "range" = none
 reversed : mg "reversed" = none
 sum : mg "sum" = none
 max : mg "max" = none
 min : mg "min" = none
 sorted : mg "sorted" = none
 zip : mg "zip" = none
 enumerate : mg "enumerate" = none
 set : mg "set" = none
theorem hu65 {A : Around} {k : Nat} (hr : Room k A) : A.units + 65 < cLine := by
 have := hr.un
 omega
theorem no_exc {P : Program} {w : World} {l : List Env} {H : Hp} {s : Shared} {e : Value} {s' : Shared} (h : L2.CX P w l H s (fun _ _ _ => False) e s') : False := by
 obtain ⟨_, _, _, _, _, _, _, _, _, _, _, _, z⟩ := h
 exact z
end NT
set_option Elab.async false
set_option linter.all false
set_option maxRecDepth 100000
set_option maxHeartbeats 4000000
namespace NT
open PySem L2 PySem.W
section
variable {prog : Program} {w : World} {A : Around} {E : Value → Shared → Prop} {s : Shared}
theorem u4c {it : Addr} {T : String} {o : PySem.Obj} {items : Array Value} {n : Nat} {Q : Value → Shared → Prop} {ds : List PyData} (hT : T = "list" ∨ T = "tuple") (ho : s.heap.get? it = some o) (hc : o.cls = .type T) (hd : o.data = .seq items n) (hsz : items.size ≤ sizeLine)
  (he : ∀ h' : Heap, (∀ b o', s.heap.get? b = some o' → h'.get? b = some o') → EachIs (fun v d => ∃ as, Reads h' v d as) items.toList ds) (hal : AllAlike ds) (hk : Sortable ds) (hu : ∀ d, d ∈ ds → A.in1.in1.units + d.depth < cLine)
  (h : ∀ (h1 h' : Heap) (m : Nat) (out : List Value), (∀ b o', s.heap.get? b = some o' → h1.get? b = some o') → (∀ b o', h1.get? b = some o' → h'.get? b = some o') → KeyedOut false ds items.toList out → h'.get? h1.objs.size = some (PyProof.Rows.seqObj "list" out.toArray m) → Q (.ref h1.objs.size) { s with heap := h' }) :
  wpAny (model prog w) A (call (.builtin "sorted") [.ref it]) Q E s := by
 refine Calls.call_function_entry PyProof.Rows.kind_sorted PyProof.Rows.plain_sorted PyProof.Rows.entry_sorted (PyProof.Rows.args_sorted1 _) ?_
 unfold Builtin.«sorted»
 refine wpAny_bind (m := checkCount "sorted" 1 1 _) (wpAny_pure ?_)
 refine wpAny_bind (wpAny_collect_seq it hT ho hc hd (fun h1 k1 => ?_) hsz)
 have hl : items.toList.length ≤ sizeLine := by rw [Array.length_toList]; exact hsz
 refine wpAny_bind (wpAny_newList ?_ hl)
 have hoL : (h1.push (PyProof.Rows.seqObj "list" items.toList.toArray 0)).get? h1.objs.size = some (PyProof.Rows.seqObj "list" items.toList.toArray 0) := Heap.get?_push_size _ rfl
 have k2 : ∀ b o', h1.get? b = some o' → (h1.push (PyProof.Rows.seqObj "list" items.toList.toArray 0)).get? b = some o' := fun b o' e => Heap.get?_push_of_some _ e
 have lt1 : ∀ b o', h1.get? b = some o' → b ≠ h1.objs.size := fun b o' e => Nat.ne_of_lt (Heap.lt_size e)
 have k3 : ∀ b o', h1.get? b = some o' → (sortingHeap (h1.push (PyProof.Rows.seqObj "list" items.toList.toArray 0)) h1.objs.size items.toList).get? b = some o' := fun b o' e => sortingHeap_old (lt1 b o' e) (k2 b o' e)
 have e3 := he _ fun b o' e => k3 b o' (k1 b o' e)
 have S := SortsAt.data (prog := prog) (w := w) (A := A.in1.in1) (s := { s with heap := sortingHeap (h1.push (PyProof.Rows.seqObj "list" items.toList.toArray 0)) h1.objs.size items.toList }) e3 hal hk hu
 refine wpAny_bind (wpAny_holding (wpAny_call_entry PyProof.Rows.slot_list_sort ⟨_, hoL, rfl⟩ PyProof.Rows.entry_list_sort ?b (PyProof.Rows.args_list_sort _)))
 case b =>
  refine list_sort_vals (s := { s with heap := h1.push (PyProof.Rows.seqObj "list" items.toList.toArray 0) }) hoL S hl ⟨_, rfl, wpAny_pure ⟨_, rfl, ?_⟩⟩
  obtain ⟨m, hm⟩ : ∃ m, (PyProof.Rows.sortedHeap (h1.push (PyProof.Rows.seqObj "list" items.toList.toArray 0)) h1.objs.size items.toList (sortVals (dataKind (sortingHeap (h1.push (PyProof.Rows.seqObj "list" items.toList.toArray 0)) h1.objs.size items.toList) ds) false items.toList items.toList).toArray).get? h1.objs.size = some (PyProof.Rows.seqObj "list" (sortVals (dataKind (sortingHeap (h1.push (PyProof.Rows.seqObj "list" items.toList.toArray 0)) h1.objs.size items.toList) ds) false items.toList items.toList).toArray m) := PyProof.Rows.sortedHeap_at hoL
  refine h h1 _ m _ k1 (fun b o' e => ?_) ⟨_, _, hal, rfl, e3⟩ hm
  rw [PyProof.Rows.sortedHeap_old (lt1 b o' e) (Heap.lt_size (k2 b o' e))]
  exact k2 b o' e
end
theorem s3a {h : Heap} : ∀ {us : List Value} {ds : List PyData} {as : List Addr}, ReadsAll h us ds as → EachIs (fun v d => ∃ as, Reads h v d as) us ds
 | _, _, _, .nil => .nil
 | _, _, _, .cons r rs => .cons ⟨_, r⟩ (s3a rs)
theorem k0d {us : List Value} : ∀ {xs : List V} {ds : List PyData}, Vals xs us → xs.length = ds.length → EachIs (fun u (p : V × PyData) => RelV p.1 u) us (xs.zip ds) := by
  induction us with
  | nil =>
    intro xs ds r hl
    cases r
    exact .nil
  | cons u us ih =>
    intro xs ds r hl
    cases r with
    | cons r1 r2 =>
      cases ds with
      | nil => cases hl
      | cons d ds => exact .cons r1 (ih r2 (by simpa using hl))
theorem z1a : ∀ {us : List Value} {ps : List (V × PyData)}, EachIs (fun u (p : V × PyData) => RelV p.1 u) us ps → Vals (ps.map (·.1)) us
 | _, _, .nil => .nil
 | _, _, .cons r rs => .cons r (z1a rs)
def rSortedD (K : PySem.W.Frag) : List V → Hp → VK → Prop := fun vs H Q => ∃ (a : Addr) (xs : List V) (ds : List PyData), vs = [.ref a] ∧ (SqL K H a xs ∨ SqT K H a xs) ∧ DpAll K H xs ds ∧ xs.length = ds.length ∧ AllAlike ds ∧ Sortable ds ∧ (∀ d ∈ ds, d.depth ≤ 60) ∧
 ∀ l, H l = none → Q (.ref l) (upd H l (.lst (((xs.zip ds).mergeSort (dataLe false (·.2))).map (·.1))))
theorem x4a {X : Cx} (hu : X.A.units + 65 < cLine) : CallR X (.builtin "sorted") (rSortedD X.K) := by
 intro pins s σ H vs us Q I r h
 obtain ⟨a, xs, ds, rfl, hq, hd, hl, hal, hk, hdep, q⟩ := h
 obtain ⟨u, rfl, ru⟩ := vals1 r
 obtain rfl : u = Value.ref a := ru
 have fin : ∀ (its : List Value) (T : String) (o : PySem.Obj) (n : Nat), (T = "list" ∨ T = "tuple") → s.heap.get? a = some o → o.cls = .type T → o.data = .seq its.toArray n → Vals xs its → xs.length ≤ sizeLine → wpAny (model X.prog X.w) X.A (call (.builtin "sorted") [.ref a]) (EP X pins σ Q) X.xe s := fun its T o n hT ho hc hdt rv hz => by
  have hlen : its.length = xs.length := rv.length.symm
  refine u4c (ds := ds) hT ho hc hdt (by rw [List.size_toArray, hlen]; exact hz) (fun h' k => ?_) hal hk (fun d m => ?_) fun h1 h' m out k1 k2 ko hg => ?_
  ·have I1 : Inv X pins σ H { s with heap := h' } := I.kept (t' := s.toks) k
   obtain ⟨as, ra⟩ := Dp.readsAll I1 ds xs its hd rv
   exact s3a ra
  ·have := hdep d m
   have e : X.A.in1.in1.units = X.A.units + 2 := rfl
   omega
  ·have I1 : Inv X pins σ H { s with heap := h1 } := I.kept (t' := s.toks) k1
   have em : (xs.zip ds).map (·.2) = ds := List.map_snd_zip (by omega)
   have ek : EachIs (fun u (p : V × PyData) => RelV p.1 u) out ((xs.zip ds).mergeSort (dataLe false (·.2))) := keyedOut_each (bs := xs.zip ds) (·.2) (by rw [em]; exact ko) (k0d rv hl)
   have hv := z1a ek
   have hz2 : (((xs.zip ds).mergeSort (dataLe false (·.2))).map (·.1)).length ≤ sizeLine := by
    rw [g8e, List.length_mergeSort, List.length_zip]
    omega
   have I2 : Inv X pins σ (upd H h1.objs.size (.lst (((xs.zip ds).mergeSort (dataLe false (·.2))).map (·.1)))) { s with heap := h' } :=
    I1.laid (t' := s.toks) k2 (j0e _) (show ObjOk X.prog X.w _ _ _ (.lst _) from ⟨hz2, out, m, hv, hg⟩)
   exact ⟨.ref h1.objs.size, _, I2, rfl, q _ (I1.hok.fresh (j0e _))⟩
 rcases hq with hq | hq
 ·obtain ⟨its, r', pl, hz⟩ := I.list hq
  obtain ⟨o, ho, hc, n, hd⟩ := pl.isList
  exact fin its "list" o n (.inl rfl) ho hc hd r' hz
 ·obtain ⟨its, r', pl, hz⟩ := I.tuple hq
  obtain ⟨o, ho, hc, n, hd⟩ := pl
  exact fin its "tuple" o n (.inr rfl) ho hc hd r' hz
def leD (a b : D) : Bool := dataLe false py a b
def sortD (ds : List D) : List D := ds.mergeSort leD
def alikes (ds : List D) : Bool := ds.all fun a => ds.all fun b => alike (py a) (py b)
def tupD : D → Bool
 | .tup (_ :: _) => true
 | _ => false
def oneD : D → Bool
 | .bl _ => true | .int _ => true | .str _ => true | .lst _ => true
 | _ => false
def opSorted : List D → Option D
 | [.lst ds] => if fits 60 ds && (alikes ds && (ds.all tupD || ds.all oneD)) then some (.lst (sortD ds)) else none
 | [.tup ds] => if fits 60 ds && (alikes ds && (ds.all tupD || ds.all oneD)) then some (.lst (sortD ds)) else none
 | _ => none
theorem i3b : ∀ {ds : List D}, pys ds = ds.map py
 | [] => rfl
 | d :: ds => by rw [pys, h3e, i3b]
theorem RepL.zip {K : PySem.W.Frag} {G : Hp} : ∀ {vs : List V} {ds : List D}, RepL K G vs ds → ∀ p ∈ vs.zip ds, Rep K G p.1 p.2
  | _, _, .nil, p, h => by cases h
  | _, _, .cons r rs, p, h => by
    rw [List.zip_cons_cons] at h
    rcases List.mem_cons.mp h with h | h
    · subst h
      exact r
    · exact rs.zip p h
theorem RepL.merge {K : PySem.W.Frag} {G : Hp} {vs : List V} {ds : List D} (r : RepL K G vs ds) : RepL K G (((vs.zip (ds.map py)).mergeSort (dataLe false (·.2))).map (·.1)) (sortD ds) := by
 have e1 : vs.zip (ds.map py) = (vs.zip ds).map fun p => (p.1, py p.2) := by
  rw [List.zip_map_right]
  rfl
 have e2 : ds = (vs.zip ds).map (·.2) := (List.map_snd_zip (by rw [r.length]; exact j0e _)).symm
 have m1 : ((vs.zip ds).map fun p => (p.1, py p.2)).mergeSort (dataLe false (·.2)) = ((vs.zip ds).mergeSort fun a b => leD a.2 b.2).map fun p => (p.1, py p.2) := by
  refine (List.map_mergeSort (s := dataLe false (fun x : V × PyData => x.2)) ?_).symm
  intro a _ b _
  rfl
 have m2 : sortD ds = ((vs.zip ds).mergeSort fun a b => leD a.2 b.2).map (·.2) := by
  unfold sortD
  conv => lhs; rw [e2]
  refine (List.map_mergeSort (s := leD) ?_).symm
  intro a _ b _
  rfl
 rw [e1, m1, m2, i6e]
 have hm : ∀ p ∈ (vs.zip ds).mergeSort (fun a b => leD a.2 b.2), Rep K G p.1 p.2 := fun p hp => by
  rw [List.mem_mergeSort] at hp
  exact r.zip p hp
 generalize (vs.zip ds).mergeSort (fun a b => leD a.2 b.2) = L at hm
 induction L with
 | nil => exact .nil
 | cons p L ih => exact .cons (hm p h1e) (ih fun q hq => hm q (h2e _ hq))
theorem z4b : ∀ {ds : List PyData} {d : PyData}, d ∈ ds → d.depth ≤ PyData.depthAll ds
  | x :: ds, d, h => by
    rw [PyData.depthAll]
    rcases List.mem_cons.mp h with h | h
    · subst h
      omega
    · have := z4b h
      omega
theorem x5a {K : PySem.W.Frag} : NewA K (rSortedD K) opSorted := fun F G H σ ρ xs ds z c r hz Q p => by
  have go : ∀ (a : Addr) (vs : List V) (es : List D), (SqL K H a vs ∨ SqT K H a vs) → RepL K G vs es → (fits 60 es && (alikes es && (es.all tupD || es.all oneD))) = true → PNw K F G σ Q (.lst (sortD es)) ρ → rSortedD K [.ref a] H Q := fun a vs es hq rr hb pp => by
    simp only [h6e, Bool.or_eq_true] at hb
    obtain ⟨h1, h2, h3⟩ := hb
    refine ⟨a, vs, pys es, rfl, hq, rr.dp c.ex 60 h1, ?_, ?_, ?_, ?_, fun l hl => ?_⟩
    · rw [i3b, g8e, rr.length]
    · rw [i3b]
      intro d hd d' hd'
      obtain ⟨e, he, rfl⟩ := List.mem_map.mp hd
      obtain ⟨e', he', rfl⟩ := List.mem_map.mp hd'
      unfold alikes at h2
      rw [i2e] at h2
      have := h2 e he
      rw [i2e] at this
      exact this e' he'
    · rw [i3b]
      rcases h3 with h3 | h3 <;> rw [i2e] at h3
      · refine .inl fun d hd => ?_
        obtain ⟨e, he, rfl⟩ := List.mem_map.mp hd
        have := h3 e he
        unfold tupD at this
        split at this
        · rw [py, pys]
          exact ⟨_, _, rfl⟩
        · cases this
      · refine .inr fun d hd => ?_
        obtain ⟨e, he, rfl⟩ := List.mem_map.mp hd
        have := h3 e he
        cases e <;> first | (cases this; done) | (constructor <;> simp [py])
    · have := (n5a 60 es h1).2
      intro d hd
      exact l1e (z4b hd) this
    · rw [i3b]
      exact k7a c pp rr.merge hl
  unfold opSorted at hz
  split at hz
  · split at hz
    · rename_i hb
      cases hz
      cases r with
      | cons r1 r2 =>
        cases r2
        cases r1 with
        | lst h r => exact go _ _ _ (.inl (.inl (.inl (c.ex _ _ h)))) r hb p
    · cases hz
  · split at hz
    · rename_i hb
      cases hz
      cases r with
      | cons r1 r2 =>
        cases r2
        cases r1 with
        | tup h r => exact go _ _ _ (.inr (.inl (c.ex.rd h.rd))) r hb p
    · cases hz
  · cases hz
end NT
set_option Elab.async false
set_option linter.all false
set_option maxRecDepth 100000
set_option maxHeartbeats 4000000
namespace NT
open PySem L2
def hand : List ((Nat → Option Bool) × MS) → Nat → MS
  | [], c => fun ρ => .ex c ρ
  | (t, g) :: r, c => fun ρ => match t c with
    | some true => match g ρ with
      | .ex _ _ => .bad
      | o => o
    | some false => hand r c ρ
    | none => .bad
def sTry (hs : List ((Nat → Option Bool) × MS)) (f : MS) : MS := fun ρ => match f ρ with
 | .ex c ρ' => hand hs c ρ'
 | o => o
def tOfS (K : PySem.W.Frag) (cls : Nat → Value) (W : WX) (f : MS) : TS := fun E σ H => ∃ F ρ G, CS K F G H σ ρ ∧ PO K cls W F G E (f ρ)
section
variable {X : Cx} {cls : Nat → Value} {W : WX}
inductive QH (X : Cx) (cls : Nat → Value) : List ExceptHandler → List ((Nat → Option Bool) × MS) → Prop
 | nil : QH X cls [] []
 | cons {x : Str} {cv : Value} {t : Nat → Option Bool} {g : MS} {b₀ : Stmt} {suite : List Stmt} {np pos' : Pos} {hds : List ExceptHandler} {hs : List ((Nat → Option Bool) × MS)} (hc : Names X x cv) (ht : ∀ c b, t c = some b → PySem.W.exmOne X.K (cls c) cv = some b)
   (hsu : ∀ (a : Addr) (oe : PySem.Obj) (pn : List (Addr × PySem.Obj)), QB (X.suite a ((a, oe) :: pn)) cls noW (b₀ :: suite) g) (r : QH X cls hds hs) :
   QH X cls (.ExceptHandler (some (.Name x np)) none (b₀ :: suite) pos' :: hds) ((t, g) :: hs)
theorem PO.noW {K : PySem.W.Frag} {F : Fm} {G : Hp} {E : Ends} {o : O} (h : PO K cls W F G E o) (hn : ∀ c ρ, o ≠ .ex c ρ) : PO K cls NT.noW F G E o := by
 cases o with
 | ex c ρ => exact absurd rfl (hn c ρ)
 | _ => exact h
end
end NT
set_option Elab.async false
set_option linter.all false
set_option maxRecDepth 100000
set_option maxHeartbeats 4000000
namespace NT
open PySem L2
def wipeO (i : Nat) : O → O
 | .nx ρ => if isFree ρ[i]? then .nx (ρ.set i .no) else .bad
 | .rt d ρ => if isFree ρ[i]? then .rt d (ρ.set i .no) else .bad
 | _ => .bad
def sTryAs (i : Nat) (t : Nat → Option Bool) (g : Nat → Addr → MS) (f : MS) : MS := fun ρ => match f ρ with
  | .ex c ρ' => match t c with
    | some true => if isFree ρ'[i]? then wipeO i (g c 0 (ρ'.set i (.val (.exn 0)))) else .bad
    | some false => .ex c ρ'
    | none => .bad
  | o => o
section
variable {X : Cx} {cls : Nat → Value} {W : WX} {K : PySem.W.Frag} {F : Fm} {G H : Hp} {σ : St} {ρ : List Sl}
theorem i4b {s : Option Sl} (h : isFree s = true) : notBor s = true := by
 cases s with
 | none => cases h
 | some s => cases s <;> first | rfl | cases h
theorem CS.blank (c : CS K F G H σ ρ) {i : Nat} (hb : isFree ρ[i]? = true) (x : Option V) : CS K F G H (σ.set i x) (ρ.set i .no) :=
 match x with
 | none => c.clear hb
 | some v => c.setAny (s := .no) (v := v) (i4b hb) (fun e h => by cases h) (fun e h => by cases h) (fun e h => by cases h)
end
def rIsET (K : PySem.W.Frag) (D a : Addr) : List V → Hp → VK → Prop := fun xs H Q => ∃ (tp : Addr) (cs : List V) (us : List Value) (b : Bool), xs = [.ref a, .ref tp] ∧ H tp = some (.tup cs) ∧ Paired ClsV cs us ∧ PySem.W.kitAny K (.ref D) us = some b ∧ Q (.bl b) H
def eIsE (a : Addr) (i : Nat) (b : Bool) : M D := fun ρ => match ρ[i]? with
 | some (.val (.exn a')) => if a' = a then .ok (.bl b) ρ else .bad
 | _ => .bad
section
variable {X : Cx} {cls : Nat → Value} {W : WX}
end
def tbl : List (Nat × Bool) → Nat → Option Bool
 | [], _ => none
 | (n, b) :: r, c => if c = n then some b else tbl r c
def tblB (l : List (Nat × Bool)) (c : Nat) : Bool := (tbl l c).getD false
def tAll (P : Nat → Bool → Prop) : List (Nat × Bool) → Prop
 | [] => True
 | (n, b) :: r => P n b ∧ tAll P r
def clsV : Value → V
 | .ref a => .ref a
 | _ => .non
section
variable {X : Cx} {cls : Nat → Value} {W : WX} {x : Str} {n : Nat}
def IsX (K : PySem.W.Frag) (cls : Nat → Value) (c : Nat) : Prop := ∃ D, cls c = .ref D ∧ ExcC K D
end
def eCall0 (ns : Nat) (den : MS) : M D := fun ρ => match den (List.replicate ns .no) with
 | .rt d _ => .ok d ρ
 | .rtN d _ => .ok d ρ
 | .nx _ => .ok .non ρ
 | _ => .bad
def eCall0N (ns : Nat) (den : MS) : M D := fun ρ => match den (List.replicate ns .no) with
 | .rtN d _ => .ok d ρ
 | _ => .bad
section
variable {X : Cx} {cls : Nat → Value} {W : WX} {x : Str} {p pos : Pos} {k j ns : Nat} {den : MS}
end
end NT
set_option Elab.async false
set_option linter.all false
set_option maxRecDepth 100000
set_option maxHeartbeats 4000000
namespace NT
open PySem L2
class KR (α β : Type) where
 run : α → List Sl → R β
def bnd {α β : Type} (r : R α) [k : KR α β] : R β := match r with
 | .ok a ρ => k.run a ρ
 | .ex c ρ => .ex c ρ
 | .bad => .bad
class KO (α : Type) where
 run : α → List Sl → O
def bndO {α : Type} (r : R α) [k : KO α] : O := match r with
 | .ok a ρ => k.run a ρ
 | .ex c ρ => .ex c ρ
 | .bad => .bad
class KN where
 run : List Sl → O
def nxt (o : O) [k : KN] : O := match o with
 | .nx ρ => k.run ρ
 | o => o
def lft {α : Type} (o : Option α) (ρ : List Sl) : R α := match o with
 | some a => .ok a ρ
 | none => .bad
section
variable {α β : Type} {a : α} {ρ ρ' : List Sl} {c : Nat} {k : KR α β} {ko : KO α} {kn : KN} {d : D}
theorem z5b : bnd (.ok a ρ) (k := k) = k.run a ρ := id rfl
theorem n0c : bnd (.ex c ρ) (k := k) = .ex c ρ := id rfl
theorem q6b : bnd (.bad : R α) (k := k) = .bad := id rfl
theorem i5b : bndO (.ok a ρ) (k := ko) = ko.run a ρ := id rfl
theorem q7b : bndO (.ex c ρ : R α) (k := ko) = .ex c ρ := id rfl
theorem a6b : bndO (.bad : R α) (k := ko) = .bad := id rfl
theorem i3a : nxt (.nx ρ) (k := kn) = kn.run ρ := id rfl
theorem n1c : nxt (.rt d ρ) (k := kn) = .rt d ρ := id rfl
theorem q8b : nxt (.rtN d ρ) (k := kn) = .rtN d ρ := id rfl
theorem n2c : nxt (.ex c ρ) (k := kn) = .ex c ρ := id rfl
theorem q9b : nxt .bad (k := kn) = .bad := id rfl
theorem s4a : lft (some a) ρ = .ok a ρ := id rfl
end
section
variable {α β : Type} {m : M α} {km : α → M β} {ρ : List Sl} {f g h : M D} {fa : M (List D)} {t u : M Bool} {sf sg : MS} {i j np ns : Nat} {den : MS} {dds : List D} {op op' : D → D → Option D} {o1 : D → Option D} {oA : List D → Option D} {d : D} {a : α}
theorem b2a : mbind m km ρ = bnd (m ρ) (k := ⟨fun a ρ => km a ρ⟩) := id (by
 first
 | rfl
 | (
   exact by unfold mbind bnd; rfl))
theorem a7b : mpure a ρ = .ok a ρ := id rfl
theorem i6b {o : Option α} : lift o ρ = lft o ρ := id (by
 first
 | rfl
 | (
   exact by unfold lift lft; rfl))
theorem k1d : eC d ρ = .ok d ρ := id rfl
def rdV (s : Option Sl) (ρ : List Sl) : R D := match s with
 | some (.val d) => .ok d ρ
 | _ => .bad
theorem r0b : rdV (some (.val d)) ρ = .ok d ρ := id rfl
theorem r1b : eVar i ρ = rdV ρ[i]? ρ := id (by
 first
 | rfl
 | (
   unfold eVar rdV
   split <;> split <;> simp_all))
theorem r2b : eBin op f g ρ = bnd (f ρ) (k := ⟨fun x ρ => bnd (g ρ) (k := ⟨fun y ρ => lft (op x y) ρ⟩)⟩) := id (by
 first
 | rfl
 | (
   unfold eBin
   rw [b2a]
   congr 1))
theorem n3c : eUn o1 f ρ = bnd (f ρ) (k := ⟨fun x ρ => lft (o1 x) ρ⟩) := id (by
 first
 | rfl
 | (
   unfold eUn
   rw [b2a]
   congr 1))
theorem r3b : aNil ρ = .ok [] ρ := id rfl
theorem a8b : aCons f fa ρ = bnd (f ρ) (k := ⟨fun x ρ => bnd (fa ρ) (k := ⟨fun xs ρ => .ok (x :: xs) ρ⟩)⟩) := id (by
 first
 | rfl
 | (
   unfold aCons
   rw [b2a]
   congr 1))
theorem n4c : eFn oA fa ρ = bnd (fa ρ) (k := ⟨fun xs ρ => lft (oA xs) ρ⟩) := id (by
 first
 | rfl
 | (
   unfold eFn
   rw [b2a]
   congr 1))
def tupO (xs : List D) : Option D := if xs.length ≤ 100000 then some (.tup xs) else none
def lstO (xs : List D) : Option D := if xs.length ≤ 100000 then some (.lst xs) else none
theorem r4b : eTup fa ρ = bnd (fa ρ) (k := ⟨fun xs ρ => lft (tupO xs) ρ⟩) := id (by
 first
 | rfl
 | (
   unfold eTup
   rw [b2a]
   congr 1))
theorem r5b : eLst fa ρ = bnd (fa ρ) (k := ⟨fun xs ρ => lft (lstO xs) ρ⟩) := id (by
 first
 | rfl
 | (
   unfold eLst
   rw [b2a]
   congr 1))
theorem r6b : tVal f ρ = bnd (f ρ) (k := ⟨fun x ρ => lft (asB x) ρ⟩) := id (by
 first
 | rfl
 | (
   unfold tVal
   rw [b2a]
   congr 1))
theorem n5c {b : Bool} : asB (.bl b) = some b := id rfl
class KI (α : Type) where
 t : R α
 e : R α
def iteR {α : Type} (b : Bool) [k : KI α] : R α := if b then k.t else k.e
class KJ where
 t : O
 e : O
def iteO (b : Bool) [k : KJ] : O := if b then k.t else k.e
theorem n4b {x y : R α} : iteR true (k := ⟨x, y⟩) = x := id rfl
theorem n5b {x y : R α} : iteR false (k := ⟨x, y⟩) = y := id rfl
theorem n6c {x y : O} : iteO true (k := ⟨x, y⟩) = x := id rfl
theorem n7c {x y : O} : iteO false (k := ⟨x, y⟩) = y := id rfl
theorem r7b : mAnd t u ρ = bnd (t ρ) (k := ⟨fun x ρ => iteR x (k := ⟨(u ρ), (.ok false ρ)⟩)⟩) := id (by
 first
 | rfl
 | (
   unfold mAnd
   rw [b2a]
   congr 1
   congr 1
   funext x ρ
   cases x <;> rfl))
theorem n8c : mOr t u ρ = bnd (t ρ) (k := ⟨fun x ρ => iteR x (k := ⟨(.ok true ρ), (u ρ)⟩)⟩) := id (by
 first
 | rfl
 | (
   unfold mOr
   rw [b2a]
   congr 1
   congr 1
   funext x ρ
   cases x <;> rfl))
theorem r8b : mNot t ρ = bnd (t ρ) (k := ⟨fun x ρ => .ok (!x) ρ⟩) := id (by
 first
 | rfl
 | (
   unfold mNot
   rw [b2a]
   rfl))
theorem r9b : eAnd f g ρ = bnd (tVal f ρ) (k := ⟨fun x ρ => iteR x (k := ⟨(g ρ), (.ok (.bl false) ρ)⟩)⟩) := id (by
 first
 | rfl
 | (
   unfold eAnd
   rw [b2a]
   congr 1
   congr 1
   funext x ρ
   cases x <;> rfl))
theorem n9c : eOr f g ρ = bnd (tVal f ρ) (k := ⟨fun x ρ => iteR x (k := ⟨(.ok (.bl true) ρ), (g ρ)⟩)⟩) := id (by
 first
 | rfl
 | (
   unfold eOr
   rw [b2a]
   congr 1
   congr 1
   funext x ρ
   cases x <;> rfl))
theorem s0b : eNot f ρ = bnd (tVal f ρ) (k := ⟨fun x ρ => .ok (.bl (!x)) ρ⟩) := id (by
 first
 | rfl
 | (
   unfold eNot
   rw [b2a]
   rfl))
theorem s5a : eChain op op' f g h ρ = bnd (f ρ) (k := ⟨fun x ρ => bnd (g ρ) (k := ⟨fun y ρ => bnd (lft (op x y) ρ) (k := ⟨fun z ρ => bnd (lft (asB z) ρ) (k := ⟨fun k ρ => iteR k (k := ⟨(bnd (h ρ) (k := ⟨fun u ρ => lft (op' y u) ρ⟩)), (.ok (.bl false) ρ)⟩)⟩)⟩)⟩)⟩) := id (by
 first
 | rfl
 | (
   unfold eChain
   rw [b2a]
   congr 1
   congr 1
   funext x ρ
   rw [b2a]
   congr 1
   congr 1
   funext y ρ
   rw [b2a]
   congr 1
   congr 1
   funext z ρ
   rw [b2a]
   congr 1
   congr 1
   funext k ρ
   cases k
   ·rfl
   ·show mbind h _ ρ = _
    rw [b2a]
    rfl))
def vw (r : R D) (ρ : List Sl) : R D := match r with
 | .ok d _ => iteR (plain d) (k := ⟨(.ok d ρ), .bad⟩)
 | _ => .bad
def vwN (r : R D) (ρ : List Sl) : R D := match r with
 | .ok d _ => iteR (plainO d) (k := ⟨(.ok d ρ), .bad⟩)
 | _ => .bad
def vwT (r : R Bool) (ρ : List Sl) : R Bool := match r with
 | .ok d _ => .ok d ρ
 | _ => .bad
theorem k2d {ρ' : List Sl} : vw (.ok d ρ') ρ = iteR (plain d) (k := ⟨(.ok d ρ), .bad⟩) := id rfl
theorem o0c {ρ' : List Sl} : vwN (.ok d ρ') ρ = iteR (plainO d) (k := ⟨(.ok d ρ), .bad⟩) := id rfl
theorem o1c {b : Bool} {ρ' : List Sl} : vwT (.ok b ρ') ρ = .ok b ρ := id rfl
theorem a9b : eView f ρ = vw (f (ρ.map viewS)) ρ := id (by
 first
 | rfl
 | (
   unfold eView vw
   cases f (ρ.map viewS) <;> rfl))
theorem s6a : eViewN f ρ = vwN (f (ρ.map viewS)) ρ := id (by
 first
 | rfl
 | (
   unfold eViewN vwN
   cases f (ρ.map viewS) <;> rfl))
theorem b0b : tView t ρ = vwT (t (ρ.map viewS)) ρ := id (by
 first
 | rfl
 | (
   unfold tView vwT
   cases t (ρ.map viewS) <;> rfl))
theorem k2a {k : α → MS} : sDo m k ρ = bndO (m ρ) (k := ⟨fun a ρ => k a ρ⟩) := id (by
 first
 | rfl
 | (
   exact by unfold sDo bndO; rfl))
theorem i7b : sSeq sf sg ρ = nxt (sf ρ) (k := ⟨fun ρ => sg ρ⟩) := id (by
 first
 | rfl
 | (
   unfold sSeq nxt
   cases sf ρ <;> rfl))
theorem b1b : sSkip ρ = .nx ρ := id rfl
theorem o2c {s : Sl} : put i s ρ = iteO (notBor ρ[i]?) (k := ⟨(.nx (ρ.set i s)), .bad⟩) := id rfl
theorem i8b : sSet i f ρ = bndO (f ρ) (k := ⟨fun d ρ => iteO (notBor ρ[i]?) (k := ⟨(.nx (ρ.set i (.val d))), .bad⟩)⟩) := id (by
 first
 | rfl
 | (
   unfold sSet
   rw [k2a]
   rfl))
theorem b2b : sSetN i f ρ = bndO (f ρ) (k := ⟨fun d ρ => iteO (notBor ρ[i]?) (k := ⟨(.nx (ρ.set i (.own d))), .bad⟩)⟩) := id (by
 first
 | rfl
 | (
   unfold sSetN
   rw [k2a]
   rfl))
theorem s1b : sRet f ρ = bndO (f ρ) (k := ⟨fun d ρ => .rt d ρ⟩) := id (by
 first
 | rfl
 | (
   exact by unfold sRet; rw [k2a]))
theorem b3b : sRetN f ρ = bndO (f ρ) (k := ⟨fun d ρ => .rtN d ρ⟩) := id (by
 first
 | rfl
 | (
   exact by unfold sRetN; rw [k2a]))
theorem b4b : sExpr f ρ = bndO (f ρ) (k := ⟨fun d ρ => .nx ρ⟩) := id (by
 first
 | rfl
 | (
   exact by unfold sExpr; rw [k2a]; rfl))
theorem o3c : sIf t sf sg ρ = bndO (t ρ) (k := ⟨fun b ρ => iteO b (k := ⟨(sf ρ), (sg ρ)⟩)⟩) := id (by
 first
 | rfl
 | (
   unfold sIf
   rw [k2a]
   congr 1
   congr 1
   funext b ρ
   cases b <;> rfl))
def retO (s : Option Sl) (i : Nat) (ρ : List Sl) : O := match s with
 | some (.own d) => .rtN d (ρ.set i .no)
 | _ => .bad
theorem b5b : sRetO i ρ = retO ρ[i]? i ρ := id (by
 first
 | rfl
 | (
   unfold sRetO retO
   split <;> split <;> simp_all))
theorem b6b : retO (some (.own d)) i ρ = .rtN d (ρ.set i .no) := id rfl
theorem s7a {c : Nat} : sRaise c ρ = .ex c ρ := id rfl
theorem s2b {fi : M (List D)} {mg : MG} : sFor fi mg sf ρ = bndO (fi ρ) (k := ⟨fun ds ρ => loop mg sf ds ρ⟩) := id (by
 first
 | rfl
 | (
   exact by unfold sFor; rw [k2a]))
theorem s8a {mg : MG} : loop mg sf [] ρ = .nx ρ := id rfl
def optO (o : Option (List Sl)) [k : KN] : O := match o with
 | some ρ => k.run ρ
 | none => .bad
theorem m1a {k : KN} : optO (some ρ) (k := k) = k.run ρ := id rfl
theorem e1a {mg : MG} {ds : List D} : loop mg sf (d :: ds) ρ = optO (mg d ρ) (k := ⟨fun ρ => nxt (sf ρ) (k := ⟨fun ρ => loop mg sf ds ρ⟩)⟩) := id (by
  first
  | rfl
  | (
      show (match mg d ρ with | none => O.bad | some ρ1 => match sf ρ1 with | .nx ρ2 => loop mg sf ds ρ2 | o => o) = _
      unfold optO nxt
      cases mg d ρ with
      | none => rfl
      | some ρ1 =>
        cases sf ρ1 <;> rfl))
theorem s3b {mg : MG} : sAsg f mg ρ = bndO (f ρ) (k := ⟨fun d ρ => optO (mg d ρ) (k := ⟨fun ρ => .nx ρ⟩)⟩) := id (by
 first
 | rfl
 | (
   unfold sAsg
   rw [k2a]
   congr 1))
def iteS (b : Bool) (x : List Sl) : Option (List Sl) := if b then some x else none
theorem z6b {x : List Sl} : iteS true x = some x := id rfl
theorem a3d : gN i d ρ = iteS (notBor ρ[i]?) (ρ.set i (.val d)) := id rfl
theorem k3d {ms : MGs} {ds : List D} : gT ms (.tup ds) ρ = ms ds ρ := id rfl
theorem b7b : gsNil [] ρ = some ρ := id rfl
class KS where
 run : List Sl → Option (List Sl)
def bS (o : Option (List Sl)) [k : KS] : Option (List Sl) := o.bind k.run
theorem s4b {k : KS} : bS (some ρ) (k := k) = k.run ρ := id rfl
theorem s9a {mg : MG} {ms : MGs} {ds : List D} : gsCons mg ms (d :: ds) ρ = bS (mg d ρ) (k := ⟨fun ρ => ms ds ρ⟩) := id rfl
theorem n6a : notBor (some (.val d)) = true := id rfl
theorem n7a : notBor (some (.own d)) = true := id rfl
theorem t0a : notBor (some .no) = true := id rfl
def mineO : Option Sl → Option (Sl × D)
 | some (.own d) => some (.own d, d)
 | some (.bor d) => some (.bor d, d)
 | _ => none
theorem i4a : mineOf ρ i = mineO ρ[i]? := id (by
 first
 | rfl
 | (
   unfold mineOf mineO
   cases ρ[i]? with
   | none => rfl
   | some s => cases s <;> rfl))
theorem t1a : mineO (some (.own d)) = some (.own d, d) := id rfl
theorem t2a : mineO (some (.bor d)) = some (.bor d, d) := id rfl
theorem b8b {e : D} : (Sl.own d).with e = .own e := id rfl
theorem b9b {e : D} : (Sl.bor d).with e = .bor e := id rfl
class KP (α β : Type) where
 run : α → R β
def optR {α β : Type} (o : Option α) [k : KP α β] : R β := match o with
 | some a => k.run a
 | none => .bad
theorem t3a {k : KP α β} : optR (some a) (k := k) = k.run a := id rfl
theorem c0b {mo : D → Option (D × D)} : mutAt i mo ρ = optR (mineO ρ[i]?) (k := ⟨fun p => optR (mo p.2) (k := ⟨fun q => .ok q.1 (ρ.set i (p.1.with q.2))⟩)⟩) := id (by
  first
  | rfl
  | (
      unfold mutAt
      rw [i4a]
      unfold optR
      cases mineO ρ[i]? with
      | none => rfl
      | some p =>
        obtain ⟨s, d⟩ := p
        dsimp only
        cases mo d with
        | none => rfl
        | some q => rfl))
theorem s5b {ok : D → Bool} {mo : D → List D → Option (D × D)} : eMut ok i mo fa ρ = optR (mineO ρ[i]?) (k := ⟨fun p => iteR (ok p.2) (k := ⟨(bnd (fa ρ) (k := ⟨fun xs ρ => mutAt i (fun d => mo d xs) ρ⟩)), .bad⟩)⟩) := id (by
  first
  | rfl
  | (
      unfold eMut
      rw [i4a]
      unfold optR
      cases mineO ρ[i]? with
      | none => rfl
      | some p =>
        obtain ⟨s, d⟩ := p
        dsimp only
        rw [b2a]
        cases ok d <;> rfl))
theorem t4a {ok : D → Bool} {mo : D → D → D → Option D} : sPutAt ok i mo f g ρ = bndO (g ρ) (k := ⟨fun v ρ => bndO (optR (mineO ρ[i]?) (k := ⟨fun p => iteR (ok p.2) (k := ⟨(bnd (f ρ) (k := ⟨fun k ρ => mutAt i (fun d => (mo d k v).map fun d' => (.non, d')) ρ⟩)), .bad⟩)⟩)) (k := ⟨fun _ ρ => .nx ρ⟩)⟩) := id (by
  first
  | rfl
  | (
      unfold sPutAt
      rw [k2a, b2a]
      cases g ρ with
      | bad => rfl
      | ex c ρ => rfl
      | ok v ρ =>
        show bndO (putAt ok i mo f v ρ) (k := _) = bndO (optR (mineO ρ[i]?) (k := _)) (k := _)
        unfold putAt
        rw [i4a]
        unfold optR
        cases mineO ρ[i]? with
        | none => rfl
        | some p =>
          obtain ⟨s, d⟩ := p
          dsimp only
          rw [b2a]
          cases ok d <;> rfl))
def outE (o : O) (ρ : List Sl) : R D := match o with
 | .rt d _ => .ok d ρ
 | .rtN d _ => .ok d ρ
 | .nx _ => .ok .non ρ
 | .ex c _ => .ex c ρ
 | .bad => .bad
def outN (o : O) (ρ : List Sl) : R D := match o with
 | .rtN d _ => .ok d ρ
 | .ex c _ => .ex c ρ
 | _ => .bad
theorem s6b {ρ' : List Sl} : outE (.rt d ρ') ρ = .ok d ρ := id rfl
theorem c1b {ρ' : List Sl} : outE (.rtN d ρ') ρ = .ok d ρ := id rfl
theorem s7b {ρ' : List Sl} : outE (.nx ρ') ρ = .ok .non ρ := id rfl
theorem s8b {c : Nat} {ρ' : List Sl} : outE (.ex c ρ') ρ = .ex c ρ := id rfl
theorem c2b {ρ' : List Sl} : outN (.rtN d ρ') ρ = .ok d ρ := id rfl
theorem s9b {c : Nat} {ρ' : List Sl} : outN (.ex c ρ') ρ = .ex c ρ := id rfl
theorem c3b : eCall np ns den dds fa ρ = bnd (fa ρ) (k := ⟨fun ds ρ => iteR (decide ((ds ++ dds).length = np)) (k := ⟨(outE (den ((ds ++ dds).map .val ++ List.replicate ns .no)) ρ), .bad⟩)⟩) := id (by
 first
 | rfl
 | (
   unfold eCall
   rw [b2a]
   congr 1
   congr 1
   funext ds ρ
   unfold iteR outE
   by_cases h : (ds ++ dds).length = np
   ·rw [if_pos h, if_pos (decide_eq_true h)]
    cases den ((ds ++ dds).map .val ++ List.replicate ns .no) <;> rfl
   ·rw [if_neg h, if_neg (by simpa using h)]; try rfl))
theorem t5a : eCallN np ns den dds fa ρ = bnd (fa ρ) (k := ⟨fun ds ρ => iteR (decide ((ds ++ dds).length = np)) (k := ⟨(outN (den ((ds ++ dds).map .val ++ List.replicate ns .no)) ρ), .bad⟩)⟩) := id (by
 first
 | rfl
 | (
   unfold eCallN
   rw [b2a]
   congr 1
   congr 1
   funext ds ρ
   unfold iteR outN
   by_cases h : (ds ++ dds).length = np
   ·rw [if_pos h, if_pos (decide_eq_true h)]
    cases den ((ds ++ dds).map .val ++ List.replicate ns .no) <;> rfl
   ·rw [if_neg h, if_neg (by simpa using h)]; try rfl))
class KB where
 run : D → R D
def borO (s : Option Sl) [k : KB] : R D := match s with
 | some (.bor d) => k.run d
 | _ => .bad
theorem c4b {k : KB} : borO (some (.bor d)) (k := k) = k.run d := id rfl
def outO (o : O) (n j : Nat) (s : Sl) (ρ : List Sl) : R D := match o with
 | .rt d ρ' => borO ρ'[n]? (k := ⟨fun e => .ok d (ρ.set j (s.with e))⟩)
 | .rtN d ρ' => borO ρ'[n]? (k := ⟨fun e => .ok d (ρ.set j (s.with e))⟩)
 | .nx ρ' => borO ρ'[n]? (k := ⟨fun e => .ok .non (ρ.set j (s.with e))⟩)
 | .ex c ρ' => borO ρ'[n]? (k := ⟨fun e => .ex c (ρ.set j (s.with e))⟩)
 | .bad => .bad
def outON (o : O) (n j : Nat) (s : Sl) (ρ : List Sl) : R D := match o with
 | .rtN d ρ' => borO ρ'[n]? (k := ⟨fun e => .ok d (ρ.set j (s.with e))⟩)
 | .ex c ρ' => borO ρ'[n]? (k := ⟨fun e => .ex c (ρ.set j (s.with e))⟩)
 | _ => .bad
theorem t0b {n j : Nat} {s : Sl} {ρ' : List Sl} : outO (.rt d ρ') n j s ρ = borO ρ'[n]? (k := ⟨fun e => .ok d (ρ.set j (s.with e))⟩) := id rfl
theorem c5b {n j : Nat} {s : Sl} {ρ' : List Sl} : outO (.rtN d ρ') n j s ρ = borO ρ'[n]? (k := ⟨fun e => .ok d (ρ.set j (s.with e))⟩) := id rfl
theorem t1b {n j : Nat} {s : Sl} {ρ' : List Sl} : outO (.nx ρ') n j s ρ = borO ρ'[n]? (k := ⟨fun e => .ok .non (ρ.set j (s.with e))⟩) := id rfl
theorem t2b {c n j : Nat} {s : Sl} {ρ' : List Sl} : outO (.ex c ρ') n j s ρ = borO ρ'[n]? (k := ⟨fun e => .ex c (ρ.set j (s.with e))⟩) := id rfl
theorem t6a {n j : Nat} {s : Sl} {ρ' : List Sl} : outON (.rtN d ρ') n j s ρ = borO ρ'[n]? (k := ⟨fun e => .ok d (ρ.set j (s.with e))⟩) := id rfl
theorem c6b {c n j : Nat} {s : Sl} {ρ' : List Sl} : outON (.ex c ρ') n j s ρ = borO ρ'[n]? (k := ⟨fun e => .ex c (ρ.set j (s.with e))⟩) := id rfl
theorem o4c {α : Type} {ρ' : List Sl} {k : Nat} {s : Sl} {r : D} : after ρ ρ' k j s r = borO ρ'[k]? (k := ⟨fun e => .ok r (ρ.set j (s.with e))⟩) := id (by
 first
 | rfl
 | (
   unfold after borO
   split <;> split <;> simp_all))
theorem z7b {ρ' : List Sl} {k c : Nat} {s : Sl} : (afterX ρ ρ' k j s c : R D) = borO ρ'[k]? (k := ⟨fun e => .ex c (ρ.set j (s.with e))⟩) := id (by
 first
 | rfl
 | (
   unfold afterX borO
   split <;> split <;> simp_all))
theorem c7b {p : List D × List D} : callO np ns den j p ρ = optR (mineO ρ[j]?) (k := ⟨fun q => iteR (decide (p.1.length + 1 + p.2.length = np)) (k := ⟨(outO (den ((p.1.map .val ++ .bor q.2 :: p.2.map .val) ++ List.replicate ns .no)) p.1.length j q.1 ρ), .bad⟩)⟩) := id (by
  first
  | rfl
  | (
      unfold callO
      rw [i4a]
      unfold optR
      cases mineO ρ[j]? with
      | none => rfl
      | some q =>
        obtain ⟨s, d⟩ := q
        dsimp only
        unfold iteR
        by_cases h : p.1.length + 1 + p.2.length = np
        · rw [if_pos h, if_pos (decide_eq_true h)]
          unfold outO
          show _ = outO (den ((p.1.map .val ++ .bor d :: p.2.map .val) ++ List.replicate ns .no)) p.1.length j s ρ
          cases den ((p.1.map .val ++ .bor d :: p.2.map .val) ++ List.replicate ns .no) <;> first | rfl | exact o4c (α := Unit) | exact z7b
        · rw [if_neg h, if_neg (by simpa using h)]; try rfl))
theorem t7a {p : List D × List D} : callON np ns den j p ρ = optR (mineO ρ[j]?) (k := ⟨fun q => iteR (decide (p.1.length + 1 + p.2.length = np)) (k := ⟨(outON (den ((p.1.map .val ++ .bor q.2 :: p.2.map .val) ++ List.replicate ns .no)) p.1.length j q.1 ρ), .bad⟩)⟩) := id (by
  first
  | rfl
  | (
      unfold callON
      rw [i4a]
      unfold optR
      cases mineO ρ[j]? with
      | none => rfl
      | some q =>
        obtain ⟨s, d⟩ := q
        dsimp only
        unfold iteR
        by_cases h : p.1.length + 1 + p.2.length = np
        · rw [if_pos h, if_pos (decide_eq_true h)]
          unfold outON
          show _ = outON (den ((p.1.map .val ++ .bor d :: p.2.map .val) ++ List.replicate ns .no)) p.1.length j s ρ
          cases den ((p.1.map .val ++ .bor d :: p.2.map .val) ++ List.replicate ns .no) <;> first | rfl | exact o4c (α := Unit) | exact z7b
        · rw [if_neg h, if_neg (by simpa using h)]; try rfl))
theorem t8a {fo : M (List D × List D)} : eCallO np ns den j fo ρ = optR (mineO ρ[j]?) (k := ⟨fun _ => bnd (fo ρ) (k := ⟨fun p ρ => callO np ns den j p ρ⟩)⟩) := id (by
 first
 | rfl
 | (
   unfold eCallO
   rw [i4a]
   unfold optR
   cases mineO ρ[j]? with
   | none => rfl
   | some q => exact b2a))
theorem n8a {fo : M (List D × List D)} : eCallON np ns den j fo ρ = optR (mineO ρ[j]?) (k := ⟨fun _ => bnd (fo ρ) (k := ⟨fun p ρ => callON np ns den j p ρ⟩)⟩) := id (by
 first
 | rfl
 | (
   unfold eCallON
   rw [i4a]
   unfold optR
   cases mineO ρ[j]? with
   | none => rfl
   | some q => exact b2a))
theorem c8b : oHere fa ρ = bnd (fa ρ) (k := ⟨fun xs ρ => .ok ([], xs) ρ⟩) := id (by
 first
 | rfl
 | (
   unfold oHere
   rw [b2a]
   rfl))
theorem t9a {fo : M (List D × List D)} : oThere f fo ρ = bnd (f ρ) (k := ⟨fun x ρ => bnd (fo ρ) (k := ⟨fun p ρ => .ok (x :: p.1, p.2) ρ⟩)⟩) := id (by
 first
 | rfl
 | (
   unfold oThere
   rw [b2a]
   congr 1))
def seqO : D → Option (List D)
 | .lst ds => some ds
 | .tup ds => some ds
 | .scr ns => some (ns.map D.int)
 | _ => none
theorem c9b {ds : List D} : seqO (.lst ds) = some ds := id rfl
theorem d0b {ds : List D} : seqO (.tup ds) = some ds := id rfl
theorem d1b {ns : List Int} : seqO (.scr ns) = some (ns.map D.int) := id rfl
theorem t3b : iSeq f ρ = bnd (f ρ) (k := ⟨fun d ρ => lft (seqO d) ρ⟩) := id (by
 first
 | rfl
 | (
   unfold iSeq
   rw [b2a]
   congr 1))
def sgnO : D → Option (List D)
 | .str x => some (signs x)
 | _ => none
theorem d2b {x : Str} : sgnO (.str x) = some (signs x) := id rfl
theorem d3b : iSign f ρ = bnd (f ρ) (k := ⟨fun d ρ => lft (sgnO d) ρ⟩) := id (by
 first
 | rfl
 | (
   unfold iSign
   rw [b2a]
   congr 1))
theorem n9a : iRange1 fa ρ = bnd (fa ρ) (k := ⟨fun ds ρ => lft (rng1 ds) ρ⟩) := id (by
 first
 | rfl
 | (
   unfold iRange1
   rw [b2a]
   congr 1))
theorem o0a : iRange2 fa ρ = bnd (fa ρ) (k := ⟨fun ds ρ => lft (rng2 ds) ρ⟩) := id (by
 first
 | rfl
 | (
   unfold iRange2
   rw [b2a]
   congr 1))
theorem d4b {fi : M (List D)} {mg : MG} {vs : List Nat} : eComp fi mg t f vs ρ = bnd (fi ρ) (k := ⟨fun ds ρ => bnd (compL mg t f vs ds [] ρ) (k := ⟨fun ys ρ => .ok (.lst ys) ρ⟩)⟩) := id (by
 first
 | rfl
 | (
   unfold eComp
   rw [b2a]
   congr 1))
theorem o5c {os : D → Option Int → Option Int → Option D} {lo hi : M (Option Int)} : eSl os f lo hi ρ = bnd (f ρ) (k := ⟨fun x ρ => bnd (lo ρ) (k := ⟨fun l ρ => bnd (hi ρ) (k := ⟨fun h ρ => lft (os x l h) ρ⟩)⟩)⟩) := id (by
 first
 | rfl
 | (
   unfold eSl
   rw [b2a]
   congr 1))
theorem d5b : oNone ρ = .ok none ρ := id rfl
def intO : D → Option (Option Int)
 | .int i => some (some i)
 | _ => none
theorem d6b {i : Int} : intO (.int i) = some (some i) := id rfl
theorem d7b : oSome f ρ = bnd (f ρ) (k := ⟨fun d ρ => lft (intO d) ρ⟩) := id (by
 first
 | rfl
 | (
   unfold oSome
   rw [b2a]
   congr 1))
theorem d8b : eGet2 f g h ρ = bnd (f ρ) (k := ⟨fun d ρ => iteR (isDct d) (k := ⟨(bnd (g ρ) (k := ⟨fun k ρ => bnd (h ρ) (k := ⟨fun x ρ => lft ((opGetD d k).map fun o => o.getD x) ρ⟩)⟩)), .bad⟩)⟩) := id (by
 first
 | rfl
 | (
   unfold eGet2
   rw [b2a]
   congr 1))
end
section
variable {i j : Int} {x y : Str} {ds es : List D} {b : Bool} {d : D} {C : Int → Int → Bool} {g : Int → Int → D}
theorem t4b : opAdd (.int i) (.int j) = some (.int (i + j)) := id rfl
theorem t5b : opNeg (.int i) = some (.int (-i)) := id rfl
theorem i9b : opMul (.int i) (.int j) = if mulOk i j then some (.int (i * j)) else none := id rfl
theorem t6b : opSub (.int i) (.int j) = some (.int (i - j)) := id rfl
theorem n6b : opLt (.int i) (.int j) = some (.bl (decide (i < j))) := id rfl
theorem o6c : opLe (.int i) (.int j) = some (.bl (decide (i ≤ j))) := id rfl
theorem u0a : opGt (.int i) (.int j) = some (.bl (decide (j < i))) := id rfl
theorem z8b : opGe (.int i) (.int j) = some (.bl (decide (j ≤ i))) := id rfl
theorem x6a : opMod (.int i) (.int j) = if decide (0 < j) then some (.int (i % j)) else none := id rfl
theorem d9b : opFdiv (.int i) (.int j) = if decide (0 < j ∧ j < 1073741824) then some (.int (i / j)) else none := id rfl
theorem q1a : opLen [.lst ds] = some (.int ds.length) := id rfl
theorem g1a : opLen [.tup ds] = some (.int ds.length) := id rfl
theorem t7b {ns : List Int} : opLen [.scr ns] = some (.int ns.length) := id rfl
theorem j0b : opLen [.str x] = if x.length ≤ 100000 then some (.int x.length) else none := id rfl
theorem t8b : opIx (.tup ds) (.int i) = atI ds i := id rfl
theorem t9b : opIx (.lst ds) (.int i) = atI ds i := id rfl
theorem u1a : opTuple [.lst ds] = some (.tup ds) := id rfl
theorem u2a : opTuple [.tup ds] = some (.tup ds) := id rfl
theorem u3a : opList [.lst ds] = some (.lst ds) := id rfl
theorem e0b : opList [.tup ds] = some (.lst ds) := id rfl
theorem l1a : opAppend (.lst ds) [d] = if ds.length ≤ 100000 then some (.non, .lst (ds ++ [d])) else none := id rfl
theorem m2a : isLst (.lst ds) = true := id rfl
theorem e1b {kvs : List (Key × D)} : isDct (.dK kvs) = true := id rfl
theorem e2b {kvs : List (List Key × D)} : isDct (.dT kvs) = true := id rfl
theorem k4d {a : Bool} : opIs (.bl a) (.bl b) = some (.bl (a == b)) := id rfl
theorem e3b {a : Bool} : opIsNot (.bl a) (.bl b) = some (.bl (!(a == b))) := id rfl
theorem u4a : plain (.int i) = true := id rfl
theorem u5a : plain (.str x) = true := id rfl
theorem e4b : plain (.bl b) = true := id rfl
theorem u6a : plain .non = true := id rfl
theorem f7a : plain (.tup ds) = plainL ds := id (by
 first
 | rfl
 | (
   exact by simp [plain]))
theorem e0a : plainL [] = true := id (by
 first
 | rfl
 | (
   exact by simp [plainL]))
theorem c6a : plainL (d :: ds) = (plain d && plainL ds) := id (by
 first
 | rfl
 | (
   exact by simp [plainL]))
theorem o7c : opInt [.bl b] = some (.int (if b then 1 else 0)) := id rfl
theorem u0b : opInt [.int i] = some (.int i) := id rfl
theorem u7a : viewS (.val d) = .val d := id rfl
theorem u8a : viewS (.own d) = .val d := id rfl
theorem u9a : viewS (.bor d) = .val d := id rfl
theorem e5b : viewS .no = .no := id rfl
theorem k5d : atI (d :: ds) 0 = some d := by
 exact atI_nat (j := 0) rfl
theorem k6d {e : D} : atI (d :: e :: ds) 1 = some e := atI_nat (j := 1) rfl
theorem k7d {e f : D} : atI (d :: e :: f :: ds) 2 = some f := atI_nat (j := 2) rfl
theorem k8d {e f h : D} : atI (d :: e :: f :: h :: ds) 3 = some h := atI_nat (j := 3) rfl
theorem k3a (h : -(2 ^ 62) ≤ j ∧ j < 2 ^ 62) : rng1 [.int j] = some ((List.range j.toNat).map fun k => D.int (k : Nat)) := by
 show (if _ then _ else _) = _
 rw [if_pos h]
end
end NT
set_option Elab.async false
set_option linter.all false
set_option maxRecDepth 100000
set_option maxHeartbeats 4000000
namespace NT
open PySem L2
theorem j6a {ρ : List Sl} {i : Nat} {s : Sl} (h : ρ[i]? = some s) : ρ.set i s = ρ := by
 obtain ⟨hl, e⟩ := List.getElem?_eq_some_iff.mp h
 rw [← e]
 exact List.set_getElem_self hl
theorem j1b {i : Nat} {b : MS} {P : D → Bool} : ∀ {items : List D} {ρ : List Sl}, notBor ρ[i]? = true → (∀ d ∈ items, P d = true → b (ρ.set i (.val d)) = .nx (ρ.set i (.val d))) → (∀ d ∈ items, P d = false → ∃ ρ', b (ρ.set i (.val d)) = .rt (.bl false) ρ') →
    (items.all P = true → ∃ s, notBor (some s) = true ∧ loop (gN i) b items ρ = .nx (ρ.set i s)) ∧ (items.all P = false → ∃ ρ', loop (gN i) b items ρ = .rt (.bl false) ρ')
  | [], ρ, hb, _, _ => by
    refine ⟨fun _ => ?_, fun h => by cases h⟩
    obtain ⟨t, e, nb⟩ := l4a hb
    refine ⟨t, by rw [← e]; exact hb, ?_⟩
    rw [j6a e]
    rfl
  | d :: ds, ρ, hb, ht, hf => by
    obtain ⟨t, e, nb⟩ := l4a hb
    have hl : i < ρ.length := (List.getElem?_eq_some_iff.mp e).1
    have hm : gN i d ρ = some (ρ.set i (.val d)) := by
      unfold gN
      rw [if_pos hb]
    have hb2 : notBor (ρ.set i (.val d))[i]? = true := by
      rw [i1e hl]
      rfl
    cases hp : P d with
    | true =>
      have e1 : loop (gN i) b (d :: ds) ρ = loop (gN i) b ds (ρ.set i (.val d)) := by
        show (match gN i d ρ with | none => O.bad | some ρ1 => match b ρ1 with | .nx ρ2 => loop (gN i) b ds ρ2 | o => o) = _
        rw [hm]
        dsimp only
        rw [ht d h1e hp]
      have ih := j1b (b := b) (P := P) (items := ds) (ρ := ρ.set i (.val d)) hb2 (fun x hx q => by rw [l2e]; exact ht x (h2e _ hx) q) (fun x hx q => by rw [l2e]; exact hf x (h2e _ hx) q)
      rw [e1, k5e, hp, k2e]
      refine ⟨fun q => ?_, ih.2⟩
      obtain ⟨s, h1, h2⟩ := ih.1 q
      exact ⟨s, h1, by rw [h2, l2e]⟩
    | false =>
      refine ⟨fun q => (by rw [k5e, hp, l6e] at q; cases q), fun _ => ?_⟩
      obtain ⟨ρ', h⟩ := hf d h1e hp
      refine ⟨ρ', ?_⟩
      show (match gN i d ρ with | none => O.bad | some ρ1 => match b ρ1 with | .nx ρ2 => loop (gN i) b ds ρ2 | o => o) = _
      rw [hm]
      dsimp only
      rw [h]
theorem o1a {i : Nat} {e : M D} {f : D → D} : ∀ {items acc : List D} {ρ : List Sl}, isFree ρ[i]? = true → acc.length + items.length ≤ 100000 → (∀ d ∈ items, e ((ρ.set i .no).set i (.val d)) = .ok (f d) (ρ.set i (.val d))) →
    compL (gN i) (mpure true) e [i] items acc ρ = .ok (acc ++ items.map f) ρ
  | [], acc, ρ, _, _, _ => by
    show R.ok acc ρ = _
    rw [j6e, h5e]
  | d :: ds, acc, ρ, hf, hl, he => by
    obtain ⟨s, hs⟩ : ∃ s, ρ[i]? = some s := by
      cases q : ρ[i]? with
      | none => rw [q] at hf; cases hf
      | some s => exact ⟨s, rfl⟩
    have hlt : i < ρ.length := (List.getElem?_eq_some_iff.mp hs).1
    have hall : (([i] : List Nat).all fun v => isFree ρ[v]?) = true := by simp [hf]
    unfold compL
    rw [if_pos hall]
    have hm : gN i d (wipeS ρ [i]) = some ((ρ.set i .no).set i (.val d)) := by
      show (if notBor (ρ.set i Sl.no)[i]? = true then _ else _) = _
      rw [i1e hlt]
      rfl
    rw [hm]
    dsimp only [mpure]
    rw [he d h1e]
    dsimp only
    rw [h0e] at hl
    rw [if_pos (by omega)]
    have hb : backS ρ (ρ.set i (.val d)) [i] = ρ := by
      show (ρ.set i (.val d)).set i (ρ.getD i .no) = ρ
      rw [l2e, j1e, hs]
      exact j6a hs
    rw [hb, o1a hf (by rw [g9e, h8e]; omega) fun x hx => he x (h2e _ hx)]
    rw [h4e]
    rfl
def rtv : O → Option D
 | .rt d _ => some d
 | _ => none
def rtvN : O → Option D
 | .rtN d _ => some d
 | _ => none
theorem o8c {d : D} {ρ : List Sl} : rtv (.rt d ρ) = some d := rfl
theorem e6b {d : D} {ρ : List Sl} : rtvN (.rtN d ρ) = some d := rfl
theorem z2a {o : O} {d : D} (h : rtv o = some d) : ∃ ρ', o = .rt d ρ' := by
 cases o <;> first | cases h; exact ⟨_, rfl⟩ | cases h
theorem h5c {o : O} {d : D} (h : rtvN o = some d) : ∃ ρ', o = .rtN d ρ' := by
 cases o <;> first | cases h; exact ⟨_, rfl⟩ | cases h
theorem z3a {i j : Int} : opEq (.int i) (.int j) = some (.bl (i == j)) := id rfl
theorem z9b {i j : Int} : opNe (.int i) (.int j) = some (.bl (!(i == j))) := id rfl
theorem k9d {i j : Bool} : opNe (.bl i) (.bl j) = some (.bl (!(i == j))) := id rfl
theorem u5c {i j : Bool} : opEq (.bl i) (.bl j) = some (.bl (i == j)) := id rfl
theorem o9c {ds : List D} {lo hi : Option Int} : opSl (.tup ds) lo hi = some (.tup (cutL ds lo hi)) := id rfl
theorem q3d {α : Type} {xs : List α} {i : Int} (h : 0 ≤ i) : cutL xs none (some i) = xs.take i.toNat := by
 unfold cutL
 rw [HT.sIx_none, show HT.sIx xs.length xs.length (some i) = min i.toNat xs.length from if_neg (by omega), n0e, Nat.sub_zero, List.take_eq_take_iff]
 omega
theorem l0d {α : Type} {xs : List α} {i : Int} (h : 0 ≤ i) : cutL xs (some i) none = xs.drop i.toNat := by
 unfold cutL
 rw [HT.sIx_none, show HT.sIx xs.length 0 (some i) = min i.toNat xs.length from if_neg (by omega)]
 by_cases hl : i.toNat ≤ xs.length
 ·rw [Nat.min_eq_left hl, List.take_of_length_le (by rw [List.length_drop]; exact j0e _)]
 ·rw [Nat.min_eq_right (by omega), List.drop_of_length_le (j0e _), List.take_nil, List.drop_of_length_le (by omega)]
theorem i9a {α : Type} {xs : List α} {i : Int} {v : α} (h0 : 0 ≤ i) (h : xs[i.toNat]? = some v) : atI xs i = some v := by
 have e := atI_nat h
 rwa [Int.toNat_of_nonneg h0] at e
end NT
set_option Elab.async false
set_option linter.all false
set_option maxRecDepth 100000
set_option maxHeartbeats 4000000
namespace NT
open PySem L2
def spLaw (K : PySem.W.Frag) : Sp := fun vs H Q _ => ∃ (a : Addr) (ns : List Int), vs = [.ref a] ∧ SqL K H a (ns.map V.int) ∧ ns.length ≤ 63 ∧ ∀ H', Q (.bl true) H'
theorem b1e {K : PySem.W.Frag} {cls : Nat → Value} {n : Nat} {den : MS} (hd : ∀ ns : List Int, ns.length ≤ 63 → ∃ ρ', den (.val (.scr ns) :: List.replicate n .no) = .rt (.bl true) ρ') : ∀ vs H Q E, spLaw K vs H Q E → spD K cls 1 n den vs H Q E := by
 rintro vs H Q E ⟨a, ns, rfl, hS, hl, hq⟩
 obtain ⟨ρ', e⟩ := hd ns hl
 refine ⟨rfl, H, [], [.val (.scr ns)], H, CS.args (ds := [.scr ns]) (Same.refl _) (.cons (.scr hS) .nil), ?_⟩
 show PO K cls _ _ _ _ (den (.val (.scr ns) :: List.replicate n .no))
 rw [e]
 intro v σ' G' H' _ c r
 cases r
 exact hq H'
end NT
set_option Elab.async false
set_option linter.all false
set_option maxRecDepth 100000
set_option maxHeartbeats 4000000
namespace NT
open PySem L2
def wloop (t : M Bool) (b : MS) : Nat → MS
  | 0 => fun _ => .bad
  | n + 1 => fun ρ => match t ρ with
    | .ok true ρ1 => match b ρ1 with
      | .nx ρ2 => wloop t b n ρ2
      | o => o
    | .ok false ρ1 => .nx ρ1
    | .ex c ρ1 => .ex c ρ1
    | .bad => .bad
def fuel : Nat := 1000000
def sWhile (n : Nat) (t : M Bool) (b : MS) : MS := wloop t b n
section
variable {X : Cx} {cls : Nat → Value} {W : WX} {e a b : Expr} {es : List Expr} {f g : M D} {tf : M Bool} {pos : Pos} {sf sg : MS} {st : Stmt} {sts : List Stmt}
theorem a4d {K : PySem.W.Frag} {tc : TT} {tb : TS} {n : Nat} (hc : SimT K cls W tc tf) (hb : SimS K cls W tb sf) : SimS K cls W (tWhile tc tb) (sWhile n tf sf) := fun F ρ σ G H c E w => by
  refine ⟨fun m σ2 H2 => ∃ ρ2 G2, Ex G G2 ∧ CS K F G2 H2 σ2 ρ2 ∧ PO K cls W F G E (wloop tf sf m ρ2), ⟨n, ρ, G, Same.refl G, c, w⟩, ?_⟩
  rintro m σ2 H2 ⟨ρ2, G2, e2, c2, p⟩
  cases m with
  | zero => exact p.elim
  | succ m =>
    unfold wloop at p
    refine hc F ρ2 σ2 G2 H2 c2 _ ?_
    cases q : tf ρ2 with
    | bad => rw [q] at p; exact p.elim
    | ex c ρ' =>
      rw [q] at p
      exact fun G' H' e' c' => p σ2 G' H' (e2.trans e') c'
    | ok v ρ3 =>
      rw [q] at p
      intro G3 H3 e3 c3
      cases v with
      | false => exact p σ2 G3 H3 (e2.trans e3) c3
      | true =>
        have p : PO K cls W F G E (match sf ρ3 with
          | O.nx ρ2 => wloop tf sf m ρ2
          | o => o) := p
        refine ⟨fun σ4 H4 => ∃ ρ4 G4, Ex G G4 ∧ CS K F G4 H4 σ4 ρ4 ∧ PO K cls W F G E (wloop tf sf m ρ4), fun σ4 H4 h => ⟨m, Nat.lt_succ_self m, h⟩, ?_⟩
        refine hb F ρ3 σ2 G3 H3 c3 _ ?_
        cases hq : sf ρ3 with
        | nx ρ4 =>
          rw [hq] at p
          exact fun σ5 G5 H5 e5 c5 => ⟨ρ4, G5, (e2.trans e3).trans e5, c5, p⟩
        | rt d ρ' => rw [hq] at p; exact PO.mono (E := E) (e2.trans e3) (o := .rt d ρ') p
        | rtN d ρ' => rw [hq] at p; exact PO.mono (E := E) (e2.trans e3) (o := .rtN d ρ') p
        | ex c ρ' => rw [hq] at p; exact PO.mono (E := E) (e2.trans e3) (o := .ex c ρ') p
        | bad => rw [hq] at p; exact p.elim
theorem x7a {c : Expr} {body : List Stmt} (n : Nat) (hp : ∀ tc tb, PT X c tc → PSs X body tb → PS X st (tWhile tc tb)) (hc : QT X cls W c tf) (hb : QB X cls W body sf) : QS X cls W st (sWhile n tf sf) := by
 obtain ⟨⟨t, p, s⟩, _⟩ := hc
 obtain ⟨⟨tb, pb, sb⟩⟩ := hb
 exact ⟨⟨_, hp t tb p pb, a4d s sb⟩⟩
end
theorem RepL.eraseIdx {K : PySem.W.Frag} {G : Hp} : ∀ {v : List V} {d : List D} (i : Nat), RepL K G v d → RepL K G (v.eraseIdx i) (d.eraseIdx i)
 | _, _, _, .nil => .nil
 | _, _, 0, .cons _ r => r
 | _, _, i + 1, .cons h r => .cons h (RepL.eraseIdx i r)
def opPopAt : D → List D → Option (D × D)
  | .lst ds, [.int i] => if -(2 ^ 63) ≤ i ∧ i < 2 ^ 63 then match seqIndex? i ds.length with
    | some k => match ds[k]? with
      | some y => some (y, .lst (ds.eraseIdx k))
      | none => none
    | none => none
    else none
  | _, _ => none
theorem a0c {K : PySem.W.Frag} : Mut1 K "list" rPopAt opPopAt := fun G H l d vs xs z d' ho rv ex h Q q => by
  unfold opPopAt at h
  split at h
  · rename_i ds i
    split at h
    · rename_i hi
      split at h
      · rename_i k hk
        split at h
        · rename_i y e
          cases h
          obtain ⟨ys, eh, r⟩ := ho
          obtain ⟨u, hu, ru⟩ := r.get e
          cases rv with
          | cons r1 r2 =>
            cases r2
            cases r1
            exact ⟨l, ys, i, k, u, rfl, rfl, eh, hi.1, hi.2, by rw [r.length]; exact hk, hu, q _ _ ru ⟨_, upd_same, r.eraseIdx k⟩⟩
        · cases h
      · cases h
    · cases h
  · cases h
theorem a5d {K : PySem.W.Frag} {G : Hp} {a : Addr} {x y : HO} (hG : G a = some x) (ht : ∀ xs, x ≠ .tup xs) (hl : ∀ xs, x ≠ .lst xs) (hf : ∀ o xs, x ≠ .frz o (.lst xs)) (hft : ∀ o xs, x ≠ .frz o (.tup xs)) (hi : ∀ C dx xs, x ≠ .ins C dx xs) (he : ∀ φ, x ≠ .ext φ)
  (hk : ∀ kvs, (x = .dK kvs ∨ ∃ o, x = .frz o (.dK kvs)) → (y = .dK kvs ∨ ∃ o, y = .frz o (.dK kvs))) (hT : ∀ kvs, (x = .dT kvs ∨ ∃ o, x = .frz o (.dT kvs)) → (y = .dT kvs ∨ ∃ o, y = .frz o (.dT kvs))) : Ext K G (upd G a y) := by
 refine ⟨fun b xs h => ?_, fun b o xs h => ?_, fun b C dx xs h => ?_, fun b xs h => ?_, fun b xs h => ?_, fun b xs h => ?_, fun b xs h => ?_, fun b φ h => (by rw [upd_ne (fun z => by rw [z, hG] at h; cases h; exact he _ rfl)]; exact h)⟩
 ·rw [upd_ne (fun z => by rw [z, hG] at h; cases h; exact ht _ rfl)]; exact h
 ·rw [upd_ne (fun z => by rw [z, hG] at h; cases h; exact hft _ _ rfl)]; exact h
 ·rw [upd_ne (fun z => by rw [z, hG] at h; cases h; exact hi _ _ _ rfl)]; exact h
 ·rw [upd_ne (fun z => by rw [z, hG] at h; cases h; exact hl _ rfl)]; exact h
 ·rcases h with h | h
  ·refine .inl ?_
   have ne : b ≠ a := fun z => by
    subst z
    rcases h with h | ⟨o, h⟩ <;> rw [hG] at h <;> cases h
    ·exact hl _ rfl
    ·exact hf _ _ rfl
   rcases h with h | ⟨o, h⟩
   ·exact .inl (by rw [upd_ne ne]; exact h)
   ·exact .inr ⟨o, by rw [upd_ne ne]; exact h⟩
  ·exact .inr h
 ·by_cases z : b = a
  ·subst z
   have h2 : x = .dK xs ∨ ∃ o, x = .frz o (.dK xs) := by
    rcases h with h | ⟨o, h⟩ <;> rw [hG] at h <;> cases h
    ·exact .inl rfl
    ·exact .inr ⟨o, rfl⟩
   rcases hk xs h2 with h | ⟨o, h⟩
   ·exact .inl (by rw [upd_same, h])
   ·exact .inr ⟨o, by rw [upd_same, h]⟩
  ·rcases h with h | ⟨o, h⟩
   ·exact .inl (by rw [upd_ne z]; exact h)
   ·exact .inr ⟨o, by rw [upd_ne z]; exact h⟩
 ·by_cases z : b = a
  ·subst z
   have h2 : x = .dT xs ∨ ∃ o, x = .frz o (.dT xs) := by
    rcases h with h | ⟨o, h⟩ <;> rw [hG] at h <;> cases h
    ·exact .inl rfl
    ·exact .inr ⟨o, rfl⟩
   rcases hT xs h2 with h | ⟨o, h⟩
   ·exact .inl (by rw [upd_same, h])
   ·exact .inr ⟨o, by rw [upd_same, h]⟩
  ·rcases h with h | ⟨o, h⟩
   ·exact .inl (by rw [upd_ne z]; exact h)
   ·exact .inr ⟨o, by rw [upd_ne z]; exact h⟩
theorem p0c {K : PySem.W.Frag} {G : Hp} {a : Addr} {kvs : List (Key × V)} {o : PySem.Obj} (hG : G a = some (.dK kvs)) : Ext K G (upd G a (.frz o (.dK kvs))) :=
 a5d hG (fun _ z => by cases z) (fun _ z => by cases z) (fun _ _ z => by cases z) (fun _ _ z => by cases z) (fun _ _ _ z => by cases z) (fun _ z => by cases z) (fun k h => by
  rcases h with h | ⟨o, h⟩ <;> cases h
  exact .inr ⟨_, rfl⟩) (fun k h => by rcases h with h | ⟨o, h⟩ <;> cases h)
theorem u6c {K : PySem.W.Frag} {G : Hp} {a : Addr} {kvs : List (Key × V)} {o : PySem.Obj} (hG : G a = some (.frz o (.dK kvs))) : Ext K G (upd G a (.dK kvs)) :=
 a5d hG (fun _ z => by cases z) (fun _ z => by cases z) (fun _ _ z => by cases z) (fun _ _ z => by cases z) (fun _ _ _ z => by cases z) (fun _ z => by cases z) (fun k h => by
  rcases h with h | ⟨o, h⟩ <;> cases h
  exact .inl rfl) (fun k h => by rcases h with h | ⟨o, h⟩ <;> cases h)
def relk (H : Hp) (a : Addr) (w : HO) : Hp := match H a with
 | none => H
 | some _ => upd H a w
theorem j2b {H : Hp} {a b : Addr} {w : HO} (h : b ≠ a) : relk H a w b = H b := by
 unfold relk
 cases H a with
 | none => rfl
 | some o => exact upd_ne h
theorem v0a {H : Hp} {a : Addr} {w : HO} (h : H a = none) : relk H a w a = none := by
 unfold relk
 rw [h]
 exact h
theorem v1a {H : Hp} {a : Addr} {w o : HO} (h : H a = some o) : relk H a w a = some w := by
 unfold relk
 rw [h]
 exact upd_same
def Fm.lock (F : Fm) (a : Addr) (w : HO) : Fm := ⟨relk F.H0 a w, relk F.G0 a w, F.B⟩
section
variable {K : PySem.W.Frag} {F F' : Fm} {G H G' H' : Hp} {σ σ' : St} {ρ ρ' : List Sl} {cls : Nat → Value} {W : WX}
theorem CS.swap (c : CS K F G H σ ρ) {a : Addr} {x y : HO} (hG : G a = some x) (E : Ext K G (upd G a y)) (hB : F'.B = F.B) (h0 : ∀ b, b ≠ a → F'.H0 b = F.H0 b) (h1 : ∀ b, b ≠ a → F'.G0 b = F.G0 b)
  (k0 : (F'.H0 a = none ∧ F.H0 a = none) ∨ (F'.H0 a = some y ∧ F.H0 a ≠ none)) (k1 : (F'.G0 a = none ∧ F.G0 a = none) ∨ (F'.G0 a = some y ∧ F.G0 a ≠ none)) (hx : ∀ xs, x ≠ .tup xs := by intro _ z; cases z) : CS K F' (upd G a y) (upd H a y) σ ρ := by
 have keep : ∀ {l : Addr} {d : D}, Obj K G H l d → G l = none → Obj K (upd G a y) (upd H a y) l d ∧ (upd G a y) l = none ∧ l ≠ a := fun {l d} ho hl => by
  have ne : l ≠ a := fun z => by rw [z, hG] at hl; cases hl
  exact ⟨ho.mono E (upd_ne ne), by rw [upd_ne ne]; exact hl, ne⟩
 refine ⟨fun b o e => ?_, fun b o e => ?_, fun b o e hb => ?_, fun b e1 e2 => ?_, c.len, fun i d e => ?_, fun i d e => ?_, fun i d e => ?_, fun i l e => ?_, c.sep⟩
 ·by_cases z : b = a
  ·subst z; rw [upd_same] at e ⊢; exact e
  ·rw [upd_ne z] at e ⊢; exact c.ex _ _ e
 ·by_cases z : b = a
  ·subst z
   rcases k1 with ⟨q, _⟩ | ⟨q, _⟩
   ·rw [q] at e; cases e
   ·rw [q] at e; rw [upd_same]; exact e
  ·rw [h1 b z] at e; rw [upd_ne z]; exact c.g0 _ _ e
 ·by_cases z : b = a
  ·subst z
   rcases k0 with ⟨q, _⟩ | ⟨q, _⟩
   ·rw [q] at e; cases e
   ·rw [q] at e; rw [upd_same]; exact e
  ·rw [h0 b z] at e; rw [upd_ne z]; exact c.fr b o e fun i => by rw [← hB]; exact hb i
 ·by_cases z : b = a
  ·subst z
   rcases k1 with ⟨_, q⟩ | ⟨q, _⟩
   ·rcases c.gn b q (by rw [hG]; exact fun z => by cases z) with w | ⟨xs, w⟩
    ·rcases k0 with ⟨r, _⟩ | ⟨_, r⟩
     ·exact .inl r
     ·exact (r w).elim
    ·rw [hG] at w
     cases w
     exact (hx _ rfl).elim
   ·rw [q] at e1; cases e1
  ·rw [h1 b z] at e1; rw [upd_ne z] at e2 ⊢; rw [h0 b z]; exact c.gn b e1 e2
 ·obtain ⟨v, p, q⟩ := c.vals i d e
  exact ⟨v, p, q.ext E⟩
 ·obtain ⟨l, p, q, r, s⟩ := c.owns i d e
  obtain ⟨t1, t2, t3⟩ := keep q r
  exact ⟨l, p, t1, t2, by rw [h0 l t3]; exact s⟩
 ·obtain ⟨l, p, q, r, s⟩ := c.bors i d e
  obtain ⟨t1, t2, t3⟩ := keep q r
  exact ⟨l, p, t1, t2, by rw [hB]; exact s⟩
 ·rw [hB] at e
  exact c.bb i l e
theorem CS.notB (c : CS K F G H σ ρ) {a : Addr} {x : HO} (hG : G a = some x) : ∀ i, (i, a) ∉ F.B := fun i h => by
 obtain ⟨d, h1, h2⟩ := c.bb i a h
 obtain ⟨l, q1, _, q2, _⟩ := c.bors i d h1
 rw [h2] at q1
 cases q1
 rw [hG] at q2
 cases q2
theorem CS.lock (c : CS K F G H σ ρ) {a : Addr} {kvs : List (Key × V)} (o : PySem.Obj) (hG : G a = some (.dK kvs)) : CS K (F.lock a (.frz o (.dK kvs))) (upd G a (.frz o (.dK kvs))) (upd H a (.frz o (.dK kvs))) σ ρ := by
 refine c.swap hG (p0c hG) rfl (fun b z => j2b z) (fun b z => j2b z) ?_ ?_
 ·cases q : F.H0 a with
  | none => exact .inl ⟨v0a q, rfl⟩
  | some x => exact .inr ⟨v1a q, fun z => by cases z⟩
 ·cases q : F.G0 a with
  | none => exact .inl ⟨v0a q, rfl⟩
  | some x => exact .inr ⟨v1a q, fun z => by cases z⟩
theorem CS.unlock (c : CS K F G H σ ρ) {a : Addr} {kvs : List (Key × V)} {o : PySem.Obj} (hG : G a = some (.dK kvs)) (e' : Ex (upd G a (.frz o (.dK kvs))) G') (c' : CS K (F.lock a (.frz o (.dK kvs))) G' H' σ' ρ') :
    CS K F (upd G' a (.dK kvs)) (upd H' a (.dK kvs)) σ' ρ' ∧ Ex G (upd G' a (.dK kvs)) ∧ H' a = some (.frz o (.dK kvs)) ∧ Ext K G' (upd G' a (.dK kvs)) := by
  have hG' : G' a = some (.frz o (.dK kvs)) := e' a _ upd_same
  have hx := u6c (K := K) hG'
  refine ⟨c'.swap hG' hx rfl (fun b z => (j2b z).symm) (fun b z => (j2b z).symm) ?_ ?_, fun b x e => ?_, c'.ex _ _ hG', hx⟩
  · cases q : F.H0 a with
    | none => exact .inl ⟨rfl, v0a q⟩
    | some x =>
      have h1 := c.fr a x q (c.notB hG)
      have h2 := c.ex _ _ hG
      rw [h1] at h2
      cases h2
      exact .inr ⟨rfl, by rw [show (F.lock a (.frz o (.dK kvs))).H0 a = some _ from v1a q]; exact fun z => by cases z⟩
  · cases q : F.G0 a with
    | none => exact .inl ⟨rfl, v0a q⟩
    | some x =>
      have h1 := c.g0 a x q
      rw [hG] at h1
      cases h1
      exact .inr ⟨rfl, by rw [show (F.lock a (.frz o (.dK kvs))).G0 a = some _ from v1a q]; exact fun z => by cases z⟩
  · by_cases z : b = a
    · subst z; rw [hG] at e; cases e; exact upd_same
    · rw [upd_ne z]
      exact e' b x (by rw [upd_ne z]; exact e)
theorem Fr.unlock {l a : Addr} {d : D} {u y : HO} (f : Fr K (F.lock a y) G H σ ρ l d) (hG : G a = some y) (E : Ext K G (upd G a u)) : Fr K F (upd G a u) (upd H a u) σ ρ l d := by
 have ne : l ≠ a := fun z => by have := f.g; rw [z, hG] at this; cases this
 refine ⟨f.obj.mono E (upd_ne ne), by rw [upd_ne ne]; exact f.g, ?_, f.nm⟩
 have := f.h0
 rwa [show (F.lock a y).H0 l = F.H0 l from j2b ne] at this
end
def plV (i : Nat) (ρ : List Sl) : Option D := match ρ[i]? with
 | some (.val d) => some d
 | _ => none
structure Place (K : PySem.W.Frag) (te : TE) (pl : List Sl → Option D) : Prop where
 find : ∀ F ρ σ G H d, CS K F G H σ ρ → pl ρ = some d → ∃ v, Rep K G v d ∧ (∀ Q : VK, Q v H → te σ H Q) ∧ ∀ a kvs o, G a = some (.dK kvs) → ∀ Q : VK, Q v (upd H a (.frz o (.dK kvs))) → te σ (upd H a (.frz o (.dK kvs))) Q
theorem a1c {K : PySem.W.Frag} {i : Nat} : Place K (tVar i) (plV i) := ⟨fun F ρ σ G H d c h => by
 unfold plV at h
 split at h
 ·rename_i d' e
  cases h
  obtain ⟨v, hv, r⟩ := c.vals i d e
  exact ⟨v, r, fun Q q => ⟨v, hv, q⟩, fun a kvs o _ Q q => ⟨v, hv, q⟩⟩
 ·cases h⟩
def kD : Key → D
 | .inl i => .int i
 | .inr x => .str x
theorem v0d {K : PySem.W.Frag} {G : Hp} (k : Key) : Rep K G (kV k) (kD k) := by
 cases k with
 | inl i => exact .int i
 | inr x => exact .str x
structure DWalk (K : PySem.W.Frag) (wi : TE → TI) (mk : List (Key × D) → List D) : Prop where
 walk : ∀ te σ H a o xs kvs G, G a = some (.frz o (.dK xs)) → H a = some (.frz o (.dK xs)) → RepK K G xs kvs → (∀ Q : VK, Q (.ref a) H → te σ H Q) → ∀ Q : It → Hp → Prop, (∀ J, Walks K J G (mk kvs) → Q J H) → wi te σ H Q
def iDct (pl : List Sl → Option D) (mk : List (Key × D) → List D) : M (List D) := fun ρ => match pl ρ with
 | some (.dK kvs) => .ok (mk kvs) ρ
 | _ => .bad
theorem h6c {pl : List Sl → Option D} {mk : List (Key × D) → List D} {ρ : List Sl} {P : List D → List Sl → Prop} {E : Nat → List Sl → Prop} (h : wpR (iDct pl mk ρ) P E) : ∃ kvs, pl ρ = some (.dK kvs) ∧ P (mk kvs) ρ := by
 unfold iDct at h
 split at h
 ·rename_i kvs e
  exact ⟨kvs, e, h⟩
 ·exact h.elim
def mkKeys (kvs : List (Key × D)) : List D := kvs.map fun kv => kD kv.1
def mkVals (kvs : List (Key × D)) : List D := kvs.map fun kv => kv.2
def mkItems (kvs : List (Key × D)) : List D := kvs.map fun kv => .raw [kD kv.1, kv.2]
theorem RepK.get {K : PySem.W.Frag} {G : Hp} : ∀ {v : List (Key × V)} {d : List (Key × D)} {i : Nat} {x : Key × D}, RepK K G v d → d[i]? = some x → ∃ u, v[i]? = some (x.1, u) ∧ Rep K G u x.2
  | _, _, _, _, .nil, e => by simp at e
  | _, _, 0, _, .cons h _, e => by simp at e; subst e; exact ⟨_, rfl, h⟩
  | _, _, i + 1, x, .cons _ r, e => by
    obtain ⟨u, h1, h2⟩ := RepK.get (i := i) (x := x) r (by simpa using e)
    exact ⟨u, by simpa using h1, h2⟩
theorem v1d {α β : Type} {f : α → β} {l : List α} {i : Nat} {y : β} (h : (l.map f)[i]? = some y) : ∃ x, l[i]? = some x ∧ f x = y := by
 rw [i3e] at h
 cases q : l[i]? with
 | none => rw [q] at h; cases h
 | some x => rw [q] at h; cases h; exact ⟨x, rfl, rfl⟩
theorem u7c {K : PySem.W.Frag} {G : Hp} {a : Addr} {o : PySem.Obj} {xs : List (Key × V)} {kvs : List (Key × D)} (h : G a = some (.frz o (.dK xs))) (r : RepK K G xs kvs) : Walks K (Itk a o xs) G (mkKeys kvs) := fun F G1 H1 σ ρ e1 c1 => by
 have h1 : H1 a = some (.frz o (.dK xs)) := c1.ex _ _ (e1 _ _ h)
 refine ⟨fun i d hd => ?_, ⟨h1, by rw [r.length]; unfold mkKeys; rw [g8e]; exact j0e _⟩⟩
 obtain ⟨kv, hk, e⟩ := v1d hd
 subst e
 obtain ⟨u, hu, ru⟩ := r.get hk
 refine ⟨⟨h1, (List.getElem?_eq_some_iff.mp hu).1⟩, fun x H2 ⟨e, k, v, q, y⟩ => ?_⟩
 subst e
 rw [hu] at q
 cases q
 subst y
 exact ⟨G1, Same.refl G1, c1, v0d _⟩
theorem a6d {K : PySem.W.Frag} : DWalk K iKeys mkKeys := ⟨fun te σ H a o xs kvs G hG hH r ht Q q => ht _ ⟨a, o, rfl, .inl ⟨xs, hH, q _ (u7c hG r)⟩⟩⟩
def sCalm (f : MS) : MS := fun ρ => match f ρ with
 | .ex _ _ => .bad
 | o => o
theorem PS.or {X : Cx} {st : Stmt} {t u : TS} (h1 : PS X st t) (h2 : PS X st u) : PS X st (fun D σ H => t D σ H ∨ u D σ H) := ⟨fun pins s σ H D I h => h.elim (h1.run pins s σ H D I) (h2.run pins s σ H D I)⟩
theorem PE.or {X : Cx} {e : Expr} {t u : TE} (h1 : PE X e t) (h2 : PE X e u) : PE X e (fun σ H Q => t σ H Q ∨ u σ H Q) := ⟨fun pins s σ H D I h => h.elim (h1.run pins s σ H D I) (h2.run pins s σ H D I)⟩
section
variable {X : Cx} {cls : Nat → Value} {W : WX} {e a b : Expr} {es : List Expr} {f g : M D} {tf : M Bool} {pos : Pos} {sf sg : MS} {st : Stmt} {sts : List Stmt}
theorem a7d {K : PySem.W.Frag} {te : TE} {pl : List Sl → Option D} {wi : TE → TI} {mk : List (Key × D) → List D} {g : TG} {m : MG} {tt : TT} {tm : M Bool} {tx : TE} {em : M D} {vs ts : List Nat} (hpl : Place K te pl) (hw : DWalk K wi mk) (hg : SimG K g m ts) (ht : SimT K cls noW tt tm) (he : SimE K cls noW tx em) (hts : ∀ t ∈ ts, t ∈ vs) :
    SimN K cls W (fun σ H Q => tLc (wi te) g tt tx vs σ H Q ∨ tLockE (tLc (wi te) g tt tx vs) σ H Q) (eComp (iDct pl mk) m tm em vs) := fun F ρ σ G H c Q w => by
  obtain ⟨kvs, hk, _⟩ := h6c (a8a w)
  obtain ⟨v, r, ev, evl⟩ := hpl.find F ρ σ G H _ c hk
  have nex : ∀ c ρ', eComp (iDct pl mk) m tm em vs ρ ≠ .ex c ρ' := fun c ρ' h => by
    have key : ∀ (ds acc : List D) (ρ : List Sl), compL m tm em vs ds acc ρ ≠ .ex c ρ' := fun ds => by
      induction ds with
      | nil => exact fun acc ρ h => by cases h
      | cons d ds ih =>
        intro acc ρ h
        unfold compL at h
        split at h
        · split at h
          · cases h
          · split at h
            · split at h
              · split at h
                · exact ih _ _ h
                · cases h
              · cases h
            · exact ih _ _ h
            · cases h
        · cases h
    unfold eComp mbind iDct at h
    rw [hk] at h
    dsimp only at h
    cases q : compL m tm em vs (mk kvs) [] ρ with
    | ok ys ρ1 => rw [q] at h; cases h
    | ex c1 ρ1 => rw [q] at h; cases h; exact key _ _ _ q
    | bad => rw [q] at h; cases h
  cases r with
  | dK hd rk =>
    rename_i a xs
    rcases hd with hd | ⟨o, hd⟩
    · refine .inr ⟨a, .dK xs, c.ex _ _ hd, trivial, fun od => ?_⟩
      have c1 := c.lock od hd
      have rk1 := rk.ext (p0c (o := od) hd)
      refine p8a (W := W) (fi := iDct pl mk) (F := F.lock a (.frz od (.dK xs))) (ρ := ρ) (G := upd G a (.frz od (.dK xs))) (fun Q q => ?_) hg ht he hts _ ?_
      · obtain ⟨kvs', e1, q⟩ := h6c q
        rw [hk] at e1
        cases e1
        exact hw.walk te σ _ a od xs kvs _ upd_same upd_same rk1 (evl a xs od hd) Q fun J wk => q J _ _ (Same.refl _) c1 wk
      · cases ho : eComp (iDct pl mk) m tm em vs ρ with
        | ex c ρ' => exact (nex c ρ' ho).elim
        | bad => rw [ho] at w; exact w
        | ok d ρ' =>
          rw [ho] at w
          intro l G' H' e' c' fr
          obtain ⟨k1, k2, k3, k4⟩ := c.unlock hd e' c'
          exact ⟨k3, w l _ _ k2 k1 (fr.unlock (e' a _ upd_same) k4)⟩
    · refine .inl (p8a (W := W) (fi := iDct pl mk) (F := F) (ρ := ρ) (G := G) (fun Q q => ?_) hg ht he hts _ w)
      obtain ⟨kvs', e1, q⟩ := h6c q
      rw [hk] at e1
      cases e1
      exact hw.walk te σ H a o xs kvs G hd (c.ex _ _ hd) rk ev Q fun J wk => q J G H (Same.refl _) c wk
theorem u8c {pl : List Sl → Option D} {mk : List (Key × D) → List D} : Inert (iDct pl mk) := fun ρ n a ρ' h => by
 unfold iDct at h
 split at h
 ·cases h; rfl
 ·cases h
variable {elt tg iter : Expr} {ifs : List Expr} {scope : Scope} {own : List (Str × Nat)} {m : MG} {tm : M Bool} {em : M D} {vs ts : List Nat}
theorem a8d {te : TE} {pl : List Sl → Option D} {wi : TE → TI} {mk : List (Key × D) → List D} (hpi : PI X tg iter (wi te)) (hpl : Place X.K te pl) (hw : DWalk X.K wi mk) (hc : X.calm = true) (hN : X.N.Nodup) (ok : BlkOk X.N X.env.scope scope own)
  (hg : ∀ (s : Shared) (H : Hp) (C : Addr) (cl : List (Str × Addr)) (fp : List Addr), QG (X.blk s H scope (compEnvC scope cl C X.env) fp) tg m ts)
  (ht : ∀ (s : Shared) (H : Hp) (C : Addr) (cl : List (Str × Addr)) (fp : List Addr), QTs (X.blk s H scope (compEnvC scope cl C X.env) fp) cls noW ifs tm)
  (he : ∀ (s : Shared) (H : Hp) (C : Addr) (cl : List (Str × Addr)) (fp : List Addr), QE (X.blk s H scope (compEnvC scope cl C X.env) fp) cls noW elt em)
  (gok : GOk m ts) (hvs : own.map (·.2) = vs) (hts : ∀ t ∈ ts, t ∈ vs) (hs : ∀ x, foldedSetIterable iter X.env x = pure x := by intro _; rfl) :
  QN X cls W (.ListComp elt [⟨tg, iter, ifs, 0⟩] scope pos) (eComp (iDct pl mk) m tm em vs) := by
 subst hvs
 have p := pe_lc hc hN hpi ok (g := tOfG X.K m ts) (tt := tOfT X.K cls noW tm) (te := tOfE X.K cls noW em) (fun s H C cl fp => (hg s H C cl fp).pg) (fun s H C cl fp => (ht s H C cl fp).pt) (fun s H C cl fp => (he s H C cl fp).pe) hs (pos := pos)
 exact ⟨⟨_, PE.or p (pe_lock p), a7d hpl hw h6b h5b h4b hts⟩, x2a u8c gok hts (ht X.s_0 X.H_0 0 [] []).inert (he X.s_0 X.H_0 0 [] []).inert⟩
variable {fi : M (List D)}
theorem a9d (i : Nat) {y : Str} {py spos : Pos} (hc : X.calm = true) (hN : X.N.Nodup) (hy : X.N[i]? = some y) (hyl : X.env.scope.names.lookup y = some .local)
  (hsw : swapsWith (.ListComp elt [⟨tg, iter, ifs, 0⟩] scope pos) (some (.Name y py)) spos.line X.env = pure true) (hi : QI X cls W tg iter fi) (ok : BlkOk X.N X.env.scope scope own)
  (hg : ∀ (s : Shared) (H : Hp) (C : Addr) (cl : List (Str × Addr)) (fp : List Addr), QG (X.blk s H scope (compEnvC scope cl C X.env) fp) tg m ts)
  (ht : ∀ (s : Shared) (H : Hp) (C : Addr) (cl : List (Str × Addr)) (fp : List Addr), QTs (X.blk s H scope (compEnvC scope cl C X.env) fp) cls noW ifs tm)
  (he : ∀ (s : Shared) (H : Hp) (C : Addr) (cl : List (Str × Addr)) (fp : List Addr), QE (X.blk s H scope (compEnvC scope cl C X.env) fp) cls noW elt em)
  (gok : GOk m ts) (hvs : own.map (·.2) = vs) (hts : ∀ t ∈ ts, t ∈ vs) (hs : ∀ x, foldedSetIterable iter X.env x = pure x := by intro _; rfl) :
  QS X cls W (.Assign [.Name y py] (.ListComp elt [⟨tg, iter, ifs, 0⟩] scope pos) spos) (sSetN i (eViewN (eComp fi m tm em vs))) := by
 obtain ⟨⟨wi, pi, si⟩, ii⟩ := hi
 subst hvs
 exact ⟨⟨_, ps_setLc hc hN hy hyl hsw pi ok (g := tOfG X.K m ts) (tt := tOfT X.K cls noW tm) (te := tOfE X.K cls noW em) (fun s H C cl fp => (hg s H C cl fp).pg) (fun s H C cl fp => (ht s H C cl fp).pt) (fun s H C cl fp => (he s H C cl fp).pe) hs, p8b (y6b (a4b si h6b h5b h4b hts) (x2a ii gok hts (ht X.s_0 X.H_0 0 [] []).inert (he X.s_0 X.H_0 0 [] []).inert))⟩⟩
end
end NT
set_option Elab.async false
set_option linter.all false
set_option maxRecDepth 100000
set_option maxHeartbeats 4000000
namespace NT
open PySem L2
class KW where
 N : List Sl → Prop
 R : D → List Sl → Prop
 RN : D → List Sl → Prop
 E : Nat → Prop
def wO0 (o : O) (k : KW) : Prop := match o with
 | .nx ρ => k.N ρ
 | .rt d ρ => k.R d ρ
 | .rtN d ρ => k.RN d ρ
 | .ex c _ => k.E c
 | .bad => False
structure wO (o : O) [k : KW] : Prop where
 out : wO0 o k
theorem wO.g {o : O} {k : KW} (h : wO o (k := k)) : wO0 o k := @wO.out o k h
theorem wO.c {o : O} {k : KW} (h : wO0 o k) : wO o (k := k) := @wO.mk o k h
section
variable {k : KW} {kn : KN} {ρ : List Sl} {d : D} {c : Nat} {o : O}
theorem l1d : wO (.nx ρ) (k := k) = k.N ρ := propext ⟨fun h => h.g, fun h => .c h⟩
theorem l2d : wO (.rt d ρ) (k := k) = k.R d ρ := propext ⟨fun h => h.g, fun h => .c h⟩
theorem p1c : wO (.rtN d ρ) (k := k) = k.RN d ρ := propext ⟨fun h => h.g, fun h => .c h⟩
theorem l3d : wO (.ex c ρ) (k := k) = k.E c := propext ⟨fun h => h.g, fun h => .c h⟩
theorem q4d (h : wO o (k := ⟨fun ρ => wO (kn.run ρ) (k := k), k.R, k.RN, k.E⟩)) : wO (nxt o (k := kn)) (k := k) := by
 cases o with
 | nx ρ => exact h.g
 | rt d ρ => exact (.c h.g)
 | rtN d ρ => exact (.c h.g)
 | ex c ρ => exact (.c h.g)
 | bad => exact (.c h.g)
theorem e8a {d : D} (h : wO o (k := ⟨fun _ => False, fun d' _ => d' = d, fun _ _ => False, fun _ => False⟩)) : ∃ ρ', o = .rt d ρ' := by
 cases o with
 | rt d' ρ => exact ⟨ρ, by rw [show d' = d from h.g]⟩
 | _ => exact h.g.elim
theorem b0d {d : D} (h : wO o (k := ⟨fun _ => False, fun _ _ => False, fun d' _ => d' = d, fun _ => False⟩)) : ∃ ρ', o = .rtN d ρ' := by
 cases o with
 | rtN d' ρ => exact ⟨ρ, by rw [show d' = d from h.g]⟩
 | _ => exact h.g.elim
theorem p2c {P : D → List Sl → Prop} (h : wO o (k := ⟨fun _ => False, P, fun _ _ => False, fun _ => False⟩)) : ∃ d ρ', o = .rt d ρ' ∧ P d ρ' := by
 cases o with
 | rt d' ρ => exact ⟨d', ρ, rfl, h.g⟩
 | _ => exact h.g.elim
end
def rtb : O → Option (D × Sl)
 | .rt d (s :: _) => some (d, s)
 | _ => none
theorem p3c {d : D} {s : Sl} {ρ : List Sl} : rtb (.rt d (s :: ρ)) = some (d, s) := id rfl
theorem b1d {o : O} {d : D} {s : Sl} (h : rtb o = some (d, s)) : ∃ ρ', o = .rt d (s :: ρ') := by
  cases o with
  | rt e ρ =>
    cases ρ with
    | nil => cases h
    | cons a b => cases h; exact ⟨b, rfl⟩
  | _ => cases h
def stp (m : MG) (b : MS) (d : D) (ρ : List Sl) : O := optO (m d ρ) (k := ⟨fun ρ => b ρ⟩)
theorem k4a {m : MG} {b : MS} {d : D} {ρ : List Sl} : stp m b d ρ = optO (m d ρ) (k := ⟨fun ρ => b ρ⟩) := id rfl
theorem h7a {m : MG} {b : MS} {d : D} {ds : List D} {ρ : List Sl} : loop m b (d :: ds) ρ = nxt (stp m b d ρ) (k := ⟨fun ρ => loop m b ds ρ⟩) := by
 rw [e1a, k4a]
 cases m d ρ <;> rfl
section
variable {m : MG} {b : MS} {kn : KN} {k : KW} {ρ : List Sl} {α : Type}
theorem h7c {f : α → D} {N : List Sl → Prop} (I : List α → List Sl → Prop) (hs : ∀ x xs ρ, I (x :: xs) ρ → wO (stp m b (f x) ρ) (k := ⟨fun ρ2 => I xs ρ2, k.R, k.RN, k.E⟩)) (hd : ∀ ρ, I [] ρ → k.N ρ) : ∀ {xs : List α} {ρ : List Sl}, I xs ρ → wO (loop m b (xs.map f) ρ) (k := k)
  | [], ρ, h0 => .c (hd ρ h0)
  | x :: xs, ρ, h0 => by
    rw [h3e, h7a]
    have h := hs x xs ρ h0
    cases q : stp m b (f x) ρ with
    | nx ρ2 => rw [q] at h; exact h7c (N := N) I hs hd h.g
    | rt d ρ2 => rw [q] at h; exact (.c h.g)
    | rtN d ρ2 => rw [q] at h; exact (.c h.g)
    | ex c ρ2 => rw [q] at h; exact (.c h.g)
    | bad => rw [q] at h; exact h.g.elim
theorem v2a {f : α → D} {xs : List α} (I : List α → List Sl → Prop) (h0 : I xs ρ) (hs : ∀ x xs ρ, I (x :: xs) ρ → wO (stp m b (f x) ρ) (k := ⟨fun ρ2 => I xs ρ2, k.R, k.RN, k.E⟩)) (hd : ∀ ρ, I [] ρ → wO (kn.run ρ) (k := k)) : wO (nxt (loop m b (xs.map f) ρ) (k := kn)) (k := k) :=
 q4d (h7c (k := ⟨fun ρ => wO (kn.run ρ) (k := k), k.R, k.RN, k.E⟩) (N := k.N) I hs (fun ρ h => hd ρ h) h0)
theorem j3b {xs : List D} (I : List D → List Sl → Prop) (h0 : I xs ρ) (hs : ∀ x xs ρ, I (x :: xs) ρ → wO (stp m b x ρ) (k := ⟨fun ρ2 => I xs ρ2, k.R, k.RN, k.E⟩)) (hd : ∀ ρ, I [] ρ → wO (kn.run ρ) (k := k)) : wO (nxt (loop m b xs ρ) (k := kn)) (k := k) := by
 have h := v2a (f := id) (m := m) (b := b) (kn := kn) (k := k) (xs := xs) I h0 hs hd
 rwa [List.map_id] at h
def calmO (o : O) : O := match o with
 | .ex _ _ => .bad
 | o => o
theorem e7b {f : MS} : sCalm f ρ = calmO (f ρ) := id (by unfold sCalm calmO; cases f ρ <;> rfl)
class KT where
 run : Bool → List Sl → Prop
def wT0 (r : R Bool) (k : KT) : Prop := match r with
 | .ok v ρ => k.run v ρ
 | _ => False
structure wT (r : R Bool) [k : KT] : Prop where
 out : wT0 r k
theorem wT.g {o : R Bool} {k : KT} (h : wT o (k := k)) : wT0 o k := @wT.out o k h
theorem wT.c {o : R Bool} {k : KT} (h : wT0 o k) : wT o (k := k) := @wT.mk o k h
theorem l4d {v : Bool} {kt : KT} : wT (.ok v ρ) (k := kt) = kt.run v ρ := propext ⟨fun h => h.g, fun h => .c h⟩
theorem j7a {n : Nat} {t : M Bool} : sWhile n t b ρ = wloop t b n ρ := id rfl
theorem p4c {t : M Bool} (I : Nat → List Sl → Prop) (hs : ∀ m ρ, I m ρ → wT (t ρ) (k := ⟨fun v ρ1 => (v = true → wO (b ρ1) (k := ⟨fun ρ2 => ∃ m', m' < m ∧ I m' ρ2, k.R, k.RN, k.E⟩)) ∧ (v = false → k.N ρ1)⟩)) : ∀ {n m : Nat} {ρ : List Sl}, I m ρ → m < n → wO (wloop t b n ρ) (k := k)
  | 0, m, ρ, _, h => (by omega)
  | n + 1, m, ρ, h0, hn => by
    have h := hs m ρ h0
    unfold wloop
    cases q : t ρ with
    | ok v ρ1 =>
      rw [q] at h
      cases v with
      | false => exact (.c (h.g.2 rfl))
      | true =>
        have h := h.g.1 rfl
        dsimp only
        cases q2 : b ρ1 with
        | nx ρ2 =>
          rw [q2] at h
          obtain ⟨m', hm, hi⟩ := h.g
          exact p4c I hs hi (by omega)
        | rt d ρ2 => rw [q2] at h; exact (.c h.g)
        | rtN d ρ2 => rw [q2] at h; exact (.c h.g)
        | ex c ρ2 => rw [q2] at h; exact (.c h.g)
        | bad => rw [q2] at h; exact h.g.elim
    | ex c ρ1 => rw [q] at h; exact h.g.elim
    | bad => rw [q] at h; exact h.g.elim
theorem p5c {t : M Bool} {n : Nat} (I : Nat → List Sl → Prop) (m0 : Nat) (h0 : I m0 ρ) (hn : m0 < n) (hs : ∀ m ρ, I m ρ → wT (t ρ) (k := ⟨fun v ρ1 => (v = true → wO (b ρ1) (k := ⟨fun ρ2 => ∃ m', m' < m ∧ I m' ρ2, k.R, k.RN, k.E⟩)) ∧ (v = false → wO (kn.run ρ1) (k := k))⟩)) : wO (nxt (wloop t b n ρ) (k := kn)) (k := k) :=
 q4d (p4c (k := ⟨fun ρ => wO (kn.run ρ) (k := k), k.R, k.RN, k.E⟩) I hs h0 hn)
end
theorem p6c : ((0 : Nat) : Int) = 0 := id rfl
theorem p7c : ((1 : Nat) : Int) = 1 := id rfl
theorem p8c : ((2 : Nat) : Int) = 2 := id rfl
theorem p9c : ((3 : Nat) : Int) = 3 := id rfl
theorem q0c : ((4 : Nat) : Int) = 4 := id rfl
theorem q1c : ((5 : Nat) : Int) = 5 := id rfl
theorem q2c : ((6 : Nat) : Int) = 6 := id rfl
theorem q3c : ((7 : Nat) : Int) = 7 := id rfl
theorem q4c : ((8 : Nat) : Int) = 8 := id rfl
structure Hid (p : Prop) : Prop where
 out : p
theorem q2a {n : Nat} (h : n < 1000000) : n < fuel := h
theorem v2d {i : Nat} {e : M D} {f : D → D} {items : List D} {ρ : List Sl} (hf : isFree ρ[i]? = true) (hl : items.length ≤ 100000) (he : ∀ d ∈ items, e (ρ.set i (.val d)) = .ok (f d) (ρ.set i (.val d))) : compL (gN i) (mpure true) e [i] items [] ρ = .ok (items.map f) ρ := by
 rw [o1a hf (by rw [i5e]; omega) (fun d hd => by rw [l2e]; exact he d hd), i0e]
theorem v3a {α : Type} {i : Nat} {e : M D} {g : α → D} {f : α → D} {xs : List α} {ρ : List Sl} (hf : isFree ρ[i]? = true) (hl : xs.length ≤ 100000) (he : ∀ x ∈ xs, e (ρ.set i (.val (g x))) = .ok (f x) (ρ.set i (.val (g x)))) : compL (gN i) (mpure true) e [i] (xs.map g) [] ρ = .ok (xs.map f) ρ := by
  have key : ∀ (xs : List α) (acc : List D), acc.length + xs.length ≤ 100000 → (∀ x ∈ xs, e (ρ.set i (.val (g x))) = .ok (f x) (ρ.set i (.val (g x)))) → compL (gN i) (mpure true) e [i] (xs.map g) acc ρ = .ok (acc ++ xs.map f) ρ := fun xs => by
    induction xs with
    | nil => intro acc _ _; rw [j6e, j6e, h5e]; rfl
    | cons x xs ih =>
      intro acc hl he
      obtain ⟨s, hs⟩ : ∃ s, ρ[i]? = some s := by
        cases q : ρ[i]? with
        | none => rw [q] at hf; cases hf
        | some s => exact ⟨s, rfl⟩
      have hlt : i < ρ.length := (List.getElem?_eq_some_iff.mp hs).1
      have hall : (([i] : List Nat).all fun v => isFree ρ[v]?) = true := by simp [hf]
      rw [h3e]
      unfold compL
      rw [if_pos hall]
      have hm : gN i (g x) (wipeS ρ [i]) = some (ρ.set i (.val (g x))) := by
        show (if notBor (ρ.set i Sl.no)[i]? = true then some ((ρ.set i Sl.no).set i _) else none) = _
        rw [i1e hlt, l2e]
        rfl
      rw [hm]
      dsimp only [mpure]
      rw [he x h1e]
      dsimp only
      rw [h0e] at hl
      rw [if_pos (by omega)]
      have hb : backS ρ (ρ.set i (.val (g x))) [i] = ρ := by
        show (ρ.set i (.val (g x))).set i (ρ.getD i .no) = ρ
        rw [l2e, j1e, hs]
        exact j6a hs
      rw [hb, ih _ (by rw [g9e, h8e]; omega) fun x hx => he x (h2e _ hx), h4e, h3e]
      rfl
  have := key xs [] (by rw [i5e]; omega) he
  rwa [i0e] at this
theorem m3a {α : Type} {i : Nat} {t : M Bool} {e : M D} {g : α → D} {p : α → Bool} {f : α → D} {xs : List α} {ρ : List Sl} (hf : isFree ρ[i]? = true) (hl : xs.length ≤ 100000) (ht : ∀ x ∈ xs, t (ρ.set i (.val (g x))) = .ok (p x) (ρ.set i (.val (g x)))) (he : ∀ x ∈ xs, p x = true → e (ρ.set i (.val (g x))) = .ok (f x) (ρ.set i (.val (g x)))) : compL (gN i) t e [i] (xs.map g) [] ρ = .ok ((xs.filter p).map f) ρ := by
  have key : ∀ (xs : List α) (acc : List D), acc.length + xs.length ≤ 100000 → (∀ x ∈ xs, t (ρ.set i (.val (g x))) = .ok (p x) (ρ.set i (.val (g x)))) → (∀ x ∈ xs, p x = true → e (ρ.set i (.val (g x))) = .ok (f x) (ρ.set i (.val (g x)))) → compL (gN i) t e [i] (xs.map g) acc ρ = .ok (acc ++ (xs.filter p).map f) ρ := fun xs => by
    induction xs with
    | nil => intro acc _ _ _; rw [j6e, List.filter_nil, j6e, h5e]; rfl
    | cons x xs ih =>
      intro acc hl ht he
      obtain ⟨s, hs⟩ : ∃ s, ρ[i]? = some s := by
        cases q : ρ[i]? with
        | none => rw [q] at hf; cases hf
        | some s => exact ⟨s, rfl⟩
      have hlt : i < ρ.length := (List.getElem?_eq_some_iff.mp hs).1
      have hall : (([i] : List Nat).all fun v => isFree ρ[v]?) = true := by simp [hf]
      rw [h3e]
      unfold compL
      rw [if_pos hall]
      have hm : gN i (g x) (wipeS ρ [i]) = some (ρ.set i (.val (g x))) := by
        show (if notBor (ρ.set i Sl.no)[i]? = true then some ((ρ.set i Sl.no).set i _) else none) = _
        rw [i1e hlt, l2e]
        rfl
      rw [hm]
      have hb : backS ρ (ρ.set i (.val (g x))) [i] = ρ := by
        show (ρ.set i (.val (g x))).set i (ρ.getD i .no) = ρ
        rw [l2e, j1e, hs]
        exact j6a hs
      rw [h0e] at hl
      dsimp only
      rw [ht x h1e]
      cases hp : p x with
      | false =>
        dsimp only
        rw [hb, ih _ (by omega) (fun x hx => ht x (h2e _ hx)) (fun x hx => he x (h2e _ hx)), List.filter_cons_of_neg (by rw [hp]; exact k6e)]
      | true =>
        dsimp only
        rw [he x h1e hp]
        dsimp only
        rw [if_pos (by omega), hb, ih _ (by rw [g9e, h8e]; omega) (fun x hx => ht x (h2e _ hx)) (fun x hx => he x (h2e _ hx)), h4e, List.filter_cons_of_pos hp, h3e]
        rfl
  have := key xs [] (by rw [i5e]; omega) ht he
  rwa [i0e] at this
def dctI (s : Option Sl) (mk : List (Key × D) → List D) (ρ : List Sl) : R (List D) := match s with
 | some (.val (.dK kvs)) => .ok (mk kvs) ρ
 | _ => .bad
theorem u1b {i : Nat} {mk : List (Key × D) → List D} {ρ : List Sl} : iDct (plV i) mk ρ = dctI ρ[i]? mk ρ := id (by
  unfold iDct plV dctI
  cases q : ρ[i]? with
  | none => rfl
  | some s => cases s with
    | val d => cases d <;> rfl
    | _ => rfl)
theorem e8b {kvs : List (Key × D)} {mk : List (Key × D) → List D} {ρ : List Sl} : dctI (some (.val (.dK kvs))) mk ρ = .ok (mk kvs) ρ := id rfl
theorem q5c {ds : List D} {i : Int} {d : D} (h0 : 0 ≤ i) (h1 : i < 1000000) (h : ds[i.toNat]? = some d) : opPopAt (.lst ds) [.int i] = some (d, .lst (ds.eraseIdx i.toNat)) := by
  show (if -(2 ^ 63) ≤ i ∧ i < 2 ^ 63 then match seqIndex? i ds.length with
    | some k => match ds[k]? with
      | some y => some (y, D.lst (ds.eraseIdx k))
      | none => none
    | none => none
    else none) = _
  rw [if_pos (by omega)]
  have hl : i.toNat < ds.length := (List.getElem?_eq_some_iff.mp h).1
  have e : seqIndex? i ds.length = some i.toNat := by
    unfold seqIndex?
    simp only
    split <;> split <;> simp_all <;> omega
  rw [e]
  dsimp only
  rw [h]
end NT
set_option Elab.async false
set_option linter.all false
set_option maxRecDepth 100000
set_option maxHeartbeats 4000000
namespace PySem.W
open PySem PySem.Spec PySem.Calls PyProof.Rows
section
variable {M : Model} {K : Frag} {A : Around} {E : Value → Shared → Prop} {s : Shared}
end
end PySem.W
set_option Elab.async false
set_option linter.all false
set_option maxRecDepth 100000
set_option maxHeartbeats 4000000
namespace L2
open PySem PySem.Spec PyProof.Rows
def Tst (X : Cx) (e : Expr) (t : Value → Option Bool) : Prop :=
 ∀ {a : Addr} {oe : Obj} {pn : List (Addr × Obj)} {σ : St} {H : Hp} {s : Shared} {cls : Value} {b : Bool}, Inv (X.suite a ((a, oe) :: pn)) [] σ H s → PySem.W.Looks (model X.prog X.w) s.heap (typeOf (.ref a)) cls → t cls = some b →
  ∀ {Q : Bool → Shared → Prop} {E E' : Value → Shared → Prop}, (∀ h', (∀ b o, s.heap.get? b = some o → h'.get? b = some o) → Q b { s with heap := h' }) →
   wpAny (model X.prog X.w) (X.A.mark (some (.ref a))) (eval e X.env) (fun c s₁ => wpAny (model X.prog X.w) (X.A.mark (some (.ref a))) (excMatches (.ref a) c) Q E' s₁) E s
section
variable {X : Cx}
theorem Names.suite {x : Str} {c : Value} {a : Addr} {pn : List (Addr × Obj)} (h : Names X x c) : Names (X.suite a pn) x c := h
inductive NamesL (X : Cx) : List Expr → List Value → Prop
 | nil : NamesL X [] []
 | cons {x : Str} {c : Value} {np : Pos} {es : List Expr} {cs : List Value} (h : Names X x c) (r : NamesL X es cs) : NamesL X (.Name x np :: es) (c :: cs)
end
abbrev ClD := (Value → Option Bool) × Option Nat × (Addr → Value → Option Addr → TS)
def wCls (Wout : WX) (D : Ends) : List ClD → WX
 | [] => Wout
 | (t, none, ts) :: r => fun cls d σ H => ∃ b, t cls = some b ∧ (b = true → ∀ a, H a = none → ts a cls d D σ H) ∧ (b = false → wCls Wout D r cls d σ H)
 | (t, some i, ts) :: r => fun cls d σ H => ∃ b, t cls = some b ∧ (b = true → ∀ a, H a = none → ts a cls d { nx := fun σ' H' => D.nx (σ'.set i none) H', rt := D.rt, bk := fun σ' H' => D.bk (σ'.set i none) H', ct := fun σ' H' => D.ct (σ'.set i none) H' } (σ.set i (some (.ref a))) H) ∧ (b = false → wCls Wout D r cls d σ H)
inductive ClsOk (X : Cx) : List ExceptHandler → List ClD → Prop
 | nil : ClsOk X [] []
 | cons {e : Expr} {t : Value → Option Bool} {ts : Addr → Value → Option Addr → TS} {b₀ : Stmt} {suite : List Stmt} {pos' : Pos} {hds : List ExceptHandler} {l : List ClD} (hc : Tst X e t)
   (hsu : ∀ (a : Addr) (oe : Obj) (cls : Value) (d : Option Addr) (pn : List (Addr × Obj)), Zc cls d oe → (∃ vs, oe.data = .fields vs) → PSs (X.suite a ((a, oe) :: pn)) (b₀ :: suite) (ts a cls d)) (r : ClsOk X hds l) :
   ClsOk X (.ExceptHandler (some e) none (b₀ :: suite) pos' :: hds) ((t, none, ts) :: l)
 | consAs {e : Expr} {n : Str} {i : Nat} {t : Value → Option Bool} {ts : Addr → Value → Option Addr → TS} {b₀ : Stmt} {suite : List Stmt} {pos' : Pos} {hds : List ExceptHandler} {l : List ClD} (hc : Tst X e t) (hN : X.N.Nodup) (hi : X.N[i]? = some n) (hln : X.env.kindOf n = some .local)
   (hsu : ∀ (a : Addr) (oe : Obj) (cls : Value) (d : Option Addr) (pn : List (Addr × Obj)), Zc cls d oe → (∃ vs, oe.data = .fields vs) → PSs (X.suite a ((a, oe) :: pn)) (b₀ :: suite) (ts a cls d)) (r : ClsOk X hds l) :
   ClsOk X (.ExceptHandler (some e) (some n) (b₀ :: suite) pos' :: hds) ((t, some i, ts) :: l)
section
variable {X : Cx} {body : List Stmt} {h₀ : ExceptHandler} {hds : List ExceptHandler} {l : List ClD} {pos : Pos} {tb : WX → TS} {Wout : WX}
end
end L2
namespace NT
open PySem L2
def plainH (g : MS) : Nat → MS := fun _ ρ => match g ρ with
 | .ex _ _ => .bad
 | o => o
def nameH (i : Nat) (g : Nat → Addr → MS) : Nat → MS := fun c ρ => if isFree ρ[i]? then wipeO i (g c 0 (ρ.set i (.val (.exn 0)))) else .bad
def handG : List ((Nat → Option Bool) × (Nat → MS)) → Nat → MS
  | [], c => fun ρ => .ex c ρ
  | (t, g) :: r, c => fun ρ => match t c with
    | some true => g c ρ
    | some false => handG r c ρ
    | none => .bad
def sTryG (hs : List ((Nat → Option Bool) × (Nat → MS))) (f : MS) : MS := fun ρ => match f ρ with
 | .ex c ρ' => handG hs c ρ'
 | o => o
section
variable {X : Cx} {cls : Nat → Value} {W : WX}
inductive QHG (X : Cx) (cls : Nat → Value) : List ExceptHandler → List ((Nat → Option Bool) × (Nat → MS)) → Prop
 | nil : QHG X cls [] []
 | cons {e : Expr} {tv : Value → Option Bool} {t : Nat → Option Bool} {g : MS} {b₀ : Stmt} {suite : List Stmt} {pos' : Pos} {hds : List ExceptHandler} {hs : List ((Nat → Option Bool) × (Nat → MS))} (hc : Tst X e tv) (ht : ∀ c b, t c = some b → tv (cls c) = some b)
   (hsu : ∀ (a : Addr) (oe : PySem.Obj) (pn : List (Addr × PySem.Obj)), QB (X.suite a ((a, oe) :: pn)) cls noW (b₀ :: suite) g) (r : QHG X cls hds hs) :
   QHG X cls (.ExceptHandler (some e) none (b₀ :: suite) pos' :: hds) ((t, plainH g) :: hs)
 | consAs {e : Expr} {n : Str} {i : Nat} {tv : Value → Option Bool} {t : Nat → Option Bool} {g : Nat → Addr → MS} {b₀ : Stmt} {suite : List Stmt} {pos' : Pos} {hds : List ExceptHandler} {hs : List ((Nat → Option Bool) × (Nat → MS))} (hc : Tst X e tv) (hN : X.N.Nodup) (hi : X.N[i]? = some n) (hln : X.env.kindOf n = some .local) (ht : ∀ c b, t c = some b → tv (cls c) = some b)
   (hsu : ∀ (c : Nat) (a : Addr) (oe : PySem.Obj) (pn : List (Addr × PySem.Obj)), t c = some true → Zc (cls c) none oe → (∃ vs, oe.data = .fields vs) → QB (X.suite a ((a, oe) :: pn)) cls noW (b₀ :: suite) (g c a))
   (hnat : ∀ (c : Nat) (a : Addr) (ρ : List Sl), isFree ρ[i]? = true → wipeO i (g c a (ρ.set i (.val (.exn a)))) = wipeO i (g c 0 (ρ.set i (.val (.exn 0))))) (r : QHG X cls hds hs) :
   QHG X cls (.ExceptHandler (some e) (some n) (b₀ :: suite) pos' :: hds) ((t, nameH i g) :: hs)
end
end NT
set_option Elab.async false
set_option linter.all false
set_option maxRecDepth 100000
set_option maxHeartbeats 4000000
namespace L2
open NT (layT y1b)
open PySem PySem.Spec PyProof.Rows
section
variable {prog : Program} {w : World} {A : Around} {E : Value → Shared → Prop} {s : Shared}
end
section
variable {X : Cx}
def tRevT (K : PySem.W.Frag) (te : TE) : TE := fun σ H Q => te σ H fun x H1 => ∃ a xs, x = .ref a ∧ SqT K H1 a xs ∧ layT xs.reverse H1 Q
end
end L2
namespace NT
open PySem L2
section
variable {X : Cx} {cls : Nat → Value} {W : WX}
def opRev (d : D) : Option D := match d with
 | .tup ds => some (.tup ds.reverse)
 | _ => none
end
end NT
set_option Elab.async false
set_option linter.all false
set_option maxRecDepth 100000
set_option maxHeartbeats 4000000
namespace NT
open PySem L2
def lstIn : Option Sl → Option (List D)
 | some (.own (.lst xs)) => some xs
 | some (.bor (.lst xs)) => some xs
 | some (.val (.lst xs)) => some xs
 | _ => none
def eCatO (i : Nat) (g : M D) : M D := fun ρ => match lstIn ρ[i]? with
  | none => .bad
  | some _ => match g ρ with
    | .ok (.lst ys) ρ' => match lstIn ρ'[i]? with
      | some xs => if xs.length + ys.length ≤ 100000 then .ok (.lst (xs ++ ys)) ρ' else .bad
      | none => .bad
    | _ => .bad
section
variable {X : Cx} {cls : Nat → Value} {W : WX} {K : PySem.W.Frag} {F : Fm} {G H : Hp} {σ : St} {ρ : List Sl}
theorem CS.lstIn (c : CS K F G H σ ρ) {i : Nat} {xs : List D} (h : NT.lstIn ρ[i]? = some xs) : ∃ l vs, σ[i]? = some (some (.ref l)) ∧ H l = some (.lst vs) ∧ RepL K G vs xs := by
 unfold NT.lstIn at h
 split at h
 ·rename_i ys e
  cases h
  obtain ⟨l, h1, h2, _⟩ := c.owns i _ e
  obtain ⟨vs, h3, h4⟩ := h2
  exact ⟨l, vs, h1, h3, h4⟩
 ·rename_i ys e
  cases h
  obtain ⟨l, h1, h2, _⟩ := c.bors i _ e
  obtain ⟨vs, h3, h4⟩ := h2
  exact ⟨l, vs, h1, h3, h4⟩
 ·rename_i ys e
  cases h
  obtain ⟨v, h1, h2⟩ := c.vals i _ e
  cases h2 with
  | lst hx r => exact ⟨_, _, h1, c.ex _ _ hx, r⟩
 ·cases h
theorem q6c {i : Nat} {a b : Expr} {g : M D} {pos : Pos} (pa : PE X a (tVar i)) (hb : QE X cls W b g) : QN X cls W (.BinOp a .Add b pos) (eCatO i g) := by
 obtain ⟨⟨tb, pb, sb⟩, ib⟩ := hb
 refine ⟨⟨_, pe_op op_cat pa pb, fun F ρ σ G H c Q w => ?_⟩, fun ρ n d ρ' e => ?_⟩
 ·unfold eCatO at w
  split at w
  ·exact w.elim
  ·rename_i xs0 e0
   obtain ⟨l, vs0, h1, _, _⟩ := c.lstIn e0
   refine ⟨_, h1, sb F ρ σ G H c _ ?_⟩
   split at w
   ·rename_i ys ρ1 e1
    rw [e1]
    intro v2 G2 H2 e2 c2 r2
    split at w
    ·rename_i xs e3
     split at w
     ·rename_i hl
      obtain ⟨l', vs, h1', h2, h3⟩ := c2.lstIn e3
      rw [h1] at h1'
      cases h1'
      cases r2 with
      | lst hy r2 => exact ⟨_, _, _, _, rfl, rfl, h2, c2.ex _ _ hy, by rw [h3.length, r2.length]; exact p4b hl, fun q hq => k7a c2 (PNw.mono e2 w) (h3.append r2) hq⟩
     ·exact w.elim
    ·exact w.elim
   ·exact w.elim
 ·unfold eCatO at e
  split at e
  ·cases e
  ·split at e
   ·rename_i ys ρ1 e1
    split at e
    ·split at e
     ·cases e
      exact ib ρ n _ _ e1
     ·cases e
    ·cases e
   ·cases e
end
def opRepT : D → D → Option D
 | .tup (x :: xs), .int k => if (2 ≤ k ∧ k ≤ 1000 ∧ (x :: xs).length ≤ 1000) ∧ (x :: xs).all keyD = true then some (.tup (List.replicate k.toNat (x :: xs)).flatten) else none
 | _, _ => none
end NT
set_option Elab.async false
set_option linter.all false
set_option maxRecDepth 100000
set_option maxHeartbeats 4000000
namespace NT
open PySem L2
section
variable {X : Cx}
theorem CallR.or {f : Value} {r r' : List V → Hp → VK → Prop} (h : CallR X f r) (h' : CallR X f r') : CallR X f (fun xs H Q => r xs H Q ∨ r' xs H Q) := fun pins s σ H xs us Q I rv q =>
 q.elim (h pins s σ H xs us Q I rv) (h' pins s σ H xs us Q I rv)
def rDictT (K : PySem.W.Frag) : List V → Hp → VK → Prop := fun xs H Q => ∃ (a : Addr) (o : PySem.Obj) (ps : List Addr) (kvs : List (Key × V)), xs = [.ref a] ∧ H a = some (.frz o (.tup (ps.map V.ref))) ∧ o.dict = none ∧ Paired (fun p kv => SqT K H p [kV kv.1, kv.2]) ps kvs ∧
  ∀ p, H p = none → Q (.ref p) (upd H p (.dK (mergeK [] kvs)))
def pairsD : List D → Option (List (Key × D))
  | [] => some []
  | .tup [k, v] :: r => match keyK k, pairsD r with
    | some k, some r => some ((k, v) :: r)
    | _, _ => none
  | _ => none
def mergeD (acc more : List (Key × D)) : List (Key × D) := more.foldl (fun acc kv => putD acc kv.1 kv.2) acc
def opDict : List D → Option D
 | [.tup ds] => if flat ds then none else (pairsD ds).map fun kvs => .dK (mergeD [] kvs)
 | [.lst ds] => (pairsD ds).map fun kvs => .dK (mergeD [] kvs)
 | [.dK kvs] => some (.dK kvs)
 | _ => none
section
variable {K : PySem.W.Frag} {G : Hp}
theorem RepK.merge : ∀ {more : List (Key × V)} {ds : List (Key × D)} {acc : List (Key × V)} {as : List (Key × D)}, RepK K G more ds → RepK K G acc as → RepK K G (mergeK acc more) (mergeD as ds)
  | _, _, _, _, .nil, h => h
  | _, _, acc, as, .cons (k := k) (v := v) (vs := vs) (d := d) (ds := ds) h r, q => by
    show RepK K G (mergeK (putK acc k v) vs) (mergeD (putD as k d) ds)
    exact RepK.merge r (RepK.put h q)
end
theorem Paired.ex {K : PySem.W.Frag} {G H : Hp} (e : Ex G H) : ∀ {ps : List Addr} {xs : List (Key × V)}, Paired (fun p (kv : Key × V) => SqT K G p [kV kv.1, kv.2]) ps xs → Paired (fun p (kv : Key × V) => SqT K H p [kV kv.1, kv.2]) ps xs
 | _, _, .nil => .nil
 | _, _, .cons h t => .cons (h.elim (fun z => .inl (e.rd z)) .inr) (Paired.ex e t)
def rDict (K : PySem.W.Frag) : List V → Hp → VK → Prop := fun xs H Q => (rDictT K xs H Q ∨ ∃ (a : Addr) (ps : List Addr) (kvs : List (Key × V)), xs = [.ref a] ∧ SqL K H a (ps.map V.ref) ∧ Paired (fun p kv => SqT K H p [kV kv.1, kv.2]) ps kvs ∧
  ∀ p, H p = none → Q (.ref p) (upd H p (.dK (mergeK [] kvs)))) ∨ ∃ (a : Addr) (kvs : List (Key × V)), xs = [.ref a] ∧ Rd H a (.dK kvs) ∧ ∀ p, H p = none → Q (.ref p) (upd H p (.dK kvs))
end
end NT
set_option Elab.async false
set_option linter.all false
set_option maxRecDepth 100000
set_option maxHeartbeats 4000000
namespace NT
open PySem L2
def SqK (K : PySem.W.Frag) : Bool → Hp → Addr → List V → Prop
 | false, H, a, xs => SqL K H a xs
 | true, H, a, xs => SqT K H a xs
def HasK : Bool → Heap → Addr → Array Value → Prop
 | false, h, a, its => h.IsList a its
 | true, h, a, its => h.IsTuple a its
def IterK : Bool → Heap → Addr → Addr → Nat → Prop
 | false, h, it, a, i => h.IsListIter it a i
 | true, h, it, a, i => h.IsTupleIter it a i
def objK : Bool → Addr → PySem.Obj
 | false, a => { cls := .type "list_iterator", data := .fields #[.ref a, .int 0 0] }
 | true, a => { cls := .type "tuple_iterator", data := .fields #[.ref a, .int 0 0] }
section
variable {X : Cx} {pins : List (Addr × PySem.Obj)} {σ : St} {H : Hp} {s : Shared} {k : Bool} {a : Addr} {xs ys : List V}
theorem SqK.has (I : Inv X pins σ H s) (h : SqK X.K k H a xs) : ∃ its : List Value, Vals xs its ∧ HasK k s.heap a its.toArray := by
  cases k with
  | false =>
    obtain ⟨its, r, p, _⟩ := Inv.list I h
    exact ⟨its, r, p.isList⟩
  | true =>
    obtain ⟨its, r, p, _⟩ := Inv.tuple I h
    exact ⟨its, r, p⟩
theorem SqK.inj (I : Inv X pins σ H s) (h : SqK X.K k H a xs) (h' : SqK X.K k H a ys) : xs = ys := by
 cases k with
 | false => exact Inv.list_inj I h h'
 | true => exact Inv.tuple_inj I h h'
theorem IterK.at {h h' : Heap} {it : Addr} {i : Nat} (x : IterK k h it a i) (e : ∀ o, h.get? it = some o → h'.get? it = some o) : IterK k h' it a i := by
 cases k with
 | false => exact Heap.IsListIter.at x e
 | true => exact Heap.IsTupleIter.at x e
theorem IterK.obj {h : Heap} {it : Addr} {i : Nat} (x : IterK k h it a i) : ∃ o, h.get? it = some o ∧ ∀ v, o.data ≠ .cell v := by
  cases k with
  | false =>
    obtain ⟨o, e, _, d⟩ := x
    exact ⟨o, e, fun v q => by rw [d] at q; cases q⟩
  | true =>
    obtain ⟨o, e, _, d⟩ := x
    exact ⟨o, e, fun v q => by rw [d] at q; cases q⟩
theorem HasK.lt {h : Heap} {its : Array Value} (x : HasK k h a its) : a < h.objs.size := by
  cases k with
  | false =>
    obtain ⟨o, e, _⟩ := x
    exact Heap.lt_size e
  | true =>
    obtain ⟨o, e, _⟩ := x
    exact Heap.lt_size e
end
def ItzK (K : PySem.W.Frag) (k1 k2 : Bool) (a b : Addr) : It :=
 ⟨fun i H => ∃ (xs ys : List V) (x y : V), SqK K k1 H a xs ∧ SqK K k2 H b ys ∧ xs[i]? = some x ∧ ys[i]? = some y,
  fun i H v H' => ∃ T x y, v = .ref T ∧ H T = none ∧ H' = upd H T (.tup [x, y]) ∧ (∀ xs, SqK K k1 H a xs → xs[i]? = some x) ∧ ∀ ys, SqK K k2 H b ys → ys[i]? = some y,
  fun i H => ∃ xs ys : List V, SqK K k1 H a xs ∧ SqK K k2 H b ys ∧ i ≤ xs.length ∧ i ≤ ys.length ∧ (xs.length = i ∨ ys.length = i)⟩
def iZipK (K : PySem.W.Frag) (ta : TA) : TI := fun σ H R => ta σ H fun vs H1 => ∃ k1 k2 a b xs ys, vs = [.ref a, .ref b] ∧ SqK K k1 H1 a xs ∧ SqK K k2 H1 b ys ∧ R (ItzK K k1 k2 a b) H1
section
variable {X : Cx} {cls : Nat → Value} {W : WX}
def seqD : D → Option (List D)
 | .lst ds => some ds
 | .tup ds => some ds
 | _ => none
def zipD : List D → Option (List D)
  | [x, y] => match seqD x, seqD y with
    | some xs, some ys => some (List.zipWith (fun a b => .raw [a, b]) xs ys)
    | _, _ => none
  | _ => none
def iZip (f : M (List D)) : M (List D) := mbind f fun ds => lift (zipD ds)
theorem SqK.ex {K : PySem.W.Frag} {G H : Hp} {k : Bool} {a : Addr} {xs : List V} (e : Ex G H) (h : SqK K k G a xs) : SqK K k H a xs := by
 cases k with
 | false => exact Same.seq e h
 | true => exact h.elim (fun z => .inl (e.rd z)) .inr
end
end NT
set_option Elab.async false
set_option linter.all false
set_option maxRecDepth 100000
set_option maxHeartbeats 4000000
namespace NT
open PySem L2
section
variable {X : Cx} {cls : Nat → Value} {W : WX} {e a b : Expr} {es : List Expr} {f g : M D} {pos : Pos}
def dedI (acc : List Int) (x : Int) : List Int := if acc.any (· == x) then acc else acc ++ [x]
def setL (ns : List Int) : List Int := ns.foldl dedI []
def tLenSetD (K : PySem.W.Frag) (ta : TE) : TE := fun σ H Q => ta σ H fun x H1 => ∃ (l : Addr) (ns : List Int), x = .ref l ∧ SqL K H1 l (ns.map V.int) ∧ ns.length ≤ 4000 ∧ Q (.int ((setL ns).length : Nat)) H1
def opLenSet (d : D) : Option D := match d with
  | .lst ds => match intsOf ds with
    | some ns => if ns.length ≤ 4000 then some (.int ((setL ns).length : Nat)) else none
    | none => none
  | _ => none
def opLstRg1 (d : D) : Option D := match d with
 | .int n => if 0 ≤ n ∧ n ≤ 100000 then some (.lst ((List.range n.toNat).map fun k => .int (k : Nat))) else none
 | _ => none
def opLstRg2 (d e : D) : Option D := match d, e with
 | .int m, .int n => if (0 ≤ m ∧ m ≤ 100000) ∧ 0 ≤ n ∧ n ≤ 100000 then some (.lst ((List.range (n - m).toNat).map fun k => .int (m + (k : Nat)))) else none
 | _, _ => none
def opStr : List D → Option D
 | [.int i] => if i.natAbs.log2 < 1920 then some (.str (toString i)) else none
 | _ => none
theorem h4a {K : PySem.W.Frag} : ValA K (fun xs H Q => ∃ i, xs = [.int i] ∧ i.natAbs.log2 < 1920 ∧ Q (.str (toString i)) H) opStr := fun F G H σ ρ xs ds z c r hz Q p => by
  unfold opStr at hz
  split at hz
  · split at hz
    · rename_i hl
      cases hz
      cases r with
      | cons r1 r2 =>
        cases r2
        cases r1
        exact ⟨_, rfl, hl, pok c p (.str _)⟩
    · cases hz
  · cases hz
def leI (a b : Int) : Bool := decide (a ≤ b)
def sortI (ks : List Int) : List Int := ks.mergeSort leI
def keysI : List (Key × D) → Option (List Int)
 | [] => some []
 | (.inl i, _) :: r => (keysI r).map (i :: ·)
 | _ => none
def opSortedD : List D → Option D
  | [.dK kvs] => match keysI kvs with
    | some ks => if ks.length < 64 then some (.lst ((sortI ks).map .int)) else none
    | none => none
  | _ => none
def tKnow (te : TE) : TE := fun σ H Q => te σ H fun v H1 => ∃ a xs, v = .ref a ∧ H1 a = some (.dK xs) ∧ ∀ o, Q v (upd H1 a (.frz o (.dK xs)))
structure DW2 (K : PySem.W.Frag) (wi : TE → TI) (mk : List (Key × D) → List D) : Prop where
 inn : ∃ inn : V → Hp → (It → Hp → Prop) → Prop, (∀ te σ H R, (te σ H fun x H1 => inn x H1 R) → wi te σ H R) ∧ ∀ a o xs H1 R, H1 a = some (.frz o (.dK xs)) → (∀ J, (∀ G kvs, G a = some (.frz o (.dK xs)) → RepK K G xs kvs → Walks K J G (mk kvs)) → R J H1) → inn (.ref a) H1 R
def iDctN (mk : List (Key × D) → List D) (f : M D) : M (List D) := mbind f fun d => lift (match d with | .dK kvs => some (mk kvs) | _ => none)
end
end NT
set_option Elab.async false
set_option linter.all false
set_option maxRecDepth 100000
set_option maxHeartbeats 4000000
namespace NT.RW
open PySem PyProof.Rows L2 RT
section
variable {prog : Program} {w : World} {A : Around} {E : Value → Shared → Prop} {s : Shared}
end
section
variable {X : Cx}
def tTupRevT (K : PySem.W.Frag) (te : TE) : TE := fun σ H Q => te σ H fun x H1 => ∃ a xs, x = .ref a ∧ SqT K H1 a xs ∧ NT.layT xs.reverse H1 Q
end
end NT.RW
namespace NT
open PySem L2
section
variable {X : Cx} {cls : Nat → Value} {W : WX}
end
end NT
set_option Elab.async false
set_option linter.all false
set_option maxRecDepth 100000
set_option maxHeartbeats 4000000
namespace NT
open PySem L2
section
variable {f : M D} {fa : M (List D)} {ρ : List Sl} {mk : List (Key × D) → List D}
theorem u2b : iZip fa ρ = bnd (fa ρ) (k := ⟨fun ds ρ => lft (zipD ds) ρ⟩) := id (by
 first
 | rfl
 | (
   unfold iZip
   rw [b2a]
   congr 1))
def dctO (mk : List (Key × D) → List D) : D → Option (List D)
 | .dK kvs => some (mk kvs)
 | _ => none
theorem u3b {kvs : List (Key × D)} : dctO mk (.dK kvs) = some (mk kvs) := id rfl
theorem e9b : iDctN mk f ρ = bnd (f ρ) (k := ⟨fun d ρ => lft (dctO mk d) ρ⟩) := id (by
 first
 | rfl
 | (
   unfold iDctN
   rw [b2a]
   congr 1))
theorem q7c {ms : MGs} {ds : List D} : gT ms (.raw ds) ρ = ms ds ρ := id rfl
end
end NT
set_option Elab.async false
set_option linter.all false
set_option maxRecDepth 100000
set_option maxHeartbeats 4000000
namespace NT
open PySem L2
structure ClsF (K : PySem.W.Frag) (c : Str) : Prop where
 ex : ∃ C, PySem.W.nsIn K mainGlobals c = some (some (.ref C)) ∧ Cls K C
structure NaF (K : PySem.W.Frag) (c f : Str) : Prop where
 no : ∀ C, PySem.W.nsIn K mainGlobals c = some (some (.ref C)) → NoAttr K C f
def putFD (f : Str) (v : D) : List (Str × D) → List (Str × D)
 | [] => [(f, v)]
 | (g, x) :: r => if g = f then (g, v) :: r else (g, x) :: putFD f v r
def lookF (fs : List (Str × D)) (f : Str) : Option D := fs.lookup f
section
variable {K : PySem.W.Frag} {G : Hp}
theorem RepF.put {f : Str} {v : V} {d : D} (h : Rep K G v d) : ∀ {xs : List (Str × V)} {fs : List (Str × D)}, RepF K G xs fs → RepF K G (putF f v xs) (putFD f d fs)
  | _, _, .nil => .cons h .nil
  | _, _, .cons (k := g) h1 r => by
    unfold putF putFD
    by_cases e : g = f
    · rw [if_pos e, if_pos e]
      exact .cons h r
    · rw [if_neg e, if_neg e]
      exact .cons h1 (RepF.put h r)
theorem RepF.look {f : Str} {d : D} : ∀ {xs : List (Str × V)} {fs : List (Str × D)}, RepF K G xs fs → lookF fs f = some d → ∃ v, xs.lookup f = some v ∧ Rep K G v d
  | _, _, .nil, h => by cases h
  | _, _, .cons (k := g) (v := v) (vs := vs) (d := d') (ds := ds) h1 r, h => by
    have h : ((g, d') :: ds).lookup f = some d := h
    rw [List.lookup_cons] at h ⊢
    cases e : f == g with
    | true =>
      rw [e] at h
      cases h
      exact ⟨v, rfl, h1⟩
    | false =>
      rw [e] at h
      exact RepF.look r h
theorem RepF.length : ∀ {xs : List (Str × V)} {fs : List (Str × D)}, RepF K G xs fs → xs.length = fs.length
 | _, _, .nil => rfl
 | _, _, .cons _ r => by rw [h0e, h0e, RepF.length r]
end
def opFld (c f : Str) (d : D) : Option D := match d with
 | .obj c' fs => if c' = c then lookF fs f else none
 | _ => none
def eFldO (i : Nat) (c f : Str) : M D := fun ρ => match mineOf ρ i with
  | some (_, .obj c' fs) => if c' = c then match lookF fs f with
    | some d => .ok d ρ
    | none => .bad
    else .bad
  | _ => .bad
section
variable {X : Cx} {cls : Nat → Value} {W : WX} {e e' a b : Expr} {es : List Expr} {f g : M D} {pos : Pos} {st : Stmt}
theorem u9c {c x : Str} (CF : ClsF X.K c) (NF : NaF X.K c x) (hp : ∀ te, PE X e te → PE X e' (tFld X.K te x)) (ha : QE X cls W e f) : QE X cls W e' (eUn (opFld c x) f) := by
  obtain ⟨⟨ta, pa, sa⟩, ia⟩ := ha
  obtain ⟨C, hC, cl⟩ := CF.ex
  refine ⟨⟨_, hp _ pa, fun F ρ σ G H c0 Q w => ?_⟩, a7a ia fun _ => c1a⟩
  refine sa F ρ σ G H c0 _ ((a8a w).mono (fun d ρ1 w1 v1 G1 H1 e1 c1 r1 => ?_) fun _ _ p => p)
  obtain ⟨z, ez, p⟩ := c9a w1
  have p := p.mono e1
  unfold opFld at ez
  split at ez
  · split at ez
    · rename_i hc
      subst hc
      cases r1 with
      | obj h1 h2 r =>
        rw [hC] at h1
        cases h1
        obtain ⟨v, hv, rv⟩ := r.look ez
        exact ⟨_, C, _, _, v, rfl, c1.ex _ _ h2, cl, NF.no C hC, hv, pok c1 p rv⟩
    · cases ez
  · cases ez
theorem b2d (i : Nat) {c x : Str} (CF : ClsF X.K c) (NF : NaF X.K c x) (hp : PE X e' (tFld X.K (tVar i) x)) : QE X cls W e' (eFldO i c x) := by
 obtain ⟨C, hC, cl⟩ := CF.ex
 refine ⟨⟨_, hp, fun F ρ σ G H c0 Q w => ?_⟩, fun ρ n a ρ' h => ?_⟩
 ·unfold eFldO at w
  split at w
  ·rename_i s c' fs es
   obtain ⟨h1, h2⟩ := d7a es
   split at w
   ·rename_i hc
    subst hc
    split at w
    ·rename_i d hd
     obtain ⟨l, a1, a2, a3, a4⟩ := c0.mine h1 h2
     obtain ⟨C', dx, xs, n, hh, r⟩ := a2
     rw [hC] at n
     cases n
     obtain ⟨v, hv, rv⟩ := r.look hd
     exact ⟨.ref l, a1, l, C, dx, xs, v, rfl, hh, cl, NF.no C hC, hv, w v G H (Same.refl G) c0 rv⟩
    ·exact w.elim
   ·exact w.elim
  ·exact w.elim
 ·unfold eFldO at h
  split at h
  ·rename_i s c' fs es
   obtain ⟨h1, h2⟩ := d7a es
   rw [n i _ h1] at h2
   cases h2
  ·cases h
def setFld (i : Nat) (c x : Str) (d : D) : List Sl → Option (List Sl) := fun ρ => match mineOf ρ i with
 | some (s, .obj c' fs) => if c' = c ∧ fs.length < 900 then some (ρ.set i (s.with (.obj c (putFD x d fs)))) else none
 | _ => none
theorem b3d {K : PySem.W.Frag} {F : Fm} {G H : Hp} {σ : St} {ρ ρ' : List Sl} {i : Nat} {c x : Str} {d : D} {v : V} {C : Addr} (c0 : CS K F G H σ ρ) (hC : PySem.W.nsIn K mainGlobals c = some (some (.ref C))) (r : Rep K G v d) (h : setFld i c x d ρ = some ρ') :
  ∃ l dx xs, σ[i]? = some (some (.ref l)) ∧ H l = some (.ins C dx xs) ∧ xs.length < 1000 ∧ CS K F G (upd H l (.ins C dx (putF x v xs))) σ ρ' := by
 unfold setFld at h
 split at h
 ·rename_i s c' fs es
  obtain ⟨h1, h2⟩ := d7a es
  split at h
  ·rename_i hc
   obtain ⟨hc, hl⟩ := hc
   subst hc
   cases h
   obtain ⟨l, a1, a2, a3, a4⟩ := c0.mine h1 h2
   obtain ⟨C', dx, xs, n, hh, rf⟩ := a2
   rw [hC] at n
   cases n
   exact ⟨l, dx, xs, a1, hh, by rw [rf.length]; omega, c0.write h1 h2 a1 ⟨C, dx, _, hC, upd_same, rf.put r⟩⟩
  ·cases h
 ·cases h
def sFldO (i : Nat) (c x : Str) (fe : M D) : MS := sDo fe fun d => fun ρ => match setFld i c x d ρ with
 | some ρ' => .nx ρ'
 | none => .bad
theorem q8c (i : Nat) {c x : Str} (CF : ClsF X.K c) (NF : NaF X.K c x) (hp : ∀ te, PE X e te → PS X st (sFld X.K (tVar i) te x)) (ha : QE X cls W e f) : QS X cls W st (sFldO i c x f) := by
  obtain ⟨⟨t, p, s⟩, _⟩ := ha
  obtain ⟨C, hC, cl⟩ := CF.ex
  refine ⟨⟨_, hp t p, fun F ρ σ G H c0 E w => s F ρ σ G H c0 _ (o9a w fun d ρ' q v G1 H1 e1 c1 r1 => ?_)⟩⟩
  cases h : setFld i c x d ρ' with
  | none => rw [h] at q; exact q.elim
  | some ρ2 =>
    rw [h] at q
    obtain ⟨l, dx, xs, a1, a2, a3, a4⟩ := b3d c1 hC r1 h
    exact ⟨.ref l, a1, l, C, dx, xs, rfl, a2, cl, NF.no C hC, a3, q σ G1 _ e1 a4⟩
def gFld (K : PySem.W.Frag) (ta : TE) (x : Str) : TG := fun v σ H Q => ta σ H fun y H1 => ∃ a C dx fs, y = .ref a ∧ H1 a = some (.ins C dx fs) ∧ Cls K C ∧ NoAttr K C x ∧ fs.length < 1000 ∧ Q σ (upd H1 a (.ins C dx (putF x v fs)))
def SimGH (K : PySem.W.Frag) (g : TG) (m : MG) : Prop := ∀ F ρ σ G H v d ρ', CS K F G H σ ρ → Rep K G v d → m d ρ = some ρ' → ∀ Q : St → Hp → Prop, (∀ σ' H', CS K F G H' σ' ρ' → Q σ' H') → g v σ H Q
def SimGHs (K : PySem.W.Frag) (g : TGs) (m : MGs) : Prop := ∀ F ρ σ G H v d ρ', CS K F G H σ ρ → RepL K G v d → m d ρ = some ρ' → ∀ Q : St → Hp → Prop, (∀ σ' H', CS K F G H' σ' ρ' → Q σ' H') → g v σ H Q
structure QGH (X : Cx) (tg : Expr) (m : MG) : Prop where
 sim : ∃ g, PG X tg g ∧ SimGH X.K g m
structure QGHs (X : Cx) (tg : List Expr) (n : Nat) (m : MGs) : Prop where
 sim : ∃ g, PGs X tg g ∧ SimGHs X.K g m
 len : ∀ ds ρ ρ', m ds ρ = some ρ' → ds.length = n
def gF (i : Nat) (c x : Str) : MG := fun d ρ => setFld i c x d ρ
end
section
variable {K : PySem.W.Frag} {F : Fm} {G H G' H' : Hp} {σ σ' : St} {ρ ρ' : List Sl} {cls : Nat → Value} {W : WX}
def insH (H : Hp) (C x dx : Addr) : Hp := upd (upd H dx (.own x)) x (.ins C dx [])
theorem a2c {C x dx b : Addr} {o : HO} (hx : H x = none) (hd : H dx = none) (h : H b = some o) : insH H C x dx b = some o := by
 unfold insH
 rw [upd_ne (ne_of_none h hx), upd_ne (ne_of_none h hd)]
 exact h
theorem a3c {C x dx b : Addr} (h : insH H C x dx b = none) : H b = none := by
 unfold insH at h
 by_cases e : b = x
 ·rw [e, upd_same] at h; cases h
 ·rw [upd_ne e] at h
  by_cases e2 : b = dx
  ·rw [e2, upd_same] at h; cases h
  ·rw [upd_ne e2] at h
   exact h
theorem CS.argsM (c : CS K F G H σ ρ) {C x dx : Addr} {n : Str} (hC : PySem.W.nsIn K mainGlobals n = some (some (.ref C))) (hx : H x = none) (hd : H dx = none) (ne : dx ≠ x) {vs : List V} {ds : List D} (r : RepL K G vs ds) :
    CS K ⟨insH H C x dx, G, [(0, x)]⟩ G (insH H C x dx) ((.ref x :: vs).map some) (.bor (.obj n []) :: ds.map .val) := by
  have one : ∀ {i : Nat} {t : Sl} {y : D}, (Sl.bor (.obj n []) :: ds.map Sl.val)[i]? = some t → t.mine = some y → i = 0 ∧ t = .bor (.obj n []) := fun {i t y} h h2 => by
    cases i with
    | zero => cases h; exact ⟨rfl, rfl⟩
    | succ i =>
      rw [j9e] at h
      obtain ⟨_, _, z⟩ := x3a h
      subst z
      cases h2
  refine ⟨fun b o e => a2c hx hd (c.ex _ _ e), Same.refl G, fun b o e _ => e, fun b x y => (y x).elim, by simp [r.length], fun i x e => ?_, fun i x e => ?_, fun i y e => ?_, fun i k e => ?_, fun i k s1 s2 d1 d2 l hjk e1 m1 e2 m2 v1 v2 => ?_⟩
  · cases i with
    | zero => cases e
    | succ i =>
      rw [j9e] at e
      obtain ⟨d', h1, h2⟩ := x3a e
      cases h2
      obtain ⟨v, hv, rv⟩ := r.get h1
      exact ⟨v, by rw [h3e, j9e]; exact map_some hv, rv⟩
  · obtain ⟨_, z⟩ := one e rfl
    cases z
  · obtain ⟨z1, z⟩ := one e rfl
    cases z
    subst z1
    exact ⟨x, rfl, ⟨C, dx, [], hC, upd_same, .nil⟩, (c.fresh hx).2.1, List.mem_singleton.mpr rfl⟩
  · have e := List.mem_singleton.mp e
    cases e
    exact ⟨_, rfl, rfl⟩
  · obtain ⟨z1, _⟩ := one e1 m1
    obtain ⟨z2, _⟩ := one e2 m2
    exact hjk (z1.trans z2.symm)
theorem CS.backM (c : CS K F G H σ ρ) {C x dx : Addr} (hx : H x = none) (hd : H dx = none) (c' : CS K ⟨insH H C x dx, G, [(0, x)]⟩ G' H' σ' ρ') : CS K F G' H' σ ρ := by
  have keep : ∀ b o, H b = some o → H' b = some o := fun b o e => c'.fr b o (a2c hx hd e) fun i z => by
    have z := List.mem_singleton.mp z
    cases z
    rw [hx] at e
    cases e
  have eG : Ex G G' := c'.g0
  have obj : ∀ {l d}, Obj K G H l d → G l = none → Obj K G' H' l d ∧ G' l = none := fun {l d} h hg => by
    obtain ⟨o, ho⟩ := h.some
    refine ⟨h.mono eG.ext ((keep l o ho).trans ho.symm), ?_⟩
    cases q : G' l with
    | none => rfl
    | some y =>
      rcases c'.gn l hg (by rw [q]; exact fun z => by cases z) with z | ⟨xs, z⟩
      · have z := a3c z
        rw [ho] at z
        cases z
      · have z := c'.ex _ _ z
        rw [keep l o ho, ← ho] at z
        exact (h.notTup xs z).elim
  refine ⟨c'.ex, c.g0.trans eG, fun b o e hb => keep b o (c.fr b o e hb), fun b e1 e2 => ?_, c.len, fun j d e => ?_, fun j d e => ?_, fun j d e => ?_, c.bb, c.sep⟩
  · cases q : G b with
    | some o => exact (c.gn b e1 (by rw [q]; exact fun z => by cases z)).imp id fun ⟨xs, z⟩ => ⟨xs, eG _ _ z⟩
    | none => exact (c'.gn b q e2).imp (fun z => (c.fresh (a3c z)).1) id
  · obtain ⟨v, x, y⟩ := c.vals j d e
    exact ⟨v, x, y.mono eG⟩
  · obtain ⟨l, x, y, z, u⟩ := c.owns j d e
    obtain ⟨k1, k2⟩ := obj y z
    exact ⟨l, x, k1, k2, u⟩
  · obtain ⟨l, x, y, z, u⟩ := c.bors j d e
    obtain ⟨k1, k2⟩ := obj y z
    exact ⟨l, x, k1, k2, u⟩
theorem l5d (c : CS K F G H σ ρ) {C x dx : Addr} {d : D} (hx : H x = none) (c' : CS K ⟨insH H C x dx, G, [(0, x)]⟩ G' H' σ' ρ') (hk : ρ'[0]? = some (.bor d)) : Fr K F G' H' σ ρ x d := by
 obtain ⟨l, b1, b2, b3, b4⟩ := c'.bors 0 d hk
 have b4 := List.mem_singleton.mp b4
 cases b4
 exact ⟨b2, b3, (c.fresh hx).1, fun i s e h1 h2 => c.notMine hx h1 h2⟩
end
def made (o : O) (ρ : List Sl) : R D := match o with
  | .nx ρ' => match (ρ'[0]? : Option Sl) with
    | some (Sl.bor d) => .ok d ρ
    | _ => .bad
  | .ex c _ => .ex c ρ
  | _ => .bad
def tMakeSD (C : Addr) (sp : Sp) (dvs : List V) (E : St → XK) (t : TA) : TE := fun σ H Q => t σ H fun vs H1 => ∀ x dx, H1 x = none → H1 dx = none → dx ≠ x →
 sp (.ref x :: (vs ++ dvs)) (upd (upd H1 dx (.own x)) x (.ins C dx [])) (fun v H2 => v = .non ∧ Q (.ref x) H2) (E σ)
section
variable {X : Cx} {CX : CXT} {k : Nat} {f C : Addr} {fd : FuncData} {ps : List Str} {sp : Sp} {dvs : List V} {ds : List Value} {E : St → XK} {x : Str} {p pos : Pos} {e : Expr} {es : List Expr} {t : TA}
theorem v0c {pins : List (Addr × PySem.Obj)} {σ : St} {H : Hp} {s : Shared} {Q : VK} {us : List Value} {vs : List V} (M : Mk X.K C f) (F : FnOk X.prog X.w X.K X.mg X.base CX k f fd ps sp) (hr : Room (k + 1) X.A) (hb : Binds X.K fd ps ds) (hd : Vals dvs ds)
    (hx : PassesAt CX X σ (E σ)) (I : Inv X pins σ H s) (r : Vals vs us)
    (h : ∀ x dx, H x = none → H dx = none → dx ≠ x → sp (.ref x :: (vs ++ dvs)) (upd (upd H dx (.own x)) x (.ins C dx [])) (fun v H2 => v = .non ∧ Q (.ref x) H2) (E σ)) :
    wpAny (model X.prog X.w) X.A (call (.ref C) us) (EP X pins σ Q) X.xe s := by
  have hq := h (s.heap.objs.size + 1) s.heap.objs.size (I.hok.fresh (Nat.le_succ _)) (I.hok.fresh (j0e _)) (Nat.ne_of_lt (Nat.lt_succ_self _))
  have I2 := Inv.made (C := C) I
  have r2 : Vals (V.ref (s.heap.objs.size + 1) :: (vs ++ dvs)) (Value.ref (s.heap.objs.size + 1) :: (us ++ ds)) := .cons rfl (r.append hd)
  have hl : (Value.ref (s.heap.objs.size + 1) :: us ++ ds).length = ps.length := by
    have e := r2.length
    rw [F.len _ _ _ _ hq] at e
    exact e.symm
  refine wpAny_call (make_map (f := f) I.kIn M.makes M.init (beq_iff_eq.mp M.fn) (codeAny_mono (F.run _ X.stack _ _ ⟨Value.ref (s.heap.objs.size + 1) :: us, []⟩ (Value.ref (s.heap.objs.size + 1) :: (us ++ ds)) _ _ (E σ) (hr.make C us [])
    (I2.env0.make C us []) (hb _ (Value.ref (s.heap.objs.size + 1) :: us) I2.kIn hl) r2 hq) fun r s' hq' => ?_))
  cases r with
  | error e => exact hx pins _ _ e s' I2 hq'
  | ok fl =>
    cases fl with
    | ret u =>
      obtain ⟨v, H', I3, rv, ev, q3⟩ := I2.after hq'
      subst ev
      exact ⟨rv, ⟨V.ref (s.heap.objs.size + 1), H', I3, rfl, q3⟩⟩
    | next => exact False.elim hq'
    | brk => exact False.elim hq'
    | cont => exact False.elim hq'
theorem b4d (M : Mk X.K C f) (F : FnOk X.prog X.w X.K X.mg X.base CX k f fd ps sp) (hr : Room (k + 1) X.A) (hg : Gl X x) (hm : X.mg x = some (.ref C)) (hb : Binds X.K fd ps ds) (hd : Vals dvs ds) (hx : ∀ σ, PassesAt CX X σ (E σ))
  (ha : PA X (e :: es) t) (hdb : (x == ("__debug__" : Str)) = false := by decide) (he : starEach (e :: es) X.env = (false, eval e X.env) :: starEach es X.env := by rfl) (hpl : (backTo pos (starEach es X.env)).any (·.1) = false := by rfl) :
  PE X (.Call (.Name x p) (e :: es) [] pos) (tMakeSD C sp dvs E t) := by
 refine ⟨fun pins s σ H Q I h => ?_⟩
 refine wpAny_Call_Name_kw (ld_glob I hg hm ?_ hdb)
 refine PySem.W.callWith_K (h₀ := X.base) I.ok.mod.kin M.kp (thn (ha.run pos pins s σ H _ I h) fun us s1 ⟨vs, H1, I1, r, q⟩ => ⟨I1.kIn, ?_⟩) he hpl
 exact v0c M F hr hb hd (hx σ) I1 r q
end
def eMake (n : Str) (np ns : Nat) (den : MS) (fa : M (List D)) : M D := mbind fa fun ds => fun ρ => if ds.length + 1 = np then made (den ((.bor (.obj n []) :: ds.map .val) ++ List.replicate ns .no)) ρ else .bad
theorem v1c {n : Str} {np ns : Nat} {den : MS} {fa : M (List D)} (h : Inert fa) : Inert (eMake n np ns den fa) := a7a h fun ds ρ hn a ρ' q => by
 split at q
 ·unfold made at q
  split at q
  ·split at q
   ·cases q; rfl
   ·cases q
  ·cases q
  ·cases q
 ·cases q
section
variable {X : Cx} {cls : Nat → Value} {W : WX} {e a b : Expr} {es : List Expr} {f g : M D} {pos : Pos} {st : Stmt}
theorem l6d {K : PySem.W.Frag} {C : Addr} {n : Str} {np ns : Nat} {den : MS} {ta : TA} {fa : M (List D)} (hC : PySem.W.nsIn K mainGlobals n = some (some (.ref C))) (ha : SimA K cls W ta fa) : SimN K cls W (tMakeSD C (spD K cls np ns den) [] (WE W) ta) (eMake n np ns den fa) := fun F ρ σ G H c Q w => by
 refine ha F ρ σ G H c _ ((a8a w).mono (fun xs ρ1 w1 v1 G1 H1 e1 c1 r1 x dx hx hd ne => ?_) fun _ _ p => p)
 split at w1
 ·rename_i hl
  have cc := c1.argsM hC hx hd ne r1
  refine ⟨by rw [h5e, h0e, r1.length]; exact hl, G1, [(0, x)], _, _, by rw [h5e]; exact cc, ?_⟩
  unfold made at w1
  split at w1
  ·rename_i ρ' q
   rw [q]
   split at w1
   ·rename_i d hk
    exact fun σ' G' H' e' c' => ⟨rfl, w1 x G' H' (e1.trans e') (c1.backM hx hd c') (l5d c1 hx c' hk)⟩
   ·exact w1.elim
  ·rename_i n ρ' q
   rw [q]
   exact fun σ' G' H' e' c' => w1 G' H' (e1.trans e') (c1.backM hx hd c')
  ·exact w1.elim
 ·exact w1.elim
theorem b2e {C : Addr} {n : Str} {np ns : Nat} {den : MS} {fa : M (List D)} (hC : PySem.W.nsIn X.K mainGlobals n = some (some (.ref C))) (hp : ∀ ta, PA X es ta → PE X e (tMakeSD C (spD X.K cls np ns den) [] (WE W) ta)) (ha : QA X cls W es fa) : QN X cls W e (eMake n np ns den fa) :=
 ⟨let ⟨t, p, s⟩ := ha.sim; ⟨_, hp t p, l6d hC s⟩, v1c ha.inert⟩
end
structure MkC (P : Program) (w : World) (K : PySem.W.Frag) (mg : Str → Option Value) (base : Heap) (cls : Nat → Value) (n : Str) (ps : List Str) (k np ns : Nat) (den : MS) : Prop where
 ex : ∃ C f fd, FnOk P w K mg base (L2.CX P w) k f fd ps (spD K cls np ns den) ∧ mg n = some (.ref C) ∧ PySem.W.nsIn K mainGlobals n = some (some (.ref C)) ∧ Mk K C f ∧ Binds K fd ps []
section
variable {X : Cx} {cls : Nat → Value} {W : WX} {e : Expr} {es : List Expr} {p pos : Pos} {x : Str} {ps : List Str} {k j np ns : Nat} {den : MS}
theorem b3e {fa : M (List D)} (C : MkC X.prog X.w X.K X.mg X.base cls x ps k np ns den) (hr : Room j X.A) (hj : k + 1 ≤ j) (tk : Takes X W) (ha : QA X cls W (e :: es) fa) (hg : Gl X x := by rfl) (hdb : (x == ("__debug__" : Str)) = false := by decide) (he : starEach (e :: es) X.env = (false, eval e X.env) :: starEach es X.env := by rfl) (hpl : (backTo pos (starEach es X.env)).any (·.1) = false := by rfl) :
  QN X cls W (.Call (.Name x p) (e :: es) [] pos) (eMake x np ns den fa) := by
 obtain ⟨C, f, fd, F, hm, hn, M, hb⟩ := C.ex
 exact b2e hn (fun _ pa => b4d M F (hr.mono hj) hg hm hb .nil (fun σ => passAt tk σ) pa hdb he hpl) ha
end
theorem b4a {P : Program} {w : World} {K : PySem.W.Frag} {mg : Str → Option Value} {base : Heap} {cls : Nat → Value} {x y qual : Str} {st : Stmt} {f : Addr} {fd : FuncData} {ps : List Str} {k np ns : Nat} {den : MS} (Fn : Fun K x qual st f fd) (hm : mg y = some (.ref f)) (ok : FnOk P w K mg base (L2.CX P w) k f fd ps (spD K cls np ns den)) (hb : Binds K fd ps []) : Cal P w K mg base cls y ps k np ns den [] :=
 ⟨⟨f, fd, ok, hm, Fn.kp, hb⟩⟩
theorem b4e {P : Program} {w : World} {K : PySem.W.Frag} {mg : Str → Option Value} {base : Heap} {cls : Nat → Value} {n : Str} {C f : Addr} {fd : FuncData} {ps : List Str} {k np ns : Nat} {den : MS} (hm : mg n = some (.ref C)) (hn : PySem.W.nsIn K mainGlobals n = some (some (.ref C))) (M : Mk K C f) (ok : FnOk P w K mg base (L2.CX P w) k f fd ps (spD K cls np ns den)) (hb : Binds K fd ps []) : MkC P w K mg base cls n ps k np ns den :=
 ⟨⟨C, f, fd, ok, hm, hn, M, hb⟩⟩
theorem v3d {K : PySem.W.Frag} {n : Str} {C : Addr} (hn : PySem.W.nsIn K mainGlobals n = some (some (.ref C))) (c : Cls K C) : ClsF K n := ⟨⟨C, hn, c⟩⟩
theorem q5d {K : PySem.W.Frag} {n f : Str} {C : Addr} (hn : PySem.W.nsIn K mainGlobals n = some (some (.ref C))) (c : PySem.W.findIn K (.ref C) f = some none) : NaF K n f := ⟨fun D h => by rw [hn] at h; cases h; exact c⟩
def maxI : List Int → Int
 | [] => 0
 | [x] => x
 | x :: y :: r => max x (maxI (y :: r))
def minI : List Int → Int
 | [] => 0
 | [x] => x
 | x :: y :: r => min x (minI (y :: r))
def opMaxL : List D → Option D
 | [.lst ds] => (intsOf ds).bind fun ns => if ns = [] then none else some (.int (maxI ns))
 | _ => none
def opMinL : List D → Option D
 | [.lst ds] => (intsOf ds).bind fun ns => if ns = [] then none else some (.int (minI ns))
 | _ => none
section
variable {K : PySem.W.Frag}
end
def rRepX (K : PySem.W.Frag) : R2 := fun x y H Q => ∃ l k xs, x = .ref l ∧ y = .int k ∧ SqT K H l xs ∧ xs ≠ [] ∧ 2 ≤ k ∧ k ≤ 1000 ∧ xs.length ≤ 1000 ∧ layT (List.replicate k.toNat xs).flatten H Q
def opRepX : D → D → Option D
 | .tup (x :: xs), .int k => if 2 ≤ k ∧ k ≤ 1000 ∧ (x :: xs).length ≤ 1000 then some (.tup (List.replicate k.toNat (x :: xs)).flatten) else none
 | _, _ => none
section
variable {ρ : List Sl} {i np ns c : Nat} {n x : Str} {f : M D} {fa : M (List D)} {den g sf : MS} {d : D}
theorem f0b {k : Str} : eFldO i k x ρ = optR (mineO ρ[i]?) (k := ⟨fun p => lft (opFld k x p.2) ρ⟩) := id (by
  unfold eFldO
  rw [i4a]
  cases mineO ρ[i]? with
  | none => rfl
  | some p =>
    obtain ⟨s, d⟩ := p
    cases d <;> try rfl
    rename_i c' fs
    show (if c' = k then _ else _) = lft (if c' = k then lookF fs x else none) ρ
    by_cases h : c' = k
    · rw [if_pos h, if_pos h]; cases lookF fs x <;> rfl
    · rw [if_neg h, if_neg h]; rfl)
theorem l7d {k : Str} : gF i k x d ρ = setFld i k x d ρ := id rfl
theorem f1b {k : Str} : sFldO i k x f ρ = bndO (f ρ) (k := ⟨fun d ρ => optO (setFld i k x d ρ) (k := ⟨fun ρ => .nx ρ⟩)⟩) := id (by
 unfold sFldO
 rw [k2a]
 cases f ρ with
 | ok a ρ1 => rfl
 | ex c ρ1 => rfl
 | bad => rfl)
theorem f2b : eMake n np ns den fa ρ = bnd (fa ρ) (k := ⟨fun ds ρ => iteR (decide (ds.length + 1 = np)) (k := ⟨(made (den ((.bor (.obj n []) :: ds.map .val) ++ List.replicate ns .no)) ρ), .bad⟩)⟩) := id (by
  unfold eMake
  rw [b2a]
  cases fa ρ with
  | ok a ρ1 =>
    show (if a.length + 1 = np then _ else _) = iteR (decide (a.length + 1 = np)) (k := _)
    by_cases h : a.length + 1 = np
    · rw [if_pos h, decide_eq_true h]; rfl
    · rw [if_neg h, decide_eq_false h]; rfl
  | ex c ρ1 => rfl
  | bad => rfl)
theorem u4b {ρ' : List Sl} : made (.nx (.bor d :: ρ')) ρ = .ok d ρ := id rfl
theorem u5b {ρ' : List Sl} : made (.ex c ρ') ρ = .ex c ρ := id rfl
def tryO (o : O) (hs : List ((Nat → Option Bool) × MS)) : O := match o with
 | .ex c ρ' => hand hs c ρ'
 | o => o
def noEx (o : O) : O := match o with
 | .ex _ _ => .bad
 | o => o
variable {hs : List ((Nat → Option Bool) × MS)}
theorem u6b : sTry hs sf ρ = tryO (sf ρ) hs := id rfl
theorem u7b : tryO (.nx ρ) hs = .nx ρ := id rfl
theorem u8b : tryO (.rt d ρ) hs = .rt d ρ := id rfl
theorem f3b : tryO (.rtN d ρ) hs = .rtN d ρ := id rfl
theorem u9b : tryO (.ex c ρ) hs = hand hs c ρ := id rfl
theorem f4b : hand [(tbl [(c, true)], g)] c ρ = noEx (g ρ) := id (by
 show (match tbl [(c, true)] c with | some true => (match g ρ with | .ex _ _ => O.bad | o => o) | some false => hand [] c ρ | none => .bad) = _
 have h : tbl [(c, true)] c = some true := by unfold tbl; simp
 rw [h]
 rfl)
theorem v0b : noEx (.rt d ρ) = .rt d ρ := id rfl
theorem f5b : noEx (.rtN d ρ) = .rtN d ρ := id rfl
theorem v1b : noEx (.nx ρ) = .nx ρ := id rfl
end
end NT
set_option Elab.async false
set_option linter.all false
set_option maxRecDepth 100000
set_option maxHeartbeats 4000000
namespace LV
open PySem L2 PySem.Spec PyProof.Rows
def tListVals (te : TE) : TE := fun σ H Q => te σ H fun x H1 => ∃ d kvs, x = .ref d ∧ Rd H1 d (.dK kvs) ∧ ∀ q, H1 q = none → Q (.ref q) (upd H1 q (.lst (kvs.map (·.2))))
section
variable {X : Cx} {e : Expr} {te : TE} {p apos cpos pos : Pos}
end
end LV
namespace NT
open PySem L2
def opListVals : D → Option D
 | .dK kvs => some (.lst (kvs.map (·.2)))
 | _ => none
theorem RepK.vals {K : PySem.W.Frag} {G : Hp} : ∀ {xs : List (Key × V)} {kvs : List (Key × D)}, RepK K G xs kvs → RepL K G (xs.map (·.2)) (kvs.map (·.2))
 | _, _, .nil => .nil
 | _, _, .cons h r => .cons h (RepK.vals r)
section
variable {X : Cx} {cls : Nat → Value} {W : WX} {e a b : Expr} {es : List Expr} {f g : M D} {pos p : Pos}
def truD : D → Option Bool
 | .non => some false
 | .bl b => some b
 | .int i => some (i != 0)
 | .tup ds => some (!ds.isEmpty)
 | .lst ds => some (!ds.isEmpty)
 | _ => none
def tOrG (X : Cx) (ta tb : TE) : TE := fun σ H Q => ta σ H fun x H1 => ∃ k, TruV X.K x H1 k ∧ if k = true then Q x H1 else tb σ H1 Q
def eOrG (fa fb : M D) : M D := mbind fa fun d => mbind (lift (truD d)) fun k => if k then mpure d else fb
end
section
variable {X : Cx} {cls : Nat → Value} {W : WX} {e : Expr} {es : List Expr} {p pos : Pos} {x : Str} {ps : List Str} {k j np ns : Nat} {den : MS}
end
section
variable {ρ : List Sl} {f g : M D}
theorem v2b : eOrG f g ρ = bnd (f ρ) (k := ⟨fun d ρ => bnd (lft (truD d) ρ) (k := ⟨fun k ρ => iteR k (k := ⟨(.ok d ρ), (g ρ)⟩)⟩)⟩) := id (by
  unfold eOrG
  rw [b2a]
  cases f ρ with
  | ok d ρ1 =>
    show mbind (lift (truD d)) (fun k => if k then mpure d else g) ρ1 = bnd (lft (truD d) ρ1) (k := ⟨fun k ρ => iteR k (k := ⟨(.ok d ρ), (g ρ)⟩)⟩)
    rw [b2a, i6b]
    cases truD d with
    | none => rfl
    | some k => cases k <;> rfl
  | ex c ρ1 => rfl
  | bad => rfl)
theorem f6b : truD .non = some false := id rfl
theorem f7b {ds : List D} : truD (.tup ds) = some (!ds.isEmpty) := id rfl
end
structure Idx (K : PySem.W.Frag) (tk : TE) (ix : List Sl → Option D) : Prop where
 run : ∀ F ρ σ G H d, CS K F G H σ ρ → ix ρ = some d → ∃ v, Rep K G v d ∧ ∀ Q : VK, Q v H → tk σ H Q
def ixV (j : Nat) (ρ : List Sl) : Option D := match ρ[j]? with
 | some (.val d) => some d
 | _ => none
def ixC (n : Int) (_ : List Sl) : Option D := some (.int n)
def gIx (i : Nat) (ix : List Sl → Option D) : MG := fun d ρ => (ix ρ).bind fun k => (mineOf ρ i).bind fun p => (opSetIx p.2 k d).map fun x => ρ.set i (p.1.with x)
def opLenD : List D → Option D
 | [.dK kvs] => some (.int (kvs.length : Nat))
 | _ => none
end NT
set_option Elab.async false
set_option linter.all false
set_option maxRecDepth 100000
set_option maxHeartbeats 4000000
namespace NT
open PySem L2
theorem But.refl {ts : List Nat} {σ : St} : But ts σ σ := ⟨rfl, fun _ _ => rfl⟩
def butE (E : Ends) (ts : List Nat) (σ : St) : Ends := { E with nx := fun σ' H' => But ts σ σ' → E.nx σ' H' }
def SimSt (K : PySem.W.Frag) (cls : Nat → Value) (W : WX) (ts : List Nat) (t : TS) (f : MS) : Prop := ∀ F ρ σ G H, CS K F G H σ ρ → ∀ E : Ends, PO K cls W F G (butE E ts σ) (f ρ) → t E σ H
structure QSt (X : Cx) (cls : Nat → Value) (W : WX) (ts : List Nat) (st : Stmt) (f : MS) : Prop where
 sim : ∃ t, PS X st t ∧ SimSt X.K cls W ts t f
structure QBt (X : Cx) (cls : Nat → Value) (W : WX) (ts : List Nat) (st : List Stmt) (f : MS) : Prop where
 sim : ∃ t, PSs X st t ∧ SimSt X.K cls W ts t f
section
variable {X : Cx} {cls : Nat → Value} {W : WX} {e a b : Expr} {f g : M D} {pos : Pos} {sf sg : MS} {st : Stmt} {sts : List Stmt} {ts us : List Nat}
end
section
variable {K : PySem.W.Frag} {F : Fm} {G H G' H' : Hp} {σ σ' : St} {ρ ρ' : List Sl} {cls : Nat → Value} {W : WX}
theorem CS.unviewA (c : CS K F G H σ ρ) (c' : CS K ⟨H, gPlus σ ρ G H, []⟩ G' H' σ' ρ') : CS K F (gMinus σ ρ G') H' σ ρ ∧ Ex G (gMinus σ ρ G') := by
  have keep : ∀ b o, H b = some o → H' b = some o := fun b o e => c'.fr b o e fun i z => by cases z
  have eG : Ex G (gMinus σ ρ G') := fun b o e => by
    have nm : ¬ mineAt σ ρ b := fun z => by
      obtain ⟨d, _, g, _⟩ := h8a c z
      rw [g] at e
      cases e
    rw [e5a nm]
    exact c'.g0 b o (s1a c b o e)
  have obj : ∀ {l d}, Obj K G H l d → Obj K (gMinus σ ρ G') H' l d := fun {l d} h => by
    obtain ⟨o, ho⟩ := h.some
    exact h.mono eG.ext ((keep l o ho).trans ho.symm)
  refine ⟨⟨fun b o e => ?_, c.g0.trans eG, fun b o e hb => keep b o (c.fr b o e hb), fun b e1 e2 => ?_, c.len, fun i d e => ?_, fun i d e => ?_, fun i d e => ?_, c.bb, c.sep⟩, eG⟩
  · by_cases nm : mineAt σ ρ b
    · rw [g6a nm] at e
      cases e
    · rw [e5a nm] at e
      exact c'.ex _ _ e
  · by_cases nm : mineAt σ ρ b
    · rw [g6a nm] at e2
      exact (e2 rfl).elim
    · rw [e5a nm] at e2
      cases q : G b with
      | some o => exact (c.gn b e1 (by rw [q]; exact fun z => by cases z)).imp id fun ⟨xs, z⟩ => ⟨xs, by rw [e5a nm]; exact c'.g0 b _ (s1a c b _ z)⟩
      | none =>
        have hp : gPlus σ ρ G H b = none := by
          unfold gPlus
          rw [if_neg nm]
          exact q
        exact (c'.gn b hp e2).imp (fun z => (c.fresh z).1) fun ⟨xs, z⟩ => ⟨xs, by rw [e5a nm]; exact z⟩
  · obtain ⟨v, a, b⟩ := c.vals i d e
    exact ⟨v, a, b.mono eG⟩
  · obtain ⟨l, a, b, x, y⟩ := c.owns i d e
    exact ⟨l, a, obj b, g6a ⟨i, _, d, e, rfl, a⟩, y⟩
  · obtain ⟨l, a, b, x, y⟩ := c.bors i d e
    exact ⟨l, a, obj b, g6a ⟨i, _, d, e, rfl, a⟩, y⟩
theorem CS.viewFrzA (c : CS K F G H σ ρ) (c' : CS K ⟨H, gPlus σ ρ G H, []⟩ G' H' σ' ρ') (a : Addr) (ob : PySem.Obj) (xs : List V) (h : G' a = some (.frz ob (.tup xs))) : gMinus σ ρ G' a = some (.frz ob (.tup xs)) := by
 have nm : ¬ mineAt σ ρ a := fun z => by
  obtain ⟨d, o, _, _⟩ := h8a c z
  obtain ⟨x, hx⟩ := o.some
  have e1 := c'.fr a x hx fun i z => by cases z
  have e2 := c'.ex a _ h
  rw [e1] at e2
  cases e2
  exact o.notFrz ob _ hx
 rw [e5a nm]
 exact h
theorem CS.viewTupA (c : CS K F G H σ ρ) (c' : CS K ⟨H, gPlus σ ρ G H, []⟩ G' H' σ' ρ') (a : Addr) (xs : List V) (h : G' a = some (.tup xs)) : gMinus σ ρ G' a = some (.tup xs) := by
 have nm : ¬ mineAt σ ρ a := fun z => by
  obtain ⟨d, o, _, _⟩ := h8a c z
  obtain ⟨x, hx⟩ := o.some
  have e1 := c'.fr a x hx fun i z => by cases z
  have e2 := c'.ex a _ h
  rw [e1] at e2
  cases e2
  exact o.notTup xs hx
 rw [e5a nm]
 exact h
def plainS : Sl → Bool
 | .val d => plain d
 | .no => true
 | _ => false
def mrg (ρ' : List Sl) : List Nat → List Sl → Option (List Sl)
  | [], ρ => some ρ
  | k :: ks, ρ => match ρ'[k]? with
    | some s => if isFree ρ[k]? && plainS s then mrg ρ' ks (ρ.set k s) else none
    | none => none
def setAll (σ' : St) : List Nat → St → St
 | [], σ => σ
 | k :: ks, σ => setAll σ' ks (σ.set k (σ'.getD k none))
theorem n7b {σ' : St} : ∀ {ks : List Nat} {σ : St}, (setAll σ' ks σ).length = σ.length
 | [], _ => rfl
 | k :: ks, σ => by unfold setAll; rw [n7b, m1e]
theorem x8a {σ' : St} {j : Nat} : ∀ {ks : List Nat} {σ : St}, j ∉ ks → (setAll σ' ks σ)[j]? = σ[j]?
  | [], _, _ => rfl
  | k :: ks, σ, h => by
    unfold setAll
    rw [x8a (fun z => h (h2e _ z)), h9e (fun z => h (by simp [z]))]
theorem a4c {σ' : St} {j : Nat} : ∀ {ks : List Nat} {σ : St}, j ∈ ks → j < σ.length → (setAll σ' ks σ)[j]? = some (σ'.getD j none)
  | k :: ks, σ, h, hl => by
    unfold setAll
    by_cases hj : j ∈ ks
    · exact a4c hj (by rw [m1e]; exact hl)
    · have e : j = k := (List.mem_cons.mp h).elim id fun z => (hj z).elim
      rw [x8a hj, e, i1e (by rw [← e]; exact hl)]
theorem b5d {ts : List Nat} (h : But ts σ σ') : setAll σ' ts σ = σ' := by
 apply List.ext_getElem?
 intro j
 by_cases hj : j ∈ ts
 ·by_cases hl : j < σ.length
  ·rw [a4c hj hl, h7e (by rw [h.1]; exact hl), j1e, h7e (by rw [h.1]; exact hl)]
   rfl
  ·rw [j7e (by rw [n7b]; omega), j7e (by rw [h.1]; omega)]
 ·rw [x8a hj, h.2 j hj]
theorem q6d {G2 : Hp} (hv : ∀ (k : Nat) d, ρ'[k]? = some (.val d) → plain d = true → ∃ v, σ'[k]? = some (some v) ∧ Rep K G2 v d) : ∀ {ks : List Nat} {σ1 : St} {ρ1 ρ2 : List Sl}, CS K F G2 H' σ1 ρ1 → mrg ρ' ks ρ1 = some ρ2 → CS K F G2 H' (setAll σ' ks σ1) ρ2
  | [], _, _, _, c, h => by cases h; exact c
  | k :: ks, σ1, ρ1, ρ2, c, h => by
    unfold mrg at h
    split at h
    · rename_i s hs
      split at h
      · rename_i hc
        rw [h6e] at hc
        unfold setAll
        refine q6d hv ?_ h
        cases s with
        | val d =>
          obtain ⟨v, h1, h2⟩ := hv k d hs hc.2
          rw [j1e, h1]
          exact c.setVal (i4b hc.1) h2
        | no => exact c.blank hc.1 _
        | own d => cases hc.2
        | bor d => cases hc.2
      · cases h
    · cases h
def sView (ts : List Nat) (f : MS) : MS := fun ρ => match f (ρ.map viewS) with
  | .nx ρ' => match mrg ρ' ts ρ with
    | some ρ2 => .nx ρ2
    | none => .bad
  | .rt d _ => if plain d then .rt d ρ else .bad
  | _ => .bad
theorem b6d {ts : List Nat} {t : TS} {f : MS} (h : SimSt K cls W ts t f) : SimS K cls W t (sView ts f) := fun F ρ σ G H c E w => by
  refine h _ _ σ _ H c.view E ?_
  unfold sView at w
  cases q : f (ρ.map viewS) with
  | nx ρ' =>
    rw [q] at w
    dsimp only at w
    intro σ' G' H' e' c' b'
    obtain ⟨c2, e2⟩ := c.unviewA c'
    cases hm : mrg ρ' ts ρ with
    | none => rw [hm] at w; exact w.elim
    | some ρ2 =>
      rw [hm] at w
      have c3 := q6d (σ' := σ') (fun k d hk hp => by
        obtain ⟨v, a, r⟩ := c'.vals k d hk
        exact ⟨v, a, r.plain ⟨c.viewTupA c', c.viewFrzA c'⟩ hp⟩) c2 hm
      rw [b5d b'] at c3
      exact w σ' _ _ e2 c3
  | rt d ρ' =>
    rw [q] at w
    dsimp only at w
    intro v σ' G' H' e' c' r
    obtain ⟨c2, e2⟩ := c.unviewA c'
    split at w
    · rename_i hp
      exact w v σ _ _ e2 c2 (r.plain ⟨c.viewTupA c', c.viewFrzA c'⟩ hp)
    · exact w.elim
  | rtN d ρ' => rw [q] at w; exact w.elim
  | ex c ρ' => rw [q] at w; exact w.elim
  | bad => rw [q] at w; exact w.elim
theorem QSt.view {X : Cx} {ts : List Nat} {st : Stmt} {f : MS} (h : QSt X cls W ts st f) : QS X cls W st (sView ts f) := ⟨let ⟨t, p, s⟩ := h.sim; ⟨t, p, b6d s⟩⟩
end
section
variable {ρ ρ' : List Sl} {d : D} {ts : List Nat} {k : Nat} {f : MS} {s : Sl}
theorem f8b : calmO (.nx ρ) = .nx ρ := id rfl
theorem f9b : calmO (.rt d ρ) = .rt d ρ := id rfl
theorem v4a : calmO (.rtN d ρ) = .rtN d ρ := id rfl
def vwO (o : O) (ts : List Nat) (ρ : List Sl) : O := match o with
  | .nx ρ' => match mrg ρ' ts ρ with
    | some ρ2 => .nx ρ2
    | none => .bad
  | .rt d _ => if plain d then .rt d ρ else .bad
  | _ => .bad
theorem g0b : sView ts f ρ = vwO (f (ρ.map viewS)) ts ρ := id rfl
theorem q9c : vwO (.nx ρ') ts ρ = optO (mrg ρ' ts ρ) (k := ⟨fun ρ => .nx ρ⟩) := id (by
 show (match mrg ρ' ts ρ with | some ρ2 => O.nx ρ2 | none => .bad) = _
 cases mrg ρ' ts ρ <;> rfl)
theorem r0c : vwO (.rt d ρ') ts ρ = iteO (plain d) (k := ⟨.rt d ρ, .bad⟩) := id (by
 show (if plain d then O.rt d ρ else .bad) = _
 cases plain d <;> rfl)
theorem v3b : mrg ρ' [] ρ = some ρ := id rfl
def mrg1 (s : Option Sl) (b : Bool) (k : Nat) (ts : List Nat) (ρ' ρ : List Sl) : Option (List Sl) := match s with
 | some s => if b && plainS s then mrg ρ' ts (ρ.set k s) else none
 | none => none
theorem g1b : mrg ρ' (k :: ts) ρ = mrg1 ρ'[k]? (isFree ρ[k]?) k ts ρ' ρ := id (by
 rw [mrg]
 unfold mrg1
 rfl)
theorem v4b (h : plainS s = true) : mrg1 (some s) true k ts ρ' ρ = mrg ρ' ts (ρ.set k s) := by
 show (if (true && plainS s) = true then mrg ρ' ts (ρ.set k s) else none) = _
 rw [h]
 rfl
theorem o2a : plainS (.val d) = plain d := id rfl
theorem v5a : plainS .no = true := id rfl
theorem o3a : isFree (some (.val d)) = true := id rfl
theorem v6a : isFree (some .no) = true := id rfl
end
end NT
set_option Elab.async false
set_option linter.all false
set_option maxRecDepth 100000
set_option maxHeartbeats 4000000
namespace NT
open PySem L2
def tMethA (C : Addr) (m : Str) (ta : TE) (t : TA) : TA := fun σ H Q => ta σ H fun x H1 => ∃ a dx fs, x = .ref a ∧ H1 a = some (.ins C dx fs) ∧ fs.lookup m = none ∧ t σ H1 fun vs H2 => Q (x :: vs) H2
section
variable {X : Cx} {CX : CXT} {k : Nat} {f C : Addr} {fd : FuncData} {ps : List Str} {sp : Sp} {dvs : List V} {ds : List Value} {E : St → XK} {m : Str} {pos apos : Pos} {e o : Expr} {es : List Expr} {ta : TE} {t : TA}
theorem b7d {pl : Sem Bool} (he : PE X o ta) (c : Cls X.K C) (hm : Meth X.K C m f) (F : FnOk X.prog X.w X.K X.mg X.base CX k f fd ps sp) (hr : Room k X.A) (hb : Binds X.K fd ps ds) (hd : Vals dvs ds) (hx : ∀ σ, PassesAt CX X σ (E σ)) (ha : PA X (e :: es) t)
  (hst : starEach (e :: es) X.env = (false, eval e X.env) :: starEach es X.env := by rfl) (hpl : (backTo pos (starEach es X.env)).any (·.1) = false := by rfl)
  (ht : eval (.Call (.Attribute o m apos) (e :: es) [] pos) X.env = (do
   let ov ← eval o X.env
   standAt apos.atName
   let (f, first) ← holding [ov] (getMethod ov m pl)
   callWith pos f first (backTo pos (starEach (e :: es) X.env)) (backToKw pos (keywordEach [] X.env))) := by rfl) :
  PE X (.Call (.Attribute o m apos) (e :: es) [] pos) (tCallSD sp dvs E (tMethA C m ta t)) := by
 refine ⟨fun pins s σ H Q I h => ?_⟩
 refine PySem.W.methodCall_KW (pl := pl) (thn (he.run pins s σ H _ I h) fun u s1 ⟨x, H1, I1, rx, a, dx, fs, ex, ea, l, q⟩ => ?_) ht
 subst ex
 obtain rfl : u = Value.ref a := rx
 refine getmeth_ok I1 ea c hm l ?_
 refine PySem.W.callWith_K (first := [.ref a]) (h₀ := X.base) I.ok.mod.kin hm.kp (thn (ha.run pos pins s1 σ H1 _ I1 q) fun us s2 ⟨vs, H2, I2, r, q2⟩ => ⟨I2.kIn, ?_⟩) hst hpl
 exact run_fnSD (us := .ref a :: us) (vs := .ref a :: vs) F hr hb hd (hx σ) I2 (.cons rfl r) q2
theorem n8b {pl : Sem Bool} (he : PE X o ta) (c : Cls X.K C) (hm : Meth X.K C m f) (F : FnOk X.prog X.w X.K X.mg X.base CX k f fd ps sp) (hr : Room k X.A) (hb : Binds X.K fd ps ds) (hd : Vals dvs ds) (hx : ∀ σ, PassesAt CX X σ (E σ))
  (ht : eval (.Call (.Attribute o m apos) [] [] pos) X.env = (do
   let ov ← eval o X.env
   standAt apos.atName
   let (f, first) ← holding [ov] (getMethod ov m pl)
   callWith pos f first (backTo pos (starEach [] X.env)) (backToKw pos (keywordEach [] X.env))) := by rfl) :
  PE X (.Call (.Attribute o m apos) [] [] pos) (tCallSD sp dvs E (tMethA C m ta tNil)) := by
 refine ⟨fun pins s σ H Q I h => ?_⟩
 refine PySem.W.methodCall_KW (pl := pl) (thn (he.run pins s σ H _ I h) fun u s1 ⟨x, H1, I1, rx, a, dx, fs, ex, ea, l, q⟩ => ?_) ht
 subst ex
 obtain rfl : u = Value.ref a := rx
 refine getmeth_ok I1 ea c hm l ?_
 exact PySem.W.callWith_K0 (first := [.ref a]) I1.kIn hm.kp (run_fnSD (us := [.ref a]) (vs := [.ref a]) F hr hb hd (hx σ) I1 (.cons rfl .nil) q)
end
def objNo (c m : Str) (d : D) : Bool := match d with
 | .obj c' fs => decide (c' = c) && (lookF fs m).isNone
 | _ => false
def aMeth (c m : Str) (fo : M D) (fa : M (List D)) : M (List D) := mbind fo fun d => fun ρ => if objNo c m d then mbind fa (fun ds => mpure (d :: ds)) ρ else .bad
theorem RepF.lookN {K : PySem.W.Frag} {G : Hp} {f : Str} : ∀ {xs : List (Str × V)} {fs : List (Str × D)}, RepF K G xs fs → lookF fs f = none → xs.lookup f = none
  | _, _, .nil, h => rfl
  | _, _, .cons (k := g) (v := v) (vs := vs) (d := d') (ds := ds) h1 r, h => by
    have h : ((g, d') :: ds).lookup f = none := h
    rw [List.lookup_cons] at h ⊢
    cases e : f == g with
    | true =>
      rw [e] at h
      cases h
    | false =>
      rw [e] at h
      exact RepF.lookN r h
section
variable {X : Cx} {cls : Nat → Value} {W : WX} {e o : Expr} {es : List Expr} {c m : Str} {pos apos : Pos}
theorem v2c {fo : M D} {fa : M (List D)} (h1 : Inert fo) (h2 : Inert fa) : Inert (aMeth c m fo fa) := a7a h1 fun d ρ n a ρ' h => by
 split at h
 ·exact a7a h2 (fun _ => d6a) ρ n a ρ' h
 ·cases h
theorem b8d {K : PySem.W.Frag} {C : Addr} {ta : TE} {t : TA} {fo : M D} {fa : M (List D)} (hC : PySem.W.nsIn K mainGlobals c = some (some (.ref C))) (ho : SimE K cls W ta fo) (ha : SimA K cls W t fa) : SimA K cls W (tMethA C m ta t) (aMeth c m fo fa) := fun F ρ σ G H c0 Q w => by
  refine ho F ρ σ G H c0 _ ((a8a w).mono (fun d ρ1 w1 v1 G1 H1 e1 c1 r1 => ?_) fun _ _ p => p)
  split at w1
  · rename_i hn
    unfold objNo at hn
    split at hn
    · rename_i c' fs
      simp only [h6e, decide_eq_true_eq] at hn
      obtain ⟨hc, hm⟩ := hn
      subst hc
      cases hr : r1 with
      | obj h1 h2 r =>
        rw [hC] at h1
        cases h1
        have hl : lookF fs m = none := by
          cases q : lookF fs m with
          | none => rfl
          | some x => rw [q] at hm; cases hm
        refine ⟨_, _, _, rfl, c1.ex _ _ h2, r.lookN hl, ?_⟩
        refine ha F ρ1 σ G1 H1 c1 _ ((a8a w1).mono (fun vs ρ2 w2 v2 G2 H2 e2 c2 r2 => ?_) fun _ _ p => p.mono e1)
        exact w2 _ G2 H2 (e1.trans e2) c2 (.cons (r1.mono e2) r2)
    · cases hn
  · exact w1.elim
structure Mth (P : Program) (w : World) (K : PySem.W.Frag) (mg : Str → Option Value) (base : Heap) (cls : Nat → Value) (c m : Str) (ps : List Str) (k np ns : Nat) (den : MS) : Prop where
 ex : ∃ C f fd, FnOk P w K mg base (L2.CX P w) k f fd ps (spD K cls np ns den) ∧ PySem.W.nsIn K mainGlobals c = some (some (.ref C)) ∧ Cls K C ∧ Meth K C m f ∧ Binds K fd ps []
variable {ps : List Str} {k j np ns : Nat} {den : MS} {fo : M D} {fa : M (List D)}
theorem m4a {pl : Sem Bool} (M : Mth X.prog X.w X.K X.mg X.base cls c m ps k np ns den) (hr : Room j X.A) (hj : k ≤ j) (tk : Takes X W) (ho : QE X cls W o fo)
  (ht : eval (.Call (.Attribute o m apos) [] [] pos) X.env = (do
   let ov ← eval o X.env
   standAt apos.atName
   let (f, first) ← holding [ov] (getMethod ov m pl)
   callWith pos f first (backTo pos (starEach [] X.env)) (backToKw pos (keywordEach [] X.env))) := by rfl) :
  QE X cls W (.Call (.Attribute o m apos) [] [] pos) (eCall np ns den [] (aMeth c m fo aNil)) := by
 obtain ⟨C, f, fd, F, hn, cl, mt, hb⟩ := M.ex
 obtain ⟨⟨to, po, so⟩, io⟩ := ho
 exact ⟨⟨_, n8b (pl := pl) po cl mt F (hr.mono hj) hb .nil (fun σ => passAt tk σ) ht, m4c (dvs := []) (fun _ => .nil) (b8d hn so (fun F ρ σ G H c Q w => w [] G H (Same.refl G) c .nil))⟩, n3b (v2c io d6a)⟩
end
theorem l2a {P : Program} {w : World} {K : PySem.W.Frag} {mg : Str → Option Value} {base : Heap} {cls : Nat → Value} {n m : Str} {C f : Addr} {fd : FuncData} {ps : List Str} {k np ns : Nat} {den : MS} (hn : PySem.W.nsIn K mainGlobals n = some (some (.ref C))) (c : Cls K C) (M : Meth K C m f) (ok : FnOk P w K mg base (L2.CX P w) k f fd ps (spD K cls np ns den)) (hb : Binds K fd ps []) : Mth P w K mg base cls n m ps k np ns den :=
 ⟨⟨C, f, fd, ok, hn, c, M, hb⟩⟩
def opExtend : D → List D → Option (D × D)
 | .lst ds, [.lst es] => if ds.length + es.length ≤ 100000 then some (.non, .lst (ds ++ es)) else none
 | _, _ => none
def opReverse : D → List D → Option (D × D)
 | .lst ds, [] => some (.non, .lst ds.reverse)
 | _, _ => none
def intsD : List D → Option (List Int)
 | [] => some []
 | .int i :: ds => (intsD ds).map (i :: ·)
 | _ => none
def opRemove : D → List D → Option (D × D)
 | .lst ds, [.int k] => (intsD ds).bind fun ns => if k ∈ ns then some (.non, .lst ((ns.erase k).map .int)) else none
 | _, _ => none
section
variable {X : Cx} {cls : Nat → Value} {W : WX} {e e' o : Expr} {fk : M D}
end
def plF (i : Nat) (c x : Str) (ρ : List Sl) : Option D := match ρ[i]? with
 | some (.val d) => opFld c x d
 | _ => none
def keyOfD : D → Option Key
 | .int i => some (.inl i)
 | .str x => some (.inr x)
 | _ => none
def eDisp1 (fk fv : M D) : M D := mbind fk fun k => mbind fv fun v => lift ((keyOfD k).map fun y => .dK [(y, v)])
section
variable {X : Cx} {cls : Nat → Value} {W : WX} {a b : Expr} {fk fv : M D} {pos : Pos}
end
theorem CS.giveUp {K : PySem.W.Frag} {F : Fm} {G H : Hp} {σ : St} {ρ : List Sl} (c : CS K F G H σ ρ) {i : Nat} (hb : notBor ρ[i]? = true) : CS K F G H σ (ρ.set i .no) := by
  obtain ⟨t, et, nb⟩ := l4a hb
  have same : ∀ v, σ[i]? = some (some v) → σ.set i (some v) = σ := fun v h => by
    obtain ⟨hl, e⟩ := List.getElem?_eq_some_iff.mp h
    rw [← e]
    exact List.set_getElem_self hl
  cases t with
  | no =>
    obtain ⟨hl, e⟩ := List.getElem?_eq_some_iff.mp et
    rw [← e, List.set_getElem_self hl]
    exact c
  | val d =>
    obtain ⟨v, hv, r⟩ := c.vals i d et
    have := c.setAny (s := .no) (v := v) hb (fun d e => by cases e) (fun d e => by cases e) (fun d e => by cases e)
    rwa [same v hv] at this
  | own d =>
    obtain ⟨l, a, b, x, y⟩ := c.owns i d et
    have := c.setAny (s := .no) (v := .ref l) hb (fun d e => by cases e) (fun d e => by cases e) (fun d e => by cases e)
    rwa [same _ a] at this
  | bor d => exact (nb d rfl).elim
def dropS : List Nat → List Sl → Option (List Sl)
 | [], ρ => some ρ
 | v :: vs, ρ => if notBor ρ[v]? then dropS vs (ρ.set v .no) else none
theorem CS.dropS {K : PySem.W.Frag} {F : Fm} {G H : Hp} {σ : St} : ∀ {vs : List Nat} {ρ ρ' : List Sl}, CS K F G H σ ρ → NT.dropS vs ρ = some ρ' → CS K F G H σ ρ'
  | [], ρ, ρ', c, h => by cases h; exact c
  | v :: vs, ρ, ρ', c, h => by
    unfold NT.dropS at h
    split at h
    · rename_i hb
      exact CS.dropS (c.giveUp hb) h
    · cases h
def sDrop (vs : List Nat) (f : MS) : MS := fun ρ => match f ρ with
  | .nx ρ' => match dropS vs ρ' with
    | some ρ2 => .nx ρ2
    | none => .bad
  | o => o
section
variable {X : Cx} {cls : Nat → Value} {W : WX} {sts : List Stmt} {sf : MS}
theorem l8d {K : PySem.W.Frag} {t : TS} {vs : List Nat} (h : SimS K cls W t sf) : SimS K cls W t (sDrop vs sf) := fun F ρ σ G H c E w => by
  refine h F ρ σ G H c E ?_
  unfold sDrop at w
  cases q : sf ρ with
  | nx ρ' =>
    rw [q] at w
    dsimp only at w
    split at w
    · rename_i ρ2 e
      exact fun σ' G' H' ex c' => w σ' G' H' ex (c'.dropS e)
    · exact w.elim
  | rt d ρ' => rw [q] at w; exact w
  | rtN d ρ' => rw [q] at w; exact w
  | ex k ρ' => rw [q] at w; exact w
  | bad => rw [q] at w; exact w
theorem QB.drop (vs : List Nat) (h : QB X cls W sts sf) : QB X cls W sts (sDrop vs sf) := ⟨let ⟨t, p, s⟩ := h.sim; ⟨t, p, l8d s⟩⟩
end
section
variable {ρ ρ' : List Sl} {c m : Str} {d : D} {fo fk fv : M D} {fa : M (List D)} {sf : MS} {vs : List Nat} {i : Nat}
theorem l9d : aMeth c m fo fa ρ = bnd (fo ρ) (k := ⟨fun d ρ => iteR (objNo c m d) (k := ⟨(bnd (fa ρ) (k := ⟨fun ds ρ => .ok (d :: ds) ρ⟩)), .bad⟩)⟩) := id (by
  unfold aMeth mbind bnd
  cases fo ρ with
  | ok d ρ1 =>
    dsimp only
    cases q : objNo c m d with
    | true => rw [if_pos rfl, n4b]; cases fa ρ1 <;> rfl
    | false => rw [if_neg k6e, n5b]
  | ex c ρ1 => rfl
  | bad => rfl)
theorem b9d : eDisp1 fk fv ρ = bnd (fk ρ) (k := ⟨fun k ρ => bnd (fv ρ) (k := ⟨fun v ρ => lft ((keyOfD k).map fun y => .dK [(y, v)]) ρ⟩)⟩) := id (by
 unfold eDisp1
 rw [b2a]
 congr 1)
def drpO (o : O) (vs : List Nat) : O := match o with
 | .nx ρ' => optO (dropS vs ρ') (k := ⟨fun ρ => .nx ρ⟩)
 | o => o
theorem m0d : sDrop vs sf ρ = drpO (sf ρ) vs := id (by
 unfold sDrop drpO
 cases sf ρ with
 | nx ρ' => dsimp only; cases dropS vs ρ' <;> rfl
 | _ => rfl)
theorem v4d : drpO (.nx ρ) vs = optO (dropS vs ρ) (k := ⟨fun ρ => .nx ρ⟩) := id rfl
theorem v5d : drpO (.rt d ρ) vs = .rt d ρ := id rfl
theorem m1d : drpO (.rtN d ρ) vs = .rtN d ρ := id rfl
theorem v6d {k : Nat} : drpO (.ex k ρ) vs = .ex k ρ := id rfl
theorem c0d : dropS [] ρ = some ρ := id rfl
theorem v3c {v : Nat} (h : notBor ρ[v]? = true) : dropS (v :: vs) ρ = dropS vs (ρ.set v .no) := id (by
 show (if notBor ρ[v]? = true then _ else _) = _
 rw [if_pos h])
def dctP (o : Option D) (mk : List (Key × D) → List D) (ρ : List Sl) : R (List D) := match o with
 | some (.dK kvs) => .ok (mk kvs) ρ
 | _ => .bad
theorem m2d {x : Str} {mk : List (Key × D) → List D} : iDct (plF i c x) mk ρ = dctP (plF i c x ρ) mk ρ := id (by
 unfold iDct dctP
 cases plF i c x ρ with
 | none => rfl
 | some d => cases d <;> rfl)
theorem v7d {kvs : List (Key × D)} {mk : List (Key × D) → List D} : dctP (some (.dK kvs)) mk ρ = .ok (mk kvs) ρ := id rfl
end
end NT
set_option Elab.async false
set_option linter.all false
set_option maxRecDepth 100000
set_option maxHeartbeats 4000000
namespace NT
open PySem L2
section
variable {K : PySem.W.Frag} {F : Fm} {G H G' H' : Hp} {σ σ' : St} {ρ ρ' : List Sl} {cls : Nat → Value} {W : WX}
abbrev GE := Key × Addr × List D
def geK (es : List GE) : List (Key × V) := es.map fun e => (e.1, .ref e.2.1)
def geD (es : List GE) : List (Key × List D) := es.map fun e => (e.1, e.2.2)
structure Prv (F : Fm) (G : Hp) (σ : St) (ρ : List Sl) (a : Addr) : Prop where
 g : G a = none
 h0 : F.H0 a = none
 nm : ∀ (i : Nat) s e, ρ[i]? = some s → s.mine = some e → σ[i]? ≠ some (some (.ref a))
structure Grp (K : PySem.W.Frag) (F : Fm) (G H : Hp) (σ : St) (ρ : List Sl) (i : Nat) (C : Addr) (x : Str) (p : Addr) (es : List GE) : Prop where
 self : ∃ l0 dx xs, σ[i]? = some (some (.ref l0)) ∧ H l0 = some (.ins C dx xs) ∧ xs.lookup x = some (.ref p)
 dict : H p = some (.dK (geK es))
 lst : ∀ e ∈ es, ∃ vs, H e.2.1 = some (.lst vs) ∧ RepL K G vs e.2.2
 nd : (p :: es.map (·.2.1)).Nodup
 kd : (es.map (·.1)).Nodup
 prv : ∀ a ∈ p :: es.map (·.2.1), Prv F G σ ρ a
theorem Prv.ne (h : Prv F G σ ρ p) {i : Nat} {s : Sl} {e : D} {l : Addr} (h1 : ρ[i]? = some s) (h2 : s.mine = some e) (h3 : σ[i]? = some (some (.ref l))) : l ≠ p := fun z => h.nm i s e h1 h2 (z ▸ h3)
def addG (acc : List (Key × List D)) (k : Key) (d : D) : List (Key × List D) :=
 (if (acc.any fun e => decide (e.1 = k)) = true then acc else acc ++ [(k, [])]).map fun e => if e.1 = k then (e.1, e.2 ++ [d]) else e
def upG (es : List GE) (k : Key) (d : D) : List GE := es.map fun e => if e.1 = k then (e.1, e.2.1, e.2.2 ++ [d]) else e
variable {i : Nat} {C : Addr} {x : Str} {p : Addr} {es : List GE} {k : Key} {dk dv dself : D} {s : Sl} {ρk ρv : List Sl} {tk tv : TE} {fk fv : M D}
structure Bnd (es : List GE) (n : Nat) : Prop where
 len : es.length ≤ n
 each : ∀ e ∈ es, e.2.2.length ≤ n
def tGrp (K : PySem.W.Frag) (i : Nat) (x : Str) (tk tv : TE) : TE := tBM K "list" rAppend (tBM K "dict" rSetd (tFld K (tVar i) x) (tCons tk (tCons (tLst tNil) tNil))) (tCons tv tNil)
def lsG (acc : List (Key × List D)) : List (Key × D) := acc.map fun e => (e.1, .lst e.2)
def grpL (m : MG) (fk fv : M D) : List D → List (Key × List D) → List Sl → Option (List (Key × List D) × List Sl)
  | [], acc, ρ => some (acc, ρ)
  | d :: ds, acc, ρ => (m d ρ).bind fun ρ1 => match fk (ρ1.map viewS), fv (ρ1.map viewS) with
    | .ok dk _, .ok dv _ => if plain dk && plain dv then (keyOfD dk).bind fun k => grpL m fk fv ds (addG acc k dv) ρ1 else none
    | _, _ => none
def sGroup (i : Nat) (c x : Str) (fe : M D) (m : MG) (fk fv : M D) : MS := fun ρ => match setFld i c x .hole ρ with
  | none => .bad
  | some ρ0 => match fe (ρ0.map viewS) with
    | .ok (.tup ds) _ => if plainL ds && decide (ds.length ≤ 100000) then match grpL m fk fv ds [] ρ0 with
      | none => .bad
      | some (acc, ρ1) => match setFld i c x (.dK (lsG acc)) ρ1 with
        | none => .bad
        | some ρ2 => .nx ρ2
      else .bad
    | _ => .bad
end
structure GV (m : MG) (ts : List Nat) : Prop where
 run : ∀ d ρ ρ', m d ρ = some ρ' → ∀ j : Nat, (j ∉ ts → ρ'[j]? = ρ[j]?) ∧ ∀ s e, ρ'[j]? = some s → s.mine = some e → j ∉ ts
structure GsV (m : MGs) (ts : List Nat) : Prop where
 run : ∀ d ρ ρ', m d ρ = some ρ' → (∀ j : Nat, j ∉ ts → ρ'[j]? = ρ[j]?) ∧ ∀ j ∈ ts, ∀ s e, ρ'[j]? = some s → s.mine ≠ some e
section
variable {X : Cx} {cls : Nat → Value} {W : WX} {st1 st2 : Stmt} {rest body : List Stmt} {tg iter ek ev : Expr} {i : Nat} {c0 x : Str} {fe fk fv : M D} {m : MG} {ts : List Nat} {sg : MS}
end
end NT
set_option Elab.async false
set_option linter.all false
set_option maxRecDepth 100000
set_option maxHeartbeats 4000000
namespace NT
open PySem L2 PySem.W
def rMaxT (K : PySem.W.Frag) : List V → Hp → VK → Prop := fun xs H Q => ∃ (a : Addr) (vs : List V) (x : PyData) (ds : List PyData), xs = [.ref a] ∧ SqL K H a vs ∧ DpAll K H vs (x :: ds) ∧ AlikeAll (x :: ds) ∧ PyData.depthAll (x :: ds) ≤ 60 ∧
 ∀ (i : Nat) v, vs[i]? = some v → (x :: ds)[i]? = some (maxD x ds) → Q v H
def isIn : D → Bool
 | .int _ => true
 | _ => false
def isIT : D → Bool
 | .tup ds => ds.all isIn
 | _ => false
def maxDD (d : D) (ds : List D) : D := ds.foldl (fun a y => if dataLt (py a) (py y) then y else a) d
def opMaxT : List D → Option D
 | [.lst (d :: ds)] => if (d :: ds).all isIT && (fits 60 (d :: ds) && alikes (d :: ds)) then some (maxDD d ds) else none
 | _ => none
end NT
set_option Elab.async false
set_option linter.all false
set_option maxRecDepth 100000
set_option maxHeartbeats 4000000
namespace NT
open PySem L2
section
variable {X : Cx} {cls : Nat → Value} {W : WX} {e a b : Expr} {f g : M D} {pos : Pos} {sf sg : MS} {st : Stmt} {sts : List Stmt} {ts us : List Nat}
theorem c1d {K : PySem.W.Frag} {t : TS} {vs : List Nat} (h : SimSt K cls W ts t sf) : SimSt K cls W ts t (sDrop vs sf) := fun F ρ σ G H c E w => by
  refine h F ρ σ G H c E ?_
  unfold sDrop at w
  cases q : sf ρ with
  | nx ρ' =>
    rw [q] at w
    dsimp only at w
    split at w
    · rename_i ρ2 e
      exact fun σ' G' H' ex c' => w σ' G' H' ex (c'.dropS e)
    · exact w.elim
  | rt d ρ' => rw [q] at w; exact w
  | rtN d ρ' => rw [q] at w; exact w
  | ex k ρ' => rw [q] at w; exact w
  | bad => rw [q] at w; exact w
theorem QBt.drop (vs : List Nat) (h : QBt X cls W ts sts sf) : QBt X cls W ts sts (sDrop vs sf) := ⟨let ⟨t, p, s⟩ := h.sim; ⟨t, p, c1d s⟩⟩
end
end NT
set_option Elab.async false
set_option linter.all false
set_option maxRecDepth 100000
set_option maxHeartbeats 4000000
namespace EN
open PySem L2 PySem.Spec PyProof.Rows
section
variable {prog : Program} {w : World} {A : Around} {R : Result → Shared → Prop} {I : Addr} {fp wr : List Addr} {n : Nat} {P : Nat → Value → Prop} {St : Nat → Heap → Prop} {E : Value → Shared → Prop} {s : Shared}
end
def tInV (neg : Bool) (ta te : TE) : TE := fun σ H Q => ta σ H fun x H1 => te σ H1 fun y H2 => ∃ (i : Int) (d : Addr) (kvs : List (Key × V)) (ns : List Int), x = .int i ∧ y = .ref d ∧ Rd H2 d (.dK kvs) ∧ kvs.map (·.2) = ns.map V.int ∧ Q (.bl (if neg then !ns.any (· == i) else ns.any (· == i))) H2
section
variable {X : Cx} {a e : Expr} {ta te : TE} {p apos cpos pos : Pos}
end
end EN
namespace NT
open PySem L2
def opInV (neg : Bool) (x y : D) : Option D := match x, y with
 | .int i, .dK kvs => (intsD (kvs.map (·.2))).map fun ns => .bl (if neg then !ns.any (· == i) else ns.any (· == i))
 | _, _ => none
section
variable {X : Cx} {cls : Nat → Value} {W : WX} {e a b : Expr} {es : List Expr} {f g : M D} {pos p apos cpos : Pos}
end
end NT
set_option Elab.async false
set_option linter.all false
set_option maxRecDepth 100000
set_option maxHeartbeats 4000000
namespace NT
open PySem L2
def tLenSetT (K : PySem.W.Frag) (ta : TE) : TE := fun σ H Q => ta σ H fun x H1 => ∃ (l : Addr) (ns : List Int), x = .ref l ∧ SqT K H1 l (ns.map V.int) ∧ ns.length ≤ 4000 ∧ Q (.int ((setL ns).length : Nat)) H1
section
variable {X : Cx} {cls : Nat → Value} {W : WX} {e a b : Expr} {es : List Expr} {f g : M D} {pos : Pos}
def opLenSetT (d : D) : Option D := match d with
  | .tup ds => match intsOf ds with
    | some ns => if ns.length ≤ 4000 then some (.int ((setL ns).length : Nat)) else none
    | none => none
  | _ => none
end
def dropD (kvs : List (Key × D)) (k : Key) : List (Key × D) := kvs.filter fun kv => decide (kv.1 ≠ k)
theorem RepK.drop {K : PySem.W.Frag} {G : Hp} {k : Key} : ∀ {xs : List (Key × V)} {ds : List (Key × D)}, RepK K G xs ds → RepK K G (dropK xs k) (dropD ds k)
  | _, _, .nil => .nil
  | _, _, .cons (k := j) (v := v) (vs := vs) (d := d) (ds := ds) h r => by
    have ih := RepK.drop (k := k) r
    unfold dropK dropD at ih ⊢
    by_cases e : j = k
    · rw [List.filter_cons_of_neg (by simp [e]), List.filter_cons_of_neg (by simp [e])]
      exact ih
    · rw [List.filter_cons_of_pos (by simp [e]), List.filter_cons_of_pos (by simp [e])]
      exact .cons h ih
def isDK : D → Bool
 | .dK _ => true
 | _ => false
def opPopK : D → List D → Option (D × D)
 | .dK kvs, [k] => (keyK k).bind fun j => (lookD kvs j).map fun v => (v, .dK (dropD kvs j))
 | _, _ => none
section
variable {X : Cx} {cls : Nat → Value} {W : WX} {e e' o : Expr} {fk : M D}
end
end NT
set_option Elab.async false
set_option linter.all false
set_option maxRecDepth 100000
set_option maxHeartbeats 4000000
namespace EN
open PySem L2 PySem.Spec PyProof.Rows
set_option maxHeartbeats 4000000 in
theorem v8d {v : Value} {o : PySem.Obj} {H : Heap → Prop} (B : Begins v o H) :
  Meets (Builtin.«enumerate.__new__» ⟨[.type "enumerate", v], []⟩) (fun _ R s => H s.heap ∧
   R (.ok (.ret (.ref (s.heap.push o).objs.size))) { s with heap := (s.heap.push o).push { cls := .type "enumerate", data := .fields #[.none, .bool false, .ref s.heap.objs.size, rawInt 0, .none, .none] } }) :=
 .of_wp fun prog w A R s h => by
  obtain ⟨hp, g, d, tk, os⟩ := s; obtain ⟨h1, h⟩ := h
  have hsub := PySem.sub_enumerate
  have q1 : ∀ {A' : Around} {E : Value → Shared → Prop} {Q : Value → Shared → Prop}, Q (.ref hp.objs.size) ⟨hp.push o, g, d, tk, os⟩ → wpAny (model prog w) A' (pyIter v) Q E ⟨hp, g, d, tk, os⟩ :=
   fun q => B.iter prog w _ _ ⟨hp, g, d, tk, os⟩ _ h1 q
  wp_walk using q1
  refine wpAny_stack_any fun st => wpAny_pure ?_
  split
  ·rename_i c _ _ _ _ _
   cases (c == Value.type "enumerate")
   ·wp_walk using q1
    exact ⟨_, rfl, h⟩
   ·wp_walk using q1
    exact ⟨_, rfl, h⟩
  ·wp_walk using q1
   exact ⟨_, rfl, h⟩
section
variable {prog : Program} {w : World} {A : Around} {E : Value → Shared → Prop} {s : Shared}
end
end EN
namespace NT
open PySem L2
def IteK (K : PySem.W.Frag) (k : Bool) (a : Addr) : It :=
 ⟨fun i H => ∃ (xs : List V) (x : V), SqK K k H a xs ∧ xs[i]? = some x,
  fun i H v H' => ∃ T x, v = .ref T ∧ H T = none ∧ H' = upd H T (.tup [.int (i : Nat), x]) ∧ ∀ xs, SqK K k H a xs → xs[i]? = some x,
  fun i H => ∃ xs : List V, SqK K k H a xs ∧ xs.length = i⟩
def iEnumK (K : PySem.W.Frag) (ta : TA) : TI := fun σ H R => ta σ H fun vs H1 => ∃ k a xs, vs = [.ref a] ∧ SqK K k H1 a xs ∧ R (IteK K k a) H1
section
variable {X : Cx} {cls : Nat → Value} {W : WX}
def enumL (ds : List D) : List D := ds.zipIdx.map fun p => .raw [.int (p.2 : Nat), p.1]
def enumD : List D → Option (List D)
 | [x] => (seqD x).map enumL
 | _ => none
def iEnumD (f : M (List D)) : M (List D) := mbind f fun ds => lift (enumD ds)
end
end NT
set_option Elab.async false
set_option linter.all false
set_option maxRecDepth 100000
set_option maxHeartbeats 4000000
namespace EN
open PySem L2 PySem.Spec PyProof.Rows
def tItemsR (te : TE) : TE := fun σ H Q => te σ H fun x H1 => ∃ (d : Addr) (kvs : List (Key × V)), x = .ref d ∧ Rd H1 d (.dK kvs) ∧
 ∀ (H' : Hp) (p : Addr) (ts : List Addr), (∀ b o, H1 b = some o → H' b = some o) → H1 p = none → (∀ t ∈ ts, H1 t = none) → p ∉ ts → H' p = some (.lst (ts.map V.ref)) → Paired (fun (t : Addr) (q : Key × V) => H' t = some (.tup [kV q.1, q.2])) ts kvs → Q (.ref p) H'
section
variable {X : Cx} {e : Expr} {te : TE} {p apos cpos pos : Pos}
def NF (X : Cx) (a : Addr) : Prop := ∀ o' u', X.H_0 a ≠ some (.frz o' u')
def tNfA (X : Cx) (ta : TA) : TA := fun σ H Q => ta σ H fun vs H1 => (∀ a, H1 a = none → NF X a) → Q vs H1
def tThaw (X : Cx) (te : TE) : TE := fun σ H Q => te σ H fun v H1 => Q v H1 ∨ ∃ a o u, v = .ref a ∧ NF X a ∧ H1 a = some (.frz o u) ∧ Q v (upd H1 a u)
end
end EN
namespace NT
open PySem L2
def opListItems : D → Option D
 | .dK kvs => if kvs.all (fun kv => keyD kv.2) then some (.lst (kvs.map fun kv => .tup [kD kv.1, kv.2])) else none
 | _ => none
section
variable {X : Cx} {cls : Nat → Value} {W : WX} {e a b : Expr} {es : List Expr} {f g : M D} {pos p apos cpos : Pos}
def eGet1 (f fk : M D) : M D := mbind f fun d => fun ρ => if isDct d then mbind fk (fun k => lift ((opGetD d k).map fun o => o.getD .non)) ρ else .bad
def thawD (i : Nat) : D → Option D
  | .tup rs => match rs[i]? with
    | some d => if plainO d then some d else none
    | none => none
  | _ => none
def thawO (i : Nat) (o : O) (ρ : List Sl) : R D := match o with
  | .rt d _ => match thawD i d with
    | some x => .ok x ρ
    | none => .bad
  | .ex c _ => .ex c ρ
  | _ => .bad
def eCallI (np ns : Nat) (den : MS) (i : Nat) (fa : M (List D)) : M D := mbind fa fun ds => fun ρ => if ds.length = np ∧ plainL ds = true then thawO i (den (ds.map .val ++ List.replicate ns .no)) ρ else .bad
def tupsOf (G : Hp) : Hp := fun b => match G b with
 | some (.tup xs) => some (.tup xs)
 | some (.frz o (.tup xs)) => some (.frz o (.tup xs))
 | _ => none
def joinT (G G' : Hp) : Hp := fun b => match G b with
 | some o => some o
 | none => tupsOf G' b
end
end NT
set_option Elab.async false
set_option linter.all false
set_option maxRecDepth 100000
set_option maxHeartbeats 4000000
namespace NT
open PySem L2
def isDc : D → Bool
 | .dK _ => true
 | .dT _ => true
 | _ => false
def opInA (neg : Bool) (x y : D) : Option D := if isDc y then opInD neg x y else opIn neg x y
def rInA (K : PySem.W.Frag) (neg : Bool) : R2 := fun x y H Q => rInQ K neg x y H Q ∨ ∃ (a : Addr) (o : Option V), y = .ref a ∧ DGet H a x o ∧ Q (.bl (if neg then !o.isSome else o.isSome)) H
section
variable {X : Cx} {K : PySem.W.Frag}
end
end NT
set_option Elab.async false
set_option linter.all false
set_option maxRecDepth 100000
set_option maxHeartbeats 4000000
namespace NT
open PySem L2
def opNeL (x y : D) : Option D := match x, y with
 | .lst (_ :: _), .lst [] => some (.bl true)
 | _, _ => opNe x y
def opEqL (x y : D) : Option D := match x, y with
 | .lst (_ :: _), .lst [] => some (.bl false)
 | _, _ => opEq x y
def rLen (K : PySem.W.Frag) (b : Bool) : R2 := fun x y H Q => ∃ (l m : Addr) (xs ys : List V), x = .ref l ∧ y = .ref m ∧ H l = some (.lst xs) ∧ H m = some (.lst ys) ∧ xs.length ≠ ys.length ∧ Q (.bl b) H
section
variable {X : Cx} {K : PySem.W.Frag}
end
end NT
set_option Elab.async false
set_option linter.all false
set_option maxRecDepth 100000
set_option maxHeartbeats 4000000
namespace NT
open PySem L2
section
variable {ρ ρ' : List Sl} {f g : M D} {fa : M (List D)} {np ns i c : Nat} {den : MS} {d : D} {ds : List D}
theorem c2d : iEnumD fa ρ = bnd (fa ρ) (k := ⟨fun ds ρ => lft (enumD ds) ρ⟩) := id (by
 unfold iEnumD
 rw [b2a]
 congr 1)
theorem m3d : eGet1 f g ρ = bnd (f ρ) (k := ⟨fun d ρ => iteR (isDct d) (k := ⟨(bnd (g ρ) (k := ⟨fun k ρ => lft ((opGetD d k).map fun o => o.getD .non) ρ⟩)), .bad⟩)⟩) := id (by
 unfold eGet1
 rw [b2a]
 congr 1)
theorem c3d : eCallI np ns den i fa ρ = bnd (fa ρ) (k := ⟨fun ds ρ => iteR (decide (ds.length = np) && plainL ds) (k := ⟨(thawO i (den (ds.map .val ++ List.replicate ns .no)) ρ), .bad⟩)⟩) := id (by
 unfold eCallI
 rw [b2a]
 congr 1
 congr 1
 funext ds ρ
 by_cases h1 : ds.length = np <;> cases h2 : plainL ds <;> simp [h1, iteR])
theorem m4d : thawO i (.rt d ρ') ρ = lft (thawD i d) ρ := id (by
 show (match thawD i d with
  | some x => R.ok x ρ
  | none => .bad) = lft (thawD i d) ρ
 cases thawD i d <;> rfl)
theorem m5d : thawO i (.ex c ρ') ρ = .ex c ρ := id rfl
end
end NT
set_option Elab.async false
set_option linter.all false
set_option maxRecDepth 100000
set_option maxHeartbeats 4000000
namespace NT
open PySem L2
def isStr : D → Bool
 | .str _ => true
 | _ => false
def strsOf : List D → Option (List Str)
 | [] => some []
 | .str x :: ds => (strsOf ds).map (x :: ·)
 | _ => none
theorem j4b : ∀ {ds : List D} {ys : List Str}, strsOf ds = some ys → ds = ys.map D.str
  | [], _, h => by cases h; rfl
  | .str x :: ds, _, h => by
    obtain ⟨ms, h1, h2⟩ := Option.map_eq_some_iff.mp h
    subst h2
    rw [h3e, j4b h1]
  | .non :: _, _, h | .bl _ :: _, _, h | .int _ :: _, _, h | .tup _ :: _, _, h | .lst _ :: _, _, h | .scr _ :: _, _, h | .dK _ :: _, _, h | .dT _ :: _, _, h | .exn _ :: _, _, h | .raw _ :: _, _, h | .obj _ _ :: _, _, h | .hole :: _, _, h | .exo _ :: _, _, h | .fnv _ :: _, _, h => by cases h
theorem n9b : ∀ {ys : List Str}, strsOf (ys.map D.str) = some ys
  | [] => rfl
  | y :: ys => by
    show (strsOf (ys.map D.str)).map _ = _
    rw [n9b]
    rfl
theorem RepL.strs {K : PySem.W.Frag} {G : Hp} : ∀ (ys : List Str), RepL K G (ys.map V.str) (ys.map D.str)
 | [] => .nil
 | y :: ys => .cons (.str y) (RepL.strs ys)
theorem RepL.strs_inv {K : PySem.W.Frag} {G : Hp} : ∀ {ys : List Str} {vs : List V}, RepL K G vs (ys.map D.str) → vs = ys.map V.str
  | [], _, .nil => rfl
  | y :: ys, _, .cons h r => by
    cases h
    rw [h3e, RepL.strs_inv r]
def joinO (a : Str) (ds : List D) : Option D := (strsOf ds).bind fun ys => if (ys.map (·.length)).sum + ys.length * a.length ≤ 16777216 then some (.str (Txt.join a ys)) else none
def opJoin : D → D → Option D
 | .str a, .lst ds => joinO a ds
 | .str a, .tup ds => joinO a ds
 | _, _ => none
def opSplit : D → D → Option D
 | .str a, .str b => if (b.length == 0) = false ∧ a.length ≤ 16777000 then some (.lst ((Txt.split a b).map .str)) else none
 | _, _ => none
def eTxt (op : D → D → Option D) (f g : M D) : M D := mbind f fun d => fun ρ => if isStr d then mbind g (fun k => lift (op d k)) ρ else .bad
section
variable {X : Cx} {cls : Nat → Value} {W : WX} {e o k : Expr} {f g : M D}
theorem a5c {op : D → D → Option D} (hf : Inert f) (hg : Inert g) : Inert (eTxt op f g) := a7a hf fun d ρ n y ρ' h => by
 split at h
 ·exact a7a hg (fun _ => c1a) ρ n y ρ' h
 ·cases h
theorem r1c (hp : ∀ to tk, PE X o to → PE X k tk → PE X e (tM1 (fun x xs H Q => ∃ a p, ∃ ys : List Str, x = .str a ∧ xs = [.ref p] ∧ (SqL X.K H p (ys.map V.str) ∨ SqT X.K H p (ys.map V.str)) ∧
      (ys.map (·.length)).sum + ys.length * a.length ≤ 16777216 ∧ Q (.str (Txt.join a ys)) H) to tk)) (ho : QE X cls W o f) (hk : QE X cls W k g) : QE X cls W e (eTxt opJoin f g) := by
  obtain ⟨⟨ta, pa, sa⟩, ia⟩ := ho
  obtain ⟨⟨tk, pk, sk⟩, ik⟩ := hk
  refine ⟨⟨_, hp _ _ pa pk, fun F ρ σ G H c Q w => ?_⟩, a5c ia ik⟩
  refine sa F ρ σ G H c _ ((a8a w).mono (fun d ρ1 w1 v1 G1 H1 e1 c1 r1 => ?_) fun _ _ p => p)
  split at w1
  · rename_i hd
    cases r1 with
    | str a =>
      refine ⟨⟨a, rfl⟩, ?_⟩
      refine sk F ρ1 σ G1 H1 c1 _ ((a8a w1).mono (fun y ρ2 w2 v2 G2 H2 e2 c2 r2 => ?_) fun _ _ p => p.mono e1)
      obtain ⟨z, ez, p⟩ := c9a w2
      have key : ∀ {ds : List D} {xs : List V} {q : Addr}, joinO a ds = some z → RepL X.K G2 xs ds → (SqL X.K H2 q xs ∨ SqT X.K H2 q xs) → ∃ (a' : Str) (p' : Addr) (ys : List Str), V.str a = .str a' ∧ [V.ref q] = [.ref p'] ∧ (SqL X.K H2 p' (ys.map V.str) ∨ SqT X.K H2 p' (ys.map V.str)) ∧ (ys.map (·.length)).sum + ys.length * a'.length ≤ 16777216 ∧ Q (.str (Txt.join a' ys)) H2 := fun {ds xs q} hj hr hs => by
        obtain ⟨ys, h1, h2⟩ := Option.bind_eq_some_iff.mp hj
        split at h2
        · rename_i hb
          cases h2
          have ed := j4b h1
          subst ed
          have ev := RepL.strs_inv hr
          subst ev
          exact ⟨a, q, ys, rfl, rfl, hs, hb, p _ G2 H2 (e1.trans e2) c2 (.str _)⟩
        · cases h2
      cases r2 with
      | lst h1 r => exact key ez r (.inl (.inl (.inl (c2.ex _ _ h1))))
      | tup h1 r => exact key ez r (.inr (.inl (c2.ex.rd h1.rd)))
      | _ => cases ez
    | _ => cases hd
  · exact w1.elim
theorem v9d (hp : ∀ to tk, PE X o to → PE X k tk → PE X e (tM1 (fun x xs H Q => ∃ a b, x = .str a ∧ xs = [.str b] ∧ (b.length == 0) = false ∧ a.length + 2 ≤ sizeLine ∧ rNewStrs (Txt.split a b) H Q) to tk)) (ho : QE X cls W o f) (hk : QE X cls W k g) : QN X cls W e (eTxt opSplit f g) := by
  obtain ⟨⟨ta, pa, sa⟩, ia⟩ := ho
  obtain ⟨⟨tk, pk, sk⟩, ik⟩ := hk
  refine ⟨⟨_, hp _ _ pa pk, fun F ρ σ G H c Q w => ?_⟩, a5c ia ik⟩
  refine sa F ρ σ G H c _ ((a8a w).mono (fun d ρ1 w1 v1 G1 H1 e1 c1 r1 => ?_) fun _ _ p => p)
  split at w1
  · rename_i hd
    cases r1 with
    | str a =>
      refine ⟨⟨a, rfl⟩, ?_⟩
      refine sk F ρ1 σ G1 H1 c1 _ ((a8a w1).mono (fun y ρ2 w2 v2 G2 H2 e2 c2 r2 => ?_) fun _ _ p => p.mono e1)
      obtain ⟨z, ez, p⟩ := c9a w2
      cases r2 with
      | str b =>
        have ez : (if (b.length == 0) = false ∧ a.length ≤ 16777000 then some (D.lst ((Txt.split a b).map .str)) else none) = some z := ez
        split at ez
        · rename_i hb
          cases ez
          refine ⟨a, b, rfl, rfl, hb.1, by rw [sizeLine_eq]; omega, fun l hl => ?_⟩
          have c3 := c2.allocN hl (.lst ((Txt.split a b).map V.str))
          exact p l G2 _ (e1.trans e2) c3 ⟨⟨_, upd_same, RepL.strs _⟩, (c2.fresh hl).2.1, (c2.fresh hl).1, fun i s e h1 h2 => c2.notMine hl h1 h2⟩
        · cases ez
      | _ => cases ez
    | _ => cases hd
  · exact w1.elim
end
section
variable {ρ : List Sl} {f g : M D} {op : D → D → Option D}
theorem j5b : eTxt op f g ρ = bnd (f ρ) (k := ⟨fun d ρ => iteR (isStr d) (k := ⟨bnd (g ρ) (k := ⟨fun k ρ => lft (op d k) ρ⟩), .bad⟩)⟩) := id (by
  unfold eTxt
  rw [b2a]
  cases f ρ with
  | ok d ρ1 =>
    dsimp only [bnd]
    cases isStr d with
    | true => rw [if_pos rfl, n4b, b2a]; cases g ρ1 <;> rfl
    | false => rw [if_neg k6e, n5b]
  | ex c ρ1 => rfl
  | bad => rfl)
end
def opIntS : List D → Option D
 | [.str a] => if a.length ≤ 640 then (PySem.intText? a).map .int else none
 | _ => none
def rIntS : List V → Hp → VK → Prop := fun xs H Q => ∃ a n, xs = [.str a] ∧ PySem.intText? a = some n ∧ a.length ≤ 640 ∧ Q (.int n) H
theorem m6d {K : PySem.W.Frag} : ValA K rIntS opIntS := fun F G H σ ρ xs ds z c r hz Q p => by
  unfold opIntS at hz
  split at hz
  · rename_i a
    split at hz
    · rename_i hl
      obtain ⟨n, h1, h2⟩ := Option.map_eq_some_iff.mp hz
      subst h2
      cases r with
      | cons r0 rn =>
        cases rn
        cases r0
        exact ⟨a, n, rfl, h1, hl, pok c p (.int n)⟩
    · cases hz
  · cases hz
end NT
set_option Elab.async false
set_option linter.all false
set_option maxRecDepth 100000
set_option maxHeartbeats 4000000
namespace NT
open PySem L2 PySem.Spec PyProof.Rows
def clsAt (j : Nat) (c : Str) (ρ : List Sl) : Bool := match mineOf ρ j with
 | some (_, .obj c' _) => decide (c' = c)
 | _ => false
def eAlt (j : Nat) (c : Str) (f g : M D) : M D := fun ρ => if clsAt j c ρ then f ρ else g ρ
section
variable {X : Cx} {cls : Nat → Value} {W : WX} {e o : Expr} {es : List Expr} {c m : Str} {pos apos : Pos}
def oMeth (c m : Str) (j : Nat) (fa : M (List D)) : M (List D × List D) := fun ρ => match mineOf ρ j with
 | some (_, d) => if objNo c m d then oHere fa ρ else .bad
 | none => .bad
theorem a6c {K : PySem.W.Frag} {C : Addr} {j : Nat} {t : TA} {fa : M (List D)} (hC : PySem.W.nsIn K mainGlobals c = some (some (.ref C))) (ha : SimA K cls W t fa) : SimAO K cls W j (tMethA C m (tVar j) t) (oMeth c m j fa) := fun F ρ σ G H l c0 hl Q w => by
 unfold oMeth at w
 split at w
 ·rename_i s d e
  obtain ⟨h1, h2⟩ := d7a e
  obtain ⟨l', a1, a2, a3, a4⟩ := c0.mine h1 h2
  rw [hl] at a1
  cases a1
  split at w
  ·rename_i hn
   unfold objNo at hn
   split at hn
   ·rename_i c' fs
    simp only [h6e, decide_eq_true_eq] at hn
    obtain ⟨hc, hm⟩ := hn
    subst hc
    obtain ⟨C', dx, xs, n1, n2, n3⟩ := a2
    rw [hC] at n1
    cases n1
    have hlk : lookF fs m = none := by
     cases q : lookF fs m with
     | none => rfl
     | some x => rw [q] at hm; cases hm
    refine ⟨.ref l, hl, _, _, _, rfl, n2, n3.lookN hlk, ?_⟩
    exact ha F ρ σ G H c0 _ ((a8a w).mono (fun xs ρ1 w1 v1 G1 H1 e1 c1 r1 => w1 [] v1 G1 H1 e1 c1 .nil r1) fun _ _ p => p)
   ·cases hn
  ·exact w.elim
 ·exact w.elim
variable {ps : List Str} {k j i np ns : Nat} {den : MS} {fa : M (List D)}
theorem g7a {pl : Sem Bool} (M : Mth X.prog X.w X.K X.mg X.base cls c m ps k np ns den) (hr : Room j X.A) (hj : k ≤ j) (tk : Takes X W) (ho : PE X o (tVar i)) (ha : QA X cls W (e :: es) fa)
  (hst : starEach (e :: es) X.env = (false, eval e X.env) :: starEach es X.env := by rfl) (hpl : (backTo pos (starEach es X.env)).any (·.1) = false := by rfl)
  (ht : eval (.Call (.Attribute o m apos) (e :: es) [] pos) X.env = (do
   let ov ← eval o X.env
   standAt apos.atName
   let (f, first) ← holding [ov] (getMethod ov m pl)
   callWith pos f first (backTo pos (starEach (e :: es) X.env)) (backToKw pos (keywordEach [] X.env))) := by rfl) :
  QE X cls W (.Call (.Attribute o m apos) (e :: es) [] pos) (eCallO np ns den i (oMeth c m i fa)) := by
 obtain ⟨C, f, fd, F, hn, cl, mt, hb⟩ := M.ex
 obtain ⟨⟨t, p, s⟩, ia⟩ := ha
 exact ⟨⟨_, b7d (pl := pl) ho cl mt F (hr.mono hj) hb .nil (fun σ => passAt tk σ) p hst hpl ht, h7b (a6c hn s)⟩, p9a⟩
theorem f4a {pl : Sem Bool} (M : Mth X.prog X.w X.K X.mg X.base cls c m ps k np ns den) (hr : Room j X.A) (hj : k ≤ j) (tk : Takes X W) (ho : PE X o (tVar i))
  (ht : eval (.Call (.Attribute o m apos) [] [] pos) X.env = (do
   let ov ← eval o X.env
   standAt apos.atName
   let (f, first) ← holding [ov] (getMethod ov m pl)
   callWith pos f first (backTo pos (starEach [] X.env)) (backToKw pos (keywordEach [] X.env))) := by rfl) :
  QE X cls W (.Call (.Attribute o m apos) [] [] pos) (eCallO np ns den i (oMeth c m i aNil)) := by
 obtain ⟨C, f, fd, F, hn, cl, mt, hb⟩ := M.ex
 exact ⟨⟨_, n8b (pl := pl) ho cl mt F (hr.mono hj) hb .nil (fun σ => passAt tk σ) ht, h7b (a6c hn (fun F ρ σ G H c Q w => w [] G H (Same.refl G) c .nil))⟩, p9a⟩
end
structure Mk0 (K : PySem.W.Frag) (C : Addr) : Prop where
 makes : PySem.W.makesIn K C = true
 init : PySem.W.findIn K (.ref C) "__init__" = some (some (.builtin "object.__init__"))
 kp : PySem.W.keepIn K (.ref C) = true
section
variable {X : Cx} {C : Addr} {x : Str} {p pos : Pos}
def tNew0 (C : Addr) : TE := fun σ H Q => ∀ x dx, H x = none → H dx = none → dx ≠ x → Q (.ref x) (insH H C x dx)
end
def eNew0 (c : Str) : M D := fun ρ => .ok (.obj c []) ρ
structure Mk0N (K : PySem.W.Frag) (mg : Str → Option Value) (c : Str) : Prop where
 ex : ∃ C, mg c = some (.ref C) ∧ PySem.W.nsIn K mainGlobals c = some (some (.ref C)) ∧ Mk0 K C
section
variable {X : Cx} {cls : Nat → Value} {W : WX} {e : Expr} {es : List Expr} {p pos : Pos} {x : Str} {ps : List Str} {k j np ns : Nat} {den : MS}
end
structure ClG (K : PySem.W.Frag) (mg : Str → Option Value) (c : Str) : Prop where
 ex : ∃ C, mg c = some (.ref C) ∧ PySem.W.nsIn K mainGlobals c = some (some (.ref C))
def IsOf (K : PySem.W.Frag) (c n : Str) (b : Bool) : Prop := ∃ D C, PySem.W.nsIn K mainGlobals n = some (some (.ref D)) ∧ PySem.W.nsIn K mainGlobals c = some (some (.ref C)) ∧ Cls K D ∧ PySem.W.findIn K (.ref D) "__class__" = some (some (.builtin "object.__class__")) ∧
 PySem.W.specialIn K (.builtin "object.__class__") "__get__" = some (some (.builtin "getset_descriptor.__get__")) ∧ PySem.W.takesIn K (.builtin "object.__class__") = some true ∧ PySem.W.mroIn K D (.type "object") = some true ∧ PySem.W.kitOne K (.ref D) (.ref C) = some b
def IsTb (K : PySem.W.Frag) (c : Str) : List (Str × Bool) → Prop
 | [] => True
 | (n, b) :: r => IsOf K c n b ∧ IsTb K c r
def opIsC (l : List (Str × Bool)) : D → Option D
 | .obj c _ => (l.lookup c).map .bl
 | _ => none
section
variable {X : Cx} {cls : Nat → Value} {W : WX} {a : Expr} {f : M D} {p p3 pos : Pos} {c : Str} {l : List (Str × Bool)}
end
def ixI (k : Int) : List Int → Nat
 | [] => 0
 | n :: ns => if n = k then 0 else ixI k ns + 1
def opIndex : D → D → Option D
 | .lst ds, .int k => (intsD ds).bind fun ns => if k ∈ ns then some (.int (ixI k ns : Nat)) else none
 | _, _ => none
def eIndex (f g : M D) : M D := mbind f fun d => fun ρ => if isLst d then mbind g (fun k => lift (opIndex d k)) ρ else .bad
theorem flat_ints : ∀ ns : List Int, (ns.map V.int).all flatV = true
 | [] => rfl
 | n :: ns => by rw [h3e, k5e, flat_ints ns]; rfl
section
variable {X : Cx} {cls : Nat → Value} {W : WX} {e o k : Expr} {f g : M D}
end
section
variable {ρ : List Sl} {j : Nat} {c : Str} {f g : M D} {fa : M (List D)} {m : Str}
end
end NT
set_option Elab.async false
set_option linter.all false
set_option maxRecDepth 100000
set_option maxHeartbeats 4000000
namespace NT
open PySem L2
def rng3 (ds : List D) : Option (List D) := match ds with
 | [.int i, .int j, .int c] => if c ≠ 0 ∧ c.natAbs < 1073741824 ∧ Builtin.Range.small i j c = true then some ((List.range (Builtin.Range.rangeSize i j c).toNat).map fun k => D.int (i + (k : Nat) * c)) else none
 | _ => none
def iRange3 (f : M (List D)) : M (List D) := mbind f fun ds => lift (rng3 ds)
theorem v4c {K : PySem.W.Frag} {G : Hp} {lo c : Int} {n : Nat} : Walks K (Itc lo c n) G ((List.range n).map fun k => D.int (lo + (k : Nat) * c)) := fun F G1 H1 σ ρ e1 c1 => by
  refine ⟨fun i d hd => ?_, by show n ≤ _; simp⟩
  rw [i3e] at hd
  cases h : (List.range n)[i]? with
  | none => rw [h] at hd; cases hd
  | some k =>
    rw [h] at hd
    cases hd
    obtain ⟨hi, e⟩ := List.getElem?_eq_some_iff.mp h
    rw [List.getElem_range] at e
    subst e
    rw [j3e] at hi
    refine ⟨hi, fun x H2 ⟨e, y⟩ => ?_⟩
    subst e
    subst y
    exact ⟨G1, Same.refl G1, c1, .int _⟩
section
variable {X : Cx} {cls : Nat → Value} {W : WX} {es : List Expr}
theorem c4d {tg iter : Expr} {fa : M (List D)} (hp : ∀ ta, PA X es ta → PI X tg iter (iRng3 ta)) (ha : QA X cls W es fa) : QI X cls W tg iter (iRange3 fa) := by
  obtain ⟨⟨t, p, s⟩, ia⟩ := ha
  refine ⟨⟨_, hp _ p, fun F ρ σ G H c Q w => ?_⟩, a7a ia fun _ => c1a⟩
  refine s F ρ σ G H c _ ((a8a w).mono (fun d ρ1 w1 v1 G1 H1 e1 c1 r1 => ?_) fun _ _ p => p)
  obtain ⟨ds, ed, p⟩ := c9a w1
  unfold rng3 at ed
  split at ed
  · rename_i i j k
    split at ed
    · rename_i hj
      cases ed
      cases r1 with
      | cons r0 rn =>
        cases rn with
        | cons r1 rn =>
          cases rn with
          | cons r2 rn =>
            cases rn
            cases r0
            cases r1
            cases r2
            have hn : 0 ≤ Builtin.Range.rangeSize i j k := by
              unfold Builtin.Range.rangeSize
              repeat' split
              · have := Int.ediv_nonneg (a := j - i - 1) (b := k) (by omega) (by omega)
                omega
              · omega
              · have := Int.ediv_nonneg (a := i - j - 1) (b := -k) (by omega) (by omega)
                omega
              · omega
            exact ⟨i, j, k, (Builtin.Range.rangeSize i j k).toNat, rfl, ⟨hj.1, hj.2.1, hj.2.2, by omega⟩, p _ G1 H1 e1 c1 v4c⟩
    · cases ed
  · cases ed
end
theorem v5c {f : M (List D)} {ρ : List Sl} : iRange3 f ρ = bnd (f ρ) (k := ⟨fun ds ρ => lft (rng3 ds) ρ⟩) := id (by
 unfold iRange3
 rw [b2a]
 congr 1)
end NT
set_option Elab.async false
set_option linter.all false
set_option maxRecDepth 100000
set_option maxHeartbeats 4000000
namespace NT
open PySem L2
def sBad : MS := fun _ => .bad
theorem b5e {X : Cx} {cls : Nat → Value} {W : WX} {sts : List Stmt} : QB X cls W sts sBad := ⟨⟨fun _ _ _ => False, ⟨fun _ _ _ _ _ _ h => h.elim⟩, fun _ _ _ _ _ _ _ w => w.elim⟩⟩
theorem b6e {P : Program} {w : World} {K : PySem.W.Frag} {mg : Str → Option Value} {base : Heap} {cls : Nat → Value} {x qual : Str} {st : Stmt} {f : Addr} {fd : FuncData} {N ps : List Str} {k np ns : Nat} (S : FnScope N ps (defScope st)) (Fn : Fun K x qual st f fd) (hp : ps.length = np) (hn : N.length = np + ns) :
  FnOk P w K mg base (L2.CX P w) (k + 1) f fd ps (spD K cls np ns sBad) := b6a Fn S hp hn fun _ _ _ _ _ _ _ _ => b5e
end NT
set_option Elab.async false
set_option linter.all false
set_option maxRecDepth 100000
set_option maxHeartbeats 4000000
namespace NT
open PySem PySem.Spec PyProof.Rows L2
section
variable {ex : List (Fra → Bool)} {fa : List He.Fa} {fn : List He.DefD} {K : Fra} {h : Heap} {mg : Str → Option Value} {x y m q : Str} {st : Stmt} {b : Bool}
theorem SaysB.d (c : SaysB ex fa fn K) : He.SaysD fa fn K := by
 have c1 : ((ex.all fun f => f K) && (He.obsD fa fn K).1) = true := congrArg (fun z : He.AlD => z.1) c
 have c2 : (He.obsD fa fn K).2 = fn.map He.DefD.val := congrArg (fun z : He.AlD => z.2) c
 exact Prod.ext (Bool.and_eq_true_iff.mp c1).2 c2
theorem SaysB.e (c : SaysB ex fa fn K) (i : Nat) {f : Fra → Bool} (hi : ex[i]? = some f) : f K = true := by
 have c1 : ((ex.all fun f => f K) && (He.obsD fa fn K).1) = true := congrArg (fun z : He.AlD => z.1) c
 exact List.all_eq_true.mp (Bool.and_eq_true_iff.mp c1).1 f (List.mem_of_getElem? hi)
theorem funP {x q : Str} {st : Stmt} {f : Addr} {fd : FuncData} (F : FunD K x q (defArgs st) (defBody st) (defScope st) [] [] f fd) : Fun K x q st f fd := by
 obtain ⟨oc, od, dV, kV, doc, pm, an, cdv, ct, osl, e, l, cc, hd, _⟩ := F.ex
 rcases hd with ⟨_, e2⟩ | ⟨e2, _⟩
 ·subst e2
  exact ⟨⟨oc, od, kV, doc, pm, an, cdv, ct, osl, e, l, cc⟩, F.kp⟩
 ·exact absurd rfl e2
theorem b7e {p : Str} {f : Addr} {fd : FuncData} (F : Fun K x q st f fd) (hb : ∀ (kV doc pm : Value) (an : Option Addr) (cdv ct : Value) (s : Shared) (v : Value), BindsTo s (PySem.W.fnOf x q (defArgs st) (defBody st) (defScope st) .none kV doc pm an cdv ct) ⟨[v], []⟩ [(p, v)]) (s : Shared) (v : Value) : BindsTo s fd ⟨[v], []⟩ [(p, v)] := by
 obtain ⟨oc, od, kV, doc, pm, an, cdv, ct, osl, rfl, _, _⟩ := F.ex
 exact hb kV doc pm an cdv ct s v
theorem SaysB.f (c : SaysB ex fa fn K) (i : Nat) (hi : fn[i]? = some (hT x st)) : ∃ fd, Fun K x x st (He.ga K x) fd :=
 let ⟨fd, F⟩ := c.d.def_ i hi
 ⟨fd, funP F⟩
theorem SaysB.me (c : SaysB ex fa fn K) (i : Nat) (hi : fn[i]? = some (hM x m q st)) : ∃ fd, Fun K m q st (He.ma K (He.ga K x) m) fd :=
 let ⟨fd, F⟩ := c.d.def_ i hi
 ⟨fd, funP F⟩
theorem SaysB.n (c : SaysB ex fa fn K) (i : Nat) (hi : fn[i]? = some (hN x st)) : ∃ fd, FunD K x x (defArgs st) (defBody st) (defScope st) [.non] [] (He.ga K x) fd := c.d.def_ i hi
theorem SaysB.ns (c : SaysB ex fa fn K) (i : Nat) (hi : fa[i]? = some (.glo x)) : PySem.W.nsIn K mainGlobals x = some (some (.ref (He.ga K x))) := He.eqO_ok (c.d.fact i hi)
theorem SaysB.g (c : SaysB ex fa fn K) (X : K.In h) (G : h.Ns mainGlobals mg) (i : Nat) (hi : fa[i]? = some (.glo x)) : mg x = some (.ref (He.ga K x)) := He.glo_ok X G (c.d.fact i hi)
theorem SaysB.z (c : SaysB ex fa fn K) (X : K.In h) (G : h.Ns mainGlobals mg) (i : Nat) (hi : fa[i]? = some (.free x)) : mg x = none := He.free_ok X G (c.d.fact i hi)
theorem SaysB.ci (c : SaysB ex fa fn K) (X : K.In h) (G : h.Ns mainGlobals mg) (i : Nat) {v : Int} (hi : fa[i]? = some (.int x v)) : Cst mg x (.int v) := by
 obtain ⟨t, e⟩ := He.int_ok X G (c.d.fact i hi)
 exact ⟨⟨_, e, ⟨_, rfl⟩⟩⟩
theorem SaysB.cs (c : SaysB ex fa fn K) (X : K.In h) (G : h.Ns mainGlobals mg) (i : Nat) {v : Str} (hi : fa[i]? = some (.str x v)) : Cst mg x (.str v) := by
 obtain ⟨t, e⟩ := He.str_ok X G (c.d.fact i hi)
 exact ⟨⟨_, e, ⟨_, rfl⟩⟩⟩
theorem SaysB.k (c : SaysB ex fa fn K) (i : Nat) (hi : fa[i]? = some (.cls x)) : Cls K (He.ga K x) := He.cls_ok (c.d.fact i hi)
theorem SaysB.o (c : SaysB ex fa fn K) (i : Nat) (hi : fa[i]? = some (.noat x y)) : PySem.W.findIn K (.ref (He.ga K x)) y = some none := He.noat_ok (c.d.fact i hi)
theorem SaysB.mk (c : SaysB ex fa fn K) (i : Nat) (hi : fa[i]? = some (.mkr x)) : Mk K (He.ga K x) (He.ma K (He.ga K x) "__init__") := He.mkr_ok (c.d.fact i hi)
theorem SaysB.mt (c : SaysB ex fa fn K) (i : Nat) (hi : fa[i]? = some (.meth x m)) : Meth K (He.ga K x) m (He.ma K (He.ga K x) m) := He.meth_ok (c.d.fact i hi)
theorem SaysB.xc (c : SaysB ex fa fn K) (i : Nat) (hi : fa[i]? = some (.exc x)) : PySem.W.excIn K (He.ga K x) [.type "ValueError", .type "Exception", .type "BaseException", .type "object"] "ValueError.__new__" = true ∧ PySem.W.keepIn K (.ref (He.ga K x)) = true ∧
  PySem.W.subIn K (.ref (He.ga K x)) (.type "BaseException") = some true ∧ PySem.W.typeIn K (.ref (He.ga K x)) = some (.type "type") := He.exc_ok (c.d.fact i hi)
end
theorem walkB {l : PySem.W.OpenLaw} {n k : Nat} {q : Program} {loose : List Str} {XP : (Str → Option Value) → Heap → Prop} {YP : World → Heap → Prop} {d : DefRec} {CX : World → CXT} {x : Str}
  (hn : l.most = some n) (hn2 : n ≤ sizeLine) (hdf : d.params.defaults = []) (hr : Room k callerA)
  (F : ∀ (w : World) (mg : Str → Option Value) (fa : Addr) (hp : Heap), YP w hp → hp.Ns mainGlobals mg → mg d.name = some (.ref fa) → ∃ (K : Fra) (fd : FuncData) (sp : Sp), K.In hp ∧ (∀ (s : Shared) (u : Value), BindsTo s fd ⟨[u], []⟩ [(x, u)]) ∧
   (∀ (H : Hp) (a : Addr) (ns : List Int), ns.length ≤ n → Only H → SqL K H a (ns.map V.int) → sp [.ref a] H (fun v _ => v = .bl true) fun _ _ _ => False) ∧ ∀ base : Heap, K.In base → base.Ns mainGlobals mg → FnOk l.prog w K mg base (CX w) k fa fd [x] sp)
  (hCX : ∀ (w : World) (H : Hp) (s : Shared) (e : Value) (s' : Shared), CX w [] H s (fun _ _ _ => False) e s' → False) : PySem.W.WalkO q loose XP YP l.row.toRowW d [] (fun f vs => PySem.call f vs) :=
 Att.attach_call hn hdf fun w s₀ s₁ mg mb fa o pm cd doc a vs ns G Y ho hd hcd hmg hobj hints hlen hg =>
  let ⟨_, _, _, KX, hb, hsp, hF⟩ := F w mg fa _ Y G.T.g hmg
  law_call KX G.T.g G.T.b G.T.builtins G.T.nolimit hg hobj hints (l1e hlen hn2) hr hF hb (fun H hO hS => hsp H a ns hlen hO hS) fun H e s' => hCX w H s₁ e s'
end NT
set_option Elab.async false
set_option linter.all false
set_option maxRecDepth 100000
set_option maxHeartbeats 8000000
namespace NT.Den
open PySem L2 NT
def d_law_alike_S (R : MS) : MS := (sSeq (sIf (tVal (eUn (opIsi "tuple") (eVar 1))) (sSeq (sIf (mOr (mNot (tVal (eUn (opIsi "tuple") (eVar 0)))) (tVal (eBin opNe (eFn opLen (aCons (eVar 0) aNil)) (eFn opLen (aCons (eVar 1) aNil))))) (sRet (eC (.bl false))) sSkip)
  (sRet (eBin opEq (eComp (iRange1 (aCons (eFn opLen (aCons (eVar 1) aNil)) aNil)) (gN 2) (mNot (tVal (eCall 2 1 R [] (aCons (eBin opIx (eVar 0) (eVar 2)) (aCons (eBin opIx (eVar 1) (eVar 2)) aNil))))) (eVar 2) [2]) (eLst aNil)))) sSkip)
  (sRet (eAnd (eNot (eUn (opIsi "bool") (eVar 0))) (eAnd (eBin opEq (eUn (opIsi "int") (eVar 0)) (eUn (opIsi "int") (eVar 1))) (eBin opEq (eVar 0) (eVar 1))))))
def d_law_alike_N : Nat → MS
 | 0 => sBad
 | n + 1 => d_law_alike_S (d_law_alike_N n)
def d_law_alike : MS := d_law_alike_N 8
def d_law_mixed : MS := (sSeq (sSet 2 (eBin opMod (eBin opAdd (eBin opAdd (eVar 0) (eBin opMul (eBin opMul (eVar 1) (eVar 1)) (eC (.int 40503)))) (eC (.int 12345))) (eC (.int 2305843009213693951))))
  (sSeq (sSet 2 (eBin opMod (eBin opMul (eVar 2) (eVar 2)) (eC (.int 2305843009213693951))))
  (sSeq (sSet 2 (eBin opMod (eBin opMul (eBin opAdd (eBin opAdd (eVar 2) (eBin opMul (eVar 1) (eC (.int 7919)))) (eC (.int 1))) (eC (.int 48271))) (eC (.int 2305843009213693951))))
  (sRet (eBin opFdiv (eBin opMod (eBin opMul (eVar 2) (eVar 2)) (eC (.int 2305843009213693951))) (eC (.int 1024)))))))
def d_law_deck : MS := (sSeq (sSet 2 (eBin opCat (eFn opList (aCons (eSl opSlL (eVar 0) oNone (oSome (eC (.int 60)))) aNil)) (eBin opRepL (eLst (aCons (eC (.int 0)) aNil)) (eFn opInt (aCons (eBin opEq (eFn opLen (aCons (eVar 0) aNil)) (eC (.int 0))) aNil)))))
  (sSeq (sSetN 3 (eComp (iSeq (eVar 2)) (gN 7) (mpure true) (eBin opMul (eVar 7) (eFn opInt (aCons (eBin opGe (eVar 7) (eBin opPow (eC (.int 10)) (eC (.int 18)))) aNil))) [7]))
  (sSeq (sSetN 4 (eLst aNil))
  (sSeq (sFor (iRange1 (aCons (eVar 1) aNil)) (gN 5) (sSeq (sSet 6 (eBin opMod (eVar 5) (eFn opLen (aCons (eVar 2) aNil))))
  (sIf (tVal (eBin opGt (eView (eBin opIx (eVar 3) (eVar 6))) (eC (.int 0)))) (sSeq (sExpr (eMut isLst 4 opAppend (aCons (eBin opMod (eView (eBin opIx (eVar 3) (eVar 6))) (eC (.int 1000))) aNil)))
  (sPutAt isLst 3 opSetIx (eVar 6) (eBin opFdiv (eView (eBin opIx (eVar 3) (eVar 6))) (eC (.int 1000))))) (sExpr (eMut isLst 4 opAppend (aCons (eBin opMod (eCall 2 1 d_law_mixed [] (aCons (eBin opIx (eVar 2) (eVar 6)) (aCons (eBin opAdd (eVar 5) (eC (.int 1))) aNil))) (eC (.int 1000))) aNil))))))
  (sRetN (eViewN (eUn opLstRev (eVar 4))))))))
def d_law_great : MS := (sSeq (sSet 3 (eComp (iRange1 (aCons (eVar 0) aNil)) (gN 5) (mpure true) (eTup (aCons (eBin opAdd (eVar 2) (eVar 5)) (aCons (eBin opIx (eC (.str "abcdefgh")) (eBin opMod (eVar 5) (eC (.int 8)))) aNil))) [5]))
  (sSeq (sSet 4 (eComp (iRange1 (aCons (eVar 1) aNil)) (gN 5) (mpure true) (eTup (aCons (eBin opAdd (eVar 2) (eBin opMul (eC (.int 3)) (eVar 5))) (aCons (eC (.str "e")) (aCons (eBin opAdd (eVar 2) (eBin opMod (eBin opMul (eVar 5) (eC (.int 7))) (eVar 0))) (aCons (eBin opAdd (eVar 2) (eBin opMod (eBin opMul (eVar 5) (eC (.int 11))) (eVar 0))) aNil))))) [5]))
  (sRet (eTup (aCons (eFn opTuple (aCons (eVar 3) aNil)) (aCons (eFn opTuple (aCons (eVar 4) aNil)) aNil))))))
def d_law_next : MS := (sSeq (sIf (tVal (eBin opGt (eView (eFn opLen (aCons (eVar 0) aNil))) (eC (.int 0)))) (sRet (eMut isLst 0 opPop aNil)) sSkip)
  (sRet (eC (.int 0))))
def d_law_kinds : MS := (sSeq (sSet 1 (eLst (aCons (eC (.str "point")) (aCons (eC (.str "tie")) (aCons (eC (.str "left")) (aCons (eC (.str "keep")) (aCons (eC (.str "points")) (aCons (eC (.str "ties")) (aCons (eC (.str "loose")) (aCons (eC (.str "forbid")) (aCons (eC (.str "right")) (aCons (eC (.str "z")) (aCons (eC (.str "abcdefgh")) (aCons (eC (.str "aa")) aNil))))))))))))))
  (sSeq (sSetN 2 (eC (.dK [])))
  (sSeq (sFor (iSeq (eLst (aCons (eC (.str "a")) (aCons (eC (.str "b")) (aCons (eC (.str "e")) (aCons (eC (.str "f")) aNil)))))) (gN 3) (sDrop [3] (sPutAt isDct 2 opPutD (eVar 3) (eBin opIx (eVar 1) (eBin opMod (eCallO 1 0 d_law_next 0 (oHere aNil)) (eC (.int 12)))))))
  (sRetO 2))))
def d_law_names : MS := (sSeq (sSetN 3 (eLst aNil))
  (sSeq (sSet 4 (eUn opNeg (eC (.int 1))))
  (sSeq (sFor (iRange1 (aCons (eVar 1) aNil)) (gN 5) (sSeq (sSet 4 (eBin opAdd (eBin opAdd (eVar 4) (eC (.int 1))) (eBin opMul (eBin opMod (eCallO 1 0 d_law_next 0 (oHere aNil)) (eC (.int 3))) (eVar 2))))
  (sExpr (eMut isLst 3 opAppend (aCons (eVar 4) aNil)))))
  (sRetO 3))))
def d_law_net : MS := (sSeq (sSet 4 (eCallO 1 0 d_law_next 0 (oHere aNil)))
  (sSeq (sSet 5 (eBin opAdd (eC (.int 1)) (eBin opMod (eVar 4) (eVar 1))))
  (sSeq (sSetN 6 (eLst aNil))
  (sSeq (sFor (iSeq (eCallON 3 3 d_law_names 0 (oHere (aCons (eVar 5) (aCons (eVar 3) aNil))))) (gN 7) (sExpr (eMut isLst 6 opAppend (aCons (eTup (aCons (eVar 7) (aCons (eBin opIx (eC (.str "aab")) (eBin opMod (eCallO 1 0 d_law_next 0 (oHere aNil)) (eC (.int 3)))) aNil))) aNil))))
  (sSeq (sSetN 8 (eLst aNil))
  (sSeq (sFor (iSeq (eCallON 3 3 d_law_names 0 (oHere (aCons (eBin opMod (eCallO 1 0 d_law_next 0 (oHere aNil)) (eBin opAdd (eVar 2) (eC (.int 1)))) (aCons (eVar 3) aNil))))) (gN 7) (sSeq (sSet 4 (eCallO 1 0 d_law_next 0 (oHere aNil)))
  (sExpr (eMut isLst 8 opAppend (aCons (eTup (aCons (eVar 7) (aCons (eBin opIx (eC (.str "eef")) (eBin opMod (eVar 4) (eC (.int 3)))) (aCons (eBin opIx (eView (eBin opIx (eVar 6) (eBin opMod (eBin opFdiv (eVar 4) (eC (.int 3))) (eVar 5)))) (eC (.int 0))) (aCons (eBin opIx (eView (eBin opIx (eVar 6) (eBin opMod (eBin opFdiv (eVar 4) (eC (.int 30))) (eVar 5)))) (eC (.int 0))) aNil))))) aNil)))))
  (sRet (eTup (aCons (eView (eFn opTuple (aCons (eVar 6) aNil))) (aCons (eView (eFn opTuple (aCons (eVar 8) aNil))) aNil))))))))))
def d_law_net_words : MS := (sSeq (sSet 1 (eLst aNil))
  (sSeq (sFor (iSeq (eBin opIx (eVar 0) (eC (.int 0)))) (gT (gsCons (gN 2) (gsCons (gN 3) gsNil))) (sDrop [2, 3] (sSet 1 (eBin opCat (eVar 1) (eLst (aCons (eC (.str "point")) (aCons (eFn opStr (aCons (eVar 2) aNil)) (aCons (eVar 3) aNil))))))))
  (sSeq (sFor (iSeq (eBin opIx (eVar 0) (eC (.int 1)))) (gT (gsCons (gN 2) (gsCons (gN 3) (gsCons (gN 4) (gsCons (gN 5) gsNil))))) (sDrop [2, 3, 4, 5] (sSet 1 (eBin opCat (eVar 1) (eLst (aCons (eC (.str "tie")) (aCons (eFn opStr (aCons (eVar 2) aNil)) (aCons (eVar 3) (aCons (eFn opStr (aCons (eVar 4) aNil)) (aCons (eFn opStr (aCons (eVar 5) aNil)) aNil))))))))))
  (sRet (eVar 1)))))
def d_net_words : MS := (sSeq (sSet 1 (eLst aNil))
  (sSeq (sFor (iSeq (eBin opIx (eVar 0) (eC (.int 0)))) (gT (gsCons (gN 2) (gsCons (gN 3) gsNil))) (sDrop [2, 3] (sSet 1 (eBin opCat (eVar 1) (eLst (aCons (eC (.str "point")) (aCons (eFn opStr (aCons (eVar 2) aNil)) (aCons (eVar 3) aNil))))))))
  (sSeq (sFor (iSeq (eBin opIx (eVar 0) (eC (.int 1)))) (gT (gsCons (gN 2) (gsCons (gN 3) (gsCons (gN 4) (gsCons (gN 5) gsNil))))) (sDrop [2, 3, 4, 5] (sSet 1 (eBin opCat (eVar 1) (eLst (aCons (eC (.str "tie")) (aCons (eFn opStr (aCons (eVar 2) aNil)) (aCons (eVar 3) (aCons (eFn opStr (aCons (eVar 4) aNil)) (aCons (eFn opStr (aCons (eVar 5) aNil)) aNil))))))))))
  (sRet (eVar 1)))))
def d_net_text : MS := (sRet (eTxt opJoin (eC (.str " ")) (eCall 1 5 d_net_words [] (aCons (eVar 0) aNil))))
def d_Reader_init : MS := (sSeq (sFldO 0 "Reader" "words" (eLst aNil))
  (sSeq (sFldO 0 "Reader" "at" (eC (.int 0)))
  (sIf (tVal (eBin opNe (eVar 1) (eC (.str "")))) (sFldO 0 "Reader" "words" (eTxt opSplit (eVar 1) (eC (.str " ")))) sSkip)))
def d_Reader_is_done : MS := (sRet (eBin opGe (eUn (opFld "Reader" "at") (eVar 0)) (eFn opLen (aCons (eUn (opFld "Reader" "words") (eVar 0)) aNil))))
def d_Reader_next_word : MS := (sSeq (sIf (tVal (eBin opLt (eUn (opFld "Reader" "at") (eVar 0)) (eFn opLen (aCons (eUn (opFld "Reader" "words") (eVar 0)) aNil)))) (sRet (eBin opIx (eUn (opFld "Reader" "words") (eVar 0)) (eUn (opFld "Reader" "at") (eVar 0)))) sSkip)
  (sRet (eC (.str ""))))
def d_Reader_take : MS := (sSeq (sIf (tVal (eView (eCall 1 0 d_Reader_is_done [] (aMeth "Reader" "is_done" (eVar 0) aNil)))) (sRaise 13) sSkip)
  (sSeq (sFldO 0 "Reader" "at" (eBin opAdd (eFldO 0 "Reader" "at") (eC (.int 1))))
  (sRet (eBin opIx (eFldO 0 "Reader" "words") (eBin opSub (eFldO 0 "Reader" "at") (eC (.int 1)))))))
def d_Reader_read_int : MS := (sSeq (sSet 1 (eCallO 1 0 d_Reader_take 0 (oMeth "Reader" "take" 0 aNil)))
  (sSeq (sIf (mOr (tVal (eBin opLt (eFn opLen (aCons (eVar 1) aNil)) (eC (.int 1)))) (mOr (tVal (eBin opGt (eFn opLen (aCons (eVar 1) aNil)) (eC (.int 7)))) (mAnd (tVal (eBin opGt (eFn opLen (aCons (eVar 1) aNil)) (eC (.int 1)))) (tVal (eBin opEq (eBin opIx (eVar 1) (eC (.int 0))) (eC (.str "0"))))))) (sRaise 13) sSkip)
  (sSeq (sFor (iSign (eVar 1)) (gN 2) (sDrop [2] (sIf (tVal (eBin (opIn true) (eVar 2) (eC (.str "0123456789")))) (sRaise 13) sSkip)))
  (sRet (eFn opIntS (aCons (eVar 1) aNil))))))
def d_Reader_want : MS := (sIf (tVal (eBin opNe (eCallO 1 0 d_Reader_take 0 (oMeth "Reader" "take" 0 aNil)) (eVar 1))) (sRaise 13) sSkip)
def d_Reader_read_points : MS := (sSeq (sSetN 1 (eLst aNil))
  (sSeq (sWhile fuel (tVal (eBin opEq (eView (eCall 1 0 d_Reader_next_word [] (aMeth "Reader" "next_word" (eVar 0) aNil))) (eC (.str "point")))) (sDrop [2] (sSeq (sExpr (eCallO 2 0 d_Reader_want 0 (oMeth "Reader" "want" 0 (aCons (eC (.str "point")) aNil))))
  (sSeq (sSet 2 (eCallO 1 2 d_Reader_read_int 0 (oMeth "Reader" "read_int" 0 aNil)))
  (sExpr (eMut isLst 1 opAppend (aCons (eTup (aCons (eVar 2) (aCons (eCallO 1 0 d_Reader_take 0 (oMeth "Reader" "take" 0 aNil)) aNil))) aNil)))))))
  (sRet (eView (eFn opTuple (aCons (eVar 1) aNil))))))
def d_Reader_read_ties : MS := (sSeq (sSetN 1 (eLst aNil))
  (sSeq (sWhile fuel (tVal (eBin opEq (eView (eCall 1 0 d_Reader_next_word [] (aMeth "Reader" "next_word" (eVar 0) aNil))) (eC (.str "tie")))) (sDrop [2, 3, 4] (sSeq (sExpr (eCallO 2 0 d_Reader_want 0 (oMeth "Reader" "want" 0 (aCons (eC (.str "tie")) aNil))))
  (sSeq (sSet 2 (eCallO 1 2 d_Reader_read_int 0 (oMeth "Reader" "read_int" 0 aNil)))
  (sSeq (sSet 3 (eCallO 1 0 d_Reader_take 0 (oMeth "Reader" "take" 0 aNil)))
  (sSeq (sSet 4 (eCallO 1 2 d_Reader_read_int 0 (oMeth "Reader" "read_int" 0 aNil)))
  (sExpr (eMut isLst 1 opAppend (aCons (eTup (aCons (eVar 2) (aCons (eVar 3) (aCons (eVar 4) (aCons (eCallO 1 2 d_Reader_read_int 0 (oMeth "Reader" "read_int" 0 aNil)) aNil))))) aNil)))))))))
  (sRet (eView (eFn opTuple (aCons (eVar 1) aNil))))))
def d_Reader_read_net : MS := (sSeq (sSet 1 (eCallO 1 2 d_Reader_read_points 0 (oMeth "Reader" "read_points" 0 aNil)))
  (sRet (eTup (aCons (eVar 1) (aCons (eCallO 1 4 d_Reader_read_ties 0 (oMeth "Reader" "read_ties" 0 aNil)) aNil)))))
def d_are_rising : MS := (sSeq (sFor (iRange2 (aCons (eC (.int 1)) (aCons (eFn opLen (aCons (eVar 0) aNil)) aNil))) (gN 1) (sIf (tVal (eBin opLe (eBin opIx (eVar 0) (eVar 1)) (eBin opIx (eVar 0) (eBin opSub (eVar 1) (eC (.int 1)))))) (sRet (eC (.bl false))) sSkip))
  (sRet (eC (.bl true))))
def d_is_kind : MS := (sSeq (sIf (mOr (mNot (tVal (eUn (opIsi "str") (eVar 0)))) (mOr (tVal (eBin opLt (eFn opLen (aCons (eVar 0) aNil)) (eC (.int 1)))) (tVal (eBin opGt (eFn opLen (aCons (eVar 0) aNil)) (eC (.int 8)))))) (sRet (eC (.bl false))) sSkip)
  (sSeq (sFor (iSign (eVar 0)) (gN 1) (sIf (tVal (eBin (opIn true) (eVar 1) (eC (.str "abcdefghijklmnopqrstuvwxyz")))) (sRet (eC (.bl false))) sSkip))
  (sRet (eC (.bl true)))))
def d_is_int : MS := (sRet (eAnd (eUn (opIsi "int") (eVar 0)) (eNot (eUn (opIsi "bool") (eVar 0)))))
def d_is_name : MS := (sRet (eAnd (eCall 1 0 d_is_int [] (aCons (eVar 0) aNil)) (eChain opLe opLe (eC (.int 0)) (eVar 0) (eC (.int 1000000)))))
def d_is_tuple : MS := (sRet (eAnd (eUn (opIsi "tuple") (eVar 0)) (eBin opEq (eFn opLen (aCons (eVar 0) aNil)) (eVar 1))))
def d_are_points : MS := (sSeq (sIf (mOr (mNot (tVal (eUn (opIsi "tuple") (eVar 0)))) (tVal (eBin opGt (eFn opLen (aCons (eVar 0) aNil)) (eC (.int 400))))) (sRet (eC (.bl false))) sSkip)
  (sSeq (sFor (iSeq (eVar 0)) (gN 1) (sIf (mOr (mNot (tVal (eCall 2 0 d_is_tuple [] (aCons (eVar 1) (aCons (eC (.int 2)) aNil))))) (mOr (mNot (tVal (eCall 1 0 d_is_name [] (aCons (eBin opIx (eVar 1) (eC (.int 0))) aNil)))) (mNot (tVal (eCall 1 1 d_is_kind [] (aCons (eBin opIx (eVar 1) (eC (.int 1))) aNil)))))) (sRet (eC (.bl false))) sSkip))
  (sRet (eCall 1 1 d_are_rising [] (aCons (eComp (iSeq (eVar 0)) (gN 1) (mpure true) (eBin opIx (eVar 1) (eC (.int 0))) [1]) aNil)))))
def d_are_ties : MS := (sSeq (sIf (mOr (mNot (tVal (eUn (opIsi "tuple") (eVar 0)))) (tVal (eBin opGt (eFn opLen (aCons (eVar 0) aNil)) (eC (.int 600))))) (sRet (eC (.bl false))) sSkip)
  (sSeq (sFor (iSeq (eVar 0)) (gN 2) (sSeq (sIf (mOr (mNot (tVal (eCall 2 0 d_is_tuple [] (aCons (eVar 2) (aCons (eC (.int 4)) aNil))))) (mOr (mNot (tVal (eCall 1 0 d_is_name [] (aCons (eBin opIx (eVar 2) (eC (.int 0))) aNil)))) (mNot (tVal (eCall 1 1 d_is_kind [] (aCons (eBin opIx (eVar 2) (eC (.int 1))) aNil)))))) (sRet (eC (.bl false))) sSkip)
  (sIf (mOr (mNot (tVal (eCall 1 0 d_is_name [] (aCons (eBin opIx (eVar 2) (eC (.int 2))) aNil)))) (mOr (mNot (tVal (eCall 1 0 d_is_name [] (aCons (eBin opIx (eVar 2) (eC (.int 3))) aNil)))) (mOr (tVal (eBin (opInD true) (eBin opIx (eVar 2) (eC (.int 2))) (eVar 1))) (tVal (eBin (opInD true) (eBin opIx (eVar 2) (eC (.int 3))) (eVar 1)))))) (sRet (eC (.bl false))) sSkip)))
  (sRet (eCall 1 1 d_are_rising [] (aCons (eComp (iSeq (eVar 0)) (gN 2) (mpure true) (eBin opIx (eVar 2) (eC (.int 0))) [2]) aNil)))))
def d_points_of : MS := (sSeq (sSetN 1 (eC (.dK [])))
  (sSeq (sFor (iSeq (eBin opIx (eVar 0) (eC (.int 0)))) (gT (gsCons (gN 2) (gsCons (gN 3) gsNil))) (sPutAt isDct 1 opPutD (eVar 2) (eVar 3)))
  (sRetO 1)))
def d_is_net : MS := (sSeq (sIf (mOr (mNot (tVal (eCall 2 0 d_is_tuple [] (aCons (eVar 0) (aCons (eC (.int 2)) aNil))))) (mNot (tVal (eCall 1 1 d_are_points [] (aCons (eBin opIx (eVar 0) (eC (.int 0))) aNil))))) (sRet (eC (.bl false))) sSkip)
  (sRet (eCall 2 1 d_are_ties [] (aCons (eBin opIx (eVar 0) (eC (.int 1))) (aCons (eCallN 1 3 d_points_of [] (aCons (eVar 0) aNil)) aNil)))))
def d_read_net : MS := (sSeq (sSetN 1 (eMake "Reader" 2 0 d_Reader_init (aCons (eVar 0) aNil)))
  (sSeq (sSet 2 (eCallO 1 1 d_Reader_read_net 1 (oMeth "Reader" "read_net" 1 aNil)))
  (sSeq (sIf (mOr (mNot (tVal (eView (eCall 1 0 d_Reader_is_done [] (aMeth "Reader" "is_done" (eVar 1) aNil))))) (mNot (tVal (eCall 1 0 d_is_net [] (aCons (eVar 2) aNil))))) (sRaise 13) sSkip)
  (sRet (eVar 2)))))
def d_law_net_right : MS := (sSeq (sSet 1 (eTxt opJoin (eC (.str " ")) (eCall 1 5 d_law_net_words [] (aCons (eVar 0) aNil))))
  (sSeq (sSet 2 (eCall 1 0 d_net_text [] (aCons (eVar 0) aNil)))
  (sSeq (sIf (mOr (mNot (tVal (eUn (opIsi "str") (eVar 2)))) (mOr (tVal (eBin opNe (eVar 2) (eVar 1))) (mNot (tVal (eCall 2 1 d_law_alike [] (aCons (eCall 1 2 d_read_net [] (aCons (eVar 1) aNil)) (aCons (eVar 0) aNil))))))) (sRet (eC (.bl false))) sSkip)
  (sRet (eBin opEq (eCall 1 0 d_net_text [] (aCons (eCall 1 2 d_read_net [] (aCons (eVar 1) aNil)) aNil)) (eVar 1))))))
def d_law_fresh : MS := (sSeq (sSet 3 (eBin opCat (eComp (iSeq (eBin opIx (eVar 0) (eVar 2))) (gN 5) (mpure true) (eBin opIx (eVar 5) (eC (.int 0))) [5]) (eComp (iSeq (eBin opIx (eVar 1) (eVar 2))) (gN 5) (mpure true) (eBin opIx (eVar 5) (eC (.int 0))) [5])))
  (sRetN (eComp (iRange1 (aCons (eC (.int 40)) aNil)) (gN 4) (tVal (eBin (opIn true) (eVar 4) (eVar 3))) (eVar 4) [4])))
def d_law_added : MS := (sSeq (sSetN 5 (eFn opList (aCons (eBin opIx (eVar 1) (eC (.int 0))) aNil)))
  (sSeq (sFor (iSeq (eSl opSlL (eCallN 3 3 d_law_fresh [] (aCons (eVar 1) (aCons (eVar 2) (aCons (eC (.int 0)) aNil)))) oNone (oSome (eBin opMod (eCallO 1 0 d_law_next 0 (oHere aNil)) (eBin opAdd (eVar 3) (eC (.int 1))))))) (gN 6) (sExpr (eMut isLst 5 opAppend (aCons (eTup (aCons (eVar 6) (aCons (eBin opIx (eC (.str "aab")) (eBin opMod (eCallO 1 0 d_law_next 0 (oHere aNil)) (eC (.int 3)))) aNil))) aNil))))
  (sSeq (sSetN 7 (eFn opList (aCons (eBin opIx (eVar 1) (eC (.int 1))) aNil)))
  (sSeq (sFor (iSeq (eSl opSlL (eCallN 3 3 d_law_fresh [] (aCons (eVar 1) (aCons (eVar 2) (aCons (eC (.int 1)) aNil)))) oNone (oSome (eBin opMod (eCallO 1 0 d_law_next 0 (oHere aNil)) (eBin opAdd (eVar 4) (eC (.int 1))))))) (gN 6) (sIf (tView (tVal (eBin opNe (eVar 5) (eLst aNil)))) (sSeq (sSet 8 (eCallO 1 0 d_law_next 0 (oHere aNil)))
  (sSeq (sSet 9 (eBin opIx (eView (eBin opIx (eVar 5) (eBin opMod (eBin opFdiv (eVar 8) (eC (.int 3))) (eView (eFn opLen (aCons (eVar 5) aNil)))))) (eC (.int 0))))
  (sExpr (eMut isLst 7 opAppend (aCons (eTup (aCons (eVar 6) (aCons (eBin opIx (eC (.str "eef")) (eBin opMod (eVar 8) (eC (.int 3)))) (aCons (eVar 9) (aCons (eBin opIx (eView (eBin opIx (eVar 5) (eBin opMod (eBin opFdiv (eVar 8) (eC (.int 30))) (eView (eFn opLen (aCons (eVar 5) aNil)))))) (eC (.int 0))) aNil))))) aNil))))) sSkip))
  (sRet (eTup (aCons (eFn opTuple (aCons (eViewN (eFn opSorted (aCons (eVar 5) aNil))) aNil)) (aCons (eFn opTuple (aCons (eViewN (eFn opSorted (aCons (eVar 7) aNil))) aNil)) aNil))))))))
def d_law_forbids : MS := (sSeq (sSetN 2 (eLst aNil))
  (sSeq (sFor (iRange1 (aCons (eBin opIx (eLst (aCons (eC (.int 0)) (aCons (eC (.int 0)) (aCons (eC (.int 1)) (aCons (eC (.int 2)) aNil))))) (eBin opMod (eCallO 1 0 d_law_next 0 (oHere aNil)) (eC (.int 4)))) aNil)) (gN 3) (sSeq (sSet 4 (eCallO 5 5 d_law_added 0 (oHere (aCons (eVar 1) (aCons (eVar 1) (aCons (eC (.int 1)) (aCons (eC (.int 2)) aNil)))))))
  (sIf (tVal (eBin opNe (eVar 4) (eVar 1))) (sExpr (eMut isLst 2 opAppend (aCons (eVar 4) aNil))) sSkip)))
  (sRet (eView (eFn opTuple (aCons (eVar 2) aNil))))))
def d_law_loose : MS := (sSeq (sSetN 2 (eLst aNil))
  (sSeq (sFor (iRange1 (aCons (eFn opLen (aCons (eBin opIx (eVar 1) (eC (.int 0))) aNil)) aNil)) (gN 3) (sFor (iRange1 (aCons (eVar 3) aNil)) (gN 4) (sIf (tVal (eBin opEq (eBin opIx (eBin opIx (eBin opIx (eVar 1) (eC (.int 0))) (eVar 3)) (eC (.int 1))) (eBin opIx (eBin opIx (eBin opIx (eVar 1) (eC (.int 0))) (eVar 4)) (eC (.int 1))))) (sExpr (eMut isLst 2 opAppend (aCons (eTup (aCons (eBin opIx (eBin opIx (eBin opIx (eVar 1) (eC (.int 0))) (eVar 4)) (eC (.int 0))) (aCons (eBin opIx (eBin opIx (eBin opIx (eVar 1) (eC (.int 0))) (eVar 3)) (eC (.int 0))) aNil))) aNil))) sSkip)))
  (sSeq (sIf (mOr (tVal (eBin opGt (eBin opMod (eCallO 1 0 d_law_next 0 (oHere aNil)) (eC (.int 4))) (eC (.int 0)))) (tView (tVal (eBin opEq (eVar 2) (eLst aNil))))) (sRet (eTup aNil)) sSkip)
  (sRet (eFn opTuple (aCons (eSl opSlL (eViewN (eFn opSorted (aCons (eVar 2) aNil))) oNone (oSome (eBin opAdd (eC (.int 1)) (eBin opMod (eCallO 1 0 d_law_next 0 (oHere aNil)) (eC (.int 3)))))) aNil))))))
def d_law_part : MS := (sSeq (sSetN 3 (eComp (iSeq (eBin opIx (eVar 1) (eC (.int 0)))) (gN 6) (mpure true) (eVar 6) [6]))
  (sSeq (sSetN 4 (eComp (iSeq (eBin opIx (eVar 1) (eC (.int 1)))) (gN 7) (mpure true) (eVar 7) [7]))
  (sSeq (sWhile fuel (tVal (eBin opGt (eView (eFn opLen (aCons (eVar 3) aNil))) (eVar 2))) (sSeq (sSet 5 (eBin opIx (eMut isLst 3 opPopAt (aCons (eBin opMod (eCallO 1 0 d_law_next 0 (oHere aNil)) (eView (eFn opLen (aCons (eVar 3) aNil)))) aNil)) (eC (.int 0))))
  (sSetN 4 (eViewN (eComp (iSeq (eVar 4)) (gN 7) (tVal (eBin (opIn true) (eVar 5) (eSl opSl (eVar 7) (oSome (eC (.int 2))) oNone))) (eVar 7) [7])))))
  (sSeq (sWhile fuel (mAnd (tVal (eBin opGt (eView (eFn opLen (aCons (eVar 4) aNil))) (eC (.int 0)))) (tVal (eBin opEq (eBin opMod (eCallO 1 0 d_law_next 0 (oHere aNil)) (eC (.int 3))) (eC (.int 0))))) (sExpr (eMut isLst 4 opPopAt (aCons (eBin opMod (eCallO 1 0 d_law_next 0 (oHere aNil)) (eView (eFn opLen (aCons (eVar 4) aNil)))) aNil))))
  (sRet (eTup (aCons (eView (eFn opTuple (aCons (eVar 3) aNil))) (aCons (eView (eFn opTuple (aCons (eVar 4) aNil))) aNil))))))))
def d_law_rule : MS := (sSeq (sSet 3 (eCallO 3 5 d_law_part 0 (oHere (aCons (eVar 1) (aCons (eBin opMod (eCallO 1 0 d_law_next 0 (oHere aNil)) (eBin opAdd (eFn opLen (aCons (eBin opIx (eVar 1) (eC (.int 0))) aNil)) (eC (.int 1)))) aNil)))))
  (sSeq (sSet 4 (eCallO 5 5 d_law_added 0 (oHere (aCons (eVar 3) (aCons (eVar 1) (aCons (eFn opMin2 (aCons (eC (.int 2)) (aCons (eBin opSub (eC (.int 5)) (eFn opLen (aCons (eBin opIx (eVar 3) (eC (.int 0))) aNil))) aNil))) (aCons (eFn opMin2 (aCons (eC (.int 2)) (aCons (eBin opSub (eC (.int 5)) (eFn opLen (aCons (eBin opIx (eVar 3) (eC (.int 1))) aNil))) aNil))) aNil)))))))
  (sSeq (sSet 5 (eTup (aCons (eFn opTuple (aCons (eComp (iSeq (eBin opIx (eVar 3) (eC (.int 0)))) (gN 8) (mpure true) (eBin opIx (eVar 8) (eC (.int 0))) [8]) aNil)) (aCons (eFn opTuple (aCons (eComp (iSeq (eBin opIx (eVar 3) (eC (.int 1)))) (gN 9) (mpure true) (eBin opIx (eVar 9) (eC (.int 0))) [9]) aNil)) aNil))))
  (sSeq (sSet 6 (eTup aNil))
  (sSeq (sIf (tVal (eVar 2)) (sSet 6 (eCallO 2 3 d_law_forbids 0 (oHere (aCons (eVar 1) aNil)))) sSkip)
  (sSeq (sSet 7 (eTup aNil))
  (sSeq (sIf (tVal (eBin opEq (eVar 6) (eTup aNil))) (sSet 7 (eCallO 2 3 d_law_loose 0 (oHere (aCons (eVar 3) aNil)))) sSkip)
  (sRet (eTup (aCons (eVar 1) (aCons (eVar 5) (aCons (eVar 4) (aCons (eVar 7) (aCons (eVar 6) aNil))))))))))))))
def d_law_rule_words : MS := (sSeq (sAsg (eVar 0) (gT (gsCons (gN 3) (gsCons (gN 4) (gsCons (gN 5) (gsCons (gN 6) (gsCons (gN 7) gsNil)))))))
  (sSeq (sSetN 1 (eBin opCat (eBin opCat (eBin opCat (eLst (aCons (eC (.str "left")) (aCons (eC (.str "(")) aNil))) (eCall 1 5 d_law_net_words [] (aCons (eVar 3) aNil))) (eLst (aCons (eC (.str ")")) (aCons (eC (.str "keep")) (aCons (eC (.str "(")) (aCons (eC (.str "points")) aNil)))))) (eComp (iSeq (eBin opIx (eVar 4) (eC (.int 0)))) (gN 10) (mpure true) (eFn opStr (aCons (eVar 10) aNil)) [10])))
  (sSeq (sSetN 1 (eBin opCat (eBin opCat (eBin opCat (eBin opCat (eCatO 1 (eLst (aCons (eC (.str "ties")) aNil))) (eComp (iSeq (eBin opIx (eVar 4) (eC (.int 1)))) (gN 10) (mpure true) (eFn opStr (aCons (eVar 10) aNil)) [10])) (eLst (aCons (eC (.str ")")) (aCons (eC (.str "right")) (aCons (eC (.str "(")) aNil))))) (eCall 1 5 d_law_net_words [] (aCons (eVar 5) aNil))) (eLst (aCons (eC (.str ")")) aNil))))
  (sSeq (sIf (tVal (eBin opNe (eVar 6) (eTup aNil))) (sSeq (sSetN 1 (eCatO 1 (eLst (aCons (eC (.str "loose")) (aCons (eC (.str "(")) aNil)))))
  (sSeq (sFor (iSeq (eVar 6)) (gT (gsCons (gN 8) (gsCons (gN 9) gsNil))) (sDrop [8, 9] (sSetN 1 (eCatO 1 (eLst (aCons (eFn opStr (aCons (eVar 8) aNil)) (aCons (eFn opStr (aCons (eVar 9) aNil)) aNil)))))))
  (sExpr (eMut isLst 1 opAppend (aCons (eC (.str ")")) aNil))))) sSkip)
  (sSeq (sFor (iSeq (eVar 7)) (gN 2) (sDrop [2] (sSetN 1 (eBin opCat (eBin opCat (eCatO 1 (eLst (aCons (eC (.str "forbid")) (aCons (eC (.str "(")) aNil)))) (eCall 1 5 d_law_net_words [] (aCons (eVar 2) aNil))) (eLst (aCons (eC (.str ")")) aNil))))))
  (sRetO 1))))))
def d_are_among : MS := (sSeq (sSetN 2 (eC (.dT [])))
  (sSeq (sFor (iSeq (eVar 1)) (gN 3) (sPutAt isDct 2 opPutD (eVar 3) (eC (.bl true))))
  (sSeq (sFor (iSeq (eVar 0)) (gN 3) (sIf (tView (tVal (eBin (opInD true) (eVar 3) (eVar 2)))) (sRet (eC (.bl false))) sSkip))
  (sRet (eC (.bl true))))))
def d_is_part : MS := (sRet (eAnd (eCall 2 2 d_are_among [] (aCons (eBin opIx (eVar 0) (eC (.int 0))) (aCons (eBin opIx (eVar 1) (eC (.int 0))) aNil))) (eCall 2 2 d_are_among [] (aCons (eBin opIx (eVar 0) (eC (.int 1))) (aCons (eBin opIx (eVar 1) (eC (.int 1))) aNil)))))
def d_is_forbid : MS := (sSeq (sIf (mOr (mNot (tVal (eCall 1 0 d_is_net [] (aCons (eVar 1) aNil)))) (mNot (tVal (eCall 2 0 d_is_part [] (aCons (eVar 0) (aCons (eVar 1) aNil)))))) (sRet (eC (.bl false))) sSkip)
  (sSeq (sSet 2 (eBin opSub (eFn opLen (aCons (eBin opIx (eVar 1) (eC (.int 0))) aNil)) (eFn opLen (aCons (eBin opIx (eVar 0) (eC (.int 0))) aNil))))
  (sSeq (sSet 3 (eBin opSub (eFn opLen (aCons (eBin opIx (eVar 1) (eC (.int 1))) aNil)) (eFn opLen (aCons (eBin opIx (eVar 0) (eC (.int 1))) aNil))))
  (sRet (eAnd (eBin opLe (eVar 2) (eC (.int 2))) (eAnd (eBin opLe (eVar 3) (eC (.int 2))) (eBin opGt (eBin opAdd (eVar 2) (eVar 3)) (eC (.int 0)))))))))
def d_are_forbids : MS := (sSeq (sIf (mOr (mNot (tVal (eUn (opIsi "tuple") (eVar 2)))) (tVal (eBin opGt (eFn opLen (aCons (eVar 2) aNil)) (eC (.int 2))))) (sRet (eC (.bl false))) sSkip)
  (sSeq (sFor (iSeq (eVar 2)) (gN 3) (sIf (mNot (tVal (eCall 2 2 d_is_forbid [] (aCons (eVar 0) (aCons (eVar 3) aNil))))) (sRet (eC (.bl false))) sSkip))
  (sRet (eOr (eBin opEq (eFn opLen (aCons (eVar 2) aNil)) (eC (.int 0))) (eBin opEq (eFn opLen (aCons (eVar 1) aNil)) (eC (.int 0)))))))
def d_are_names : MS := (sSeq (sIf (mNot (tVal (eUn (opIsi "tuple") (eVar 0)))) (sRet (eC (.bl false))) sSkip)
  (sSeq (sFor (iSeq (eVar 0)) (gN 1) (sIf (mNot (tVal (eCall 1 0 d_is_name [] (aCons (eVar 1) aNil)))) (sRet (eC (.bl false))) sSkip))
  (sRet (eC (.bl true)))))
def d_is_loose : MS := (sSeq (sIf (mOr (mNot (tVal (eUn (opIsi "tuple") (eVar 2)))) (tVal (eBin opGt (eFn opLen (aCons (eVar 2) aNil)) (eC (.int 3))))) (sRet (eC (.bl false))) sSkip)
  (sSeq (sSet 3 (eCallN 1 3 d_points_of [] (aCons (eVar 0) aNil)))
  (sSeq (sFor (iSeq (eVar 2)) (gN 4) (sSeq (sIf (mOr (mNot (tVal (eCall 1 1 d_are_names [] (aCons (eVar 4) aNil)))) (mOr (tVal (eBin opNe (eFn opLen (aCons (eVar 4) aNil)) (eC (.int 2)))) (tVal (eBin opGe (eBin opIx (eVar 4) (eC (.int 0))) (eBin opIx (eVar 4) (eC (.int 1))))))) (sRet (eC (.bl false))) sSkip)
  (sIf (mOr (tVal (eBin (opIn true) (eBin opIx (eVar 4) (eC (.int 0))) (eBin opIx (eVar 1) (eC (.int 0))))) (mOr (tVal (eBin (opIn true) (eBin opIx (eVar 4) (eC (.int 1))) (eBin opIx (eVar 1) (eC (.int 0))))) (tVal (eBin opNe (eBin opIxD (eVar 3) (eBin opIx (eVar 4) (eC (.int 0)))) (eBin opIxD (eVar 3) (eBin opIx (eVar 4) (eC (.int 1)))))))) (sRet (eC (.bl false))) sSkip)))
  (sRet (eCall 1 1 d_are_rising [] (aCons (eVar 2) aNil))))))
def d_is_pair_of_names : MS := (sSeq (sIf (mNot (tVal (eCall 2 0 d_is_tuple [] (aCons (eVar 0) (aCons (eC (.int 2)) aNil))))) (sRet (eC (.bl false))) sSkip)
  (sSeq (sFor (iSeq (eVar 0)) (gN 1) (sIf (mOr (mNot (tVal (eCall 1 1 d_are_names [] (aCons (eVar 1) aNil)))) (mNot (tVal (eCall 1 1 d_are_rising [] (aCons (eVar 1) aNil))))) (sRet (eC (.bl false))) sSkip))
  (sRet (eC (.bl true)))))
def d_is_small : MS := (sRet (eAnd (eBin opLe (eFn opLen (aCons (eBin opIx (eVar 0) (eC (.int 0))) aNil)) (eC (.int 5))) (eBin opLe (eFn opLen (aCons (eBin opIx (eVar 0) (eC (.int 1))) aNil)) (eC (.int 5)))))
def d_points_stand : MS := (sSeq (sSet 3 (eCallN 1 3 d_points_of [] (aCons (eVar 0) aNil)))
  (sSeq (sSet 4 (eCallN 1 3 d_points_of [] (aCons (eVar 1) aNil)))
  (sSeq (sFor (iSeq (eVar 2)) (gN 5) (sIf (mOr (tVal (eBin (opInD true) (eVar 5) (eVar 3))) (mOr (tVal (eBin (opInD true) (eVar 5) (eVar 4))) (tVal (eBin opNe (eBin opIxD (eVar 3) (eVar 5)) (eBin opIxD (eVar 4) (eVar 5)))))) (sRet (eC (.bl false))) sSkip))
  (sRet (eBin opEq (eComp (iDct (plV 3) mkKeys) (gN 5) (mAnd (tVal (eBin (opInD false) (eVar 5) (eVar 4))) (tVal (eBin (opIn true) (eVar 5) (eVar 2)))) (eVar 5) [5]) (eLst aNil))))))
def d_ties_of : MS := (sSeq (sSetN 1 (eC (.dK [])))
  (sSeq (sFor (iSeq (eBin opIx (eVar 0) (eC (.int 1)))) (gT (gsCons (gN 2) (gsCons (gN 3) (gsCons (gN 4) (gsCons (gN 5) gsNil))))) (sPutAt isDct 1 opPutD (eVar 2) (eTup (aCons (eVar 3) (aCons (eVar 4) (aCons (eVar 5) aNil))))))
  (sRetO 1)))
def d_ties_stand : MS := (sSeq (sSet 3 (eCallN 1 5 d_ties_of [] (aCons (eVar 0) aNil)))
  (sSeq (sSet 4 (eCallN 1 5 d_ties_of [] (aCons (eVar 1) aNil)))
  (sSeq (sAsg (eVar 2) (gT (gsCons (gN 6) (gsCons (gN 7) gsNil))))
  (sSeq (sFor (iSeq (eVar 7)) (gN 5) (sSeq (sIf (mOr (tVal (eBin (opInD true) (eVar 5) (eVar 3))) (mOr (tVal (eBin (opInD true) (eVar 5) (eVar 4))) (tVal (eBin opNe (eBin opIxD (eVar 3) (eVar 5)) (eBin opIxD (eVar 4) (eVar 5)))))) (sRet (eC (.bl false))) sSkip)
  (sIf (mOr (tVal (eBin (opIn true) (eBin opIx (eBin opIxD (eVar 3) (eVar 5)) (eC (.int 1))) (eVar 6))) (tVal (eBin (opIn true) (eBin opIx (eBin opIxD (eVar 3) (eVar 5)) (eC (.int 2))) (eVar 6)))) (sRet (eC (.bl false))) sSkip)))
  (sRet (eBin opEq (eComp (iDct (plV 3) mkKeys) (gN 5) (mAnd (tVal (eBin (opInD false) (eVar 5) (eVar 4))) (tVal (eBin (opIn true) (eVar 5) (eVar 7)))) (eVar 5) [5]) (eLst aNil)))))))
def d_is_rule : MS := (sSeq (sIf (mNot (tVal (eCall 2 0 d_is_tuple [] (aCons (eVar 0) (aCons (eC (.int 5)) aNil))))) (sRet (eC (.bl false))) sSkip)
  (sSeq (sAsg (eVar 0) (gT (gsCons (gN 1) (gsCons (gN 2) (gsCons (gN 3) (gsCons (gN 4) (gsCons (gN 5) gsNil)))))))
  (sSeq (sIf (mOr (mNot (tVal (eCall 1 0 d_is_net [] (aCons (eVar 1) aNil)))) (mOr (mNot (tVal (eCall 1 0 d_is_net [] (aCons (eVar 3) aNil)))) (mOr (mNot (tVal (eCall 1 0 d_is_small [] (aCons (eVar 1) aNil)))) (mOr (mNot (tVal (eCall 1 0 d_is_small [] (aCons (eVar 3) aNil)))) (tVal (eBin opEq (eFn opLen (aCons (eBin opIx (eVar 1) (eC (.int 0))) aNil)) (eC (.int 0)))))))) (sRet (eC (.bl false))) sSkip)
  (sSeq (sIf (mOr (mNot (tVal (eCall 1 1 d_is_pair_of_names [] (aCons (eVar 2) aNil)))) (mOr (mNot (tVal (eCall 3 3 d_points_stand [] (aCons (eVar 1) (aCons (eVar 3) (aCons (eBin opIx (eVar 2) (eC (.int 0))) aNil)))))) (mNot (tVal (eCall 3 5 d_ties_stand [] (aCons (eVar 1) (aCons (eVar 3) (aCons (eVar 2) aNil)))))))) (sRet (eC (.bl false))) sSkip)
  (sRet (eAnd (eCall 3 2 d_is_loose [] (aCons (eVar 1) (aCons (eVar 2) (aCons (eVar 4) aNil)))) (eCall 3 1 d_are_forbids [] (aCons (eVar 1) (aCons (eVar 4) (aCons (eVar 5) aNil))))))))))
def d_check : MS := (sSeq (sIf (mNot (tVal (eCall 1 5 d_is_rule [] (aCons (eVar 0) aNil)))) (sRaise 1) sSkip)
  (sRet (eC (.bl true))))
def d_Reader_read_ints : MS := (sSeq (sSetN 2 (eLst aNil))
  (sSeq (sWhile fuel (tVal (eBin opNe (eView (eCall 1 0 d_Reader_next_word [] (aMeth "Reader" "next_word" (eVar 0) aNil))) (eVar 1))) (sExpr (eMut isLst 2 opAppend (aCons (eCallO 1 2 d_Reader_read_int 0 (oMeth "Reader" "read_int" 0 aNil)) aNil))))
  (sSeq (sExpr (eCallO 2 0 d_Reader_want 0 (oMeth "Reader" "want" 0 (aCons (eVar 1) aNil))))
  (sRet (eView (eFn opTuple (aCons (eVar 2) aNil)))))))
def d_Reader_read_kept : MS := (sSeq (sExpr (eCallO 2 0 d_Reader_want 0 (oMeth "Reader" "want" 0 (aCons (eC (.str "keep")) aNil))))
  (sSeq (sExpr (eCallO 2 0 d_Reader_want 0 (oMeth "Reader" "want" 0 (aCons (eC (.str "(")) aNil))))
  (sSeq (sExpr (eCallO 2 0 d_Reader_want 0 (oMeth "Reader" "want" 0 (aCons (eC (.str "points")) aNil))))
  (sSeq (sSet 1 (eCallO 2 1 d_Reader_read_ints 0 (oMeth "Reader" "read_ints" 0 (aCons (eC (.str "ties")) aNil))))
  (sRet (eTup (aCons (eVar 1) (aCons (eCallO 2 1 d_Reader_read_ints 0 (oMeth "Reader" "read_ints" 0 (aCons (eC (.str ")")) aNil))) aNil))))))))
def d_Reader_read_loose : MS := (sSeq (sExpr (eCallO 2 0 d_Reader_want 0 (oMeth "Reader" "want" 0 (aCons (eC (.str "loose")) aNil))))
  (sSeq (sExpr (eCallO 2 0 d_Reader_want 0 (oMeth "Reader" "want" 0 (aCons (eC (.str "(")) aNil))))
  (sSeq (sSet 1 (eCallO 2 1 d_Reader_read_ints 0 (oMeth "Reader" "read_ints" 0 (aCons (eC (.str ")")) aNil))))
  (sSeq (sIf (mOr (tVal (eBin opEq (eFn opLen (aCons (eVar 1) aNil)) (eC (.int 0)))) (tVal (eBin opEq (eBin opMod (eFn opLen (aCons (eVar 1) aNil)) (eC (.int 2))) (eC (.int 1))))) (sRaise 13) sSkip)
  (sRet (eFn opTuple (aCons (eComp (iRange3 (aCons (eC (.int 0)) (aCons (eFn opLen (aCons (eVar 1) aNil)) (aCons (eC (.int 2)) aNil)))) (gN 2) (mpure true) (eTup (aCons (eBin opIx (eVar 1) (eVar 2)) (aCons (eBin opIx (eVar 1) (eBin opAdd (eVar 2) (eC (.int 1)))) aNil))) [2]) aNil)))))))
def d_Reader_read_net_in : MS := (sSeq (sExpr (eCallO 2 0 d_Reader_want 0 (oMeth "Reader" "want" 0 (aCons (eVar 1) aNil))))
  (sSeq (sExpr (eCallO 2 0 d_Reader_want 0 (oMeth "Reader" "want" 0 (aCons (eC (.str "(")) aNil))))
  (sSeq (sSet 2 (eCallO 1 1 d_Reader_read_net 0 (oMeth "Reader" "read_net" 0 aNil)))
  (sSeq (sExpr (eCallO 2 0 d_Reader_want 0 (oMeth "Reader" "want" 0 (aCons (eC (.str ")")) aNil))))
  (sRet (eVar 2))))))
def d_Reader_read_rule : MS := (sSeq (sSet 1 (eCallO 2 1 d_Reader_read_net_in 0 (oMeth "Reader" "read_net_in" 0 (aCons (eC (.str "left")) aNil))))
  (sSeq (sSet 2 (eCallO 1 1 d_Reader_read_kept 0 (oMeth "Reader" "read_kept" 0 aNil)))
  (sSeq (sSet 3 (eCallO 2 1 d_Reader_read_net_in 0 (oMeth "Reader" "read_net_in" 0 (aCons (eC (.str "right")) aNil))))
  (sSeq (sSet 4 (eTup aNil))
  (sSeq (sSetN 5 (eLst aNil))
  (sSeq (sIf (tVal (eBin opEq (eView (eCall 1 0 d_Reader_next_word [] (aMeth "Reader" "next_word" (eVar 0) aNil))) (eC (.str "loose")))) (sSet 4 (eCallO 1 2 d_Reader_read_loose 0 (oMeth "Reader" "read_loose" 0 aNil))) sSkip)
  (sSeq (sWhile fuel (tVal (eBin opEq (eView (eCall 1 0 d_Reader_next_word [] (aMeth "Reader" "next_word" (eVar 0) aNil))) (eC (.str "forbid")))) (sExpr (eMut isLst 5 opAppend (aCons (eCallO 2 1 d_Reader_read_net_in 0 (oMeth "Reader" "read_net_in" 0 (aCons (eC (.str "forbid")) aNil))) aNil))))
  (sRet (eTup (aCons (eVar 1) (aCons (eVar 2) (aCons (eVar 3) (aCons (eVar 4) (aCons (eView (eFn opTuple (aCons (eVar 5) aNil))) aNil))))))))))))))
def d_read_rule : MS := (sSeq (sSetN 1 (eMake "Reader" 2 0 d_Reader_init (aCons (eVar 0) aNil)))
  (sSeq (sSet 2 (eCallO 1 5 d_Reader_read_rule 1 (oMeth "Reader" "read_rule" 1 aNil)))
  (sSeq (sIf (mOr (mNot (tVal (eView (eCall 1 0 d_Reader_is_done [] (aMeth "Reader" "is_done" (eVar 1) aNil))))) (mNot (tVal (eCall 1 5 d_is_rule [] (aCons (eVar 2) aNil))))) (sRaise 13) sSkip)
  (sRet (eVar 2)))))
def d_in_brackets : MS := (sRetN (eBin opCat (eBin opCat (eLst (aCons (eC (.str "(")) aNil)) (eVar 0)) (eLst (aCons (eC (.str ")")) aNil))))
def d_rule_words : MS := (sSeq (sAsg (eVar 0) (gT (gsCons (gN 5) (gsCons (gN 6) (gsCons (gN 7) (gsCons (gN 8) (gsCons (gN 9) gsNil)))))))
  (sSeq (sSet 1 (eComp (iSeq (eBin opIx (eVar 6) (eC (.int 0)))) (gN 13) (mpure true) (eFn opStr (aCons (eVar 13) aNil)) [13]))
  (sSeq (sSet 2 (eComp (iSeq (eBin opIx (eVar 6) (eC (.int 1)))) (gN 13) (mpure true) (eFn opStr (aCons (eVar 13) aNil)) [13]))
  (sSeq (sSet 3 (eBin opCat (eLst (aCons (eC (.str "left")) aNil)) (eCallN 1 0 d_in_brackets [] (aCons (eCall 1 5 d_net_words [] (aCons (eVar 5) aNil)) aNil))))
  (sSeq (sSet 3 (eBin opCat (eBin opCat (eVar 3) (eLst (aCons (eC (.str "keep")) aNil))) (eCallN 1 0 d_in_brackets [] (aCons (eBin opCat (eBin opCat (eBin opCat (eLst (aCons (eC (.str "points")) aNil)) (eVar 1)) (eLst (aCons (eC (.str "ties")) aNil))) (eVar 2)) aNil))))
  (sSeq (sSet 3 (eBin opCat (eBin opCat (eVar 3) (eLst (aCons (eC (.str "right")) aNil))) (eCallN 1 0 d_in_brackets [] (aCons (eCall 1 5 d_net_words [] (aCons (eVar 7) aNil)) aNil))))
  (sSeq (sIf (tVal (eBin opGt (eFn opLen (aCons (eVar 8) aNil)) (eC (.int 0)))) (sSeq (sSet 10 (eLst aNil))
  (sSeq (sFor (iSeq (eVar 8)) (gT (gsCons (gN 11) (gsCons (gN 12) gsNil))) (sDrop [11, 12] (sSet 10 (eBin opCat (eVar 10) (eLst (aCons (eFn opStr (aCons (eVar 11) aNil)) (aCons (eFn opStr (aCons (eVar 12) aNil)) aNil)))))))
  (sSet 3 (eBin opCat (eBin opCat (eVar 3) (eLst (aCons (eC (.str "loose")) aNil))) (eCallN 1 0 d_in_brackets [] (aCons (eVar 10) aNil)))))) sSkip)
  (sSeq (sFor (iSeq (eVar 9)) (gN 4) (sDrop [4] (sSet 3 (eBin opCat (eBin opCat (eVar 3) (eLst (aCons (eC (.str "forbid")) aNil))) (eCallN 1 0 d_in_brackets [] (aCons (eCall 1 5 d_net_words [] (aCons (eVar 4) aNil)) aNil))))))
  (sRet (eVar 3))))))))))
def d_rule_text : MS := (sRet (eTxt opJoin (eC (.str " ")) (eCall 1 13 d_rule_words [] (aCons (eVar 0) aNil))))
def d_law_rule_right : MS := (sSeq (sSet 1 (eTxt opJoin (eC (.str " ")) (eCallN 1 10 d_law_rule_words [] (aCons (eVar 0) aNil))))
  (sSeq (sSet 2 (eCall 1 0 d_rule_text [] (aCons (eVar 0) aNil)))
  (sSeq (sIf (mOr (mNot (tVal (eUn (opIsi "str") (eVar 2)))) (mOr (tVal (eBin opNe (eVar 2) (eVar 1))) (mNot (tVal (eCall 2 1 d_law_alike [] (aCons (eCall 1 2 d_read_rule [] (aCons (eVar 1) aNil)) (aCons (eVar 0) aNil))))))) (sRet (eC (.bl false))) sSkip)
  (sRet (eAnd (eBin opIs (eCall 1 0 d_check [] (aCons (eCall 1 2 d_read_rule [] (aCons (eVar 1) aNil)) aNil)) (eC (.bl true))) (eBin opEq (eCall 1 0 d_rule_text [] (aCons (eCall 1 2 d_read_rule [] (aCons (eVar 1) aNil)) aNil)) (eVar 1)))))))
def d_law_turned : MS := (sSeq (sSet 3 (eFn opTuple (aCons (eComp (iSeq (eBin opIx (eVar 0) (eC (.int 0)))) (gT (gsCons (gN 4) (gsCons (gN 5) gsNil))) (mpure true) (eTup (aCons (eBin opMul (eVar 4) (eVar 2)) (aCons (eBin opIxD (eVar 1) (eVar 5)) aNil))) [4, 5]) aNil)))
  (sRet (eTup (aCons (eVar 3) (aCons (eFn opTuple (aCons (eComp (iSeq (eBin opIx (eVar 0) (eC (.int 1)))) (gT (gsCons (gN 4) (gsCons (gN 5) (gsCons (gN 6) (gsCons (gN 7) gsNil))))) (mpure true) (eTup (aCons (eBin opMul (eVar 4) (eVar 2)) (aCons (eBin opIxD (eVar 1) (eVar 5)) (aCons (eBin opMul (eVar 6) (eVar 2)) (aCons (eBin opMul (eVar 7) (eVar 2)) aNil))))) [4, 5, 6, 7]) aNil)) aNil)))))
def d_law_turned_rule : MS := (sSeq (sAsg (eVar 0) (gT (gsCons (gN 6) (gsCons (gN 7) (gsCons (gN 8) (gsCons (gN 9) (gsCons (gN 10) gsNil)))))))
  (sSeq (sSet 3 (eTup (aCons (eFn opTuple (aCons (eComp (iSeq (eBin opIx (eVar 7) (eC (.int 0)))) (gN 14) (mpure true) (eBin opMul (eVar 14) (eVar 2)) [14]) aNil)) (aCons (eFn opTuple (aCons (eComp (iSeq (eBin opIx (eVar 7) (eC (.int 1)))) (gN 14) (mpure true) (eBin opMul (eVar 14) (eVar 2)) [14]) aNil)) aNil))))
  (sSeq (sSet 4 (eFn opTuple (aCons (eComp (iSeq (eVar 9)) (gT (gsCons (gN 11) (gsCons (gN 12) gsNil))) (mpure true) (eTup (aCons (eBin opMul (eVar 11) (eVar 2)) (aCons (eBin opMul (eVar 12) (eVar 2)) aNil))) [11, 12]) aNil)))
  (sSeq (sSet 5 (eFn opTuple (aCons (eComp (iSeq (eVar 10)) (gN 13) (mpure true) (eCall 3 5 d_law_turned [] (aCons (eVar 13) (aCons (eVar 1) (aCons (eVar 2) aNil)))) [13]) aNil)))
  (sRet (eTup (aCons (eCall 3 5 d_law_turned [] (aCons (eVar 6) (aCons (eVar 1) (aCons (eVar 2) aNil)))) (aCons (eVar 3) (aCons (eCall 3 5 d_law_turned [] (aCons (eVar 8) (aCons (eVar 1) (aCons (eVar 2) aNil)))) (aCons (eVar 4) (aCons (eVar 5) aNil)))))))))))
def d_law : MS := (sSeq (sSetN 1 (eCallN 2 6 d_law_deck [] (aCons (eVar 0) (aCons (eC (.int 300)) aNil))))
  (sSeq (sFor (iRange1 (aCons (eC (.int 3)) aNil)) (gN 2) (sDrop [2, 5, 6, 7, 8] (sSeq (sSet 5 (eCallO 4 5 d_law_net 1 (oHere (aCons (eC (.int 5)) (aCons (eC (.int 5)) (aCons (eBin opMod (eCallO 1 0 d_law_next 1 (oHere aNil)) (eC (.int 2))) aNil))))))
  (sSeq (sSet 6 (eCallO 3 7 d_law_rule 1 (oHere (aCons (eVar 5) (aCons (eBin opGt (eVar 2) (eC (.int 0))) aNil)))))
  (sSeq (sSet 7 (eCallON 1 3 d_law_kinds 1 (oHere aNil)))
  (sSeq (sSet 8 (eBin opIx (eLst (aCons (eC (.int 1)) (aCons (eC (.int 25641)) (aCons (eC (.int 7)) aNil)))) (eBin opMod (eCallO 1 0 d_law_next 1 (oHere aNil)) (eC (.int 3)))))
  (sSeq (sIf (mNot (tVal (eCall 1 2 d_law_net_right [] (aCons (eCall 3 5 d_law_turned [] (aCons (eCallO 4 5 d_law_net 1 (oHere (aCons (eC (.int 6)) (aCons (eC (.int 6)) (aCons (eC (.int 1)) aNil))))) (aCons (eVar 7) (aCons (eVar 8) aNil)))) aNil)))) (sRet (eC (.bl false))) sSkip)
  (sIf (mNot (tVal (eCall 1 2 d_law_rule_right [] (aCons (eCall 3 12 d_law_turned_rule [] (aCons (eVar 6) (aCons (eVar 7) (aCons (eVar 8) aNil)))) aNil)))) (sRet (eC (.bl false))) sSkip))))))))
  (sSeq (sSet 3 (eBin opSub (eC (.int 400)) (eBin opMul (eBin opMod (eCallO 1 0 d_law_next 1 (oHere aNil)) (eC (.int 3))) (eBin opMod (eCallO 1 0 d_law_next 1 (oHere aNil)) (eC (.int 200))))))
  (sSeq (sIf (mNot (tVal (eCall 1 2 d_law_net_right [] (aCons (eCall 3 3 d_law_great [] (aCons (eVar 3) (aCons (eBin opSub (eC (.int 600)) (eBin opMod (eCallO 1 0 d_law_next 1 (oHere aNil)) (eC (.int 2)))) (aCons (eBin opMul (eCallO 1 0 d_law_next 1 (oHere aNil)) (eC (.int 998))) aNil)))) aNil)))) (sRet (eC (.bl false))) sSkip)
  (sSeq (sSet 4 (eTup (aCons (eTup (aCons (eTup (aCons (eC (.int 1000000)) (aCons (eC (.str "zzzzzzzz")) aNil))) aNil)) (aCons (eTup (aCons (eTup (aCons (eC (.int 1000000)) (aCons (eC (.str "a")) (aCons (eC (.int 1000000)) (aCons (eC (.int 1000000)) aNil))))) aNil)) aNil))))
  (sRet (eAnd (eBin opEq (eCall 1 0 d_net_text [] (aCons (eTup (aCons (eTup aNil) (aCons (eTup aNil) aNil))) aNil)) (eC (.str ""))) (eAnd (eCall 2 1 d_law_alike [] (aCons (eCall 1 2 d_read_net [] (aCons (eC (.str "")) aNil)) (aCons (eTup (aCons (eTup aNil) (aCons (eTup aNil) aNil))) aNil))) (eCall 1 2 d_law_net_right [] (aCons (eVar 4) aNil))))))))))
end NT.Den
set_option Elab.async false
set_option linter.all false
set_option maxRecDepth 100000
set_option maxHeartbeats 8000000
namespace Lk87
open PySem L2 NT NT.Den
local macro_rules | `(tactic| trivial) => `(tactic| first | exact Or.inl rfl | exact Or.inr rfl | exact ⟨rfl, rfl, rfl, by decide +kernel, rfl, by decide +kernel, by decide +kernel⟩)
variable {P : Program} {w : World} {K : PySem.W.Frag} {mg : Str → Option Value} {base : Heap} {cls : Nat → Value} {f : Addr} {fd : FuncData}
theorem z4a : FnScope ["_law_found", "_law_due", "_law_k"] ["_law_found", "_law_due"] (defScope (topS 64)) := by trivial
theorem l8b {k : Nat} {R : MS} (hk : 1 ≤ k) (B : Bt mg) (Fn : Fun K "_law_alike" "_law_alike" (topS 64) f fd) (C_law_alike : Cal P w K mg base cls "_law_alike" ["_law_found", "_law_due"] k 2 1 R []) :
  FnOk P w K mg base (L2.CX P w) (k + 1) f fd ["_law_found", "_law_due"] (spD K cls 2 1 (d_law_alike_S R)) :=
 b6a Fn z4a rfl rfl fun cdv A outer s H E hr tk =>
  (a3a (q_if (d0a (o6a "tuple" (by decide) (fun _ p => pe_callB call_isi (by rfl) B.isinstance (by decide +kernel) (pa_cons p (pa_cons (pe_bltn (v := .ty "tuple") (by rfl) B.tuple (show bootBuiltins "tuple" = some (.type "tuple") by decide +kernel) rfl) pa_nil))) (a2a 1 (pv 1)))) (a3a (q_if (QW.qt (f3a (d4a (d0a (o6a "tuple" (by decide) (fun _ p => pe_callB call_isi (by rfl) B.isinstance (by decide +kernel) (pa_cons p (pa_cons (pe_bltn (v := .ty "tuple") (by rfl) B.tuple (show bootBuiltins "tuple" = some (.type "tuple") by decide +kernel) rfl) pa_nil))) (a2a 0 (pv 0))))) (f9a (c4a (op_neD hr.units) l0a (q_fn (fun _ pa => pe_callB call_len (by rfl) B.len PySem.boot_len pa) c0a (a0a (a2a 0 (pv 0)) a1a)) (q_fn (fun _ pa => pe_callB call_len (by rfl) B.len PySem.boot_len pa) c0a (a0a (a2a 1 (pv 1)) a1a)) (nomark _))))) (a4a (b9a q_bl)) c5a)
  (a4a (b9a (k6a (op_eqD hr.units) g5a (QN.frz (i2a (by rfl) z4a.nd (h5a (fun _ pa => pi_range1 (by rfl) B.range pa) (a0a (q_fn (fun _ pa => pe_callB call_len (by rfl) B.len PySem.boot_len pa) c0a (a0a (a2a 1 (pv 1)) a1a)) a1a)) (blkOk_by (own := [("_law_k", 2)]) (N := ["_law_found", "_law_due", "_law_k"]) (sc := (defScope (topS 64))) (by decide +kernel)) (fun _ _ _ _ _ => (a5a 2 (pg_name (i := 2) z4a.nd rfl (by trivial)))) (fun _ _ _ _ _ => (h3b (d4a (d0a (d1a C_law_alike hr (by omega) takes0 (a0a (q_ix a9a b0a (a2a 0 (pv 0)) (a2a 2 (pv 2)) (fun _ _ => rfl)) (a0a (q_ix a9a b0a (a2a 1 (pv 1)) (a2a 2 (pv 2)) (fun _ _ => rfl)) a1a))))))) (fun _ _ _ _ _ => (a2a 2 (pv 2))) c3a rfl (by decide))) (QN.frz (e4a a1a)) (nomark _))))) c5a)
  (a4a (b9a (x1a (a5e (o6a "bool" (by decide) (fun _ p => pe_callB call_isi (by rfl) B.isinstance (by decide +kernel) (pa_cons p (pa_cons (pe_bltn (v := .ty "bool") (by rfl) B.bool (show bootBuiltins "bool" = some (.type "bool") by decide +kernel) rfl) pa_nil))) (a2a 0 (pv 0)))) (x1a (k6a (op_eqD hr.units) g5a (o6a "int" (by decide) (fun _ p => pe_callB call_isi (by rfl) B.isinstance (by decide +kernel) (pa_cons p (pa_cons (pe_bltn (v := .ty "int") (by rfl) B.int (show bootBuiltins "int" = some (.type "int") by decide +kernel) rfl) pa_nil))) (a2a 0 (pv 0))) (o6a "int" (by decide) (fun _ p => pe_callB call_isi (by rfl) B.isinstance (by decide +kernel) (pa_cons p (pa_cons (pe_bltn (v := .ty "int") (by rfl) B.int (show bootBuiltins "int" = some (.type "int") by decide +kernel) rfl) pa_nil))) (a2a 1 (pv 1))) (nomark _)) (h1b (k6a (op_eqD hr.units) g5a (a2a 0 (pv 0)) (a2a 1 (pv 1)) (nomark _))))))))
theorem a7c (B : Bt mg) (Fn : Fun K "_law_alike" "_law_alike" (topS 64) f fd) (hm : mg "_law_alike" = some (.ref f)) (hb : Binds K fd ["_law_found", "_law_due"] [])  :
  FnOk P w K mg base (L2.CX P w) 9 f fd ["_law_found", "_law_due"] (spD K cls 2 1 d_law_alike) := by
 have h : ∀ i, FnOk P w K mg base (L2.CX P w) (1 + i) f fd ["_law_found", "_law_due"] (spD K cls 2 1 (d_law_alike_N i)) := fun i => by
  induction i with
  | zero => exact b6e z4a Fn rfl rfl
  | succ i ih => exact l8b (k := 1 + i) (by omega) B Fn (C_law_alike := b4a Fn hm ih hb)
 exact h 8
theorem a8c : FnScope ["_law_cell_here", "_law_k", "_law_number"] ["_law_cell_here", "_law_k"] (defScope (topS 50)) := by trivial
theorem a9c (B : Bt mg) (Fn : Fun K "_law_mixed" "_law_mixed" (topS 50) f fd)  :
  FnOk P w K mg base (L2.CX P w) 1 f fd ["_law_cell_here", "_law_k"] (spD K cls 2 1 d_law_mixed) :=
 b6a Fn a8c rfl rfl fun cdv A outer s H E hr tk =>
  (a3a (d2a 2 (fun _ p => ps_set (i := 2) a8c.nd rfl (by trivial) p) (b8a op_mod c8a (b8a f5a f6a (b8a f5a f6a (a2a 0 (pv 0)) (b8a f0a f1a (b8a f0a f1a (a2a 1 (pv 1)) (a2a 1 (pv 1))) a6a)) a6a) a6a))
  (a3a (d2a 2 (fun _ p => ps_set (i := 2) a8c.nd rfl (by trivial) p) (b8a op_mod c8a (b8a f0a f1a (a2a 2 (pv 2)) (a2a 2 (pv 2))) a6a))
  (a3a (d2a 2 (fun _ p => ps_set (i := 2) a8c.nd rfl (by trivial) p) (b8a op_mod c8a (b8a f0a f1a (b8a f5a f6a (b8a f5a f6a (a2a 2 (pv 2)) (b8a f0a f1a (a2a 1 (pv 1)) a6a)) a6a) a6a) a6a))
  (a4a (b9a (b8a op_fdiv n4a (b8a op_mod c8a (b8a f0a f1a (a2a 2 (pv 2)) (a2a 2 (pv 2))) a6a) a6a))))))
theorem h8c : FnScope ["_law_script", "_law_many", "_law_own", "_law_rest", "_law_deck_here", "_law_k", "_law_at", "_law_cell_here"] ["_law_script", "_law_many"] (defScope (topS 52)) := by trivial
theorem h9c (B : Bt mg) (Fn : Fun K "_law_deck" "_law_deck" (topS 52) f fd) (C_law_mixed : Cal P w K mg base cls "_law_mixed" ["_law_cell_here", "_law_k"] 1 2 1 d_law_mixed []) :
  FnOk P w K mg base (L2.CX P w) 2 f fd ["_law_script", "_law_many"] (spD K cls 2 6 d_law_deck) :=
 b6a Fn h8c rfl rfl fun cdv A outer s H E hr tk =>
  (a3a (d2a 2 (fun _ p => ps_set (i := 2) h8c.nd rfl (by trivial) p) (QN.frz (e3a op_cat d8a (QN.frz (u0c (fun _ pa => pe_callTy call_list_of (by rfl) B.list (by decide +kernel) pa) q5b (a0a (QN.frz (j8d (a2a 0 (pv 0)) i1b (i2b a6a) fun _ _ _ p l h => pe_slice sl_list p l h)) a1a))) (QN.frz (e3a op_rep u5d (QN.frz (e4a (a0a a6a a1a))) (q_fn (fun _ pa => pe_callTy call_int1 (by rfl) B.int (by decide +kernel) pa) a1d (a0a (k6a (op_eqD hr.units) g5a (q_fn (fun _ pa => pe_callB call_len (by rfl) B.len PySem.boot_len pa) c0a (a0a (a2a 0 (pv 0)) a1a)) a6a (nomark _)) a1a)))))))
  (a3a (q3b 3 rfl h8c.nd rfl rfl (sw_true rfl rfl rfl (by decide +kernel)) (d5a (a2a 2 (pv 2))) (blkOk_by (own := [("_law_cell_here", 7)]) (N := ["_law_script", "_law_many", "_law_own", "_law_rest", "_law_deck_here", "_law_k", "_law_at", "_law_cell_here"]) (sc := (defScope (topS 52))) (by decide +kernel)) (fun _ _ _ _ _ => (a5a 7 (pg_name (i := 7) h8c.nd rfl (by trivial)))) (fun _ _ _ _ _ => e7a) (fun _ _ _ _ _ => (b8a f0a f1a (a2a 7 (pv 7)) (q_fn (fun _ pa => pe_callTy call_int1 (by rfl) B.int (by decide +kernel) pa) a1d (a0a (k6a op_ge z5c (a2a 7 (pv 7)) (b8a op_pow u2d a6a a6a) (nomark _)) a1a)))) c3a rfl (by decide))
  (a3a (g4a 4 (fun _ p => ps_set (i := 4) h8c.nd rfl (by trivial) p) (e4a a1a))
  (a3a (h1a (h5a (fun _ pa => pi_range1 (by rfl) B.range pa) (a0a (a2a 1 (pv 1)) a1a)) (a5a 5 (pg_name (i := 5) h8c.nd rfl (by trivial))) (a3a (d2a 6 (fun _ p => ps_set (i := 6) h8c.nd rfl (by trivial) p) (b8a op_mod c8a (a2a 5 (pv 5)) (q_fn (fun _ pa => pe_callB call_len (by rfl) B.len PySem.boot_len pa) c0a (a0a (a2a 2 (pv 2)) a1a))))
  (a4a (q_if (c4a op_gt j4a (QE.view (q_ix a9a b0a (a2a 3 (pv 3)) (a2a 6 (pv 6)) (fun _ _ => rfl))) a6a (nomark _)) (a3a (g0a (q_lm 4 (fun _ pa => pe_bm PySem.F.plainAttrs_list PySem.F.slot_list_append PySem.F.type_list_append mt_append (pv 4) pa) d9a (a0a (b8a op_mod c8a (QE.view (q_ix a9a b0a (a2a 3 (pv 3)) (a2a 6 (pv 6)) (fun _ _ => rfl))) a6a) a1a)))
  (a4a (t2d 3 (fun _ _ p q => ps_asg p (pg_sub (pv 3) q set_list)) (b8a op_fdiv n4a (QE.view (q_ix a9a b0a (a2a 3 (pv 3)) (a2a 6 (pv 6)) (fun _ _ => rfl))) a6a) (a2a 6 (pv 6))))) (a4a (g0a (q_lm 4 (fun _ pa => pe_bm PySem.F.plainAttrs_list PySem.F.slot_list_append PySem.F.type_list_append mt_append (pv 4) pa) d9a (a0a (b8a op_mod c8a (d1a C_law_mixed hr (by decide) tk (a0a (q_ix a9a b0a (a2a 2 (pv 2)) (a2a 6 (pv 6)) (fun _ _ => rfl)) (a0a (b8a f5a f6a (a2a 5 (pv 5)) a6a) a1a))) a6a) a1a))))))) (fun _ _ _ i t b => ps_for (passes_of rfl) rfl i t b))
  (a4a (y5c (QN.view (j9d (fun _ p => RV.pe_lstRev rfl (by rfl) B.list (by rfl) B.reversed p) (a2a 4 (pv 4))))))))))
theorem b0c : FnScope ["_law_points", "_law_ties", "_law_first", "_law_row", "_law_ways", "_law_k"] ["_law_points", "_law_ties", "_law_first"] (defScope (topS 70)) := by trivial
theorem b1c (B : Bt mg) (Fn : Fun K "_law_great" "_law_great" (topS 70) f fd)  :
  FnOk P w K mg base (L2.CX P w) 1 f fd ["_law_points", "_law_ties", "_law_first"] (spD K cls 3 3 d_law_great) :=
 b6a Fn b0c rfl rfl fun cdv A outer s H E hr tk =>
  (a3a (q4b 3 rfl b0c.nd rfl rfl (sw_true rfl rfl rfl (by decide +kernel)) (h5a (fun _ pa => pi_range1 (by rfl) B.range pa) (a0a (a2a 0 (pv 0)) a1a)) (blkOk_by (own := [("_law_k", 5)]) (N := ["_law_points", "_law_ties", "_law_first", "_law_row", "_law_ways", "_law_k"]) (sc := (defScope (topS 70))) (by decide +kernel)) (fun _ _ _ _ _ => (a5a 5 (pg_name (i := 5) b0c.nd rfl (by trivial)))) (fun _ _ _ _ _ => e7a) (fun _ _ _ _ _ => (e9a (a0a (b8a f5a f6a (a2a 2 (pv 2)) (a2a 5 (pv 5))) (a0a (q_ix a9a b0a c7a (b8a op_mod c8a (a2a 5 (pv 5)) a6a) (fun _ _ => rfl)) a1a)))) c3a rfl (by decide))
  (a3a (q4b 4 rfl b0c.nd rfl rfl (sw_true rfl rfl rfl (by decide +kernel)) (h5a (fun _ pa => pi_range1 (by rfl) B.range pa) (a0a (a2a 1 (pv 1)) a1a)) (blkOk_by (own := [("_law_k", 5)]) (N := ["_law_points", "_law_ties", "_law_first", "_law_row", "_law_ways", "_law_k"]) (sc := (defScope (topS 70))) (by decide +kernel)) (fun _ _ _ _ _ => (a5a 5 (pg_name (i := 5) b0c.nd rfl (by trivial)))) (fun _ _ _ _ _ => e7a) (fun _ _ _ _ _ => (e9a (a0a (b8a f5a f6a (a2a 2 (pv 2)) (b8a f0a f1a a6a (a2a 5 (pv 5)))) (a0a c7a (a0a (b8a f5a f6a (a2a 2 (pv 2)) (b8a op_mod c8a (b8a f0a f1a (a2a 5 (pv 5)) a6a) (a2a 0 (pv 0)))) (a0a (b8a f5a f6a (a2a 2 (pv 2)) (b8a op_mod c8a (b8a f0a f1a (a2a 5 (pv 5)) a6a) (a2a 0 (pv 0)))) a1a)))))) c3a rfl (by decide))
  (a4a (b9a (e9a (a0a (q_fn (fun _ pa => pe_callTy b7a (by rfl) B.tuple (by decide +kernel) pa) d3a (a0a (a2a 3 (pv 3)) a1a)) (a0a (q_fn (fun _ pa => pe_callTy b7a (by rfl) B.tuple (by decide +kernel) pa) d3a (a0a (a2a 4 (pv 4)) a1a)) a1a)))))))
theorem i0c : FnScope ["_law_deck_here"] ["_law_deck_here"] (defScope (topS 53)) := by trivial
theorem i1c (B : Bt mg) (Fn : Fun K "_law_next" "_law_next" (topS 53) f fd)  :
  FnOk P w K mg base (L2.CX P w) 1 f fd ["_law_deck_here"] (spD K cls 1 0 d_law_next) :=
 b6a Fn i0c rfl rfl fun cdv A outer s H E hr tk =>
  (a3a (q_if (c4a op_gt j4a (QE.view (q_fn (fun _ pa => pe_callB call_len (by rfl) B.len PySem.boot_len pa) c0a (a0a (a2a 0 (pv 0)) a1a))) a6a (nomark _)) (a4a (b9a (f3e 0 (pe_bm0 PySem.F.plainAttrs_list PySem.F.slot_list_pop PySem.F.type_list_pop mt_pop (pv 0)) t0d))) c5a)
  (a4a (b9a a6a)))
theorem b2c : FnScope ["_law_deck_here", "_law_some", "_law_found", "_law_kind"] ["_law_deck_here"] (defScope (topS 65)) := by trivial
theorem b3c (B : Bt mg) (Fn : Fun K "_law_kinds" "_law_kinds" (topS 65) f fd) (C_law_next : Cal P w K mg base cls "_law_next" ["_law_deck_here"] 1 1 0 d_law_next []) :
  FnOk P w K mg base (L2.CX P w) 2 f fd ["_law_deck_here"] (spD K cls 1 3 d_law_kinds) :=
 b6a Fn b2c rfl rfl fun cdv A outer s H E hr tk =>
  (a3a (d2a 1 (fun _ p => ps_set (i := 1) b2c.nd rfl (by trivial) p) (QN.frz (e4a (a0a c7a (a0a c7a (a0a c7a (a0a c7a (a0a c7a (a0a c7a (a0a c7a (a0a c7a (a0a c7a (a0a c7a (a0a c7a (a0a c7a a1a)))))))))))))))
  (a3a (g4a 2 (fun _ p => ps_set (i := 2) b2c.nd rfl (by trivial) p) g9c)
  (a3a (h1a (d5a (QN.frz (e4a (a0a c7a (a0a c7a (a0a c7a (a0a c7a a1a))))))) (a5a 3 (pg_name (i := 3) b2c.nd rfl (by trivial))) (QB.drop [3] (a4a (m3c 2 (fun _ _ p q => ps_dput (hu_of hr) (pv 2) q p rfl) (q_ix a9a b0a (a2a 1 (pv 1)) (b8a op_mod c8a (e6a C_law_next hr (by decide) tk (c2a 0 (pv 0) a1a)) a6a) (fun _ _ => rfl)) (a2a 3 (pv 3))))) (fun _ _ _ i t b => ps_for (passes_of rfl) rfl i t b))
  (a4a (y3b 2 (pv 2))))))
theorem b4c : FnScope ["_law_deck_here", "_law_many", "_law_far", "_law_found", "_law_last", "_law_k"] ["_law_deck_here", "_law_many", "_law_far"] (defScope (topS 54)) := by trivial
theorem b5c (B : Bt mg) (Fn : Fun K "_law_names" "_law_names" (topS 54) f fd) (C_law_next : Cal P w K mg base cls "_law_next" ["_law_deck_here"] 1 1 0 d_law_next []) :
  FnOk P w K mg base (L2.CX P w) 2 f fd ["_law_deck_here", "_law_many", "_law_far"] (spD K cls 3 3 d_law_names) :=
 b6a Fn b4c rfl rfl fun cdv A outer s H E hr tk =>
  (a3a (g4a 3 (fun _ p => ps_set (i := 3) b4c.nd rfl (by trivial) p) (e4a a1a))
  (a3a (d2a 4 (fun _ p => ps_set (i := 4) b4c.nd rfl (by trivial) p) (q_un un_neg u4d a6a))
  (a3a (h1a (h5a (fun _ pa => pi_range1 (by rfl) B.range pa) (a0a (a2a 1 (pv 1)) a1a)) (a5a 5 (pg_name (i := 5) b4c.nd rfl (by trivial))) (a3a (d2a 4 (fun _ p => ps_set (i := 4) b4c.nd rfl (by trivial) p) (b8a f5a f6a (b8a f5a f6a (a2a 4 (pv 4)) a6a) (b8a f0a f1a (b8a op_mod c8a (e6a C_law_next hr (by decide) tk (c2a 0 (pv 0) a1a)) a6a) (a2a 2 (pv 2)))))
  (a4a (g0a (q_lm 3 (fun _ pa => pe_bm PySem.F.plainAttrs_list PySem.F.slot_list_append PySem.F.type_list_append mt_append (pv 3) pa) d9a (a0a (a2a 4 (pv 4)) a1a))))) (fun _ _ _ i t b => ps_for (passes_of rfl) rfl i t b))
  (a4a (y3b 3 (pv 3))))))
theorem v6c : FnScope ["_law_deck_here", "_law_most_points", "_law_most_ties", "_law_far", "_law_cell_here", "_law_many", "_law_points", "_law_name", "_law_ties"] ["_law_deck_here", "_law_most_points", "_law_most_ties", "_law_far"] (defScope (topS 55)) := by trivial
theorem v7c (B : Bt mg) (Fn : Fun K "_law_net" "_law_net" (topS 55) f fd) (C_law_names : Cal P w K mg base cls "_law_names" ["_law_deck_here", "_law_many", "_law_far"] 2 3 3 d_law_names []) (C_law_next : Cal P w K mg base cls "_law_next" ["_law_deck_here"] 1 1 0 d_law_next []) :
  FnOk P w K mg base (L2.CX P w) 3 f fd ["_law_deck_here", "_law_most_points", "_law_most_ties", "_law_far"] (spD K cls 4 5 d_law_net) :=
 b6a Fn v6c rfl rfl fun cdv A outer s H E hr tk =>
  (a3a (d2a 4 (fun _ p => ps_set (i := 4) v6c.nd rfl (by trivial) p) (e6a C_law_next hr (by decide) tk (c2a 0 (pv 0) a1a)))
  (a3a (d2a 5 (fun _ p => ps_set (i := 5) v6c.nd rfl (by trivial) p) (b8a f5a f6a a6a (b8a op_mod c8a (a2a 4 (pv 4)) (a2a 1 (pv 1)))))
  (a3a (g4a 6 (fun _ p => ps_set (i := 6) v6c.nd rfl (by trivial) p) (e4a a1a))
  (a3a (h1a (d5a (QN.frz (h4c C_law_names hr (by decide) tk (c2a 0 (pv 0) (a0a (a2a 5 (pv 5)) (a0a (a2a 3 (pv 3)) a1a)))))) (a5a 7 (pg_name (i := 7) v6c.nd rfl (by trivial))) (a4a (g0a (q_lm 6 (fun _ pa => pe_bm PySem.F.plainAttrs_list PySem.F.slot_list_append PySem.F.type_list_append mt_append (pv 6) pa) d9a (a0a (e9a (a0a (a2a 7 (pv 7)) (a0a (q_ix a9a b0a c7a (b8a op_mod c8a (e6a C_law_next hr (by decide) tk (c2a 0 (pv 0) a1a)) a6a) (fun _ _ => rfl)) a1a))) a1a)))) (fun _ _ _ i t b => ps_for (passes_of rfl) rfl i t b))
  (a3a (g4a 8 (fun _ p => ps_set (i := 8) v6c.nd rfl (by trivial) p) (e4a a1a))
  (a3a (h1a (d5a (QN.frz (h4c C_law_names hr (by decide) tk (c2a 0 (pv 0) (a0a (b8a op_mod c8a (e6a C_law_next hr (by decide) tk (c2a 0 (pv 0) a1a)) (b8a f5a f6a (a2a 2 (pv 2)) a6a)) (a0a (a2a 3 (pv 3)) a1a)))))) (a5a 7 (pg_name (i := 7) v6c.nd rfl (by trivial))) (a3a (d2a 4 (fun _ p => ps_set (i := 4) v6c.nd rfl (by trivial) p) (e6a C_law_next hr (by decide) tk (c2a 0 (pv 0) a1a)))
  (a4a (g0a (q_lm 8 (fun _ pa => pe_bm PySem.F.plainAttrs_list PySem.F.slot_list_append PySem.F.type_list_append mt_append (pv 8) pa) d9a (a0a (e9a (a0a (a2a 7 (pv 7)) (a0a (q_ix a9a b0a c7a (b8a op_mod c8a (a2a 4 (pv 4)) a6a) (fun _ _ => rfl)) (a0a (q_ix a9a b0a (QE.view (q_ix a9a b0a (a2a 6 (pv 6)) (b8a op_mod c8a (b8a op_fdiv n4a (a2a 4 (pv 4)) a6a) (a2a 5 (pv 5))) (fun _ _ => rfl))) a6a (fun _ _ => rfl)) (a0a (q_ix a9a b0a (QE.view (q_ix a9a b0a (a2a 6 (pv 6)) (b8a op_mod c8a (b8a op_fdiv n4a (a2a 4 (pv 4)) a6a) (a2a 5 (pv 5))) (fun _ _ => rfl))) a6a (fun _ _ => rfl)) a1a))))) a1a))))) (fun _ _ _ i t b => ps_for (passes_of rfl) rfl i t b))
  (a4a (b9a (e9a (a0a (QE.view (q_fn (fun _ pa => pe_callTy b7a (by rfl) B.tuple (by decide +kernel) pa) d3a (a0a (a2a 6 (pv 6)) a1a))) (a0a (QE.view (q_fn (fun _ pa => pe_callTy b7a (by rfl) B.tuple (by decide +kernel) pa) d3a (a0a (a2a 8 (pv 8)) a1a))) a1a)))))))))))
theorem z8a : FnScope ["_law_net_here", "_law_words", "_law_name", "_law_kind", "_law_begin", "_law_end"] ["_law_net_here"] (defScope (topS 62)) := by trivial
theorem z9a (B : Bt mg) (Fn : Fun K "_law_net_words" "_law_net_words" (topS 62) f fd)  :
  FnOk P w K mg base (L2.CX P w) 1 f fd ["_law_net_here"] (spD K cls 1 5 d_law_net_words) :=
 b6a Fn z8a rfl rfl fun cdv A outer s H E hr tk =>
  (a3a (d2a 1 (fun _ p => ps_set (i := 1) z8a.nd rfl (by trivial) p) (QN.frz (e4a a1a)))
  (a3a (h1a (d5a (q_ix a9a b0a (a2a 0 (pv 0)) a6a (fun _ _ => rfl))) (i8a (b1a (a5a 2 (pg_name (i := 2) z8a.nd rfl (by trivial))) (b1a (a5a 3 (pg_name (i := 3) z8a.nd rfl (by trivial))) h3a)) rfl) (QB.drop [2, 3] (a4a (d2a 1 (fun _ p => ps_set (i := 1) z8a.nd rfl (by trivial) p) (QN.frz (e3a op_cat d8a (a2a 1 (pv 1)) (QN.frz (e4a (a0a c7a (a0a (q_fn (fun _ pa => pe_callTy call_str_int (by rfl) B.str (by decide +kernel) pa) h4a (a0a (a2a 2 (pv 2)) a1a)) (a0a (a2a 3 (pv 3)) a1a)))))))))) (fun _ _ _ i t b => ps_for (passes_of rfl) rfl i t b))
  (a3a (h1a (d5a (q_ix a9a b0a (a2a 0 (pv 0)) a6a (fun _ _ => rfl))) (i8a (b1a (a5a 2 (pg_name (i := 2) z8a.nd rfl (by trivial))) (b1a (a5a 3 (pg_name (i := 3) z8a.nd rfl (by trivial))) (b1a (a5a 4 (pg_name (i := 4) z8a.nd rfl (by trivial))) (b1a (a5a 5 (pg_name (i := 5) z8a.nd rfl (by trivial))) h3a)))) rfl) (QB.drop [2, 3, 4, 5] (a4a (d2a 1 (fun _ p => ps_set (i := 1) z8a.nd rfl (by trivial) p) (QN.frz (e3a op_cat d8a (a2a 1 (pv 1)) (QN.frz (e4a (a0a c7a (a0a (q_fn (fun _ pa => pe_callTy call_str_int (by rfl) B.str (by decide +kernel) pa) h4a (a0a (a2a 2 (pv 2)) a1a)) (a0a (a2a 3 (pv 3)) (a0a (q_fn (fun _ pa => pe_callTy call_str_int (by rfl) B.str (by decide +kernel) pa) h4a (a0a (a2a 4 (pv 4)) a1a)) (a0a (q_fn (fun _ pa => pe_callTy call_str_int (by rfl) B.str (by decide +kernel) pa) h4a (a0a (a2a 5 (pv 5)) a1a)) a1a)))))))))))) (fun _ _ _ i t b => ps_for (passes_of rfl) rfl i t b))
  (a4a (b9a (a2a 1 (pv 1)))))))
theorem b6c : FnScope ["net", "found", "name", "kind", "begin", "end"] ["net"] (defScope (topS 41)) := by trivial
theorem b7c (B : Bt mg) (Fn : Fun K "net_words" "net_words" (topS 41) f fd)  :
  FnOk P w K mg base (L2.CX P w) 1 f fd ["net"] (spD K cls 1 5 d_net_words) :=
 b6a Fn b6c rfl rfl fun cdv A outer s H E hr tk =>
  (a3a (d2a 1 (fun _ p => ps_set (i := 1) b6c.nd rfl (by trivial) p) (QN.frz (e4a a1a)))
  (a3a (h1a (d5a (q_ix a9a b0a (a2a 0 (pv 0)) a6a (fun _ _ => rfl))) (i8a (b1a (a5a 2 (pg_name (i := 2) b6c.nd rfl (by trivial))) (b1a (a5a 3 (pg_name (i := 3) b6c.nd rfl (by trivial))) h3a)) rfl) (QB.drop [2, 3] (a4a (d2a 1 (fun _ p => ps_set (i := 1) b6c.nd rfl (by trivial) p) (QN.frz (e3a op_cat d8a (a2a 1 (pv 1)) (QN.frz (e4a (a0a c7a (a0a (q_fn (fun _ pa => pe_callTy call_str_int (by rfl) B.str (by decide +kernel) pa) h4a (a0a (a2a 2 (pv 2)) a1a)) (a0a (a2a 3 (pv 3)) a1a)))))))))) (fun _ _ _ i t b => ps_for (passes_of rfl) rfl i t b))
  (a3a (h1a (d5a (q_ix a9a b0a (a2a 0 (pv 0)) a6a (fun _ _ => rfl))) (i8a (b1a (a5a 2 (pg_name (i := 2) b6c.nd rfl (by trivial))) (b1a (a5a 3 (pg_name (i := 3) b6c.nd rfl (by trivial))) (b1a (a5a 4 (pg_name (i := 4) b6c.nd rfl (by trivial))) (b1a (a5a 5 (pg_name (i := 5) b6c.nd rfl (by trivial))) h3a)))) rfl) (QB.drop [2, 3, 4, 5] (a4a (d2a 1 (fun _ p => ps_set (i := 1) b6c.nd rfl (by trivial) p) (QN.frz (e3a op_cat d8a (a2a 1 (pv 1)) (QN.frz (e4a (a0a c7a (a0a (q_fn (fun _ pa => pe_callTy call_str_int (by rfl) B.str (by decide +kernel) pa) h4a (a0a (a2a 2 (pv 2)) a1a)) (a0a (a2a 3 (pv 3)) (a0a (q_fn (fun _ pa => pe_callTy call_str_int (by rfl) B.str (by decide +kernel) pa) h4a (a0a (a2a 4 (pv 4)) a1a)) (a0a (q_fn (fun _ pa => pe_callTy call_str_int (by rfl) B.str (by decide +kernel) pa) h4a (a0a (a2a 5 (pv 5)) a1a)) a1a)))))))))))) (fun _ _ _ i t b => ps_for (passes_of rfl) rfl i t b))
  (a4a (b9a (a2a 1 (pv 1)))))))
theorem i2c : FnScope ["net"] ["net"] (defScope (topS 44)) := by trivial
theorem i3c (B : Bt mg) (Fn : Fun K "net_text" "net_text" (topS 44) f fd) (C_net_words : Cal P w K mg base cls "net_words" ["net"] 1 1 5 d_net_words []) :
  FnOk P w K mg base (L2.CX P w) 2 f fd ["net"] (spD K cls 1 0 d_net_text) :=
 b6a Fn i2c rfl rfl fun cdv A outer s H E hr tk =>
  (a4a (b9a (r1c (fun _ _ p q => pe_join p q) c7a (d1a C_net_words hr (by decide) tk (a0a (a2a 0 (pv 0)) a1a)))))
theorem l9b : FnScope ["self", "text"] ["self", "text"] (defScope (inClass (topS 46) 0)) := by trivial
theorem m0b (B : Bt mg) (Fn : Fun K "__init__" "Reader.__init__" (inClass (topS 46) 0) f fd) (CF_Reader : ClsF K "Reader") (NF_Reader_words : NaF K "Reader" "words") (NF_Reader_at : NaF K "Reader" "at") :
  FnOk P w K mg base (L2.CX P w) 1 f fd ["self", "text"] (spD K cls 2 0 d_Reader_init) :=
 b6a Fn l9b rfl rfl fun cdv A outer s H E hr tk =>
  (a3a (q8c 0 CF_Reader NF_Reader_words (fun _ p => ps_fld (pv 0) p rfl) (QN.frz (e4a a1a)))
  (a3a (q8c 0 CF_Reader NF_Reader_at (fun _ p => ps_fld (pv 0) p rfl) a6a)
  (a4a (q_if (c4a (op_neD hr.units) l0a (a2a 1 (pv 1)) c7a (nomark _)) (a4a (q8c 0 CF_Reader NF_Reader_words (fun _ p => ps_fld (pv 0) p rfl) (QN.frz (v9d (fun _ _ p q => pe_split p q) (a2a 1 (pv 1)) c7a)))) c5a))))
theorem x9a : FnScope ["self"] ["self"] (defScope (inClass (topS 46) 2)) := by trivial
theorem y0a (B : Bt mg) (Fn : Fun K "is_done" "Reader.is_done" (inClass (topS 46) 2) f fd) (CF_Reader : ClsF K "Reader") (NF_Reader_at : NaF K "Reader" "at") (NF_Reader_words : NaF K "Reader" "words") :
  FnOk P w K mg base (L2.CX P w) 1 f fd ["self"] (spD K cls 1 0 d_Reader_is_done) :=
 b6a Fn x9a rfl rfl fun cdv A outer s H E hr tk =>
  (a4a (b9a (k6a op_ge z5c (u9c CF_Reader NF_Reader_at (fun _ p => pe_fld p rfl) (a2a 0 (pv 0))) (q_fn (fun _ pa => pe_callB call_len (by rfl) B.len PySem.boot_len pa) c0a (a0a (u9c CF_Reader NF_Reader_words (fun _ p => pe_fld p rfl) (a2a 0 (pv 0))) a1a)) (nomark _))))
theorem q3a : FnScope ["self"] ["self"] (defScope (inClass (topS 46) 1)) := by trivial
theorem q4a (B : Bt mg) (Fn : Fun K "next_word" "Reader.next_word" (inClass (topS 46) 1) f fd) (CF_Reader : ClsF K "Reader") (NF_Reader_at : NaF K "Reader" "at") (NF_Reader_words : NaF K "Reader" "words") :
  FnOk P w K mg base (L2.CX P w) 1 f fd ["self"] (spD K cls 1 0 d_Reader_next_word) :=
 b6a Fn q3a rfl rfl fun cdv A outer s H E hr tk =>
  (a3a (q_if (c4a op_lt z4c (u9c CF_Reader NF_Reader_at (fun _ p => pe_fld p rfl) (a2a 0 (pv 0))) (q_fn (fun _ pa => pe_callB call_len (by rfl) B.len PySem.boot_len pa) c0a (a0a (u9c CF_Reader NF_Reader_words (fun _ p => pe_fld p rfl) (a2a 0 (pv 0))) a1a)) (nomark _)) (a4a (b9a (q_ix a9a b0a (u9c CF_Reader NF_Reader_words (fun _ p => pe_fld p rfl) (a2a 0 (pv 0))) (u9c CF_Reader NF_Reader_at (fun _ p => pe_fld p rfl) (a2a 0 (pv 0))) (fun _ _ => rfl)))) c5a)
  (a4a (b9a c7a)))
theorem m1b : FnScope ["self"] ["self"] (defScope (inClass (topS 46) 3)) := by trivial
theorem m2b (B : Bt mg) (Fn : Fun K "take" "Reader.take" (inClass (topS 46) 3) f fd) (C_Reader_is_done : Mth P w K mg base cls "Reader" "is_done" ["self"] 1 1 0 d_Reader_is_done) (X_NoText : Exn K mg cls "NoText" 13) (CF_Reader : ClsF K "Reader") (NF_Reader_at : NaF K "Reader" "at") (NF_Reader_words : NaF K "Reader" "words") :
  FnOk P w K mg base (L2.CX P w) 2 f fd ["self"] (spD K cls 1 0 d_Reader_take) :=
 b6a Fn m1b rfl rfl fun cdv A outer s H E hr tk =>
  (a3a (q_if (d0a (QE.view (m4a C_Reader_is_done hr (by decide) tk (a2a 0 (pv 0))))) (a4a (z3b X_NoText rfl tk)) c5a)
  (a3a (q8c 0 CF_Reader NF_Reader_at (fun _ p => ps_fld (pv 0) p rfl) (b8a f5a f6a (b2d 0 CF_Reader NF_Reader_at (pe_fld (pv 0) rfl)) a6a))
  (a4a (b9a (q_ix a9a b0a (b2d 0 CF_Reader NF_Reader_words (pe_fld (pv 0) rfl)) (b8a op_sub m0a (b2d 0 CF_Reader NF_Reader_at (pe_fld (pv 0) rfl)) a6a) (fun _ _ => rfl))))))
theorem v7a : FnScope ["self", "word", "sign"] ["self"] (defScope (inClass (topS 46) 5)) := by trivial
theorem v8a (B : Bt mg) (Fn : Fun K "read_int" "Reader.read_int" (inClass (topS 46) 5) f fd) (C_Reader_take : Mth P w K mg base cls "Reader" "take" ["self"] 2 1 0 d_Reader_take) (c_MOST_FIGURES : Cst mg "MOST_FIGURES" (.int 7)) (X_NoText : Exn K mg cls "NoText" 13) :
  FnOk P w K mg base (L2.CX P w) 3 f fd ["self"] (spD K cls 1 2 d_Reader_read_int) :=
 b6a Fn v7a rfl rfl fun cdv A outer s H E hr tk =>
  (a3a (d2a 1 (fun _ p => ps_set (i := 1) v7a.nd rfl (by trivial) p) (f4a C_Reader_take hr (by decide) tk (pv 0)))
  (a3a (q_if (QW.qt (f3a (c4a op_lt z4c (q_fn (fun _ pa => pe_callB call_len (by rfl) B.len PySem.boot_len pa) c0a (a0a (a2a 1 (pv 1)) a1a)) a6a (nomark _)) (f3a (c4a op_gt j4a (q_fn (fun _ pa => pe_callB call_len (by rfl) B.len PySem.boot_len pa) c0a (a0a (a2a 1 (pv 1)) a1a)) (l5a c_MOST_FIGURES fun _ => .int _) (nomark _)) (f9a (QW.qt (m1c (c4a op_gt j4a (q_fn (fun _ pa => pe_callB call_len (by rfl) B.len PySem.boot_len pa) c0a (a0a (a2a 1 (pv 1)) a1a)) a6a (nomark _)) (p7b (c4a (op_eqD hr.units) g5a (q_ix a9a b0a (a2a 1 (pv 1)) a6a (fun _ _ => rfl)) c7a (nomark _))))))))) (a4a (z3b X_NoText rfl tk)) c5a)
  (a3a (h1a (q2d (a2a 1 (pv 1))) (a5a 2 (pg_name (i := 2) v7a.nd rfl (by trivial))) (QB.drop [2] (a4a (q_if (c4a (h6a (hu65 hr)) (p1a true) (a2a 2 (pv 2)) c7a rfl) (a4a (z3b X_NoText rfl tk)) c5a))) (fun _ _ _ i t b => ps_for (passes_of rfl) rfl i t b))
  (a4a (b9a (q_fn (fun _ pa => pe_callTy call_int_str (by rfl) B.int (by decide +kernel) pa) m6d (a0a (a2a 1 (pv 1)) a1a)))))))
theorem m3b : FnScope ["self", "word"] ["self", "word"] (defScope (inClass (topS 46) 4)) := by trivial
theorem m4b (B : Bt mg) (Fn : Fun K "want" "Reader.want" (inClass (topS 46) 4) f fd) (C_Reader_take : Mth P w K mg base cls "Reader" "take" ["self"] 2 1 0 d_Reader_take) (X_NoText : Exn K mg cls "NoText" 13) :
  FnOk P w K mg base (L2.CX P w) 3 f fd ["self", "word"] (spD K cls 2 0 d_Reader_want) :=
 b6a Fn m3b rfl rfl fun cdv A outer s H E hr tk =>
  (a4a (q_if (c4a (op_neD hr.units) l0a (f4a C_Reader_take hr (by decide) tk (pv 0)) (a2a 1 (pv 1)) (nomark _)) (a4a (z3b X_NoText rfl tk)) c5a))
theorem m5a : FnScope ["self", "found", "name"] ["self"] (defScope (inClass (topS 46) 7)) := by trivial
theorem m6a (B : Bt mg) (Fn : Fun K "read_points" "Reader.read_points" (inClass (topS 46) 7) f fd) (C_Reader_next_word : Mth P w K mg base cls "Reader" "next_word" ["self"] 1 1 0 d_Reader_next_word) (C_Reader_read_int : Mth P w K mg base cls "Reader" "read_int" ["self"] 3 1 2 d_Reader_read_int) (C_Reader_take : Mth P w K mg base cls "Reader" "take" ["self"] 2 1 0 d_Reader_take) (C_Reader_want : Mth P w K mg base cls "Reader" "want" ["self", "word"] 3 2 0 d_Reader_want) :
  FnOk P w K mg base (L2.CX P w) 4 f fd ["self"] (spD K cls 1 2 d_Reader_read_points) :=
 b6a Fn m5a rfl rfl fun cdv A outer s H E hr tk =>
  (a3a (g4a 1 (fun _ p => ps_set (i := 1) m5a.nd rfl (by trivial) p) (e4a a1a))
  (a3a (x7a fuel (fun _ _ c b => ps_while (passes_of rfl) c b) (c4a (op_eqD hr.units) g5a (QE.view (m4a C_Reader_next_word hr (by decide) tk (a2a 0 (pv 0)))) c7a (nomark _)) (QB.drop [2] (a3a (g0a (g7a C_Reader_want hr (by decide) tk (pv 0) (a0a c7a a1a)))
  (a3a (d2a 2 (fun _ p => ps_set (i := 2) m5a.nd rfl (by trivial) p) (f4a C_Reader_read_int hr (by decide) tk (pv 0)))
  (a4a (g0a (q_lm 1 (fun _ pa => pe_bm PySem.F.plainAttrs_list PySem.F.slot_list_append PySem.F.type_list_append mt_append (pv 1) pa) d9a (a0a (e9a (a0a (a2a 2 (pv 2)) (a0a (f4a C_Reader_take hr (by decide) tk (pv 0)) a1a))) a1a))))))))
  (a4a (b9a (QE.view (q_fn (fun _ pa => pe_callTy b7a (by rfl) B.tuple (by decide +kernel) pa) d3a (a0a (a2a 1 (pv 1)) a1a)))))))
theorem q5a : FnScope ["self", "found", "name", "kind", "begin"] ["self"] (defScope (inClass (topS 46) 8)) := by trivial
theorem q6a (B : Bt mg) (Fn : Fun K "read_ties" "Reader.read_ties" (inClass (topS 46) 8) f fd) (C_Reader_next_word : Mth P w K mg base cls "Reader" "next_word" ["self"] 1 1 0 d_Reader_next_word) (C_Reader_read_int : Mth P w K mg base cls "Reader" "read_int" ["self"] 3 1 2 d_Reader_read_int) (C_Reader_take : Mth P w K mg base cls "Reader" "take" ["self"] 2 1 0 d_Reader_take) (C_Reader_want : Mth P w K mg base cls "Reader" "want" ["self", "word"] 3 2 0 d_Reader_want) :
  FnOk P w K mg base (L2.CX P w) 4 f fd ["self"] (spD K cls 1 4 d_Reader_read_ties) :=
 b6a Fn q5a rfl rfl fun cdv A outer s H E hr tk =>
  (a3a (g4a 1 (fun _ p => ps_set (i := 1) q5a.nd rfl (by trivial) p) (e4a a1a))
  (a3a (x7a fuel (fun _ _ c b => ps_while (passes_of rfl) c b) (c4a (op_eqD hr.units) g5a (QE.view (m4a C_Reader_next_word hr (by decide) tk (a2a 0 (pv 0)))) c7a (nomark _)) (QB.drop [2, 3, 4] (a3a (g0a (g7a C_Reader_want hr (by decide) tk (pv 0) (a0a c7a a1a)))
  (a3a (d2a 2 (fun _ p => ps_set (i := 2) q5a.nd rfl (by trivial) p) (f4a C_Reader_read_int hr (by decide) tk (pv 0)))
  (a3a (d2a 3 (fun _ p => ps_set (i := 3) q5a.nd rfl (by trivial) p) (f4a C_Reader_take hr (by decide) tk (pv 0)))
  (a3a (d2a 4 (fun _ p => ps_set (i := 4) q5a.nd rfl (by trivial) p) (f4a C_Reader_read_int hr (by decide) tk (pv 0)))
  (a4a (g0a (q_lm 1 (fun _ pa => pe_bm PySem.F.plainAttrs_list PySem.F.slot_list_append PySem.F.type_list_append mt_append (pv 1) pa) d9a (a0a (e9a (a0a (a2a 2 (pv 2)) (a0a (a2a 3 (pv 3)) (a0a (a2a 4 (pv 4)) (a0a (f4a C_Reader_read_int hr (by decide) tk (pv 0)) a1a))))) a1a))))))))))
  (a4a (b9a (QE.view (q_fn (fun _ pa => pe_callTy b7a (by rfl) B.tuple (by decide +kernel) pa) d3a (a0a (a2a 1 (pv 1)) a1a)))))))
theorem v9a : FnScope ["self", "points"] ["self"] (defScope (inClass (topS 46) 9)) := by trivial
theorem w0a (B : Bt mg) (Fn : Fun K "read_net" "Reader.read_net" (inClass (topS 46) 9) f fd) (C_Reader_read_points : Mth P w K mg base cls "Reader" "read_points" ["self"] 4 1 2 d_Reader_read_points) (C_Reader_read_ties : Mth P w K mg base cls "Reader" "read_ties" ["self"] 4 1 4 d_Reader_read_ties) :
  FnOk P w K mg base (L2.CX P w) 5 f fd ["self"] (spD K cls 1 1 d_Reader_read_net) :=
 b6a Fn v9a rfl rfl fun cdv A outer s H E hr tk =>
  (a3a (d2a 1 (fun _ p => ps_set (i := 1) v9a.nd rfl (by trivial) p) (f4a C_Reader_read_points hr (by decide) tk (pv 0)))
  (a4a (b9a (e9a (a0a (a2a 1 (pv 1)) (a0a (f4a C_Reader_read_ties hr (by decide) tk (pv 0)) a1a))))))
theorem v5b : FnScope ["row", "at"] ["row"] (defScope (topS 12)) := by trivial
theorem v6b (B : Bt mg) (Fn : Fun K "are_rising" "are_rising" (topS 12) f fd)  :
  FnOk P w K mg base (L2.CX P w) 1 f fd ["row"] (spD K cls 1 1 d_are_rising) :=
 b6a Fn v5b rfl rfl fun cdv A outer s H E hr tk =>
  (a3a (h1a (y8c (fun _ pa => pi_range2 (by rfl) B.range pa) (a0a a6a (a0a (q_fn (fun _ pa => pe_callB call_len (by rfl) B.len PySem.boot_len pa) c0a (a0a (a2a 0 (pv 0)) a1a)) a1a))) (a5a 1 (pg_name (i := 1) v5b.nd rfl (by trivial))) (a4a (q_if (c4a (h9b hr.units0) i0b (q_ix a9a b0a (a2a 0 (pv 0)) (a2a 1 (pv 1)) (fun _ _ => rfl)) (q_ix a9a b0a (a2a 0 (pv 0)) (b8a op_sub m0a (a2a 1 (pv 1)) a6a) (fun _ _ => rfl)) (nomark _)) (a4a (b9a q_bl)) c5a)) (fun _ _ _ i t b => ps_for (passes_of rfl) rfl i t b))
  (a4a (b9a q_bl)))
theorem v8c : FnScope ["thing", "sign"] ["thing"] (defScope (topS 9)) := by trivial
theorem v9c (B : Bt mg) (Fn : Fun K "is_kind" "is_kind" (topS 9) f fd) (c_MOST_LETTERS : Cst mg "MOST_LETTERS" (.int 8)) :
  FnOk P w K mg base (L2.CX P w) 1 f fd ["thing"] (spD K cls 1 1 d_is_kind) :=
 b6a Fn v8c rfl rfl fun cdv A outer s H E hr tk =>
  (a3a (q_if (QW.qt (f3a (d4a (d0a (o6a "str" (by decide) (fun _ p => pe_callB call_isi (by rfl) B.isinstance (by decide +kernel) (pa_cons p (pa_cons (pe_bltn (v := .ty "str") (by rfl) B.str (show bootBuiltins "str" = some (.type "str") by decide +kernel) rfl) pa_nil))) (a2a 0 (pv 0))))) (f3a (c4a op_lt z4c (q_fn (fun _ pa => pe_callB call_len (by rfl) B.len PySem.boot_len pa) c0a (a0a (a2a 0 (pv 0)) a1a)) a6a (nomark _)) (f9a (c4a op_gt j4a (q_fn (fun _ pa => pe_callB call_len (by rfl) B.len PySem.boot_len pa) c0a (a0a (a2a 0 (pv 0)) a1a)) (l5a c_MOST_LETTERS fun _ => .int _) (nomark _)))))) (a4a (b9a q_bl)) c5a)
  (a3a (h1a (q2d (a2a 0 (pv 0))) (a5a 1 (pg_name (i := 1) v8c.nd rfl (by trivial))) (a4a (q_if (c4a (h6a (hu65 hr)) (p1a true) (a2a 1 (pv 1)) c7a rfl) (a4a (b9a q_bl)) c5a)) (fun _ _ _ i t b => ps_for (passes_of rfl) rfl i t b))
  (a4a (b9a q_bl))))
theorem c5d : FnScope ["thing"] ["thing"] (defScope (topS 7)) := by trivial
theorem c6d (B : Bt mg) (Fn : Fun K "is_int" "is_int" (topS 7) f fd)  :
  FnOk P w K mg base (L2.CX P w) 1 f fd ["thing"] (spD K cls 1 0 d_is_int) :=
 b6a Fn c5d rfl rfl fun cdv A outer s H E hr tk =>
  (a4a (b9a (x1a (o6a "int" (by decide) (fun _ p => pe_callB call_isi (by rfl) B.isinstance (by decide +kernel) (pa_cons p (pa_cons (pe_bltn (v := .ty "int") (by rfl) B.int (show bootBuiltins "int" = some (.type "int") by decide +kernel) rfl) pa_nil))) (a2a 0 (pv 0))) (h1b (a5e (o6a "bool" (by decide) (fun _ p => pe_callB call_isi (by rfl) B.isinstance (by decide +kernel) (pa_cons p (pa_cons (pe_bltn (v := .ty "bool") (by rfl) B.bool (show bootBuiltins "bool" = some (.type "bool") by decide +kernel) rfl) pa_nil))) (a2a 0 (pv 0))))))))
theorem w0c : FnScope ["thing"] ["thing"] (defScope (topS 8)) := by trivial
theorem w1c (B : Bt mg) (Fn : Fun K "is_name" "is_name" (topS 8) f fd) (C_is_int : Cal P w K mg base cls "is_int" ["thing"] 1 1 0 d_is_int []) (c_MOST_NAME : Cst mg "MOST_NAME" (.int 1000000)) :
  FnOk P w K mg base (L2.CX P w) 2 f fd ["thing"] (spD K cls 1 0 d_is_name) :=
 b6a Fn w0c rfl rfl fun cdv A outer s H E hr tk =>
  (a4a (b9a (x1a (d1a C_is_int hr (by decide) tk (a0a (a2a 0 (pv 0)) a1a)) (h1b (s6d (h9b hr.units0) (h9b hr.units0) i0b i0b a6a (a2a 0 (pv 0)) (l5a c_MOST_NAME fun _ => .int _))))))
theorem i4c : FnScope ["thing", "many"] ["thing", "many"] (defScope (topS 10)) := by trivial
theorem i5c (B : Bt mg) (Fn : Fun K "is_tuple" "is_tuple" (topS 10) f fd)  :
  FnOk P w K mg base (L2.CX P w) 1 f fd ["thing", "many"] (spD K cls 2 0 d_is_tuple) :=
 b6a Fn i4c rfl rfl fun cdv A outer s H E hr tk =>
  (a4a (b9a (x1a (o6a "tuple" (by decide) (fun _ p => pe_callB call_isi (by rfl) B.isinstance (by decide +kernel) (pa_cons p (pa_cons (pe_bltn (v := .ty "tuple") (by rfl) B.tuple (show bootBuiltins "tuple" = some (.type "tuple") by decide +kernel) rfl) pa_nil))) (a2a 0 (pv 0))) (h1b (k6a (op_eqD hr.units) g5a (q_fn (fun _ pa => pe_callB call_len (by rfl) B.len PySem.boot_len pa) c0a (a0a (a2a 0 (pv 0)) a1a)) (a2a 1 (pv 1)) (nomark _))))))
theorem v7b : FnScope ["thing", "part"] ["thing"] (defScope (topS 17)) := by trivial
theorem v8b (B : Bt mg) (Fn : Fun K "are_points" "are_points" (topS 17) f fd) (C_are_rising : Cal P w K mg base cls "are_rising" ["row"] 1 1 1 d_are_rising []) (C_is_kind : Cal P w K mg base cls "is_kind" ["thing"] 1 1 1 d_is_kind []) (C_is_name : Cal P w K mg base cls "is_name" ["thing"] 2 1 0 d_is_name []) (C_is_tuple : Cal P w K mg base cls "is_tuple" ["thing", "many"] 1 2 0 d_is_tuple []) (c_MOST_POINTS : Cst mg "MOST_POINTS" (.int 400)) :
  FnOk P w K mg base (L2.CX P w) 3 f fd ["thing"] (spD K cls 1 1 d_are_points) :=
 b6a Fn v7b rfl rfl fun cdv A outer s H E hr tk =>
  (a3a (q_if (QW.qt (f3a (d4a (d0a (o6a "tuple" (by decide) (fun _ p => pe_callB call_isi (by rfl) B.isinstance (by decide +kernel) (pa_cons p (pa_cons (pe_bltn (v := .ty "tuple") (by rfl) B.tuple (show bootBuiltins "tuple" = some (.type "tuple") by decide +kernel) rfl) pa_nil))) (a2a 0 (pv 0))))) (f9a (c4a op_gt j4a (q_fn (fun _ pa => pe_callB call_len (by rfl) B.len PySem.boot_len pa) c0a (a0a (a2a 0 (pv 0)) a1a)) (l5a c_MOST_POINTS fun _ => .int _) (nomark _))))) (a4a (b9a q_bl)) c5a)
  (a3a (h1a (d5a (a2a 0 (pv 0))) (a5a 1 (pg_name (i := 1) v7b.nd rfl (by trivial))) (a4a (q_if (QW.qt (f3a (d4a (d0a (d1a C_is_tuple hr (by decide) tk (a0a (a2a 1 (pv 1)) (a0a a6a a1a))))) (f3a (d4a (d0a (d1a C_is_name hr (by decide) tk (a0a (q_ix a9a b0a (a2a 1 (pv 1)) a6a (fun _ _ => rfl)) a1a)))) (f9a (d4a (d0a (d1a C_is_kind hr (by decide) tk (a0a (q_ix a9a b0a (a2a 1 (pv 1)) a6a (fun _ _ => rfl)) a1a)))))))) (a4a (b9a q_bl)) c5a)) (fun _ _ _ i t b => ps_for (passes_of rfl) rfl i t b))
  (a4a (b9a (d1a C_are_rising hr (by decide) tk (a0a (QN.frz (i2a (by rfl) v7b.nd (d5a (a2a 0 (pv 0))) (blkOk_by (own := [("part", 1)]) (N := ["thing", "part"]) (sc := (defScope (topS 17))) (by decide +kernel)) (fun _ _ _ _ _ => (a5a 1 (pg_name (i := 1) v7b.nd rfl (by trivial)))) (fun _ _ _ _ _ => e7a) (fun _ _ _ _ _ => (q_ix a9a b0a (a2a 1 (pv 1)) a6a (fun _ _ => rfl))) c3a rfl (by decide))) a1a))))))
theorem i6c : FnScope ["thing", "points", "part"] ["thing", "points"] (defScope (topS 18)) := by trivial
theorem i7c (B : Bt mg) (Fn : Fun K "are_ties" "are_ties" (topS 18) f fd) (C_are_rising : Cal P w K mg base cls "are_rising" ["row"] 1 1 1 d_are_rising []) (C_is_kind : Cal P w K mg base cls "is_kind" ["thing"] 1 1 1 d_is_kind []) (C_is_name : Cal P w K mg base cls "is_name" ["thing"] 2 1 0 d_is_name []) (C_is_tuple : Cal P w K mg base cls "is_tuple" ["thing", "many"] 1 2 0 d_is_tuple []) (c_MOST_TIES : Cst mg "MOST_TIES" (.int 600)) :
  FnOk P w K mg base (L2.CX P w) 3 f fd ["thing", "points"] (spD K cls 2 1 d_are_ties) :=
 b6a Fn i6c rfl rfl fun cdv A outer s H E hr tk =>
  (a3a (q_if (QW.qt (f3a (d4a (d0a (o6a "tuple" (by decide) (fun _ p => pe_callB call_isi (by rfl) B.isinstance (by decide +kernel) (pa_cons p (pa_cons (pe_bltn (v := .ty "tuple") (by rfl) B.tuple (show bootBuiltins "tuple" = some (.type "tuple") by decide +kernel) rfl) pa_nil))) (a2a 0 (pv 0))))) (f9a (c4a op_gt j4a (q_fn (fun _ pa => pe_callB call_len (by rfl) B.len PySem.boot_len pa) c0a (a0a (a2a 0 (pv 0)) a1a)) (l5a c_MOST_TIES fun _ => .int _) (nomark _))))) (a4a (b9a q_bl)) c5a)
  (a3a (h1a (d5a (a2a 0 (pv 0))) (a5a 2 (pg_name (i := 2) i6c.nd rfl (by trivial))) (a3a (q_if (QW.qt (f3a (d4a (d0a (d1a C_is_tuple hr (by decide) tk (a0a (a2a 2 (pv 2)) (a0a a6a a1a))))) (f3a (d4a (d0a (d1a C_is_name hr (by decide) tk (a0a (q_ix a9a b0a (a2a 2 (pv 2)) a6a (fun _ _ => rfl)) a1a)))) (f9a (d4a (d0a (d1a C_is_kind hr (by decide) tk (a0a (q_ix a9a b0a (a2a 2 (pv 2)) a6a (fun _ _ => rfl)) a1a)))))))) (a4a (b9a q_bl)) c5a)
  (a4a (q_if (QW.qt (f3a (d4a (d0a (d1a C_is_name hr (by decide) tk (a0a (q_ix a9a b0a (a2a 2 (pv 2)) a6a (fun _ _ => rfl)) a1a)))) (f3a (d4a (d0a (d1a C_is_name hr (by decide) tk (a0a (q_ix a9a b0a (a2a 2 (pv 2)) a6a (fun _ _ => rfl)) a1a)))) (f3a (q0a (hu_of hr) (q_ix a9a b0a (a2a 2 (pv 2)) a6a (fun _ _ => rfl)) (a2a 1 (pv 1))) (f9a (q0a (hu_of hr) (q_ix a9a b0a (a2a 2 (pv 2)) a6a (fun _ _ => rfl)) (a2a 1 (pv 1)))))))) (a4a (b9a q_bl)) c5a))) (fun _ _ _ i t b => ps_for (passes_of rfl) rfl i t b))
  (a4a (b9a (d1a C_are_rising hr (by decide) tk (a0a (QN.frz (i2a (by rfl) i6c.nd (d5a (a2a 0 (pv 0))) (blkOk_by (own := [("part", 2)]) (N := ["thing", "points", "part"]) (sc := (defScope (topS 18))) (by decide +kernel)) (fun _ _ _ _ _ => (a5a 2 (pg_name (i := 2) i6c.nd rfl (by trivial)))) (fun _ _ _ _ _ => e7a) (fun _ _ _ _ _ => (q_ix a9a b0a (a2a 2 (pv 2)) a6a (fun _ _ => rfl))) c3a rfl (by decide))) a1a))))))
theorem b8c : FnScope ["net", "found", "name", "kind"] ["net"] (defScope (topS 20)) := by trivial
theorem b9c (B : Bt mg) (Fn : Fun K "points_of" "points_of" (topS 20) f fd)  :
  FnOk P w K mg base (L2.CX P w) 1 f fd ["net"] (spD K cls 1 3 d_points_of) :=
 b6a Fn b8c rfl rfl fun cdv A outer s H E hr tk =>
  (a3a (g4a 1 (fun _ p => ps_set (i := 1) b8c.nd rfl (by trivial) p) g9c)
  (a3a (h1a (d5a (q_ix a9a b0a (a2a 0 (pv 0)) a6a (fun _ _ => rfl))) (i8a (b1a (a5a 2 (pg_name (i := 2) b8c.nd rfl (by trivial))) (b1a (a5a 3 (pg_name (i := 3) b8c.nd rfl (by trivial))) h3a)) rfl) (a4a (m3c 1 (fun _ _ p q => ps_dput (hu_of hr) (pv 1) q p rfl) (a2a 3 (pv 3)) (a2a 2 (pv 2)))) (fun _ _ _ i t b => ps_for (passes_of rfl) rfl i t b))
  (a4a (y3b 1 (pv 1)))))
theorem c7d : FnScope ["thing"] ["thing"] (defScope (topS 19)) := by trivial
theorem c8d (B : Bt mg) (Fn : Fun K "is_net" "is_net" (topS 19) f fd) (C_are_points : Cal P w K mg base cls "are_points" ["thing"] 3 1 1 d_are_points []) (C_are_ties : Cal P w K mg base cls "are_ties" ["thing", "points"] 3 2 1 d_are_ties []) (C_is_tuple : Cal P w K mg base cls "is_tuple" ["thing", "many"] 1 2 0 d_is_tuple []) (C_points_of : Cal P w K mg base cls "points_of" ["net"] 1 1 3 d_points_of []) :
  FnOk P w K mg base (L2.CX P w) 4 f fd ["thing"] (spD K cls 1 0 d_is_net) :=
 b6a Fn c7d rfl rfl fun cdv A outer s H E hr tk =>
  (a3a (q_if (QW.qt (f3a (d4a (d0a (d1a C_is_tuple hr (by decide) tk (a0a (a2a 0 (pv 0)) (a0a a6a a1a))))) (f9a (d4a (d0a (d1a C_are_points hr (by decide) tk (a0a (q_ix a9a b0a (a2a 0 (pv 0)) a6a (fun _ _ => rfl)) a1a))))))) (a4a (b9a q_bl)) c5a)
  (a4a (b9a (d1a C_are_ties hr (by decide) tk (a0a (q_ix a9a b0a (a2a 0 (pv 0)) a6a (fun _ _ => rfl)) (a0a (QN.frz (j5a C_points_of hr (by decide) tk (a0a (a2a 0 (pv 0)) a1a))) a1a))))))
theorem i8c : FnScope ["text", "reader", "found"] ["text"] (defScope (topS 47)) := by trivial
theorem i9c (B : Bt mg) (Fn : Fun K "read_net" "read_net" (topS 47) f fd) (C_Reader_init : MkC P w K mg base cls "Reader" ["self", "text"] 1 2 0 d_Reader_init) (C_Reader_is_done : Mth P w K mg base cls "Reader" "is_done" ["self"] 1 1 0 d_Reader_is_done) (C_Reader_read_net : Mth P w K mg base cls "Reader" "read_net" ["self"] 5 1 1 d_Reader_read_net) (C_is_net : Cal P w K mg base cls "is_net" ["thing"] 4 1 0 d_is_net []) (X_NoText : Exn K mg cls "NoText" 13) :
  FnOk P w K mg base (L2.CX P w) 6 f fd ["text"] (spD K cls 1 2 d_read_net) :=
 b6a Fn i8c rfl rfl fun cdv A outer s H E hr tk =>
  (a3a (g4a 1 (fun _ p => ps_set (i := 1) i8c.nd rfl (by trivial) p) (b3e C_Reader_init hr (by decide) tk (a0a (a2a 0 (pv 0)) a1a)))
  (a3a (d2a 2 (fun _ p => ps_set (i := 2) i8c.nd rfl (by trivial) p) (f4a C_Reader_read_net hr (by decide) tk (pv 1)))
  (a3a (q_if (QW.qt (f3a (d4a (d0a (QE.view (m4a C_Reader_is_done hr (by decide) tk (a2a 1 (pv 1)))))) (f9a (d4a (d0a (d1a C_is_net hr (by decide) tk (a0a (a2a 2 (pv 2)) a1a))))))) (a4a (z3b X_NoText rfl tk)) c5a)
  (a4a (b9a (a2a 2 (pv 2)))))))
theorem a0b : FnScope ["_law_net_here", "_law_text", "_law_found"] ["_law_net_here"] (defScope (topS 68)) := by trivial
theorem a1b (B : Bt mg) (Fn : Fun K "_law_net_right" "_law_net_right" (topS 68) f fd) (C_law_alike : Cal P w K mg base cls "_law_alike" ["_law_found", "_law_due"] 9 2 1 d_law_alike []) (C_law_net_words : Cal P w K mg base cls "_law_net_words" ["_law_net_here"] 1 1 5 d_law_net_words []) (C_net_text : Cal P w K mg base cls "net_text" ["net"] 2 1 0 d_net_text []) (C_read_net : Cal P w K mg base cls "read_net" ["text"] 6 1 2 d_read_net []) :
  FnOk P w K mg base (L2.CX P w) 10 f fd ["_law_net_here"] (spD K cls 1 2 d_law_net_right) :=
 b6a Fn a0b rfl rfl fun cdv A outer s H E hr tk =>
  (a3a (d2a 1 (fun _ p => ps_set (i := 1) a0b.nd rfl (by trivial) p) (r1c (fun _ _ p q => pe_join p q) c7a (d1a C_law_net_words hr (by decide) tk (a0a (a2a 0 (pv 0)) a1a))))
  (a3a (d2a 2 (fun _ p => ps_set (i := 2) a0b.nd rfl (by trivial) p) (d1a C_net_text hr (by decide) tk (a0a (a2a 0 (pv 0)) a1a)))
  (a3a (q_if (QW.qt (f3a (d4a (d0a (o6a "str" (by decide) (fun _ p => pe_callB call_isi (by rfl) B.isinstance (by decide +kernel) (pa_cons p (pa_cons (pe_bltn (v := .ty "str") (by rfl) B.str (show bootBuiltins "str" = some (.type "str") by decide +kernel) rfl) pa_nil))) (a2a 2 (pv 2))))) (f3a (c4a (op_neD hr.units) l0a (a2a 2 (pv 2)) (a2a 1 (pv 1)) (nomark _)) (f9a (d4a (d0a (d1a C_law_alike hr (by decide) tk (a0a (d1a C_read_net hr (by decide) tk (a0a (a2a 1 (pv 1)) a1a)) (a0a (a2a 0 (pv 0)) a1a))))))))) (a4a (b9a q_bl)) c5a)
  (a4a (b9a (k6a (op_eqD hr.units) g5a (d1a C_net_text hr (by decide) tk (a0a (d1a C_read_net hr (by decide) tk (a0a (a2a 1 (pv 1)) a1a)) a1a)) (a2a 1 (pv 1)) (nomark _)))))))
theorem c0c : FnScope ["_law_net_here", "_law_other", "_law_turn", "_law_taken", "_law_name", "_law_part_here"] ["_law_net_here", "_law_other", "_law_turn"] (defScope (topS 57)) := by trivial
theorem c1c (B : Bt mg) (Fn : Fun K "_law_fresh" "_law_fresh" (topS 57) f fd)  :
  FnOk P w K mg base (L2.CX P w) 1 f fd ["_law_net_here", "_law_other", "_law_turn"] (spD K cls 3 3 d_law_fresh) :=
 b6a Fn c0c rfl rfl fun cdv A outer s H E hr tk =>
  (a3a (d2a 3 (fun _ p => ps_set (i := 3) c0c.nd rfl (by trivial) p) (QN.frz (e3a op_cat d8a (QN.frz (i2a (by rfl) c0c.nd (d5a (q_ix a9a b0a (a2a 0 (pv 0)) (a2a 2 (pv 2)) (fun _ _ => rfl))) (blkOk_by (own := [("_law_part_here", 5)]) (N := ["_law_net_here", "_law_other", "_law_turn", "_law_taken", "_law_name", "_law_part_here"]) (sc := (defScope (topS 57))) (by decide +kernel)) (fun _ _ _ _ _ => (a5a 5 (pg_name (i := 5) c0c.nd rfl (by trivial)))) (fun _ _ _ _ _ => e7a) (fun _ _ _ _ _ => (q_ix a9a b0a (a2a 5 (pv 5)) a6a (fun _ _ => rfl))) c3a rfl (by decide))) (QN.frz (i2a (by rfl) c0c.nd (d5a (q_ix a9a b0a (a2a 1 (pv 1)) (a2a 2 (pv 2)) (fun _ _ => rfl))) (blkOk_by (own := [("_law_part_here", 5)]) (N := ["_law_net_here", "_law_other", "_law_turn", "_law_taken", "_law_name", "_law_part_here"]) (sc := (defScope (topS 57))) (by decide +kernel)) (fun _ _ _ _ _ => (a5a 5 (pg_name (i := 5) c0c.nd rfl (by trivial)))) (fun _ _ _ _ _ => e7a) (fun _ _ _ _ _ => (q_ix a9a b0a (a2a 5 (pv 5)) a6a (fun _ _ => rfl))) c3a rfl (by decide))))))
  (a4a (y5c (i2a (by rfl) c0c.nd (h5a (fun _ pa => pi_range1 (by rfl) B.range pa) (a0a a6a a1a)) (blkOk_by (own := [("_law_name", 4)]) (N := ["_law_net_here", "_law_other", "_law_turn", "_law_taken", "_law_name", "_law_part_here"]) (sc := (defScope (topS 57))) (by decide +kernel)) (fun _ _ _ _ _ => (a5a 4 (pg_name (i := 4) c0c.nd rfl (by trivial)))) (fun _ _ _ _ _ => (h3b (c4a (h6a (hu65 hr)) (p1a true) (a2a 4 (pv 4)) (a2a 3 (pv 3)) rfl))) (fun _ _ _ _ _ => (a2a 4 (pv 4))) c3a rfl (by decide)))))
theorem c2c : FnScope ["_law_deck_here", "_law_net_here", "_law_other", "_law_most_points", "_law_most_ties", "_law_points", "_law_name", "_law_ties", "_law_cell_here", "_law_begin"] ["_law_deck_here", "_law_net_here", "_law_other", "_law_most_points", "_law_most_ties"] (defScope (topS 58)) := by trivial
theorem c3c (B : Bt mg) (Fn : Fun K "_law_added" "_law_added" (topS 58) f fd) (C_law_fresh : Cal P w K mg base cls "_law_fresh" ["_law_net_here", "_law_other", "_law_turn"] 1 3 3 d_law_fresh []) (C_law_next : Cal P w K mg base cls "_law_next" ["_law_deck_here"] 1 1 0 d_law_next []) :
  FnOk P w K mg base (L2.CX P w) 2 f fd ["_law_deck_here", "_law_net_here", "_law_other", "_law_most_points", "_law_most_ties"] (spD K cls 5 5 d_law_added) :=
 b6a Fn c2c rfl rfl fun cdv A outer s H E hr tk =>
  (a3a (g4a 5 (fun _ p => ps_set (i := 5) c2c.nd rfl (by trivial) p) (u0c (fun _ pa => pe_callTy call_list_of (by rfl) B.list (by decide +kernel) pa) q5b (a0a (q_ix a9a b0a (a2a 1 (pv 1)) a6a (fun _ _ => rfl)) a1a)))
  (a3a (h1a (d5a (QN.frz (j8d (QN.frz (j5a C_law_fresh hr (by decide) tk (a0a (a2a 1 (pv 1)) (a0a (a2a 2 (pv 2)) (a0a a6a a1a))))) i1b (i2b (b8a op_mod c8a (e6a C_law_next hr (by decide) tk (c2a 0 (pv 0) a1a)) (b8a f5a f6a (a2a 3 (pv 3)) a6a))) fun _ _ _ p l h => pe_slice sl_list p l h))) (a5a 6 (pg_name (i := 6) c2c.nd rfl (by trivial))) (a4a (g0a (q_lm 5 (fun _ pa => pe_bm PySem.F.plainAttrs_list PySem.F.slot_list_append PySem.F.type_list_append mt_append (pv 5) pa) d9a (a0a (e9a (a0a (a2a 6 (pv 6)) (a0a (q_ix a9a b0a c7a (b8a op_mod c8a (e6a C_law_next hr (by decide) tk (c2a 0 (pv 0) a1a)) a6a) (fun _ _ => rfl)) a1a))) a1a)))) (fun _ _ _ i t b => ps_for (passes_of rfl) rfl i t b))
  (a3a (g4a 7 (fun _ p => ps_set (i := 7) c2c.nd rfl (by trivial) p) (u0c (fun _ pa => pe_callTy call_list_of (by rfl) B.list (by decide +kernel) pa) q5b (a0a (q_ix a9a b0a (a2a 1 (pv 1)) a6a (fun _ _ => rfl)) a1a)))
  (a3a (h1a (d5a (QN.frz (j8d (QN.frz (j5a C_law_fresh hr (by decide) tk (a0a (a2a 1 (pv 1)) (a0a (a2a 2 (pv 2)) (a0a a6a a1a))))) i1b (i2b (b8a op_mod c8a (e6a C_law_next hr (by decide) tk (c2a 0 (pv 0) a1a)) (b8a f5a f6a (a2a 4 (pv 4)) a6a))) fun _ _ _ p l h => pe_slice sl_list p l h))) (a5a 6 (pg_name (i := 6) c2c.nd rfl (by trivial))) (a4a (q_if (QT.view (c4a (op_neD hr.units) l0a (a2a 5 (pv 5)) (QN.frz (e4a a1a)) (nomark _))) (a3a (d2a 8 (fun _ p => ps_set (i := 8) c2c.nd rfl (by trivial) p) (e6a C_law_next hr (by decide) tk (c2a 0 (pv 0) a1a)))
  (a3a (d2a 9 (fun _ p => ps_set (i := 9) c2c.nd rfl (by trivial) p) (q_ix a9a b0a (QE.view (q_ix a9a b0a (a2a 5 (pv 5)) (b8a op_mod c8a (b8a op_fdiv n4a (a2a 8 (pv 8)) a6a) (QE.view (q_fn (fun _ pa => pe_callB call_len (by rfl) B.len PySem.boot_len pa) c0a (a0a (a2a 5 (pv 5)) a1a)))) (fun _ _ => rfl))) a6a (fun _ _ => rfl)))
  (a4a (g0a (q_lm 7 (fun _ pa => pe_bm PySem.F.plainAttrs_list PySem.F.slot_list_append PySem.F.type_list_append mt_append (pv 7) pa) d9a (a0a (e9a (a0a (a2a 6 (pv 6)) (a0a (q_ix a9a b0a c7a (b8a op_mod c8a (a2a 8 (pv 8)) a6a) (fun _ _ => rfl)) (a0a (a2a 9 (pv 9)) (a0a (q_ix a9a b0a (QE.view (q_ix a9a b0a (a2a 5 (pv 5)) (b8a op_mod c8a (b8a op_fdiv n4a (a2a 8 (pv 8)) a6a) (QE.view (q_fn (fun _ pa => pe_callB call_len (by rfl) B.len PySem.boot_len pa) c0a (a0a (a2a 5 (pv 5)) a1a)))) (fun _ _ => rfl))) a6a (fun _ _ => rfl)) a1a))))) a1a)))))) c5a)) (fun _ _ _ i t b => ps_for (passes_of rfl) rfl i t b))
  (a4a (b9a (e9a (a0a (q_fn (fun _ pa => pe_callTy b7a (by rfl) B.tuple (by decide +kernel) pa) d3a (a0a (QN.frz (QN.view (u0c (fun _ pa => pe_callB (x4a (hu65 hr)) (by rfl) B.sorted (by decide +kernel) pa) x5a (a0a (a2a 5 (pv 5)) a1a)))) a1a)) (a0a (q_fn (fun _ pa => pe_callTy b7a (by rfl) B.tuple (by decide +kernel) pa) d3a (a0a (QN.frz (QN.view (u0c (fun _ pa => pe_callB (x4a (hu65 hr)) (by rfl) B.sorted (by decide +kernel) pa) x5a (a0a (a2a 7 (pv 7)) a1a)))) a1a)) a1a)))))))))
theorem m5b : FnScope ["_law_deck_here", "_law_left", "_law_found", "_law_k", "_law_forbid"] ["_law_deck_here", "_law_left"] (defScope (topS 60)) := by trivial
theorem m6b (B : Bt mg) (Fn : Fun K "_law_forbids" "_law_forbids" (topS 60) f fd) (C_law_added : Cal P w K mg base cls "_law_added" ["_law_deck_here", "_law_net_here", "_law_other", "_law_most_points", "_law_most_ties"] 2 5 5 d_law_added []) (C_law_next : Cal P w K mg base cls "_law_next" ["_law_deck_here"] 1 1 0 d_law_next []) :
  FnOk P w K mg base (L2.CX P w) 3 f fd ["_law_deck_here", "_law_left"] (spD K cls 2 3 d_law_forbids) :=
 b6a Fn m5b rfl rfl fun cdv A outer s H E hr tk =>
  (a3a (g4a 2 (fun _ p => ps_set (i := 2) m5b.nd rfl (by trivial) p) (e4a a1a))
  (a3a (h1a (h5a (fun _ pa => pi_range1 (by rfl) B.range pa) (a0a (q_ix a9a b0a (QN.frz (e4a (a0a a6a (a0a a6a (a0a a6a (a0a a6a a1a)))))) (b8a op_mod c8a (e6a C_law_next hr (by decide) tk (c2a 0 (pv 0) a1a)) a6a) (fun _ _ => rfl)) a1a)) (a5a 3 (pg_name (i := 3) m5b.nd rfl (by trivial))) (a3a (d2a 4 (fun _ p => ps_set (i := 4) m5b.nd rfl (by trivial) p) (e6a C_law_added hr (by decide) tk (c2a 0 (pv 0) (a0a (a2a 1 (pv 1)) (a0a (a2a 1 (pv 1)) (a0a a6a (a0a a6a a1a)))))))
  (a4a (q_if (c4a (op_neD hr.units) l0a (a2a 4 (pv 4)) (a2a 1 (pv 1)) (nomark _)) (a4a (g0a (q_lm 2 (fun _ pa => pe_bm PySem.F.plainAttrs_list PySem.F.slot_list_append PySem.F.type_list_append mt_append (pv 2) pa) d9a (a0a (a2a 4 (pv 4)) a1a)))) c5a))) (fun _ _ _ i t b => ps_for (passes_of rfl) rfl i t b))
  (a4a (b9a (QE.view (q_fn (fun _ pa => pe_callTy b7a (by rfl) B.tuple (by decide +kernel) pa) d3a (a0a (a2a 2 (pv 2)) a1a)))))))
theorem c4c : FnScope ["_law_deck_here", "_law_inner", "_law_pairs", "_law_at", "_law_turn"] ["_law_deck_here", "_law_inner"] (defScope (topS 59)) := by trivial
theorem c5c (B : Bt mg) (Fn : Fun K "_law_loose" "_law_loose" (topS 59) f fd) (C_law_next : Cal P w K mg base cls "_law_next" ["_law_deck_here"] 1 1 0 d_law_next []) :
  FnOk P w K mg base (L2.CX P w) 2 f fd ["_law_deck_here", "_law_inner"] (spD K cls 2 3 d_law_loose) :=
 b6a Fn c4c rfl rfl fun cdv A outer s H E hr tk =>
  (a3a (g4a 2 (fun _ p => ps_set (i := 2) c4c.nd rfl (by trivial) p) (e4a a1a))
  (a3a (h1a (h5a (fun _ pa => pi_range1 (by rfl) B.range pa) (a0a (q_fn (fun _ pa => pe_callB call_len (by rfl) B.len PySem.boot_len pa) c0a (a0a (q_ix a9a b0a (a2a 1 (pv 1)) a6a (fun _ _ => rfl)) a1a)) a1a)) (a5a 3 (pg_name (i := 3) c4c.nd rfl (by trivial))) (a4a (h1a (h5a (fun _ pa => pi_range1 (by rfl) B.range pa) (a0a (a2a 3 (pv 3)) a1a)) (a5a 4 (pg_name (i := 4) c4c.nd rfl (by trivial))) (a4a (q_if (c4a (op_eqD hr.units) g5a (q_ix a9a b0a (q_ix a9a b0a (q_ix a9a b0a (a2a 1 (pv 1)) a6a (fun _ _ => rfl)) (a2a 3 (pv 3)) (fun _ _ => rfl)) a6a (fun _ _ => rfl)) (q_ix a9a b0a (q_ix a9a b0a (q_ix a9a b0a (a2a 1 (pv 1)) a6a (fun _ _ => rfl)) (a2a 4 (pv 4)) (fun _ _ => rfl)) a6a (fun _ _ => rfl)) (nomark _)) (a4a (g0a (q_lm 2 (fun _ pa => pe_bm PySem.F.plainAttrs_list PySem.F.slot_list_append PySem.F.type_list_append mt_append (pv 2) pa) d9a (a0a (e9a (a0a (q_ix a9a b0a (q_ix a9a b0a (q_ix a9a b0a (a2a 1 (pv 1)) a6a (fun _ _ => rfl)) (a2a 4 (pv 4)) (fun _ _ => rfl)) a6a (fun _ _ => rfl)) (a0a (q_ix a9a b0a (q_ix a9a b0a (q_ix a9a b0a (a2a 1 (pv 1)) a6a (fun _ _ => rfl)) (a2a 3 (pv 3)) (fun _ _ => rfl)) a6a (fun _ _ => rfl)) a1a))) a1a)))) c5a)) (fun _ _ _ i t b => ps_for (passes_of rfl) rfl i t b))) (fun _ _ _ i t b => ps_for (passes_of rfl) rfl i t b))
  (a3a (q_if (QW.qt (f3a (c4a op_gt j4a (b8a op_mod c8a (e6a C_law_next hr (by decide) tk (c2a 0 (pv 0) a1a)) a6a) a6a (nomark _)) (f9a (QT.view (c4a (op_eqD hr.units) g5a (a2a 2 (pv 2)) (QN.frz (e4a a1a)) (nomark _)))))) (a4a (b9a (e9a a1a))) c5a)
  (a4a (b9a (q_fn (fun _ pa => pe_callTy b7a (by rfl) B.tuple (by decide +kernel) pa) d3a (a0a (QN.frz (j8d (QN.frz (QN.view (u0c (fun _ pa => pe_callB (x4a (hu65 hr)) (by rfl) B.sorted (by decide +kernel) pa) x5a (a0a (a2a 2 (pv 2)) a1a)))) i1b (i2b (b8a f5a f6a a6a (b8a op_mod c8a (e6a C_law_next hr (by decide) tk (c2a 0 (pv 0) a1a)) a6a))) fun _ _ _ p l h => pe_slice sl_list p l h)) a1a)))))))
theorem j0c : FnScope ["_law_deck_here", "_law_net_here", "_law_many", "_law_points", "_law_ties", "_law_name", "_law_point", "_law_tie"] ["_law_deck_here", "_law_net_here", "_law_many"] (defScope (topS 56)) := by trivial
theorem j1c (B : Bt mg) (Fn : Fun K "_law_part" "_law_part" (topS 56) f fd) (C_law_next : Cal P w K mg base cls "_law_next" ["_law_deck_here"] 1 1 0 d_law_next []) :
  FnOk P w K mg base (L2.CX P w) 2 f fd ["_law_deck_here", "_law_net_here", "_law_many"] (spD K cls 3 5 d_law_part) :=
 b6a Fn j0c rfl rfl fun cdv A outer s H E hr tk =>
  (a3a (q3b 3 rfl j0c.nd rfl rfl (sw_true rfl rfl rfl (by decide +kernel)) (d5a (q_ix a9a b0a (a2a 1 (pv 1)) a6a (fun _ _ => rfl))) (blkOk_by (own := [("_law_point", 6)]) (N := ["_law_deck_here", "_law_net_here", "_law_many", "_law_points", "_law_ties", "_law_name", "_law_point", "_law_tie"]) (sc := (defScope (topS 56))) (by decide +kernel)) (fun _ _ _ _ _ => (a5a 6 (pg_name (i := 6) j0c.nd rfl (by trivial)))) (fun _ _ _ _ _ => e7a) (fun _ _ _ _ _ => (a2a 6 (pv 6))) c3a rfl (by decide))
  (a3a (q3b 4 rfl j0c.nd rfl rfl (sw_true rfl rfl rfl (by decide +kernel)) (d5a (q_ix a9a b0a (a2a 1 (pv 1)) a6a (fun _ _ => rfl))) (blkOk_by (own := [("_law_tie", 7)]) (N := ["_law_deck_here", "_law_net_here", "_law_many", "_law_points", "_law_ties", "_law_name", "_law_point", "_law_tie"]) (sc := (defScope (topS 56))) (by decide +kernel)) (fun _ _ _ _ _ => (a5a 7 (pg_name (i := 7) j0c.nd rfl (by trivial)))) (fun _ _ _ _ _ => e7a) (fun _ _ _ _ _ => (a2a 7 (pv 7))) c3a rfl (by decide))
  (a3a (x7a fuel (fun _ _ c b => ps_while (passes_of rfl) c b) (c4a op_gt j4a (QE.view (q_fn (fun _ pa => pe_callB call_len (by rfl) B.len PySem.boot_len pa) c0a (a0a (a2a 3 (pv 3)) a1a))) (a2a 2 (pv 2)) (nomark _)) (a3a (d2a 5 (fun _ p => ps_set (i := 5) j0c.nd rfl (by trivial) p) (q_ix a9a b0a (q_lm 3 (fun _ pa => pe_bm PySem.F.plainAttrs_list PySem.F.slot_list_pop PySem.F.type_list_pop mt_popAt (pv 3) pa) a0c (a0a (b8a op_mod c8a (e6a C_law_next hr (by decide) tk (c2a 0 (pv 0) a1a)) (QE.view (q_fn (fun _ pa => pe_callB call_len (by rfl) B.len PySem.boot_len pa) c0a (a0a (a2a 3 (pv 3)) a1a)))) a1a)) a6a (fun _ _ => rfl)))
  (a4a (a9d 4 rfl j0c.nd rfl rfl (sw_true rfl rfl rfl (by decide +kernel)) (d5a (a2a 4 (pv 4))) (blkOk_by (own := [("_law_tie", 7)]) (N := ["_law_deck_here", "_law_net_here", "_law_many", "_law_points", "_law_ties", "_law_name", "_law_point", "_law_tie"]) (sc := (defScope (topS 56))) (by decide +kernel)) (fun _ _ _ _ _ => (a5a 7 (pg_name (i := 7) j0c.nd rfl (by trivial)))) (fun _ _ _ _ _ => (h3b (c4a (h6a (hu65 hr)) (p1a true) (a2a 5 (pv 5)) (q_sl (a2a 7 (pv 7)) (i2b a6a) i1b fun _ _ _ p l h => pe_slice (NT.SlR.or s4d sl_str) p l h) rfl))) (fun _ _ _ _ _ => (a2a 7 (pv 7))) c3a rfl (by decide)))))
  (a3a (x7a fuel (fun _ _ c b => ps_while (passes_of rfl) c b) (QW.qt (m1c (c4a op_gt j4a (QE.view (q_fn (fun _ pa => pe_callB call_len (by rfl) B.len PySem.boot_len pa) c0a (a0a (a2a 4 (pv 4)) a1a))) a6a (nomark _)) (p7b (c4a (op_eqD hr.units) g5a (b8a op_mod c8a (e6a C_law_next hr (by decide) tk (c2a 0 (pv 0) a1a)) a6a) a6a (nomark _))))) (a4a (g0a (q_lm 4 (fun _ pa => pe_bm PySem.F.plainAttrs_list PySem.F.slot_list_pop PySem.F.type_list_pop mt_popAt (pv 4) pa) a0c (a0a (b8a op_mod c8a (e6a C_law_next hr (by decide) tk (c2a 0 (pv 0) a1a)) (QE.view (q_fn (fun _ pa => pe_callB call_len (by rfl) B.len PySem.boot_len pa) c0a (a0a (a2a 4 (pv 4)) a1a)))) a1a)))))
  (a4a (b9a (e9a (a0a (QE.view (q_fn (fun _ pa => pe_callTy b7a (by rfl) B.tuple (by decide +kernel) pa) d3a (a0a (a2a 3 (pv 3)) a1a))) (a0a (QE.view (q_fn (fun _ pa => pe_callTy b7a (by rfl) B.tuple (by decide +kernel) pa) d3a (a0a (a2a 4 (pv 4)) a1a))) a1a)))))))))
theorem j2c : FnScope ["_law_deck_here", "_law_left", "_law_guarded", "_law_inner", "_law_right", "_law_names_here", "_law_forbids_here", "_law_loose_here", "_law_point", "_law_tie"] ["_law_deck_here", "_law_left", "_law_guarded"] (defScope (topS 61)) := by trivial
theorem j3c (B : Bt mg) (Fn : Fun K "_law_rule" "_law_rule" (topS 61) f fd) (C_law_added : Cal P w K mg base cls "_law_added" ["_law_deck_here", "_law_net_here", "_law_other", "_law_most_points", "_law_most_ties"] 2 5 5 d_law_added []) (C_law_forbids : Cal P w K mg base cls "_law_forbids" ["_law_deck_here", "_law_left"] 3 2 3 d_law_forbids []) (C_law_loose : Cal P w K mg base cls "_law_loose" ["_law_deck_here", "_law_inner"] 2 2 3 d_law_loose []) (C_law_next : Cal P w K mg base cls "_law_next" ["_law_deck_here"] 1 1 0 d_law_next []) (C_law_part : Cal P w K mg base cls "_law_part" ["_law_deck_here", "_law_net_here", "_law_many"] 2 3 5 d_law_part []) :
  FnOk P w K mg base (L2.CX P w) 4 f fd ["_law_deck_here", "_law_left", "_law_guarded"] (spD K cls 3 7 d_law_rule) :=
 b6a Fn j2c rfl rfl fun cdv A outer s H E hr tk =>
  (a3a (d2a 3 (fun _ p => ps_set (i := 3) j2c.nd rfl (by trivial) p) (e6a C_law_part hr (by decide) tk (c2a 0 (pv 0) (a0a (a2a 1 (pv 1)) (a0a (b8a op_mod c8a (e6a C_law_next hr (by decide) tk (c2a 0 (pv 0) a1a)) (b8a f5a f6a (q_fn (fun _ pa => pe_callB call_len (by rfl) B.len PySem.boot_len pa) c0a (a0a (q_ix a9a b0a (a2a 1 (pv 1)) a6a (fun _ _ => rfl)) a1a)) a6a)) a1a)))))
  (a3a (d2a 4 (fun _ p => ps_set (i := 4) j2c.nd rfl (by trivial) p) (e6a C_law_added hr (by decide) tk (c2a 0 (pv 0) (a0a (a2a 3 (pv 3)) (a0a (a2a 1 (pv 1)) (a0a (q_fn (fun _ pa => pe_callB (call_min2 rfl) (by rfl) B.min (by decide +kernel) pa) m8c (a0a a6a (a0a (b8a op_sub m0a a6a (q_fn (fun _ pa => pe_callB call_len (by rfl) B.len PySem.boot_len pa) c0a (a0a (q_ix a9a b0a (a2a 3 (pv 3)) a6a (fun _ _ => rfl)) a1a))) a1a))) (a0a (q_fn (fun _ pa => pe_callB (call_min2 rfl) (by rfl) B.min (by decide +kernel) pa) m8c (a0a a6a (a0a (b8a op_sub m0a a6a (q_fn (fun _ pa => pe_callB call_len (by rfl) B.len PySem.boot_len pa) c0a (a0a (q_ix a9a b0a (a2a 3 (pv 3)) a6a (fun _ _ => rfl)) a1a))) a1a))) a1a)))))))
  (a3a (d2a 5 (fun _ p => ps_set (i := 5) j2c.nd rfl (by trivial) p) (e9a (a0a (q_fn (fun _ pa => pe_callTy b7a (by rfl) B.tuple (by decide +kernel) pa) d3a (a0a (QN.frz (i2a (by rfl) j2c.nd (d5a (q_ix a9a b0a (a2a 3 (pv 3)) a6a (fun _ _ => rfl))) (blkOk_by (own := [("_law_point", 8)]) (N := ["_law_deck_here", "_law_left", "_law_guarded", "_law_inner", "_law_right", "_law_names_here", "_law_forbids_here", "_law_loose_here", "_law_point", "_law_tie"]) (sc := (defScope (topS 61))) (by decide +kernel)) (fun _ _ _ _ _ => (a5a 8 (pg_name (i := 8) j2c.nd rfl (by trivial)))) (fun _ _ _ _ _ => e7a) (fun _ _ _ _ _ => (q_ix a9a b0a (a2a 8 (pv 8)) a6a (fun _ _ => rfl))) c3a rfl (by decide))) a1a)) (a0a (q_fn (fun _ pa => pe_callTy b7a (by rfl) B.tuple (by decide +kernel) pa) d3a (a0a (QN.frz (i2a (by rfl) j2c.nd (d5a (q_ix a9a b0a (a2a 3 (pv 3)) a6a (fun _ _ => rfl))) (blkOk_by (own := [("_law_tie", 9)]) (N := ["_law_deck_here", "_law_left", "_law_guarded", "_law_inner", "_law_right", "_law_names_here", "_law_forbids_here", "_law_loose_here", "_law_point", "_law_tie"]) (sc := (defScope (topS 61))) (by decide +kernel)) (fun _ _ _ _ _ => (a5a 9 (pg_name (i := 9) j2c.nd rfl (by trivial)))) (fun _ _ _ _ _ => e7a) (fun _ _ _ _ _ => (q_ix a9a b0a (a2a 9 (pv 9)) a6a (fun _ _ => rfl))) c3a rfl (by decide))) a1a)) a1a))))
  (a3a (d2a 6 (fun _ p => ps_set (i := 6) j2c.nd rfl (by trivial) p) (e9a a1a))
  (a3a (q_if (d0a (a2a 2 (pv 2))) (a4a (d2a 6 (fun _ p => ps_set (i := 6) j2c.nd rfl (by trivial) p) (e6a C_law_forbids hr (by decide) tk (c2a 0 (pv 0) (a0a (a2a 1 (pv 1)) a1a))))) c5a)
  (a3a (d2a 7 (fun _ p => ps_set (i := 7) j2c.nd rfl (by trivial) p) (e9a a1a))
  (a3a (q_if (c4a (op_eqD hr.units) g5a (a2a 6 (pv 6)) (e9a a1a) (nomark _)) (a4a (d2a 7 (fun _ p => ps_set (i := 7) j2c.nd rfl (by trivial) p) (e6a C_law_loose hr (by decide) tk (c2a 0 (pv 0) (a0a (a2a 3 (pv 3)) a1a))))) c5a)
  (a4a (b9a (e9a (a0a (a2a 1 (pv 1)) (a0a (a2a 5 (pv 5)) (a0a (a2a 4 (pv 4)) (a0a (a2a 7 (pv 7)) (a0a (a2a 6 (pv 6)) a1a)))))))))))))))
theorem y1a : FnScope ["_law_rule_here", "_law_words", "_law_forbid", "_law_left", "_law_inner", "_law_right", "_law_loose_here", "_law_forbids_here", "_law_one", "_law_other", "_law_name"] ["_law_rule_here"] (defScope (topS 63)) := by trivial
theorem y2a (B : Bt mg) (Fn : Fun K "_law_rule_words" "_law_rule_words" (topS 63) f fd) (C_law_net_words : Cal P w K mg base cls "_law_net_words" ["_law_net_here"] 1 1 5 d_law_net_words []) :
  FnOk P w K mg base (L2.CX P w) 2 f fd ["_law_rule_here"] (spD K cls 1 10 d_law_rule_words) :=
 b6a Fn y1a rfl rfl fun cdv A outer s H E hr tk =>
  (a3a (y6c (fun _ _ p q => ps_asg p q) (a2a 0 (pv 0)) (i8a (b1a (a5a 3 (pg_name (i := 3) y1a.nd rfl (by trivial))) (b1a (a5a 4 (pg_name (i := 4) y1a.nd rfl (by trivial))) (b1a (a5a 5 (pg_name (i := 5) y1a.nd rfl (by trivial))) (b1a (a5a 6 (pg_name (i := 6) y1a.nd rfl (by trivial))) (b1a (a5a 7 (pg_name (i := 7) y1a.nd rfl (by trivial))) h3a))))) rfl))
  (a3a (g4a 1 (fun _ p => ps_set (i := 1) y1a.nd rfl (by trivial) p) (e3a op_cat d8a (QN.frz (e3a op_cat d8a (QN.frz (e3a op_cat d8a (QN.frz (e4a (a0a c7a (a0a c7a a1a)))) (d1a C_law_net_words hr (by decide) tk (a0a (a2a 3 (pv 3)) a1a)))) (QN.frz (e4a (a0a c7a (a0a c7a (a0a c7a (a0a c7a a1a)))))))) (QN.frz (i2a (by rfl) y1a.nd (d5a (q_ix a9a b0a (a2a 4 (pv 4)) a6a (fun _ _ => rfl))) (blkOk_by (own := [("_law_name", 10)]) (N := ["_law_rule_here", "_law_words", "_law_forbid", "_law_left", "_law_inner", "_law_right", "_law_loose_here", "_law_forbids_here", "_law_one", "_law_other", "_law_name"]) (sc := (defScope (topS 63))) (by decide +kernel)) (fun _ _ _ _ _ => (a5a 10 (pg_name (i := 10) y1a.nd rfl (by trivial)))) (fun _ _ _ _ _ => e7a) (fun _ _ _ _ _ => (q_fn (fun _ pa => pe_callTy call_str_int (by rfl) B.str (by decide +kernel) pa) h4a (a0a (a2a 10 (pv 10)) a1a))) c3a rfl (by decide)))))
  (a3a (g4a 1 (fun _ p => ps_set (i := 1) y1a.nd rfl (by trivial) p) (e3a op_cat d8a (QN.frz (e3a op_cat d8a (QN.frz (e3a op_cat d8a (QN.frz (e3a op_cat d8a (QN.frz (q6c (pv 1) (QN.frz (e4a (a0a c7a a1a))))) (QN.frz (i2a (by rfl) y1a.nd (d5a (q_ix a9a b0a (a2a 4 (pv 4)) a6a (fun _ _ => rfl))) (blkOk_by (own := [("_law_name", 10)]) (N := ["_law_rule_here", "_law_words", "_law_forbid", "_law_left", "_law_inner", "_law_right", "_law_loose_here", "_law_forbids_here", "_law_one", "_law_other", "_law_name"]) (sc := (defScope (topS 63))) (by decide +kernel)) (fun _ _ _ _ _ => (a5a 10 (pg_name (i := 10) y1a.nd rfl (by trivial)))) (fun _ _ _ _ _ => e7a) (fun _ _ _ _ _ => (q_fn (fun _ pa => pe_callTy call_str_int (by rfl) B.str (by decide +kernel) pa) h4a (a0a (a2a 10 (pv 10)) a1a))) c3a rfl (by decide))))) (QN.frz (e4a (a0a c7a (a0a c7a (a0a c7a a1a))))))) (d1a C_law_net_words hr (by decide) tk (a0a (a2a 5 (pv 5)) a1a)))) (QN.frz (e4a (a0a c7a a1a)))))
  (a3a (q_if (c4a (op_neD hr.units) l0a (a2a 6 (pv 6)) (e9a a1a) (nomark _)) (a3a (g4a 1 (fun _ p => ps_set (i := 1) y1a.nd rfl (by trivial) p) (q6c (pv 1) (QN.frz (e4a (a0a c7a (a0a c7a a1a))))))
  (a3a (h1a (d5a (a2a 6 (pv 6))) (i8a (b1a (a5a 8 (pg_name (i := 8) y1a.nd rfl (by trivial))) (b1a (a5a 9 (pg_name (i := 9) y1a.nd rfl (by trivial))) h3a)) rfl) (QB.drop [8, 9] (a4a (g4a 1 (fun _ p => ps_set (i := 1) y1a.nd rfl (by trivial) p) (q6c (pv 1) (QN.frz (e4a (a0a (q_fn (fun _ pa => pe_callTy call_str_int (by rfl) B.str (by decide +kernel) pa) h4a (a0a (a2a 8 (pv 8)) a1a)) (a0a (q_fn (fun _ pa => pe_callTy call_str_int (by rfl) B.str (by decide +kernel) pa) h4a (a0a (a2a 9 (pv 9)) a1a)) a1a)))))))) (fun _ _ _ i t b => ps_for (passes_of rfl) rfl i t b))
  (a4a (g0a (q_lm 1 (fun _ pa => pe_bm PySem.F.plainAttrs_list PySem.F.slot_list_append PySem.F.type_list_append mt_append (pv 1) pa) d9a (a0a c7a a1a)))))) c5a)
  (a3a (h1a (d5a (a2a 7 (pv 7))) (a5a 2 (pg_name (i := 2) y1a.nd rfl (by trivial))) (QB.drop [2] (a4a (g4a 1 (fun _ p => ps_set (i := 1) y1a.nd rfl (by trivial) p) (e3a op_cat d8a (QN.frz (e3a op_cat d8a (QN.frz (q6c (pv 1) (QN.frz (e4a (a0a c7a (a0a c7a a1a)))))) (d1a C_law_net_words hr (by decide) tk (a0a (a2a 2 (pv 2)) a1a)))) (QN.frz (e4a (a0a c7a a1a))))))) (fun _ _ _ i t b => ps_for (passes_of rfl) rfl i t b))
  (a4a (y3b 1 (pv 1))))))))
theorem c6c : FnScope ["row", "other", "known", "part"] ["row", "other"] (defScope (topS 23)) := by trivial
theorem c7c (B : Bt mg) (Fn : Fun K "are_among" "are_among" (topS 23) f fd)  :
  FnOk P w K mg base (L2.CX P w) 1 f fd ["row", "other"] (spD K cls 2 2 d_are_among) :=
 b6a Fn c6c rfl rfl fun cdv A outer s H E hr tk =>
  (a3a (g4a 2 (fun _ p => ps_set (i := 2) c6c.nd rfl (by trivial) p) t5d)
  (a3a (h1a (d5a (a2a 1 (pv 1))) (a5a 3 (pg_name (i := 3) c6c.nd rfl (by trivial))) (a4a (m3c 2 (fun _ _ p q => ps_dput (hu_of hr) (pv 2) q p rfl) q_bl (a2a 3 (pv 3)))) (fun _ _ _ i t b => ps_for (passes_of rfl) rfl i t b))
  (a3a (h1a (d5a (a2a 0 (pv 0))) (a5a 3 (pg_name (i := 3) c6c.nd rfl (by trivial))) (a4a (q_if (QT.view (q0a (hu_of hr) (a2a 3 (pv 3)) (a2a 2 (pv 2)))) (a4a (b9a q_bl)) c5a)) (fun _ _ _ i t b => ps_for (passes_of rfl) rfl i t b))
  (a4a (b9a q_bl)))))
theorem w2c : FnScope ["net", "other"] ["net", "other"] (defScope (topS 24)) := by trivial
theorem w3c (B : Bt mg) (Fn : Fun K "is_part" "is_part" (topS 24) f fd) (C_are_among : Cal P w K mg base cls "are_among" ["row", "other"] 1 2 2 d_are_among []) :
  FnOk P w K mg base (L2.CX P w) 2 f fd ["net", "other"] (spD K cls 2 0 d_is_part) :=
 b6a Fn w2c rfl rfl fun cdv A outer s H E hr tk =>
  (a4a (b9a (x1a (d1a C_are_among hr (by decide) tk (a0a (q_ix a9a b0a (a2a 0 (pv 0)) a6a (fun _ _ => rfl)) (a0a (q_ix a9a b0a (a2a 1 (pv 1)) a6a (fun _ _ => rfl)) a1a))) (h1b (d1a C_are_among hr (by decide) tk (a0a (q_ix a9a b0a (a2a 0 (pv 0)) a6a (fun _ _ => rfl)) (a0a (q_ix a9a b0a (a2a 1 (pv 1)) a6a (fun _ _ => rfl)) a1a)))))))
theorem c8c : FnScope ["left", "thing", "points", "ties"] ["left", "thing"] (defScope (topS 33)) := by trivial
theorem c9c (B : Bt mg) (Fn : Fun K "is_forbid" "is_forbid" (topS 33) f fd) (C_is_net : Cal P w K mg base cls "is_net" ["thing"] 4 1 0 d_is_net []) (C_is_part : Cal P w K mg base cls "is_part" ["net", "other"] 2 2 0 d_is_part []) (c_MOST_FURTHER : Cst mg "MOST_FURTHER" (.int 2)) :
  FnOk P w K mg base (L2.CX P w) 5 f fd ["left", "thing"] (spD K cls 2 2 d_is_forbid) :=
 b6a Fn c8c rfl rfl fun cdv A outer s H E hr tk =>
  (a3a (q_if (QW.qt (f3a (d4a (d0a (d1a C_is_net hr (by decide) tk (a0a (a2a 1 (pv 1)) a1a)))) (f9a (d4a (d0a (d1a C_is_part hr (by decide) tk (a0a (a2a 0 (pv 0)) (a0a (a2a 1 (pv 1)) a1a)))))))) (a4a (b9a q_bl)) c5a)
  (a3a (d2a 2 (fun _ p => ps_set (i := 2) c8c.nd rfl (by trivial) p) (b8a op_sub m0a (q_fn (fun _ pa => pe_callB call_len (by rfl) B.len PySem.boot_len pa) c0a (a0a (q_ix a9a b0a (a2a 1 (pv 1)) a6a (fun _ _ => rfl)) a1a)) (q_fn (fun _ pa => pe_callB call_len (by rfl) B.len PySem.boot_len pa) c0a (a0a (q_ix a9a b0a (a2a 0 (pv 0)) a6a (fun _ _ => rfl)) a1a))))
  (a3a (d2a 3 (fun _ p => ps_set (i := 3) c8c.nd rfl (by trivial) p) (b8a op_sub m0a (q_fn (fun _ pa => pe_callB call_len (by rfl) B.len PySem.boot_len pa) c0a (a0a (q_ix a9a b0a (a2a 1 (pv 1)) a6a (fun _ _ => rfl)) a1a)) (q_fn (fun _ pa => pe_callB call_len (by rfl) B.len PySem.boot_len pa) c0a (a0a (q_ix a9a b0a (a2a 0 (pv 0)) a6a (fun _ _ => rfl)) a1a))))
  (a4a (b9a (x1a (k6a (h9b hr.units0) i0b (a2a 2 (pv 2)) (l5a c_MOST_FURTHER fun _ => .int _) (nomark _)) (x1a (k6a (h9b hr.units0) i0b (a2a 3 (pv 3)) (l5a c_MOST_FURTHER fun _ => .int _) (nomark _)) (h1b (k6a op_gt j4a (b8a f5a f6a (a2a 2 (pv 2)) (a2a 3 (pv 3))) a6a (nomark _))))))))))
theorem m7b : FnScope ["left", "loose", "thing", "forbid"] ["left", "loose", "thing"] (defScope (topS 34)) := by trivial
theorem m8b (B : Bt mg) (Fn : Fun K "are_forbids" "are_forbids" (topS 34) f fd) (C_is_forbid : Cal P w K mg base cls "is_forbid" ["left", "thing"] 5 2 2 d_is_forbid []) (c_MOST_FORBIDS : Cst mg "MOST_FORBIDS" (.int 2)) :
  FnOk P w K mg base (L2.CX P w) 6 f fd ["left", "loose", "thing"] (spD K cls 3 1 d_are_forbids) :=
 b6a Fn m7b rfl rfl fun cdv A outer s H E hr tk =>
  (a3a (q_if (QW.qt (f3a (d4a (d0a (o6a "tuple" (by decide) (fun _ p => pe_callB call_isi (by rfl) B.isinstance (by decide +kernel) (pa_cons p (pa_cons (pe_bltn (v := .ty "tuple") (by rfl) B.tuple (show bootBuiltins "tuple" = some (.type "tuple") by decide +kernel) rfl) pa_nil))) (a2a 2 (pv 2))))) (f9a (c4a op_gt j4a (q_fn (fun _ pa => pe_callB call_len (by rfl) B.len PySem.boot_len pa) c0a (a0a (a2a 2 (pv 2)) a1a)) (l5a c_MOST_FORBIDS fun _ => .int _) (nomark _))))) (a4a (b9a q_bl)) c5a)
  (a3a (h1a (d5a (a2a 2 (pv 2))) (a5a 3 (pg_name (i := 3) m7b.nd rfl (by trivial))) (a4a (q_if (d4a (d0a (d1a C_is_forbid hr (by decide) tk (a0a (a2a 0 (pv 0)) (a0a (a2a 3 (pv 3)) a1a))))) (a4a (b9a q_bl)) c5a)) (fun _ _ _ i t b => ps_for (passes_of rfl) rfl i t b))
  (a4a (b9a (q_or (k6a (op_eqD hr.units) g5a (q_fn (fun _ pa => pe_callB call_len (by rfl) B.len PySem.boot_len pa) c0a (a0a (a2a 2 (pv 2)) a1a)) a6a (nomark _)) (h1b (k6a (op_eqD hr.units) g5a (q_fn (fun _ pa => pe_callB call_len (by rfl) B.len PySem.boot_len pa) c0a (a0a (a2a 1 (pv 1)) a1a)) a6a (nomark _))))))))
theorem d0c : FnScope ["thing", "part"] ["thing"] (defScope (topS 11)) := by trivial
theorem d1c (B : Bt mg) (Fn : Fun K "are_names" "are_names" (topS 11) f fd) (C_is_name : Cal P w K mg base cls "is_name" ["thing"] 2 1 0 d_is_name []) :
  FnOk P w K mg base (L2.CX P w) 3 f fd ["thing"] (spD K cls 1 1 d_are_names) :=
 b6a Fn d0c rfl rfl fun cdv A outer s H E hr tk =>
  (a3a (q_if (d4a (d0a (o6a "tuple" (by decide) (fun _ p => pe_callB call_isi (by rfl) B.isinstance (by decide +kernel) (pa_cons p (pa_cons (pe_bltn (v := .ty "tuple") (by rfl) B.tuple (show bootBuiltins "tuple" = some (.type "tuple") by decide +kernel) rfl) pa_nil))) (a2a 0 (pv 0))))) (a4a (b9a q_bl)) c5a)
  (a3a (h1a (d5a (a2a 0 (pv 0))) (a5a 1 (pg_name (i := 1) d0c.nd rfl (by trivial))) (a4a (q_if (d4a (d0a (d1a C_is_name hr (by decide) tk (a0a (a2a 1 (pv 1)) a1a)))) (a4a (b9a q_bl)) c5a)) (fun _ _ _ i t b => ps_for (passes_of rfl) rfl i t b))
  (a4a (b9a q_bl))))
theorem j4c : FnScope ["left", "kept", "thing", "kinds", "pair"] ["left", "kept", "thing"] (defScope (topS 32)) := by trivial
theorem j5c (B : Bt mg) (Fn : Fun K "is_loose" "is_loose" (topS 32) f fd) (C_are_names : Cal P w K mg base cls "are_names" ["thing"] 3 1 1 d_are_names []) (C_are_rising : Cal P w K mg base cls "are_rising" ["row"] 1 1 1 d_are_rising []) (C_points_of : Cal P w K mg base cls "points_of" ["net"] 1 1 3 d_points_of []) (c_MOST_LOOSE : Cst mg "MOST_LOOSE" (.int 3)) :
  FnOk P w K mg base (L2.CX P w) 4 f fd ["left", "kept", "thing"] (spD K cls 3 2 d_is_loose) :=
 b6a Fn j4c rfl rfl fun cdv A outer s H E hr tk =>
  (a3a (q_if (QW.qt (f3a (d4a (d0a (o6a "tuple" (by decide) (fun _ p => pe_callB call_isi (by rfl) B.isinstance (by decide +kernel) (pa_cons p (pa_cons (pe_bltn (v := .ty "tuple") (by rfl) B.tuple (show bootBuiltins "tuple" = some (.type "tuple") by decide +kernel) rfl) pa_nil))) (a2a 2 (pv 2))))) (f9a (c4a op_gt j4a (q_fn (fun _ pa => pe_callB call_len (by rfl) B.len PySem.boot_len pa) c0a (a0a (a2a 2 (pv 2)) a1a)) (l5a c_MOST_LOOSE fun _ => .int _) (nomark _))))) (a4a (b9a q_bl)) c5a)
  (a3a (d2a 3 (fun _ p => ps_set (i := 3) j4c.nd rfl (by trivial) p) (QN.frz (j5a C_points_of hr (by decide) tk (a0a (a2a 0 (pv 0)) a1a))))
  (a3a (h1a (d5a (a2a 2 (pv 2))) (a5a 4 (pg_name (i := 4) j4c.nd rfl (by trivial))) (a3a (q_if (QW.qt (f3a (d4a (d0a (d1a C_are_names hr (by decide) tk (a0a (a2a 4 (pv 4)) a1a)))) (f3a (c4a (op_neD hr.units) l0a (q_fn (fun _ pa => pe_callB call_len (by rfl) B.len PySem.boot_len pa) c0a (a0a (a2a 4 (pv 4)) a1a)) a6a (nomark _)) (f9a (c4a op_ge z5c (q_ix a9a b0a (a2a 4 (pv 4)) a6a (fun _ _ => rfl)) (q_ix a9a b0a (a2a 4 (pv 4)) a6a (fun _ _ => rfl)) (nomark _)))))) (a4a (b9a q_bl)) c5a)
  (a4a (q_if (QW.qt (f3a (c4a (h6a (hu65 hr)) (p1a true) (q_ix a9a b0a (a2a 4 (pv 4)) a6a (fun _ _ => rfl)) (q_ix a9a b0a (a2a 1 (pv 1)) a6a (fun _ _ => rfl)) rfl) (f3a (c4a (h6a (hu65 hr)) (p1a true) (q_ix a9a b0a (a2a 4 (pv 4)) a6a (fun _ _ => rfl)) (q_ix a9a b0a (a2a 1 (pv 1)) a6a (fun _ _ => rfl)) rfl) (f9a (c4a (op_neD hr.units) l0a (p0a (fun _ _ p k => pe_dget (hu_of hr) p k fun _ _ => rfl) (a2a 3 (pv 3)) (q_ix a9a b0a (a2a 4 (pv 4)) a6a (fun _ _ => rfl))) (p0a (fun _ _ p k => pe_dget (hu_of hr) p k fun _ _ => rfl) (a2a 3 (pv 3)) (q_ix a9a b0a (a2a 4 (pv 4)) a6a (fun _ _ => rfl))) (nomark _)))))) (a4a (b9a q_bl)) c5a))) (fun _ _ _ i t b => ps_for (passes_of rfl) rfl i t b))
  (a4a (b9a (d1a C_are_rising hr (by decide) tk (a0a (a2a 2 (pv 2)) a1a)))))))
theorem q7a : FnScope ["thing", "names"] ["thing"] (defScope (topS 29)) := by trivial
theorem q8a (B : Bt mg) (Fn : Fun K "is_pair_of_names" "is_pair_of_names" (topS 29) f fd) (C_are_names : Cal P w K mg base cls "are_names" ["thing"] 3 1 1 d_are_names []) (C_are_rising : Cal P w K mg base cls "are_rising" ["row"] 1 1 1 d_are_rising []) (C_is_tuple : Cal P w K mg base cls "is_tuple" ["thing", "many"] 1 2 0 d_is_tuple []) :
  FnOk P w K mg base (L2.CX P w) 4 f fd ["thing"] (spD K cls 1 1 d_is_pair_of_names) :=
 b6a Fn q7a rfl rfl fun cdv A outer s H E hr tk =>
  (a3a (q_if (d4a (d0a (d1a C_is_tuple hr (by decide) tk (a0a (a2a 0 (pv 0)) (a0a a6a a1a))))) (a4a (b9a q_bl)) c5a)
  (a3a (h1a (d5a (a2a 0 (pv 0))) (a5a 1 (pg_name (i := 1) q7a.nd rfl (by trivial))) (a4a (q_if (QW.qt (f3a (d4a (d0a (d1a C_are_names hr (by decide) tk (a0a (a2a 1 (pv 1)) a1a)))) (f9a (d4a (d0a (d1a C_are_rising hr (by decide) tk (a0a (a2a 1 (pv 1)) a1a))))))) (a4a (b9a q_bl)) c5a)) (fun _ _ _ i t b => ps_for (passes_of rfl) rfl i t b))
  (a4a (b9a q_bl))))
theorem j6c : FnScope ["net"] ["net"] (defScope (topS 22)) := by trivial
theorem j7c (B : Bt mg) (Fn : Fun K "is_small" "is_small" (topS 22) f fd) (c_SMALL : Cst mg "SMALL" (.int 5)) :
  FnOk P w K mg base (L2.CX P w) 1 f fd ["net"] (spD K cls 1 0 d_is_small) :=
 b6a Fn j6c rfl rfl fun cdv A outer s H E hr tk =>
  (a4a (b9a (x1a (k6a (h9b hr.units0) i0b (q_fn (fun _ pa => pe_callB call_len (by rfl) B.len PySem.boot_len pa) c0a (a0a (q_ix a9a b0a (a2a 0 (pv 0)) a6a (fun _ _ => rfl)) a1a)) (l5a c_SMALL fun _ => .int _) (nomark _)) (h1b (k6a (h9b hr.units0) i0b (q_fn (fun _ pa => pe_callB call_len (by rfl) B.len PySem.boot_len pa) c0a (a0a (q_ix a9a b0a (a2a 0 (pv 0)) a6a (fun _ _ => rfl)) a1a)) (l5a c_SMALL fun _ => .int _) (nomark _))))))
theorem j6b : FnScope ["left", "right", "names", "here", "there", "name"] ["left", "right", "names"] (defScope (topS 30)) := by trivial
theorem j7b (B : Bt mg) (Fn : Fun K "points_stand" "points_stand" (topS 30) f fd) (C_points_of : Cal P w K mg base cls "points_of" ["net"] 1 1 3 d_points_of []) :
  FnOk P w K mg base (L2.CX P w) 2 f fd ["left", "right", "names"] (spD K cls 3 3 d_points_stand) :=
 b6a Fn j6b rfl rfl fun cdv A outer s H E hr tk =>
  (a3a (d2a 3 (fun _ p => ps_set (i := 3) j6b.nd rfl (by trivial) p) (QN.frz (j5a C_points_of hr (by decide) tk (a0a (a2a 0 (pv 0)) a1a))))
  (a3a (d2a 4 (fun _ p => ps_set (i := 4) j6b.nd rfl (by trivial) p) (QN.frz (j5a C_points_of hr (by decide) tk (a0a (a2a 1 (pv 1)) a1a))))
  (a3a (h1a (d5a (a2a 2 (pv 2))) (a5a 5 (pg_name (i := 5) j6b.nd rfl (by trivial))) (a4a (q_if (QW.qt (f3a (q0a (hu_of hr) (a2a 5 (pv 5)) (a2a 3 (pv 3))) (f3a (q0a (hu_of hr) (a2a 5 (pv 5)) (a2a 4 (pv 4))) (f9a (c4a (op_neD hr.units) l0a (p0a (fun _ _ p k => pe_dget (hu_of hr) p k fun _ _ => rfl) (a2a 3 (pv 3)) (a2a 5 (pv 5))) (p0a (fun _ _ p k => pe_dget (hu_of hr) p k fun _ _ => rfl) (a2a 4 (pv 4)) (a2a 5 (pv 5))) (nomark _)))))) (a4a (b9a q_bl)) c5a)) (fun _ _ _ i t b => ps_for (passes_of rfl) rfl i t b))
  (a4a (b9a (k6a (op_eqD hr.units) g5a (QN.frz (a8d (te := tVar 3) (wi := iKeys) (pi_keys (pv 3)) a1c a6d (by rfl) j6b.nd (blkOk_by (own := [("name", 5)]) (N := ["left", "right", "names", "here", "there", "name"]) (sc := (defScope (topS 30))) (by decide +kernel)) (fun _ _ _ _ _ => (a5a 5 (pg_name (i := 5) j6b.nd rfl (by trivial)))) (fun _ _ _ _ _ => (h3b (QW.qt (m1c (q1d (hu_of hr) (a2a 5 (pv 5)) (a2a 4 (pv 4))) (p7b (c4a (h6a (hu65 hr)) (p1a true) (a2a 5 (pv 5)) (a2a 2 (pv 2)) rfl)))))) (fun _ _ _ _ _ => (a2a 5 (pv 5))) c3a rfl (by decide))) (QN.frz (e4a a1a)) (nomark _)))))))
theorem w4c : FnScope ["net", "found", "name", "kind", "begin", "end"] ["net"] (defScope (topS 21)) := by trivial
theorem w5c (B : Bt mg) (Fn : Fun K "ties_of" "ties_of" (topS 21) f fd)  :
  FnOk P w K mg base (L2.CX P w) 1 f fd ["net"] (spD K cls 1 5 d_ties_of) :=
 b6a Fn w4c rfl rfl fun cdv A outer s H E hr tk =>
  (a3a (g4a 1 (fun _ p => ps_set (i := 1) w4c.nd rfl (by trivial) p) g9c)
  (a3a (h1a (d5a (q_ix a9a b0a (a2a 0 (pv 0)) a6a (fun _ _ => rfl))) (i8a (b1a (a5a 2 (pg_name (i := 2) w4c.nd rfl (by trivial))) (b1a (a5a 3 (pg_name (i := 3) w4c.nd rfl (by trivial))) (b1a (a5a 4 (pg_name (i := 4) w4c.nd rfl (by trivial))) (b1a (a5a 5 (pg_name (i := 5) w4c.nd rfl (by trivial))) h3a)))) rfl) (a4a (m3c 1 (fun _ _ p q => ps_dput (hu_of hr) (pv 1) q p rfl) (e9a (a0a (a2a 3 (pv 3)) (a0a (a2a 4 (pv 4)) (a0a (a2a 5 (pv 5)) a1a)))) (a2a 2 (pv 2)))) (fun _ _ _ i t b => ps_for (passes_of rfl) rfl i t b))
  (a4a (y3b 1 (pv 1)))))
theorem v9b : FnScope ["left", "right", "kept", "here", "there", "name", "points", "names"] ["left", "right", "kept"] (defScope (topS 31)) := by trivial
theorem w0b (B : Bt mg) (Fn : Fun K "ties_stand" "ties_stand" (topS 31) f fd) (C_ties_of : Cal P w K mg base cls "ties_of" ["net"] 1 1 5 d_ties_of []) :
  FnOk P w K mg base (L2.CX P w) 2 f fd ["left", "right", "kept"] (spD K cls 3 5 d_ties_stand) :=
 b6a Fn v9b rfl rfl fun cdv A outer s H E hr tk =>
  (a3a (d2a 3 (fun _ p => ps_set (i := 3) v9b.nd rfl (by trivial) p) (QN.frz (j5a C_ties_of hr (by decide) tk (a0a (a2a 0 (pv 0)) a1a))))
  (a3a (d2a 4 (fun _ p => ps_set (i := 4) v9b.nd rfl (by trivial) p) (QN.frz (j5a C_ties_of hr (by decide) tk (a0a (a2a 1 (pv 1)) a1a))))
  (a3a (y6c (fun _ _ p q => ps_asg p q) (a2a 2 (pv 2)) (i8a (b1a (a5a 6 (pg_name (i := 6) v9b.nd rfl (by trivial))) (b1a (a5a 7 (pg_name (i := 7) v9b.nd rfl (by trivial))) h3a)) rfl))
  (a3a (h1a (d5a (a2a 7 (pv 7))) (a5a 5 (pg_name (i := 5) v9b.nd rfl (by trivial))) (a3a (q_if (QW.qt (f3a (q0a (hu_of hr) (a2a 5 (pv 5)) (a2a 3 (pv 3))) (f3a (q0a (hu_of hr) (a2a 5 (pv 5)) (a2a 4 (pv 4))) (f9a (c4a (op_neD hr.units) l0a (p0a (fun _ _ p k => pe_dget (hu_of hr) p k fun _ _ => rfl) (a2a 3 (pv 3)) (a2a 5 (pv 5))) (p0a (fun _ _ p k => pe_dget (hu_of hr) p k fun _ _ => rfl) (a2a 4 (pv 4)) (a2a 5 (pv 5))) (nomark _)))))) (a4a (b9a q_bl)) c5a)
  (a4a (q_if (QW.qt (f3a (c4a (h6a (hu65 hr)) (p1a true) (q_ix a9a b0a (p0a (fun _ _ p k => pe_dget (hu_of hr) p k fun _ _ => rfl) (a2a 3 (pv 3)) (a2a 5 (pv 5))) a6a (fun _ _ => rfl)) (a2a 6 (pv 6)) rfl) (f9a (c4a (h6a (hu65 hr)) (p1a true) (q_ix a9a b0a (p0a (fun _ _ p k => pe_dget (hu_of hr) p k fun _ _ => rfl) (a2a 3 (pv 3)) (a2a 5 (pv 5))) a6a (fun _ _ => rfl)) (a2a 6 (pv 6)) rfl)))) (a4a (b9a q_bl)) c5a))) (fun _ _ _ i t b => ps_for (passes_of rfl) rfl i t b))
  (a4a (b9a (k6a (op_eqD hr.units) g5a (QN.frz (a8d (te := tVar 3) (wi := iKeys) (pi_keys (pv 3)) a1c a6d (by rfl) v9b.nd (blkOk_by (own := [("name", 5)]) (N := ["left", "right", "kept", "here", "there", "name", "points", "names"]) (sc := (defScope (topS 31))) (by decide +kernel)) (fun _ _ _ _ _ => (a5a 5 (pg_name (i := 5) v9b.nd rfl (by trivial)))) (fun _ _ _ _ _ => (h3b (QW.qt (m1c (q1d (hu_of hr) (a2a 5 (pv 5)) (a2a 4 (pv 4))) (p7b (c4a (h6a (hu65 hr)) (p1a true) (a2a 5 (pv 5)) (a2a 7 (pv 7)) rfl)))))) (fun _ _ _ _ _ => (a2a 5 (pv 5))) c3a rfl (by decide))) (QN.frz (e4a a1a)) (nomark _))))))))
theorem w6c : FnScope ["thing", "left", "kept", "right", "loose", "forbids"] ["thing"] (defScope (topS 35)) := by trivial
theorem w7c (B : Bt mg) (Fn : Fun K "is_rule" "is_rule" (topS 35) f fd) (C_are_forbids : Cal P w K mg base cls "are_forbids" ["left", "loose", "thing"] 6 3 1 d_are_forbids []) (C_is_loose : Cal P w K mg base cls "is_loose" ["left", "kept", "thing"] 4 3 2 d_is_loose []) (C_is_net : Cal P w K mg base cls "is_net" ["thing"] 4 1 0 d_is_net []) (C_is_pair_of_names : Cal P w K mg base cls "is_pair_of_names" ["thing"] 4 1 1 d_is_pair_of_names []) (C_is_small : Cal P w K mg base cls "is_small" ["net"] 1 1 0 d_is_small []) (C_is_tuple : Cal P w K mg base cls "is_tuple" ["thing", "many"] 1 2 0 d_is_tuple []) (C_points_stand : Cal P w K mg base cls "points_stand" ["left", "right", "names"] 2 3 3 d_points_stand []) (C_ties_stand : Cal P w K mg base cls "ties_stand" ["left", "right", "kept"] 2 3 5 d_ties_stand []) :
  FnOk P w K mg base (L2.CX P w) 7 f fd ["thing"] (spD K cls 1 5 d_is_rule) :=
 b6a Fn w6c rfl rfl fun cdv A outer s H E hr tk =>
  (a3a (q_if (d4a (d0a (d1a C_is_tuple hr (by decide) tk (a0a (a2a 0 (pv 0)) (a0a a6a a1a))))) (a4a (b9a q_bl)) c5a)
  (a3a (y6c (fun _ _ p q => ps_asg p q) (a2a 0 (pv 0)) (i8a (b1a (a5a 1 (pg_name (i := 1) w6c.nd rfl (by trivial))) (b1a (a5a 2 (pg_name (i := 2) w6c.nd rfl (by trivial))) (b1a (a5a 3 (pg_name (i := 3) w6c.nd rfl (by trivial))) (b1a (a5a 4 (pg_name (i := 4) w6c.nd rfl (by trivial))) (b1a (a5a 5 (pg_name (i := 5) w6c.nd rfl (by trivial))) h3a))))) rfl))
  (a3a (q_if (QW.qt (f3a (d4a (d0a (d1a C_is_net hr (by decide) tk (a0a (a2a 1 (pv 1)) a1a)))) (f3a (d4a (d0a (d1a C_is_net hr (by decide) tk (a0a (a2a 3 (pv 3)) a1a)))) (f3a (d4a (d0a (d1a C_is_small hr (by decide) tk (a0a (a2a 1 (pv 1)) a1a)))) (f3a (d4a (d0a (d1a C_is_small hr (by decide) tk (a0a (a2a 3 (pv 3)) a1a)))) (f9a (c4a (op_eqD hr.units) g5a (q_fn (fun _ pa => pe_callB call_len (by rfl) B.len PySem.boot_len pa) c0a (a0a (q_ix a9a b0a (a2a 1 (pv 1)) a6a (fun _ _ => rfl)) a1a)) a6a (nomark _)))))))) (a4a (b9a q_bl)) c5a)
  (a3a (q_if (QW.qt (f3a (d4a (d0a (d1a C_is_pair_of_names hr (by decide) tk (a0a (a2a 2 (pv 2)) a1a)))) (f3a (d4a (d0a (d1a C_points_stand hr (by decide) tk (a0a (a2a 1 (pv 1)) (a0a (a2a 3 (pv 3)) (a0a (q_ix a9a b0a (a2a 2 (pv 2)) a6a (fun _ _ => rfl)) a1a)))))) (f9a (d4a (d0a (d1a C_ties_stand hr (by decide) tk (a0a (a2a 1 (pv 1)) (a0a (a2a 3 (pv 3)) (a0a (a2a 2 (pv 2)) a1a)))))))))) (a4a (b9a q_bl)) c5a)
  (a4a (b9a (x1a (d1a C_is_loose hr (by decide) tk (a0a (a2a 1 (pv 1)) (a0a (a2a 2 (pv 2)) (a0a (a2a 4 (pv 4)) a1a)))) (h1b (d1a C_are_forbids hr (by decide) tk (a0a (a2a 1 (pv 1)) (a0a (a2a 4 (pv 4)) (a0a (a2a 5 (pv 5)) a1a))))))))))))
theorem m7d : FnScope ["thing"] ["thing"] (defScope (topS 36)) := by trivial
theorem m8d (B : Bt mg) (Fn : Fun K "check" "check" (topS 36) f fd) (C_is_rule : Cal P w K mg base cls "is_rule" ["thing"] 7 1 5 d_is_rule []) (X_NoRule : Exn K mg cls "NoRule" 1) :
  FnOk P w K mg base (L2.CX P w) 8 f fd ["thing"] (spD K cls 1 0 d_check) :=
 b6a Fn m7d rfl rfl fun cdv A outer s H E hr tk =>
  (a3a (q_if (d4a (d0a (d1a C_is_rule hr (by decide) tk (a0a (a2a 0 (pv 0)) a1a)))) (a4a (z3b X_NoRule rfl tk)) c5a)
  (a4a (b9a q_bl)))
theorem q9a : FnScope ["self", "last", "found"] ["self", "last"] (defScope (inClass (topS 46) 6)) := by trivial
theorem r0a (B : Bt mg) (Fn : Fun K "read_ints" "Reader.read_ints" (inClass (topS 46) 6) f fd) (C_Reader_next_word : Mth P w K mg base cls "Reader" "next_word" ["self"] 1 1 0 d_Reader_next_word) (C_Reader_read_int : Mth P w K mg base cls "Reader" "read_int" ["self"] 3 1 2 d_Reader_read_int) (C_Reader_want : Mth P w K mg base cls "Reader" "want" ["self", "word"] 3 2 0 d_Reader_want) :
  FnOk P w K mg base (L2.CX P w) 4 f fd ["self", "last"] (spD K cls 2 1 d_Reader_read_ints) :=
 b6a Fn q9a rfl rfl fun cdv A outer s H E hr tk =>
  (a3a (g4a 2 (fun _ p => ps_set (i := 2) q9a.nd rfl (by trivial) p) (e4a a1a))
  (a3a (x7a fuel (fun _ _ c b => ps_while (passes_of rfl) c b) (c4a (op_neD hr.units) l0a (QE.view (m4a C_Reader_next_word hr (by decide) tk (a2a 0 (pv 0)))) (a2a 1 (pv 1)) (nomark _)) (a4a (g0a (q_lm 2 (fun _ pa => pe_bm PySem.F.plainAttrs_list PySem.F.slot_list_append PySem.F.type_list_append mt_append (pv 2) pa) d9a (a0a (f4a C_Reader_read_int hr (by decide) tk (pv 0)) a1a)))))
  (a3a (g0a (g7a C_Reader_want hr (by decide) tk (pv 0) (a0a (a2a 1 (pv 1)) a1a)))
  (a4a (b9a (QE.view (q_fn (fun _ pa => pe_callTy b7a (by rfl) B.tuple (by decide +kernel) pa) d3a (a0a (a2a 2 (pv 2)) a1a))))))))
theorem r1a : FnScope ["self", "points"] ["self"] (defScope (inClass (topS 46) 11)) := by trivial
theorem r2a (B : Bt mg) (Fn : Fun K "read_kept" "Reader.read_kept" (inClass (topS 46) 11) f fd) (C_Reader_read_ints : Mth P w K mg base cls "Reader" "read_ints" ["self", "last"] 4 2 1 d_Reader_read_ints) (C_Reader_want : Mth P w K mg base cls "Reader" "want" ["self", "word"] 3 2 0 d_Reader_want) (c_OPEN_SIGN : Cst mg "OPEN_SIGN" (.str "(")) (c_SHUT_SIGN : Cst mg "SHUT_SIGN" (.str ")")) :
  FnOk P w K mg base (L2.CX P w) 5 f fd ["self"] (spD K cls 1 1 d_Reader_read_kept) :=
 b6a Fn r1a rfl rfl fun cdv A outer s H E hr tk =>
  (a3a (g0a (g7a C_Reader_want hr (by decide) tk (pv 0) (a0a c7a a1a)))
  (a3a (g0a (g7a C_Reader_want hr (by decide) tk (pv 0) (a0a (l5a c_OPEN_SIGN fun _ => .str _) a1a)))
  (a3a (g0a (g7a C_Reader_want hr (by decide) tk (pv 0) (a0a c7a a1a)))
  (a3a (d2a 1 (fun _ p => ps_set (i := 1) r1a.nd rfl (by trivial) p) (g7a C_Reader_read_ints hr (by decide) tk (pv 0) (a0a c7a a1a)))
  (a4a (b9a (e9a (a0a (a2a 1 (pv 1)) (a0a (g7a C_Reader_read_ints hr (by decide) tk (pv 0) (a0a (l5a c_SHUT_SIGN fun _ => .str _) a1a)) a1a)))))))))
theorem o7a : FnScope ["self", "row", "at"] ["self"] (defScope (inClass (topS 46) 12)) := by trivial
theorem o8a (B : Bt mg) (Fn : Fun K "read_loose" "Reader.read_loose" (inClass (topS 46) 12) f fd) (C_Reader_read_ints : Mth P w K mg base cls "Reader" "read_ints" ["self", "last"] 4 2 1 d_Reader_read_ints) (C_Reader_want : Mth P w K mg base cls "Reader" "want" ["self", "word"] 3 2 0 d_Reader_want) (c_OPEN_SIGN : Cst mg "OPEN_SIGN" (.str "(")) (c_SHUT_SIGN : Cst mg "SHUT_SIGN" (.str ")")) (X_NoText : Exn K mg cls "NoText" 13) :
  FnOk P w K mg base (L2.CX P w) 5 f fd ["self"] (spD K cls 1 2 d_Reader_read_loose) :=
 b6a Fn o7a rfl rfl fun cdv A outer s H E hr tk =>
  (a3a (g0a (g7a C_Reader_want hr (by decide) tk (pv 0) (a0a c7a a1a)))
  (a3a (g0a (g7a C_Reader_want hr (by decide) tk (pv 0) (a0a (l5a c_OPEN_SIGN fun _ => .str _) a1a)))
  (a3a (d2a 1 (fun _ p => ps_set (i := 1) o7a.nd rfl (by trivial) p) (g7a C_Reader_read_ints hr (by decide) tk (pv 0) (a0a (l5a c_SHUT_SIGN fun _ => .str _) a1a)))
  (a3a (q_if (QW.qt (f3a (c4a (op_eqD hr.units) g5a (q_fn (fun _ pa => pe_callB call_len (by rfl) B.len PySem.boot_len pa) c0a (a0a (a2a 1 (pv 1)) a1a)) a6a (nomark _)) (f9a (c4a (op_eqD hr.units) g5a (b8a op_mod c8a (q_fn (fun _ pa => pe_callB call_len (by rfl) B.len PySem.boot_len pa) c0a (a0a (a2a 1 (pv 1)) a1a)) a6a) a6a (nomark _))))) (a4a (z3b X_NoText rfl tk)) c5a)
  (a4a (b9a (q_fn (fun _ pa => pe_callTy b7a (by rfl) B.tuple (by decide +kernel) pa) d3a (a0a (QN.frz (i2a (by rfl) o7a.nd (c4d (fun _ pa => pi_range3 (by rfl) B.range pa) (a0a a6a (a0a (q_fn (fun _ pa => pe_callB call_len (by rfl) B.len PySem.boot_len pa) c0a (a0a (a2a 1 (pv 1)) a1a)) (a0a a6a a1a)))) (blkOk_by (own := [("at", 2)]) (N := ["self", "row", "at"]) (sc := (defScope (inClass (topS 46) 12))) (by decide +kernel)) (fun _ _ _ _ _ => (a5a 2 (pg_name (i := 2) o7a.nd rfl (by trivial)))) (fun _ _ _ _ _ => e7a) (fun _ _ _ _ _ => (e9a (a0a (q_ix a9a b0a (a2a 1 (pv 1)) (a2a 2 (pv 2)) (fun _ _ => rfl)) (a0a (q_ix a9a b0a (a2a 1 (pv 1)) (b8a f5a f6a (a2a 2 (pv 2)) a6a) (fun _ _ => rfl)) a1a)))) c3a rfl (by decide))) a1a))))))))
theorem m7a : FnScope ["self", "word", "net"] ["self", "word"] (defScope (inClass (topS 46) 10)) := by trivial
theorem m8a (B : Bt mg) (Fn : Fun K "read_net_in" "Reader.read_net_in" (inClass (topS 46) 10) f fd) (C_Reader_read_net : Mth P w K mg base cls "Reader" "read_net" ["self"] 5 1 1 d_Reader_read_net) (C_Reader_want : Mth P w K mg base cls "Reader" "want" ["self", "word"] 3 2 0 d_Reader_want) (c_OPEN_SIGN : Cst mg "OPEN_SIGN" (.str "(")) (c_SHUT_SIGN : Cst mg "SHUT_SIGN" (.str ")")) :
  FnOk P w K mg base (L2.CX P w) 6 f fd ["self", "word"] (spD K cls 2 1 d_Reader_read_net_in) :=
 b6a Fn m7a rfl rfl fun cdv A outer s H E hr tk =>
  (a3a (g0a (g7a C_Reader_want hr (by decide) tk (pv 0) (a0a (a2a 1 (pv 1)) a1a)))
  (a3a (g0a (g7a C_Reader_want hr (by decide) tk (pv 0) (a0a (l5a c_OPEN_SIGN fun _ => .str _) a1a)))
  (a3a (d2a 2 (fun _ p => ps_set (i := 2) m7a.nd rfl (by trivial) p) (f4a C_Reader_read_net hr (by decide) tk (pv 0)))
  (a3a (g0a (g7a C_Reader_want hr (by decide) tk (pv 0) (a0a (l5a c_SHUT_SIGN fun _ => .str _) a1a)))
  (a4a (b9a (a2a 2 (pv 2))))))))
theorem r3a : FnScope ["self", "left", "kept", "right", "loose", "forbids"] ["self"] (defScope (inClass (topS 46) 13)) := by trivial
theorem r4a (B : Bt mg) (Fn : Fun K "read_rule" "Reader.read_rule" (inClass (topS 46) 13) f fd) (C_Reader_next_word : Mth P w K mg base cls "Reader" "next_word" ["self"] 1 1 0 d_Reader_next_word) (C_Reader_read_kept : Mth P w K mg base cls "Reader" "read_kept" ["self"] 5 1 1 d_Reader_read_kept) (C_Reader_read_loose : Mth P w K mg base cls "Reader" "read_loose" ["self"] 5 1 2 d_Reader_read_loose) (C_Reader_read_net_in : Mth P w K mg base cls "Reader" "read_net_in" ["self", "word"] 6 2 1 d_Reader_read_net_in) :
  FnOk P w K mg base (L2.CX P w) 7 f fd ["self"] (spD K cls 1 5 d_Reader_read_rule) :=
 b6a Fn r3a rfl rfl fun cdv A outer s H E hr tk =>
  (a3a (d2a 1 (fun _ p => ps_set (i := 1) r3a.nd rfl (by trivial) p) (g7a C_Reader_read_net_in hr (by decide) tk (pv 0) (a0a c7a a1a)))
  (a3a (d2a 2 (fun _ p => ps_set (i := 2) r3a.nd rfl (by trivial) p) (f4a C_Reader_read_kept hr (by decide) tk (pv 0)))
  (a3a (d2a 3 (fun _ p => ps_set (i := 3) r3a.nd rfl (by trivial) p) (g7a C_Reader_read_net_in hr (by decide) tk (pv 0) (a0a c7a a1a)))
  (a3a (d2a 4 (fun _ p => ps_set (i := 4) r3a.nd rfl (by trivial) p) (e9a a1a))
  (a3a (g4a 5 (fun _ p => ps_set (i := 5) r3a.nd rfl (by trivial) p) (e4a a1a))
  (a3a (q_if (c4a (op_eqD hr.units) g5a (QE.view (m4a C_Reader_next_word hr (by decide) tk (a2a 0 (pv 0)))) c7a (nomark _)) (a4a (d2a 4 (fun _ p => ps_set (i := 4) r3a.nd rfl (by trivial) p) (f4a C_Reader_read_loose hr (by decide) tk (pv 0)))) c5a)
  (a3a (x7a fuel (fun _ _ c b => ps_while (passes_of rfl) c b) (c4a (op_eqD hr.units) g5a (QE.view (m4a C_Reader_next_word hr (by decide) tk (a2a 0 (pv 0)))) c7a (nomark _)) (a4a (g0a (q_lm 5 (fun _ pa => pe_bm PySem.F.plainAttrs_list PySem.F.slot_list_append PySem.F.type_list_append mt_append (pv 5) pa) d9a (a0a (g7a C_Reader_read_net_in hr (by decide) tk (pv 0) (a0a c7a a1a)) a1a)))))
  (a4a (b9a (e9a (a0a (a2a 1 (pv 1)) (a0a (a2a 2 (pv 2)) (a0a (a2a 3 (pv 3)) (a0a (a2a 4 (pv 4)) (a0a (QE.view (q_fn (fun _ pa => pe_callTy b7a (by rfl) B.tuple (by decide +kernel) pa) d3a (a0a (a2a 5 (pv 5)) a1a))) a1a)))))))))))))))
theorem d2c : FnScope ["text", "reader", "found"] ["text"] (defScope (topS 48)) := by trivial
theorem d3c (B : Bt mg) (Fn : Fun K "read_rule" "read_rule" (topS 48) f fd) (C_Reader_init : MkC P w K mg base cls "Reader" ["self", "text"] 1 2 0 d_Reader_init) (C_Reader_is_done : Mth P w K mg base cls "Reader" "is_done" ["self"] 1 1 0 d_Reader_is_done) (C_Reader_read_rule : Mth P w K mg base cls "Reader" "read_rule" ["self"] 7 1 5 d_Reader_read_rule) (C_is_rule : Cal P w K mg base cls "is_rule" ["thing"] 7 1 5 d_is_rule []) (X_NoText : Exn K mg cls "NoText" 13) :
  FnOk P w K mg base (L2.CX P w) 8 f fd ["text"] (spD K cls 1 2 d_read_rule) :=
 b6a Fn d2c rfl rfl fun cdv A outer s H E hr tk =>
  (a3a (g4a 1 (fun _ p => ps_set (i := 1) d2c.nd rfl (by trivial) p) (b3e C_Reader_init hr (by decide) tk (a0a (a2a 0 (pv 0)) a1a)))
  (a3a (d2a 2 (fun _ p => ps_set (i := 2) d2c.nd rfl (by trivial) p) (f4a C_Reader_read_rule hr (by decide) tk (pv 1)))
  (a3a (q_if (QW.qt (f3a (d4a (d0a (QE.view (m4a C_Reader_is_done hr (by decide) tk (a2a 1 (pv 1)))))) (f9a (d4a (d0a (d1a C_is_rule hr (by decide) tk (a0a (a2a 2 (pv 2)) a1a))))))) (a4a (z3b X_NoText rfl tk)) c5a)
  (a4a (b9a (a2a 2 (pv 2)))))))
theorem m9b : FnScope ["words"] ["words"] (defScope (topS 42)) := by trivial
theorem n0b (B : Bt mg) (Fn : Fun K "in_brackets" "in_brackets" (topS 42) f fd) (c_OPEN_SIGN : Cst mg "OPEN_SIGN" (.str "(")) (c_SHUT_SIGN : Cst mg "SHUT_SIGN" (.str ")")) :
  FnOk P w K mg base (L2.CX P w) 1 f fd ["words"] (spD K cls 1 0 d_in_brackets) :=
 b6a Fn m9b rfl rfl fun cdv A outer s H E hr tk =>
  (a4a (y5c (e3a op_cat d8a (QN.frz (e3a op_cat d8a (QN.frz (e4a (a0a (l5a c_OPEN_SIGN fun _ => .str _) a1a))) (a2a 0 (pv 0)))) (QN.frz (e4a (a0a (l5a c_SHUT_SIGN fun _ => .str _) a1a))))))
theorem w1b : FnScope ["rule", "points", "ties", "found", "forbid", "left", "kept", "right", "loose", "forbids", "pairs", "one", "other", "name"] ["rule"] (defScope (topS 43)) := by trivial
theorem w2b (B : Bt mg) (Fn : Fun K "rule_words" "rule_words" (topS 43) f fd) (C_in_brackets : Cal P w K mg base cls "in_brackets" ["words"] 1 1 0 d_in_brackets []) (C_net_words : Cal P w K mg base cls "net_words" ["net"] 1 1 5 d_net_words []) :
  FnOk P w K mg base (L2.CX P w) 2 f fd ["rule"] (spD K cls 1 13 d_rule_words) :=
 b6a Fn w1b rfl rfl fun cdv A outer s H E hr tk =>
  (a3a (y6c (fun _ _ p q => ps_asg p q) (a2a 0 (pv 0)) (i8a (b1a (a5a 5 (pg_name (i := 5) w1b.nd rfl (by trivial))) (b1a (a5a 6 (pg_name (i := 6) w1b.nd rfl (by trivial))) (b1a (a5a 7 (pg_name (i := 7) w1b.nd rfl (by trivial))) (b1a (a5a 8 (pg_name (i := 8) w1b.nd rfl (by trivial))) (b1a (a5a 9 (pg_name (i := 9) w1b.nd rfl (by trivial))) h3a))))) rfl))
  (a3a (q4b 1 rfl w1b.nd rfl rfl (sw_true rfl rfl rfl (by decide +kernel)) (d5a (q_ix a9a b0a (a2a 6 (pv 6)) a6a (fun _ _ => rfl))) (blkOk_by (own := [("name", 13)]) (N := ["rule", "points", "ties", "found", "forbid", "left", "kept", "right", "loose", "forbids", "pairs", "one", "other", "name"]) (sc := (defScope (topS 43))) (by decide +kernel)) (fun _ _ _ _ _ => (a5a 13 (pg_name (i := 13) w1b.nd rfl (by trivial)))) (fun _ _ _ _ _ => e7a) (fun _ _ _ _ _ => (q_fn (fun _ pa => pe_callTy call_str_int (by rfl) B.str (by decide +kernel) pa) h4a (a0a (a2a 13 (pv 13)) a1a))) c3a rfl (by decide))
  (a3a (q4b 2 rfl w1b.nd rfl rfl (sw_true rfl rfl rfl (by decide +kernel)) (d5a (q_ix a9a b0a (a2a 6 (pv 6)) a6a (fun _ _ => rfl))) (blkOk_by (own := [("name", 13)]) (N := ["rule", "points", "ties", "found", "forbid", "left", "kept", "right", "loose", "forbids", "pairs", "one", "other", "name"]) (sc := (defScope (topS 43))) (by decide +kernel)) (fun _ _ _ _ _ => (a5a 13 (pg_name (i := 13) w1b.nd rfl (by trivial)))) (fun _ _ _ _ _ => e7a) (fun _ _ _ _ _ => (q_fn (fun _ pa => pe_callTy call_str_int (by rfl) B.str (by decide +kernel) pa) h4a (a0a (a2a 13 (pv 13)) a1a))) c3a rfl (by decide))
  (a3a (d2a 3 (fun _ p => ps_set (i := 3) w1b.nd rfl (by trivial) p) (QN.frz (e3a op_cat d8a (QN.frz (e4a (a0a c7a a1a))) (QN.frz (j5a C_in_brackets hr (by decide) tk (a0a (d1a C_net_words hr (by decide) tk (a0a (a2a 5 (pv 5)) a1a)) a1a))))))
  (a3a (d2a 3 (fun _ p => ps_set (i := 3) w1b.nd rfl (by trivial) p) (QN.frz (e3a op_cat d8a (QN.frz (e3a op_cat d8a (a2a 3 (pv 3)) (QN.frz (e4a (a0a c7a a1a))))) (QN.frz (j5a C_in_brackets hr (by decide) tk (a0a (QN.frz (e3a op_cat d8a (QN.frz (e3a op_cat d8a (QN.frz (e3a op_cat d8a (QN.frz (e4a (a0a c7a a1a))) (a2a 1 (pv 1)))) (QN.frz (e4a (a0a c7a a1a))))) (a2a 2 (pv 2)))) a1a))))))
  (a3a (d2a 3 (fun _ p => ps_set (i := 3) w1b.nd rfl (by trivial) p) (QN.frz (e3a op_cat d8a (QN.frz (e3a op_cat d8a (a2a 3 (pv 3)) (QN.frz (e4a (a0a c7a a1a))))) (QN.frz (j5a C_in_brackets hr (by decide) tk (a0a (d1a C_net_words hr (by decide) tk (a0a (a2a 7 (pv 7)) a1a)) a1a))))))
  (a3a (q_if (c4a op_gt j4a (q_fn (fun _ pa => pe_callB call_len (by rfl) B.len PySem.boot_len pa) c0a (a0a (a2a 8 (pv 8)) a1a)) a6a (nomark _)) (a3a (d2a 10 (fun _ p => ps_set (i := 10) w1b.nd rfl (by trivial) p) (QN.frz (e4a a1a)))
  (a3a (h1a (d5a (a2a 8 (pv 8))) (i8a (b1a (a5a 11 (pg_name (i := 11) w1b.nd rfl (by trivial))) (b1a (a5a 12 (pg_name (i := 12) w1b.nd rfl (by trivial))) h3a)) rfl) (QB.drop [11, 12] (a4a (d2a 10 (fun _ p => ps_set (i := 10) w1b.nd rfl (by trivial) p) (QN.frz (e3a op_cat d8a (a2a 10 (pv 10)) (QN.frz (e4a (a0a (q_fn (fun _ pa => pe_callTy call_str_int (by rfl) B.str (by decide +kernel) pa) h4a (a0a (a2a 11 (pv 11)) a1a)) (a0a (q_fn (fun _ pa => pe_callTy call_str_int (by rfl) B.str (by decide +kernel) pa) h4a (a0a (a2a 12 (pv 12)) a1a)) a1a))))))))) (fun _ _ _ i t b => ps_for (passes_of rfl) rfl i t b))
  (a4a (d2a 3 (fun _ p => ps_set (i := 3) w1b.nd rfl (by trivial) p) (QN.frz (e3a op_cat d8a (QN.frz (e3a op_cat d8a (a2a 3 (pv 3)) (QN.frz (e4a (a0a c7a a1a))))) (QN.frz (j5a C_in_brackets hr (by decide) tk (a0a (a2a 10 (pv 10)) a1a))))))))) c5a)
  (a3a (h1a (d5a (a2a 9 (pv 9))) (a5a 4 (pg_name (i := 4) w1b.nd rfl (by trivial))) (QB.drop [4] (a4a (d2a 3 (fun _ p => ps_set (i := 3) w1b.nd rfl (by trivial) p) (QN.frz (e3a op_cat d8a (QN.frz (e3a op_cat d8a (a2a 3 (pv 3)) (QN.frz (e4a (a0a c7a a1a))))) (QN.frz (j5a C_in_brackets hr (by decide) tk (a0a (d1a C_net_words hr (by decide) tk (a0a (a2a 4 (pv 4)) a1a)) a1a)))))))) (fun _ _ _ i t b => ps_for (passes_of rfl) rfl i t b))
  (a4a (b9a (a2a 3 (pv 3))))))))))))
theorem d4c : FnScope ["rule"] ["rule"] (defScope (topS 45)) := by trivial
theorem d5c (B : Bt mg) (Fn : Fun K "rule_text" "rule_text" (topS 45) f fd) (C_rule_words : Cal P w K mg base cls "rule_words" ["rule"] 2 1 13 d_rule_words []) :
  FnOk P w K mg base (L2.CX P w) 3 f fd ["rule"] (spD K cls 1 0 d_rule_text) :=
 b6a Fn d4c rfl rfl fun cdv A outer s H E hr tk =>
  (a4a (b9a (r1c (fun _ _ p q => pe_join p q) c7a (d1a C_rule_words hr (by decide) tk (a0a (a2a 0 (pv 0)) a1a)))))
theorem y3a : FnScope ["_law_rule_here", "_law_text", "_law_found"] ["_law_rule_here"] (defScope (topS 69)) := by trivial
theorem y4a (B : Bt mg) (Fn : Fun K "_law_rule_right" "_law_rule_right" (topS 69) f fd) (C_law_alike : Cal P w K mg base cls "_law_alike" ["_law_found", "_law_due"] 9 2 1 d_law_alike []) (C_law_rule_words : Cal P w K mg base cls "_law_rule_words" ["_law_rule_here"] 2 1 10 d_law_rule_words []) (C_check : Cal P w K mg base cls "check" ["thing"] 8 1 0 d_check []) (C_read_rule : Cal P w K mg base cls "read_rule" ["text"] 8 1 2 d_read_rule []) (C_rule_text : Cal P w K mg base cls "rule_text" ["rule"] 3 1 0 d_rule_text []) :
  FnOk P w K mg base (L2.CX P w) 10 f fd ["_law_rule_here"] (spD K cls 1 2 d_law_rule_right) :=
 b6a Fn y3a rfl rfl fun cdv A outer s H E hr tk =>
  (a3a (d2a 1 (fun _ p => ps_set (i := 1) y3a.nd rfl (by trivial) p) (r1c (fun _ _ p q => pe_join p q) c7a (QN.frz (j5a C_law_rule_words hr (by decide) tk (a0a (a2a 0 (pv 0)) a1a)))))
  (a3a (d2a 2 (fun _ p => ps_set (i := 2) y3a.nd rfl (by trivial) p) (d1a C_rule_text hr (by decide) tk (a0a (a2a 0 (pv 0)) a1a)))
  (a3a (q_if (QW.qt (f3a (d4a (d0a (o6a "str" (by decide) (fun _ p => pe_callB call_isi (by rfl) B.isinstance (by decide +kernel) (pa_cons p (pa_cons (pe_bltn (v := .ty "str") (by rfl) B.str (show bootBuiltins "str" = some (.type "str") by decide +kernel) rfl) pa_nil))) (a2a 2 (pv 2))))) (f3a (c4a (op_neD hr.units) l0a (a2a 2 (pv 2)) (a2a 1 (pv 1)) (nomark _)) (f9a (d4a (d0a (d1a C_law_alike hr (by decide) tk (a0a (d1a C_read_rule hr (by decide) tk (a0a (a2a 1 (pv 1)) a1a)) (a0a (a2a 0 (pv 0)) a1a))))))))) (a4a (b9a q_bl)) c5a)
  (a4a (b9a (x1a (k6a a9e b0e (d1a C_check hr (by decide) tk (a0a (d1a C_read_rule hr (by decide) tk (a0a (a2a 1 (pv 1)) a1a)) a1a)) q_bl (nomark _)) (h1b (k6a (op_eqD hr.units) g5a (d1a C_rule_text hr (by decide) tk (a0a (d1a C_read_rule hr (by decide) tk (a0a (a2a 1 (pv 1)) a1a)) a1a)) (a2a 1 (pv 1)) (nomark _)))))))))
theorem w3b : FnScope ["_law_net_here", "_law_kinds_here", "_law_step", "_law_points", "_law_name", "_law_kind", "_law_begin", "_law_end"] ["_law_net_here", "_law_kinds_here", "_law_step"] (defScope (topS 66)) := by trivial
theorem w4b (B : Bt mg) (Fn : Fun K "_law_turned" "_law_turned" (topS 66) f fd)  :
  FnOk P w K mg base (L2.CX P w) 1 f fd ["_law_net_here", "_law_kinds_here", "_law_step"] (spD K cls 3 5 d_law_turned) :=
 b6a Fn w3b rfl rfl fun cdv A outer s H E hr tk =>
  (a3a (d2a 3 (fun _ p => ps_set (i := 3) w3b.nd rfl (by trivial) p) (q_fn (fun _ pa => pe_callTy b7a (by rfl) B.tuple (by decide +kernel) pa) d3a (a0a (QN.frz (i2a (by rfl) w3b.nd (d5a (q_ix a9a b0a (a2a 0 (pv 0)) a6a (fun _ _ => rfl))) (blkOk_by (own := [("_law_name", 4), ("_law_kind", 5)]) (N := ["_law_net_here", "_law_kinds_here", "_law_step", "_law_points", "_law_name", "_law_kind", "_law_begin", "_law_end"]) (sc := (defScope (topS 66))) (by decide +kernel)) (fun _ _ _ _ _ => (i8a (b1a (a5a 4 (pg_name (i := 4) w3b.nd rfl (by trivial))) (b1a (a5a 5 (pg_name (i := 5) w3b.nd rfl (by trivial))) h3a)) rfl)) (fun _ _ _ _ _ => e7a) (fun _ _ _ _ _ => (e9a (a0a (b8a f0a f1a (a2a 4 (pv 4)) (a2a 2 (pv 2))) (a0a (p0a (fun _ _ p k => pe_dget (hu_of hr) p k fun _ _ => rfl) (a2a 1 (pv 1)) (a2a 5 (pv 5))) a1a)))) (h2c (k1a c3a (k1a c3a h1c))) rfl (by decide))) a1a)))
  (a4a (b9a (e9a (a0a (a2a 3 (pv 3)) (a0a (q_fn (fun _ pa => pe_callTy b7a (by rfl) B.tuple (by decide +kernel) pa) d3a (a0a (QN.frz (i2a (by rfl) w3b.nd (d5a (q_ix a9a b0a (a2a 0 (pv 0)) a6a (fun _ _ => rfl))) (blkOk_by (own := [("_law_name", 4), ("_law_kind", 5), ("_law_begin", 6), ("_law_end", 7)]) (N := ["_law_net_here", "_law_kinds_here", "_law_step", "_law_points", "_law_name", "_law_kind", "_law_begin", "_law_end"]) (sc := (defScope (topS 66))) (by decide +kernel)) (fun _ _ _ _ _ => (i8a (b1a (a5a 4 (pg_name (i := 4) w3b.nd rfl (by trivial))) (b1a (a5a 5 (pg_name (i := 5) w3b.nd rfl (by trivial))) (b1a (a5a 6 (pg_name (i := 6) w3b.nd rfl (by trivial))) (b1a (a5a 7 (pg_name (i := 7) w3b.nd rfl (by trivial))) h3a)))) rfl)) (fun _ _ _ _ _ => e7a) (fun _ _ _ _ _ => (e9a (a0a (b8a f0a f1a (a2a 4 (pv 4)) (a2a 2 (pv 2))) (a0a (p0a (fun _ _ p k => pe_dget (hu_of hr) p k fun _ _ => rfl) (a2a 1 (pv 1)) (a2a 5 (pv 5))) (a0a (b8a f0a f1a (a2a 6 (pv 6)) (a2a 2 (pv 2))) (a0a (b8a f0a f1a (a2a 7 (pv 7)) (a2a 2 (pv 2))) a1a)))))) (h2c (k1a c3a (k1a c3a (k1a c3a (k1a c3a h1c))))) rfl (by decide))) a1a)) a1a))))))
theorem w1a : FnScope ["_law_rule_here", "_law_kinds_here", "_law_step", "_law_names_here", "_law_pairs", "_law_more", "_law_left", "_law_inner", "_law_right", "_law_loose_here", "_law_forbids_here", "_law_one", "_law_other", "_law_forbid", "_law_name"] ["_law_rule_here", "_law_kinds_here", "_law_step"] (defScope (topS 67)) := by trivial
theorem w2a (B : Bt mg) (Fn : Fun K "_law_turned_rule" "_law_turned_rule" (topS 67) f fd) (C_law_turned : Cal P w K mg base cls "_law_turned" ["_law_net_here", "_law_kinds_here", "_law_step"] 1 3 5 d_law_turned []) :
  FnOk P w K mg base (L2.CX P w) 2 f fd ["_law_rule_here", "_law_kinds_here", "_law_step"] (spD K cls 3 12 d_law_turned_rule) :=
 b6a Fn w1a rfl rfl fun cdv A outer s H E hr tk =>
  (a3a (y6c (fun _ _ p q => ps_asg p q) (a2a 0 (pv 0)) (i8a (b1a (a5a 6 (pg_name (i := 6) w1a.nd rfl (by trivial))) (b1a (a5a 7 (pg_name (i := 7) w1a.nd rfl (by trivial))) (b1a (a5a 8 (pg_name (i := 8) w1a.nd rfl (by trivial))) (b1a (a5a 9 (pg_name (i := 9) w1a.nd rfl (by trivial))) (b1a (a5a 10 (pg_name (i := 10) w1a.nd rfl (by trivial))) h3a))))) rfl))
  (a3a (d2a 3 (fun _ p => ps_set (i := 3) w1a.nd rfl (by trivial) p) (e9a (a0a (q_fn (fun _ pa => pe_callTy b7a (by rfl) B.tuple (by decide +kernel) pa) d3a (a0a (QN.frz (i2a (by rfl) w1a.nd (d5a (q_ix a9a b0a (a2a 7 (pv 7)) a6a (fun _ _ => rfl))) (blkOk_by (own := [("_law_name", 14)]) (N := ["_law_rule_here", "_law_kinds_here", "_law_step", "_law_names_here", "_law_pairs", "_law_more", "_law_left", "_law_inner", "_law_right", "_law_loose_here", "_law_forbids_here", "_law_one", "_law_other", "_law_forbid", "_law_name"]) (sc := (defScope (topS 67))) (by decide +kernel)) (fun _ _ _ _ _ => (a5a 14 (pg_name (i := 14) w1a.nd rfl (by trivial)))) (fun _ _ _ _ _ => e7a) (fun _ _ _ _ _ => (b8a f0a f1a (a2a 14 (pv 14)) (a2a 2 (pv 2)))) c3a rfl (by decide))) a1a)) (a0a (q_fn (fun _ pa => pe_callTy b7a (by rfl) B.tuple (by decide +kernel) pa) d3a (a0a (QN.frz (i2a (by rfl) w1a.nd (d5a (q_ix a9a b0a (a2a 7 (pv 7)) a6a (fun _ _ => rfl))) (blkOk_by (own := [("_law_name", 14)]) (N := ["_law_rule_here", "_law_kinds_here", "_law_step", "_law_names_here", "_law_pairs", "_law_more", "_law_left", "_law_inner", "_law_right", "_law_loose_here", "_law_forbids_here", "_law_one", "_law_other", "_law_forbid", "_law_name"]) (sc := (defScope (topS 67))) (by decide +kernel)) (fun _ _ _ _ _ => (a5a 14 (pg_name (i := 14) w1a.nd rfl (by trivial)))) (fun _ _ _ _ _ => e7a) (fun _ _ _ _ _ => (b8a f0a f1a (a2a 14 (pv 14)) (a2a 2 (pv 2)))) c3a rfl (by decide))) a1a)) a1a))))
  (a3a (d2a 4 (fun _ p => ps_set (i := 4) w1a.nd rfl (by trivial) p) (q_fn (fun _ pa => pe_callTy b7a (by rfl) B.tuple (by decide +kernel) pa) d3a (a0a (QN.frz (i2a (by rfl) w1a.nd (d5a (a2a 9 (pv 9))) (blkOk_by (own := [("_law_one", 11), ("_law_other", 12)]) (N := ["_law_rule_here", "_law_kinds_here", "_law_step", "_law_names_here", "_law_pairs", "_law_more", "_law_left", "_law_inner", "_law_right", "_law_loose_here", "_law_forbids_here", "_law_one", "_law_other", "_law_forbid", "_law_name"]) (sc := (defScope (topS 67))) (by decide +kernel)) (fun _ _ _ _ _ => (i8a (b1a (a5a 11 (pg_name (i := 11) w1a.nd rfl (by trivial))) (b1a (a5a 12 (pg_name (i := 12) w1a.nd rfl (by trivial))) h3a)) rfl)) (fun _ _ _ _ _ => e7a) (fun _ _ _ _ _ => (e9a (a0a (b8a f0a f1a (a2a 11 (pv 11)) (a2a 2 (pv 2))) (a0a (b8a f0a f1a (a2a 12 (pv 12)) (a2a 2 (pv 2))) a1a)))) (h2c (k1a c3a (k1a c3a h1c))) rfl (by decide))) a1a)))
  (a3a (d2a 5 (fun _ p => ps_set (i := 5) w1a.nd rfl (by trivial) p) (q_fn (fun _ pa => pe_callTy b7a (by rfl) B.tuple (by decide +kernel) pa) d3a (a0a (QN.frz (i2a (by rfl) w1a.nd (d5a (a2a 10 (pv 10))) (blkOk_by (own := [("_law_forbid", 13)]) (N := ["_law_rule_here", "_law_kinds_here", "_law_step", "_law_names_here", "_law_pairs", "_law_more", "_law_left", "_law_inner", "_law_right", "_law_loose_here", "_law_forbids_here", "_law_one", "_law_other", "_law_forbid", "_law_name"]) (sc := (defScope (topS 67))) (by decide +kernel)) (fun _ _ _ _ _ => (a5a 13 (pg_name (i := 13) w1a.nd rfl (by trivial)))) (fun _ _ _ _ _ => e7a) (fun _ _ _ _ _ => (d1a C_law_turned hr (by decide) takes0 (a0a (a2a 13 (pv 13)) (a0a (a2a 1 (pv 1)) (a0a (a2a 2 (pv 2)) a1a))))) c3a rfl (by decide))) a1a)))
  (a4a (b9a (e9a (a0a (d1a C_law_turned hr (by decide) tk (a0a (a2a 6 (pv 6)) (a0a (a2a 1 (pv 1)) (a0a (a2a 2 (pv 2)) a1a)))) (a0a (a2a 3 (pv 3)) (a0a (d1a C_law_turned hr (by decide) tk (a0a (a2a 8 (pv 8)) (a0a (a2a 1 (pv 1)) (a0a (a2a 2 (pv 2)) a1a)))) (a0a (a2a 4 (pv 4)) (a0a (a2a 5 (pv 5)) a1a))))))))))))
theorem b8e : FnScope ["_law_script", "_law_deck_here", "_law_k", "_law_many", "_law_last", "_law_left", "_law_rule_here", "_law_kinds_here", "_law_step"] ["_law_script"] (defScope (topS 71)) := by trivial
theorem b9e (B : Bt mg) (Fn : Fun K "law" "law" (topS 71) f fd) (C_law_alike : Cal P w K mg base cls "_law_alike" ["_law_found", "_law_due"] 9 2 1 d_law_alike []) (C_law_deck : Cal P w K mg base cls "_law_deck" ["_law_script", "_law_many"] 2 2 6 d_law_deck []) (C_law_great : Cal P w K mg base cls "_law_great" ["_law_points", "_law_ties", "_law_first"] 1 3 3 d_law_great []) (C_law_kinds : Cal P w K mg base cls "_law_kinds" ["_law_deck_here"] 2 1 3 d_law_kinds []) (C_law_net : Cal P w K mg base cls "_law_net" ["_law_deck_here", "_law_most_points", "_law_most_ties", "_law_far"] 3 4 5 d_law_net []) (C_law_net_right : Cal P w K mg base cls "_law_net_right" ["_law_net_here"] 10 1 2 d_law_net_right []) (C_law_next : Cal P w K mg base cls "_law_next" ["_law_deck_here"] 1 1 0 d_law_next []) (C_law_rule : Cal P w K mg base cls "_law_rule" ["_law_deck_here", "_law_left", "_law_guarded"] 4 3 7 d_law_rule []) (C_law_rule_right : Cal P w K mg base cls "_law_rule_right" ["_law_rule_here"] 10 1 2 d_law_rule_right []) (C_law_turned : Cal P w K mg base cls "_law_turned" ["_law_net_here", "_law_kinds_here", "_law_step"] 1 3 5 d_law_turned []) (C_law_turned_rule : Cal P w K mg base cls "_law_turned_rule" ["_law_rule_here", "_law_kinds_here", "_law_step"] 2 3 12 d_law_turned_rule []) (C_net_text : Cal P w K mg base cls "net_text" ["net"] 2 1 0 d_net_text []) (C_read_net : Cal P w K mg base cls "read_net" ["text"] 6 1 2 d_read_net []) :
  FnOk P w K mg base (L2.CX P w) 11 f fd ["_law_script"] (spD K cls 1 8 d_law) :=
 b6a Fn b8e rfl rfl fun cdv A outer s H E hr tk =>
  (a3a (g4a 1 (fun _ p => ps_set (i := 1) b8e.nd rfl (by trivial) p) (j5a C_law_deck hr (by decide) tk (a0a (a2a 0 (pv 0)) (a0a a6a a1a))))
  (a3a (h1a (h5a (fun _ pa => pi_range1 (by rfl) B.range pa) (a0a a6a a1a)) (a5a 2 (pg_name (i := 2) b8e.nd rfl (by trivial))) (QB.drop [2, 5, 6, 7, 8] (a3a (d2a 5 (fun _ p => ps_set (i := 5) b8e.nd rfl (by trivial) p) (e6a C_law_net hr (by decide) tk (c2a 1 (pv 1) (a0a a6a (a0a a6a (a0a (b8a op_mod c8a (e6a C_law_next hr (by decide) tk (c2a 1 (pv 1) a1a)) a6a) a1a))))))
  (a3a (d2a 6 (fun _ p => ps_set (i := 6) b8e.nd rfl (by trivial) p) (e6a C_law_rule hr (by decide) tk (c2a 1 (pv 1) (a0a (a2a 5 (pv 5)) (a0a (k6a op_gt j4a (a2a 2 (pv 2)) a6a (nomark _)) a1a)))))
  (a3a (d2a 7 (fun _ p => ps_set (i := 7) b8e.nd rfl (by trivial) p) (QN.frz (h4c C_law_kinds hr (by decide) tk (c2a 1 (pv 1) a1a))))
  (a3a (d2a 8 (fun _ p => ps_set (i := 8) b8e.nd rfl (by trivial) p) (q_ix a9a b0a (QN.frz (e4a (a0a a6a (a0a a6a (a0a a6a a1a))))) (b8a op_mod c8a (e6a C_law_next hr (by decide) tk (c2a 1 (pv 1) a1a)) a6a) (fun _ _ => rfl)))
  (a3a (q_if (d4a (d0a (d1a C_law_net_right hr (by decide) tk (a0a (d1a C_law_turned hr (by decide) tk (a0a (e6a C_law_net hr (by decide) tk (c2a 1 (pv 1) (a0a a6a (a0a a6a (a0a a6a a1a))))) (a0a (a2a 7 (pv 7)) (a0a (a2a 8 (pv 8)) a1a)))) a1a)))) (a4a (b9a q_bl)) c5a)
  (a4a (q_if (d4a (d0a (d1a C_law_rule_right hr (by decide) tk (a0a (d1a C_law_turned_rule hr (by decide) tk (a0a (a2a 6 (pv 6)) (a0a (a2a 7 (pv 7)) (a0a (a2a 8 (pv 8)) a1a)))) a1a)))) (a4a (b9a q_bl)) c5a)))))))) (fun _ _ _ i t b => ps_for (passes_of rfl) rfl i t b))
  (a3a (d2a 3 (fun _ p => ps_set (i := 3) b8e.nd rfl (by trivial) p) (b8a op_sub m0a a6a (b8a f0a f1a (b8a op_mod c8a (e6a C_law_next hr (by decide) tk (c2a 1 (pv 1) a1a)) a6a) (b8a op_mod c8a (e6a C_law_next hr (by decide) tk (c2a 1 (pv 1) a1a)) a6a))))
  (a3a (q_if (d4a (d0a (d1a C_law_net_right hr (by decide) tk (a0a (d1a C_law_great hr (by decide) tk (a0a (a2a 3 (pv 3)) (a0a (b8a op_sub m0a a6a (b8a op_mod c8a (e6a C_law_next hr (by decide) tk (c2a 1 (pv 1) a1a)) a6a)) (a0a (b8a f0a f1a (e6a C_law_next hr (by decide) tk (c2a 1 (pv 1) a1a)) a6a) a1a)))) a1a)))) (a4a (b9a q_bl)) c5a)
  (a3a (d2a 4 (fun _ p => ps_set (i := 4) b8e.nd rfl (by trivial) p) (e9a (a0a (e9a (a0a (e9a (a0a a6a (a0a c7a a1a))) a1a)) (a0a (e9a (a0a (e9a (a0a a6a (a0a c7a (a0a a6a (a0a a6a a1a))))) a1a)) a1a))))
  (a4a (b9a (x1a (k6a (op_eqD hr.units) g5a (d1a C_net_text hr (by decide) tk (a0a (e9a (a0a (e9a a1a) (a0a (e9a a1a) a1a))) a1a)) c7a (nomark _)) (x1a (d1a C_law_alike hr (by decide) tk (a0a (d1a C_read_net hr (by decide) tk (a0a c7a a1a)) (a0a (e9a (a0a (e9a a1a) (a0a (e9a a1a) a1a))) a1a))) (h1b (d1a C_law_net_right hr (by decide) tk (a0a (a2a 4 (pv 4)) a1a))))))))))))
end Lk87
set_option Elab.async false
set_option linter.all false
set_option maxRecDepth 100000
set_option maxHeartbeats 4000000
namespace NT.Pure
open PySem L2 NT NT.Den
local macro_rules | `(tactic| walk_at "ev") => `(tactic| simp (maxSteps := 100000000) only [f8b, f9b, v4a, g0b, q9c, r0c, v3b, g1b, v4b, o2a, v5a, o3a, v6a, v2b, f6b, f7b, f0b, l7d, f1b, f2b, u4b, u5b, u6b, u7b, u8b, f3b, u9b, f4b, v0b, f5b, v1b, u2b, e9b, u3b, q7c, p3c, l1d, l2d, p1c, l3d, k4a, j7a, l4d, e7b, u1b, e8b, o8c, e6b, z5b, n0c, q6b, i5b, q7b, a6b, i3a, n1c, q8b, n2c, q9b, s4a, b2a, a7b, i6b, k1d, r0b, r1b, r2b, n3c, r3b, a8b, n4c, r4b, r5b, tupO, lstO, r6b, n5c, n4b, n5b, n6c, n7c, r7b, n8c, r8b, r9b, n9c, s0b, s5a, k2d, o0c, o1c, a9b, s6a, b0b, k2a, i7b, b1b, o2c, i8b, b2b, s1b, b3b, b4b, o3c, b5b, b6b, s7a, s2b, s8a, m1a, s3b, z6b, a3d, k3d, b7b, s4b, s9a, n6a, n7a, t0a, t1a, t2a, b8b, b9b, t3a, c0b, s5b, t4a, s6b, c1b, s7b, s8b, c2b, s9b, c3b, t5a, c4b, t0b, c5b, t1b, t2b, t6a, c6b, c7b, t7a, t8a, n8a, c8b, t9a, c9b, d0b, d1b, t3b, d2b, d3b, n9a, o0a, d4b, o5c, d5b, d6b, d7b, d8b, t4b, t5b, i9b, t6b, n6b, o6c, u0a, z8b, x6a, d9b, q1a, g1a, t7b, j0b, t8b, t9b, u1a, u2a, u3a, e0b, l1a, m2a, e1b, e2b, k4d, e3b, u4a, u5a, e4b, u6a, f7a, e0a, c6a, o7c, u0b, u7a, u8a, u9a, e5b, k5d, k6d, k7d, k8d, z3a, z9b, u5c, k9d, o9c,
 h3e, j6e, l8e, n3e, h5e, i0e, k4e, h0e, i5e, l5e, j9e, n5e, n6e, Nat.reduceAdd, Nat.reduceLeDiff, Nat.reduceEqDiff, Int.reduceLT, Int.reduceLE, Int.reduceAdd, Int.reduceSub, Int.reduceNeg, Int.reduceBEq, p6c, p7c, p8c, p9c, q0c, q1c, q2c, q3c, q4c, Int.reduceToNat, decide_true, decide_false, decide_eq_true_eq, if_true, if_false, ite_true, ite_false, reduceIte, n4e, k2e, m2e, l6e, m6e, m7e, Bool.or_true, Bool.true_or, Bool.not_true, Bool.not_false, eq_self, n7e, and_true, true_and, beq_self_eq_true, Option.map_some, Option.bind_some, *])
local macro_rules | `(tactic| simp! [$xs,*]) => `(tactic| simp (maxSteps := 100000000) only [f8b, f9b, v4a, g0b, q9c, r0c, v3b, g1b, v4b, o2a, v5a, o3a, v6a, v2b, f6b, f7b, f0b, l7d, f1b, f2b, u4b, u5b, u6b, u7b, u8b, f3b, u9b, f4b, v0b, f5b, v1b, u2b, e9b, u3b, q7c, p3c, l1d, l2d, p1c, l3d, k4a, j7a, l4d, e7b, u1b, e8b, o8c, e6b, z5b, n0c, q6b, i5b, q7b, a6b, i3a, n1c, q8b, n2c, q9b, s4a, b2a, a7b, i6b, k1d, r0b, r1b, r2b, n3c, r3b, a8b, n4c, r4b, r5b, tupO, lstO, r6b, n5c, n4b, n5b, n6c, n7c, r7b, n8c, r8b, r9b, n9c, s0b, s5a, k2d, o0c, o1c, a9b, s6a, b0b, k2a, i7b, b1b, o2c, i8b, b2b, s1b, b3b, b4b, o3c, b5b, b6b, s7a, s2b, s8a, m1a, s3b, z6b, a3d, k3d, b7b, s4b, s9a, n6a, n7a, t0a, t1a, t2a, b8b, b9b, t3a, c0b, s5b, t4a, s6b, c1b, s7b, s8b, c2b, s9b, c3b, t5a, c4b, t0b, c5b, t1b, t2b, t6a, c6b, c7b, t7a, t8a, n8a, c8b, t9a, c9b, d0b, d1b, t3b, d2b, d3b, n9a, o0a, d4b, o5c, d5b, d6b, d7b, d8b, t4b, t5b, i9b, t6b, n6b, o6c, u0a, z8b, x6a, d9b, q1a, g1a, t7b, j0b, t8b, t9b, u1a, u2a, u3a, e0b, l1a, m2a, e1b, e2b, k4d, e3b, u4a, u5a, e4b, u6a, f7a, e0a, c6a, o7c, u0b, u7a, u8a, u9a, e5b, k5d, k6d, k7d, k8d, z3a, z9b, u5c, k9d, o9c,
 h3e, j6e, l8e, n3e, h5e, i0e, k4e, h0e, i5e, l5e, j9e, n5e, n6e, Nat.reduceAdd, Nat.reduceLeDiff, Nat.reduceEqDiff, Int.reduceLT, Int.reduceLE, Int.reduceAdd, Int.reduceSub, Int.reduceNeg, Int.reduceBEq, p6c, p7c, p8c, p9c, q0c, q1c, q2c, q3c, q4c, Int.reduceToNat, decide_true, decide_false, decide_eq_true_eq, if_true, if_false, ite_true, ite_false, reduceIte, n4e, k2e, m2e, l6e, m6e, m7e, Bool.or_true, Bool.true_or, Bool.not_true, Bool.not_false, eq_self, n7e, and_true, true_and, beq_self_eq_true, Option.map_some, Option.bind_some, $xs,*])
def isKindS (x : Str) : Bool := decide (1 ≤ x.length) && (decide (x.length ≤ 8) && x.cps.toList.all fun c => decide (c ∈ ("abcdefghijklmnopqrstuvwxyz" : Str).cps.toList))
theorem w0d {x : Str} : opIsi "str" (.str x) = some (.bl true) := rfl
theorem l6a {ds : List D} : opIsi "tuple" (.tup ds) = some (.bl true) := rfl
theorem inS {c : Nat} {z : Str} : opIn true (.str ⟨⟨[c]⟩⟩) (.str z) = some (.bl (!decide (c ∈ z.cps.toList))) := rfl
theorem f8a {o : Option Sl} (h : isFree o = true) : notBor o = true := by
 cases o with
 | none => cases h
 | some s => cases s <;> first | rfl | cases h
theorem g2b {i : Nat} {b : MS} : ∀ {items : List D} {ρ : List Sl}, isFree ρ[i]? = true → (∀ d ∈ items, b (ρ.set i (.val d)) = .nx (ρ.set i (.val d))) → ∃ s, isFree (some s) = true ∧ loop (gN i) b items ρ = .nx (ρ.set i s)
  | [], ρ, hb, h => by
    cases q : ρ[i]? with
    | none => rw [q] at hb; cases hb
    | some s =>
      rw [q] at hb
      exact ⟨s, hb, by rw [j6a q]; rfl⟩
  | d :: ds, ρ, hb, h => by
    have hlt : i < ρ.length := by
      cases q : ρ[i]? with
      | none => rw [q] at hb; cases hb
      | some s => exact (List.getElem?_eq_some_iff.mp q).1
    obtain ⟨s, h1, h2⟩ := g2b (i := i) (b := b) (items := ds) (ρ := ρ.set i (.val d)) (by rw [i1e hlt]; rfl) (fun x hx => by rw [l2e]; exact h x (h2e _ hx))
    refine ⟨s, h1, ?_⟩
    rw [e1a, a3d, f8a hb, z6b, m1a]
    show nxt (b (ρ.set i (.val d))) (k := _) = _
    rw [h d h1e, i3a]
    show loop (gN i) b ds _ = _
    rw [h2, l2e]
abbrev P2 := Int × Str
abbrev T4 := Int × Str × Int × Int
def ptD (p : P2) : D := .tup [.int p.1, .str p.2]
def tieD (t : T4) : D := .tup [.int t.1, .str t.2.1, .int t.2.2.1, .int t.2.2.2]
def netD (ps : List P2) (ts : List T4) : D := .tup [.tup (ps.map ptD), .tup (ts.map tieD)]
def nameOk (i : Int) : Prop := 0 ≤ i ∧ i ≤ 1000000
theorem m9d {i j : Int} (h : (-(2 ^ 62) ≤ i ∧ i < 2 ^ 62) ∧ -(2 ^ 62) ≤ j ∧ j < 2 ^ 62) : ∃ items, rng2 [.int i, .int j] = some items ∧ ∀ d ∈ items, ∃ k : Int, d = .int k ∧ i ≤ k ∧ k < j := by
 refine ⟨_, if_pos (by omega), fun d hd => ?_⟩
 obtain ⟨k, hk, e⟩ := List.mem_map.mp hd
 subst e
 rw [o0e] at hk
 exact ⟨_, rfl, by omega, by omega⟩
theorem w1d {i j : Int} (h : (-(2 ^ 62) ≤ i ∧ i < 2 ^ 62) ∧ -(2 ^ 62) ≤ j ∧ j < 2 ^ 62) : rng2 [.int i, .int j] = some ((List.range (j - i).toNat).map fun k => D.int (i + (k : Nat))) := if_pos (by omega)
def kn : D → Bool
 | .scr _ => false | .dT _ => false | .exn _ => false | .raw _ => false | .obj _ _ => false | .hole => false | .exo _ => false | .fnv _ => false | _ => true
def isIntD : D → Bool
 | .int _ => true
 | _ => false
theorem c9d {d : D} (h : kn d = true) : d_is_int [.val d] = .rt (.bl (isIntD d)) [.val d] := by
 cases d <;> first | (cases h; done) | rfl
def isNameD : D → Bool
 | .int i => decide (0 ≤ i) && decide (i ≤ 1000000)
 | _ => false
theorem j1a {d : D} (h : kn d = true) : d_is_name [.val d] = .rt (.bl (isNameD d)) [.val d] := by
  cases d with
  | int i =>
    have e : d_is_int [Sl.val (.int i)] = .rt (.bl true) [Sl.val (.int i)] := c9d rfl
    unfold d_is_name isNameD
    cases h1 : decide (0 ≤ i) <;> walk_at "ev"
  | scr _ => cases h
  | dT _ => cases h
  | exn _ => cases h
  | raw _ => cases h
  | obj _ _ => cases h
  | hole => cases h
  | exo _ => cases h
  | fnv _ => cases h
  | _ => rfl
def isKindD : D → Bool
 | .str x => isKindS x
 | _ => false
def signOk : D → Bool
 | .str ⟨⟨[c]⟩⟩ => decide (c ∈ ("abcdefghijklmnopqrstuvwxyz" : Str).cps.toList)
 | _ => true
theorem y5a {d : D} (h : kn d = true) (hs : ∀ x, d = .str x → x.length ≤ 100000) : ∃ ρ', d_is_kind [.val d, .no] = .rt (.bl (isKindD d)) ρ' := by
  cases d with
  | str x =>
    have hx := hs x rfl
    clear hs
    have h0 := @w0d x
    unfold d_is_kind isKindD isKindS
    by_cases h1 : x.length < 1
    · have h2 : (x.length : Int) < 1 := by omega
      have h3 : ¬ 1 ≤ x.length := by omega
      refine ⟨[.val (.str x), .no], ?_⟩
      walk_at "ev"
    · by_cases h2 : (8 : Int) < x.length
      · have h4 : ¬ (x.length : Int) < 1 := by omega
        have h3 : ¬ x.length ≤ 8 := by omega
        refine ⟨[.val (.str x), .no], ?_⟩
        walk_at "ev"
      · have h4 : ¬ (x.length : Int) < 1 := by omega
        have h3 : x.length ≤ 8 := by omega
        have h5 : 1 ≤ x.length := by omega
        have lk := j1b (i := 1) (b := sIf (tVal (eBin (opIn true) (eVar 1) (eC (.str "abcdefghijklmnopqrstuvwxyz")))) (sRet (eC (.bl false))) sSkip) (P := signOk) (items := signs x) (ρ := [.val (.str x), .no]) rfl
          (fun d hd hp => ?_) (fun d hd hp => ?_)
        · have ea : (signs x).all signOk = x.cps.toList.all fun c => decide (c ∈ ("abcdefghijklmnopqrstuvwxyz" : Str).cps.toList) := by
            unfold signs
            rw [k7e]
            rfl
          rw [ea] at lk
          cases hq : (x.cps.toList.all fun c => decide (c ∈ ("abcdefghijklmnopqrstuvwxyz" : Str).cps.toList)) with
          | true =>
            obtain ⟨s, _, h6⟩ := lk.1 hq
            clear lk
            refine ⟨[.val (.str x), s], ?_⟩
            walk_at "ev"
          | false =>
            obtain ⟨ρ', h6⟩ := lk.2 hq
            clear lk
            refine ⟨ρ', ?_⟩
            walk_at "ev"
        · unfold signs at hd
          obtain ⟨k, hk, e⟩ := List.mem_map.mp hd
          subst e
          have hp : decide (k ∈ ("abcdefghijklmnopqrstuvwxyz" : Str).cps.toList) = true := hp
          have h9 := @inS k "abcdefghijklmnopqrstuvwxyz"
          rw [hp] at h9
          clear hd hk hp
          walk_at "ev"
        · unfold signs at hd
          obtain ⟨k, hk, e⟩ := List.mem_map.mp hd
          subst e
          have hp : decide (k ∈ ("abcdefghijklmnopqrstuvwxyz" : Str).cps.toList) = false := hp
          have h9 := @inS k "abcdefghijklmnopqrstuvwxyz"
          rw [hp] at h9
          clear hd hk hp
          refine ⟨[.val (.str x), .val (.str ⟨#[k]⟩)], ?_⟩
          walk_at "ev"
  | scr _ => cases h
  | dT _ => cases h
  | exn _ => cases h
  | raw _ => cases h
  | obj _ _ => cases h
  | hole => cases h
  | exo _ => cases h
  | fnv _ => cases h
  | _ => exact ⟨_, rfl⟩
structure Good (ps : List P2) (ts : List T4) : Prop where
 np : ps.length ≤ 400
 nt : ts.length ≤ 600
 pk : ∀ p ∈ ps, nameOk p.1 ∧ isKindS p.2 = true
 tk : ∀ t ∈ ts, nameOk t.1 ∧ isKindS t.2.1 = true ∧ (∃ p ∈ ps, p.1 = t.2.2.1) ∧ ∃ p ∈ ps, p.1 = t.2.2.2
 pr : (ps.map (·.1)).Pairwise (· < ·)
 tr : (ts.map (·.1)).Pairwise (· < ·)
theorem y6a {ds : List D} {n : Int} (h : (ds.length : Int) = n) : d_is_tuple [.val (.tup ds), .val (.int n)] = .rt (.bl true) [.val (.tup ds), .val (.int n)] := by
 subst h
 have h0 := @l6a ds
 have h1 := @z3a ds.length ds.length
 rw [beq_self_eq_true] at h1
 unfold d_is_tuple
 walk_at "ev"
theorem w3a {i : Int} (h : nameOk i) : d_is_name [.val (.int i)] = .rt (.bl true) [.val (.int i)] := by
 rw [j1a rfl]
 show O.rt (.bl (decide (0 ≤ i) && decide (i ≤ 1000000))) _ = _
 rw [decide_eq_true h.1, decide_eq_true h.2]
 rfl
theorem w5b {x : Str} (h : isKindS x = true) : x.length ≤ 100000 := by
 unfold isKindS at h
 simp only [h6e, decide_eq_true_eq] at h
 omega
theorem d6c {x : Str} (h : isKindS x = true) : ∃ ρ', d_is_kind [.val (.str x), .no] = .rt (.bl true) ρ' := by
 obtain ⟨ρ', e⟩ := y5a (d := .str x) rfl (fun y q => by cases q; exact w5b h)
 refine ⟨ρ', ?_⟩
 rw [e]
 show O.rt (.bl (isKindS x)) _ = _
 rw [h]
theorem z5a {xs : List Int} (hl : xs.length ≤ 100000) (h : xs.Pairwise (· < ·)) : ∃ ρ', d_are_rising [.val (.lst (xs.map .int)), .no] = .rt (.bl true) ρ' := by
 obtain ⟨items, h1, h2⟩ := m9d (i := 1) (j := ((xs.map D.int).length : Int)) (by rw [g8e]; omega)
 obtain ⟨s, _, h3⟩ := g2b (i := 1) (b := sIf (tVal (eBin opLe (eBin opIx (eVar 0) (eVar 1)) (eBin opIx (eVar 0) (eBin opSub (eVar 1) (eC (.int 1)))))) (sRet (eC (.bl false))) sSkip) (items := items) (ρ := [.val (.lst (xs.map .int)), .no]) rfl (fun d hd => by
  obtain ⟨k, e, k1, k2⟩ := h2 d hd
  subst e
  rw [g8e] at k2
  have a1 : k.toNat < xs.length := by omega
  have a2 : (k - 1).toNat < xs.length := by omega
  have q1 : atI (xs.map D.int) k = some (.int xs[k.toNat]) := i9a (by omega) (by rw [i3e, h7e a1]; rfl)
  have q2 : atI (xs.map D.int) (k - 1) = some (.int xs[(k - 1).toNat]) := i9a (by omega) (by rw [i3e, h7e a2]; rfl)
  have q3 : ¬ xs[k.toNat] ≤ xs[(k - 1).toNat] := by
   have := List.pairwise_iff_getElem.mp h (k - 1).toNat k.toNat a2 a1 (by omega)
   omega
  clear h1 h2 hd k1 k2 h hl
  walk_at "ev")
 clear h2
 refine z2a ?_
 unfold d_are_rising
 walk_at "ev"
theorem k5a {α : Type} {i : Nat} {ρ : List Sl} {xs : List α} {f : α → D} {g : α → Int} (hf : ∀ x, ∃ ds, f x = .tup (.int (g x) :: ds)) (hi : isFree ρ[i]? = true) (hl : xs.length ≤ 100000) : compL (gN i) (mpure true) (eBin opIx (eVar i) (eC (.int 0))) [i] (xs.map f) [] ρ = .ok ((xs.map g).map .int) ρ := by
 obtain ⟨s, hs⟩ : ∃ s, ρ[i]? = some s := by
  cases q : ρ[i]? with
  | none => rw [q] at hi; cases hi
  | some s => exact ⟨s, rfl⟩
 have hlt : i < ρ.length := (List.getElem?_eq_some_iff.mp hs).1
 rw [o1a (f := fun d => match d with | .tup (x :: _) => x | _ => .non) hi (by rw [g8e]; exact by simpa using hl) fun d hd => ?_]
 ·rw [i0e, i6e, i6e]
  congr 1
  refine List.map_congr_left fun x _ => ?_
  obtain ⟨ds, e⟩ := hf x
  show (match f x with | .tup (x :: _) => x | _ => .non) = D.int (g x)
  rw [e]
 ·obtain ⟨x, _, e⟩ := List.mem_map.mp hd
  obtain ⟨ds, e2⟩ := hf x
  rw [← e, e2, l2e]
  have h1 : (ρ.set i (.val (.tup (.int (g x) :: ds))))[i]? = some (.val (.tup (.int (g x) :: ds))) := i1e hlt
  clear e e2 hd hs hf hi hl
  walk_at "ev"
theorem d7c {ps : List P2} (np : ps.length ≤ 400) (pk : ∀ p ∈ ps, nameOk p.1 ∧ isKindS p.2 = true) (pr : (ps.map (·.1)).Pairwise (· < ·)) : ∃ ρ', d_are_points [.val (.tup (ps.map ptD)), .no] = .rt (.bl true) ρ' := by
 have h0 := @l6a (ps.map ptD)
 have h1 : ¬ (400 : Int) < (ps.map ptD).length := by rw [g8e]; omega
 obtain ⟨s, hs, h3⟩ := g2b (i := 1) (b := (sIf (mOr (mNot (tVal (eCall 2 0 d_is_tuple [] (aCons (eVar 1) (aCons (eC (.int 2)) aNil))))) (mOr (mNot (tVal (eCall 1 0 d_is_name [] (aCons (eBin opIx (eVar 1) (eC (.int 0))) aNil)))) (mNot (tVal (eCall 1 1 d_is_kind [] (aCons (eBin opIx (eVar 1) (eC (.int 1))) aNil)))))) (sRet (eC (.bl false))) sSkip)) (items := ps.map ptD) (ρ := [.val (.tup (ps.map ptD)), .no]) rfl (fun d hd => by
  obtain ⟨p, hp, e⟩ := List.mem_map.mp hd
  subst e
  have a1 := y6a (ds := [.int p.1, .str p.2]) (n := 2) rfl
  have a2 := w3a (pk p hp).1
  obtain ⟨ρ', a3⟩ := d6c (pk p hp).2
  unfold ptD
  clear h0 h1 hd pr pk
  generalize List.map _ ps = zz
  walk_at "ev")
 obtain ⟨ρ', h4⟩ := z5a (xs := ps.map (·.1)) (by rw [g8e]; omega) pr
 have h5 := k5a (i := 1) (ρ := [.val (.tup (ps.map ptD)), s]) (xs := ps) (f := ptD) (g := (·.1)) (fun x => ⟨_, rfl⟩) hs (by omega)
 refine z2a ?_
 clear pk pr
 unfold d_are_points
 walk_at "ev"
theorem d0d {kvs : List (Key × D)} {k : Key} {v : D} (h : ∀ kv ∈ kvs, kv.1 ≠ k) : putD kvs k v = kvs ++ [(k, v)] := by
 unfold putD
 rw [if_neg]
 rw [n1e]
 rintro ⟨x, hx, e⟩
 exact h x hx (of_decide_eq_true e)
def ptsK (ps : List P2) : List (Key × D) := ps.map fun p => (.inl p.1, .str p.2)
theorem k8a {net : D} : ∀ {qs ps : List P2} {s t : Sl}, isFree (some s) = true → isFree (some t) = true → ps.length + qs.length ≤ 400 → ((ps ++ qs).map (·.1)).Pairwise (· < ·) → ∃ s' t', loop (gT (gsCons (gN 2) (gsCons (gN 3) gsNil))) (sPutAt isDct 1 opPutD (eVar 2) (eVar 3)) (qs.map ptD) [.val net, .own (.dK (ptsK ps)), s, t] = .nx [.val net, .own (.dK (ptsK (ps ++ qs))), s', t']
  | [], ps, s, t, _, _, _, _ => ⟨s, t, by rw [h5e]; rfl⟩
  | q :: qs, ps, s, t, hs, ht, hl, hr => by
    have hn : ∀ kv ∈ ptsK ps, kv.1 ≠ .inl q.1 := fun kv hkv e => by
      obtain ⟨p, hp, e2⟩ := List.mem_map.mp hkv
      rw [← e2] at e
      have e3 : p.1 = q.1 := Sum.inl.inj e
      rw [i4e, h3e, List.pairwise_append] at hr
      have := hr.2.2 p.1 (List.mem_map.mpr ⟨p, hp, rfl⟩) q.1 h1e
      omega
    have hp : opPutD (.dK (ptsK ps)) (.int q.1) (.str q.2) = some (.dK (ptsK (ps ++ [q]))) := by
      show (if (ptsK ps).length ≤ 100000 then some (D.dK (putD (ptsK ps) (.inl q.1) (.str q.2))) else none) = _
      rw [if_pos (by unfold ptsK; rw [g8e]; rw [h0e] at hl; omega), d0d hn]
      unfold ptsK
      rw [i4e]
      rfl
    obtain ⟨s', t', ih⟩ := k8a (net := net) (qs := qs) (ps := ps ++ [q]) (s := .val (.int q.1)) (t := .val (.str q.2)) rfl rfl (by rw [h0e] at hl; rw [g9e, h8e]; omega) (by rw [h4e]; exact hr)
    refine ⟨s', t', ?_⟩
    rw [h4e] at ih
    have hs := f8a hs
    have ht := f8a ht
    clear hr hn hl
    have hq : ptD q = .tup [.int q.1, .str q.2] := id rfl
    have e4 : [q] ++ qs = q :: qs := rfl
    rw [e4] at ih
    clear e4
    rw [h3e, e1a]
    walk_at "ev"
theorem l7a {ps : List P2} {ts : List T4} (np : ps.length ≤ 400) (pr : (ps.map (·.1)).Pairwise (· < ·)) : ∃ ρ', d_points_of [.val (netD ps ts), .no, .no, .no] = .rtN (.dK (ptsK ps)) ρ' := by
 obtain ⟨s, t, h⟩ := k8a (net := netD ps ts) (qs := ps) (ps := []) (s := .no) (t := .no) rfl rfl (by simpa using np) pr
 have h1 : ptsK [] = [] := rfl
 rw [h1, i0e] at h
 refine h5c ?_
 unfold d_points_of
 unfold netD at h ⊢
 clear pr
 walk_at "ev"
theorem r2c {ps : List P2} {i : Int} (h : ∃ p ∈ ps, p.1 = i) : opInD true (.int i) (.dK (ptsK ps)) = some (.bl false) := by
 show (some (lookD (ptsK ps) (.inl i))).map _ = _
 have : (lookD (ptsK ps) (.inl i)).isSome = true := by
  obtain ⟨p, hp, e⟩ := h
  unfold lookD
  rw [l7e, List.find?_isSome]
  exact ⟨(.inl p.1, .str p.2), List.mem_map.mpr ⟨p, hp, rfl⟩, by rw [e]; simp⟩
 show some (D.bl (if true then !(lookD (ptsK ps) (.inl i)).isSome else (lookD (ptsK ps) (.inl i)).isSome)) = _
 rw [this]
 rfl
theorem w8c {ps : List P2} {ts : List T4} (g : Good ps ts) : ∃ ρ', d_are_ties [.val (.tup (ts.map tieD)), .val (.dK (ptsK ps)), .no] = .rt (.bl true) ρ' := by
 have h0 := @l6a (ts.map tieD)
 have h1 : ¬ (600 : Int) < (ts.map tieD).length := by rw [g8e]; have := g.nt; omega
 obtain ⟨s, hs, h3⟩ := g2b (i := 2) (b := (sSeq (sIf (mOr (mNot (tVal (eCall 2 0 d_is_tuple [] (aCons (eVar 2) (aCons (eC (.int 4)) aNil))))) (mOr (mNot (tVal (eCall 1 0 d_is_name [] (aCons (eBin opIx (eVar 2) (eC (.int 0))) aNil)))) (mNot (tVal (eCall 1 1 d_is_kind [] (aCons (eBin opIx (eVar 2) (eC (.int 1))) aNil)))))) (sRet (eC (.bl false))) sSkip)
  (sIf (mOr (mNot (tVal (eCall 1 0 d_is_name [] (aCons (eBin opIx (eVar 2) (eC (.int 2))) aNil)))) (mOr (mNot (tVal (eCall 1 0 d_is_name [] (aCons (eBin opIx (eVar 2) (eC (.int 3))) aNil)))) (mOr (tVal (eBin (opInD true) (eBin opIx (eVar 2) (eC (.int 2))) (eVar 1))) (tVal (eBin (opInD true) (eBin opIx (eVar 2) (eC (.int 3))) (eVar 1)))))) (sRet (eC (.bl false))) sSkip))) (items := ts.map tieD) (ρ := [.val (.tup (ts.map tieD)), .val (.dK (ptsK ps)), .no]) rfl (fun d hd => by
  obtain ⟨t, ht, e⟩ := List.mem_map.mp hd
  subst e
  obtain ⟨k1, k2, k3, k4⟩ := g.tk t ht
  have a1 := y6a (ds := [.int t.1, .str t.2.1, .int t.2.2.1, .int t.2.2.2]) (n := 4) rfl
  have a2 := w3a k1
  obtain ⟨ρ', a3⟩ := d6c k2
  have a4 := r2c k3
  have a5 := r2c k4
  have a6 := w3a (i := t.2.2.1) (by obtain ⟨p, hp, e⟩ := k3; rw [← e]; exact (g.pk p hp).1)
  have a7 := w3a (i := t.2.2.2) (by obtain ⟨p, hp, e⟩ := k4; rw [← e]; exact (g.pk p hp).1)
  unfold tieD
  clear h0 h1 hd g k1 k2 k3 k4
  generalize List.map _ ts = zz
  walk_at "ev")
 obtain ⟨ρ', h4⟩ := z5a (xs := ts.map (·.1)) (by rw [g8e]; have := g.nt; omega) g.tr
 have h5 := k5a (i := 2) (ρ := [.val (.tup (ts.map tieD)), .val (.dK (ptsK ps)), s]) (xs := ts) (f := tieD) (g := (·.1)) (fun x => ⟨_, rfl⟩) hs (by have := g.nt; omega)
 refine z2a ?_
 clear g
 unfold d_are_ties
 walk_at "ev"
theorem n0d {ps : List P2} {ts : List T4} (g : Good ps ts) : ∃ ρ', d_is_net [.val (netD ps ts)] = .rt (.bl true) ρ' := by
 obtain ⟨ρ1, h1⟩ := w8c g
 obtain ⟨ρ2, h2⟩ := l7a (ts := ts) g.np g.pr
 obtain ⟨ρ3, h3⟩ := d7c g.np g.pk g.pr
 have h4 := y6a (ds := [.tup (ps.map ptD), .tup (ts.map tieD)]) (n := 2) rfl
 refine z2a ?_
 clear g
 unfold d_is_net
 unfold netD at *
 walk_at "ev"
mutual
def kd : D → Bool
 | .str x => decide (x.length ≤ 100000)
 | .tup ds => decide (ds.length ≤ 100000) && kdL ds
 | .lst ds => kdL ds
 | .scr _ => false
 | .dT _ => false
 | .exn _ => false
 | .raw _ => false
 | .obj _ _ => false
 | .hole => false
 | .exo _ => false
 | .fnv _ => false
 | _ => true
def kdL : List D → Bool
 | [] => true
 | d :: ds => kd d && kdL ds
end
theorem g2a {d : D} (h : kd d = true) : kn d = true := by
 cases d <;> first | rfl | (unfold kd at h; cases h)
theorem q7d {d : D} (h : kd d = true) : ∀ x, d = .str x → x.length ≤ 100000 := fun x e => by
 subst e
 unfold kd at h
 exact of_decide_eq_true h
theorem f2a : ∀ {ds : List D}, kdL ds = true → ∀ d ∈ ds, kd d = true
  | [], _, d, h => by cases h
  | e :: ds, h, d, hd => by
    unfold kdL at h
    rw [h6e] at h
    rcases List.mem_cons.mp hd with q | q
    · rw [q]; exact h.1
    · exact f2a h.2 d q
theorem q8d : ∀ {ds : List D}, (∀ d ∈ ds, kd d = true) → kdL ds = true
  | [], _ => by unfold kdL; rfl
  | e :: ds, h => by
    unfold kdL
    rw [h e h1e, q8d fun d hd => h d (h2e _ hd)]
    rfl
theorem p2a {ds : List D} (h : kd (.tup ds) = true) : kdL ds = true := by
 rw [kd, h6e] at h
 exact h.2
theorem c0e {ds : List D} (h : kd (.tup ds) = true) : ds.length ≤ 100000 := by
 rw [kd, h6e] at h
 exact of_decide_eq_true h.1
def adjB (f : D → D → Bool) : List D → Bool
 | a :: b :: r => !f b a && adjB f (b :: r)
 | _ => true
theorem n1d {n : Nat} (h : n ≤ 100000) : rng2 [.int 1, .int (n : Int)] = some ((n9e 0 (n - 1)).map fun k => D.int (1 + (k : Nat))) := by
 rw [w1d (by omega), List.range_eq_range', show ((n : Int) - 1).toNat = n - 1 by omega]
theorem w4a {row : D} {ds : List D} {f : D → D → Bool} (hrow : row = .lst ds ∨ row = .tup ds) (hl : ds.length ≤ 100000) (hf : ∀ a ∈ ds, ∀ b ∈ ds, opLe a b = some (.bl (f a b))) : ∃ ρ', d_are_rising [.val row, .no] = .rt (.bl (adjB f ds)) ρ' := by
  have e1 : opLen [row] = some (.int ds.length) := by rcases hrow with h | h <;> rw [h] <;> rfl
  have e2 := n1d hl
  have e3 : ∀ i, opIx row (.int i) = atI ds i := fun i => by rcases hrow with h | h <;> rw [h] <;> rfl
  obtain ⟨I, hI⟩ : ∃ I : List Nat → List Sl → Prop, I = fun xs ρ => ∃ j s, xs = n9e j (ds.length - 1 - j) ∧ isFree (some s) = true ∧ ρ = [.val row, s] ∧ adjB f ds = adjB f (ds.drop j) := ⟨_, rfl⟩
  refine e8a ?_
  unfold d_are_rising
  walk_at "ev"
  refine v2a I ?_ ?_ ?_
  · rw [hI]
    exact ⟨0, .no, rfl, rfl, rfl, by rw [n0e]⟩
  · intro x xs ρ h
    rw [hI] at h
    obtain ⟨j, s, hx, hs, rfl, ha⟩ := h
    have hn : 0 < ds.length - 1 - j := by
      cases q : ds.length - 1 - j with
      | zero => rw [q] at hx; cases hx
      | succ n => omega
    rw [show ds.length - 1 - j = (ds.length - 1 - (j + 1)) + 1 by omega, List.range'_succ] at hx
    injection hx with hx1 hx2
    subst hx1
    have l1 : x + 1 < ds.length := by omega
    have hd : ds.drop x = ds[x] :: ds[x + 1] :: ds.drop (x + 2) := by
      rw [l0e (by omega), l0e l1]
    have a1 : atI ds (1 + (x : Nat)) = some ds[x + 1] := i9a (by omega) (by rw [show ((1 : Int) + (x : Nat)).toNat = x + 1 by omega]; exact h7e l1)
    have a2 : atI ds (1 + (x : Nat) - 1) = some ds[x] := i9a (by omega) (by rw [show ((1 : Int) + (x : Nat) - 1).toNat = x by omega]; exact h7e (by omega))
    have a3 := hf ds[x + 1] (k8e l1) ds[x] (k8e (by omega))
    have hs := f8a hs
    rw [hd] at ha
    have ha2 : adjB f ds = (!f ds[x + 1] ds[x] && adjB f (ds[x + 1] :: ds.drop (x + 2))) := ha
    rw [← l0e l1] at ha2
    clear hf hrow e1 e2 hd hn ha
    cases q : f ds[x + 1] ds[x] with
    | true =>
      rw [q] at a3 ha2
      have ha : adjB f ds = false := ha2
      clear ha2 hI hx2
      walk_at "ev"
    | false =>
      rw [q] at a3 ha2
      have w : Hid _ := ⟨show adjB f ds = adjB f (ds.drop (x + 1)) from ha2⟩
      have w2 := Hid.mk hI
      have w3 := Hid.mk hx2
      clear ha2 hI hx2
      walk_at "ev"
      rw [w2.out]
      exact ⟨x + 1, _, w3.out, rfl, rfl, w.out⟩
  · intro ρ h
    rw [hI] at h
    obtain ⟨j, s, hx, hs, rfl, ha⟩ := h
    have hz : ds.length - 1 - j = 0 := by
      have := congrArg List.length hx
      simpa using this.symm
    have hd : adjB f (ds.drop j) = true := by
      have : (ds.drop j).length ≤ 1 := by rw [List.length_drop]; omega
      match ds.drop j, this with
      | [], _ => rfl
      | [_], _ => rfl
    rw [hd] at ha
    clear hx hd hf e3 hI
    walk_at "ev"
def tupN (n : Int) : D → Bool
 | .tup ds => (ds.length : Int) == n
 | _ => false
theorem j8a {d : D} {n : Int} (h : kn d = true) : d_is_tuple [.val d, .val (.int n)] = .rt (.bl (tupN n d)) [.val d, .val (.int n)] := by
  cases d with
  | tup ds =>
    have h0 := @l6a ds
    unfold d_is_tuple tupN
    walk_at "ev"
  | scr _ => cases h
  | dT _ => cases h
  | exn _ => cases h
  | raw _ => cases h
  | obj _ _ => cases h
  | hole => cases h
  | exo _ => cases h
  | fnv _ => cases h
  | _ => rfl
theorem j8c {d : D} (h : tupN 2 d = true) : ∃ a b, d = .tup [a, b] := by
  cases d <;> first | (cases h; done) | skip
  rename_i ds
  match ds, h with
  | [a, b], _ => exact ⟨a, b, rfl⟩
  | [], h => cases h
  | [_], h => cases h
  | _ :: _ :: _ :: _, h =>
    exfalso
    unfold tupN at h
    simp only [h0e] at h
    have := of_decide_eq_true h
    omega
theorem w2d {d : D} (h : tupN 4 d = true) : ∃ a b c e, d = .tup [a, b, c, e] := by
  cases d <;> first | (cases h; done) | skip
  rename_i ds
  match ds, h with
  | [a, b, c, e], _ => exact ⟨a, b, c, e, rfl⟩
  | [], h => cases h
  | [_], h => cases h
  | [_, _], h => cases h
  | [_, _, _], h => cases h
  | _ :: _ :: _ :: _ :: _ :: _, h =>
    exfalso
    unfold tupN at h
    simp only [h0e] at h
    have := of_decide_eq_true h
    omega
theorem w3d {d : D} (h : tupN 5 d = true) : ∃ a b c e f, d = .tup [a, b, c, e, f] := by
  cases d <;> first | (cases h; done) | skip
  rename_i ds
  match ds, h with
  | [a, b, c, e, f], _ => exact ⟨a, b, c, e, f, rfl⟩
  | [], h => cases h
  | [_], h => cases h
  | [_, _], h => cases h
  | [_, _, _], h => cases h
  | [_, _, _, _], h => cases h
  | _ :: _ :: _ :: _ :: _ :: _ :: _, h =>
    exfalso
    unfold tupN at h
    simp only [h0e] at h
    have := of_decide_eq_true h
    omega
def hasP (ps : List P2) (n : Int) : Bool := ps.any fun p => p.1 == n
def ptOf : D → Option P2
 | .tup [.int i, .str x] => if (decide (0 ≤ i) && decide (i ≤ 1000000)) && isKindS x then some (i, x) else none
 | _ => none
def nmB (i : Int) : Bool := decide (0 ≤ i) && decide (i ≤ 1000000)
def tieOf (ps : List P2) : D → Option T4
 | .tup [.int i, .str x, .int b, .int e] => if nmB i && (isKindS x && (nmB b && (nmB e && (hasP ps b && hasP ps e)))) then some (i, x, b, e) else none
 | _ => none
def mapO {α : Type} (f : D → Option α) : List D → Option (List α)
  | [] => some []
  | d :: ds => match f d, mapO f ds with
    | some x, some xs => some (x :: xs)
    | _, _ => none
def risI : List Int → Bool
 | a :: b :: r => decide (a < b) && risI (b :: r)
 | _ => true
def ptsOf : D → Option (List P2)
  | .tup ds => if ds.length ≤ 400 then match mapO ptOf ds with
    | some ps => if risI (ps.map (·.1)) then some ps else none
    | none => none
    else none
  | _ => none
def tiesOf (ps : List P2) : D → Option (List T4)
  | .tup ds => if ds.length ≤ 600 then match mapO (tieOf ps) ds with
    | some ts => if risI (ts.map (·.1)) then some ts else none
    | none => none
    else none
  | _ => none
def netOf : D → Option (List P2 × List T4)
  | .tup [p, t] => match ptsOf p with
    | some ps => match tiesOf ps t with
      | some ts => some (ps, ts)
      | none => none
    | none => none
  | _ => none
theorem j8b : ∀ {xs : List Int}, risI xs = true → xs.Pairwise (· < ·)
  | [], _ => List.Pairwise.nil
  | [_], _ => List.pairwise_singleton _ _
  | a :: b :: r, h => by
    unfold risI at h
    rw [h6e] at h
    have h1 : a < b := of_decide_eq_true h.1
    have h2 := j8b h.2
    rw [List.pairwise_cons]
    refine ⟨fun x hx => ?_, h2⟩
    rcases List.mem_cons.mp hx with e | e
    · rw [e]; exact h1
    · have := (List.pairwise_cons.mp h2).1 x e
      omega
theorem r5a : ∀ {xs : List Int}, xs.Pairwise (· < ·) → risI xs = true
  | [], _ => rfl
  | [_], _ => rfl
  | a :: b :: r, h => by
    unfold risI
    rw [List.pairwise_cons] at h
    rw [decide_eq_true (h.1 b h1e), r5a h.2]
    rfl
theorem r3c {f : D → D → Bool} (hf : ∀ i j : Int, f (.int i) (.int j) = decide (i ≤ j)) : ∀ {xs : List Int}, adjB f (xs.map .int) = risI xs
  | [] => rfl
  | [_] => rfl
  | a :: b :: r => by
    show (!f (.int b) (.int a) && adjB f ((b :: r).map .int)) = (decide (a < b) && risI (b :: r))
    rw [r3c hf, hf]
    congr 1
    by_cases h : a < b
    · rw [decide_eq_true h, decide_eq_false (by omega)]
      rfl
    · rw [decide_eq_false h, decide_eq_true (by omega)]
      rfl
def leI : D → D → Bool
 | .int i, .int j => decide (i ≤ j)
 | _, _ => false
theorem r6a {row : D} {xs : List Int} (hrow : row = .lst (xs.map .int) ∨ row = .tup (xs.map .int)) (hl : xs.length ≤ 100000) : ∃ ρ', d_are_rising [.val row, .no] = .rt (.bl (risI xs)) ρ' := by
 obtain ⟨ρ', e⟩ := w4a (f := leI) hrow (by rw [g8e]; exact hl) (fun a ha b hb => by
  obtain ⟨i, _, e1⟩ := List.mem_map.mp ha
  obtain ⟨j, _, e2⟩ := List.mem_map.mp hb
  subst e1
  subst e2
  rfl)
 rw [r3c fun i j => rfl] at e
 exact ⟨ρ', e⟩
theorem j9b {d : D} {p : P2} (h : ptOf d = some p) : d = ptD p ∧ nameOk p.1 ∧ isKindS p.2 = true := by
 unfold ptOf at h
 split at h
 ·split at h
  ·rename_i i x hc
   cases h
   simp only [h6e, decide_eq_true_eq] at hc
   exact ⟨rfl, hc.1, hc.2⟩
  ·cases h
 ·cases h
theorem j9a {α : Type} {f : D → Option α} {g : α → D} {P : α → Prop} (hf : ∀ d x, f d = some x → d = g x ∧ P x) : ∀ {ds : List D} {xs : List α}, mapO f ds = some xs → ds = xs.map g ∧ ∀ x ∈ xs, P x
  | [], _, h => by cases h; exact ⟨rfl, fun x hx => by cases hx⟩
  | d :: ds, _, h => by
    unfold mapO at h
    split at h
    · rename_i x xs h1 h2
      cases h
      obtain ⟨e1, p1⟩ := hf d x h1
      obtain ⟨e2, p2⟩ := j9a hf h2
      refine ⟨by rw [e1, e2]; rfl, fun y hy => ?_⟩
      rcases List.mem_cons.mp hy with q | q
      · rw [q]; exact p1
      · exact p2 y q
    · cases h
theorem k0b {α : Type} {f : D → Option α} {g : α → D} : ∀ {xs : List α}, (∀ x ∈ xs, f (g x) = some x) → mapO f (xs.map g) = some xs
  | [], _ => rfl
  | x :: xs, h => by
    unfold List.map mapO
    rw [h x h1e, k0b fun y hy => h y (h2e _ hy)]
theorem n2d {ps : List P2} {n : Int} : hasP ps n = true ↔ ∃ p ∈ ps, p.1 = n := by
 unfold hasP
 rw [n1e]
 exact ⟨fun ⟨p, h1, h2⟩ => ⟨p, h1, by simpa using h2⟩, fun ⟨p, h1, h2⟩ => ⟨p, h1, by simpa using h2⟩⟩
theorem o4a {ps : List P2} {d : D} {t : T4} (h : tieOf ps d = some t) : d = tieD t ∧ nameOk t.1 ∧ isKindS t.2.1 = true ∧ (∃ p ∈ ps, p.1 = t.2.2.1) ∧ ∃ p ∈ ps, p.1 = t.2.2.2 := by
 unfold tieOf at h
 split at h
 ·split at h
  ·rename_i i x b e hc
   cases h
   unfold nmB at hc
   simp only [h6e, decide_eq_true_eq] at hc
   exact ⟨rfl, hc.1, hc.2.1, n2d.mp hc.2.2.2.2.1, n2d.mp hc.2.2.2.2.2⟩
  ·cases h
 ·cases h
theorem o0b {d : D} {ps : List P2} (h : ptsOf d = some ps) : d = .tup (ps.map ptD) ∧ ps.length ≤ 400 ∧ (∀ p ∈ ps, nameOk p.1 ∧ isKindS p.2 = true) ∧ (ps.map (·.1)).Pairwise (· < ·) := by
 unfold ptsOf at h
 split at h
 ·rename_i ds
  split at h
  ·rename_i hl
   split at h
   ·rename_i qs hq
    split at h
    ·rename_i hr
     cases h
     obtain ⟨e1, p1⟩ := j9a (g := ptD) (P := fun p => nameOk p.1 ∧ isKindS p.2 = true) (fun d x h => j9b h) hq
     subst e1
     rw [g8e] at hl
     exact ⟨rfl, hl, p1, j8b hr⟩
    ·cases h
   ·cases h
  ·cases h
 ·cases h
theorem j9c {ps : List P2} {d : D} {ts : List T4} (h : tiesOf ps d = some ts) : d = .tup (ts.map tieD) ∧ ts.length ≤ 600 ∧ (∀ t ∈ ts, nameOk t.1 ∧ isKindS t.2.1 = true ∧ (∃ p ∈ ps, p.1 = t.2.2.1) ∧ ∃ p ∈ ps, p.1 = t.2.2.2) ∧ (ts.map (·.1)).Pairwise (· < ·) := by
 unfold tiesOf at h
 split at h
 ·rename_i ds
  split at h
  ·rename_i hl
   split at h
   ·rename_i qs hq
    split at h
    ·rename_i hr
     cases h
     obtain ⟨e1, p1⟩ := j9a (g := tieD) (P := fun t => nameOk t.1 ∧ isKindS t.2.1 = true ∧ (∃ p ∈ ps, p.1 = t.2.2.1) ∧ ∃ p ∈ ps, p.1 = t.2.2.2) (fun d x h => o4a h) hq
     subst e1
     rw [g8e] at hl
     exact ⟨rfl, hl, p1, j8b hr⟩
    ·cases h
   ·cases h
  ·cases h
 ·cases h
theorem j2a {d : D} {ps : List P2} {ts : List T4} (h : netOf d = some (ps, ts)) : d = netD ps ts ∧ Good ps ts := by
 unfold netOf at h
 split at h
 ·split at h
  ·rename_i qs h1
   split at h
   ·rename_i us h2
    cases h
    obtain ⟨e1, a1, a2, a3⟩ := o0b h1
    obtain ⟨e2, b1, b2, b3⟩ := j9c h2
    subst e1
    subst e2
    exact ⟨rfl, a1, b1, a2, b2, a3, b3⟩
   ·cases h
  ·cases h
 ·cases h
theorem p3a {i : Int} (h : nameOk i) : nmB i = true := by
 unfold nmB
 rw [decide_eq_true h.1, decide_eq_true h.2]
 rfl
theorem n3d {ps : List P2} (np : ps.length ≤ 400) (pk : ∀ p ∈ ps, nameOk p.1 ∧ isKindS p.2 = true) (pr : (ps.map (·.1)).Pairwise (· < ·)) : ptsOf (.tup (ps.map ptD)) = some ps := by
 unfold ptsOf
 dsimp only
 rw [if_pos (by rw [g8e]; exact np), k0b (g := ptD) fun p hp => ?_]
 ·dsimp only
  rw [r5a pr]
  rfl
 ·show (if (nmB p.1) && isKindS p.2 then some (p.1, p.2) else none) = _
  rw [p3a (pk p hp).1, (pk p hp).2]
  rfl
theorem g3b {ps : List P2} {ts : List T4} (g : Good ps ts) : netOf (netD ps ts) = some (ps, ts) := by
 unfold netOf netD
 dsimp only
 rw [n3d g.np g.pk g.pr]
 dsimp only
 have h : tiesOf ps (.tup (ts.map tieD)) = some ts := by
  unfold tiesOf
  dsimp only
  rw [if_pos (by rw [g8e]; exact g.nt), k0b (g := tieD) fun t ht => ?_]
  ·dsimp only
   rw [r5a g.tr]
   rfl
  ·obtain ⟨k1, k2, k3, k4⟩ := g.tk t ht
   show (if nmB t.1 && (isKindS t.2.1 && (nmB t.2.2.1 && (nmB t.2.2.2 && (hasP ps t.2.2.1 && hasP ps t.2.2.2)))) then some (t.1, t.2.1, t.2.2.1, t.2.2.2) else none) = _
   have n1 : nmB t.2.2.1 = true := by obtain ⟨p, hp, e⟩ := k3; rw [← e]; exact p3a (g.pk p hp).1
   have n2 : nmB t.2.2.2 = true := by obtain ⟨p, hp, e⟩ := k4; rw [← e]; exact p3a (g.pk p hp).1
   rw [p3a k1, k2, n1, n2, n2d.mpr k3, n2d.mpr k4]
   rfl
 rw [h]
theorem k1b {α : Type} {f : D → Option α} {d : D} {ds : List D} : mapO f (d :: ds) = match f d, mapO f ds with | some x, some xs => some (x :: xs) | _, _ => none := rfl
theorem m9a {α : Type} {f : D → Option α} {d : D} : ∀ {ds : List D}, d ∈ ds → f d = none → mapO f ds = none
  | e :: ds, h, hn => by
    rcases List.mem_cons.mp h with q | q
    · rw [k1b, ← q, hn]
    · rw [k1b, m9a q hn]
      cases f e <;> rfl
theorem w5a {α : Type} {f : D → Option α} : ∀ {ds : List D}, (∀ d ∈ ds, f d ≠ none) → ∃ xs, mapO f ds = some xs
  | [], _ => ⟨[], rfl⟩
  | d :: ds, h => by
    obtain ⟨xs, e⟩ := w5a fun x hx => h x (h2e _ hx)
    cases q : f d with
    | none => exact (h d h1e q).elim
    | some x => exact ⟨x :: xs, by rw [k1b, q, e]⟩
theorem w6b {d : D} (hk : kd d = true) : ∃ ρ', d_are_points [.val d, .no] = .rt (.bl (ptsOf d).isSome) ρ' := by
  cases d with
  | tup ds =>
    replace hk := p2a hk
    have h0 := @l6a ds
    by_cases hl : (400 : Int) < ds.length
    · have e : ptsOf (.tup ds) = none := by
        show (if ds.length ≤ 400 then _ else none) = _
        rw [if_neg (by omega)]
      rw [e]
      refine e8a ?_
      unfold d_are_points
      clear hk e
      walk_at "ev"
      rfl
    · have hl' : ds.length ≤ 400 := by omega
      obtain ⟨I, hI⟩ : ∃ I : List D → List Sl → Prop, I = fun xs ρ => ∃ pre s, ds = pre ++ xs ∧ isFree (some s) = true ∧ ρ = [.val (.tup ds), s] ∧ ∀ d ∈ pre, ptOf d ≠ none := ⟨_, rfl⟩
      refine e8a ?_
      unfold d_are_points
      walk_at "ev"
      refine j3b I ?_ ?_ ?_
      · rw [hI]
        exact ⟨[], .no, rfl, rfl, rfl, fun d h => by cases h⟩
      · intro x xs ρ h
        rw [hI] at h
        obtain ⟨pre, s, hx, hs, rfl, hp⟩ := h
        have hm : x ∈ ds := by rw [hx]; exact j8e _ h1e
        have kx := f2a hk x hm
        have e1 := j8a (n := 2) (g2a kx)
        have hs := f8a hs
        have bad : ptOf x = none → ptsOf (.tup ds) = none := fun e => by
          show (if ds.length ≤ 400 then match mapO ptOf ds with
            | some ps => if risI (ps.map (·.1)) then some ps else none
            | none => none
            else none) = _
          rw [if_pos hl', m9a hm e]
        have good : ptOf x ≠ none → Hid (I xs [.val (.tup ds), .val x]) := fun e => ⟨by
          rw [hI]
          refine ⟨pre ++ [x], _, by rw [hx, h4e]; rfl, rfl, rfl, fun d hd => ?_⟩
          rcases List.mem_append.mp hd with q | q
          · exact hp d q
          · rw [i7e] at q; rw [q]; exact e⟩
        clear hI hx hp hk hm hl hl' h0
        cases ht : tupN 2 x with
        | false =>
          rw [ht] at e1
          have hn : ptOf x = none := by
            cases q : ptOf x with
            | none => rfl
            | some p =>
              rw [(j9b q).1] at ht
              cases ht
          have b := bad hn
          clear bad good ht hn
          walk_at "ev"
          rfl
        | true =>
          obtain ⟨n, kk, e⟩ := j8c ht
          subst e
          rw [ht] at e1
          replace kx := p2a kx
          have kn1 := f2a kx n h1e
          have kn2 := f2a kx kk (h2e _ h1e)
          have e2 := j1a (g2a kn1)
          obtain ⟨ρ', e3⟩ := y5a (g2a kn2) (q7d kn2)
          have key : (ptOf (.tup [n, kk])).isSome = (isNameD n && isKindD kk) := by
            cases n <;> first | rfl | skip
            · cases kk <;> first | (unfold isKindD; rw [m2e]; rfl) | skip
              rename_i i x
              show (if (nmB i) && isKindS x then some (i, x) else none).isSome = (nmB i && isKindS x)
              cases (nmB i && isKindS x) <;> rfl
          cases q : isNameD n && isKindD kk with
          | true =>
            rw [h6e] at q
            rw [q.1] at e2
            rw [q.2] at e3
            have g := good (fun z => by rw [z, q.1, q.2] at key; cases key)
            clear bad good key q ht kx kn1 kn2
            walk_at "ev"
            exact g.out
          | false =>
            have b := bad (by
              cases z : ptOf (.tup [n, kk]) with
              | none => rfl
              | some p => rw [z, q] at key; cases key)
            clear bad good key ht kx kn1 kn2
            rw [Bool.and_eq_false_iff] at q
            cases q1 : isNameD n with
            | false => rw [q1] at e2; clear q1 q; walk_at "ev"; rfl
            | true =>
              have q2 := q.resolve_left (by rw [q1]; exact fun z => by cases z)
              rw [q1] at e2
              rw [q2] at e3
              clear q1 q q2
              walk_at "ev"
              rfl
      · intro ρ h
        rw [hI] at h
        obtain ⟨pre, s, hx, hs, rfl, hp⟩ := h
        rw [h5e] at hx
        obtain ⟨ps, e⟩ := w5a (f := ptOf) (ds := ds) (fun d hd => hp d (by rw [← hx]; exact hd))
        obtain ⟨e1, p1⟩ := j9a (g := ptD) (P := fun p => nameOk p.1 ∧ isKindS p.2 = true) (fun d x h => j9b h) e
        have l2 : ps.length ≤ 400 := by rw [e1, g8e] at hl'; exact hl'
        obtain ⟨ρ', h4⟩ := r6a (row := .lst ((ps.map (·.1)).map .int)) (xs := ps.map (·.1)) (.inl rfl) (by rw [g8e]; omega)
        have h5 := k5a (i := 1) (ρ := [.val (.tup ds), s]) (xs := ps) (f := ptD) (g := (·.1)) (fun x => ⟨_, rfl⟩) hs (by omega)
        rw [← e1] at h5
        have h6 : (ptsOf (.tup ds)).isSome = risI (ps.map (·.1)) := by
          show (if ds.length ≤ 400 then match mapO ptOf ds with
            | some ps => if risI (ps.map (·.1)) then some ps else none
            | none => none
            else none).isSome = _
          rw [if_pos hl', e]
          dsimp only
          cases risI (ps.map (·.1)) <;> rfl
        clear hI hx hp hk hl hl' h0 e e1 p1 l2
        exists risI (ps.map (·.1)), rr
        exists (ps.map (·.1)).map D.int, zz
        walk_at "ev"
  | scr _ => exact absurd (g2a hk) (by intro z; cases z)
  | dT _ => exact absurd (g2a hk) (by intro z; cases z)
  | exn _ => exact absurd (g2a hk) (by intro z; cases z)
  | raw _ => exact absurd (g2a hk) (by intro z; cases z)
  | obj _ _ => exact absurd (g2a hk) (by intro z; cases z)
  | hole => exact absurd (g2a hk) (by intro z; cases z)
  | exo _ => exact absurd (g2a hk) (by intro z; cases z)
  | fnv _ => exact absurd (g2a hk) (by intro z; cases z)
  | _ => exact ⟨_, rfl⟩
theorem w7b {ps : List P2} {i : Int} : (lookD (ptsK ps) (.inl i)).isSome = hasP ps i := by
  unfold lookD hasP ptsK
  rw [l7e]
  induction ps with
  | nil => rfl
  | cons p ps ih =>
    rw [h3e, i9e, l4e]
    by_cases h : p.1 = i
    · rw [show decide ((Sum.inl p.1 : Key) = Sum.inl i) = true from decide_eq_true (by rw [h]), show (p.1 == i) = true from by simpa using h]
      rfl
    · rw [show decide ((Sum.inl p.1 : Key) = Sum.inl i) = false from decide_eq_false (fun z => h (Sum.inl.inj z)), show (p.1 == i) = false from by simpa using h]
      exact ih
theorem w6a {ps : List P2} {i : Int} : opInD true (.int i) (.dK (ptsK ps)) = some (.bl (!hasP ps i)) := by
 show some (D.bl (!(lookD (ptsK ps) (.inl i)).isSome)) = _
 rw [w7b]
theorem c1e {ps : List P2} {i : Int} : opInD false (.int i) (.dK (ptsK ps)) = some (.bl (hasP ps i)) := by
 show some (D.bl ((lookD (ptsK ps) (.inl i)).isSome)) = _
 rw [w7b]
def inPB (ps : List P2) : D → Bool
 | .int i => hasP ps i
 | _ => false
theorem k0c {ps : List P2} {d : D} (hk : kd d = true) : ∃ ρ', d_are_ties [.val d, .val (.dK (ptsK ps)), .no] = .rt (.bl (tiesOf ps d).isSome) ρ' := by
  cases d with
  | tup ds =>
    replace hk := p2a hk
    have h0 := @l6a ds
    by_cases hl : (600 : Int) < ds.length
    · have e : tiesOf ps (.tup ds) = none := by
        show (if ds.length ≤ 600 then _ else none) = _
        rw [if_neg (by omega)]
      rw [e]
      refine e8a ?_
      unfold d_are_ties
      clear hk e
      walk_at "ev"
      rfl
    · have hl' : ds.length ≤ 600 := by omega
      obtain ⟨I, hI⟩ : ∃ I : List D → List Sl → Prop, I = fun xs ρ => ∃ pre s, ds = pre ++ xs ∧ isFree (some s) = true ∧ ρ = [.val (.tup ds), .val (.dK (ptsK ps)), s] ∧ ∀ d ∈ pre, tieOf ps d ≠ none := ⟨_, rfl⟩
      refine e8a ?_
      unfold d_are_ties
      walk_at "ev"
      refine j3b I ?_ ?_ ?_
      · rw [hI]
        exact ⟨[], .no, rfl, rfl, rfl, fun d h => by cases h⟩
      · intro x xs ρ h
        rw [hI] at h
        obtain ⟨pre, s, hx, hs, rfl, hp⟩ := h
        have hm : x ∈ ds := by rw [hx]; exact j8e _ h1e
        have kx := f2a hk x hm
        have e1 := j8a (n := 4) (g2a kx)
        have hs := f8a hs
        have bad : tieOf ps x = none → tiesOf ps (.tup ds) = none := fun e => by
          show (if ds.length ≤ 600 then match mapO (tieOf ps) ds with
            | some ps => if risI (ps.map (·.1)) then some ps else none
            | none => none
            else none) = _
          rw [if_pos hl', m9a hm e]
        have good : tieOf ps x ≠ none → Hid (I xs [.val (.tup ds), .val (.dK (ptsK ps)), .val x]) := fun e => ⟨by
          rw [hI]
          refine ⟨pre ++ [x], _, by rw [hx, h4e]; rfl, rfl, rfl, fun d hd => ?_⟩
          rcases List.mem_append.mp hd with q | q
          · exact hp d q
          · rw [i7e] at q; rw [q]; exact e⟩
        clear hI hx hp hk hm hl hl' h0
        cases ht : tupN 4 x with
        | false =>
          rw [ht] at e1
          have hn : tieOf ps x = none := by
            cases q : tieOf ps x with
            | none => rfl
            | some p =>
              rw [(o4a q).1] at ht
              cases ht
          have b := bad hn
          clear bad good ht hn
          walk_at "ev"
          rfl
        | true =>
          obtain ⟨n, kk, bg, en, e⟩ := w2d ht
          subst e
          rw [ht] at e1
          replace kx := p2a kx
          have k1 := f2a kx n (by simp)
          have k2 := f2a kx kk (by simp)
          have k3 := f2a kx bg (by simp)
          have k4 := f2a kx en (by simp)
          have e2 := j1a (g2a k1)
          obtain ⟨ρ', e3⟩ := y5a (g2a k2) (q7d k2)
          have e4 := j1a (g2a k3)
          have e5 := j1a (g2a k4)
          have e6 : isNameD bg = true → opInD true bg (.dK (ptsK ps)) = some (.bl (!inPB ps bg)) := fun h => by
            cases bg <;> first | exact w6a | cases h
          have e7 : isNameD en = true → opInD true en (.dK (ptsK ps)) = some (.bl (!inPB ps en)) := fun h => by
            cases en <;> first | exact w6a | cases h
          have key : (tieOf ps (.tup [n, kk, bg, en])).isSome = (isNameD n && (isKindD kk && (isNameD bg && (isNameD en && (inPB ps bg && inPB ps en))))) := by
            cases n <;> first | rfl | skip
            cases kk <;> first | (show false = _; unfold isKindD; rw [l6e, m2e]) | skip
            cases bg <;> first | (show false = _; unfold isNameD; simp) | skip
            cases en <;> first | (show false = _; unfold isNameD; simp) | skip
            rename_i i x b e
            show (if nmB i && (isKindS x && (nmB b && (nmB e && (hasP ps b && hasP ps e)))) then some (i, x, b, e) else none).isSome = (nmB i && (isKindS x && (nmB b && (nmB e && (hasP ps b && hasP ps e)))))
            cases (nmB i && (isKindS x && (nmB b && (nmB e && (hasP ps b && hasP ps e))))) <;> rfl
          have good' : (isNameD n && (isKindD kk && (isNameD bg && (isNameD en && (inPB ps bg && inPB ps en))))) = true → Hid (I xs [.val (.tup ds), .val (.dK (ptsK ps)), .val (.tup [n, kk, bg, en])]) := fun h => good (fun z => by rw [z, h] at key; cases key)
          have bad' : (isNameD n && (isKindD kk && (isNameD bg && (isNameD en && (inPB ps bg && inPB ps en))))) = false → tiesOf ps (.tup ds) = none := fun h => bad (by
            cases z : tieOf ps (.tup [n, kk, bg, en]) with
            | none => rfl
            | some p => rw [z, h] at key; cases key)
          clear good bad key ht kx k1 k2 k3 k4
          exists ptsK ps, pk
          exists isNameD n, b1
          exists isKindD kk, b2
          exists isNameD bg, b3
          exists isNameD en, b4
          exists inPB ps bg, b5
          exists inPB ps en, b6
          cases b1 <;> first | (have b := bad' rfl; clear bad' good' e6 e7; walk_at "ev"; rfl; done) | skip
          cases b2 <;> first | (have b := bad' rfl; clear bad' good' e6 e7; walk_at "ev"; rfl; done) | skip
          cases b3 <;> first | (have b := bad' rfl; clear bad' good' e6 e7; walk_at "ev"; rfl; done) | skip
          cases b4 <;> first | (have b := bad' rfl; clear bad' good' e6 e7; walk_at "ev"; rfl; done) | skip
          replace e6 := e6 rfl
          replace e7 := e7 rfl
          cases b5 <;> first | (have b := bad' rfl; clear bad' good'; walk_at "ev"; rfl; done) | skip
          cases b6 <;> first | (have b := bad' rfl; clear bad' good'; walk_at "ev"; rfl; done) | skip
          have g := good' rfl
          clear bad' good'
          walk_at "ev"
          exact g.out
      · intro ρ h
        rw [hI] at h
        obtain ⟨pre, s, hx, hs, rfl, hp⟩ := h
        rw [h5e] at hx
        obtain ⟨ts, e⟩ := w5a (f := tieOf ps) (ds := ds) (fun d hd => hp d (by rw [← hx]; exact hd))
        obtain ⟨e1, p1⟩ := j9a (g := tieD) (P := fun t => nameOk t.1) (fun d x h => ⟨(o4a h).1, (o4a h).2.1⟩) e
        have l2 : ts.length ≤ 600 := by rw [e1, g8e] at hl'; exact hl'
        obtain ⟨ρ', h4⟩ := r6a (row := .lst ((ts.map (·.1)).map .int)) (xs := ts.map (·.1)) (.inl rfl) (by rw [g8e]; omega)
        have h5 := k5a (i := 2) (ρ := [.val (.tup ds), .val (.dK (ptsK ps)), s]) (xs := ts) (f := tieD) (g := (·.1)) (fun x => ⟨_, rfl⟩) hs (by omega)
        rw [← e1] at h5
        have h6 : (tiesOf ps (.tup ds)).isSome = risI (ts.map (·.1)) := by
          show (if ds.length ≤ 600 then match mapO (tieOf ps) ds with
            | some ps => if risI (ps.map (·.1)) then some ps else none
            | none => none
            else none).isSome = _
          rw [if_pos hl', e]
          dsimp only
          cases risI (ts.map (·.1)) <;> rfl
        clear hI hx hp hk hl hl' h0 e e1 p1 l2
        exists risI (ts.map (·.1)), rr
        exists (ts.map (·.1)).map D.int, zz
        walk_at "ev"
  | scr _ => exact absurd (g2a hk) (by intro z; cases z)
  | dT _ => exact absurd (g2a hk) (by intro z; cases z)
  | exn _ => exact absurd (g2a hk) (by intro z; cases z)
  | raw _ => exact absurd (g2a hk) (by intro z; cases z)
  | obj _ _ => exact absurd (g2a hk) (by intro z; cases z)
  | hole => exact absurd (g2a hk) (by intro z; cases z)
  | exo _ => exact absurd (g2a hk) (by intro z; cases z)
  | fnv _ => exact absurd (g2a hk) (by intro z; cases z)
  | _ => exact ⟨_, rfl⟩
theorem k1c {ps : List P2} {T : D} (np : ps.length ≤ 400) (pr : (ps.map (·.1)).Pairwise (· < ·)) : ∃ ρ', d_points_of [.val (.tup [.tup (ps.map ptD), T]), .no, .no, .no] = .rtN (.dK (ptsK ps)) ρ' := by
 obtain ⟨s, t, h⟩ := k8a (net := .tup [.tup (ps.map ptD), T]) (qs := ps) (ps := []) (s := .no) (t := .no) rfl rfl (by simpa using np) pr
 have h1 : ptsK [] = [] := rfl
 rw [h1, i0e] at h
 refine h5c ?_
 unfold d_points_of
 clear pr
 walk_at "ev"
theorem k2b {d : D} (hk : kd d = true) : ∃ ρ', d_is_net [.val d] = .rt (.bl (netOf d).isSome) ρ' := by
  have e1 := j8a (n := 2) (g2a hk)
  cases ht : tupN 2 d with
  | false =>
    have e : netOf d = none := by
      cases q : netOf d with
      | none => rfl
      | some p => rw [(j2a (ps := p.1) (ts := p.2) q).1] at ht; cases ht
    rw [ht] at e1
    rw [e]
    clear e ht hk
    refine e8a ?_
    unfold d_is_net
    walk_at "ev"
    rfl
  | true =>
    obtain ⟨p, t, e⟩ := j8c ht
    subst e
    rw [ht] at e1
    replace hk := p2a hk
    have k1 := f2a hk p (by simp)
    have k2 := f2a hk t (by simp)
    obtain ⟨ρ1, e2⟩ := w6b k1
    cases hp : ptsOf p with
    | none =>
      have e : netOf (.tup [p, t]) = none := by
        unfold netOf
        dsimp only
        rw [hp]
      rw [hp] at e2
      rw [e]
      replace e2 : d_are_points [.val p, .no] = .rt (.bl false) ρ1 := e2
      clear e ht hk k1 k2 hp
      refine e8a ?_
      unfold d_is_net
      walk_at "ev"
      rfl
    | some ps =>
      obtain ⟨e3, np, pk, pr⟩ := o0b hp
      rw [hp] at e2
      replace e2 : d_are_points [.val p, .no] = .rt (.bl true) ρ1 := e2
      obtain ⟨ρ2, e4⟩ := k0c (ps := ps) k2
      obtain ⟨ρ3, e5⟩ := k1c (T := t) np pr
      rw [← e3] at e5
      have e : (netOf (.tup [p, t])).isSome = (tiesOf ps t).isSome := by
        unfold netOf
        dsimp only
        rw [hp]
        dsimp only
        cases tiesOf ps t <;> rfl
      clear ht hk k1 k2 hp e3 np pk pr
      exists ptsK ps, kk
      refine e8a ?_
      unfold d_is_net
      walk_at "ev"
def nmOf : D → Option Int
 | .int i => if nmB i then some i else none
 | _ => none
def namesOf : D → Option (List Int)
 | .tup ds => mapO nmOf ds
 | _ => none
theorem d1d {d : D} {i : Int} (h : nmOf d = some i) : d = .int i ∧ nmB i = true := by
 unfold nmOf at h
 split at h
 ·split at h
  ·rename_i hc
   cases h
   exact ⟨rfl, hc⟩
  ·cases h
 ·cases h
theorem i5a {d : D} {xs : List Int} (h : namesOf d = some xs) : d = .tup (xs.map .int) ∧ ∀ x ∈ xs, nmB x = true := by
 unfold namesOf at h
 split at h
 ·obtain ⟨e1, p1⟩ := j9a (g := D.int) (P := fun i => nmB i = true) (fun d x h => d1d h) h
  exact ⟨by rw [e1], p1⟩
 ·cases h
theorem y7a {xs : List Int} (h : ∀ x ∈ xs, nmB x = true) : namesOf (.tup (xs.map .int)) = some xs := k0b (g := D.int) fun x hx => by
 show (if nmB x then some x else none) = some x
 rw [h x hx]
 rfl
theorem k2c {d : D} : (nmOf d).isSome = isNameD d := by
 cases d <;> first | rfl | skip
 rename_i i
 show (if nmB i then some i else none).isSome = nmB i
 cases nmB i <;> rfl
theorem z6a {d : D} (hk : kd d = true) : ∃ ρ', d_are_names [.val d, .no] = .rt (.bl (namesOf d).isSome) ρ' := by
  cases d with
  | tup ds =>
    replace hk := p2a hk
    have h0 := @l6a ds
    obtain ⟨I, hI⟩ : ∃ I : List D → List Sl → Prop, I = fun xs ρ => ∃ pre s, ds = pre ++ xs ∧ isFree (some s) = true ∧ ρ = [.val (.tup ds), s] ∧ ∀ d ∈ pre, nmOf d ≠ none := ⟨_, rfl⟩
    refine e8a ?_
    unfold d_are_names
    walk_at "ev"
    refine j3b I ?_ ?_ ?_
    · rw [hI]
      exact ⟨[], .no, rfl, rfl, rfl, fun d h => by cases h⟩
    · intro x xs ρ h
      rw [hI] at h
      obtain ⟨pre, s, hx, hs, rfl, hp⟩ := h
      have hm : x ∈ ds := by rw [hx]; exact j8e _ h1e
      have e1 := j1a (g2a (f2a hk x hm))
      have hs := f8a hs
      rw [← k2c] at e1
      cases q : nmOf x with
      | none =>
        have b : namesOf (.tup ds) = none := m9a hm q
        rw [q] at e1
        replace e1 : d_is_name [.val x] = .rt (.bl false) [.val x] := e1
        clear hI hx hp hk hm h0 q
        walk_at "ev"
        rfl
      | some i =>
        have g : Hid (I xs [.val (.tup ds), .val x]) := ⟨by
          rw [hI]
          refine ⟨pre ++ [x], _, by rw [hx, h4e]; rfl, rfl, rfl, fun d hd => ?_⟩
          rcases List.mem_append.mp hd with z | z
          · exact hp d z
          · rw [i7e] at z; rw [z, q]; exact fun z => by cases z⟩
        rw [q] at e1
        replace e1 : d_is_name [.val x] = .rt (.bl true) [.val x] := e1
        clear hI hx hp hk hm h0 q
        walk_at "ev"
        exact g.out
    · intro ρ h
      rw [hI] at h
      obtain ⟨pre, s, hx, hs, rfl, hp⟩ := h
      rw [h5e] at hx
      obtain ⟨xs, e⟩ := w5a (f := nmOf) (ds := ds) (fun d hd => hp d (by rw [← hx]; exact hd))
      have e : namesOf (.tup ds) = some xs := e
      clear hI hx hp hk h0
      walk_at "ev"
      rfl
  | scr _ => exact absurd (g2a hk) (by intro z; cases z)
  | dT _ => exact absurd (g2a hk) (by intro z; cases z)
  | exn _ => exact absurd (g2a hk) (by intro z; cases z)
  | raw _ => exact absurd (g2a hk) (by intro z; cases z)
  | obj _ _ => exact absurd (g2a hk) (by intro z; cases z)
  | hole => exact absurd (g2a hk) (by intro z; cases z)
  | exo _ => exact absurd (g2a hk) (by intro z; cases z)
  | fnv _ => exact absurd (g2a hk) (by intro z; cases z)
  | _ => exact ⟨_, rfl⟩
def risN (d : D) : Option (List Int) := match namesOf d with
 | some xs => if risI xs then some xs else none
 | none => none
theorem d8c {d : D} {xs : List Int} (h : risN d = some xs) : d = .tup (xs.map .int) ∧ (∀ x ∈ xs, nmB x = true) ∧ risI xs = true := by
 unfold risN at h
 split at h
 ·rename_i ys hy
  split at h
  ·rename_i hr
   cases h
   exact ⟨(i5a hy).1, (i5a hy).2, hr⟩
  ·cases h
 ·cases h
def pairN : D → Option (List Int × List Int)
  | .tup [a, b] => match risN a, risN b with
    | some x, some y => some (x, y)
    | _, _ => none
  | _ => none
theorem o1b {d : D} {p : List Int × List Int} (h : pairN d = some p) : d = .tup [.tup (p.1.map .int), .tup (p.2.map .int)] ∧ (∀ x ∈ p.1, nmB x = true) ∧ risI p.1 = true ∧ (∀ x ∈ p.2, nmB x = true) ∧ risI p.2 = true := by
 unfold pairN at h
 split at h
 ·split at h
  ·rename_i x y h1 h2
   cases h
   obtain ⟨e1, a1, a2⟩ := d8c h1
   obtain ⟨e2, b1, b2⟩ := d8c h2
   exact ⟨by rw [e1, e2], a1, a2, b1, b2⟩
  ·cases h
 ·cases h
theorem d2d {d : D} (hk : kd d = true) : (∃ ρ1, d_are_names [.val d, .no] = .rt (.bl false) ρ1 ∧ risN d = none) ∨ ∃ (xs : List Int) (ρ1 ρ2 : List Sl), d_are_names [.val d, .no] = .rt (.bl true) ρ1 ∧ d_are_rising [.val d, .no] = .rt (.bl (risN d).isSome) ρ2 ∧ d = .tup (xs.map .int) := by
  obtain ⟨ρ1, e1⟩ := z6a hk
  cases q : namesOf d with
  | none =>
    rw [q] at e1
    exact .inl ⟨ρ1, e1, by unfold risN; rw [q]⟩
  | some xs =>
    rw [q] at e1
    obtain ⟨e, p⟩ := i5a q
    have hl : xs.length ≤ 100000 := by
      have := c0e (e ▸ hk)
      rwa [g8e] at this
    obtain ⟨ρ2, e2⟩ := r6a (row := d) (xs := xs) (.inr e) hl
    refine .inr ⟨xs, ρ1, ρ2, e1, ?_, e⟩
    rw [e2]
    unfold risN
    rw [q]
    dsimp only
    cases risI xs <;> rfl
theorem r7a {d : D} (hk : kd d = true) : ∃ ρ', d_is_pair_of_names [.val d, .no] = .rt (.bl (pairN d).isSome) ρ' := by
  have e1 := j8a (n := 2) (g2a hk)
  cases ht : tupN 2 d with
  | false =>
    have e : pairN d = none := by
      cases q : pairN d with
      | none => rfl
      | some p => rw [(o1b q).1] at ht; cases ht
    rw [ht] at e1
    rw [e]
    clear e ht hk
    refine e8a ?_
    unfold d_is_pair_of_names
    walk_at "ev"
    rfl
  | true =>
    obtain ⟨a, b, e⟩ := j8c ht
    subst e
    rw [ht] at e1
    replace hk := p2a hk
    have k1 := d2d (f2a hk a (by simp))
    have k2 := d2d (f2a hk b (by simp))
    have e : (pairN (.tup [a, b])).isSome = ((risN a).isSome && (risN b).isSome) := by
      unfold pairN
      dsimp only
      cases risN a <;> cases risN b <;> rfl
    clear hk ht
    refine e8a ?_
    unfold d_is_pair_of_names
    rw [e]
    clear e
    rcases k1 with ⟨ρ1, h1, h2⟩ | ⟨xs, ρ1, ρ2, h1, h2, -⟩
    · rw [h2]
      clear h2 k2
      walk_at "ev"
      rw [e1a]
      walk_at "ev"
      rfl
    · generalize (risN a).isSome = b1 at *
      cases b1 with
      | false =>
        clear k2
        walk_at "ev"
        rw [e1a]
        walk_at "ev"
      | true =>
        rcases k2 with ⟨ρ3, h3, h4⟩ | ⟨ys, ρ3, ρ4, h3, h4, -⟩
        · rw [h4]
          clear h4
          walk_at "ev"
          rw [e1a]
          walk_at "ev"
          rw [e1a]
          walk_at "ev"
          rfl
        · generalize (risN b).isSome = b2 at *
          cases b2 with
          | false =>
            walk_at "ev"
            rw [e1a]
            walk_at "ev"
            rw [e1a]
            walk_at "ev"
          | true =>
            walk_at "ev"
            rw [e1a]
            walk_at "ev"
            rw [e1a]
            walk_at "ev"
theorem h2a {x : Str} (h : isKindS x = true) : PyData.strOk x = true := by
 unfold isKindS at h
 simp only [h6e, decide_eq_true_eq, i2e] at h
 show x.cps.all (fun c => decide (c < 0x110000)) = true
 rw [← Array.all_toList, i2e]
 intro c hc
 have h1 := h.2.2 c hc
 have h2 : ∀ c ∈ ("abcdefghijklmnopqrstuvwxyz" : Str).cps.toList, c < 0x110000 := by decide +kernel
 exact decide_eq_true (h2 c h1)
def lookP (ps : List P2) (n : Int) : Option Str := (ps.find? fun p => p.1 == n).map (·.2)
theorem k3b {ps : List P2} {i : Int} : lookD (ptsK ps) (.inl i) = (lookP ps i).map .str := by
  unfold lookD lookP ptsK
  induction ps with
  | nil => rfl
  | cons p ps ih =>
    rw [h3e, i9e, i9e]
    by_cases h : p.1 = i
    · rw [show decide ((Sum.inl p.1 : Key) = Sum.inl i) = true from decide_eq_true (by rw [h]), show (p.1 == i) = true from by simpa using h]
      rfl
    · rw [show decide ((Sum.inl p.1 : Key) = Sum.inl i) = false from decide_eq_false (fun z => h (Sum.inl.inj z)), show (p.1 == i) = false from by simpa using h]
      exact ih
theorem d3d {ps : List P2} {i : Int} : (lookP ps i).isSome = hasP ps i := by
 rw [← w7b, k3b, l7e]
theorem w7a {ps : List P2} {i : Int} {x : Str} (h : lookP ps i = some x) : (i, x) ∈ ps := by
 unfold lookP at h
 obtain ⟨p, h1, h2⟩ := Option.map_eq_some_iff.mp h
 have := List.find?_some h1
 have e : p.1 = i := by simpa using this
 have m := m0e h1
 rw [show (i, x) = p from by rw [← e, ← h2]]
 exact m
theorem r4c {ps : List P2} {i : Int} {x : Str} (h : lookP ps i = some x) : opIxD (.dK (ptsK ps)) (.int i) = some (.str x) := by
 show (some (lookD (ptsK ps) (.inl i))).bind id = _
 rw [k3b, h]
 rfl
abbrev T3 := Str × Int × Int
def t3D (t : T3) : D := .tup [.str t.1, .int t.2.1, .int t.2.2]
def tsK (ts : List T4) : List (Key × D) := ts.map fun t => (.inl t.1, t3D t.2)
def lookT (ts : List T4) (n : Int) : Option T3 := (ts.find? fun p => p.1 == n).map (·.2)
def hasT (ts : List T4) (n : Int) : Bool := ts.any fun p => p.1 == n
theorem n0a {ts : List T4} {i : Int} : lookD (tsK ts) (.inl i) = (lookT ts i).map t3D := by
  unfold lookD lookT tsK
  induction ts with
  | nil => rfl
  | cons p ps ih =>
    rw [h3e, i9e, i9e]
    by_cases h : p.1 = i
    · rw [show decide ((Sum.inl p.1 : Key) = Sum.inl i) = true from decide_eq_true (by rw [h]), show (p.1 == i) = true from by simpa using h]
      rfl
    · rw [show decide ((Sum.inl p.1 : Key) = Sum.inl i) = false from decide_eq_false (fun z => h (Sum.inl.inj z)), show (p.1 == i) = false from by simpa using h]
      exact ih
theorem r5c {α : Type} {p : α → Bool} : ∀ {xs : List α}, (xs.find? p).isSome = xs.any p
  | [] => rfl
  | x :: xs => by
    rw [i9e, l4e]
    cases p x with
    | true => rfl
    | false => rw [m7e]; exact r5c
theorem k4b {ts : List T4} {i : Int} : (lookT ts i).isSome = hasT ts i := by
 unfold lookT hasT
 rw [l7e, r5c]
theorem d9c {ts : List T4} {i : Int} {x : T3} (h : lookT ts i = some x) : (i, x) ∈ ts := by
 unfold lookT at h
 obtain ⟨p, h1, h2⟩ := Option.map_eq_some_iff.mp h
 have := List.find?_some h1
 have e : p.1 = i := by simpa using this
 have m := m0e h1
 rw [show (i, x) = p from by rw [← e, ← h2]]
 exact m
theorem d4d {ts : List T4} {i : Int} {x : T3} (h : lookT ts i = some x) : opIxD (.dK (tsK ts)) (.int i) = some (t3D x) := by
 show (some (lookD (tsK ts) (.inl i))).bind id = _
 rw [n0a, h]
 rfl
theorem o2b {ts : List T4} {i : Int} : opInD true (.int i) (.dK (tsK ts)) = some (.bl (!hasT ts i)) := by
 show some (D.bl (!(lookD (tsK ts) (.inl i)).isSome)) = _
 rw [n0a, l7e, k4b]
theorem w4d {ts : List T4} {i : Int} : opInD false (.int i) (.dK (tsK ts)) = some (.bl (hasT ts i)) := by
 show some (D.bl ((lookD (tsK ts) (.inl i)).isSome)) = _
 rw [n0a, l7e, k4b]
theorem e0c {P : D} {ts : List T4} (nt : ts.length ≤ 600) (tr : (ts.map (·.1)).Pairwise (· < ·)) : ∃ ρ', d_ties_of [.val (.tup [P, .tup (ts.map tieD)]), .no, .no, .no, .no, .no] = .rtN (.dK (tsK ts)) ρ' := by
 obtain ⟨I, hI⟩ : ∃ I : List T4 → List Sl → Prop, I = fun xs ρ => ∃ pre s2 s3 s4 s5, ts = pre ++ xs ∧ notBor (some s2) = true ∧ notBor (some s3) = true ∧ notBor (some s4) = true ∧ notBor (some s5) = true ∧ ρ = [.val (.tup [P, .tup (ts.map tieD)]), .own (.dK (tsK pre)), s2, s3, s4, s5] := ⟨_, rfl⟩
 refine b0d ?_
 unfold d_ties_of
 walk_at "ev"
 refine v2a I ?_ ?_ ?_
 ·rw [hI]
  exact ⟨[], _, _, _, _, rfl, rfl, rfl, rfl, rfl, rfl⟩
 ·intro x xs ρ h
  rw [hI] at h
  obtain ⟨pre, s2, s3, s4, s5, hx, n2, n3, n4, n5, rfl⟩ := h
  have g : Hid (I xs [.val (.tup [P, .tup (ts.map tieD)]), .own (.dK (tsK (pre ++ [x]))), .val (.int x.1), .val (.str x.2.1), .val (.int x.2.2.1), .val (.int x.2.2.2)]) := ⟨by
   rw [hI]
   exact ⟨pre ++ [x], _, _, _, _, by rw [hx, h4e]; rfl, rfl, rfl, rfl, rfl, rfl⟩⟩
  have hn : ∀ kv ∈ tsK pre, kv.1 ≠ .inl x.1 := fun kv hkv e => by
   obtain ⟨p, hp, e2⟩ := List.mem_map.mp hkv
   rw [← e2] at e
   have e3 : p.1 = x.1 := Sum.inl.inj e
   rw [hx, i4e, h3e, List.pairwise_append] at tr
   have := tr.2.2 p.1 (List.mem_map.mpr ⟨p, hp, rfl⟩) x.1 h1e
   omega
  have hl : (tsK pre).length ≤ 100000 := by
   unfold tsK
   rw [g8e]
   have := congrArg List.length hx
   rw [g9e] at this
   omega
  have hp : opPutD (.dK (tsK pre)) (.int x.1) (.tup [.str x.2.1, .int x.2.2.1, .int x.2.2.2]) = some (.dK (tsK (pre ++ [x]))) := by
   show (if (tsK pre).length ≤ 100000 then some (D.dK (putD (tsK pre) (.inl x.1) (t3D x.2))) else none) = _
   rw [if_pos hl, d0d hn]
   unfold tsK
   rw [i4e]
   rfl
  have hq : tieD x = .tup [.int x.1, .str x.2.1, .int x.2.2.1, .int x.2.2.2] := id rfl
  clear hI hx hn hl tr
  exists tsK (pre ++ [x]), k2
  exists tsK pre, k1
  exists ts.map tieD, zz
  walk_at "ev"
  exact g.out
 ·intro ρ h
  rw [hI] at h
  obtain ⟨pre, s2, s3, s4, s5, hx, n2, n3, n4, n5, rfl⟩ := h
  rw [h5e] at hx
  subst hx
  clear hI
  exists ts.map tieD, zz
  walk_at "ev"
def okPt (lp rp : List P2) (n : Int) : Bool := match lookP lp n, lookP rp n with
 | some a, some b => a == b
 | _, _ => false
def ptStand (lp rp : List P2) (kp : List Int) : Bool := kp.all (okPt lp rp) && (lp.filter fun p => hasP rp p.1 && !kp.contains p.1).isEmpty
theorem r6c {i : Int} : ∀ {xs : List Int}, inD (.int i) (xs.map D.int) = xs.contains i
  | [] => rfl
  | y :: ys => by
    have ih := r6c (i := i) (xs := ys)
    unfold inD at ih ⊢
    rw [h3e, l4e, List.contains_cons, ih]
    congr 1
    show (y == i) = (i == y)
    exact Bool.eq_iff_iff.mpr ⟨fun h => by simpa using (eq_of_beq h).symm, fun h => by simpa using (eq_of_beq h).symm⟩
theorem d5d {xs : List Int} {i : Int} {row : D} (h : row = .tup (xs.map .int) ∨ row = .lst (xs.map .int)) : opIn true (.int i) row = some (.bl (!xs.contains i)) := by
  have hf : ∀ {ys : List Int}, fits 60 (ys.map D.int) = true := fun {ys} => by
    induction ys with
    | nil => simp [fits]
    | cons y ys ih =>
      rw [h3e]
      unfold fits
      rw [ih]
      rfl
  have hi := r6c (xs := xs) (i := i)
  rcases h with h | h <;> rw [h]
  · show (if fit 60 (.int i) && fits 60 (xs.map D.int) then some (D.bl (!inD (.int i) (xs.map D.int))) else none) = _
    rw [hf, hi]
    rfl
  · show (if fit 60 (.int i) && fits 60 (xs.map D.int) then some (D.bl (!inD (.int i) (xs.map D.int))) else none) = _
    rw [hf, hi]
    rfl
theorem l3a {xs : List Int} {i : Int} : opIn true (.int i) (.tup (xs.map .int)) = some (.bl (!xs.contains i)) := d5d (.inl rfl)
theorem d6d {x y : Str} (hx : PyData.strOk x = true) (hy : PyData.strOk y = true) : opNe (.str x) (.str y) = some (.bl (!(x == y))) := by
 show (if fit 60 (.str x) && fit 60 (.str y) then some (D.bl (!eqD (.str x) (.str y))) else none) = _
 rw [show fit 60 (.str x) = true from hx, show fit 60 (.str y) = true from hy]
 rfl
theorem k5b {xs : List Int} : opEq (.lst (xs.map .int)) (.lst []) = some (.bl xs.isEmpty) := by
  have hf : ∀ {ys : List Int}, fits 59 (ys.map D.int) = true := fun {ys} => by
    induction ys with
    | nil => simp [fits]
    | cons y ys ih =>
      rw [h3e]
      unfold fits
      rw [ih]
      rfl
  show (if fit 60 (.lst (xs.map D.int)) && fit 60 (.lst []) then some (D.bl (eqD (.lst (xs.map D.int)) (.lst []))) else none) = _
  rw [show fit 60 (.lst (xs.map D.int)) = true from hf, show fit 60 (.lst []) = true from rfl]
  cases xs <;> rfl
theorem k6b {lp rp : List P2} {lt rt : List T4} {kp : List Int} (gl : Good lp lt) (gr : Good rp rt) : ∃ ρ', d_points_stand [.val (netD lp lt), .val (netD rp rt), .val (.tup (kp.map .int)), .no, .no, .no] = .rt (.bl (ptStand lp rp kp)) ρ' := by
  obtain ⟨ρ1, e1⟩ := l7a (ts := lt) gl.np gl.pr
  obtain ⟨ρ2, e2⟩ := l7a (ts := rt) gr.np gr.pr
  obtain ⟨I, hI⟩ : ∃ I : List Int → List Sl → Prop, I = fun xs ρ => ∃ pre s, kp = pre ++ xs ∧ isFree (some s) = true ∧ pre.all (okPt lp rp) = true ∧ ρ = [.val (netD lp lt), .val (netD rp rt), .val (.tup (kp.map .int)), .val (.dK (ptsK lp)), .val (.dK (ptsK rp)), s] := ⟨_, rfl⟩
  refine e8a ?_
  unfold d_points_stand
  walk_at "ev"
  refine v2a I ?_ ?_ ?_
  · rw [hI]
    exact ⟨[], _, rfl, rfl, rfl, rfl⟩
  · intro x xs ρ h
    rw [hI] at h
    obtain ⟨pre, s, hx, hs, ha, rfl⟩ := h
    have hs := f8a hs
    have g : okPt lp rp x = true → Hid (I xs [.val (netD lp lt), .val (netD rp rt), .val (.tup (kp.map .int)), .val (.dK (ptsK lp)), .val (.dK (ptsK rp)), .val (.int x)]) := fun h => ⟨by
      rw [hI]
      exact ⟨pre ++ [x], _, by rw [hx, h4e]; rfl, rfl, by rw [m4e, ha, k5e, h]; rfl, rfl⟩⟩
    have b : okPt lp rp x = false → ptStand lp rp kp = false := fun h => by
      unfold ptStand
      rw [hx, m4e, k5e, h]
      simp
    have n1 := w6a (ps := lp) (i := x)
    have n2 := w6a (ps := rp) (i := x)
    rw [← d3d] at n1 n2
    unfold okPt at g b
    cases q1 : lookP lp x with
    | none =>
      rw [q1] at b n1
      replace b := b rfl
      replace n1 : opInD true (.int x) (.dK (ptsK lp)) = some (.bl true) := n1
      clear g hI hx ha n2 e1 e2 q1 gl gr
      exists netD lp lt, z1
      exists netD rp rt, z2
      exists ptsK lp, z3
      exists ptsK rp, z4
      exists kp.map D.int, z5
      walk_at "ev"
    | some a =>
      have i1 := r4c q1
      have k1 := h2a (gl.pk _ (w7a q1)).2
      cases q2 : lookP rp x with
      | none =>
        rw [q1, q2] at b
        rw [q1] at n1
        rw [q2] at n2
        replace b := b rfl
        replace n1 : opInD true (.int x) (.dK (ptsK lp)) = some (.bl false) := n1
        replace n2 : opInD true (.int x) (.dK (ptsK rp)) = some (.bl true) := n2
        clear g hI hx ha e1 e2 q1 gl gr q2 i1 k1
        exists netD lp lt, z1
        exists netD rp rt, z2
        exists ptsK lp, z3
        exists ptsK rp, z4
        exists kp.map D.int, z5
        walk_at "ev"
      | some c =>
        have i2 := r4c q2
        have k2 := h2a (gr.pk _ (w7a q2)).2
        rw [q1, q2] at b g
        rw [q1] at n1
        rw [q2] at n2
        replace n1 : opInD true (.int x) (.dK (ptsK lp)) = some (.bl false) := n1
        replace n2 : opInD true (.int x) (.dK (ptsK rp)) = some (.bl false) := n2
        replace g : (a == c) = true → _ := g
        replace b : (a == c) = false → _ := b
        have n3 := d6d k1 k2
        clear hI hx ha e1 e2 q1 gl gr q2 k1 k2
        exists netD lp lt, z1
        exists netD rp rt, z2
        exists ptsK lp, z3
        exists ptsK rp, z4
        exists kp.map D.int, z5
        exists (a == c), ac
        cases ac with
        | true =>
          replace g := g rfl
          clear b
          walk_at "ev"
          exact g.out
        | false =>
          replace b := b rfl
          clear g
          walk_at "ev"
  · intro ρ h
    rw [hI] at h
    obtain ⟨pre, s, hx, hs, ha, rfl⟩ := h
    rw [h5e] at hx
    subst hx
    have c1 : ∀ ρ : List Sl, ρ = [.val (netD lp lt), .val (netD rp rt), .val (.tup (kp.map .int)), .val (.dK (ptsK lp)), .val (.dK (ptsK rp)), s] → compL (gN 5) (mAnd (tVal (eBin (opInD false) (eVar 5) (eVar 4))) (tVal (eBin (opIn true) (eVar 5) (eVar 2)))) (eVar 5) [5] (mkKeys (ptsK lp)) [] ρ = .ok (((lp.filter fun p => hasP rp p.1 && !kp.contains p.1).map (·.1)).map .int) ρ := fun ρ hρ => by
      have e : mkKeys (ptsK lp) = lp.map fun p => D.int p.1 := by
        unfold mkKeys ptsK
        rw [i6e]
        rfl
      rw [e, m3a (p := fun p => hasP rp p.1 && !kp.contains p.1) (f := fun p : P2 => D.int p.1) (by rw [hρ]; exact hs) (by have := gl.np; omega) (fun p hp => ?_) (fun p hp _ => ?_), i6e]
      · rfl
      · have n1 := c1e (ps := rp) (i := p.1)
        have n2 := l3a (xs := kp) (i := p.1)
        rw [hρ]
        clear hI ha gl gr e1 e2 hρ e
        exists netD lp lt, z1
        exists netD rp rt, z2
        exists ptsK lp, z3
        exists ptsK rp, z4
        exists kp.map D.int, z5
        exists kp.contains p.1, b2
        exists hasP rp p.1, b1
        cases b1 <;> walk_at "ev"
      · rw [hρ]
        clear hI ha gl gr e1 e2 hρ e
        exists netD lp lt, z1
        exists netD rp rt, z2
        exists ptsK lp, z3
        exists ptsK rp, z4
        exists kp.map D.int, z5
        walk_at "ev"
    have c2 := c1 _ rfl
    have c3 := k5b (xs := (lp.filter fun p => hasP rp p.1 && !kp.contains p.1).map (·.1))
    have c4 : ptStand lp rp kp = ((lp.filter fun p => hasP rp p.1 && !kp.contains p.1).map (·.1)).isEmpty := by
      unfold ptStand
      rw [ha, k2e, List.isEmpty_map]
    rw [c4]
    clear c1 c4 hI ha e1 e2 gl gr
    exists (lp.filter fun p => hasP rp p.1 && !kp.contains p.1).map (·.1), ff
    exists netD lp lt, z1
    exists netD rp rt, z2
    exists ptsK lp, z3
    exists ptsK rp, z4
    exists kp.map D.int, z5
    exists ff.map D.int, z6
    walk_at "ev"
def okTi (lt rt : List T4) (kp : List Int) (n : Int) : Bool := match lookT lt n, lookT rt n with
 | some a, some b => decide (a = b) && (kp.contains a.2.1 && kp.contains a.2.2)
 | _, _ => false
def tiStand (lt rt : List T4) (kp kt : List Int) : Bool := kt.all (okTi lt rt kp) && (lt.filter fun t => hasT rt t.1 && !kt.contains t.1).isEmpty
theorem f6e {x y : T3} (hx : PyData.strOk x.1 = true) (hy : PyData.strOk y.1 = true) : opNe (t3D x) (t3D y) = some (.bl (!decide (x = y))) := by
 show (if fit 60 (t3D x) && fit 60 (t3D y) then some (D.bl (!eqD (t3D x) (t3D y))) else none) = _
 have f1 : fit 60 (t3D x) = true := by
  show fits 59 [.str x.1, .int x.2.1, .int x.2.2] = true
  unfold fits fits fits fits
  rw [show fit 59 (.str x.1) = true from hx]
  rfl
 have f2 : fit 60 (t3D y) = true := by
  show fits 59 [.str y.1, .int y.2.1, .int y.2.2] = true
  unfold fits fits fits fits
  rw [show fit 59 (.str y.1) = true from hy]
  rfl
 rw [f1, f2]
 have e : eqD (t3D x) (t3D y) = decide (x = y) := by
  show eqDs [.str x.1, .int x.2.1, .int x.2.2] [.str y.1, .int y.2.1, .int y.2.2] = _
  have : eqDs [.str x.1, .int x.2.1, .int x.2.2] [.str y.1, .int y.2.1, .int y.2.2] = ((x.1 == y.1) && ((x.2.1 == y.2.1) && ((x.2.2 == y.2.2) && true))) := rfl
  rw [this]
  obtain ⟨a, b, c⟩ := x
  obtain ⟨a', b', c'⟩ := y
  by_cases h1 : a = a'
  ·by_cases h2 : b = b'
   ·by_cases h3 : c = c'
    ·subst h1; subst h2; subst h3; simp
    ·rw [decide_eq_false (fun z => h3 (by cases z; rfl))]
     simp [h3]
   ·rw [decide_eq_false (fun z => h2 (by cases z; rfl))]
    simp [h2]
  ·rw [decide_eq_false (fun z => h1 (by cases z; rfl))]
   simp [h1]
 rw [e]
 rfl
theorem w8b {lp rp : List P2} {lt rt : List T4} {kp kt : List Int} (gl : Good lp lt) (gr : Good rp rt) : ∃ ρ', d_ties_stand [.val (netD lp lt), .val (netD rp rt), .val (.tup [.tup (kp.map .int), .tup (kt.map .int)]), .no, .no, .no, .no, .no] = .rt (.bl (tiStand lt rt kp kt)) ρ' := by
  obtain ⟨ρ1, e1⟩ := e0c (P := .tup (lp.map ptD)) gl.nt gl.tr
  obtain ⟨ρ2, e2⟩ := e0c (P := .tup (rp.map ptD)) gr.nt gr.tr
  obtain ⟨I, hI⟩ : ∃ I : List Int → List Sl → Prop, I = fun xs ρ => ∃ pre s, kt = pre ++ xs ∧ isFree (some s) = true ∧ pre.all (okTi lt rt kp) = true ∧ ρ = [.val (netD lp lt), .val (netD rp rt), .val (.tup [.tup (kp.map .int), .tup (kt.map .int)]), .val (.dK (tsK lt)), .val (.dK (tsK rt)), s, .val (.tup (kp.map .int)), .val (.tup (kt.map .int))] := ⟨_, rfl⟩
  refine e8a ?_
  unfold d_ties_stand
  have z1 : D.tup [.tup (lp.map ptD), .tup (lt.map tieD)] = netD lp lt := rfl
  have z2 : D.tup [.tup (rp.map ptD), .tup (rt.map tieD)] = netD rp rt := rfl
  rw [z1] at e1
  rw [z2] at e2
  clear z1 z2
  walk_at "ev"
  refine v2a I ?_ ?_ ?_
  · rw [hI]
    exact ⟨[], _, rfl, rfl, rfl, rfl⟩
  · intro x xs ρ h
    rw [hI] at h
    obtain ⟨pre, s, hx, hs, ha, rfl⟩ := h
    have hs := f8a hs
    have g : okTi lt rt kp x = true → Hid (I xs [.val (netD lp lt), .val (netD rp rt), .val (.tup [.tup (kp.map .int), .tup (kt.map .int)]), .val (.dK (tsK lt)), .val (.dK (tsK rt)), .val (.int x), .val (.tup (kp.map .int)), .val (.tup (kt.map .int))]) := fun h => ⟨by
      rw [hI]
      exact ⟨pre ++ [x], _, by rw [hx, h4e]; rfl, rfl, by rw [m4e, ha, k5e, h]; rfl, rfl⟩⟩
    have b : okTi lt rt kp x = false → tiStand lt rt kp kt = false := fun h => by
      unfold tiStand
      rw [hx, m4e, k5e, h]
      simp
    have n1 := o2b (ts := lt) (i := x)
    have n2 := o2b (ts := rt) (i := x)
    rw [← k4b] at n1 n2
    unfold okTi at g b
    cases q1 : lookT lt x with
    | none =>
      rw [q1] at b n1
      replace b := b rfl
      replace n1 : opInD true (.int x) (.dK (tsK lt)) = some (.bl true) := n1
      clear g hI hx ha n2 e1 e2 q1 gl gr
      exists netD lp lt, z1
      exists netD rp rt, z2
      exists tsK lt, z3
      exists tsK rt, z4
      exists kp.map D.int, z5
      exists kt.map D.int, z6
      walk_at "ev"
    | some a =>
      have i1 := d4d q1
      have k1 := h2a (gl.tk _ (d9c q1)).2.1
      cases q2 : lookT rt x with
      | none =>
        rw [q1, q2] at b
        rw [q1] at n1
        rw [q2] at n2
        replace b := b rfl
        replace n1 : opInD true (.int x) (.dK (tsK lt)) = some (.bl false) := n1
        replace n2 : opInD true (.int x) (.dK (tsK rt)) = some (.bl true) := n2
        clear g hI hx ha e1 e2 q1 gl gr q2 i1 k1
        exists netD lp lt, z1
        exists netD rp rt, z2
        exists tsK lt, z3
        exists tsK rt, z4
        exists kp.map D.int, z5
        exists kt.map D.int, z6
        walk_at "ev"
      | some c =>
        have i2 := d4d q2
        have k2 := h2a (gr.tk _ (d9c q2)).2.1
        rw [q1, q2] at b g
        rw [q1] at n1
        rw [q2] at n2
        replace n1 : opInD true (.int x) (.dK (tsK lt)) = some (.bl false) := n1
        replace n2 : opInD true (.int x) (.dK (tsK rt)) = some (.bl false) := n2
        replace g : (decide (a = c) && (kp.contains a.2.1 && kp.contains a.2.2)) = true → _ := g
        replace b : (decide (a = c) && (kp.contains a.2.1 && kp.contains a.2.2)) = false → _ := b
        have n3 := f6e k1 k2
        have n4 := l3a (xs := kp) (i := a.2.1)
        have n5 := l3a (xs := kp) (i := a.2.2)
        have j1 : opIx (t3D a) (.int 1) = some (.int a.2.1) := id rfl
        have j2 : opIx (t3D a) (.int 2) = some (.int a.2.2) := id rfl
        clear hI hx ha e1 e2 q1 gl gr q2 k1 k2
        exists netD lp lt, z1
        exists netD rp rt, z2
        exists tsK lt, z3
        exists tsK rt, z4
        exists kp.map D.int, z5
        exists kt.map D.int, z6
        exists kp.contains a.2.1, b1
        exists kp.contains a.2.2, b2
        exists t3D a, ta
        exists t3D c, tc
        exists decide (a = c), ac
        cases ac <;> first | (replace b := b rfl; clear g; walk_at "ev"; done) | skip
        cases b1 <;> first | (replace b := b rfl; clear g; walk_at "ev"; done) | skip
        cases b2 <;> first | (replace b := b rfl; clear g; walk_at "ev"; done) | skip
        replace g := g rfl
        clear b
        walk_at "ev"
        exact g.out
  · intro ρ h
    rw [hI] at h
    obtain ⟨pre, s, hx, hs, ha, rfl⟩ := h
    rw [h5e] at hx
    subst hx
    have c1 : ∀ ρ : List Sl, ρ = [.val (netD lp lt), .val (netD rp rt), .val (.tup [.tup (kp.map .int), .tup (kt.map .int)]), .val (.dK (tsK lt)), .val (.dK (tsK rt)), s, .val (.tup (kp.map .int)), .val (.tup (kt.map .int))] → compL (gN 5) (mAnd (tVal (eBin (opInD false) (eVar 5) (eVar 4))) (tVal (eBin (opIn true) (eVar 5) (eVar 7)))) (eVar 5) [5] (mkKeys (tsK lt)) [] ρ = .ok (((lt.filter fun p => hasT rt p.1 && !kt.contains p.1).map (·.1)).map .int) ρ := fun ρ hρ => by
      have e : mkKeys (tsK lt) = lt.map fun p => D.int p.1 := by
        unfold mkKeys tsK
        rw [i6e]
        rfl
      rw [e, m3a (p := fun p => hasT rt p.1 && !kt.contains p.1) (f := fun p : T4 => D.int p.1) (by rw [hρ]; exact hs) (by have := gl.nt; omega) (fun p hp => ?_) (fun p hp _ => ?_), i6e]
      · rfl
      · have n1 := w4d (ts := rt) (i := p.1)
        have n2 := l3a (xs := kt) (i := p.1)
        rw [hρ]
        clear hI ha gl gr e1 e2 hρ e
        exists netD lp lt, z1
        exists netD rp rt, z2
        exists tsK lt, z3
        exists tsK rt, z4
        exists kp.map D.int, z5
        exists kt.map D.int, z6
        exists kt.contains p.1, b2
        exists hasT rt p.1, b1
        cases b1 <;> walk_at "ev"
      · rw [hρ]
        clear hI ha gl gr e1 e2 hρ e
        exists netD lp lt, z1
        exists netD rp rt, z2
        exists tsK lt, z3
        exists tsK rt, z4
        exists kp.map D.int, z5
        exists kt.map D.int, z6
        walk_at "ev"
    have c2 := c1 _ rfl
    have c3 := k5b (xs := (lt.filter fun p => hasT rt p.1 && !kt.contains p.1).map (·.1))
    have c4 : tiStand lt rt kp kt = ((lt.filter fun p => hasT rt p.1 && !kt.contains p.1).map (·.1)).isEmpty := by
      unfold tiStand
      rw [ha, k2e, List.isEmpty_map]
    rw [c4]
    clear c1 c4 hI ha e1 e2 gl gr
    exists (lt.filter fun p => hasT rt p.1 && !kt.contains p.1).map (·.1), ff
    exists netD lp lt, z1
    exists netD rp rt, z2
    exists tsK lt, z3
    exists tsK rt, z4
    exists kp.map D.int, z5
    exists kt.map D.int, z6
    exists ff.map D.int, z7
    walk_at "ev"
theorem k7b {ps : List P2} {ts : List T4} : d_is_small [.val (netD ps ts)] = .rt (.bl (decide (ps.length ≤ 5) && decide (ts.length ≤ 5))) [.val (netD ps ts)] := by
 have h1 : decide (ps.length ≤ 5) = decide (((ps.map ptD).length : Int) ≤ 5) := decide_eq_decide.mpr (by rw [g8e]; omega)
 have h2 : decide (ts.length ≤ 5) = decide (((ts.map tieD).length : Int) ≤ 5) := decide_eq_decide.mpr (by rw [g8e]; omega)
 rw [h1, h2]
 clear h1 h2
 unfold d_is_small netD
 generalize ps.map ptD = xs
 generalize ts.map tieD = ys
 cases q : decide ((xs.length : Int) ≤ 5) <;> walk_at "ev"
abbrev Ky := List Key
def k1 : Key → D
 | .inl i => .int i
 | .inr x => .str x
def keyD (k : Ky) : D := .tup (k.map k1)
def kOk (x : Str) : Prop := PyData.strOk x = true ∧ x.length ≤ 1000
def keyOk1 : Key → Bool
 | .inl _ => true
 | .inr x => PyData.strOk x
theorem w5d {k : Key} : keyK (k1 k) = some k := by cases k <;> rfl
theorem e1c : ∀ {k : Ky}, keysK (k.map k1) = some k
  | [] => rfl
  | k :: ks => by
    rw [h3e]
    unfold keysK
    rw [w5d, e1c]
def NE (A : List Ky) : Prop := ∀ k ∈ A, k ≠ []
theorem d7d {k : Ky} (h : k ≠ []) : keyT (keyD k) = some k := by
 cases k with
 | nil => exact (h rfl).elim
 | cons a r => exact e1c (k := a :: r)
theorem c2e {a b : Key} : eqD (k1 a) (k1 b) = decide (a = b) := by
 cases a <;> cases b
 ·rename_i i j
  show (i == j) = _
  by_cases h : i = j
  ·subst h; simp
  ·have : ¬ (Sum.inl i : Key) = .inl j := fun e => h (Sum.inl.inj e)
   rw [decide_eq_false this, beq_eq_false_iff_ne]
   exact h
 ·rfl
 ·rfl
 ·rename_i x y
  show (x == y) = _
  by_cases h : x = y
  ·subst h; simp
  ·have : ¬ (Sum.inr x : Key) = .inr y := fun e => h (Sum.inr.inj e)
   rw [decide_eq_false this, beq_eq_false_iff_ne]
   exact h
theorem d8d : ∀ {a b : Ky}, eqDs (a.map k1) (b.map k1) = decide (a = b)
  | [], [] => by simp [eqDs]
  | [], _ :: _ => by simp [eqDs]
  | _ :: _, [] => by simp [eqDs]
  | x :: xs, y :: ys => by
    rw [h3e, h3e]
    unfold eqDs
    rw [c2e, d8d]
    by_cases h1 : x = y <;> by_cases h2 : xs = ys <;> simp [h1, h2]
theorem r7c {a b : Ky} : eqD (keyD a) (keyD b) = decide (a = b) := by
 show eqDs (a.map k1) (b.map k1) = _
 exact d8d
def inK (k : Ky) (B : List Ky) : Bool := B.any fun x => decide (x = k)
theorem w6d {k : Ky} : inK k [] = false := rfl
theorem n4d {k x : Ky} {B : List Ky} : inK k (x :: B) = (decide (x = k) || inK k B) := l4e
def kset (ks : List Ky) : List (Ky × D) := ks.foldl (fun kvs k => putD kvs k (.bl true)) []
theorem e2c {kvs : List (Ky × D)} {j : Ky} : (lookD kvs j).isSome = kvs.any fun kv => decide (kv.1 = j) := by
 unfold lookD
 rw [l7e, List.any_eq]
 rw [n8e, List.find?_isSome, decide_eq_true_eq]
theorem d9d {kvs : List (Ky × D)} {k j : Ky} {v : D} : (lookD (putD kvs k v) j).isSome = (decide (k = j) || (lookD kvs j).isSome) := by
 rw [e2c, e2c]
 unfold putD
 split
 ·rename_i h
  rw [List.any_map]
  have e : ((fun kv : Ky × D => decide (kv.1 = j)) ∘ fun kv => if kv.1 = k then (kv.1, v) else kv) = fun kv => decide (kv.1 = j) := by
   funext kv
   show decide ((if kv.1 = k then (kv.1, v) else kv).1 = j) = _
   by_cases q : kv.1 = k
   ·rw [if_pos q]
   ·rw [if_neg q]
  rw [e]
  by_cases q : k = j
  ·subst q
   rw [h]
   simp
  ·rw [decide_eq_false q, m7e]
 ·rw [List.any_append]
  show ((kvs.any fun kv => decide (kv.1 = j)) || (decide (k = j) || false)) = _
  rw [m6e, Bool.or_comm]
theorem e3c {j : Ky} : ∀ {ks : List Ky} {kvs : List (Ky × D)}, (lookD (ks.foldl (fun kvs k => putD kvs k (.bl true)) kvs) j).isSome = (inK j ks || (lookD kvs j).isSome)
  | [], kvs => by rw [w6d, m7e]; rfl
  | k :: ks, kvs => by
    rw [List.foldl_cons, e3c, d9d, n4d]
    cases decide (k = j) <;> cases inK j ks <;> rfl
theorem n5d {kvs : List (Ky × D)} {k : Ky} {v : D} : (putD kvs k v).length ≤ kvs.length + 1 := by
 unfold putD
 split
 ·rw [g8e]; omega
 ·rw [g9e, h8e]; omega
theorem o3b {row oth : D} : ∀ {ks : List Ky} {kvs : List (Ky × D)} {s : Sl}, NE ks → kvs.length + ks.length ≤ 90000 → isFree (some s) = true → ∃ s', isFree (some s') = true ∧ loop (gN 3) (sPutAt isDct 2 opPutD (eVar 3) (eC (.bl true))) (ks.map keyD) [.val row, .val oth, .own (.dT kvs), s] = .nx [.val row, .val oth, .own (.dT (ks.foldl (fun kvs k => putD kvs k (.bl true)) kvs)), s']
  | [], kvs, s, _, _, hs => ⟨s, hs, rfl⟩
  | k :: ks, kvs, s, hne, hl, hs => by
    rw [h0e] at hl
    obtain ⟨s', f', ih⟩ := o3b (row := row) (oth := oth) (ks := ks) (kvs := putD kvs k (.bl true)) (s := .val (keyD k)) (fun x hx => hne x (h2e _ hx)) (by have := n5d (kvs := kvs) (k := k) (v := .bl true); omega) rfl
    refine ⟨s', f', ?_⟩
    have hp : opPutD (.dT kvs) (keyD k) (.bl true) = some (.dT (putD kvs k (.bl true))) := by
      show (match keyT (keyD k) with | some k => if kvs.length ≤ 100000 then some (D.dT (putD kvs k (.bl true))) else none | none => none) = _
      rw [d7d (hne k h1e)]
      show (if kvs.length ≤ 100000 then _ else _) = _
      rw [if_pos (by omega)]
    have hs := f8a hs
    rw [h3e, e1a, List.foldl_cons]
    clear hl f' hne
    walk_at "ev"
theorem n6d {kvs : List (Ky × D)} {k : Ky} (h : k ≠ []) : opInD true (keyD k) (.dT kvs) = some (.bl (!(lookD kvs k).isSome)) := by
 show (match keyT (keyD k) with | some k => some (lookD kvs k) | none => none).map _ = _
 rw [d7d h]
 rfl
def memK (B : List Ky) (d : D) : Bool := match keyT d with
 | some k => inK k B
 | none => false
theorem e0d {B : List Ky} {k : Ky} (h : k ≠ []) : memK B (keyD k) = inK k B := by
 unfold memK
 rw [d7d h]
theorem r8c {B : List Ky} : ∀ {A : List Ky}, NE A → (A.map keyD).all (memK B) = A.all fun k => inK k B
 | [], _ => rfl
 | k :: A, h => by rw [h3e, k5e, k5e, e0d (h k h1e), r8c fun x hx => h x (h2e _ hx)]
theorem k8b {A B : List Ky} (nA : NE A) (nB : NE B) (hB : B.length ≤ 80000) : ∃ ρ', d_are_among [.val (.tup (A.map keyD)), .val (.tup (B.map keyD)), .no, .no] = .rt (.bl (A.all fun k => inK k B)) ρ' := by
  obtain ⟨s, hs, h1⟩ := o3b (row := .tup (A.map keyD)) (oth := .tup (B.map keyD)) (ks := B) (kvs := []) (s := .no) nB (by simpa using (by omega : B.length ≤ 90000)) rfl
  generalize hK : List.foldl (fun kvs k => putD kvs k (.bl true)) ([] : List (Ky × D)) B = K at h1
  have hn : ∀ k, k ≠ [] → opInD true (keyD k) (.dT K) = some (.bl (!inK k B)) := fun k hk => by
    rw [n6d hk, ← hK, e3c]
    show some (D.bl (!(inK k B || false))) = _
    rw [m6e]
  have lk := j1b (i := 3) (b := sIf (tView (tVal (eBin (opInD true) (eVar 3) (eVar 2)))) (sRet (eC (.bl false))) sSkip) (P := memK B) (items := A.map keyD) (ρ := [.val (.tup (A.map keyD)), .val (.tup (B.map keyD)), .own (.dT K), s]) (f8a hs)
    (fun d hd hp => by
      obtain ⟨k, hk, e⟩ := List.mem_map.mp hd
      subst e
      rw [e0d (nA k hk)] at hp
      have hn := hn k (nA k hk)
      rw [hp] at hn
      clear hd hp h1 hK hk nA nB
      exists keyD k, kd
      generalize List.map keyD A = xa
      generalize List.map keyD B = xb
      walk_at "ev")
    (fun d hd hp => by
      obtain ⟨k, hk, e⟩ := List.mem_map.mp hd
      subst e
      rw [e0d (nA k hk)] at hp
      have hn := hn k (nA k hk)
      rw [hp] at hn
      refine ⟨[.val (.tup (A.map keyD)), .val (.tup (B.map keyD)), .own (.dT K), .val (keyD k)], ?_⟩
      clear hd hp h1 hK hk nA nB
      exists keyD k, kd
      generalize List.map keyD A = xa
      generalize List.map keyD B = xb
      walk_at "ev")
  rw [r8c nA] at lk
  cases hq : (A.all fun k => inK k B) with
  | true =>
    obtain ⟨s2, _, h2⟩ := lk.1 hq
    refine z2a ?_
    clear lk hn hK hs hq hB nA nB
    unfold d_are_among
    exists List.map keyD A, xa
    exists List.map keyD B, xb
    walk_at "ev"
  | false =>
    obtain ⟨ρ', h2⟩ := lk.2 hq
    refine z2a ?_
    clear lk hn hK hs hq hB nA nB
    unfold d_are_among
    exists List.map keyD A, xa
    exists List.map keyD B, xb
    walk_at "ev"
def netK (A B : List Ky) : D := .tup [.tup (A.map keyD), .tup (B.map keyD)]
def sub (A B : List Ky) : Bool := A.all fun k => inK k B
theorem e1d {A B C E : List Ky} (nA : NE A) (nB : NE B) (nC : NE C) (nE : NE E) (hC : C.length ≤ 80000) (hE : E.length ≤ 80000) : ∃ ρ', d_is_part [.val (netK A B), .val (netK C E)] = .rt (.bl (sub A C && sub B E)) ρ' := by
 obtain ⟨ρ1, h1⟩ := k8b (A := A) nA nC hC
 obtain ⟨ρ2, h2⟩ := k8b (A := B) nB nE hE
 unfold sub
 refine z2a ?_
 clear hC hE nA nB nC nE
 unfold d_is_part netK
 exists List.map keyD A, xa
 exists List.map keyD B, xb
 exists List.map keyD C, xc
 exists List.map keyD E, xe
 exists (A.all fun k => inK k C), q
 cases q <;> walk_at "ev"
def kP (p : P2) : Ky := [.inl p.1, .inr p.2]
def kT (t : T4) : Ky := [.inl t.1, .inr t.2.1, .inl t.2.2.1, .inl t.2.2.2]
theorem q9d {ps : List P2} {ts : List T4} : netD ps ts = netK (ps.map kP) (ts.map kT) := by
 unfold netD netK
 rw [i6e, i6e]
 rfl
theorem c3e {ps : List P2} : NE (ps.map kP) := fun k hk => by
 obtain ⟨p, _, e⟩ := List.mem_map.mp hk
 subst e
 exact fun z => by cases z
theorem c4e {ps : List T4} : NE (ps.map kT) := fun k hk => by
 obtain ⟨p, _, e⟩ := List.mem_map.mp hk
 subst e
 exact fun z => by cases z
def subP (A B : List P2) : Bool := A.all fun p => B.any fun q => decide (q = p)
def subT (A B : List T4) : Bool := A.all fun p => B.any fun q => decide (q = p)
theorem r0d {p q : P2} : kP q = kP p ↔ q = p := by
 obtain ⟨a, b⟩ := p
 obtain ⟨c, d⟩ := q
 unfold kP
 constructor
 ·intro h
  injection h with h1 h2
  injection h2 with h2 h3
  cases Sum.inl.inj h1
  cases Sum.inr.inj h2
  rfl
 ·intro h; cases h; rfl
theorem r1d {p q : T4} : kT q = kT p ↔ q = p := by
 obtain ⟨a, b, c, d⟩ := p
 obtain ⟨a', b', c', d'⟩ := q
 unfold kT
 constructor
 ·intro h
  injection h with h1 h2
  injection h2 with h2 h3
  injection h3 with h3 h4
  injection h4 with h4 h5
  cases Sum.inl.inj h1
  cases Sum.inr.inj h2
  cases Sum.inl.inj h3
  cases Sum.inl.inj h4
  rfl
 ·intro h; cases h; rfl
theorem f7e {A B : List P2} : sub (A.map kP) (B.map kP) = subP A B := by
 unfold sub subP inK
 rw [k7e]
 congr 1
 funext p
 show (B.map kP).any (fun x => decide (x = kP p)) = _
 rw [List.any_map]
 congr 1
 funext q
 exact decide_eq_decide.mpr r0d
theorem f8e {A B : List T4} : sub (A.map kT) (B.map kT) = subT A B := by
 unfold sub subT inK
 rw [k7e]
 congr 1
 funext p
 show (B.map kT).any (fun x => decide (x = kT p)) = _
 rw [List.any_map]
 congr 1
 funext q
 exact decide_eq_decide.mpr r1d
theorem w9c {A C : List P2} {B E : List T4} (hC : C.length ≤ 1000) (hE : E.length ≤ 1000) : ∃ ρ', d_is_part [.val (netD A B), .val (netD C E)] = .rt (.bl (subP A C && subT B E)) ρ' := by
 obtain ⟨ρ', e⟩ := e1d (A := A.map kP) (B := B.map kT) (C := C.map kP) (E := E.map kT) c3e c4e c3e c4e (by rw [g8e]; omega) (by rw [g8e]; omega)
 rw [f7e, f8e, ← q9d, ← q9d] at e
 exact ⟨ρ', e⟩
def forbB (lp : List P2) (lt : List T4) (d : D) : Bool := match netOf d with
 | some (fp, ft) => (subP lp fp && subT lt ft) && (decide ((fp.length : Int) - lp.length ≤ 2) && (decide ((ft.length : Int) - lt.length ≤ 2) && decide (0 < (fp.length : Int) - lp.length + ((ft.length : Int) - lt.length))))
 | none => false
theorem e4c {lp : List P2} {lt : List T4} {d : D} (gl : Good lp lt) (hk : kd d = true) : ∃ ρ', d_is_forbid [.val (netD lp lt), .val d, .no, .no] = .rt (.bl (forbB lp lt d)) ρ' := by
  obtain ⟨ρ1, e1⟩ := k2b hk
  unfold forbB
  cases q : netOf d with
  | none =>
    rw [q] at e1
    replace e1 : d_is_net [.val d] = .rt (.bl false) ρ1 := e1
    dsimp only
    clear q hk gl
    refine e8a ?_
    unfold d_is_forbid
    generalize netD lp lt = z1
    walk_at "ev"
  | some p =>
    obtain ⟨fp, ft⟩ := p
    rw [q] at e1
    replace e1 : d_is_net [.val d] = .rt (.bl true) ρ1 := e1
    obtain ⟨e, g⟩ := j2a q
    subst e
    obtain ⟨ρ2, e2⟩ := w9c (A := lp) (B := lt) (C := fp) (E := ft) (by have := g.np; omega) (by have := g.nt; omega)
    dsimp only
    exists (subP lp fp && subT lt ft), b1
    cases b1 with
    | false =>
      rw [l6e]
      clear q hk gl g
      refine e8a ?_
      unfold d_is_forbid
      exists netD lp lt, z1
      exists netD fp ft, z2
      walk_at "ev"
    | true =>
      rw [k2e]
      have l1 : opLen [.tup (lp.map ptD)] = some (.int lp.length) := by rw [g1a, g8e]
      have l2 : opLen [.tup (lt.map tieD)] = some (.int lt.length) := by rw [g1a, g8e]
      have l3 : opLen [.tup (fp.map ptD)] = some (.int fp.length) := by rw [g1a, g8e]
      have l4 : opLen [.tup (ft.map tieD)] = some (.int ft.length) := by rw [g1a, g8e]
      clear q hk gl g
      refine e8a ?_
      unfold d_is_forbid
      unfold netD at *
      exists lp.map ptD, z1
      exists lt.map tieD, z2
      exists fp.map ptD, z3
      exists ft.map tieD, z4
      exists (fp.length : Int), n1
      exists (lp.length : Int), n2
      exists (ft.length : Int), n3
      exists (lt.length : Int), n4
      replace l1 : (z1.length : Int) = n2 := by rw [g1a] at l1; injection l1 with l1; injection l1
      replace l2 : (z2.length : Int) = n4 := by rw [g1a] at l2; injection l2 with l2; injection l2
      replace l3 : (z3.length : Int) = n1 := by rw [g1a] at l3; injection l3 with l3; injection l3
      replace l4 : (z4.length : Int) = n3 := by rw [g1a] at l4; injection l4 with l4; injection l4
      by_cases h1 : n1 - n2 ≤ 2
      · by_cases h2 : n3 - n4 ≤ 2
        · by_cases h3 : 0 < n1 - n2 + (n3 - n4) <;> walk_at "ev"
        · walk_at "ev"
      · walk_at "ev"
def looseP (lp : List P2) (kp : List Int) : D → Option (Int × Int)
 | .tup [.int i, .int j] => if (nmB i && nmB j) && (decide (i < j) && ((kp.contains i && kp.contains j) && (lookP lp i == lookP lp j))) then some (i, j) else none
 | _ => none
def prD (p : Int × Int) : D := .tup [.int p.1, .int p.2]
def lePr (p q : Int × Int) : Bool := leTup [p.1, p.2] [q.1, q.2]
def risPr : List (Int × Int) → Bool
 | a :: b :: r => !lePr b a && risPr (b :: r)
 | _ => true
def looseB (lp : List P2) (kp : List Int) : D → Bool
  | .tup ds => if ds.length ≤ 3 then match mapO (looseP lp kp) ds with
    | some qs => risPr qs
    | none => false
    else false
  | _ => false
theorem r8a {lp : List P2} {kp : List Int} {d : D} {p : Int × Int} (h : looseP lp kp d = some p) : d = prD p ∧ (nmB p.1 = true ∧ nmB p.2 = true) ∧ p.1 < p.2 ∧ kp.contains p.1 = true ∧ kp.contains p.2 = true ∧ lookP lp p.1 = lookP lp p.2 := by
 unfold looseP at h
 split at h
 ·split at h
  ·rename_i i j hc
   cases h
   simp only [h6e, decide_eq_true_eq, beq_iff_eq] at hc
   exact ⟨rfl, hc.1, hc.2.1, hc.2.2.1.1, hc.2.2.1.2, hc.2.2.2⟩
  ·cases h
 ·cases h
def leP : D → D → Bool
 | .tup [.int a, .int b], .tup [.int c, .int d] => leTup [a, b] [c, d]
 | _, _ => false
theorem e2d : ∀ {qs : List (Int × Int)}, adjB leP (qs.map prD) = risPr qs
  | [] => rfl
  | [_] => rfl
  | a :: b :: r => by
    show (!leP (prD b) (prD a) && adjB leP ((b :: r).map prD)) = (!lePr b a && risPr (b :: r))
    rw [e2d]
    rfl
theorem c5e {d : D} (h : (namesOf d).isSome = true) : ∃ xs : List Int, d = .tup (xs.map .int) ∧ namesOf d = some xs := by
 cases q : namesOf d with
 | none => rw [q] at h; cases h
 | some xs => exact ⟨xs, (i5a q).1, rfl⟩
theorem r2d {d : D} (hk : kn d = true) (ht : ∀ ds, d ≠ .tup ds) : opIsi "tuple" d = some (.bl false) := by
 cases d with
 | tup ds => exact (ht ds rfl).elim
 | scr _ => cases hk
 | dT _ => cases hk
 | exn _ => cases hk
 | raw _ => cases hk
 | obj _ _ => cases hk
 | hole => cases hk
 | exo _ => cases hk
 | fnv _ => cases hk
 | _ => rfl
theorem e3d {lp : List P2} {kp : List Int} {d : D} (ht : ∀ ds, d ≠ .tup ds) : looseB lp kp d = false := by
 cases d with
 | tup ds => exact (ht ds rfl).elim
 | _ => rfl
theorem k3c {lp : List P2} {lt : List T4} {kp kt : List Int} {d : D} (gl : Good lp lt) (hk : kd d = true) (hkp : ∀ n, kp.contains n = true → ∃ x, lookP lp n = some x) : ∃ ρ', d_is_loose [.val (netD lp lt), .val (.tup [.tup (kp.map .int), .tup (kt.map .int)]), .val d, .no, .no] = .rt (.bl (looseB lp kp d)) ρ' := by
  by_cases hd : ∃ ds, d = .tup ds
  · obtain ⟨ds, hd⟩ := hd
    subst hd
    have hkd := hk
    replace hk := p2a hk
    have h0 := @l6a ds
    have e1 := (l7a (ts := lt) gl.np gl.pr)
    obtain ⟨ρ1, e1⟩ := e1
    by_cases hl : (3 : Int) < ds.length
    · have e : looseB lp kp (.tup ds) = false := by
        show (if ds.length ≤ 3 then _ else false) = _
        rw [if_neg (by omega)]
      rw [e]
      refine e8a ?_
      unfold d_is_loose
      clear hk e gl hkp e1 hkd
      exists netD lp lt, z1
      walk_at "ev"
    · have hl' : ds.length ≤ 3 := by omega
      obtain ⟨I, hI⟩ : ∃ I : List D → List Sl → Prop, I = fun xs ρ => ∃ pre s, ds = pre ++ xs ∧ isFree (some s) = true ∧ ρ = [.val (netD lp lt), .val (.tup [.tup (kp.map .int), .tup (kt.map .int)]), .val (.tup ds), .val (.dK (ptsK lp)), s] ∧ ∀ d ∈ pre, looseP lp kp d ≠ none := ⟨_, rfl⟩
      refine e8a ?_
      unfold d_is_loose
      walk_at "ev"
      refine j3b I ?_ ?_ ?_
      · rw [hI]
        exact ⟨[], .no, rfl, rfl, rfl, fun d h => by cases h⟩
      · intro x xs ρ h
        rw [hI] at h
        obtain ⟨pre, s, hx, hs, rfl, hp⟩ := h
        have hm : x ∈ ds := by rw [hx]; exact j8e _ h1e
        have kx := f2a hk x hm
        obtain ⟨ρ2, e2⟩ := z6a kx
        have hs := f8a hs
        have bad : looseP lp kp x = none → looseB lp kp (.tup ds) = false := fun e => by
          show (if ds.length ≤ 3 then match mapO (looseP lp kp) ds with
            | some qs => risPr qs
            | none => false
            else false) = _
          rw [if_pos hl', m9a hm e]
        have good : looseP lp kp x ≠ none → Hid (I xs [.val (netD lp lt), .val (.tup [.tup (kp.map .int), .tup (kt.map .int)]), .val (.tup ds), .val (.dK (ptsK lp)), .val x]) := fun e => ⟨by
          rw [hI]
          refine ⟨pre ++ [x], _, by rw [hx, h4e]; rfl, rfl, rfl, fun d hd => ?_⟩
          rcases List.mem_append.mp hd with q | q
          · exact hp d q
          · rw [i7e] at q; rw [q]; exact e⟩
        clear hI hx hp hk hm hl hl' h0 hkd e1
        cases hn : (namesOf x).isSome with
        | false =>
          have b := bad (by
            cases q : looseP lp kp x with
            | none => rfl
            | some p =>
              obtain ⟨z1, z2, _⟩ := r8a q
              rw [z1] at hn
              exfalso
              have : namesOf (prD p) = some [p.1, p.2] := y7a (xs := [p.1, p.2]) (fun y hy => by
                simp only [k1e, j4e, or_false] at hy
                rcases hy with hy | hy <;> rw [hy]
                · exact z2.1
                · exact z2.2)
              rw [this] at hn
              cases hn)
          rw [hn] at e2
          clear bad good hn kx gl hkp
          exists netD lp lt, z1
          exists ptsK lp, z2
          exists kp.map D.int, z3
          exists kt.map D.int, z4
          walk_at "ev"
        | true =>
          obtain ⟨ns, e3, e4⟩ := c5e hn
          subst e3
          rw [hn] at e2
          by_cases h2 : ns.length = 2
          · obtain ⟨i, j, hij⟩ : ∃ i j, ns = [i, j] := by
              match ns, h2 with
              | [i, j], _ => exact ⟨i, j, rfl⟩
            subst hij
            have nm := (i5a e4).2
            have m1 := nm i (by simp)
            have m2 := nm j (by simp)
            rw [h3e, h3e, j6e] at e2 bad good ⊢
            have key : looseP lp kp (.tup [.int i, .int j]) = if decide (i < j) && ((kp.contains i && kp.contains j) && (lookP lp i == lookP lp j)) then some (i, j) else none := by
              show (if (nmB i && nmB j) && (decide (i < j) && ((kp.contains i && kp.contains j) && (lookP lp i == lookP lp j))) then some (i, j) else none) = _
              rw [m1, m2]
              rfl
            rw [key] at bad good
            have n1 := l3a (xs := kp) (i := i)
            have n2 := l3a (xs := kp) (i := j)
            have p1 := hkp i
            have p2 := hkp j
            by_cases hle : j ≤ i
            · have b := bad (by rw [decide_eq_false (show ¬ i < j by omega)]; rfl)
              clear bad good hn kx hkp e4 nm m1 m2 key n1 n2 p1 p2 h2 gl
              exists netD lp lt, z1
              exists ptsK lp, z2
              exists kp.map D.int, z3
              exists kt.map D.int, z4
              walk_at "ev"
            · rw [decide_eq_true (show i < j by omega)] at bad good
              exists kp.contains i, b1
              cases b1 with
              | false =>
                have b := bad rfl
                clear bad good hn kx hkp e4 nm m1 m2 key n2 p1 p2 h2 gl
                exists netD lp lt, z1
                exists ptsK lp, z2
                exists kp.map D.int, z3
                exists kt.map D.int, z4
                walk_at "ev"
              | true =>
                exists kp.contains j, b2
                cases b2 with
                | false =>
                  have b := bad rfl
                  clear bad good hn kx hkp e4 nm m1 m2 key p1 p2 h2 gl
                  exists netD lp lt, z1
                  exists ptsK lp, z2
                  exists kp.map D.int, z3
                  exists kt.map D.int, z4
                  walk_at "ev"
                | true =>
                  obtain ⟨a, q1⟩ := p1 rfl
                  obtain ⟨c, q2⟩ := p2 rfl
                  have i1 := r4c q1
                  have i2 := r4c q2
                  have n3 : opNe (.str a) (.str c) = some (.bl (!(a == c))) := d6d (h2a (gl.pk _ (w7a q1)).2) (h2a (gl.pk _ (w7a q2)).2)
                  have hac : (lookP lp i == lookP lp j) = (a == c) := by
                    rw [q1, q2]
                    rfl
                  rw [hac] at bad good
                  clear hn kx hkp e4 nm m1 m2 key p1 p2 h2 gl q1 q2 hac
                  exists (a == c), ac
                  exists netD lp lt, z1
                  exists ptsK lp, z2
                  exists kp.map D.int, z3
                  exists kt.map D.int, z4
                  cases ac with
                  | false =>
                    have b := bad rfl
                    clear bad good
                    walk_at "ev"
                  | true =>
                    have g := good (fun z => by cases z)
                    clear bad good
                    walk_at "ev"
                    exact g.out
          · have b := bad (by
              cases q : looseP lp kp (.tup (ns.map .int)) with
              | none => rfl
              | some p =>
                obtain ⟨z1, _⟩ := r8a q
                exfalso
                apply h2
                have z2 : ns.map D.int = [.int p.1, .int p.2] := D.tup.inj z1
                have := congrArg List.length z2
                simpa using this)
            have ll : (((ns.map D.int).length : Int) == 2) = false := by
              rw [g8e]
              exact beq_false_of_ne (by omega)
            clear bad good hn kx gl hkp e4 h2
            exists netD lp lt, z1
            exists ptsK lp, z2
            exists kp.map D.int, z3
            exists kt.map D.int, z4
            exists ns.map D.int, z5
            walk_at "ev"
      · intro ρ h
        rw [hI] at h
        obtain ⟨pre, s, hx, hs, rfl, hp⟩ := h
        rw [h5e] at hx
        have hall : ∀ d ∈ ds, looseP lp kp d ≠ none := by rw [hx]; exact hp
        have hex := w5a hall
        cases hex with
        | intro qs e =>
          have e2 : ds = qs.map prD := (j9a (f := looseP lp kp) (g := prD) (P := fun _ => True) (fun d x h => ⟨(r8a h).1, trivial⟩) e).1
          have h40 := w4a (row := .tup ds) (ds := ds) (f := leP) (.inr rfl) (by omega) (fun a ha b hb => by
            rw [e2] at ha hb
            obtain ⟨p, _, e3⟩ := List.mem_map.mp ha
            obtain ⟨q, _, e4⟩ := List.mem_map.mp hb
            subst e3
            subst e4
            rfl)
          cases h40 with
          | intro ρ' h4 =>
          have h6 : looseB lp kp (.tup ds) = risPr qs := by
            show (if ds.length ≤ 3 then match mapO (looseP lp kp) ds with
              | some qs => risPr qs
              | none => false
              else false) = _
            rw [if_pos hl', e]
          have h7 : adjB leP ds = risPr qs := by rw [e2, e2d]
          rw [h7] at h4
          clear hI hx hp hk hl hl' h0 e e2 hkd gl hkp e1 h7 hall
          exists risPr qs, rr
          exists netD lp lt, z1
          exists ptsK lp, z2
          exists kp.map D.int, z3
          exists kt.map D.int, z4
          walk_at "ev"
  · have ht : ∀ ds, d ≠ .tup ds := fun ds h => hd ⟨ds, h⟩
    have h0 := r2d (g2a hk) ht
    rw [e3d ht]
    clear hk hkp gl hd ht
    refine e8a ?_
    unfold d_is_loose
    exists netD lp lt, z1
    walk_at "ev"
def nilT : D → Bool
 | .tup [] => true
 | _ => false
def forbsB (lp : List P2) (lt : List T4) (lo : D) : D → Bool
 | .tup ds => decide (ds.length ≤ 2) && (ds.all (forbB lp lt) && (ds.isEmpty || nilT lo))
 | _ => false
theorem n1b {lp : List P2} {lt : List T4} {los : List D} {d : D} (gl : Good lp lt) (hk : kd d = true) : ∃ ρ', d_are_forbids [.val (netD lp lt), .val (.tup los), .val d, .no] = .rt (.bl (forbsB lp lt (.tup los) d)) ρ' := by
  by_cases hd : ∃ ds, d = .tup ds
  · obtain ⟨ds, hd⟩ := hd
    subst hd
    replace hk := p2a hk
    have h0 := @l6a ds
    by_cases hl : (2 : Int) < ds.length
    · have e : forbsB lp lt (.tup los) (.tup ds) = false := by
        show (decide (ds.length ≤ 2) && _) = _
        rw [decide_eq_false (by omega)]
        rfl
      rw [e]
      refine e8a ?_
      unfold d_are_forbids
      clear hk e gl
      exists netD lp lt, z1
      walk_at "ev"
    · have hl' : ds.length ≤ 2 := by omega
      obtain ⟨I, hI⟩ : ∃ I : List D → List Sl → Prop, I = fun xs ρ => ∃ pre s, ds = pre ++ xs ∧ isFree (some s) = true ∧ ρ = [.val (netD lp lt), .val (.tup los), .val (.tup ds), s] ∧ pre.all (forbB lp lt) = true := ⟨_, rfl⟩
      refine e8a ?_
      unfold d_are_forbids
      generalize hz : netD lp lt = z1 at *
      walk_at "ev"
      refine j3b I ?_ ?_ ?_
      · rw [hI]
        exact ⟨[], .no, rfl, rfl, rfl, rfl⟩
      · intro x xs ρ h
        rw [hI] at h
        obtain ⟨pre, s, hx, hs, rfl, hp⟩ := h
        have hm : x ∈ ds := by rw [hx]; exact j8e _ h1e
        have h2 := e4c gl (f2a hk x hm)
        cases h2 with
        | intro ρ2 e2 =>
        rw [hz] at e2
        have hs := f8a hs
        cases q : forbB lp lt x with
        | false =>
          have b : forbsB lp lt (.tup los) (.tup ds) = false := by
            show (decide (ds.length ≤ 2) && (ds.all (forbB lp lt) && _)) = _
            rw [hx, m4e, k5e, q]
            simp
          rw [q] at e2
          clear hI hx hp hk hm hl hl' h0 q gl hz
          walk_at "ev"
        | true =>
          have g : Hid (I xs [.val z1, .val (.tup los), .val (.tup ds), .val x]) := ⟨by
            rw [hI]
            exact ⟨pre ++ [x], _, by rw [hx, h4e]; rfl, rfl, rfl, by rw [m4e, hp, k5e, q]; rfl⟩⟩
          rw [q] at e2
          clear hI hx hp hk hm hl hl' h0 q gl hz
          walk_at "ev"
          exact g.out
      · intro ρ h
        rw [hI] at h
        obtain ⟨pre, s, hx, hs, rfl, hp⟩ := h
        rw [h5e] at hx
        subst hx
        have e : forbsB lp lt (.tup los) (.tup ds) = (ds.isEmpty || nilT (.tup los)) := by
          show (decide (ds.length ≤ 2) && (ds.all (forbB lp lt) && _)) = _
          rw [decide_eq_true hl', hp]
          rfl
        rw [e]
        have l1 : ((ds.length : Int) == 0) = ds.isEmpty := by cases ds <;> rfl
        have l2 : ((los.length : Int) == 0) = nilT (.tup los) := by cases los <;> rfl
        clear hI hk hl hl' h0 gl hz hp e
        exists ds.isEmpty, b1
        exists nilT (.tup los), b2
        cases b1 <;> walk_at "ev"
  · have ht : ∀ ds, d ≠ .tup ds := fun ds h => hd ⟨ds, h⟩
    have h0 := r2d (g2a hk) ht
    have e : forbsB lp lt (.tup los) d = false := by
      cases d with
      | tup ds => exact (ht ds rfl).elim
      | _ => rfl
    rw [e]
    clear hk gl hd ht e
    refine e8a ?_
    unfold d_are_forbids
    exists netD lp lt, z1
    walk_at "ev"
def smallB (ps : List P2) (ts : List T4) : Bool := decide (ps.length ≤ 5) && decide (ts.length ≤ 5)
def keptB (lp rp : List P2) (lt rt : List T4) (lo fo k : D) : Bool := match pairN k with
 | some (kp, kt) => (ptStand lp rp kp && tiStand lt rt kp kt) && (looseB lp kp lo && forbsB lp lt lo fo)
 | none => false
def ruleB : D → Bool
  | .tup [l, k, r, lo, fo] => match netOf l, netOf r with
    | some (lp, lt), some (rp, rt) => (smallB lp lt && (smallB rp rt && !lp.isEmpty)) && keptB lp rp lt rt lo fo k
    | _, _ => false
  | _ => false
theorem n7d {lp rp : List P2} {kp : List Int} (h : ptStand lp rp kp = true) : ∀ n, kp.contains n = true → ∃ x, lookP lp n = some x := fun n hn => by
 unfold ptStand at h
 rw [h6e, i2e] at h
 have := h.1 n (by simpa using hn)
 unfold okPt at this
 split at this
 ·rename_i a b q _
  exact ⟨a, q⟩
 ·cases this
theorem x0c {lp : List P2} {kp : List Int} {d : D} (h : looseB lp kp d = true) : ∃ los, d = .tup los := by
 cases d with
 | tup ds => exact ⟨ds, rfl⟩
 | _ => cases h
theorem o4b {d : D} (hk : kd d = true) : ∃ ρ', d_is_rule [.val d, .no, .no, .no, .no, .no] = .rt (.bl (ruleB d)) ρ' := by
  have e1 := j8a (n := 5) (g2a hk)
  cases ht : tupN 5 d with
  | false =>
    have e : ruleB d = false := by
      unfold ruleB
      split
      · cases ht
      · rfl
    rw [ht] at e1
    rw [e]
    clear e ht hk
    refine e8a ?_
    unfold d_is_rule
    walk_at "ev"
  | true =>
    obtain ⟨l, k, r, lo, fo, e⟩ := w3d ht
    subst e
    rw [ht] at e1
    replace hk := p2a hk
    have k1 := f2a hk l (by simp)
    have k2 := f2a hk k (by simp)
    have k3 := f2a hk r (by simp)
    have k4 := f2a hk lo (by simp)
    have k5 := f2a hk fo (by simp)
    obtain ⟨ρ1, e2⟩ := k2b k1
    obtain ⟨ρ2, e3⟩ := k2b k3
    clear ht hk
    cases q1 : netOf l with
    | none =>
      have e : ruleB (.tup [l, k, r, lo, fo]) = false := by
        unfold ruleB
        dsimp only
        rw [q1]
      rw [e]
      rw [q1] at e2
      replace e2 : d_is_net [.val l] = .rt (.bl false) ρ1 := e2
      clear e q1 e3 k1 k2 k3 k4 k5
      refine e8a ?_
      unfold d_is_rule
      walk_at "ev"
    | some p =>
      obtain ⟨lp, lt⟩ := p
      rw [q1] at e2
      replace e2 : d_is_net [.val l] = .rt (.bl true) ρ1 := e2
      cases q2 : netOf r with
      | none =>
        have e : ruleB (.tup [l, k, r, lo, fo]) = false := by
          unfold ruleB
          dsimp only
          rw [q1, q2]
        rw [e]
        rw [q2] at e3
        replace e3 : d_is_net [.val r] = .rt (.bl false) ρ2 := e3
        clear e q1 q2 k1 k2 k3 k4 k5
        refine e8a ?_
        unfold d_is_rule
        walk_at "ev"
      | some p =>
        obtain ⟨rp, rt⟩ := p
        rw [q2] at e3
        replace e3 : d_is_net [.val r] = .rt (.bl true) ρ2 := e3
        have e : ruleB (.tup [l, k, r, lo, fo]) = ((smallB lp lt && (smallB rp rt && !lp.isEmpty)) && keptB lp rp lt rt lo fo k) := by
          unfold ruleB
          dsimp only
          rw [q1, q2]
        rw [e]
        clear e
        obtain ⟨el, gl⟩ := j2a q1
        obtain ⟨er, gr⟩ := j2a q2
        subst el
        subst er
        have s1 := k7b (ps := lp) (ts := lt)
        have s2 := k7b (ps := rp) (ts := rt)
        have s3 : (((lp.map ptD).length : Int) == 0) = lp.isEmpty := by cases lp <;> rfl
        have i1 : opIx (netD lp lt) (.int 0) = some (.tup (lp.map ptD)) := id rfl
        rw [show (decide (lp.length ≤ 5) && decide (lt.length ≤ 5)) = smallB lp lt from rfl] at s1
        rw [show (decide (rp.length ≤ 5) && decide (rt.length ≤ 5)) = smallB rp rt from rfl] at s2
        obtain ⟨ρ3, e4⟩ := r7a k2
        by_cases hs : (smallB lp lt && (smallB rp rt && !lp.isEmpty)) = true
        · have hs1 := hs
          rw [hs]
          rw [h6e, h6e] at hs
          rw [hs.1] at s1
          rw [hs.2.1] at s2
          rw [show lp.isEmpty = false by simpa using hs.2.2] at s3
          rw [k2e]
          unfold keptB
          cases q3 : pairN k with
          | none =>
            rw [q3] at e4
            replace e4 : d_is_pair_of_names [.val k, .no] = .rt (.bl false) ρ3 := e4
            dsimp only
            clear q1 q2 q3 gl gr k1 k2 k3 k4 k5 hs hs1
            exists netD lp lt, z1
            exists netD rp rt, z2
            exists lp.map ptD, z3
            refine e8a ?_
            unfold d_is_rule
            walk_at "ev"
          | some kk =>
            obtain ⟨kp, kt⟩ := kk
            rw [q3] at e4
            replace e4 : d_is_pair_of_names [.val k, .no] = .rt (.bl true) ρ3 := e4
            obtain ⟨ek, _⟩ := o1b q3
            subst ek
            obtain ⟨ρ4, e5⟩ := k6b (kp := kp) gl gr
            obtain ⟨ρ5, e6⟩ := w8b (kp := kp) (kt := kt) gl gr
            dsimp only at *
            cases q4 : ptStand lp rp kp with
            | false =>
              rw [q4] at e5
              clear q1 q2 q3 q4 gl gr k1 k2 k3 k4 k5 hs hs1 e6
              exists netD lp lt, z1
              exists netD rp rt, z2
              exists lp.map ptD, z3
              exists kp.map D.int, z4
              exists kt.map D.int, z5
              refine e8a ?_
              unfold d_is_rule
              walk_at "ev"
            | true =>
              have hkp := n7d q4
              rw [q4] at e5
              obtain ⟨ρ6, e7⟩ := k3c (kt := kt) gl k4 hkp
              cases q5 : tiStand lt rt kp kt with
              | false =>
                rw [q5] at e6
                clear q1 q2 q3 q4 q5 gl gr k1 k2 k3 k4 k5 hs hs1 hkp e7
                exists netD lp lt, z1
                exists netD rp rt, z2
                exists lp.map ptD, z3
                exists kp.map D.int, z4
                exists kt.map D.int, z5
                refine e8a ?_
                unfold d_is_rule
                walk_at "ev"
              | true =>
                rw [q5] at e6
                cases q6 : looseB lp kp lo with
                | false =>
                  rw [q6] at e7
                  clear q1 q2 q3 q4 q5 q6 gl gr k1 k2 k3 k4 k5 hs hs1 hkp
                  exists netD lp lt, z1
                  exists netD rp rt, z2
                  exists lp.map ptD, z3
                  exists kp.map D.int, z4
                  exists kt.map D.int, z5
                  refine e8a ?_
                  unfold d_is_rule
                  walk_at "ev"
                | true =>
                  rw [q6] at e7
                  obtain ⟨los, elo⟩ := x0c q6
                  subst elo
                  obtain ⟨ρ7, e8⟩ := n1b (los := los) gl k5
                  clear q1 q2 q3 q4 q5 q6 gl gr k1 k2 k3 k4 k5 hs hs1 hkp
                  exists forbsB lp lt (.tup los) fo, fb
                  exists netD lp lt, z1
                  exists netD rp rt, z2
                  exists lp.map ptD, z3
                  exists kp.map D.int, z4
                  exists kt.map D.int, z5
                  refine e8a ?_
                  unfold d_is_rule
                  walk_at "ev"
        · rw [Bool.not_eq_true] at hs
          rw [hs, l6e]
          clear q1 q2 gl gr k1 k2 k3 k4 k5 e4
          exists smallB lp lt, b1
          exists smallB rp rt, b2
          exists lp.isEmpty, b3
          exists netD lp lt, z1
          exists netD rp rt, z2
          exists lp.map ptD, z3
          refine e8a ?_
          unfold d_is_rule
          cases b1 <;> first | (clear hs; walk_at "ev"; done) | skip
          cases b2 <;> first | (clear hs; walk_at "ev"; done) | skip
          cases b3 <;> first | (clear hs; walk_at "ev"; done) | cases hs
theorem e5c {d : D} (hk : kd d = true) (h : ruleB d = true) : d_check [.val d] = .rt (.bl true) [.val d] := by
 obtain ⟨ρ1, h1⟩ := o4b hk
 rw [h] at h1
 clear h hk
 unfold d_check
 walk_at "ev"
theorem i7a {i j : Int} (h : -18446744073709551616 < j ∧ j < 18446744073709551616) : mulOk i j = true := decide_eq_true (.inr h)
theorem w7d {i j : Int} (h : -18446744073709551616 < i ∧ i < 18446744073709551616) : mulOk i j = true := decide_eq_true (.inl h)
def isRtI : O → Bool
 | .rt (.int _) _ => true
 | _ => false
theorem c6e {o : O} (h : isRtI o = true) : ∃ v ρ', o = .rt (.int v) ρ' := by
 unfold isRtI at h
 split at h
 ·exact ⟨_, _, rfl⟩
 ·cases h
theorem c7e {v : Int} {ρ : List Sl} : isRtI (.rt (.int v) ρ) = true := id rfl
theorem w8d (c k : Int) (hk : -1000000 ≤ k ∧ k ≤ 1000000) : ∃ v ρ', d_law_mixed [.val (.int c), .val (.int k), .no] = .rt (.int v) ρ' := by
 have m1 : ∀ i, mulOk i 40503 = true := fun i => i7a (by omega)
 have m2 : ∀ i, mulOk i 7919 = true := fun i => i7a (by omega)
 have m3 : ∀ i, mulOk i 48271 = true := fun i => i7a (by omega)
 have m4 : mulOk k k = true := i7a (by omega)
 have m5 : ∀ i : Int, mulOk (i % 2305843009213693951) (i % 2305843009213693951) = true := fun i => i7a (by omega)
 clear hk
 have m6 := @c7e
 refine c6e ?_
 unfold d_law_mixed
 walk_at "ev"
def Dk (cs : List Int) : Prop := ∀ c ∈ cs, 0 ≤ c ∧ c < 1000
def deckD (cs : List Int) : D := .lst (cs.reverse.map .int)
theorem k9b {xs : List Int} : plainL (xs.map .int) = true := by
 induction xs with
 | nil => exact e0a
 | cons x xs ih => rw [h3e, c6a, ih]; rfl
theorem k4c {xs : List Int} : plainO (deckD xs) = true := k9b
theorem e4d {xs : List Int} {i : Int} (h0 : 0 ≤ i) (h : i < xs.length) : ∃ v, atI (xs.map D.int) i = some (.int v) := by
 have a1 : i.toNat < xs.length := by omega
 exact ⟨xs[i.toNat], i9a h0 (by rw [i3e, h7e a1]; rfl)⟩
theorem seti {xs : List Int} {i v : Int} (h0 : 0 ≤ i) (h : i < xs.length) : opSetIx (.lst (xs.map D.int)) (.int i) (.int v) = some (.lst ((xs.set i.toNat v).map .int)) := by
 show (ixN (xs.map D.int).length i).map _ = _
 unfold ixN
 rw [if_pos h0, if_pos (by rw [g8e]; exact h)]
 show some (D.lst ((xs.map D.int).set i.toNat (.int v))) = _
 rw [List.map_set]
def deckB : MS := (sSeq (sSet 6 (eBin opMod (eVar 5) (eFn opLen (aCons (eVar 2) aNil))))
  (sIf (tVal (eBin opGt (eView (eBin opIx (eVar 3) (eVar 6))) (eC (.int 0)))) (sSeq (sExpr (eMut isLst 4 opAppend (aCons (eBin opMod (eView (eBin opIx (eVar 3) (eVar 6))) (eC (.int 1000))) aNil)))
  (sPutAt isLst 3 opSetIx (eVar 6) (eBin opFdiv (eView (eBin opIx (eVar 3) (eVar 6))) (eC (.int 1000))))) (sExpr (eMut isLst 4 opAppend (aCons (eBin opMod (eCall 2 1 d_law_mixed [] (aCons (eBin opIx (eVar 2) (eVar 6)) (aCons (eBin opAdd (eVar 5) (eC (.int 1))) aNil))) (eC (.int 1000))) aNil)))))
theorem r9c {xs : List Int} {v : Int} (h : xs.length ≤ 100000) : opAppend (.lst (xs.map D.int)) [.int v] = some (.non, .lst ((xs ++ [v]).map .int)) := by
 rw [l1a, if_pos (by rw [g8e]; exact h), i4e]
 rfl
theorem e5d {z y : D} {xs us cs : List Int} {k : Int} {s5 s6 s7 : Sl} (hx : xs ≠ []) (hu : us.length = xs.length) (hc : Dk cs) (hl : cs.length ≤ 90000) (hk : 0 ≤ k ∧ k < 90000) (f6 : isFree (some s6) = true) :
  ∃ (us' : List Int) (c k' : Int), us'.length = xs.length ∧ (0 ≤ c ∧ c < 1000) ∧ deckB [.val z, .val y, .val (.lst (xs.map .int)), .own (.lst (us.map .int)), .own (.lst (cs.map .int)), .val (.int k), s6, s7] = .nx [.val z, .val y, .val (.lst (xs.map .int)), .own (.lst (us'.map .int)), .own (.lst ((cs ++ [c]).map .int)), .val (.int k), .val (.int k'), s7] := by
 have hn : 0 < xs.length := List.length_pos_iff.mpr hx
 have h6 := f8a f6
 have n1 : (0 : Int) < (xs.map D.int).length := by rw [g8e]; omega
 have b1 : 0 ≤ k % ((xs.map D.int).length : Int) := k0e _ (by omega)
 have b2 : k % ((xs.map D.int).length : Int) < xs.length := by
  have := j5e k n1
  rw [g8e] at this ⊢
  exact this
 obtain ⟨v, hv⟩ := e4d (xs := us) b1 (by rw [hu]; exact b2)
 obtain ⟨w, hw⟩ := e4d (xs := xs) b1 b2
 have e1 := fun v => r9c (xs := cs) (v := v) (by omega)
 by_cases hp : 0 < v
 ·have e2 := seti (xs := us) (v := v / 1000) b1 (by rw [hu]; exact b2)
  refine ⟨us.set (k % ((xs.map D.int).length : Int)).toNat (v / 1000), v % 1000, k % ((xs.map D.int).length : Int), by rw [m1e]; exact hu, by omega, ?_⟩
  clear hc hl hk f6 b1 b2 hw hu hx hn
  unfold deckB
  walk_at "ev"
 ·obtain ⟨m, ρ', e3⟩ := w8d w (k + 1) (by omega)
  refine ⟨us, m % 1000, k % ((xs.map D.int).length : Int), hu, by omega, ?_⟩
  clear hc hl hk f6 b1 b2 hu hx hn
  unfold deckB
  walk_at "ev"
theorem e6c {z y : D} {xs : List Int} {s7 : Sl} (hx : xs ≠ []) : ∀ {items : List D} {us cs : List Int} {s5 s6 : Sl}, us.length = xs.length → Dk cs → cs.length + items.length ≤ 90000 → (∀ d ∈ items, ∃ k : Int, d = .int k ∧ 0 ≤ k ∧ k < 90000) → isFree (some s5) = true → isFree (some s6) = true →
    ∃ (us' cs' : List Int) (s5' s6' : Sl), Dk cs' ∧ cs'.length = cs.length + items.length ∧ loop (gN 5) deckB items [.val z, .val y, .val (.lst (xs.map .int)), .own (.lst (us.map .int)), .own (.lst (cs.map .int)), s5, s6, s7] = .nx [.val z, .val y, .val (.lst (xs.map .int)), .own (.lst (us'.map .int)), .own (.lst (cs'.map .int)), s5', s6', s7]
  | [], us, cs, s5, s6, hu, hc, _, _, _, _ => ⟨us, cs, s5, s6, hc, rfl, rfl⟩
  | d :: ds, us, cs, s5, s6, hu, hc, hl, hd, f5, f6 => by
    obtain ⟨k, e, hk⟩ := hd d h1e
    subst e
    rw [h0e] at hl
    obtain ⟨us1, c, k1, h1, h2, h3⟩ := e5d (z := z) (y := y) (s5 := s5) (s7 := s7) hx hu hc (by omega) hk f6
    obtain ⟨us', cs', s5', s6', q1, q2, q3⟩ := e6c (z := z) (y := y) (s7 := s7) hx (items := ds) (us := us1) (cs := cs ++ [c]) (s5 := .val (.int k)) (s6 := .val (.int k1)) h1 (fun x hx => by
      rcases List.mem_append.mp hx with h | h
      · exact hc x h
      · rw [i7e] at h; subst h; exact h2) (by rw [g9e, h8e]; omega) (fun x hx => hd x (h2e _ hx)) rfl rfl
    refine ⟨us', cs', s5', s6', q1, by rw [q2, g9e, h8e, h0e]; omega, ?_⟩
    have f5 := f8a f5
    rw [e1a]
    clear hl hd hc hu h1 h2 hk q1 q2 f6 hx
    walk_at "ev"
theorem f9e {ns : List Int} (h : ns.length ≤ 63) : cutL ns none (some 60) = ns.take 60 := by
 unfold cutL
 rw [HT.sIx_none, show HT.sIx ns.length ns.length (some 60) = min 60 ns.length from HT.sIx_nat _ _ 60, n0e, Nat.sub_zero]
 rw [List.take_eq_take_iff]
 omega
theorem c8e {ns : List Int} {m : Int} (hl : ns.length ≤ 63) (hm : 0 ≤ m ∧ m ≤ 80000) : ∃ cs ρ', Dk cs ∧ cs.length = m.toNat ∧ d_law_deck [.val (.scr ns), .val (.int m), .no, .no, .no, .no, .no, .no] = .rtN (deckD cs) ρ' := by
  obtain ⟨xs, hx, hxl, h1⟩ : ∃ xs : List Int, xs ≠ [] ∧ xs.length ≤ 63 ∧ (eBin opCat (eFn opList (aCons (eSl opSlL (eVar 0) oNone (oSome (eC (.int 60)))) aNil)) (eBin opRepL (eLst (aCons (eC (.int 0)) aNil)) (eFn opInt (aCons (eBin opEq (eFn opLen (aCons (eVar 0) aNil)) (eC (.int 0))) aNil)))) [.val (.scr ns), .val (.int m), .no, .no, .no, .no, .no, .no] = .ok (.lst (xs.map .int)) [.val (.scr ns), .val (.int m), .no, .no, .no, .no, .no, .no] := by
    have s1 : opSlL (.scr ns) none (some 60) = some (.lst ((ns.take 60).map .int)) := by
      show some (D.lst ((cutL ns none (some 60)).map .int)) = _
      rw [f9e hl]
    have s4 := fun i j => @z3a i j
    cases ns with
    | nil =>
      refine ⟨[0], by simp, by decide, ?_⟩
      have s2 : opRepL (.lst [.int 0]) (.int 1) = some (.lst [.int 0]) := rfl
      have s3 : opCat (.lst []) (.lst [.int 0]) = some (.lst [.int 0]) := rfl
      have s5 : ((0 : Nat) : Int) = 0 := rfl
      walk_at "ev"
      simp only [List.take_nil, j6e, u3a, s4a, z5b, s3]
    | cons n ns =>
      refine ⟨(n :: ns).take 60, by simp, by rw [List.length_take]; omega, ?_⟩
      have s2 : opRepL (.lst [.int 0]) (.int 0) = some (.lst []) := rfl
      have s3 : opCat (.lst ((List.take 60 (n :: ns)).map .int)) (.lst []) = some (.lst ((List.take 60 (n :: ns)).map .int)) := by
        show (if _ then _ else _) = _
        rw [if_pos (by simp; omega), h5e]
      have s5 : ((((n :: ns).length : Nat) : Int) == 0) = false := by
        rw [beq_eq_false_iff_ne, h0e]
        omega
      generalize hz : (n :: ns) = zs at *
      clear hl hz
      walk_at "ev"
  have p1 : opPow (.int 10) (.int 18) = some (.int 1000000000000000000) := rfl
  have h2 : ∃ us : List Int, us.length = xs.length ∧ compL (gN 7) (mpure true) (eBin opMul (eVar 7) (eFn opInt (aCons (eBin opGe (eVar 7) (eBin opPow (eC (.int 10)) (eC (.int 18)))) aNil))) [7] (xs.map .int) [] [.val (.scr ns), .val (.int m), .val (.lst (xs.map .int)), .no, .no, .no, .no, .no] = .ok (us.map .int) [.val (.scr ns), .val (.int m), .val (.lst (xs.map .int)), .no, .no, .no, .no, .no] := by
    refine ⟨xs.map fun n => n * (if decide (1000000000000000000 ≤ n) then 1 else 0), by rw [g8e], ?_⟩
    rw [o1a (f := fun d => match d with | .int n => .int (n * (if decide (1000000000000000000 ≤ n) then 1 else 0)) | d => d) rfl (by rw [g8e]; simp; omega) fun d hd => ?_]
    · rw [i0e, i6e, i6e]
      rfl
    · obtain ⟨n, _, e⟩ := List.mem_map.mp hd
      subst e
      have m1 : mulOk n (if 1000000000000000000 ≤ n then 1 else 0) = true := i7a (by split <;> omega)
      clear hd h1
      walk_at "ev"
  obtain ⟨us, hu, h2⟩ := h2
  have r1 := k3a (j := m) (by omega)
  obtain ⟨us', cs, s5, s6, q1, q2, q3⟩ := e6c (z := .scr ns) (y := .int m) (s7 := .no) hx (items := (List.range m.toNat).map fun k => D.int (k : Nat)) (us := us) (cs := []) (s5 := .no) (s6 := .no) hu (fun _ h => by cases h) (by rw [g8e, j3e, i5e]; omega) (fun d hd => by
    obtain ⟨k, hk, e⟩ := List.mem_map.mp hd
    rw [o0e] at hk
    exact ⟨k, e.symm, by omega, by omega⟩) rfl rfl
  refine ⟨cs, ?_⟩
  rw [exists_and_left, exists_and_left]
  refine ⟨q1, by rw [q2, g8e, j3e, i5e]; omega, h5c ?_⟩
  have p2 := @k4c cs
  have p3 : opLstRev (.lst (cs.map .int)) = some (deckD cs) := by
    show some (D.lst (cs.map D.int).reverse) = _
    rw [← List.map_reverse]
    rfl
  have q3 : loop (gN 5) _ _ [.val (.scr ns), .val (.int m), .val (.lst (xs.map .int)), .own (.lst (us.map .int)), .own (.lst []), .no, .no, .no] = _ := q3
  unfold deckB at q3
  clear q1 q2 hu hx hxl hl hm
  unfold d_law_deck
  rw [i7b, i8b, h1, i5b]
  clear h1
  walk_at "ev"
theorem x1c {cs : List Int} : isLst (deckD cs) = true := rfl
theorem n8d {cs : List Int} : opLen [deckD cs] = some (.int cs.length) := by
 show some (D.int ((cs.reverse.map D.int).length : Nat)) = _
 rw [g8e, List.length_reverse]
theorem n9d {c : Int} {cs : List Int} : opPop (deckD (c :: cs)) [] = some (.int c, deckD cs) := by
 have e : (c :: cs).reverse.map D.int = cs.reverse.map D.int ++ [.int c] := by
  rw [List.reverse_cons, i4e]
  rfl
 unfold deckD
 rw [e]
 show (match (cs.reverse.map D.int ++ [D.int c])[(cs.reverse.map D.int ++ [D.int c]).length - 1]? with | some y => some (y, D.lst (cs.reverse.map D.int ++ [D.int c]).dropLast) | none => none) = _
 rw [List.dropLast_concat, g9e, h8e, Nat.add_sub_cancel, k9e (j0e _), Nat.sub_self]
 rfl
theorem g8a {cs : List Int} : d_law_next [.bor (deckD cs)] = .rt (.int (cs.headD 0)) [.bor (deckD cs.tail)] := by
  have h1 := @x1c cs
  have h2 := @n8d cs
  cases cs with
  | nil => rfl
  | cons c cs =>
    have h3 := @n9d c cs
    have h4 : (0 : Int) < ((c :: cs).length : Nat) := by rw [h0e]; omega
    have h5 : (c :: cs).headD 0 = c := rfl
    have h6 : (c :: cs).tail = cs := rfl
    rw [h5, h6]
    exists (c :: cs).length, n
    unfold d_law_next
    walk_at "ev"
theorem Dk.hd {cs : List Int} (h : Dk cs) : 0 ≤ cs.headD 0 ∧ cs.headD 0 < 1000 := by
 cases cs with
 | nil => simp
 | cons c cs => exact h c h1e
theorem Dk.tl {cs : List Int} (h : Dk cs) : Dk cs.tail := fun c hc => h c (List.mem_of_mem_tail hc)
def namesB : MS := (sSeq (sSet 4 (eBin opAdd (eBin opAdd (eVar 4) (eC (.int 1))) (eBin opMul (eBin opMod (eCallO 1 0 d_law_next 0 (oHere aNil)) (eC (.int 3))) (eVar 2))))
  (sExpr (eMut isLst 3 opAppend (aCons (eVar 4) aNil))))
theorem o5b {m far : Int} (hf : 0 ≤ far ∧ far ≤ 1) : ∀ {items : List D} {cs xs : List Int} {last : Int} {s5 : Sl}, Dk cs → xs.length + items.length ≤ 5000 → -1 ≤ last → xs.Pairwise (· < ·) → (∀ x ∈ xs, 0 ≤ x ∧ x ≤ last) → isFree (some s5) = true →
    ∃ (cs' xs' : List Int) (last' : Int) (s5' : Sl), Dk cs' ∧ xs'.length = xs.length + items.length ∧ xs'.Pairwise (· < ·) ∧ (∀ x ∈ xs', 0 ≤ x ∧ x ≤ last + 3 * items.length) ∧ loop (gN 5) namesB items [.bor (deckD cs), .val (.int m), .val (.int far), .own (.lst (xs.map .int)), .val (.int last), s5] = .nx [.bor (deckD cs'), .val (.int m), .val (.int far), .own (.lst (xs'.map .int)), .val (.int last'), s5']
  | [], cs, xs, last, s5, hd, hl, h0, hp, hb, f5 => ⟨cs, xs, last, s5, hd, rfl, hp, fun x hx => by have := hb x hx; simp; omega, rfl⟩
  | d :: ds, cs, xs, last, s5, hd, hl, h0, hp, hb, f5 => by
    rw [h0e] at hl
    have hm : 0 ≤ cs.headD 0 % 3 * far ∧ cs.headD 0 % 3 * far ≤ 2 := by
      have h1 : far = 0 ∨ far = 1 := by omega
      rcases h1 with h1 | h1 <;> rw [h1] <;> omega
    obtain ⟨cs', xs', last', s5', q1, q2, q3, q4, q5⟩ := o5b (m := m) (far := far) hf (items := ds) (cs := cs.tail) (xs := xs ++ [last + 1 + cs.headD 0 % 3 * far]) (last := last + 1 + cs.headD 0 % 3 * far) (s5 := .val d) hd.tl (by rw [g9e, h8e]; omega) (by omega) (by
      rw [List.pairwise_append]
      refine ⟨hp, List.pairwise_singleton _ _, fun a ha b hb2 => ?_⟩
      rw [i7e] at hb2
      have := hb a ha
      omega) (fun x hx => by
      rcases List.mem_append.mp hx with h | h
      · have := hb x h
        omega
      · rw [i7e] at h
        omega) rfl
    refine ⟨cs', xs', last', s5', q1, by rw [q2, g9e, h8e, h0e]; omega, q3, fun x hx => by have := q4 x hx; rw [h0e]; omega, ?_⟩
    have f5 := f8a f5
    have e1 := @g8a cs
    have e2 : mulOk (cs.headD 0 % 3) far = true := i7a (by omega)
    have e3 := r9c (xs := xs) (v := last + 1 + cs.headD 0 % 3 * far) (by omega)
    rw [e1a]
    clear hl hd h0 hp hb hm q1 q2 q3 q4 hf
    unfold namesB at q5 ⊢
    walk_at "ev"
theorem e6d {cs : List Int} {m far : Int} (hd : Dk cs) (hm : 0 ≤ m ∧ m ≤ 4000) (hf : 0 ≤ far ∧ far ≤ 1) : ∃ (xs cs' : List Int) (ρ' : List Sl), Dk cs' ∧ xs.length = m.toNat ∧ xs.Pairwise (· < ·) ∧ (∀ x ∈ xs, 0 ≤ x ∧ x < 3 * m) ∧ d_law_names [.bor (deckD cs), .val (.int m), .val (.int far), .no, .no, .no] = .rtN (.lst (xs.map .int)) (.bor (deckD cs') :: ρ') := by
 obtain ⟨cs', xs', last', s5', q1, q2, q3, q4, q5⟩ := o5b (m := m) (far := far) hf (items := (List.range m.toNat).map fun k => D.int (k : Nat)) (cs := cs) (xs := []) (last := -1) (s5 := .no) hd (by rw [g8e, j3e, i5e]; omega) (by omega) List.Pairwise.nil (fun _ h => by cases h) rfl
 rw [g8e, j3e] at q4
 rw [g8e, j3e, i5e] at q2
 refine ⟨xs', cs', [.val (.int m), .val (.int far), .no, .val (.int last'), s5'], q1, by omega, q3, fun x hx => by have := q4 x hx; omega, ?_⟩
 have r1 := k3a (j := m) (by omega)
 have q5 : loop (gN 5) namesB _ [.bor (deckD cs), .val (.int m), .val (.int far), .own (.lst []), .val (.int (-1)), .no] = _ := q5
 clear q1 q2 q3 q4 hd hm hf
 unfold namesB at q5
 unfold d_law_names
 walk_at "ev"
theorem r3d {i : Int} (h : 0 ≤ i ∧ i < 3) : ∃ x : Str, (x = "a" ∨ x = "b") ∧ opIx (.str "aab") (.int i) = some (.str x) := by
 have h1 : i = 0 ∨ i = 1 ∨ i = 2 := by omega
 rcases h1 with h1 | h1 | h1 <;> subst h1
 ·exact ⟨"a", .inl rfl, rfl⟩
 ·exact ⟨"a", .inl rfl, rfl⟩
 ·exact ⟨"b", .inr rfl, rfl⟩
theorem r4d {i : Int} (h : 0 ≤ i ∧ i < 3) : ∃ x : Str, (x = "e" ∨ x = "f") ∧ opIx (.str "eef") (.int i) = some (.str x) := by
 have h1 : i = 0 ∨ i = 1 ∨ i = 2 := by omega
 rcases h1 with h1 | h1 | h1 <;> subst h1
 ·exact ⟨"e", .inl rfl, rfl⟩
 ·exact ⟨"e", .inl rfl, rfl⟩
 ·exact ⟨"f", .inr rfl, rfl⟩
def netB1 : MS := (sExpr (eMut isLst 6 opAppend (aCons (eTup (aCons (eVar 7) (aCons (eBin opIx (eC (.str "aab")) (eBin opMod (eCallO 1 0 d_law_next 0 (oHere aNil)) (eC (.int 3)))) aNil))) aNil)))
def netB2 : MS := (sSeq (sSet 4 (eCallO 1 0 d_law_next 0 (oHere aNil)))
  (sExpr (eMut isLst 8 opAppend (aCons (eTup (aCons (eVar 7) (aCons (eBin opIx (eC (.str "eef")) (eBin opMod (eVar 4) (eC (.int 3)))) (aCons (eBin opIx (eView (eBin opIx (eVar 6) (eBin opMod (eBin opFdiv (eVar 4) (eC (.int 3))) (eVar 5)))) (eC (.int 0))) (aCons (eBin opIx (eView (eBin opIx (eVar 6) (eBin opMod (eBin opFdiv (eVar 4) (eC (.int 30))) (eVar 5)))) (eC (.int 0))) aNil))))) aNil))))
def abP (p : P2) : Prop := p.2 = "a" ∨ p.2 = "b"
theorem e7c {a1 a2 a3 a4 a5 : D} {s8 : Sl} : ∀ {ns cs : List Int} {ps : List P2} {s7 : Sl}, Dk cs → ps.length + ns.length ≤ 5000 → (∀ p ∈ ps, abP p) → isFree (some s7) = true →
    ∃ (cs' : List Int) (ps' : List P2) (s7' : Sl), Dk cs' ∧ ps'.map (·.1) = ps.map (·.1) ++ ns ∧ (∀ p ∈ ps', abP p) ∧ isFree (some s7') = true ∧ loop (gN 7) netB1 (ns.map .int) [.bor (deckD cs), .val a1, .val a2, .val a3, .val a4, .val a5, .own (.lst (ps.map ptD)), s7, s8] = .nx [.bor (deckD cs'), .val a1, .val a2, .val a3, .val a4, .val a5, .own (.lst (ps'.map ptD)), s7', s8]
  | [], cs, ps, s7, hd, hl, hp, f7 => ⟨cs, ps, s7, hd, by rw [h5e], hp, f7, rfl⟩
  | n :: ns, cs, ps, s7, hd, hl, hp, f7 => by
    rw [h0e] at hl
    obtain ⟨x, hx, e0⟩ := r3d (i := cs.headD 0 % 3) (by omega)
    obtain ⟨cs', ps', s7', q1, q2, q3, q4, q5⟩ := e7c (a1 := a1) (a2 := a2) (a3 := a3) (a4 := a4) (a5 := a5) (s8 := s8) (ns := ns) (cs := cs.tail) (ps := ps ++ [(n, x)]) (s7 := .val (.int n)) hd.tl (by rw [g9e, h8e]; omega) (fun p h => by
      rcases List.mem_append.mp h with h | h
      · exact hp p h
      · rw [i7e] at h; subst h; exact hx) rfl
    refine ⟨cs', ps', s7', q1, by rw [q2, i4e, h4e]; rfl, q3, q4, ?_⟩
    have f7 := f8a f7
    have e1 := @g8a cs
    have e2 : (ps.map ptD).length ≤ 100000 := by rw [g8e]; omega
    have e3 : ps.map ptD ++ [.tup [.int n, .str x]] = (ps ++ [(n, x)]).map ptD := by rw [i4e]; rfl
    rw [h3e, e1a]
    clear hl hd hp hx q1 q2 q3 q4
    unfold netB1 at q5 ⊢
    walk_at "ev"
theorem w8a {p : P2} : plain (ptD p) = true := by
 unfold ptD
 rw [f7a, c6a, c6a, e0a]
 rfl
theorem s0c {ps : List P2} {i : Int} (h0 : 0 ≤ i) (h : i < ps.length) : ∃ p ∈ ps, atI (ps.map ptD) i = some (ptD p) := by
 have a1 : i.toNat < ps.length := by omega
 exact ⟨ps[i.toNat], k8e a1, i9a h0 (by rw [i3e, h7e a1]; rfl)⟩
def efT (ps : List P2) (t : T4) : Prop := (t.2.1 = "e" ∨ t.2.1 = "f") ∧ (∃ p ∈ ps, p.1 = t.2.2.1) ∧ ∃ p ∈ ps, p.1 = t.2.2.2
theorem e8c {a1 a2 a3 : D} {ps : List P2} (hps : 0 < ps.length) : ∀ {ns cs : List Int} {ts : List T4} {c4 : Int} {s7 : Sl}, Dk cs → ts.length + ns.length ≤ 5000 → (∀ t ∈ ts, efT ps t) → isFree (some s7) = true →
    ∃ (cs' : List Int) (ts' : List T4) (c4' : Int) (s7' : Sl), Dk cs' ∧ ts'.map (·.1) = ts.map (·.1) ++ ns ∧ (∀ t ∈ ts', efT ps t) ∧ isFree (some s7') = true ∧ loop (gN 7) netB2 (ns.map .int) [.bor (deckD cs), .val a1, .val a2, .val a3, .val (.int c4), .val (.int ps.length), .own (.lst (ps.map ptD)), s7, .own (.lst (ts.map tieD))] = .nx [.bor (deckD cs'), .val a1, .val a2, .val a3, .val (.int c4'), .val (.int ps.length), .own (.lst (ps.map ptD)), s7', .own (.lst (ts'.map tieD))]
  | [], cs, ts, c4, s7, hd, hl, hp, f7 => ⟨cs, ts, c4, s7, hd, by rw [h5e], hp, f7, rfl⟩
  | n :: ns, cs, ts, c4, s7, hd, hl, hp, f7 => by
    rw [h0e] at hl
    obtain ⟨x, hx, e0⟩ := r4d (i := cs.headD 0 % 3) (by omega)
    have n1 : (0 : Int) < ps.length := by omega
    obtain ⟨p, hp1, g1⟩ := s0c (ps := ps) (i := cs.headD 0 / 3 % ps.length) (k0e _ (by omega)) (j5e _ n1)
    obtain ⟨q, hq1, g2⟩ := s0c (ps := ps) (i := cs.headD 0 / 30 % ps.length) (k0e _ (by omega)) (j5e _ n1)
    obtain ⟨cs', ts', c4', s7', q1, q2, q3, q4, q5⟩ := e8c (a1 := a1) (a2 := a2) (a3 := a3) (ps := ps) hps (ns := ns) (cs := cs.tail) (ts := ts ++ [(n, x, p.1, q.1)]) (c4 := cs.headD 0) (s7 := .val (.int n)) hd.tl (by rw [g9e, h8e]; omega) (fun t h => by
      rcases List.mem_append.mp h with h | h
      · exact hp t h
      · rw [i7e] at h; subst h; exact ⟨hx, ⟨p, hp1, rfl⟩, ⟨q, hq1, rfl⟩⟩) rfl
    refine ⟨cs', ts', c4', s7', q1, by rw [q2, i4e, h4e]; rfl, q3, q4, ?_⟩
    have f7 := f8a f7
    have e1 := @g8a cs
    have e2 : (ts.map tieD).length ≤ 100000 := by rw [g8e]; omega
    have e3 : ts.map tieD ++ [.tup [.int n, .str x, .int p.1, .int q.1]] = (ts ++ [(n, x, p.1, q.1)]).map tieD := by rw [i4e]; rfl
    have e4 := @w8a p
    have e5 := @w8a q
    have e6 : opIx (ptD p) (.int 0) = some (.int p.1) := rfl
    have e7 : opIx (ptD q) (.int 0) = some (.int q.1) := rfl
    rw [h3e, e1a]
    clear hl hd hp hx q1 q2 q3 q4 hps hp1 hq1
    unfold netB2 at q5 ⊢
    walk_at "ev"
theorem j3a : ∀ {ps : List P2}, plainL (ps.map ptD) = true
 | [] => e0a
 | p :: ps => by rw [h3e, c6a, w8a, j3a]; rfl
theorem e7d {t : T4} : plain (tieD t) = true := by
 unfold tieD
 rw [f7a, c6a, c6a, c6a, c6a, e0a]
 rfl
theorem h9a : ∀ {ts : List T4}, plainL (ts.map tieD) = true
 | [] => e0a
 | t :: ts => by rw [h3e, c6a, e7d, h9a]; rfl
structure Made (mp mt : Int) (ps : List P2) (ts : List T4) : Prop where
 p0 : 1 ≤ ps.length
 pl : (ps.length : Int) ≤ mp
 tl : (ts.length : Int) ≤ mt
 pk : ∀ p ∈ ps, 0 ≤ p.1 ∧ p.1 < 3 * mp ∧ abP p
 tk : ∀ t ∈ ts, 0 ≤ t.1 ∧ t.1 < 3 * (mt + 1) ∧ efT ps t
 pr : (ps.map (·.1)).Pairwise (· < ·)
 tr : (ts.map (·.1)).Pairwise (· < ·)
theorem c9e {cs : List Int} {mp mt far : Int} (hd : Dk cs) (hp : 1 ≤ mp ∧ mp ≤ 1000) (ht : 0 ≤ mt ∧ mt ≤ 1000) (hf : 0 ≤ far ∧ far ≤ 1) : ∃ (ps : List P2) (ts : List T4) (cs' : List Int) (ρ' : List Sl), Made mp mt ps ts ∧ Dk cs' ∧ d_law_net [.bor (deckD cs), .val (.int mp), .val (.int mt), .val (.int far), .no, .no, .no, .no, .no] = .rt (netD ps ts) (.bor (deckD cs') :: ρ') := by
 have n1 := @g8a cs
 have b1 : 0 ≤ cs.headD 0 % mp := k0e _ (by omega)
 have b2 : cs.headD 0 % mp < mp := j5e _ (by omega)
 obtain ⟨xs, cs1, ρ1, d1, l1, r1, k1, e1⟩ := e6d hd.tl (m := 1 + cs.headD 0 % mp) (far := far) (by omega) hf
 obtain ⟨cs2, ps, s7, d2, l2, k2, f7, e2⟩ := e7c (a1 := .int mp) (a2 := .int mt) (a3 := .int far) (a4 := .int (cs.headD 0)) (a5 := .int (1 + cs.headD 0 % mp)) (s8 := .no) (ns := xs) (cs := cs1) (ps := []) (s7 := .no) d1 (by rw [l1, i5e]; omega) (fun _ h => by cases h) rfl
 have l3 : ps.length = xs.length := by
  have := congrArg List.length l2
  rwa [g8e, j6e, i0e] at this
 have l4 : (1 + cs.headD 0 % mp) = (ps.length : Int) := by rw [l3, l1]; omega
 have n2 := @g8a cs2
 have b3 : 0 ≤ cs2.headD 0 % (mt + 1) := k0e _ (by omega)
 have b4 : cs2.headD 0 % (mt + 1) < mt + 1 := j5e _ (by omega)
 obtain ⟨ys, cs3, ρ3, d3, l5, r3, k3, e3⟩ := e6d d2.tl (m := cs2.headD 0 % (mt + 1)) (far := far) (by omega) hf
 obtain ⟨cs4, ts, c4, s7', d4, l6, k4, f7', e4⟩ := e8c (a1 := .int mp) (a2 := .int mt) (a3 := .int far) (ps := ps) (by omega) (ns := ys) (cs := cs3) (ts := []) (c4 := cs.headD 0) (s7 := s7) d3 (by rw [l5, i5e]; omega) (fun _ h => by cases h) f7
 rw [j6e, i0e] at l2 l6
 have l7 : ts.length = ys.length := by
  have := congrArg List.length l6
  rwa [g8e] at this
 refine ⟨ps, ts, cs4, [.val (.int mp), .val (.int mt), .val (.int far), .val (.int c4), .val (.int ps.length), .own (.lst (ps.map ptD)), s7', .own (.lst (ts.map tieD))], ⟨by omega, by omega, by omega, fun p hp => ?_, fun t ht => ?_, by rw [l2]; exact r1, by rw [l6]; exact r3⟩, d4, ?_⟩
 ·have hx : p.1 ∈ xs := by rw [← l2]; exact List.mem_map.mpr ⟨p, hp, rfl⟩
  have := k1 _ hx
  exact ⟨this.1, by omega, k2 p hp⟩
 ·have hx : t.1 ∈ ys := by rw [← l6]; exact List.mem_map.mpr ⟨t, ht, rfl⟩
  have := k3 _ hx
  exact ⟨this.1, by omega, k4 t ht⟩
 ·have c1 : 0 < mp := by omega
  have c2 : 0 < mt + 1 := by omega
  have e2 : loop (gN 7) netB1 _ [.bor (deckD cs1), .val (.int mp), .val (.int mt), .val (.int far), .val (.int (cs.headD 0)), .val (.int (1 + cs.headD 0 % mp)), .own (.lst []), .no, .no] = _ := e2
  have e4 : loop (gN 7) netB2 _ [.bor (deckD cs3), .val (.int mp), .val (.int mt), .val (.int far), .val (.int (cs.headD 0)), .val (.int ps.length), .own (.lst (ps.map ptD)), s7, .own (.lst [])] = _ := e4
  rw [l4] at e1 e2
  have p1 := @j3a ps
  have p2 := @h9a ts
  have f7 := f8a f7
  have f7' := f8a f7'
  clear hd hp ht hf b1 b2 b3 b4 d1 d2 d3 d4 l1 l2 l3 l5 l6 l7 k1 k2 k3 k4 r1 r3
  unfold netB1 at e2
  unfold netB2 at e4
  unfold d_law_net netD
  walk_at "ev"
theorem Made.good {mp mt : Int} {ps : List P2} {ts : List T4} (m : Made mp mt ps ts) (h1 : mp ≤ 400) (h2 : mt ≤ 600) : Good ps ts where
 np := by have := m.pl; omega
 nt := by have := m.tl; omega
 pk := fun p hp => by
  obtain ⟨a, b, c⟩ := m.pk p hp
  refine ⟨⟨a, by omega⟩, ?_⟩
  rcases c with c | c <;> rw [c] <;> decide +kernel
 tk := fun t ht => by
  obtain ⟨a, b, c, d⟩ := m.tk t ht
  refine ⟨⟨a, by omega⟩, ?_, d⟩
  rcases c with c | c <;> rw [c] <;> decide +kernel
 pr := m.pr
 tr := m.tr
structure LN (ps : List P2) (ts : List T4) : Prop where
 pk : ∀ p ∈ ps, (0 ≤ p.1 ∧ p.1 < 40) ∧ abP p
 tk : ∀ t ∈ ts, (0 ≤ t.1 ∧ t.1 < 40) ∧ efT ps t
 pr : (ps.map (·.1)).Pairwise (· < ·)
 tr : (ts.map (·.1)).Pairwise (· < ·)
theorem LN.good {ps : List P2} {ts : List T4} (m : LN ps ts) (h1 : ps.length ≤ 400) (h2 : ts.length ≤ 600) : Good ps ts where
 np := h1
 nt := h2
 pk := fun p hp => by
  obtain ⟨a, c⟩ := m.pk p hp
  refine ⟨⟨a.1, by omega⟩, ?_⟩
  rcases c with c | c <;> rw [c] <;> decide +kernel
 tk := fun t ht => by
  obtain ⟨a, c, d⟩ := m.tk t ht
  refine ⟨⟨a.1, by omega⟩, ?_, d⟩
  rcases c with c | c <;> rw [c] <;> decide +kernel
 pr := m.pr
 tr := m.tr
theorem Made.ln {mp mt : Int} {ps : List P2} {ts : List T4} (m : Made mp mt ps ts) (h1 : mp ≤ 12) (h2 : mt ≤ 12) : LN ps ts where
 pk := fun p hp => by obtain ⟨a, b, c⟩ := m.pk p hp; exact ⟨⟨a, by omega⟩, c⟩
 tk := fun p hp => by obtain ⟨a, b, c⟩ := m.tk p hp; exact ⟨⟨a, by omega⟩, c⟩
 pr := m.pr
 tr := m.tr
theorem e8d {ps : List P2} : opLen [.lst (ps.map ptD)] = some (.int ps.length) := by rw [q1a, g8e]
theorem o0d {ts : List T4} : opLen [.lst (ts.map tieD)] = some (.int ts.length) := by rw [q1a, g8e]
theorem x2c {n b e : Int} : opIn true (.int n) (.tup [.int b, .int e]) = some (.bl (!(b == n || e == n))) := by
 show (if fit 60 (.int n) && fits 60 [.int b, .int e] then some (D.bl (!inD (.int n) [.int b, .int e])) else none) = _
 rw [show fits 60 [.int b, .int e] = true from rfl]
 show some (D.bl (!((b == n) || ((e == n) || false)))) = _
 rw [m6e]
theorem s1c {ps : List P2} {i : Nat} {p : P2} (pr : (ps.map (·.1)).Pairwise (· < ·)) (hi : ps[i]? = some p) {q : P2} (hq : q ∈ ps) (ne : q.1 ≠ p.1) : q ∈ ps.eraseIdx i := by
 obtain ⟨j, hj, e⟩ := List.getElem_of_mem hq
 rw [List.mem_eraseIdx_iff_getElem?]
 refine ⟨j, ?_, by rw [h7e hj, e]⟩
 intro z
 subst z
 rw [h7e hj, e] at hi
 cases hi
 exact ne rfl
theorem l0b {α β : Type} {f : α → β} : ∀ {l : List α} {i : Nat}, (l.map f).eraseIdx i = (l.eraseIdx i).map f
  | [], _ => rfl
  | _ :: _, 0 => rfl
  | a :: l, i + 1 => by
    show f a :: (l.map f).eraseIdx i = f a :: (l.eraseIdx i).map f
    rw [l0b]
theorem d0e {cs : List Int} {ps : List P2} {ts : List T4} {many : Int} (hd : Dk cs) (m : LN ps ts) (hm : 0 ≤ many) (lp : ps.length ≤ 1000) (lt : ts.length ≤ 1000) :
  ∃ (qs : List P2) (us : List T4) (cs' : List Int) (ρ' : List Sl), qs.Sublist ps ∧ us.Sublist ts ∧ (many ≤ (qs.length : Int) ∨ qs.length = ps.length) ∧ (qs.length : Int) ≤ many ∧ LN qs us ∧ Dk cs' ∧ d_law_part [.bor (deckD cs), .val (netD ps ts), .val (.int many), .no, .no, .no, .no, .no] = .rt (netD qs us) (.bor (deckD cs') :: ρ') := by
 have c1 : ∀ ρ : List Sl, isFree ρ[6]? = true → compL (gN 6) (mpure true) (eVar 6) [6] (ps.map ptD) [] ρ = .ok (ps.map ptD) ρ := fun ρ hf => v3a hf (by omega) fun x hx => by
  have hlt : 6 < ρ.length := by
   cases q : ρ[6]? with
   | none => rw [q] at hf; cases hf
   | some s => exact (List.getElem?_eq_some_iff.mp q).1
  have g1 : (ρ.set 6 (.val (ptD x)))[6]? = some (.val (ptD x)) := i1e hlt
  clear hx hf hd m
  exists ρ.set 6 (.val (ptD x)), ρ0
  walk_at "ev"
 have c2 : ∀ ρ : List Sl, isFree ρ[7]? = true → compL (gN 7) (mpure true) (eVar 7) [7] (ts.map tieD) [] ρ = .ok (ts.map tieD) ρ := fun ρ hf => v3a hf (by omega) fun x hx => by
  have hlt : 7 < ρ.length := by
   cases q : ρ[7]? with
   | none => rw [q] at hf; cases hf
   | some s => exact (List.getElem?_eq_some_iff.mp q).1
  have g1 : (ρ.set 7 (.val (tieD x)))[7]? = some (.val (tieD x)) := i1e hlt
  clear hx hf hd m c1
  exists ρ.set 7 (.val (tieD x)), ρ0
  walk_at "ev"
 have c1' := c1 [.bor (deckD cs), .val (netD ps ts), .val (.int many), .no, .no, .no, .no, .no] rfl
 have c2' := c2 [.bor (deckD cs), .val (netD ps ts), .val (.int many), .own (.lst (ps.map ptD)), .no, .no, .no, .no] rfl
 suffices h : wO (d_law_part [.bor (deckD cs), .val (netD ps ts), .val (.int many), .no, .no, .no, .no, .no]) (k := ⟨fun _ => False, fun d ρ => ∃ (qs : List P2) (us : List T4) (cs' : List Int) (ρ' : List Sl), qs.Sublist ps ∧ us.Sublist ts ∧ (many ≤ (qs.length : Int) ∨ qs.length = ps.length) ∧ (qs.length : Int) ≤ many ∧ LN qs us ∧ Dk cs' ∧ d = netD qs us ∧ ρ = .bor (deckD cs') :: ρ', fun _ _ => False, fun _ => False⟩) by
  obtain ⟨d, ρ, e, qs, us, cs', ρ', h1, h2, h0, h3, h4, h5, h6, h7⟩ := p2c h
  subst h6
  subst h7
  exact ⟨qs, us, cs', ρ', h1, h2, h0, h3, h4, h5, e⟩
 obtain ⟨R, hR⟩ : ∃ R : D → List Sl → Prop, R = fun d ρ => ∃ (qs : List P2) (us : List T4) (cs' : List Int) (ρ' : List Sl), qs.Sublist ps ∧ us.Sublist ts ∧ (many ≤ (qs.length : Int) ∨ qs.length = ps.length) ∧ (qs.length : Int) ≤ many ∧ LN qs us ∧ Dk cs' ∧ d = netD qs us ∧ ρ = .bor (deckD cs') :: ρ' := ⟨_, rfl⟩
 rw [← hR]
 obtain ⟨I, hI⟩ : ∃ I : Nat → List Sl → Prop, I = fun n ρ => ∃ (qs : List P2) (us : List T4) (cs' : List Int) (s5 : Sl), n = qs.length ∧ qs.Sublist ps ∧ us.Sublist ts ∧ (many ≤ (qs.length : Int) ∨ qs.length = ps.length) ∧ LN qs us ∧ Dk cs' ∧ notBor (some s5) = true ∧ ρ = [.bor (deckD cs'), .val (netD ps ts), .val (.int many), .own (.lst (qs.map ptD)), .own (.lst (us.map tieD)), s5, .no, .no] := ⟨_, rfl⟩
 obtain ⟨J, hJ⟩ : ∃ I : Nat → List Sl → Prop, I = fun n ρ => ∃ (qs : List P2) (us : List T4) (cs' : List Int) (s5 : Sl), n = us.length ∧ qs.Sublist ps ∧ us.Sublist ts ∧ (many ≤ (qs.length : Int) ∨ qs.length = ps.length) ∧ (qs.length : Int) ≤ many ∧ LN qs us ∧ Dk cs' ∧ notBor (some s5) = true ∧ ρ = [.bor (deckD cs'), .val (netD ps ts), .val (.int many), .own (.lst (qs.map ptD)), .own (.lst (us.map tieD)), s5, .no, .no] := ⟨_, rfl⟩
 unfold d_law_part
 clear c1 c2
 have i1 : opIx (netD ps ts) (.int 0) = some (.tup (ps.map ptD)) := id rfl
 have i2 : opIx (netD ps ts) (.int 1) = some (.tup (ts.map tieD)) := id rfl
 have h0 : Hid (I ps.length [.bor (deckD cs), .val (netD ps ts), .val (.int many), .own (.lst (ps.map ptD)), .own (.lst (ts.map tieD)), .no, .no, .no]) := ⟨by
  rw [hI]
  exact ⟨ps, ts, cs, .no, rfl, List.Sublist.refl _, List.Sublist.refl _, .inr rfl, m, hd, rfl, rfl⟩⟩
 have hI' := Hid.mk hI
 have hJ' := Hid.mk hJ
 have hR' := Hid.mk hR
 clear hd m hI hJ hR
 exists netD ps ts, z1
 walk_at "ev"
 refine p5c I ps.length h0.out (q2a (by omega)) ?_
 clear h0 c1' c2' i1 i2
 intro n ρ h
 rw [hI'.out] at h
 obtain ⟨qs, us, cs', s5, hn, sp, st, hlow, lm, dk, n5, rfl⟩ := h
 replace hlow := Hid.mk hlow
 have l1 := @e8d qs
 have lq : qs.length ≤ 1000 := l1e sp.length_le lp
 have lu : us.length ≤ 1000 := l1e st.length_le lt
 have hR2 := hR'
 walk_at "ev"
 refine ⟨fun hlt => ?_, fun hge => ?_⟩
 ·have hlt : many < qs.length := by simpa using hlt
  have nx := @g8a cs'
  have b1 : 0 ≤ cs'.headD 0 % (qs.length : Int) := k0e _ (by omega)
  have b2 : cs'.headD 0 % (qs.length : Int) < qs.length := j5e _ (by omega)
  have b3 : (0 : Int) < qs.length := by omega
  have hi : (cs'.headD 0 % (qs.length : Int)).toNat < qs.length := by omega
  obtain ⟨p, hp⟩ : ∃ p, qs[(cs'.headD 0 % (qs.length : Int)).toNat]? = some p := ⟨_, h7e hi⟩
  have po := q5c (ds := qs.map ptD) (i := cs'.headD 0 % (qs.length : Int)) (d := ptD p) b1 (by omega) (by rw [i3e, hp]; rfl)
  rw [l0b] at po
  generalize hk : (cs'.headD 0 % (qs.length : Int)).toNat = k at *
  have j1 : opIx (ptD p) (.int 0) = some (.int p.1) := id rfl
  have pl2 : plainO (.lst ((us.filter fun t => !(t.2.2.1 == p.1 || t.2.2.2 == p.1)).map tieD)) = true := h9a
  have hf : compL (gN 7) (tVal (eBin (opIn true) (eVar 5) (eSl opSl (eVar 7) (oSome (eC (.int 2))) oNone))) (eVar 7) [7] (us.map tieD) [] [.val (deckD cs'.tail), .val z1, .val (.int many), .val (.lst ((qs.eraseIdx k).map ptD)), .val (.lst (us.map tieD)), .val (.int p.1), .no, .no] = .ok ((us.filter fun t => !(t.2.2.1 == p.1 || t.2.2.2 == p.1)).map tieD) [.val (deckD cs'.tail), .val z1, .val (.int many), .val (.lst ((qs.eraseIdx k).map ptD)), .val (.lst (us.map tieD)), .val (.int p.1), .no, .no] := by
   refine m3a (p := fun t : T4 => !(t.2.2.1 == p.1 || t.2.2.2 == p.1)) (g := tieD) (f := tieD) rfl (by omega) (fun t ht => ?_) (fun t ht _ => ?_)
   ·have e1 := x2c (n := p.1) (b := t.2.2.1) (e := t.2.2.2)
    have e2 : opSl (tieD t) (some 2) none = some (.tup [.int t.2.2.1, .int t.2.2.2]) := by
     show some (D.tup (cutL _ (some 2) none)) = _
     rw [l0d (by omega)]
     rfl
    clear hI' hJ' hR' hR2 po nx lm dk sp st j1 pl2
    exists (qs.eraseIdx k).map ptD, y1
    exists us.map tieD, y2
    exists tieD t, y3
    exists deckD cs'.tail, y4
    walk_at "ev"
   ·clear hI' hJ' hR' hR2 po nx lm dk sp st j1 pl2
    exists (qs.eraseIdx k).map ptD, y1
    exists us.map tieD, y2
    exists tieD t, y3
    exists deckD cs'.tail, y4
    walk_at "ev"
  have g : Hid (∃ m', m' < n ∧ I m' [.bor (deckD cs'.tail), .val z1, .val (.int many), .own (.lst ((qs.eraseIdx k).map ptD)), .own (.lst ((us.filter fun t => !(t.2.2.1 == p.1 || t.2.2.2 == p.1)).map tieD)), .val (.int p.1), .no, .no]) := ⟨by
   have hkl : k < qs.length := hi
   refine ⟨(qs.eraseIdx k).length, by rw [m9e hkl, hn]; omega, ?_⟩
   rw [hI'.out]
   refine ⟨qs.eraseIdx k, _, cs'.tail, _, rfl, (m5e _ _).trans sp, List.filter_sublist.trans st, .inl (by rw [m9e hkl]; omega), ⟨fun q hq => lm.pk q (List.mem_of_mem_eraseIdx hq), fun t ht => ?_, ?_, ?_⟩, dk.tl, rfl, rfl⟩
   ·obtain ⟨h1, h2⟩ := List.mem_filter.mp ht
    obtain ⟨a1, a2, ⟨x, hx, ex⟩, ⟨y, hy, ey⟩⟩ := lm.tk t h1
    rw [m8e, Bool.or_eq_false_iff, beq_eq_false_iff_ne, beq_eq_false_iff_ne] at h2
    exact ⟨a1, a2, ⟨x, s1c lm.pr hp hx (by rw [ex]; exact h2.1), ex⟩, ⟨y, s1c lm.pr hp hy (by rw [ey]; exact h2.2), ey⟩⟩
   ·exact (lm.pr).sublist ((m5e _ _).map _)
   ·exact (lm.tr).sublist ((List.filter_sublist).map _)⟩
  have w1 := @m2a
  clear hI' hJ' hR' hR2 lm dk sp st hlt hn hp hk lq lu lp lt b1 b2 hi
  exists (us.filter fun t => !(t.2.2.1 == p.1 || t.2.2.2 == p.1)).map tieD, y0
  exists (qs.eraseIdx k).map ptD, y1
  exists us.map tieD, y2
  exists qs.map ptD, y3
  walk_at "ev"
  exact g.out
 ·replace hge : (qs.length : Int) ≤ many := by
   have : ¬ many < qs.length := by simpa using hge
   omega
  have h0 : Hid (J us.length [.bor (deckD cs'), .val z1, .val (.int many), .own (.lst (qs.map ptD)), .own (.lst (us.map tieD)), s5, .no, .no]) := ⟨by
   rw [hJ'.out]
   exact ⟨qs, us, cs', s5, rfl, sp, st, hlow.out, hge, lm, dk, n5, rfl⟩⟩
  clear l1 hge lq hn
  refine p5c J us.length h0.out (q2a (by omega)) ?_
  clear h0 hlow lm dk sp st n5 lu s5 cs' us qs
  intro n ρ h
  rw [hJ'.out] at h
  obtain ⟨qs, us, cs', s5, hn, sp, st, hlow, hq, lm, dk, n5, rfl⟩ := h
  replace hlow := Hid.mk hlow
  have l1 := @o0d us
  have lu : us.length ≤ 1000 := l1e st.length_le lt
  have nx := @g8a cs'
  have fin : ∀ cs2, Dk cs2 → Hid (R (netD qs us) [.bor (deckD cs2), .val z1, .val (.int many), .own (.lst (qs.map ptD)), .own (.lst (us.map tieD)), s5, .no, .no]) := fun cs2 d2 => ⟨by
   rw [hR'.out]
   exact ⟨qs, us, cs2, _, sp, st, hlow.out, hq, lm, d2, rfl, rfl⟩⟩
  have pp := @j3a qs
  have pt := @h9a us
  by_cases h0 : (0 : Int) < us.length
  ·by_cases h3 : cs'.headD 0 % 3 = 0
   ·have h3 : (cs'.headD 0 % 3 == 0) = true := by simpa using h3
    have nx2 := @g8a cs'.tail
    have b1 : 0 ≤ cs'.tail.headD 0 % (us.length : Int) := k0e _ (by omega)
    have b2 : cs'.tail.headD 0 % (us.length : Int) < us.length := j5e _ (by omega)
    have hi : (cs'.tail.headD 0 % (us.length : Int)).toNat < us.length := by omega
    obtain ⟨t, ht⟩ : ∃ t, us[(cs'.tail.headD 0 % (us.length : Int)).toNat]? = some t := ⟨_, h7e hi⟩
    have po := q5c (ds := us.map tieD) (i := cs'.tail.headD 0 % (us.length : Int)) (d := tieD t) b1 (by omega) (by rw [i3e, ht]; rfl)
    rw [l0b] at po
    generalize hk : (cs'.tail.headD 0 % (us.length : Int)).toNat = k at *
    have g : Hid (∃ m', m' < n ∧ J m' [.bor (deckD cs'.tail.tail), .val z1, .val (.int many), .own (.lst (qs.map ptD)), .own (.lst ((us.eraseIdx k).map tieD)), s5, .no, .no]) := ⟨by
     refine ⟨(us.eraseIdx k).length, by rw [m9e hi, hn]; omega, ?_⟩
     rw [hJ'.out]
     exact ⟨qs, _, cs'.tail.tail, s5, rfl, sp, (m5e _ _).trans st, hlow.out, hq, ⟨lm.pk, fun t ht => lm.tk t (List.mem_of_mem_eraseIdx ht), lm.pr, (lm.tr).sublist ((m5e _ _).map _)⟩, dk.tl.tl, n5, rfl⟩⟩
    clear hI' hJ' hR' hR2 lm dk sp st hn ht hk lu lp lt b1 b2 hi fin
    exists (us.eraseIdx k).map tieD, y0
    exists us.map tieD, y2
    exists qs.map ptD, y3
    walk_at "ev"
    refine ⟨fun _ => ?_, fun h => (by cases h)⟩
    first | exact g.out | (walk_at "ev"; exact g.out)
   ·have h3 : (cs'.headD 0 % 3 == 0) = false := by simpa using h3
    have f2 := fin cs'.tail dk.tl
    clear hI' hJ' hR' hR2 lm dk sp st hn lu lp lt fin
    unfold netD at f2
    exists us.map tieD, y2
    exists qs.map ptD, y3
    walk_at "ev"
    refine ⟨fun h => (by cases h), fun _ => ?_⟩
    first | exact f2.out | (walk_at "ev"; exact f2.out)
  ·have f2 := fin cs' dk
   clear hI' hJ' hR' hR2 lm dk sp st hn lu lp lt fin nx
   unfold netD at f2
   exists us.map tieD, y2
   exists qs.map ptD, y3
   walk_at "ev"
   refine ⟨fun h => (by cases h), fun _ => ?_⟩
   first | exact f2.out | (walk_at "ev"; exact f2.out)
theorem g4b {n : Nat} : ∀ {ps : List P2}, (∀ p ∈ ps, PyData.strOk p.2 = true) → fits (n + 1) (ps.map ptD) = true
  | [], _ => by simp [fits]
  | p :: ps, h => by
    rw [h3e]
    unfold fits
    rw [g4b fun x hx => h x (h2e _ hx)]
    show (fits n [.int p.1, .str p.2] && true) = true
    unfold fits
    unfold fits
    unfold fits
    rw [show fit n (.int p.1) = true by cases n <;> rfl, show fit n (.str p.2) = true by cases n <;> exact h p h1e]
    rfl
theorem l1b {n : Nat} : ∀ {ts : List T4}, (∀ t ∈ ts, PyData.strOk t.2.1 = true) → fits (n + 1) (ts.map tieD) = true
  | [], _ => by simp [fits]
  | t :: ts, h => by
    rw [h3e]
    unfold fits
    rw [l1b fun x hx => h x (h2e _ hx)]
    show (fits n [.int t.1, .str t.2.1, .int t.2.2.1, .int t.2.2.2] && true) = true
    have fi : ∀ i, fit n (.int i) = true := fun i => by cases n <;> rfl
    simp only [fits, fi, show fit n (.str t.2.1) = true by cases n <;> exact h t h1e]
    rfl
def srt {α : Type} (f : α → D) (xs : List α) : List α := xs.mergeSort fun a b => leD (f a) (f b)
theorem l2b {α : Type} {f : α → D} {xs : List α} : sortD (xs.map f) = (srt f xs).map f := by
 unfold sortD srt
 refine (List.map_mergeSort (s := leD) ?_).symm
 intro a _ b _
 rfl
theorem k5c {ps : List P2} (h : ∀ p ∈ ps, PyData.strOk p.2 = true) : opSorted [.lst (ps.map ptD)] = some (.lst ((srt ptD ps).map ptD)) := by
 show (if fits 60 (ps.map ptD) && (alikes (ps.map ptD) && ((ps.map ptD).all tupD || (ps.map ptD).all oneD)) then some (D.lst (sortD (ps.map ptD))) else none) = _
 have h1 : alikes (ps.map ptD) = true := by
  unfold alikes
  rw [k7e, i2e]
  intro p _
  show ((ps.map ptD).all fun b => PySem.W.alike (py (ptD p)) (py b)) = true
  rw [k7e, i2e]
  intro q _
  show PySem.W.alike (py (ptD p)) (py (ptD q)) = true
  simp [ptD, py, pys, PySem.W.alike, PySem.W.alikeAll]
 have h2 : (ps.map ptD).all tupD = true := by
  rw [k7e, i2e]
  intro p _
  rfl
 rw [g4b h, h1, h2, l2b]
 rfl
theorem e9c {ts : List T4} (h : ∀ t ∈ ts, PyData.strOk t.2.1 = true) : opSorted [.lst (ts.map tieD)] = some (.lst ((srt tieD ts).map tieD)) := by
 show (if fits 60 (ts.map tieD) && (alikes (ts.map tieD) && ((ts.map tieD).all tupD || (ts.map tieD).all oneD)) then some (D.lst (sortD (ts.map tieD))) else none) = _
 have h1 : alikes (ts.map tieD) = true := by
  unfold alikes
  rw [k7e, i2e]
  intro p _
  show ((ts.map tieD).all fun b => PySem.W.alike (py (tieD p)) (py b)) = true
  rw [k7e, i2e]
  intro q _
  show PySem.W.alike (py (tieD p)) (py (tieD q)) = true
  simp [tieD, py, pys, PySem.W.alike, PySem.W.alikeAll]
 have h2 : (ts.map tieD).all tupD = true := by
  rw [k7e, i2e]
  intro p _
  rfl
 rw [l1b h, h1, h2, l2b]
 rfl
theorem w9d {a b : D} {i j : Int} {as bs : List D} (ha : a = .tup (.int i :: as)) (hb : b = .tup (.int j :: bs)) (ne : i ≠ j) : leD a b = decide (i ≤ j) := by
 subst ha
 subst hb
 show (!PySem.W.dataLt (.tuple (.int j :: pys bs)) (.tuple (.int i :: pys as))) = _
 rw [PySem.W.dataLt_tuple, PySem.W.dataLt_cons (by simp [PySem.W.alike])]
 have e : PyData.eqv (.int j) (.int i) = false := by
  simp only [PyData.eqv, beq_eq_false_iff_ne]
  exact fun z => ne z.symm
 rw [e, if_neg k6e, PySem.W.dataLt_int, PySem.W.not_lt_int]
theorem o1d {a : D} : leD a a = true := by
 show (!PySem.W.dataLt (py a) (py a)) = true
 unfold PySem.W.dataLt
 rw [PyProof.Rows.lex_irrefl]
 rfl
theorem w9b {α : Type} {key : α → Int} : ∀ {xs : List α}, (xs.map key).Nodup → ∀ a ∈ xs, ∀ b ∈ xs, key a = key b → a = b
  | x :: xs, nd, a, ha, b, hb, e => by
    rw [h3e, List.nodup_cons] at nd
    rcases List.mem_cons.mp ha with h1 | h1 <;> rcases List.mem_cons.mp hb with h2 | h2
    · rw [h1, h2]
    · subst h1
      exact (nd.1 (by rw [e]; exact List.mem_map.mpr ⟨b, h2, rfl⟩)).elim
    · subst h2
      exact (nd.1 (by rw [← e]; exact List.mem_map.mpr ⟨a, h1, rfl⟩)).elim
    · exact w9b nd.2 a h1 b h2 e
theorem e9d {α : Type} {f : α → D} {key : α → Int} (hf : ∀ x, ∃ r, f x = .tup (.int (key x) :: r)) {xs : List α} (nd : (xs.map key).Nodup) : srt f xs = xs.mergeSort (fun a b => decide (key a ≤ key b)) := by
 unfold srt
 refine PySem.W.sort_congr fun a ha b hb => ?_
 obtain ⟨r, e1⟩ := hf a
 obtain ⟨s, e2⟩ := hf b
 by_cases h : key a = key b
 ·have := w9b nd a ha b hb h
  subst this
  rw [o1d, decide_eq_true (Int.le_refl _)]
 ·exact w9d e1 e2 h
theorem o6b {α : Type} {f : α → D} {key : α → Int} (hf : ∀ x, ∃ r, f x = .tup (.int (key x) :: r)) {xs : List α} (nd : (xs.map key).Nodup) : ((srt f xs).map key).Pairwise (· < ·) ∧ (srt f xs).Perm xs := by
 rw [e9d hf nd]
 have hp : (xs.mergeSort fun a b => decide (key a ≤ key b)).Perm xs := List.mergeSort_perm _ _
 refine ⟨?_, hp⟩
 have hs := List.pairwise_mergeSort (le := fun a b => decide (key a ≤ key b)) (fun a b c h1 h2 => by simp only [decide_eq_true_eq] at *; omega) (fun a b => by simp only [Bool.or_eq_true, decide_eq_true_eq]; omega) xs
 have hn : ((xs.mergeSort fun a b => decide (key a ≤ key b)).map key).Nodup := (hp.map key).nodup_iff.mpr nd
 rw [List.pairwise_map]
 have hn2 : (xs.mergeSort fun a b => decide (key a ≤ key b)).Pairwise (fun a b => key a ≠ key b) := List.pairwise_map.mp hn
 refine (hs.and hn2).imp fun {a b} h => ?_
 have h1 : key a ≤ key b := of_decide_eq_true h.1
 have h2 := h.2
 omega
theorem s2c {α : Type} {f : α → D} {key : α → Int} (hf : ∀ x, ∃ r, f x = .tup (.int (key x) :: r)) {xs : List α} (h : (xs.map key).Pairwise (· < ·)) : srt f xs = xs := by
 rw [e9d hf (h.imp fun h => by omega)]
 refine List.mergeSort_of_pairwise ?_
 exact (List.pairwise_map.mp h).imp fun h => decide_eq_true (by omega)
def frs (used : List Int) : List Int := ((List.range 40).filter fun k => !used.contains (k : Nat)).map fun k => ((k : Nat) : Int)
theorem f0d {used : List Int} {n : Int} (h : n ∈ frs used) : (0 ≤ n ∧ n < 40) ∧ n ∉ used := by
 obtain ⟨k, hk, e⟩ := List.mem_map.mp h
 obtain ⟨h1, h2⟩ := List.mem_filter.mp hk
 rw [o0e] at h1
 subst e
 refine ⟨by omega, fun z => ?_⟩
 rw [m8e] at h2
 rw [List.contains_iff_mem.mpr z] at h2
 cases h2
theorem f0c {used : List Int} : (frs used).Nodup := by
 unfold frs
 rw [List.Nodup, List.pairwise_map]
 exact ((List.nodup_range (n := 40)).filter _).imp fun h z => h (by omega)
theorem f1d {xs : List Int} {i : Int} : opIn true (.int i) (.lst (xs.map .int)) = some (.bl (!xs.contains i)) := d5d (.inr rfl)
theorem o7b {α : Type} {f : α → D} {g : α → Int} (hf : ∀ x, ∃ ds, f x = .tup (.int (g x) :: ds)) {a b : D} {tn : Int} {xs ys : List α} (h1 : opIx a (.int tn) = some (.tup (xs.map f))) (h2 : opIx b (.int tn) = some (.tup (ys.map f))) (l1 : xs.length ≤ 1000) (l2 : ys.length ≤ 1000) : ∃ ρ', d_law_fresh [.val a, .val b, .val (.int tn), .no, .no, .no] = .rtN (.lst ((frs (xs.map g ++ ys.map g)).map .int)) ρ' := by
 have c1 := k5a (i := 5) (ρ := [.val a, .val b, .val (.int tn), .no, .no, .no]) hf rfl (xs := xs) (by omega)
 have c2 := k5a (i := 5) (ρ := [.val a, .val b, .val (.int tn), .no, .no, .no]) hf rfl (xs := ys) (by omega)
 have c3 : opCat (.lst ((xs.map g).map .int)) (.lst ((ys.map g).map .int)) = some (.lst ((xs.map g ++ ys.map g).map .int)) := by
  rw [i4e]
  exact if_pos (by simp only [g8e]; omega)
 have r1 := k3a (j := 40) (by omega)
 generalize hu : xs.map g ++ ys.map g = u at *
 have c4 : compL (gN 4) (tVal (eBin (opIn true) (eVar 4) (eVar 3))) (eVar 4) [4] ((List.range (40 : Int).toNat).map fun k => D.int (k : Nat)) [] [.val a, .val b, .val (.int tn), .val (.lst (u.map .int)), .no, .no] = .ok ((frs u).map .int) [.val a, .val b, .val (.int tn), .val (.lst (u.map .int)), .no, .no] := by
  rw [m3a (p := fun k : Nat => !u.contains (k : Nat)) (f := fun k : Nat => D.int (k : Nat)) rfl (by simp) (fun k hk => ?_) (fun k hk _ => ?_)]
  ·unfold frs
   rw [i6e]
   rfl
  ·have e := f1d (xs := u) (i := (k : Nat))
   clear c1 c2 c3 r1 h1 h2 hu
   exists u.map D.int, z
   walk_at "ev"
  ·clear c1 c2 c3 r1 h1 h2 hu
   exists u.map D.int, z
   walk_at "ev"
 clear hu l1 l2 hf
 refine b0d ?_
 unfold d_law_fresh
 exists (frs u).map D.int, z1
 exists u.map D.int, z2
 exists (List.range (40 : Int).toNat).map (fun k => D.int (k : Nat)), z3
 exists (xs.map g).map D.int, z4
 exists (ys.map g).map D.int, z5
 exists xs.map f, z6
 exists ys.map f, z7
 walk_at "ev"
theorem f2d {ps qs : List P2} {ts us : List T4} (l1 : ps.length ≤ 1000) (l2 : qs.length ≤ 1000) : ∃ ρ', d_law_fresh [.val (netD ps ts), .val (netD qs us), .val (.int 0), .no, .no, .no] = .rtN (.lst ((frs (ps.map (·.1) ++ qs.map (·.1))).map .int)) ρ' := o7b (f := ptD) (g := (·.1)) (fun x => ⟨_, rfl⟩) rfl rfl l1 l2
theorem x3c {ps qs : List P2} {ts us : List T4} (l1 : ts.length ≤ 1000) (l2 : us.length ≤ 1000) : ∃ ρ', d_law_fresh [.val (netD ps ts), .val (netD qs us), .val (.int 1), .no, .no, .no] = .rtN (.lst ((frs (ts.map (·.1) ++ us.map (·.1))).map .int)) ρ' := o7b (f := tieD) (g := (·.1)) (fun x => ⟨_, rfl⟩) rfl rfl l1 l2
structure Added (ps : List P2) (ts : List T4) (qs : List P2) (us : List T4) (mp mt : Int) (ps' : List P2) (ts' : List T4) : Prop where
 ln : LN ps' ts'
 pin : ∀ p ∈ ps, p ∈ ps'
 tin : ∀ t ∈ ts, t ∈ ts'
 pnew : ∀ p ∈ ps', p ∈ ps ∨ (p.1 ∉ ps.map (·.1) ∧ p.1 ∉ qs.map (·.1))
 tnew : ∀ t ∈ ts', t ∈ ts ∨ (t.1 ∉ ts.map (·.1) ∧ t.1 ∉ us.map (·.1))
 pl : (ps'.length : Int) ≤ ps.length + mp
 tl : (ts'.length : Int) ≤ ts.length + mt
 pl0 : ps.length ≤ ps'.length
 tl0 : ts.length ≤ ts'.length
 peq : ps'.length = ps.length → ps' = ps
 teq : ts'.length = ts.length → ts' = ts
theorem w9a {p : P2} (h : abP p) : PyData.strOk p.2 = true := by
 rcases h with h | h <;> rw [h] <;> decide +kernel
theorem s3c {ps : List P2} {t : T4} (h : efT ps t) : PyData.strOk t.2.1 = true := by
 rcases h.1 with h | h <;> rw [h] <;> decide +kernel
theorem x4c {ps : List P2} (h : ∀ p ∈ ps, PyData.strOk p.2 = true) : opNe (.lst (ps.map ptD)) (.lst []) = some (.bl (!ps.isEmpty)) := by
 show (if fit 60 (.lst (ps.map ptD)) && fit 60 (.lst []) then some (D.bl (!eqD (.lst (ps.map ptD)) (.lst []))) else none) = _
 rw [show fit 60 (.lst (ps.map ptD)) = true from g4b h, show fit 60 (.lst []) = true from rfl]
 cases ps <;> rfl
theorem r5d {xs : List Int} {i : Int} (h : 0 ≤ i) : opSlL (.lst (xs.map .int)) none (some i) = some (.lst ((xs.take i.toNat).map .int)) := by
 show some (D.lst (cutL (xs.map D.int) none (some i))) = _
 rw [q3d h, List.map_take]
theorem f3d {cs : List Int} {ps qs : List P2} {ts us : List T4} {mp mt : Int} (hd : Dk cs) (m : LN ps ts) (hp : 0 ≤ mp ∧ mp ≤ 100) (ht : 0 ≤ mt ∧ mt ≤ 100) (l1 : ps.length ≤ 500) (l2 : ts.length ≤ 500) (l3 : qs.length ≤ 500) (l4 : us.length ≤ 500) :
    ∃ (ps' : List P2) (ts' : List T4) (cs' : List Int) (ρ' : List Sl), Added ps ts qs us mp mt ps' ts' ∧ Dk cs' ∧ d_law_added [.bor (deckD cs), .val (netD ps ts), .val (netD qs us), .val (.int mp), .val (.int mt), .no, .no, .no, .no, .no] = .rt (netD ps' ts') (.bor (deckD cs') :: ρ') := by
  suffices h : wO (d_law_added [.bor (deckD cs), .val (netD ps ts), .val (netD qs us), .val (.int mp), .val (.int mt), .no, .no, .no, .no, .no]) (k := ⟨fun _ => False, fun d ρ => ∃ (ps' : List P2) (ts' : List T4) (cs' : List Int) (ρ' : List Sl), Added ps ts qs us mp mt ps' ts' ∧ Dk cs' ∧ d = netD ps' ts' ∧ ρ = .bor (deckD cs') :: ρ', fun _ _ => False, fun _ => False⟩) by
    obtain ⟨d, ρ, e, ps', ts', cs', ρ', h1, h2, h3, h4⟩ := p2c h
    subst h3
    subst h4
    exact ⟨ps', ts', cs', ρ', h1, h2, e⟩
  obtain ⟨R, hR⟩ : ∃ R : D → List Sl → Prop, R = fun d ρ => ∃ (ps' : List P2) (ts' : List T4) (cs' : List Int) (ρ' : List Sl), Added ps ts qs us mp mt ps' ts' ∧ Dk cs' ∧ d = netD ps' ts' ∧ ρ = .bor (deckD cs') :: ρ' := ⟨_, rfl⟩
  rw [← hR]
  obtain ⟨ρ1, e1⟩ := f2d (ps := ps) (qs := qs) (ts := ts) (us := us) (by omega) (by omega)
  obtain ⟨ρ2, e2⟩ := x3c (ps := ps) (qs := qs) (ts := ts) (us := us) (by omega) (by omega)
  have f1 := fun n => @f0d (ps.map (·.1) ++ qs.map (·.1)) n
  have f2 := fun n => @f0d (ts.map (·.1) ++ us.map (·.1)) n
  have d1 := @f0c (ps.map (·.1) ++ qs.map (·.1))
  have d2 := @f0c (ts.map (·.1) ++ us.map (·.1))
  exists frs (ps.map (·.1) ++ qs.map (·.1)), F1
  exists frs (ts.map (·.1) ++ us.map (·.1)), F2
  have nx := @g8a cs
  have b1 : 0 ≤ cs.headD 0 % (mp + 1) := k0e _ (by omega)
  have b2 : cs.headD 0 % (mp + 1) < mp + 1 := j5e _ (by omega)
  have b3 : 0 < mp + 1 := by omega
  have s1 := r5d (xs := F1) b1
  have i1 : opIx (netD ps ts) (.int 0) = some (.tup (ps.map ptD)) := id rfl
  have i2 : opIx (netD ps ts) (.int 1) = some (.tup (ts.map tieD)) := id rfl
  generalize hZ1 : F1.take (cs.headD 0 % (mp + 1)).toNat = Z1 at *
  have z1 : ∀ n ∈ Z1, n ∈ F1 := fun n hn => by rw [← hZ1] at hn; exact List.mem_of_mem_take hn
  have z2 : Z1.Nodup := by rw [← hZ1]; exact (List.take_sublist _ _).nodup d1
  have z3 : (Z1.length : Int) ≤ mp := by
    have : Z1.length ≤ (cs.headD 0 % (mp + 1)).toNat := by rw [← hZ1]; exact List.length_take_le _ _
    omega
  obtain ⟨I, hI⟩ : ∃ I : List Int → List Sl → Prop, I = fun xs ρ => ∃ (pre : List Int) (ns : List P2) (cs' : List Int) (s6 : Sl), Z1 = pre ++ xs ∧ ns.map (·.1) = pre ∧ (∀ p ∈ ns, abP p) ∧ Dk cs' ∧ notBor (some s6) = true ∧ ρ = [.bor (deckD cs'), .val (netD ps ts), .val (netD qs us), .val (.int mp), .val (.int mt), .own (.lst ((ps ++ ns).map ptD)), s6, .no, .no, .no] := ⟨_, rfl⟩
  have h0 : Hid (I Z1 [.bor (deckD cs.tail), .val (netD ps ts), .val (netD qs us), .val (.int mp), .val (.int mt), .own (.lst (ps.map ptD)), .no, .no, .no, .no]) := ⟨by
    rw [hI]
    exact ⟨[], [], cs.tail, .no, rfl, rfl, fun p h => (by cases h), hd.tl, rfl, by rw [h5e]⟩⟩
  have hI' := Hid.mk hI
  have hR' := Hid.mk hR
  have zz := Hid.mk (And.intro z1 (And.intro z2 z3))
  clear hd hI hR b1 b2 d1 hZ1 z1 z2 z3
  unfold d_law_added
  generalize hn1 : netD ps ts = n1 at *
  generalize hn2 : netD qs us = n2 at *
  walk_at "ev"
  refine v2a I h0.out ?_ ?_
  · clear e1 e2 s1 i1 i2 nx h0
    intro x xs ρ h
    rw [hI'.out] at h
    obtain ⟨pre, ns, cs', s6, hz, hn, hab, dk, n6, rfl⟩ := h
    obtain ⟨y, hy, e0⟩ := r3d (i := cs'.headD 0 % 3) (by omega)
    have nx := @g8a cs'
    have ll : ((ps ++ ns).map ptD).length ≤ 100000 := by
      have := congrArg List.length hz
      have h2 := congrArg List.length hn
      have h3 := zz.out.2.2
      rw [g9e] at this
      rw [g8e] at h2
      rw [g8e, g9e]
      rw [h0e] at this
      omega
    have g : Hid (I xs [.bor (deckD cs'.tail), .val n1, .val n2, .val (.int mp), .val (.int mt), .own (.lst ((ps ++ ns).map ptD ++ [.tup [.int x, .str y]])), .val (.int x), .no, .no, .no]) := ⟨by
      rw [hI'.out]
      refine ⟨pre ++ [x], ns ++ [(x, y)], cs'.tail, _, by rw [hz, h4e]; rfl, by rw [i4e, hn]; rfl, fun p hp => ?_, dk.tl, rfl, by rw [← h4e, i4e (l₁ := ps ++ ns)]; rfl⟩
      rcases List.mem_append.mp hp with h | h
      · exact hab p h
      · rw [i7e] at h; subst h; exact hy⟩
    clear hI' hR' hz hn hab dk hy
    exists (ps ++ ns).map ptD, y1
    walk_at "ev"
    exact g.out
  · clear e1 s1 nx h0
    intro ρ h
    rw [hI'.out] at h
    obtain ⟨pre, ns, cs', s6, hz, hn, hab, dk, n6, rfl⟩ := h
    rw [h5e] at hz
    subst hz
    clear hI'
    have nx := @g8a cs'
    have b1 : 0 ≤ cs'.headD 0 % (mt + 1) := k0e _ (by omega)
    have b2 : cs'.headD 0 % (mt + 1) < mt + 1 := j5e _ (by omega)
    have b3 : 0 < mt + 1 := by omega
    have s1 := r5d (xs := F2) b1
    generalize hZ2 : F2.take (cs'.headD 0 % (mt + 1)).toNat = Z2 at *
    have z1 : ∀ n ∈ Z2, n ∈ F2 := fun n hn => by rw [← hZ2] at hn; exact List.mem_of_mem_take hn
    have z2 : Z2.Nodup := by rw [← hZ2]; exact (List.take_sublist _ _).nodup d2
    have z3 : (Z2.length : Int) ≤ mt := by
      have : Z2.length ≤ (cs'.headD 0 % (mt + 1)).toNat := by rw [← hZ2]; exact List.length_take_le _ _
      omega
    obtain ⟨PS, hPS⟩ : ∃ PS, PS = ps ++ ns := ⟨_, rfl⟩
    rw [← hPS]
    have pl : PS.length ≤ 1000 := by
      have h2 := congrArg List.length hn
      have h3 := zz.out.2.2
      rw [g8e] at h2
      rw [hPS, g9e]
      omega
    have pa : ∀ p ∈ PS, abP p := fun p hp => by
      rw [hPS] at hp
      rcases List.mem_append.mp hp with h | h
      · exact (m.pk p h).2
      · exact hab p h
    obtain ⟨J, hJ⟩ : ∃ J : List Int → List Sl → Prop, J = fun xs ρ => ∃ (pre : List Int) (nt : List T4) (cs2 : List Int) (s6 s8 s9 : Sl), Z2 = pre ++ xs ∧ (∀ t ∈ nt, t.1 ∈ pre) ∧ (nt.map (·.1)).Sublist pre ∧ (∀ t ∈ nt, efT PS t) ∧ Dk cs2 ∧ notBor (some s6) = true ∧ notBor (some s8) = true ∧ notBor (some s9) = true ∧ ρ = [.bor (deckD cs2), .val n1, .val n2, .val (.int mp), .val (.int mt), .own (.lst (PS.map ptD)), s6, .own (.lst ((ts ++ nt).map tieD)), s8, s9] := ⟨_, rfl⟩
    have h0 : Hid (J Z2 [.bor (deckD cs'.tail), .val n1, .val n2, .val (.int mp), .val (.int mt), .own (.lst (PS.map ptD)), s6, .own (.lst (ts.map tieD)), .no, .no]) := ⟨by
      rw [hJ]
      exact ⟨[], [], cs'.tail, s6, .no, .no, rfl, fun t h => (by cases h), List.Sublist.refl _, fun t h => (by cases h), dk.tl, n6, rfl, rfl, by rw [h5e]⟩⟩
    have hJ' := Hid.mk hJ
    have yy := Hid.mk (And.intro z1 (And.intro z2 z3))
    have hPS' := Hid.mk hPS
    have hn' := Hid.mk hn
    have hab' := Hid.mk hab
    clear dk hJ b1 b2 d2 hZ2 z1 z2 z3 hPS hn hab
    walk_at "ev"
    refine v2a J h0.out ?_ ?_
    · clear e2 s1 i2 nx h0 i1
      intro x xs ρ h
      rw [hJ'.out] at h
      obtain ⟨pre, nt, cs2, s6, s8, s9, hz, ht1, ht2, hef, dk, n6, n8, n9, rfl⟩ := h
      have nb := x4c (fun p hp => w9a (pa p hp))
      have nx := @g8a cs2
      have lenP := @e8d PS
      cases hE : PS.isEmpty with
      | true =>
        have g : Hid (J xs [.bor (deckD cs2), .val n1, .val n2, .val (.int mp), .val (.int mt), .own (.lst (PS.map ptD)), .val (.int x), .own (.lst ((ts ++ nt).map tieD)), s8, s9]) := ⟨by
          rw [hJ'.out]
          exact ⟨pre ++ [x], nt, cs2, _, s8, s9, by rw [hz, h4e]; rfl, fun t h => j2e _ (ht1 t h), ht2.trans (List.sublist_append_left _ _), hef, dk, rfl, n8, n9, rfl⟩⟩
        rw [hE] at nb
        clear hJ' hR' hz ht1 ht2 hef dk hE pa lenP
        exists PS.map ptD, y1
        exists (ts ++ nt).map tieD, y2
        walk_at "ev"
        exact g.out
      | false =>
        have p0 : 0 < PS.length := by
          cases PS with
          | nil => cases hE
          | cons a b => exact Nat.succ_pos _
        have q0 : (0 : Int) < PS.length := by omega
        obtain ⟨y, hy, e0⟩ := r4d (i := cs2.headD 0 % 3) (by omega)
        obtain ⟨p, hp1, g1⟩ := s0c (ps := PS) (i := cs2.headD 0 / 3 % PS.length) (k0e _ (by omega)) (j5e _ q0)
        obtain ⟨q, hq1, g2⟩ := s0c (ps := PS) (i := cs2.headD 0 / 30 % PS.length) (k0e _ (by omega)) (j5e _ q0)
        have ll : ((ts ++ nt).map tieD).length ≤ 100000 := by
          have a1 := congrArg List.length hz
          have a2 := ht2.length_le
          have a3 := yy.out.2.2
          rw [g9e] at a1
          rw [g8e] at a2
          rw [g8e, g9e]
          omega
        have e4 := @w8a p
        have e5 := @w8a q
        have e6 : opIx (ptD p) (.int 0) = some (.int p.1) := id rfl
        have e7 : opIx (ptD q) (.int 0) = some (.int q.1) := id rfl
        have g : Hid (J xs [.bor (deckD cs2.tail), .val n1, .val n2, .val (.int mp), .val (.int mt), .own (.lst (PS.map ptD)), .val (.int x), .own (.lst ((ts ++ nt).map tieD ++ [.tup [.int x, .str y, .int p.1, .int q.1]])), .val (.int (cs2.headD 0)), .val (.int p.1)]) := ⟨by
          rw [hJ'.out]
          refine ⟨pre ++ [x], nt ++ [(x, y, p.1, q.1)], cs2.tail, _, _, _, by rw [hz, h4e]; rfl, fun t h => ?_, ?_, fun t h => ?_, dk.tl, rfl, rfl, rfl, by rw [← h4e, i4e (l₁ := ts ++ nt)]; rfl⟩
          · rcases List.mem_append.mp h with h | h
            · exact j2e _ (ht1 t h)
            · rw [i7e] at h; subst h; exact j8e _ h1e
          · rw [i4e]
            exact ht2.append (List.Sublist.refl _)
          · rcases List.mem_append.mp h with h | h
            · exact hef t h
            · rw [i7e] at h; subst h; exact ⟨hy, ⟨p, hp1, rfl⟩, ⟨q, hq1, rfl⟩⟩⟩
        rw [hE] at nb
        clear hJ' hR' hz ht1 ht2 hef dk hE pa hy hp1 hq1 p0
        exists PS.map ptD, y1
        exists (ts ++ nt).map tieD, y2
        exists ptD p, pd
        exists ptD q, qd
        walk_at "ev"
        exact g.out
    · clear e2 s1 i2 nx h0 i1
      intro ρ h
      rw [hJ'.out] at h
      obtain ⟨pre, nt, cs2, s6, s8, s9, hz, ht1, ht2, hef, dk, n6, n8, n9, rfl⟩ := h
      rw [h5e] at hz
      subst hz
      have so1 := k5c (fun p hp => w9a (pa p hp))
      have TS : ∀ t ∈ ts ++ nt, efT PS t := fun t h => by
        rcases List.mem_append.mp h with h | h
        · obtain ⟨_, a, ⟨x, hx, ex⟩, ⟨y, hy, ey⟩⟩ := m.tk t h
          exact ⟨a, ⟨x, by rw [hPS'.out]; exact j2e _ hx, ex⟩, ⟨y, by rw [hPS'.out]; exact j2e _ hy, ey⟩⟩
        · exact hef t h
      have so2 := e9c (fun t ht => s3c (TS t ht))
      have nd1 : (PS.map (·.1)).Nodup := by
        rw [hPS'.out, i4e, hn'.out, List.nodup_append]
        refine ⟨m.pr.imp fun h => by omega, zz.out.2.1, fun a ha b hb e => ?_⟩
        subst e
        exact (f1 a (zz.out.1 a hb)).2 (j2e _ ha)
      have nd2 : ((ts ++ nt).map (·.1)).Nodup := by
        rw [i4e, List.nodup_append]
        refine ⟨m.tr.imp fun h => by omega, ht2.nodup yy.out.2.1, fun a ha b hb e => ?_⟩
        subst e
        exact (f2 a (yy.out.1 a (ht2.subset hb))).2 (j2e _ ha)
      obtain ⟨r1, pm1⟩ := o6b (f := ptD) (key := (·.1)) (fun x => ⟨_, rfl⟩) nd1
      obtain ⟨r2, pm2⟩ := o6b (f := tieD) (key := (·.1)) (fun x => ⟨_, rfl⟩) nd2
      have hnew : ∀ p ∈ ns, p.1 ∈ Z1 := fun p hp => by rw [hn'.out.symm]; exact List.mem_map.mpr ⟨p, hp, rfl⟩
      have fin : Hid (R (netD (srt ptD PS) (srt tieD (ts ++ nt))) [.bor (deckD cs2), .val n1, .val n2, .val (.int mp), .val (.int mt), .own (.lst (PS.map ptD)), s6, .own (.lst ((ts ++ nt).map tieD)), s8, s9]) := ⟨by
        rw [hR'.out]
        refine ⟨_, _, cs2, _, ⟨⟨fun p hp => ?_, fun t ht => ?_, r1, r2⟩, fun p hp => ?_, fun t ht => ?_, fun p hp => ?_, fun t ht => ?_, ?_, ?_, ?_, ?_, fun h => ?_, fun h => ?_⟩, dk, rfl, rfl⟩
        · have hp := pm1.mem_iff.mp hp
          refine ⟨?_, pa p hp⟩
          rw [hPS'.out] at hp
          rcases List.mem_append.mp hp with h | h
          · exact (m.pk p h).1
          · have := (f1 p.1 (zz.out.1 _ (hnew p h))).1
            omega
        · have ht := pm2.mem_iff.mp ht
          obtain ⟨a, ⟨x, hx, ex⟩, ⟨y, hy, ey⟩⟩ := TS t ht
          refine ⟨?_, a, ⟨x, pm1.mem_iff.mpr hx, ex⟩, ⟨y, pm1.mem_iff.mpr hy, ey⟩⟩
          rcases List.mem_append.mp ht with h | h
          · exact (m.tk t h).1
          · have := (f2 t.1 (yy.out.1 _ (ht1 t h))).1
            omega
        · exact pm1.mem_iff.mpr (by rw [hPS'.out]; exact j2e _ hp)
        · exact pm2.mem_iff.mpr (j2e _ ht)
        · have hp := pm1.mem_iff.mp hp
          rw [hPS'.out] at hp
          rcases List.mem_append.mp hp with h | h
          · exact .inl h
          · have := (f1 p.1 (zz.out.1 _ (hnew p h))).2
            exact .inr ⟨fun z => this (j2e _ z), fun z => this (j8e _ z)⟩
        · have ht := pm2.mem_iff.mp ht
          rcases List.mem_append.mp ht with h | h
          · exact .inl h
          · have := (f2 t.1 (yy.out.1 _ (ht1 t h))).2
            exact .inr ⟨fun z => this (j2e _ z), fun z => this (j8e _ z)⟩
        · have a1 := pm1.length_eq
          have a2 := congrArg List.length hn'.out
          have a3 := zz.out.2.2
          rw [hPS'.out, g9e] at a1
          rw [g8e] at a2
          rw [hPS'.out]
          omega
        · have a1 := pm2.length_eq
          have a2 := ht2.length_le
          have a3 := yy.out.2.2
          rw [g9e] at a1
          rw [g8e] at a2
          omega
        · have a1 := pm1.length_eq
          rw [hPS'.out, g9e] at a1
          rw [hPS'.out]
          omega
        · have a1 := pm2.length_eq
          rw [g9e] at a1
          omega
        · have a1 := pm1.length_eq
          rw [h, hPS'.out, g9e] at a1
          have e : ns = [] := List.eq_nil_of_length_eq_zero (by omega)
          rw [hPS'.out, e, h5e]
          exact s2c (f := ptD) (key := (·.1)) (fun x => ⟨_, rfl⟩) m.pr
        · have a1 := pm2.length_eq
          rw [h, g9e] at a1
          have e : nt = [] := List.eq_nil_of_length_eq_zero (by omega)
          rw [e, h5e]
          exact s2c (f := tieD) (key := (·.1)) (fun x => ⟨_, rfl⟩) m.tr⟩
      have pl1 : plainO (.lst ((srt ptD PS).map ptD)) = true := j3a
      have pl2 : plainO (.lst ((srt tieD (ts ++ nt)).map tieD)) = true := h9a
      clear hJ' hR' ht1 ht2 hef dk pa TS nd1 nd2 r1 pm1 r2 pm2 hnew
      unfold netD at fin
      exists PS.map ptD, y1
      exists (ts ++ nt).map tieD, y2
      exists (srt ptD PS).map ptD, y3
      exists (srt tieD (ts ++ nt)).map tieD, y4
      walk_at "ev"
      exact fin.out
def lexPr (p q : Int × Int) : Bool := decide (p.1 < q.1 ∨ (p.1 = q.1 ∧ p.2 ≤ q.2))
theorem x0d {p q : Int × Int} : lePr p q = lexPr p q := by
 have h : lePr p q = if decide (p.1 = q.1) = true then (if decide (p.2 = q.2) = true then true else decide (p.2 ≤ q.2)) else decide (p.1 ≤ q.1) := rfl
 rw [h]
 unfold lexPr
 by_cases h1 : p.1 = q.1
 ·by_cases h2 : p.2 = q.2
  ·rw [decide_eq_true h1, decide_eq_true h2, if_pos rfl, if_pos rfl]
   exact (decide_eq_true (.inr ⟨h1, by omega⟩)).symm
  ·rw [decide_eq_true h1, decide_eq_false h2, if_pos rfl, if_neg k6e]
   exact decide_eq_decide.mpr ⟨fun h => .inr ⟨h1, h⟩, fun h => by omega⟩
 ·rw [decide_eq_false h1, if_neg k6e]
  exact decide_eq_decide.mpr ⟨fun h => .inl (by omega), fun h => by omega⟩
theorem d1e {p q : Int × Int} : leD (prD p) (prD q) = lexPr p q := by
 show (!PySem.W.dataLt (.tuple [.int q.1, .int q.2]) (.tuple [.int p.1, .int p.2])) = _
 rw [PySem.W.dataLt_ii]
 unfold lexPr
 by_cases h : q.1 < p.1 ∨ (q.1 = p.1 ∧ q.2 < p.2)
 ·rw [decide_eq_true h, decide_eq_false (by omega)]
  rfl
 ·rw [decide_eq_false h, decide_eq_true (by omega)]
  rfl
theorem g5b {n : Nat} : ∀ {qs : List (Int × Int)}, fits (n + 1) (qs.map prD) = true
  | [] => by simp [fits]
  | q :: qs => by
    rw [h3e]
    unfold fits
    rw [g5b]
    show (fits n [.int q.1, .int q.2] && true) = true
    unfold fits fits fits
    cases n <;> rfl
theorem x5c {qs : List (Int × Int)} : opSorted [.lst (qs.map prD)] = some (.lst ((srt prD qs).map prD)) := by
 show (if fits 60 (qs.map prD) && (alikes (qs.map prD) && ((qs.map prD).all tupD || (qs.map prD).all oneD)) then some (D.lst (sortD (qs.map prD))) else none) = _
 have h1 : alikes (qs.map prD) = true := by
  unfold alikes
  rw [k7e, i2e]
  intro p _
  show ((qs.map prD).all fun b => PySem.W.alike (py (prD p)) (py b)) = true
  rw [k7e, i2e]
  intro q _
  show PySem.W.alike (py (prD p)) (py (prD q)) = true
  simp [prD, py, pys, PySem.W.alike, PySem.W.alikeAll]
 have h2 : (qs.map prD).all tupD = true := by
  rw [k7e, i2e]
  intro p _
  rfl
 rw [g5b, h1, h2, l2b]
 rfl
theorem s4c : ∀ {qs : List (Int × Int)}, qs.Pairwise (fun p q => lexPr q p = false) → risPr qs = true
  | [], _ => rfl
  | [_], _ => rfl
  | a :: b :: r, h => by
    show (!lePr b a && risPr (b :: r)) = true
    rw [List.pairwise_cons] at h
    rw [x0d, h.1 b h1e, s4c h.2]
    rfl
theorem x1d {qs : List (Int × Int)} (nd : qs.Nodup) : (srt prD qs).Pairwise (fun p q => lexPr q p = false) ∧ (srt prD qs).Perm qs := by
 have e : srt prD qs = qs.mergeSort lexPr := by
  unfold srt
  exact PySem.W.sort_congr fun a _ b _ => d1e
 rw [e]
 have hp : (qs.mergeSort lexPr).Perm qs := List.mergeSort_perm _ _
 refine ⟨?_, hp⟩
 have hs := List.pairwise_mergeSort (le := lexPr) (fun a b c h1 h2 => by unfold lexPr at *; simp only [decide_eq_true_eq] at *; omega) (fun a b => by unfold lexPr; simp only [Bool.or_eq_true, decide_eq_true_eq]; omega) qs
 have hn : (qs.mergeSort lexPr).Nodup := hp.nodup_iff.mpr nd
 refine (hs.and hn).imp fun {a b} h => ?_
 obtain ⟨h1, h2⟩ := h
 unfold lexPr at *
 have h1 := of_decide_eq_true h1
 refine decide_eq_false fun z => h2 ?_
 obtain ⟨a1, a2⟩ := a
 obtain ⟨b1, b2⟩ := b
 dsimp only at *
 have : a1 = b1 ∧ a2 = b2 := by omega
 rw [this.1, this.2]
theorem x6c {qs : List (Int × Int)} : opEq (.lst (qs.map prD)) (.lst []) = some (.bl qs.isEmpty) := by
 show (if fit 60 (.lst (qs.map prD)) && fit 60 (.lst []) then some (D.bl (eqD (.lst (qs.map prD)) (.lst []))) else none) = _
 rw [show fit 60 (.lst (qs.map prD)) = true from g5b, show fit 60 (.lst []) = true from rfl]
 cases qs <;> rfl
theorem o8b : ∀ {qs : List (Int × Int)}, plainL (qs.map prD) = true
  | [] => e0a
  | q :: qs => by
    rw [h3e, c6a, o8b]
    rfl
def PrOk (sp : List P2) (q : Int × Int) : Prop := q.1 < q.2 ∧ ∃ x, (q.1, x) ∈ sp ∧ (q.2, x) ∈ sp
theorem d2e {x y : Str} (hx : PyData.strOk x = true) (hy : PyData.strOk y = true) : opEq (.str x) (.str y) = some (.bl (x == y)) := by
 show (if fit 60 (.str x) && fit 60 (.str y) then some (D.bl (eqD (.str x) (.str y))) else none) = _
 rw [show fit 60 (.str x) = true from hx, show fit 60 (.str y) = true from hy]
 rfl
theorem x2d {xs : List (Int × Int)} {i : Int} (h : 0 ≤ i) : opSlL (.lst (xs.map prD)) none (some i) = some (.lst ((xs.take i.toNat).map prD)) := by
 show some (D.lst (cutL (xs.map prD) none (some i))) = _
 rw [q3d h, List.map_take]
theorem x3d {cs : List Int} {sp : List P2} {st : List T4} (hd : Dk cs) (m : LN sp st) (l1 : sp.length ≤ 10) :
    ∃ (qs : List (Int × Int)) (cs' : List Int) (ρ' : List Sl), qs.length ≤ 3 ∧ risPr qs = true ∧ (∀ q ∈ qs, PrOk sp q) ∧ Dk cs' ∧ d_law_loose [.bor (deckD cs), .val (netD sp st), .no, .no, .no] = .rt (.tup (qs.map prD)) (.bor (deckD cs') :: ρ') := by
  suffices h : wO (d_law_loose [.bor (deckD cs), .val (netD sp st), .no, .no, .no]) (k := ⟨fun _ => False, fun d ρ => ∃ (qs : List (Int × Int)) (cs' : List Int) (ρ' : List Sl), qs.length ≤ 3 ∧ risPr qs = true ∧ (∀ q ∈ qs, PrOk sp q) ∧ Dk cs' ∧ d = .tup (qs.map prD) ∧ ρ = .bor (deckD cs') :: ρ', fun _ _ => False, fun _ => False⟩) by
    obtain ⟨d, ρ, e, qs, cs', ρ', h1, h2, h3, h4, h5, h6⟩ := p2c h
    subst h5
    subst h6
    exact ⟨qs, cs', ρ', h1, h2, h3, h4, e⟩
  obtain ⟨R, hR⟩ : ∃ R : D → List Sl → Prop, R = fun d ρ => ∃ (qs : List (Int × Int)) (cs' : List Int) (ρ' : List Sl), qs.length ≤ 3 ∧ risPr qs = true ∧ (∀ q ∈ qs, PrOk sp q) ∧ Dk cs' ∧ d = .tup (qs.map prD) ∧ ρ = .bor (deckD cs') :: ρ' := ⟨_, rfl⟩
  rw [← hR]
  have i1 : opIx (netD sp st) (.int 0) = some (.tup (sp.map ptD)) := id rfl
  have i2 : opLen [.tup (sp.map ptD)] = some (.int sp.length) := by rw [g1a, g8e]
  have rr : ∀ n : Nat, n ≤ 10 → rng1 [.int (n : Int)] = some ((n9e 0 n).map fun k => D.int (k : Nat)) := fun n hn => by
    rw [k3a (by omega), ← List.range_eq_range']
    rfl
  have r1 := rr sp.length l1
  have nm : ∀ {i j : Nat} (hi : i < sp.length) (hj : j < sp.length), i < j → sp[i].1 < sp[j].1 := fun {i j} hi hj h => by
    have := List.pairwise_iff_getElem.mp m.pr i j (by rw [g8e]; exact hi) (by rw [g8e]; exact hj) h
    rwa [List.getElem_map, List.getElem_map] at this
  obtain ⟨I, hI⟩ : ∃ I : List Nat → List Sl → Prop, I = fun xs ρ => ∃ (a : Nat) (qs : List (Int × Int)) (s3 s4 : Sl), xs = n9e a (sp.length - a) ∧ a ≤ sp.length ∧ qs.Nodup ∧ qs.length ≤ 100 * a ∧ (∀ q ∈ qs, PrOk sp q ∧ ∃ j, ∃ hj : j < sp.length, j < a ∧ q.2 = sp[j].1) ∧ notBor (some s3) = true ∧ notBor (some s4) = true ∧ ρ = [.bor (deckD cs), .val (netD sp st), .own (.lst (qs.map prD)), s3, s4] := ⟨_, rfl⟩
  have h0 : Hid (I (n9e 0 sp.length) [.bor (deckD cs), .val (netD sp st), .own (.lst []), .no, .no]) := ⟨by
    rw [hI]
    exact ⟨0, [], .no, .no, rfl, n2e _, List.Pairwise.nil, by simp, fun q h => (by cases h), rfl, rfl, rfl⟩⟩
  have hI' := Hid.mk hI
  have hR' := Hid.mk hR
  have dk := Hid.mk hd
  have rr' := Hid.mk rr
  clear hI hR hd rr
  unfold d_law_loose
  generalize hn : netD sp st = n1 at *
  walk_at "ev"
  refine v2a I h0.out ?_ ?_
  · clear h0 r1
    intro x xs ρ h
    rw [hI'.out] at h
    obtain ⟨a, qs, s3, s4, hx, ha, nd, ql, hq, n3, n4, rfl⟩ := h
    have hlt : a < sp.length := by
      cases q : sp.length - a with
      | zero => rw [q] at hx; cases hx
      | succ n => omega
    rw [show sp.length - a = (sp.length - (a + 1)) + 1 by omega, List.range'_succ] at hx
    injection hx with hx1 hx2
    subst hx1
    have r2 := rr'.out x (by omega)
    obtain ⟨J, hJ⟩ : ∃ J : List Nat → List Sl → Prop, J = fun ys ρ => ∃ (t : Nat) (qs : List (Int × Int)) (s4 : Sl), ys = n9e t (x - t) ∧ t ≤ x ∧ qs.Nodup ∧ qs.length ≤ 100 * x + t ∧ (∀ q ∈ qs, PrOk sp q ∧ ((∃ j, ∃ hj : j < sp.length, j < x ∧ q.2 = sp[j].1) ∨ (q.2 = sp[x].1 ∧ ∃ i, ∃ hi : i < sp.length, i < t ∧ q.1 = sp[i].1))) ∧ notBor (some s4) = true ∧ ρ = [.bor (deckD cs), .val n1, .own (.lst (qs.map prD)), .val (.int (x : Nat)), s4] := ⟨_, rfl⟩
    have j0 : Hid (J (n9e 0 x) [.bor (deckD cs), .val n1, .own (.lst (qs.map prD)), .val (.int (x : Nat)), s4]) := ⟨by
      rw [hJ]
      exact ⟨0, qs, s4, rfl, n2e _, nd, by omega, fun q hq' => ⟨(hq q hq').1, .inl (hq q hq').2⟩, n4, rfl⟩⟩
    have hJ' := Hid.mk hJ
    have hx2' := Hid.mk hx2
    clear hJ hx2 hq nd ql
    exists qs.map prD, q0
    walk_at "ev"
    refine h7c (N := fun _ => True) J ?_ ?_ j0.out
    · clear j0 r2
      intro y ys ρ h
      rw [hJ'.out] at h
      obtain ⟨t, qs, s4, hy, ht, nd, ql, hq, n4, rfl⟩ := h
      have hlt2 : t < x := by
        cases q : x - t with
        | zero => rw [q] at hy; cases hy
        | succ n => omega
      rw [show x - t = (x - (t + 1)) + 1 by omega, List.range'_succ] at hy
      injection hy with hy1 hy2
      subst hy1
      have a1 : atI (sp.map ptD) (x : Nat) = some (.tup [.int sp[x].1, .str sp[x].2]) := i9a (by omega) (by rw [i3e, show ((x : Nat) : Int).toNat = x by omega, h7e hlt]; rfl)
      have a2 : atI (sp.map ptD) (y : Nat) = some (.tup [.int sp[y].1, .str sp[y].2]) := i9a (by omega) (by rw [i3e, show ((y : Nat) : Int).toNat = y by omega, h7e (by omega)]; rfl)
      have es := d2e (w9a (m.pk _ (k8e hlt)).2) (w9a (m.pk sp[y] (k8e (by omega))).2)
      have ll : (qs.map prD).length ≤ 100000 := by rw [g8e]; omega
      cases hk : (sp[x].2 == sp[y].2) with
      | false =>
        rw [hk] at es
        have g : Hid (J ys [.bor (deckD cs), .val n1, .own (.lst (qs.map prD)), .val (.int (x : Nat)), .val (.int (y : Nat))]) := ⟨by
          rw [hJ'.out]
          refine ⟨y + 1, qs, _, hy2, by omega, nd, by omega, fun q hq' => ⟨(hq q hq').1, ?_⟩, rfl, rfl⟩
          rcases (hq q hq').2 with h | ⟨h1, i, hi, h2, h3⟩
          · exact .inl h
          · exact .inr ⟨h1, i, hi, by omega, h3⟩⟩
        clear hI' hJ' hR' hx2' nd hq hk hy2 m nm
        exists qs.map prD, q1
        exists sp.map ptD, s1
        walk_at "ev"
        exact g.out
      | true =>
        rw [hk] at es
        have hk := eq_of_beq hk
        have g : Hid (J ys [.bor (deckD cs), .val n1, .own (.lst (qs.map prD ++ [.tup [.int sp[y].1, .int sp[x].1]])), .val (.int (x : Nat)), .val (.int (y : Nat))]) := ⟨by
          rw [hJ'.out]
          refine ⟨y + 1, qs ++ [(sp[y].1, sp[x].1)], _, hy2, by omega, ?_, by rw [g9e, h8e]; omega, fun q hq' => ?_, rfl, by rw [i4e]; rfl⟩
          · rw [List.nodup_append]
            refine ⟨nd, List.nodup_cons.mpr ⟨fun h => (by cases h), List.Pairwise.nil⟩, fun b hb c hc e => ?_⟩
            rw [i7e] at hc
            subst e
            rcases (hq b hb).2 with ⟨j, hj, h1, h2⟩ | ⟨h1, i, hi, h2, h3⟩
            · rw [hc] at h2
              have := nm hj hlt h1
              dsimp only at h2
              omega
            · rw [hc] at h3
              have := nm hi (show y < sp.length by omega) h2
              dsimp only at h3
              omega
          · rcases List.mem_append.mp hq' with h | h
            · refine ⟨(hq q h).1, ?_⟩
              rcases (hq q h).2 with h | ⟨h1, i, hi, h2, h3⟩
              · exact .inl h
              · exact .inr ⟨h1, i, hi, by omega, h3⟩
            · rw [i7e] at h
              subst h
              exact ⟨⟨nm (by omega) hlt hlt2, sp[x].2, by rw [hk]; exact k8e (by omega), k8e hlt⟩, .inr ⟨rfl, y, by omega, by omega, rfl⟩⟩⟩
        clear hI' hJ' hR' hx2' nd hq hk hy2 m nm
        exists qs.map prD, q1
        exists sp.map ptD, s1
        walk_at "ev"
        exact g.out
    · intro ρ h
      rw [hJ'.out] at h
      obtain ⟨t, qs, s4, hy, ht, nd, ql, hq, n4, rfl⟩ := h
      have hz : x - t = 0 := by
        have := congrArg List.length hy
        simpa using this.symm
      show I xs _
      rw [hI'.out]
      refine ⟨x + 1, qs, _, s4, hx2'.out, by omega, nd, by omega, fun q hq' => ⟨(hq q hq').1, ?_⟩, rfl, n4, rfl⟩
      rcases (hq q hq').2 with ⟨j, hj, h1, h2⟩ | ⟨h1, _⟩
      · exact ⟨j, hj, by omega, h2⟩
      · exact ⟨x, hlt, by omega, h1⟩
  · clear h0 r1
    intro ρ h
    rw [hI'.out] at h
    obtain ⟨a, qs, s3, s4, hx, ha, nd, ql, hq, n3, n4, rfl⟩ := h
    have nx := @g8a cs
    have nx2 := @g8a cs.tail
    have eqn := @x6c qs
    have so := @x5c qs
    obtain ⟨p1, p2⟩ := x1d nd
    have pl : plainO (.lst ((srt prD qs).map prD)) = true := o8b
    have sl := x2d (xs := srt prD qs) (i := 1 + cs.tail.headD 0 % 3) (by omega)
    have f0 : ∀ cs2, Dk cs2 → Hid (R (.tup []) [.bor (deckD cs2), .val n1, .own (.lst (qs.map prD)), s3, s4]) := fun cs2 d2 => ⟨by
      rw [hR'.out]
      exact ⟨[], cs2, _, by simp, rfl, fun q h => (by cases h), d2, rfl, rfl⟩⟩
    have f1 : Hid (R (.tup (((srt prD qs).take (1 + cs.tail.headD 0 % 3).toNat).map prD)) [.bor (deckD cs.tail.tail), .val n1, .own (.lst (qs.map prD)), s3, s4]) := ⟨by
      rw [hR'.out]
      refine ⟨_, cs.tail.tail, _, ?_, s4c (p1.sublist (List.take_sublist _ _)), fun q h => (hq q (p2.mem_iff.mp (List.mem_of_mem_take h))).1, dk.out.tl.tl, rfl, rfl⟩
      exact l1e (List.length_take_le _ _) (by omega)⟩
    have f2 := f0 cs.tail dk.out.tl
    by_cases h1 : (0 : Int) < cs.headD 0 % 4
    · clear hI' hR' hq nd p1 p2 f0 f1 nx2 sl so pl eqn hx m nm
      exists qs.map prD, q1
      walk_at "ev"
      exact f2.out
    · cases hE : qs.isEmpty with
      | true =>
        rw [hE] at eqn
        clear hI' hR' hq nd p1 p2 f0 f1 nx2 sl so pl hx m nm hE
        exists qs.map prD, q1
        walk_at "ev"
        exact f2.out
      | false =>
        rw [hE] at eqn
        clear hI' hR' hq nd p1 p2 f0 f2 hx m nm hE
        exists ((srt prD qs).take (1 + cs.tail.headD 0 % 3).toNat).map prD, q2
        exists (srt prD qs).map prD, q3
        exists qs.map prD, q1
        walk_at "ev"
        exact f1.out
theorem x0b {α : Type} [DecidableEq α] {f : α → D} (hf : ∀ a b, eqD (f a) (f b) = decide (a = b)) : ∀ {xs ys : List α}, eqDs (xs.map f) (ys.map f) = decide (xs = ys)
  | [], [] => rfl
  | [], _ :: _ => by
    rw [j6e, h3e]
    exact (decide_eq_false (fun z => by cases z)).symm
  | _ :: _, [] => by
    rw [j6e, h3e]
    exact (decide_eq_false (fun z => by cases z)).symm
  | x :: xs, y :: ys => by
    rw [h3e, h3e]
    show (eqD (f x) (f y) && eqDs (xs.map f) (ys.map f)) = _
    rw [hf, x0b hf]
    by_cases h1 : x = y
    · by_cases h2 : xs = ys
      · rw [h1, h2]; simp
      · rw [decide_eq_false h2, m2e]
        exact (decide_eq_false (fun z => h2 (List.cons.inj z).2)).symm
    · rw [decide_eq_false h1, l6e]
      exact (decide_eq_false (fun z => h1 (List.cons.inj z).1)).symm
theorem d3e {a b : P2} : eqD (ptD a) (ptD b) = decide (a = b) := by
 have h : eqD (keyD (kP a)) (keyD (kP b)) = decide (kP a = kP b) := r7c
 rw [show ptD a = keyD (kP a) from rfl, show ptD b = keyD (kP b) from rfl]
 rw [h]
 exact decide_eq_decide.mpr r0d
theorem x4d {a b : T4} : eqD (tieD a) (tieD b) = decide (a = b) := by
 have h : eqD (keyD (kT a)) (keyD (kT b)) = decide (kT a = kT b) := r7c
 rw [show tieD a = keyD (kT a) from rfl, show tieD b = keyD (kT b) from rfl]
 rw [h]
 exact decide_eq_decide.mpr r1d
theorem x5d {a c : List P2} {b d : List T4} : eqD (netD a b) (netD c d) = (decide (a = c) && decide (b = d)) := by
 show (eqDs (a.map ptD) (c.map ptD) && (eqDs (b.map tieD) (d.map tieD) && true)) = _
 rw [x0b (fun a b => d3e), x0b (fun a b => x4d), n4e]
theorem k6c {n : Nat} {a : List P2} {b : List T4} (h1 : ∀ p ∈ a, PyData.strOk p.2 = true) (h2 : ∀ t ∈ b, PyData.strOk t.2.1 = true) : fit (n + 3) (netD a b) = true := by
 show fits (n + 2) [.tup (a.map ptD), .tup (b.map tieD)] = true
 unfold fits fits fits
 show (fits (n + 1) (a.map ptD) && (fits (n + 1) (b.map tieD) && true)) = true
 rw [g4b h1, l1b h2]
 rfl
theorem d4e {a c : List P2} {b d : List T4} (h1 : ∀ p ∈ a, PyData.strOk p.2 = true) (h2 : ∀ t ∈ b, PyData.strOk t.2.1 = true) (h3 : ∀ p ∈ c, PyData.strOk p.2 = true) (h4 : ∀ t ∈ d, PyData.strOk t.2.1 = true) : opNe (netD a b) (netD c d) = some (.bl (!(decide (a = c) && decide (b = d)))) := by
 show (if fit 60 (netD a b) && fit 60 (netD c d) then some (D.bl (!eqD (netD a b) (netD c d))) else none) = _
 rw [show fit 60 (netD a b) = true from k6c (n := 57) h1 h2, show fit 60 (netD c d) = true from k6c (n := 57) h3 h4, x5d]
 rfl
theorem LN.sp {ps : List P2} {ts : List T4} (m : LN ps ts) : ∀ p ∈ ps, PyData.strOk p.2 = true := fun p hp => w9a (m.pk p hp).2
theorem LN.st {ps : List P2} {ts : List T4} (m : LN ps ts) : ∀ t ∈ ts, PyData.strOk t.2.1 = true := fun p hp => s3c (m.tk p hp).2
abbrev Nt := List P2 × List T4
def ntD (n : Nt) : D := netD n.1 n.2
theorem x6d {A B : List P2} (h : ∀ p ∈ A, p ∈ B) : subP A B = true := by
 unfold subP
 rw [i2e]
 intro p hp
 rw [n1e]
 exact ⟨p, h p hp, by simp⟩
theorem x7d {A B : List T4} (h : ∀ p ∈ A, p ∈ B) : subT A B = true := by
 unfold subT
 rw [i2e]
 intro p hp
 rw [n1e]
 exact ⟨p, h p hp, by simp⟩
theorem s5c {lp fp : List P2} {lt ft : List T4} (g : Good fp ft) (h1 : ∀ p ∈ lp, p ∈ fp) (h2 : ∀ p ∈ lt, p ∈ ft) (n1 : (fp.length : Int) - lp.length ≤ 2) (n2 : (ft.length : Int) - lt.length ≤ 2) (n3 : 0 < (fp.length : Int) - lp.length + ((ft.length : Int) - lt.length)) : forbB lp lt (netD fp ft) = true := by
 unfold forbB
 rw [g3b g]
 dsimp only
 rw [x6d h1, x7d h2, decide_eq_true n1, decide_eq_true n2, decide_eq_true n3]
 rfl
theorem f1c {a : List P2} {b : List T4} : plain (netD a b) = true := by
 unfold netD
 rw [f7a, c6a, c6a, e0a, f7a, f7a, j3a, h9a]
 rfl
theorem l3b : ∀ {ns : List Nt}, plainL (ns.map ntD) = true
  | [] => e0a
  | n :: ns => by
    rw [h3e, c6a, l3b, show plain (ntD n) = true from f1c]
    rfl
theorem g0e {i : Int} (h : 0 ≤ i ∧ i < 4) : ∃ n : Nat, n ≤ 2 ∧ atI [D.int 0, .int 0, .int 1, .int 2] i = some (.int (n : Nat)) := by
 have h1 : i = 0 ∨ i = 1 ∨ i = 2 ∨ i = 3 := by omega
 rcases h1 with h1 | h1 | h1 | h1 <;> subst h1
 ·exact ⟨0, by omega, rfl⟩
 ·exact ⟨0, by omega, rfl⟩
 ·exact ⟨1, by omega, rfl⟩
 ·exact ⟨2, by omega, rfl⟩
theorem f4d {cs : List Int} {lp : List P2} {lt : List T4} (hd : Dk cs) (m : LN lp lt) (l1 : lp.length ≤ 10) (l2 : lt.length ≤ 10) :
    ∃ (fs : List Nt) (cs' : List Int) (ρ' : List Sl), fs.length ≤ 2 ∧ (∀ f ∈ fs, forbB lp lt (ntD f) = true ∧ LN f.1 f.2) ∧ Dk cs' ∧ d_law_forbids [.bor (deckD cs), .val (netD lp lt), .no, .no, .no] = .rt (.tup (fs.map ntD)) (.bor (deckD cs') :: ρ') := by
  suffices h : wO (d_law_forbids [.bor (deckD cs), .val (netD lp lt), .no, .no, .no]) (k := ⟨fun _ => False, fun d ρ => ∃ (fs : List Nt) (cs' : List Int) (ρ' : List Sl), fs.length ≤ 2 ∧ (∀ f ∈ fs, forbB lp lt (ntD f) = true ∧ LN f.1 f.2) ∧ Dk cs' ∧ d = .tup (fs.map ntD) ∧ ρ = .bor (deckD cs') :: ρ', fun _ _ => False, fun _ => False⟩) by
    obtain ⟨d, ρ, e, fs, cs', ρ', h1, h2, h4, h5, h6⟩ := p2c h
    subst h5
    subst h6
    exact ⟨fs, cs', ρ', h1, h2, h4, e⟩
  obtain ⟨R, hR⟩ : ∃ R : D → List Sl → Prop, R = fun d ρ => ∃ (fs : List Nt) (cs' : List Int) (ρ' : List Sl), fs.length ≤ 2 ∧ (∀ f ∈ fs, forbB lp lt (ntD f) = true ∧ LN f.1 f.2) ∧ Dk cs' ∧ d = .tup (fs.map ntD) ∧ ρ = .bor (deckD cs') :: ρ' := ⟨_, rfl⟩
  rw [← hR]
  have nx := @g8a cs
  obtain ⟨n, hn, pk⟩ := g0e (i := cs.headD 0 % 4) (by omega)
  have r1 : rng1 [.int (n : Int)] = some ((List.range n).map fun k => D.int (k : Nat)) := by
    rw [k3a (by omega)]
    rfl
  obtain ⟨I, hI⟩ : ∃ I : List Nat → List Sl → Prop, I = fun xs ρ => ∃ (fs : List Nt) (cs' : List Int) (s3 s4 : Sl), fs.length + xs.length ≤ 2 ∧ (∀ f ∈ fs, forbB lp lt (ntD f) = true ∧ LN f.1 f.2) ∧ Dk cs' ∧ notBor (some s3) = true ∧ notBor (some s4) = true ∧ ρ = [.bor (deckD cs'), .val (netD lp lt), .own (.lst (fs.map ntD)), s3, s4] := ⟨_, rfl⟩
  have h0 : Hid (I (List.range n) [.bor (deckD cs.tail), .val (netD lp lt), .own (.lst []), .no, .no]) := ⟨by
    rw [hI]
    exact ⟨[], cs.tail, .no, .no, by rw [j3e, i5e]; omega, fun f h => (by cases h), hd.tl, rfl, rfl, rfl⟩⟩
  have hI' := Hid.mk hI
  have hR' := Hid.mk hR
  clear hI hR hd
  unfold d_law_forbids
  generalize hn1 : netD lp lt = n1 at *
  walk_at "ev"
  refine v2a I h0.out ?_ ?_
  · clear h0 r1 pk nx
    intro x xs ρ h
    rw [hI'.out] at h
    obtain ⟨fs, cs', s3, s4, hl, hf, dk, n3, n4, rfl⟩ := h
    obtain ⟨fp, ft, cs2, ρ2, ad, dk2, e2⟩ := f3d (qs := lp) (us := lt) (mp := 1) (mt := 2) dk m (by omega) (by omega) (by omega) (by omega) (by omega) (by omega)
    rw [hn1] at e2
    have nn := d4e ad.ln.sp ad.ln.st m.sp m.st
    rw [hn1] at nn
    rw [h0e] at hl
    have ll : (fs.map ntD).length ≤ 100000 := by rw [g8e]; omega
    have p1 := ad.pl
    have p2 := ad.tl
    have p3 := ad.pl0
    have p4 := ad.tl0
    cases hE : (decide (fp = lp) && decide (ft = lt)) with
    | true =>
      rw [hE] at nn
      have g : Hid (I xs [.bor (deckD cs2), .val n1, .own (.lst (fs.map ntD)), .val (.int (x : Nat)), .val (netD fp ft)]) := ⟨by
        rw [hI'.out]
        exact ⟨fs, cs2, _, _, by omega, hf, dk2, rfl, rfl, rfl⟩⟩
      clear hI' hR' hf dk dk2 hE ad m hn1
      exists netD fp ft, n2
      exists fs.map ntD, q1
      walk_at "ev"
      exact g.out
    | false =>
      rw [hE] at nn
      have hne : 0 < (fp.length : Int) - lp.length + ((ft.length : Int) - lt.length) := by
        by_cases h1 : fp.length = lp.length
        · by_cases h2 : ft.length = lt.length
          · rw [ad.peq h1, ad.teq h2] at hE
            simp at hE
          · omega
        · omega
      have g : Hid (I xs [.bor (deckD cs2), .val n1, .own (.lst (fs.map ntD ++ [netD fp ft])), .val (.int (x : Nat)), .val (netD fp ft)]) := ⟨by
        rw [hI'.out]
        refine ⟨fs ++ [(fp, ft)], cs2, _, _, by rw [g9e, h8e]; omega, fun f h => ?_, dk2, rfl, rfl, by rw [i4e]; rfl⟩
        rcases List.mem_append.mp h with h | h
        · exact hf f h
        · rw [i7e] at h
          subst h
          show forbB lp lt (netD fp ft) = true ∧ LN fp ft
          exact ⟨s5c (ad.ln.good (by omega) (by omega)) ad.pin ad.tin (by omega) (by omega) hne, ad.ln⟩⟩
      clear hI' hR' hf dk dk2 hE ad m hn1 p1 p2 p3 p4 hne
      exists netD fp ft, n2
      exists fs.map ntD, q1
      walk_at "ev"
      exact g.out
  · clear h0 r1 pk nx
    intro ρ h
    rw [hI'.out] at h
    obtain ⟨fs, cs', s3, s4, hl, hf, dk, n3, n4, rfl⟩ := h
    rw [i5e] at hl
    have f1 : Hid (R (.tup (fs.map ntD)) [.bor (deckD cs'), .val n1, .own (.lst (fs.map ntD)), s3, s4]) := ⟨by
      rw [hR'.out]
      exact ⟨fs, cs', _, by omega, hf, dk, rfl, rfl⟩⟩
    have pl := @l3b fs
    clear hI' hR' hf dk m hn1
    exists fs.map ntD, q1
    walk_at "ev"
    exact f1.out
theorem g6b {ps : List P2} (pr : (ps.map (·.1)).Pairwise (· < ·)) {p : P2} (hp : p ∈ ps) : lookP ps p.1 = some p.2 := by
  unfold lookP
  cases q : ps.find? fun x => x.1 == p.1 with
  | none =>
    have := List.find?_eq_none.mp q p hp
    simp at this
  | some x =>
    have h1 := List.find?_some q
    have h2 := m0e q
    have e : x.1 = p.1 := by simpa using h1
    have : x = p := w9b (key := fun p : P2 => p.1) (pr.imp fun h => by omega) x h2 p hp e
    rw [this]
    rfl
theorem s6c {ts : List T4} (tr : (ts.map (·.1)).Pairwise (· < ·)) {t : T4} (ht : t ∈ ts) : lookT ts t.1 = some t.2 := by
  unfold lookT
  cases q : ts.find? fun x => x.1 == t.1 with
  | none =>
    have := List.find?_eq_none.mp q t ht
    simp at this
  | some x =>
    have h1 := List.find?_some q
    have h2 := m0e q
    have e : x.1 = t.1 := by simpa using h1
    have : x = t := w9b (key := fun p : T4 => p.1) (tr.imp fun h => by omega) x h2 t ht e
    rw [this]
    rfl
theorem s7c {ps : List P2} {n : Int} : hasP ps n = true ↔ n ∈ ps.map (·.1) := by
 rw [n2d, List.mem_map]
theorem s8c {ts : List T4} {n : Int} : hasT ts n = true ↔ n ∈ ts.map (·.1) := by
 unfold hasT
 rw [n1e, List.mem_map]
 exact ⟨fun ⟨p, h1, h2⟩ => ⟨p, h1, by simpa using h2⟩, fun ⟨p, h1, h2⟩ => ⟨p, h1, by simpa using h2⟩⟩
theorem x7c {lp rp sp : List P2} (pl : (lp.map (·.1)).Pairwise (· < ·)) (pr : (rp.map (·.1)).Pairwise (· < ·)) (h1 : ∀ p ∈ sp, p ∈ lp) (h2 : ∀ p ∈ sp, p ∈ rp) (h3 : ∀ p ∈ rp, p ∈ sp ∨ p.1 ∉ lp.map (·.1)) : ptStand lp rp (sp.map (·.1)) = true := by
 unfold ptStand
 rw [h6e, i2e]
 refine ⟨fun n hn => ?_, ?_⟩
 ·obtain ⟨p, hp, e⟩ := List.mem_map.mp hn
  subst e
  unfold okPt
  rw [g6b pl (h1 p hp), g6b pr (h2 p hp)]
  simp
 ·rw [List.isEmpty_iff, m3e]
  intro p hp
  rw [h6e, m8e]
  rintro ⟨a, b⟩
  obtain ⟨q, hq, e⟩ := List.mem_map.mp (s7c.mp a)
  rcases h3 q hq with h | h
  ·have : (sp.map (·.1)).contains p.1 = true := List.contains_iff_mem.mpr (by rw [← e]; exact List.mem_map.mpr ⟨q, h, rfl⟩)
   rw [this] at b
   cases b
  ·exact h (by rw [e]; exact List.mem_map.mpr ⟨p, hp, rfl⟩)
theorem x8c {lt rt st : List T4} {kp : List Int} (tl : (lt.map (·.1)).Pairwise (· < ·)) (tr : (rt.map (·.1)).Pairwise (· < ·)) (h1 : ∀ p ∈ st, p ∈ lt) (h2 : ∀ p ∈ st, p ∈ rt) (h3 : ∀ p ∈ rt, p ∈ st ∨ p.1 ∉ lt.map (·.1)) (h4 : ∀ t ∈ st, t.2.2.1 ∈ kp ∧ t.2.2.2 ∈ kp) : tiStand lt rt kp (st.map (·.1)) = true := by
 unfold tiStand
 rw [h6e, i2e]
 refine ⟨fun n hn => ?_, ?_⟩
 ·obtain ⟨p, hp, e⟩ := List.mem_map.mp hn
  subst e
  unfold okTi
  rw [s6c tl (h1 p hp), s6c tr (h2 p hp)]
  dsimp only
  rw [List.contains_iff_mem.mpr (h4 p hp).1, List.contains_iff_mem.mpr (h4 p hp).2]
  simp
 ·rw [List.isEmpty_iff, m3e]
  intro p hp
  rw [h6e, m8e]
  rintro ⟨a, b⟩
  obtain ⟨q, hq, e⟩ := List.mem_map.mp (s8c.mp a)
  rcases h3 q hq with h | h
  ·have : (st.map (·.1)).contains p.1 = true := List.contains_iff_mem.mpr (by rw [← e]; exact List.mem_map.mpr ⟨q, h, rfl⟩)
   rw [this] at b
   cases b
  ·exact h (by rw [e]; exact List.mem_map.mpr ⟨p, hp, rfl⟩)
theorem o2d {kp kt : List Int} (h1 : ∀ x ∈ kp, nmB x = true) (h2 : risI kp = true) (h3 : ∀ x ∈ kt, nmB x = true) (h4 : risI kt = true) : pairN (.tup [.tup (kp.map .int), .tup (kt.map .int)]) = some (kp, kt) := by
 unfold pairN
 dsimp only
 have e1 : risN (.tup (kp.map .int)) = some kp := by
  unfold risN
  rw [y7a h1]
  dsimp only
  rw [h2]
  rfl
 have e2 : risN (.tup (kt.map .int)) = some kt := by
  unfold risN
  rw [y7a h3]
  dsimp only
  rw [h4]
  rfl
 rw [e1, e2]
theorem f5d {lp : List P2} {kp : List Int} {qs : List (Int × Int)} (h0 : qs.length ≤ 3) (h1 : risPr qs = true) (h2 : ∀ q ∈ qs, (nmB q.1 = true ∧ nmB q.2 = true) ∧ q.1 < q.2 ∧ q.1 ∈ kp ∧ q.2 ∈ kp ∧ lookP lp q.1 = lookP lp q.2) : looseB lp kp (.tup (qs.map prD)) = true := by
 show (if (qs.map prD).length ≤ 3 then match mapO (looseP lp kp) (qs.map prD) with
  | some qs => risPr qs
  | none => false
  else false) = true
 rw [if_pos (by rw [g8e]; exact h0), k0b (g := prD) fun q hq => ?_]
 ·exact h1
 ·obtain ⟨⟨a1, a2⟩, a3, a4, a5, a6⟩ := h2 q hq
  show (if (nmB q.1 && nmB q.2) && (decide (q.1 < q.2) && ((kp.contains q.1 && kp.contains q.2) && (lookP lp q.1 == lookP lp q.2))) then some (q.1, q.2) else none) = _
  rw [a1, a2, decide_eq_true a3, List.contains_iff_mem.mpr a4, List.contains_iff_mem.mpr a5, a6, beq_self_eq_true]
  rfl
theorem f2c {x : Str} (h : x.length ≤ 100000) : kd (.str x) = true := by
 rw [kd]
 exact decide_eq_true h
theorem g9a {ds : List D} (h1 : ds.length ≤ 100000) (h2 : ∀ d ∈ ds, kd d = true) : kd (.tup ds) = true := by
 rw [kd, decide_eq_true h1, q8d h2]
 rfl
theorem o9b {i : Int} : kd (.int i) = true := by rw [kd] <;> simp
theorem f6d {xs : List Int} (h : xs.length ≤ 1000) : kd (.tup (xs.map .int)) = true := g9a (by rw [g8e]; omega) fun d hd => by
 obtain ⟨i, _, e⟩ := List.mem_map.mp hd
 subst e
 exact o9b
theorem k7c {ps : List P2} {ts : List T4} (g : Good ps ts) : kd (netD ps ts) = true := by
 refine g9a (by simp) fun d hd => ?_
 simp only [k1e, j4e, or_false] at hd
 rcases hd with e | e <;> subst e
 ·refine g9a (by rw [g8e]; have := g.np; omega) fun d hd => ?_
  obtain ⟨p, hp, e⟩ := List.mem_map.mp hd
  subst e
  refine g9a (by simp) fun d hd => ?_
  simp only [k1e, j4e, or_false] at hd
  rcases hd with e | e <;> subst e
  ·exact o9b
  ·exact f2c (w5b (g.pk p hp).2)
 ·refine g9a (by rw [g8e]; have := g.nt; omega) fun d hd => ?_
  obtain ⟨t, ht, e⟩ := List.mem_map.mp hd
  subst e
  refine g9a (by simp) fun d hd => ?_
  simp only [k1e, j4e, or_false] at hd
  rcases hd with e | e | e | e <;> subst e
  ·exact o9b
  ·exact f2c (w5b (g.tk t ht).2.1)
  ·exact o9b
  ·exact o9b
theorem d5e {qs : List (Int × Int)} (h : qs.length ≤ 1000) : kd (.tup (qs.map prD)) = true := g9a (by rw [g8e]; omega) fun d hd => by
 obtain ⟨i, _, e⟩ := List.mem_map.mp hd
 subst e
 refine g9a (by simp) fun d hd => ?_
 simp only [k1e, j4e, or_false] at hd
 rcases hd with e | e <;> subst e <;> exact o9b
structure Rl where
 lp : List P2
 lt : List T4
 kp : List Int
 kt : List Int
 rp : List P2
 rt : List T4
 qs : List (Int × Int)
 fs : List Nt
def rlD (r : Rl) : D := .tup [netD r.lp r.lt, .tup [.tup (r.kp.map .int), .tup (r.kt.map .int)], netD r.rp r.rt, .tup (r.qs.map prD), .tup (r.fs.map ntD)]
structure RlOk (r : Rl) : Prop where
 gl : Good r.lp r.lt
 gr : Good r.rp r.rt
 kk : kd (rlD r) = true
 ok : ruleB (rlD r) = true
theorem g1e {r : Rl} (gl : Good r.lp r.lt) (gr : Good r.rp r.rt) (s1 : r.lp.length ≤ 5 ∧ r.lt.length ≤ 5) (s2 : r.rp.length ≤ 5 ∧ r.rt.length ≤ 5) (h0 : 0 < r.lp.length)
  (k1 : (∀ x ∈ r.kp, nmB x = true) ∧ risI r.kp = true) (k2 : (∀ x ∈ r.kt, nmB x = true) ∧ risI r.kt = true) (kl : r.kp.length ≤ 1000 ∧ r.kt.length ≤ 1000) (p1 : ptStand r.lp r.rp r.kp = true) (p2 : tiStand r.lt r.rt r.kp r.kt = true)
  (lo : looseB r.lp r.kp (.tup (r.qs.map prD)) = true) (ql : r.qs.length ≤ 3) (fl : r.fs.length ≤ 2) (ff : ∀ f ∈ r.fs, forbB r.lp r.lt (ntD f) = true ∧ Good f.1 f.2) (fe : r.fs = [] ∨ r.qs = []) : RlOk r := by
 refine ⟨gl, gr, ?_, ?_⟩
 ·refine g9a (by simp) fun d hd => ?_
  simp only [k1e, j4e, or_false] at hd
  rcases hd with e | e | e | e | e <;> subst e
  ·exact k7c gl
  ·refine g9a (by simp) fun d hd => ?_
   simp only [k1e, j4e, or_false] at hd
   rcases hd with e | e <;> subst e
   ·exact f6d kl.1
   ·exact f6d kl.2
  ·exact k7c gr
  ·exact d5e (by omega)
  ·refine g9a (by rw [g8e]; omega) fun d hd => ?_
   obtain ⟨f, hf, e⟩ := List.mem_map.mp hd
   subst e
   exact k7c (ff f hf).2
 ·unfold rlD ruleB
  dsimp only
  rw [g3b gl, g3b gr]
  dsimp only
  unfold smallB keptB
  rw [decide_eq_true s1.1, decide_eq_true s1.2, decide_eq_true s2.1, decide_eq_true s2.2, o2d k1.1 k1.2 k2.1 k2.2]
  dsimp only
  rw [p1, p2, lo]
  have e1 : r.lp.isEmpty = false := by
   cases q : r.lp with
   | nil => rw [q] at h0; cases h0
   | cons a b => rfl
  rw [e1]
  show forbsB r.lp r.lt (.tup (r.qs.map prD)) (.tup (r.fs.map ntD)) = true
  show (decide ((r.fs.map ntD).length ≤ 2) && ((r.fs.map ntD).all (forbB r.lp r.lt) && ((r.fs.map ntD).isEmpty || nilT (.tup (r.qs.map prD))))) = true
  have e2 : (r.fs.map ntD).all (forbB r.lp r.lt) = true := by
   rw [k7e, i2e]
   exact fun f hf => (ff f hf).1
  rw [decide_eq_true (by rw [g8e]; exact fl), e2, k2e, k2e]
  rcases fe with h | h <;> rw [h]
  ·rfl
  ·simp [nilT]
theorem f7d {i j : Int} : opMin2 [.int i, .int j] = some (.int (if j < i then j else i)) := id rfl
theorem LN.nmP {ps : List P2} {ts : List T4} (m : LN ps ts) : (∀ x ∈ ps.map (·.1), nmB x = true) ∧ risI (ps.map (·.1)) = true := ⟨fun x hx => by
 obtain ⟨p, hp, e⟩ := List.mem_map.mp hx
 subst e
 have := (m.pk p hp).1
 exact p3a ⟨this.1, by omega⟩, r5a m.pr⟩
theorem LN.nmT {ps : List P2} {ts : List T4} (m : LN ps ts) : (∀ x ∈ ts.map (·.1), nmB x = true) ∧ risI (ts.map (·.1)) = true := ⟨fun x hx => by
 obtain ⟨p, hp, e⟩ := List.mem_map.mp hx
 subst e
 have := (m.tk p hp).1
 exact p3a ⟨this.1, by omega⟩, r5a m.tr⟩
theorem k8c {fs : List Nt} (h : ∀ f ∈ fs, LN f.1 f.2) : opEq (.tup (fs.map ntD)) (.tup []) = some (.bl fs.isEmpty) := by
  have hf : fits 59 (fs.map ntD) = true := by
    have key : ∀ {gs : List Nt}, (∀ f ∈ gs, LN f.1 f.2) → fits 59 (gs.map ntD) = true := fun {gs} => by
      induction gs with
      | nil => intro _; simp [fits]
      | cons g gs ih =>
        intro h
        rw [h3e]
        unfold fits
        have m := h g h1e
        rw [ih fun f hf => h f (h2e _ hf), show fit 59 (ntD g) = true from k6c (n := 56) m.sp m.st]
        rfl
    exact key h
  show (if fit 60 (.tup (fs.map ntD)) && fit 60 (.tup []) then some (D.bl (eqD (.tup (fs.map ntD)) (.tup []))) else none) = _
  rw [show fit 60 (.tup (fs.map ntD)) = true from hf, show fit 60 (.tup []) = true from rfl]
  cases fs <;> rfl
structure RlH (r : Rl) : Prop where
 gl : Good r.lp r.lt
 gr : Good r.rp r.rt
 s1 : r.lp.length ≤ 5 ∧ r.lt.length ≤ 5
 s2 : r.rp.length ≤ 5 ∧ r.rt.length ≤ 5
 h0 : 0 < r.lp.length
 k1 : (∀ x ∈ r.kp, nmB x = true) ∧ risI r.kp = true
 k2 : (∀ x ∈ r.kt, nmB x = true) ∧ risI r.kt = true
 kl : r.kp.length ≤ 1000 ∧ r.kt.length ≤ 1000
 p1 : ptStand r.lp r.rp r.kp = true
 p2 : tiStand r.lt r.rt r.kp r.kt = true
 qr : risPr r.qs = true
 qq : ∀ q ∈ r.qs, (nmB q.1 = true ∧ nmB q.2 = true) ∧ q.1 < q.2 ∧ q.1 ∈ r.kp ∧ q.2 ∈ r.kp ∧ lookP r.lp q.1 = lookP r.lp q.2
 ql : r.qs.length ≤ 3
 fl : r.fs.length ≤ 2
 ff : ∀ f ∈ r.fs, forbB r.lp r.lt (ntD f) = true ∧ Good f.1 f.2
 fe : r.fs = [] ∨ r.qs = []
theorem RlH.ok {r : Rl} (h : RlH r) : RlOk r := g1e h.gl h.gr h.s1 h.s2 h.h0 h.k1 h.k2 h.kl h.p1 h.p2 (f5d h.ql h.qr h.qq) h.ql h.fl h.ff h.fe
structure RlL (r : Rl) : Prop where
 nl : LN r.lp r.lt
 nr : LN r.rp r.rt
 nf : ∀ f ∈ r.fs, LN f.1 f.2
 bp : ∀ x ∈ r.kp, 0 ≤ x ∧ x < 40
 bt : ∀ x ∈ r.kt, 0 ≤ x ∧ x < 40
theorem d6e {cs : List Int} {lp : List P2} {lt : List T4} {gd : Bool} (hd : Dk cs) (m : LN lp lt) (l0 : 0 < lp.length) (l1 : lp.length ≤ 5) (l2 : lt.length ≤ 5) :
    ∃ (r : Rl) (cs' : List Int) (ρ' : List Sl), (RlH r ∧ RlL r) ∧ (r.lp = lp ∧ r.lt = lt) ∧ (gd = false → r.fs = []) ∧ Dk cs' ∧ d_law_rule [.bor (deckD cs), .val (netD lp lt), .val (.bl gd), .no, .no, .no, .no, .no, .no, .no] = .rt (rlD r) (.bor (deckD cs') :: ρ') := by
  have nx := @g8a cs
  have b1 : 0 ≤ cs.headD 0 % ((lp.length : Int) + 1) := k0e _ (by omega)
  have b2 : cs.headD 0 % ((lp.length : Int) + 1) < lp.length + 1 := j5e _ (by omega)
  have b3 : 0 < (lp.length : Int) + 1 := by omega
  obtain ⟨sp, st, cs1, ρ1, sub1, sub2, _, _, ls, d1, e1⟩ := d0e (many := cs.headD 0 % ((lp.length : Int) + 1)) hd.tl m b1 (by omega) (by omega)
  have k1 := sub1.length_le
  have k2 := sub2.length_le
  obtain ⟨mp, hmp⟩ : ∃ mp, mp = (if (5 : Int) - sp.length < 2 then 5 - (sp.length : Int) else 2) := ⟨_, rfl⟩
  obtain ⟨mt, hmt⟩ : ∃ mt, mt = (if (5 : Int) - st.length < 2 then 5 - (st.length : Int) else 2) := ⟨_, rfl⟩
  have q1 : 0 ≤ mp ∧ mp ≤ 2 ∧ sp.length + mp ≤ 5 := by rw [hmp]; split <;> omega
  have q2 : 0 ≤ mt ∧ mt ≤ 2 ∧ st.length + mt ≤ 5 := by rw [hmt]; split <;> omega
  obtain ⟨rp, rt, cs2, ρ2, ad, d2, e2⟩ := f3d (qs := lp) (us := lt) (mp := mp) (mt := mt) d1 ls (by omega) (by omega) (by omega) (by omega) (by omega) (by omega)
  have w1 : opMin2 [.int 2, .int (5 - (sp.length : Int))] = some (.int mp) := by rw [f7d, hmp]
  have w2 : opMin2 [.int 2, .int (5 - (st.length : Int))] = some (.int mt) := by rw [f7d, hmt]
  have c1 := fun ρ (h : isFree ρ[8]? = true) => k5a (i := 8) (ρ := ρ) (xs := sp) (f := ptD) (g := (·.1)) (fun x => ⟨_, rfl⟩) h (by omega)
  have c2 := fun ρ (h : isFree ρ[9]? = true) => k5a (i := 9) (ρ := ρ) (xs := st) (f := tieD) (g := (·.1)) (fun x => ⟨_, rfl⟩) h (by omega)
  have a1 := ad.pl
  have a2 := ad.tl
  have gl := m.good (by omega) (by omega)
  have gr := ad.ln.good (by omega) (by omega)
  have p1 : ptStand lp rp (sp.map (·.1)) = true := x7c m.pr ad.ln.pr (fun p hp => sub1.subset hp) ad.pin fun p hp => (ad.pnew p hp).imp id fun h => h.2
  have p2 : tiStand lt rt (sp.map (·.1)) (st.map (·.1)) = true := x8c m.tr ad.ln.tr (fun p hp => sub2.subset hp) ad.tin (fun p hp => (ad.tnew p hp).imp id fun h => h.2) fun t ht => by
    obtain ⟨_, _, ⟨x, hx, ex⟩, ⟨y, hy, ey⟩⟩ := ls.tk t ht
    exact ⟨List.mem_map.mpr ⟨x, hx, ex⟩, List.mem_map.mpr ⟨y, hy, ey⟩⟩
  have fin : ∀ (qs : List (Int × Int)) (fs : List Nt), qs.length ≤ 3 → risPr qs = true → (∀ q ∈ qs, PrOk sp q) → fs.length ≤ 2 → (∀ f ∈ fs, forbB lp lt (ntD f) = true ∧ LN f.1 f.2) → fs = [] ∨ qs = [] → (fun r : Rl => RlH r ∧ RlL r) ⟨lp, lt, sp.map (·.1), st.map (·.1), rp, rt, qs, fs⟩ := fun qs fs h1 h2 h3 h4 h5 h6 => by
    refine ⟨⟨gl, gr, ⟨l1, l2⟩, ⟨by dsimp only; omega, by dsimp only; omega⟩, l0, ls.nmP, ls.nmT, ⟨by dsimp only; rw [g8e]; omega, by dsimp only; rw [g8e]; omega⟩, p1, p2, h2, fun q hq => ?_, h1, h4, fun f hf => ?_, h6⟩, ⟨m, ad.ln, fun f hf => (h5 f hf).2, fun x hx => ?_, fun x hx => ?_⟩⟩
    · obtain ⟨z1, x, z2, z3⟩ := h3 q hq
      have n1 := ls.nmP.1 q.1 (List.mem_map.mpr ⟨_, z2, rfl⟩)
      have n2 := ls.nmP.1 q.2 (List.mem_map.mpr ⟨_, z3, rfl⟩)
      refine ⟨⟨n1, n2⟩, z1, List.mem_map.mpr ⟨_, z2, rfl⟩, List.mem_map.mpr ⟨_, z3, rfl⟩, ?_⟩
      have y1 : lookP lp q.1 = some x := g6b m.pr (p := (q.1, x)) (sub1.subset z2)
      have y2 : lookP lp q.2 = some x := g6b m.pr (p := (q.2, x)) (sub1.subset z3)
      rw [y1, y2]
    · refine ⟨(h5 f hf).1, (h5 f hf).2.good ?_ ?_⟩
      · have := (h5 f hf).1
        unfold forbB at this
        split at this
        · rename_i fp ft q
          obtain ⟨e, g⟩ := j2a q
          have e : f.1.map ptD = fp.map ptD := by
            have : ntD f = netD fp ft := e
            unfold ntD netD at this
            injection this with this
            injection this with t1 t2
            injection t1
          have := congrArg List.length e
          rw [g8e, g8e] at this
          rw [this]
          exact g.np
        · cases this
      · have := (h5 f hf).1
        unfold forbB at this
        split at this
        · rename_i fp ft q
          obtain ⟨e, g⟩ := j2a q
          have e : f.2.map tieD = ft.map tieD := by
            have : ntD f = netD fp ft := e
            unfold ntD netD at this
            injection this with this
            injection this with t1 t2
            injection t2 with t2 t3
            injection t2
          have := congrArg List.length e
          rw [g8e, g8e] at this
          rw [this]
          exact g.nt
        · cases this
    · obtain ⟨p, hp, e⟩ := List.mem_map.mp hx
      rw [← e]
      exact (ls.pk p hp).1
    · obtain ⟨p, hp, e⟩ := List.mem_map.mp hx
      rw [← e]
      exact (ls.tk p hp).1
  have i1 : opIx (netD lp lt) (.int 0) = some (.tup (lp.map ptD)) := id rfl
  have i2 : opLen [.tup (lp.map ptD)] = some (.int lp.length) := by rw [g1a, g8e]
  have i3 : opIx (netD sp st) (.int 0) = some (.tup (sp.map ptD)) := id rfl
  have i4 : opLen [.tup (sp.map ptD)] = some (.int sp.length) := by rw [g1a, g8e]
  have i5 : opIx (netD sp st) (.int 1) = some (.tup (st.map tieD)) := id rfl
  have i6 : opLen [.tup (st.map tieD)] = some (.int st.length) := by rw [g1a, g8e]
  have et : opEq (.tup []) (.tup []) = some (.bl true) := rfl
  have hn : ∀ (r : Rl) (o : O) (P : Rl → Prop), o = .rt (rlD r) [] → True := fun _ _ _ _ => trivial
  clear hn
  have ll := fun (cs : List Int) (h : Dk cs) => x3d (sp := sp) (st := st) h ls (by omega)
  cases gd with
  | false =>
    obtain ⟨qs, cs3, ρ3, y1, y2, y3, d3, e3⟩ := ll cs2 d2
    have f := fin qs [] y1 y2 y3 (by simp) (fun f h => by cases h) (.inl rfl)
    have h : ∃ ρ', d_law_rule [.bor (deckD cs), .val (netD lp lt), .val (.bl false), .no, .no, .no, .no, .no, .no, .no] = .rt (rlD ⟨lp, lt, sp.map (·.1), st.map (·.1), rp, rt, qs, []⟩) (.bor (deckD cs3) :: ρ') := b1d <| by
      have c1' := c1 [.bor (deckD cs2), .val (netD lp lt), .val (.bl false), .val (netD sp st), .val (netD rp rt), .no, .no, .no, .no, .no] rfl
      have c2' := c2 [.bor (deckD cs2), .val (netD lp lt), .val (.bl false), .val (netD sp st), .val (netD rp rt), .no, .no, .no, .no, .no] rfl
      unfold rlD
      dsimp only
      rw [j6e]
      clear c1 c2 fin f ll p1 p2 gl gr a1 a2 y1 y2 y3 d3 d2 d1 hd ad ls hmp hmt q1 q2 m sub1 sub2 k1 k2 l0 l1 l2 b1 b2
      unfold d_law_rule
      exists netD lp lt, n1
      exists netD sp st, n2
      exists netD rp rt, n3
      exists lp.map ptD, z1
      exists sp.map ptD, z2
      exists st.map tieD, z3
      exists (sp.map (·.1)).map D.int, z4
      exists (st.map (·.1)).map D.int, z5
      exists qs.map prD, z6
      walk_at "ev"
    obtain ⟨ρ', e⟩ := h
    exact ⟨_, cs3, ρ', f, ⟨rfl, rfl⟩, fun _ => rfl, d3, e⟩
  | true =>
    obtain ⟨fs, cs3, ρ3, y1, y2, d3, e3⟩ := f4d d2 m (by omega) (by omega)
    have en := k8c (fun f hf => (y2 f hf).2)
    have c1' := c1 [.bor (deckD cs2), .val (netD lp lt), .val (.bl true), .val (netD sp st), .val (netD rp rt), .no, .no, .no, .no, .no] rfl
    have c2' := c2 [.bor (deckD cs2), .val (netD lp lt), .val (.bl true), .val (netD sp st), .val (netD rp rt), .no, .no, .no, .no, .no] rfl
    cases hE : fs.isEmpty with
    | true =>
      have hfs : fs = [] := List.isEmpty_iff.mp hE
      obtain ⟨qs, cs4, ρ4, z1, z2, z3, d4, e4⟩ := ll cs3 d3
      have f := fin qs fs z1 z2 z3 y1 y2 (.inl hfs)
      rw [hE] at en
      have h : ∃ ρ', d_law_rule [.bor (deckD cs), .val (netD lp lt), .val (.bl true), .no, .no, .no, .no, .no, .no, .no] = .rt (rlD ⟨lp, lt, sp.map (·.1), st.map (·.1), rp, rt, qs, fs⟩) (.bor (deckD cs4) :: ρ') := b1d <| by
        unfold rlD
        dsimp only
        clear c1 c2 fin f ll p1 p2 gl gr a1 a2 y1 y2 z1 z2 z3 d4 d3 d2 d1 hd ad ls hmp hmt q1 q2 m sub1 sub2 k1 k2 l0 l1 l2 b1 b2 hE hfs
        unfold d_law_rule
        exists netD lp lt, n1
        exists netD sp st, n2
        exists netD rp rt, n3
        exists lp.map ptD, z1
        exists sp.map ptD, z2
        exists st.map tieD, z3
        exists (sp.map (·.1)).map D.int, z4
        exists (st.map (·.1)).map D.int, z5
        exists qs.map prD, z6
        exists fs.map ntD, z7
        walk_at "ev"
      obtain ⟨ρ', e⟩ := h
      exact ⟨_, cs4, ρ', f, ⟨rfl, rfl⟩, fun h => (by cases h), d4, e⟩
    | false =>
      have f := fin [] fs (by simp) rfl (fun q h => by cases h) y1 y2 (.inr rfl)
      rw [hE] at en
      have h : ∃ ρ', d_law_rule [.bor (deckD cs), .val (netD lp lt), .val (.bl true), .no, .no, .no, .no, .no, .no, .no] = .rt (rlD ⟨lp, lt, sp.map (·.1), st.map (·.1), rp, rt, [], fs⟩) (.bor (deckD cs3) :: ρ') := b1d <| by
        unfold rlD
        dsimp only
        rw [j6e]
        clear c1 c2 fin f ll p1 p2 gl gr a1 a2 y1 y2 d3 d2 d1 hd ad ls hmp hmt q1 q2 m sub1 sub2 k1 k2 l0 l1 l2 b1 b2 hE
        unfold d_law_rule
        exists netD lp lt, n1
        exists netD sp st, n2
        exists netD rp rt, n3
        exists lp.map ptD, z1
        exists sp.map ptD, z2
        exists st.map tieD, z3
        exists (sp.map (·.1)).map D.int, z4
        exists (st.map (·.1)).map D.int, z5
        exists fs.map ntD, z7
        walk_at "ev"
      obtain ⟨ρ', e⟩ := h
      exact ⟨_, cs3, ρ', f, ⟨rfl, rfl⟩, fun h => (by cases h), d3, e⟩
def oct (i : Int) : Str := ⟨#[97 + (i % 8).toNat]⟩
theorem d7e {i : Int} : opIx (.str "abcdefgh") (.int (i % 8)) = some (.str (oct i)) := by
 unfold oct
 have h1 : i % 8 = 0 ∨ i % 8 = 1 ∨ i % 8 = 2 ∨ i % 8 = 3 ∨ i % 8 = 4 ∨ i % 8 = 5 ∨ i % 8 = 6 ∨ i % 8 = 7 := by omega
 rcases h1 with h | h | h | h | h | h | h | h <;> rw [h] <;> rfl
theorem o3d {i : Int} : isKindS (oct i) = true := by
 unfold oct
 have h1 : i % 8 = 0 ∨ i % 8 = 1 ∨ i % 8 = 2 ∨ i % 8 = 3 ∨ i % 8 = 4 ∨ i % 8 = 5 ∨ i % 8 = 6 ∨ i % 8 = 7 := by omega
 rcases h1 with h | h | h | h | h | h | h | h <;> rw [h] <;> decide +kernel
def gpt (first i : Int) : P2 := (first + i, oct i)
def gtie (first np i : Int) : T4 := (first + 3 * i, "e", first + i * 7 % np, first + i * 11 % np)
def gps (first : Int) (n : Nat) : List P2 := (List.range n).map fun k => gpt first (k : Nat)
def gts (first : Int) (np n : Nat) : List T4 := (List.range n).map fun k => gtie first np (k : Nat)
theorem z7a {n : Nat} {f : Int → Int} (hf : ∀ i j, i < j → f i < f j) : ((List.range n).map fun k => f (k : Nat)).Pairwise (· < ·) := by
 rw [List.pairwise_map]
 exact List.pairwise_lt_range.imp fun h => hf _ _ (by omega)
theorem x9c {first : Int} {np nt : Nat} (h0 : 0 ≤ first) (h1 : first ≤ 998000) (h2 : 1 ≤ np ∧ np ≤ 400) (h3 : nt ≤ 600) : Good (gps first np) (gts first np nt) where
 np := by unfold gps; rw [g8e, j3e]; omega
 nt := by unfold gts; rw [g8e, j3e]; omega
 pk := fun p hp => by
  obtain ⟨k, hk, e⟩ := List.mem_map.mp hp
  rw [o0e] at hk
  subst e
  refine ⟨⟨?_, ?_⟩, o3d⟩ <;> show _ ≤ _ <;> unfold gpt <;> dsimp only <;> omega
 tk := fun t ht => by
  obtain ⟨k, hk, e⟩ := List.mem_map.mp ht
  rw [o0e] at hk
  subst e
  have hm : ∀ x : Int, ∃ p ∈ gps first np, p.1 = first + x % (np : Nat) := fun x => by
   have a1 := k0e x (b := (np : Nat)) (by omega)
   have a2 := j5e x (b := (np : Nat)) (by omega)
   refine ⟨gpt first ((x % (np : Nat)).toNat : Nat), List.mem_map.mpr ⟨(x % (np : Nat)).toNat, List.mem_range.mpr (by omega), rfl⟩, ?_⟩
   unfold gpt
   dsimp only
   omega
  refine ⟨⟨?_, ?_⟩, ?_, hm _, hm _⟩
  ·unfold gtie; dsimp only; omega
  ·unfold gtie; dsimp only; omega
  ·show isKindS "e" = true
   decide +kernel
 pr := by
  unfold gps
  rw [i6e]
  exact z7a (f := fun i => first + i) fun i j h => by omega
 tr := by
  unfold gts
  rw [i6e]
  exact z7a (f := fun i => first + 3 * i) fun i j h => by omega
theorem x8d {first np nt : Int} (h2 : 1 ≤ np ∧ np ≤ 400) (h3 : 0 ≤ nt ∧ nt ≤ 600) : ∃ ρ', d_law_great [.val (.int np), .val (.int nt), .val (.int first), .no, .no, .no] = .rt (netD (gps first np.toNat) (gts first np.toNat nt.toNat)) ρ' := by
 have r1 := k3a (j := np) (by omega)
 have r2 := k3a (j := nt) (by omega)
 have e1 : compL (gN 5) (mpure true) (eTup (aCons (eBin opAdd (eVar 2) (eVar 5)) (aCons (eBin opIx (eC (.str "abcdefgh")) (eBin opMod (eVar 5) (eC (.int 8)))) aNil))) [5] ((List.range np.toNat).map fun k => D.int (k : Nat)) [] [.val (.int np), .val (.int nt), .val (.int first), .no, .no, .no] = .ok ((gps first np.toNat).map ptD) [.val (.int np), .val (.int nt), .val (.int first), .no, .no, .no] := by
  rw [o1a (f := fun d => match d with | .int n => ptD (gpt first n) | d => d) rfl (by simp; omega) fun d hd => ?_]
  ·unfold gps
   rw [i0e, i6e, i6e]
   rfl
  ·obtain ⟨n, _, e⟩ := List.mem_map.mp hd
   subst e
   have o1 := fun i => @d7e i
   show _ = R.ok (D.tup [.int (first + (n : Nat)), .str (oct (n : Nat))]) _
   clear hd r1 r2
   walk_at "ev"
 have e2 : compL (gN 5) (mpure true) (eTup (aCons (eBin opAdd (eVar 2) (eBin opMul (eC (.int 3)) (eVar 5))) (aCons (eC (.str "e")) (aCons (eBin opAdd (eVar 2) (eBin opMod (eBin opMul (eVar 5) (eC (.int 7))) (eVar 0))) (aCons (eBin opAdd (eVar 2) (eBin opMod (eBin opMul (eVar 5) (eC (.int 11))) (eVar 0))) aNil))))) [5] ((List.range nt.toNat).map fun k => D.int (k : Nat)) [] [.val (.int np), .val (.int nt), .val (.int first), .val (.lst ((gps first np.toNat).map ptD)), .no, .no] = .ok ((gts first np.toNat nt.toNat).map tieD) [.val (.int np), .val (.int nt), .val (.int first), .val (.lst ((gps first np.toNat).map ptD)), .no, .no] := by
  rw [o1a (f := fun d => match d with | .int n => tieD (gtie first np n) | d => d) rfl (by simp; omega) fun d hd => ?_]
  ·unfold gts
   rw [i0e, i6e, i6e, show ((np.toNat : Nat) : Int) = np by omega]
   rfl
  ·obtain ⟨n, _, e⟩ := List.mem_map.mp hd
   subst e
   show _ = R.ok (D.tup [.int (first + 3 * (n : Nat)), .str "e", .int (first + (n : Nat) * 7 % np), .int (first + (n : Nat) * 11 % np)]) _
   have m1 : ∀ i, mulOk i 7 = true := fun i => i7a (by omega)
   have m2 : ∀ i, mulOk i 11 = true := fun i => i7a (by omega)
   have m3 : ∀ i, mulOk 3 i = true := fun i => w7d (by omega)
   have c1 : 0 < np := by omega
   clear hd r1 r2 h2 h3 e1
   walk_at "ev"
 refine z2a ?_
 clear h2 h3
 unfold d_law_great netD
 walk_at "ev"
end NT.Pure
set_option Elab.async false
set_option linter.all false
set_option maxRecDepth 100000
set_option maxHeartbeats 4000000
namespace NT.Pure
open PySem L2 NT NT.Den
local macro_rules | `(tactic| walk_at "ev") => `(tactic| simp (maxSteps := 100000000) only [f8b, f9b, v4a, g0b, q9c, r0c, v3b, g1b, v4b, o2a, v5a, o3a, v6a, v2b, f6b, f7b, f0b, l7d, f1b, f2b, u4b, u5b, u6b, u7b, u8b, f3b, u9b, f4b, v0b, f5b, v1b, u2b, e9b, u3b, q7c, p3c, l1d, l2d, p1c, l3d, k4a, j7a, l4d, e7b, u1b, e8b, o8c, e6b, z5b, n0c, q6b, i5b, q7b, a6b, i3a, n1c, q8b, n2c, q9b, s4a, b2a, a7b, i6b, k1d, r0b, r1b, r2b, n3c, r3b, a8b, n4c, r4b, r5b, tupO, lstO, r6b, n5c, n4b, n5b, n6c, n7c, r7b, n8c, r8b, r9b, n9c, s0b, s5a, k2d, o0c, o1c, a9b, s6a, b0b, k2a, i7b, b1b, o2c, i8b, b2b, s1b, b3b, b4b, o3c, b5b, b6b, s7a, s2b, s8a, m1a, s3b, z6b, a3d, k3d, b7b, s4b, s9a, n6a, n7a, t0a, t1a, t2a, b8b, b9b, t3a, c0b, s5b, t4a, s6b, c1b, s7b, s8b, c2b, s9b, c3b, t5a, c4b, t0b, c5b, t1b, t2b, t6a, c6b, c7b, t7a, t8a, n8a, c8b, t9a, c9b, d0b, d1b, t3b, d2b, d3b, n9a, o0a, d4b, o5c, d5b, d6b, d7b, d8b, t4b, t5b, i9b, t6b, n6b, o6c, u0a, z8b, x6a, d9b, q1a, g1a, t7b, j0b, t8b, t9b, u1a, u2a, u3a, e0b, l1a, m2a, e1b, e2b, k4d, e3b, u4a, u5a, e4b, u6a, f7a, e0a, c6a, o7c, u0b, u7a, u8a, u9a, e5b, k5d, k6d, k7d, k8d, z3a, z9b, u5c, k9d, o9c,
 h3e, j6e, l8e, n3e, h5e, i0e, k4e, h0e, i5e, l5e, j9e, n5e, n6e, Nat.reduceAdd, Nat.reduceLeDiff, Nat.reduceEqDiff, Int.reduceLT, Int.reduceLE, Int.reduceAdd, Int.reduceSub, Int.reduceNeg, Int.reduceBEq, p6c, p7c, p8c, p9c, q0c, q1c, q2c, q3c, q4c, Int.reduceToNat, decide_true, decide_false, decide_eq_true_eq, if_true, if_false, ite_true, ite_false, reduceIte, n4e, k2e, m2e, l6e, m6e, m7e, Bool.or_true, Bool.true_or, Bool.not_true, Bool.not_false, eq_self, n7e, and_true, true_and, beq_self_eq_true, Option.map_some, Option.bind_some, *])
local macro_rules | `(tactic| simp! [$xs,*]) => `(tactic| simp (maxSteps := 100000000) only [c2d, m3d, c3d, m4d, m5d, l9d, b9d, m0d, v4d, v5d, m1d, v6d, c0d, v3c, m2d, v7d, f8b, f9b, v4a, g0b, q9c, r0c, v3b, g1b, v4b, o2a, v5a, o3a, v6a, v2b, f6b, f7b, f0b, l7d, f1b, f2b, u4b, u5b, u6b, u7b, u8b, f3b, u9b, f4b, v0b, f5b, v1b, u2b, e9b, u3b, q7c, p3c, l1d, l2d, p1c, l3d, k4a, j7a, l4d, e7b, u1b, e8b, o8c, e6b, z5b, n0c, q6b, i5b, q7b, a6b, i3a, n1c, q8b, n2c, q9b, s4a, b2a, a7b, i6b, k1d, r0b, r1b, r2b, n3c, r3b, a8b, n4c, r4b, r5b, tupO, lstO, r6b, n5c, n4b, n5b, n6c, n7c, r7b, n8c, r8b, r9b, n9c, s0b, s5a, k2d, o0c, o1c, a9b, s6a, b0b, k2a, i7b, b1b, o2c, i8b, b2b, s1b, b3b, b4b, o3c, b5b, b6b, s7a, s2b, s8a, m1a, s3b, z6b, a3d, k3d, b7b, s4b, s9a, n6a, n7a, t0a, t1a, t2a, b8b, b9b, t3a, c0b, s5b, t4a, s6b, c1b, s7b, s8b, c2b, s9b, c3b, t5a, c4b, t0b, c5b, t1b, t2b, t6a, c6b, c7b, t7a, t8a, n8a, c8b, t9a, c9b, d0b, d1b, t3b, d2b, d3b, n9a, o0a, d4b, o5c, d5b, d6b, d7b, d8b, t4b, t5b, i9b, t6b, n6b, o6c, u0a, z8b, x6a, d9b, q1a, g1a, t7b, j0b, t8b, t9b, u1a, u2a, u3a, e0b, l1a, m2a, e1b, e2b, k4d, e3b, u4a, u5a, e4b, u6a, f7a, e0a, c6a, o7c, u0b, u7a, u8a, u9a, e5b, k5d, k6d, k7d, k8d, z3a, z9b, u5c, k9d, o9c,
 h3e, j6e, l8e, n3e, h5e, i0e, k4e, h0e, i5e, l5e, j9e, n5e, n6e, Nat.reduceAdd, Nat.reduceLeDiff, Nat.reduceEqDiff, Int.reduceLT, Int.reduceLE, Int.reduceAdd, Int.reduceSub, Int.reduceNeg, Int.reduceBEq, p6c, p7c, p8c, p9c, q0c, q1c, q2c, q3c, q4c, Int.reduceToNat, decide_true, decide_false, decide_eq_true_eq, if_true, if_false, ite_true, ite_false, reduceIte, n4e, k2e, m2e, l6e, m6e, m7e, Bool.or_true, Bool.true_or, Bool.not_true, Bool.not_false, eq_self, n7e, and_true, true_and, beq_self_eq_true, Option.map_some, Option.bind_some, $xs,*])
def nS (i : Int) : Str := (toString i : String)
def nmOk (i : Int) : Prop := 0 ≤ i ∧ i ≤ 2000000
theorem x1b {i : Int} (h : nmOk i) : opStr [.int i] = some (.str (nS i)) := by
 show (if i.natAbs.log2 < 1920 then _ else _) = _
 rw [if_pos]
 ·rfl
 ·have h1 : i.natAbs < 2 ^ 21 := by unfold nmOk at h; omega
  by_cases h0 : i.natAbs = 0
  ·rw [h0]; decide
  ·have := (Nat.log2_lt h0 (k := 21)).mpr h1
   omega
def sL (ws : List Str) : D := .lst (ws.map .str)
def wP (p : P2) : List Str := ["point", nS p.1, p.2]
def wT (t : T4) : List Str := ["tie", nS t.1, t.2.1, nS t.2.2.1, nS t.2.2.2]
def wN (ps : List P2) (ts : List T4) : List Str := ps.flatMap wP ++ ts.flatMap wT
theorem i6a {a b : List Str} (h : a.length + b.length ≤ 100000) : opCat (sL a) (sL b) = some (sL (a ++ b)) := by
 show (if (a.map D.str).length + (b.map D.str).length ≤ 100000 then _ else _) = _
 rw [if_pos (by rw [g8e, g8e]; exact h), ← i4e]
 rfl
theorem s9c {ps : List P2} : (ps.flatMap wP).length = 3 * ps.length := by
 induction ps with
 | nil => rfl
 | cons p ps ih => rw [i8e, g9e, ih, h0e]; show 3 + _ = _; omega
theorem d8e {ts : List T4} : (ts.flatMap wT).length = 5 * ts.length := by
 induction ts with
 | nil => rfl
 | cons p ps ih => rw [i8e, g9e, ih, h0e]; show 5 + _ = _; omega
structure NmN (ps : List P2) (ts : List T4) : Prop where
 p : ∀ p ∈ ps, nmOk p.1
 t : ∀ t ∈ ts, nmOk t.1 ∧ nmOk t.2.2.1 ∧ nmOk t.2.2.2
 lp : ps.length ≤ 400
 lt : ts.length ≤ 600
def wpB : MS := (sDrop [2, 3] (sSet 1 (eBin opCat (eVar 1) (eLst (aCons (eC (.str "point")) (aCons (eFn opStr (aCons (eVar 2) aNil)) (aCons (eVar 3) aNil)))))))
def wtB : MS := (sDrop [2, 3, 4, 5] (sSet 1 (eBin opCat (eVar 1) (eLst (aCons (eC (.str "tie")) (aCons (eFn opStr (aCons (eVar 2) aNil)) (aCons (eVar 3) (aCons (eFn opStr (aCons (eVar 4) aNil)) (aCons (eFn opStr (aCons (eVar 5) aNil)) aNil)))))))))
section
variable {s0 : Sl}
theorem f8d : ∀ {ps : List P2} {acc : List Str}, (∀ p ∈ ps, nmOk p.1) → acc.length + 3 * ps.length ≤ 90000 →
    loop (gT (gsCons (gN 2) (gsCons (gN 3) gsNil))) wpB (ps.map ptD) [s0, .val (sL acc), .no, .no, .no, .no] = .nx [s0, .val (sL (acc ++ ps.flatMap wP)), .no, .no, .no, .no]
  | [], acc, _, _ => by rw [l3e, h5e]; rfl
  | p :: ps, acc, h, hl => by
    rw [h0e] at hl
    have ih := f8d (ps := ps) (acc := acc ++ wP p) (fun q hq => h q (h2e _ hq)) (by rw [g9e]; show acc.length + 3 + _ ≤ _; omega)
    have e1 := x1b (h p h1e)
    have c1 : opCat (sL acc) (.lst [.str "point", .str (nS p.1), .str p.2]) = some (sL (acc ++ wP p)) := i6a (b := wP p) (by show acc.length + 3 ≤ _; omega)
    have hp : ptD p = .tup [.int p.1, .str p.2] := rfl
    have st : stp (gT (gsCons (gN 2) (gsCons (gN 3) gsNil))) wpB (ptD p) [s0, .val (sL acc), .no, .no, .no, .no] = .nx [s0, .val (sL (acc ++ wP p)), .no, .no, .no, .no] := by
      rw [hp]
      clear ih h hp
      exists sL (acc ++ wP p), A2
      exists sL acc, A1
      unfold wpB
      simp! [k4a, e1, c1]
    rw [h3e, h7a, st, i3a]
    refine Eq.trans ih ?_
    rw [h4e, i8e]
theorem f9d : ∀ {ts : List T4} {acc : List Str}, (∀ t ∈ ts, nmOk t.1 ∧ nmOk t.2.2.1 ∧ nmOk t.2.2.2) → acc.length + 5 * ts.length ≤ 90000 →
    loop (gT (gsCons (gN 2) (gsCons (gN 3) (gsCons (gN 4) (gsCons (gN 5) gsNil))))) wtB (ts.map tieD) [s0, .val (sL acc), .no, .no, .no, .no] = .nx [s0, .val (sL (acc ++ ts.flatMap wT)), .no, .no, .no, .no]
  | [], acc, _, _ => by rw [l3e, h5e]; rfl
  | t :: ts, acc, h, hl => by
    rw [h0e] at hl
    have ih := f9d (ts := ts) (acc := acc ++ wT t) (fun q hq => h q (h2e _ hq)) (by rw [g9e]; show acc.length + 5 + _ ≤ _; omega)
    obtain ⟨h1, h2, h3⟩ := h t h1e
    have e1 := x1b h1
    have e2 := x1b h2
    have e3 := x1b h3
    have c1 : opCat (sL acc) (.lst [.str "tie", .str (nS t.1), .str t.2.1, .str (nS t.2.2.1), .str (nS t.2.2.2)]) = some (sL (acc ++ wT t)) := i6a (b := wT t) (by show acc.length + 5 ≤ _; omega)
    have hp : tieD t = .tup [.int t.1, .str t.2.1, .int t.2.2.1, .int t.2.2.2] := rfl
    have st : stp (gT (gsCons (gN 2) (gsCons (gN 3) (gsCons (gN 4) (gsCons (gN 5) gsNil))))) wtB (tieD t) [s0, .val (sL acc), .no, .no, .no, .no] = .nx [s0, .val (sL (acc ++ wT t)), .no, .no, .no, .no] := by
      rw [hp]
      clear ih h hp
      exists sL (acc ++ wT t), A2
      exists sL acc, A1
      unfold wtB
      simp! [k4a, e1, e2, e3, c1]
    rw [h3e, h7a, st, i3a]
    refine Eq.trans ih ?_
    rw [h4e, i8e]
end
section
variable {ps : List P2} {ts : List T4}
theorem h0a (h : NmN ps ts) : ∃ ρ', d_net_words [.val (netD ps ts), .no, .no, .no, .no, .no] = .rt (sL (wN ps ts)) ρ' := by
 have a := h.lp
 have b := h.lt
 have l1 := f8d (s0 := .val (netD ps ts)) (ps := ps) (acc := []) h.p (by rw [i5e]; omega)
 have l2 := f9d (s0 := .val (netD ps ts)) (ts := ts) (acc := ps.flatMap wP) h.t (by rw [s9c]; omega)
 rw [i0e] at l1
 have n0 : opIx (netD ps ts) (.int 0) = some (.tup (ps.map ptD)) := id rfl
 have n1 : opIx (netD ps ts) (.int 1) = some (.tup (ts.map tieD)) := id rfl
 have l1 : loop (gT (gsCons (gN 2) (gsCons (gN 3) gsNil))) wpB (ps.map ptD) [.val (netD ps ts), .val (.lst []), .no, .no, .no, .no] = .nx [.val (netD ps ts), .val (sL (ps.flatMap wP)), .no, .no, .no, .no] := l1
 have l2 : loop (gT (gsCons (gN 2) (gsCons (gN 3) (gsCons (gN 4) (gsCons (gN 5) gsNil))))) wtB (ts.map tieD) [.val (netD ps ts), .val (sL (ps.flatMap wP)), .no, .no, .no, .no] = .nx [.val (netD ps ts), .val (sL (wN ps ts)), .no, .no, .no, .no] := l2
 unfold wpB at l1
 unfold wtB at l2
 refine e8a ?_
 clear h
 exists sL (wN ps ts), W2
 exists sL (ps.flatMap wP), W1
 exists ps.map ptD, PD
 exists ts.map tieD, TD
 exists netD ps ts, ND
 unfold d_net_words
 simp! [n0, n1, l1, l2]
theorem g0d : d_law_net_words = d_net_words := rfl
end
open TL
theorem f3c (m : Nat) : tl (nS (m : Nat)) = numL m := tl_num m
theorem g1d (m : Nat) : (nS (m : Nat)).length = (numL m).length := by rw [len_tl, f3c]
theorem g2d : ∀ (n : Nat), 10 ≤ n → ∃ c r, numL n = c :: r ∧ c ≠ 48 := fun n => by
  induction n using Nat.strongRecOn with
  | _ n ih =>
    intro h
    rw [numL_step h]
    by_cases h2 : n / 10 < 10
    · rw [numL_lt h2]
      exact ⟨_, _, rfl, by omega⟩
    · obtain ⟨c, r, e, hc⟩ := ih (n / 10) (by omega) (by omega)
      rw [e]
      exact ⟨c, _, rfl, hc⟩
theorem t0c (n : Nat) : 1 ≤ (numL n).length := by
 have := numL_ne n
 cases h : numL n with
 | nil => exact (this h).elim
 | cons a b => rw [h0e]; omega
theorem d9e {m : Nat} (h : m ≤ 1000000) : opIntS [.str (nS (m : Nat))] = some (.int (m : Nat)) := by
 have hl := numL_len (n := m) (k := 7) (by decide) (by omega)
 show (if (nS (m : Nat)).length ≤ 640 then _ else _) = _
 rw [if_pos (by rw [g1d]; omega)]
 show (PySem.intText? (PySem.Str.ofString (toString ((m : Nat) : Int)))).map D.int = _
 rw [int_num (by omega)]
 rfl
theorem o4d {c : Nat} (h : 48 ≤ c ∧ c ≤ 57) : opIn true (.str ⟨#[c]⟩) (.str "0123456789") = some (.bl false) := by
 have : c = 48 ∨ c = 49 ∨ c = 50 ∨ c = 51 ∨ c = 52 ∨ c = 53 ∨ c = 54 ∨ c = 55 ∨ c = 56 ∨ c = 57 := by omega
 have hm : c ∈ ("0123456789" : Str).cps.toList := by
  rcases this with e | e | e | e | e | e | e | e | e | e <;> subst e <;> decide +kernel
 show some (D.bl (!decide (c ∈ ("0123456789" : Str).cps.toList))) = _
 rw [decide_eq_true hm]
 rfl
theorem o5d {m : Nat} : ∀ d ∈ signs (nS (m : Nat)), ∃ c : Nat, (48 ≤ c ∧ c ≤ 57) ∧ d = .str ⟨#[c]⟩ := fun d hd => by
 unfold signs at hd
 rw [show (nS (m : Nat)).cps.toList = numL m from f3c m] at hd
 obtain ⟨c, hc, e⟩ := List.mem_map.mp hd
 exact ⟨c, numL_digits m c hc, e.symm⟩
theorem y8a {x y : Str} (hx : PyData.strOk x = true) (hy : PyData.strOk y = true) : opEq (.str x) (.str y) = some (.bl (x == y)) := by
 show (if fit 60 (.str x) && fit 60 (.str y) then some (D.bl (eqD (.str x) (.str y))) else none) = _
 rw [show fit 60 (.str x) = true from hx, show fit 60 (.str y) = true from hy]
 rfl
theorem x2b {x : Str} (hx : PyData.strOk x = true) : opNe (.str x) (.str x) = some (.bl false) := by
 show (if fit 60 (.str x) && fit 60 (.str x) then some (D.bl (!eqD (.str x) (.str x))) else none) = _
 rw [show fit 60 (.str x) = true from hx]
 show some (D.bl (!(x == x))) = _
 rw [beq_self_eq_true]
 rfl
theorem f4c {α : Type} {m : MG} {b : MS} {f : α → D} {ρ : List Sl} : ∀ {xs : List α}, (∀ x ∈ xs, stp m b (f x) ρ = .nx ρ) → loop m b (xs.map f) ρ = .nx ρ
  | [], _ => by rw [j6e, s8a]
  | x :: xs, h => by
    rw [h3e, h7a, h x h1e, i3a]
    exact f4c fun y hy => h y (h2e _ hy)
open TL
def rdD (ws : List Str) (k : Nat) : D := .obj "Reader" [("words", sL ws), ("at", .int (k : Nat))]
theorem r6d {ws : List Str} : opLen [sL ws] = some (.int (ws.length : Nat)) := by
 unfold sL
 rw [q1a, g8e]
theorem e0e {ws : List Str} {k : Nat} {w : Str} (h : ws[k]? = some w) : opIx (sL ws) (.int (k : Nat)) = some (.str w) := by
 show atI (ws.map D.str) (k : Nat) = _
 exact atI_nat (by rw [i3e, h]; rfl)
section
variable {ws : List Str} {k : Nat} {w : Str}
theorem g3d : d_Reader_is_done [.val (rdD ws k)] = .rt (.bl (decide (ws.length ≤ k))) [.val (rdD ws k)] := by
 have f1 : opFld "Reader" "at" (rdD ws k) = some (.int (k : Nat)) := rfl
 have f2 : opFld "Reader" "words" (rdD ws k) = some (sL ws) := rfl
 have l := @r6d ws
 have g : opGe (.int (k : Nat)) (.int (ws.length : Nat)) = some (.bl (decide (ws.length ≤ k))) := by
  rw [z8b]
  congr 2
  exact decide_eq_decide.mpr (by omega)
 exists decide (ws.length ≤ k), b
 exists (D.int (k : Nat)), KD
 exists (D.int (ws.length : Nat)), LD
 exists rdD ws k, RD
 exists sL ws, SL
 unfold d_Reader_is_done
 simp! [f1, f2, l, g]
theorem x9d : ∃ ρ', d_Reader_next_word [.val (rdD ws k)] = .rt (.str ((ws[k]?).getD "")) ρ' := by
 have f1 : opFld "Reader" "at" (rdD ws k) = some (.int (k : Nat)) := rfl
 have f2 : opFld "Reader" "words" (rdD ws k) = some (sL ws) := rfl
 have l := @r6d ws
 have g : opLt (.int (k : Nat)) (.int (ws.length : Nat)) = some (.bl (decide (k < ws.length))) := by
  rw [n6b]
  congr 2
  exact decide_eq_decide.mpr (by omega)
 refine e8a ?_
 by_cases hk : k < ws.length
 ·obtain ⟨w, hw⟩ : ∃ w, ws[k]? = some w := ⟨_, h7e hk⟩
  have ix := e0e hw
  rw [decide_eq_true hk] at g
  rw [hw]
  clear hw hk
  exists (D.int (k : Nat)), KD
  exists (D.int (ws.length : Nat)), LD
  exists rdD ws k, RD
  exists sL ws, SL
  unfold d_Reader_next_word
  simp! [f1, f2, l, g, ix, l9e]
 ·have hn : ws[k]? = none := j7e (by omega)
  rw [decide_eq_false hk] at g
  rw [hn]
  clear hn hk
  exists (D.int (k : Nat)), KD
  exists (D.int (ws.length : Nat)), LD
  exists rdD ws k, RD
  exists sL ws, SL
  unfold d_Reader_next_word
  simp! [f1, f2, l, g, Option.getD_none]
theorem t1c (h : ws[k]? = some w) : d_Reader_take [.bor (rdD ws k)] = .rt (.str w) [.bor (rdD ws (k + 1))] := by
 have hk := (List.getElem?_eq_some_iff.mp h).1
 have dn := @g3d ws k
 rw [decide_eq_false (by omega)] at dn
 have ob : objNo "Reader" "is_done" (rdD ws k) = true := rfl
 have f1 : ∀ j, opFld "Reader" "at" (rdD ws j) = some (.int (j : Nat)) := fun _ => rfl
 have f2 : ∀ j, opFld "Reader" "words" (rdD ws j) = some (sL ws) := fun _ => rfl
 have st : setFld 0 "Reader" "at" (.int ((k : Nat) + 1)) [.bor (rdD ws k)] = some [.bor (rdD ws (k + 1))] := rfl
 have ix := e0e h
 have f1' := f1 (k + 1)
 rw [show (((k + 1 : Nat)) : Int) = (k : Nat) + 1 by omega] at f1'
 have f10 := f1 k
 have f20 := f2 (k + 1)
 have sb : ((k : Nat) : Int) + 1 - 1 = (k : Nat) := by omega
 clear f1 f2 h hk
 exists ((k : Nat) : Int), ki
 exists rdD ws (k + 1), RD2
 exists rdD ws k, RD
 exists sL ws, SL
 unfold d_Reader_take
 simp! [dn, ob, f1', f10, f20, st, ix, sb]
theorem x3b {r : List Sl} : oMeth "Reader" "take" 0 aNil (.bor (rdD ws k) :: r) = oHere aNil (.bor (rdD ws k) :: r) := rfl
theorem n1a (h : ws[k]? = some w) (hs : PyData.strOk w = true) : d_Reader_want [.bor (rdD ws k), .val (.str w)] = .nx [.bor (rdD ws (k + 1)), .val (.str w)] := by
 have e := t1c h
 have om := @x3b ws k
 have nn : opNe (.str w) (.str w) = some (.bl false) := x2b hs
 exists rdD ws (k + 1), RD2
 exists rdD ws k, RD
 unfold d_Reader_want
 simp! [e, om, nn]
theorem g4d {m : Nat} (h : ws[k]? = some (nS (m : Nat))) (hm : m ≤ 1000000) : ∃ r, d_Reader_read_int [.bor (rdD ws k), .no, .no] = .rt (.int (m : Nat)) (.bor (rdD ws (k + 1)) :: r) := by
 have e := t1c h
 have om := @x3b ws k
 have lm := numL_len (n := m) (k := 7) (by decide) (by omega)
 have lp := t0c m
 have ls := g1d m
 have l1 : opLen [.str (nS (m : Nat))] = some (.int ((nS (m : Nat)).length : Nat)) := by rw [j0b, if_pos (by omega)]
 have a1 : opLt (.int ((nS (m : Nat)).length : Nat)) (.int 1) = some (.bl false) := by
  rw [n6b, decide_eq_false (by omega)]
 have a2 : opGt (.int ((nS (m : Nat)).length : Nat)) (.int 7) = some (.bl false) := by
  rw [u0a, decide_eq_false (by omega)]
 have it := d9e hm
 have lo := f4c (f := fun d : D => d) (xs := signs (nS (m : Nat))) (m := gN 2) (b := (sDrop [2] (sIf (tVal (eBin (opIn true) (eVar 2) (eC (.str "0123456789")))) (sRaise 13) sSkip))) (ρ := [.bor (rdD ws (k + 1)), .val (.str (nS (m : Nat))), .no]) (fun d hd => by
  obtain ⟨c, hc, ec⟩ := o5d d hd
  have sd := o4d hc
  rw [ec]
  exists nS (m : Nat), NS
  exists rdD ws (k + 1), RD2
  simp! [k4a, sd])
 rw [List.map_id'] at lo
 by_cases h1 : 10 ≤ m
 ·obtain ⟨c, r, e1, hc⟩ := g2d m h1
  have i0 : opIx (.str (nS (m : Nat))) (.int 0) = some (.str ⟨#[c]⟩) := by
   show (if (nS (m : Nat)).length ≤ 100000 then (atI (nS (m : Nat)).cps.toList 0).map _ else none) = _
   rw [if_pos (by omega), show (nS (m : Nat)).cps.toList = numL m from f3c m, e1]
   have : atI (c :: r) ((0 : Nat) : Int) = some c := by
    refine atI_nat ?_
    rfl
   rw [show ((0 : Nat) : Int) = 0 from rfl] at this
   rw [this]
   rfl
  have dg := numL_digits m c (by rw [e1]; exact h1e)
  have q0 : opEq (.str ⟨#[c]⟩) (.str "0") = some (.bl false) := by
   have : c = 49 ∨ c = 50 ∨ c = 51 ∨ c = 52 ∨ c = 53 ∨ c = 54 ∨ c = 55 ∨ c = 56 ∨ c = 57 := by omega
   rw [y8a (by rcases this with z | z | z | z | z | z | z | z | z <;> subst z <;> decide +kernel) (by decide +kernel)]
   congr 2
   rcases this with z | z | z | z | z | z | z | z | z <;> subst z <;> decide +kernel
  have a3 : ∃ b, opGt (.int ((nS (m : Nat)).length : Nat)) (.int 1) = some (.bl b) := ⟨_, u0a⟩
  obtain ⟨b, a3⟩ := a3
  refine ⟨[.val (.str (nS (m : Nat))), .no], ?_⟩
  clear h h1 e1 hc dg lm lp ls hm
  exists (D.int ((nS (m : Nat)).length : Nat)), LN
  exists (D.int (m : Nat)), MD
  exists nS (m : Nat), NS
  exists rdD ws (k + 1), RD2
  exists rdD ws k, RD
  unfold d_Reader_read_int
  cases b <;> simp! [e, om, l1, a1, a2, a3, i0, q0, lo, it]
 ·have hl1 : (nS (m : Nat)).length = 1 := by
   rw [ls, numL_lt (by omega)]
   rfl
  have a3 : opGt (.int ((nS (m : Nat)).length : Nat)) (.int 1) = some (.bl false) := by
   rw [u0a, decide_eq_false (by omega)]
  refine ⟨[.val (.str (nS (m : Nat))), .no], ?_⟩
  clear h h1 lm lp ls hm hl1
  exists (D.int ((nS (m : Nat)).length : Nat)), LN
  exists (D.int (m : Nat)), MD
  exists nS (m : Nat), NS
  exists rdD ws (k + 1), RD2
  exists rdD ws k, RD
  unfold d_Reader_read_int
  simp! [e, om, l1, a1, a2, a3, lo, it]
end
open TL
theorem b5a {ws : List Str} {k : Nat} {w : Str} {r : List Str} (h : ws.drop k = w :: r) : ws[k]? = some w ∧ ws.drop (k + 1) = r := by
 have h1 : (ws.drop k)[0]? = some w := by rw [h]; rfl
 rw [List.getElem?_drop, Nat.add_zero] at h1
 refine ⟨h1, ?_⟩
 have : (ws.drop k).drop 1 = r := by rw [h]; rfl
 rwa [List.drop_drop] at this
theorem g7b {ws : List Str} {k : Nat} {r : List Str} (h : ws.drop k = r) : ws[k]? = r[0]? := by
 rw [← h, List.getElem?_drop, Nat.add_zero]
def pnOk (i : Int) : Prop := 0 ≤ i ∧ i ≤ 1000000
theorem g3a {ws : List Str} (hs : ∀ w ∈ ws, PyData.strOk w = true) {k : Nat} {w : Str} (h : ws[k]? = some w) : PyData.strOk w = true := hs w (List.mem_of_getElem? h)
theorem l8a : PyData.strOk ("" : Str) = true := by decide +kernel
theorem e1e {ws : List Str} (hs : ∀ w ∈ ws, PyData.strOk w = true) {k : Nat} : PyData.strOk ((ws[k]?).getD ("" : Str)) = true := by
 cases h : ws[k]? with
 | none => exact l8a
 | some w => exact g3a hs h
theorem f5c {ws : List Str} {k : Nat} {x : Str} (hs : ∀ w ∈ ws, PyData.strOk w = true) (hx : PyData.strOk x = true) : ∃ ρ', d_Reader_next_word [.val (rdD ws k)] = .rt (.str ((ws[k]?).getD ("" : Str))) ρ' ∧ opEq (.str ((ws[k]?).getD ("" : Str))) (.str x) = some (.bl ((ws[k]?).getD ("" : Str) == x)) ∧ objNo "Reader" "next_word" (rdD ws k) = true := by
 obtain ⟨ρ', e⟩ := @x9d ws k
 exact ⟨ρ', e, y8a (e1e hs) hx, rfl⟩
theorem k0a {ws : List Str} {k : Nat} {fa : M (List D)} {r : List Sl} : oMeth "Reader" "want" 0 fa (.bor (rdD ws k) :: r) = oHere fa (.bor (rdD ws k) :: r) := rfl
theorem f6c {ws : List Str} {k : Nat} {r : List Sl} : oMeth "Reader" "read_int" 0 aNil (.bor (rdD ws k) :: r) = oHere aNil (.bor (rdD ws k) :: r) := rfl
def rpT : M Bool := (tVal (eBin opEq (eView (eCall 1 0 d_Reader_next_word [] (aMeth "Reader" "next_word" (eVar 0) aNil))) (eC (.str "point"))))
def rpB : MS := (sDrop [2] (sSeq (sExpr (eCallO 2 0 d_Reader_want 0 (oMeth "Reader" "want" 0 (aCons (eC (.str "point")) aNil))))
  (sSeq (sSet 2 (eCallO 1 2 d_Reader_read_int 0 (oMeth "Reader" "read_int" 0 aNil)))
  (sExpr (eMut isLst 1 opAppend (aCons (eTup (aCons (eVar 2) (aCons (eCallO 1 0 d_Reader_take 0 (oMeth "Reader" "take" 0 aNil)) aNil))) aNil))))))
theorem g2e : d_Reader_read_points = (sSeq (sSetN 1 (eLst aNil))
  (sSeq (sWhile fuel rpT rpB)
  (sRet (eView (eFn opTuple (aCons (eVar 1) aNil)))))) := rfl
section
variable {ws : List Str} {k : Nat}
theorem g5d (hs : ∀ w ∈ ws, PyData.strOk w = true) {L : D} : rpT [.bor (rdD ws k), .own L, .no] = .ok ((ws[k]?).getD ("" : Str) == ("point" : Str)) [.bor (rdD ws k), .own L, .no] := by
 obtain ⟨ρ', e, q, ob⟩ := f5c (k := k) hs (x := "point") (by decide +kernel)
 exists ((ws[k]?).getD ("" : Str) == ("point" : Str)), b
 exists (ws[k]?).getD ("" : Str), w
 exists rdD ws k, RD
 unfold rpT
 simp! [e, q, ob]
theorem y0d (hs : ∀ w ∈ ws, PyData.strOk w = true) {p : P2} {r : List Str} (h : ws.drop k = wP p ++ r) (hp : pnOk p.1) {acc : List P2} (ha : acc.length ≤ 1000) :
  rpB [.bor (rdD ws k), .own (.lst (acc.map ptD)), .no] = .nx [.bor (rdD ws (k + 3)), .own (.lst ((acc ++ [p]).map ptD)), .no] := by
 obtain ⟨m, em⟩ : ∃ m : Nat, p.1 = (m : Nat) := ⟨p.1.toNat, by have := hp.1; omega⟩
 obtain ⟨x, y⟩ := p
 dsimp only at em hp
 subst em
 have h : ws.drop k = ("point" : Str) :: nS (m : Nat) :: y :: r := h
 obtain ⟨h1, h⟩ := b5a h
 obtain ⟨h2, h⟩ := b5a h
 obtain ⟨h3, h⟩ := b5a h
 have e1 := n1a h1 (g3a hs h1)
 obtain ⟨ρ2, e2⟩ := g4d h2 (by have := hp.2; omega)
 have e3 := t1c h3
 have o1 := fun fa r => @k0a ws k fa r
 have o2 := fun r => @f6c ws (k + 1) r
 have o3 := fun r => @x3b ws (k + 1 + 1) r
 have ap : opAppend (.lst (acc.map ptD)) [.tup [.int (m : Nat), .str y]] = some (.non, .lst ((acc ++ [((m : Int), y)]).map ptD)) := by
  show (if (acc.map ptD).length ≤ 100000 then _ else _) = _
  rw [if_pos (by rw [g8e]; omega), i4e]
  rfl
 have il : isLst (.lst (acc.map ptD)) = true := rfl
 clear h h1 h2 h3 hs hp
 show rpB _ = .nx [.bor (rdD ws (k + 1 + 1 + 1)), _, _]
 exists (D.lst ((acc ++ [((m : Int), y)]).map ptD)), A2
 exists (D.lst (acc.map ptD)), A1
 exists (D.int (m : Nat)), MD
 exists rdD ws (k + 1 + 1 + 1), R3
 exists rdD ws (k + 1 + 1), R2
 exists rdD ws (k + 1), R1
 exists rdD ws k, R0
 unfold rpB
 simp! [o1, e1, o2, e2, o3, e3, ap, il]
theorem g6d (hs : ∀ w ∈ ws, PyData.strOk w = true) {rest : List Str} (hr : ((rest[0]?).getD ("" : Str) == ("point" : Str)) = false) : ∀ {m k : Nat} {ps acc : List P2}, ws.drop k = ps.flatMap wP ++ rest → (∀ p ∈ ps, pnOk p.1) → ps.length < m → acc.length + ps.length ≤ 1000 →
    wloop rpT rpB m [.bor (rdD ws k), .own (.lst (acc.map ptD)), .no] = .nx [.bor (rdD ws (k + 3 * ps.length)), .own (.lst ((acc ++ ps).map ptD)), .no]
  | 0, k, ps, acc, _, _, h, _ => by omega
  | m + 1, k, [], acc, h, _, _, _ => by
    unfold wloop
    rw [g5d hs, g7b (r := rest) (by rw [h, l3e, i0e]), hr]
    show O.nx _ = O.nx _
    rw [h5e]
    rfl
  | m + 1, k, p :: ps, acc, h, hp, hm, ha => by
    rw [h0e] at hm ha
    rw [i8e, h4e] at h
    have h0 : ws.drop k = ("point" : Str) :: (nS p.1 :: p.2 :: (ps.flatMap wP ++ rest)) := h
    have hk := (b5a h0).1
    have h3 : ws.drop (k + 3) = ps.flatMap wP ++ rest := (b5a (b5a (b5a h0).2).2).2
    unfold wloop
    rw [g5d hs, hk]
    rw [l9e, beq_self_eq_true]
    dsimp only
    rw [y0d hs h (hp p h1e) (by omega)]
    dsimp only
    have ih := g6d hs hr (m := m) (k := k + 3) (ps := ps) (acc := acc ++ [p]) h3 (fun q hq => hp q (h2e _ hq)) (by omega) (by rw [g9e, h8e]; omega)
    rw [ih, h4e, h0e, show k + 3 + 3 * ps.length = k + 3 * (ps.length + 1) by omega]
    rfl
theorem x4b (hs : ∀ w ∈ ws, PyData.strOk w = true) {rest : List Str} (hr : ((rest[0]?).getD ("" : Str) == ("point" : Str)) = false) {ps : List P2} (h : ws.drop k = ps.flatMap wP ++ rest) (hp : ∀ p ∈ ps, pnOk p.1) (hl : ps.length ≤ 900) (hk : ∀ p ∈ ps, PyData.strOk p.2 = true) :
  ∃ r, d_Reader_read_points [.bor (rdD ws k), .no, .no] = .rt (.tup (ps.map ptD)) (.bor (rdD ws (k + 3 * ps.length)) :: r) := by
 have lp := g6d hs hr (m := fuel) (k := k) (ps := ps) (acc := []) h hp (q2a (by omega)) (by rw [i5e]; omega)
 rw [i0e] at lp
 have tp : opTuple [.lst (ps.map ptD)] = some (.tup (ps.map ptD)) := rfl
 have pl : plain (.tup (ps.map ptD)) = true := by rw [f7a]; exact j3a
 have lp : wloop rpT rpB fuel [.bor (rdD ws k), .own (.lst []), .no] = _ := lp
 rw [g2e]
 refine ⟨[.own (.lst (ps.map ptD)), .no], ?_⟩
 clear h hs hr hp hk
 exists (D.tup (ps.map ptD)), TP
 exists (D.lst (ps.map ptD)), LP
 exists rdD ws (k + 3 * ps.length), R2
 exists rdD ws k, R0
 exists rpT, T
 exists rpB, B
 simp! [j7a, lp, tp, pl]
end
def rtT : M Bool := (tVal (eBin opEq (eView (eCall 1 0 d_Reader_next_word [] (aMeth "Reader" "next_word" (eVar 0) aNil))) (eC (.str "tie"))))
def rtB2 : MS := (sDrop [2, 3, 4] (sSeq (sExpr (eCallO 2 0 d_Reader_want 0 (oMeth "Reader" "want" 0 (aCons (eC (.str "tie")) aNil))))
  (sSeq (sSet 2 (eCallO 1 2 d_Reader_read_int 0 (oMeth "Reader" "read_int" 0 aNil)))
  (sSeq (sSet 3 (eCallO 1 0 d_Reader_take 0 (oMeth "Reader" "take" 0 aNil)))
  (sSeq (sSet 4 (eCallO 1 2 d_Reader_read_int 0 (oMeth "Reader" "read_int" 0 aNil)))
  (sExpr (eMut isLst 1 opAppend (aCons (eTup (aCons (eVar 2) (aCons (eVar 3) (aCons (eVar 4) (aCons (eCallO 1 2 d_Reader_read_int 0 (oMeth "Reader" "read_int" 0 aNil)) aNil))))) aNil))))))))
theorem g3e : d_Reader_read_ties = (sSeq (sSetN 1 (eLst aNil))
  (sSeq (sWhile fuel rtT rtB2)
  (sRet (eView (eFn opTuple (aCons (eVar 1) aNil)))))) := rfl
section
variable {ws : List Str} {k : Nat}
theorem g7d (hs : ∀ w ∈ ws, PyData.strOk w = true) {L : D} : rtT [.bor (rdD ws k), .own L, .no, .no, .no] = .ok ((ws[k]?).getD ("" : Str) == ("tie" : Str)) [.bor (rdD ws k), .own L, .no, .no, .no] := by
 obtain ⟨ρ', e, q, ob⟩ := f5c (k := k) hs (x := "tie") (by decide +kernel)
 exists ((ws[k]?).getD ("" : Str) == ("tie" : Str)), b
 exists (ws[k]?).getD ("" : Str), w
 exists rdD ws k, RD
 unfold rtT
 simp! [e, q, ob]
theorem y1d (hs : ∀ w ∈ ws, PyData.strOk w = true) {t : T4} {r : List Str} (h : ws.drop k = wT t ++ r) (hp : pnOk t.1 ∧ pnOk t.2.2.1 ∧ pnOk t.2.2.2) {acc : List T4} (ha : acc.length ≤ 1000) :
  rtB2 [.bor (rdD ws k), .own (.lst (acc.map tieD)), .no, .no, .no] = .nx [.bor (rdD ws (k + 5)), .own (.lst ((acc ++ [t]).map tieD)), .no, .no, .no] := by
 obtain ⟨x, y, z, u⟩ := t
 obtain ⟨m, em⟩ : ∃ m : Nat, x = (m : Nat) := ⟨x.toNat, by have := hp.1.1; dsimp only at this; omega⟩
 obtain ⟨m2, em2⟩ : ∃ m : Nat, z = (m : Nat) := ⟨z.toNat, by have := hp.2.1.1; dsimp only at this; omega⟩
 obtain ⟨m3, em3⟩ : ∃ m : Nat, u = (m : Nat) := ⟨u.toNat, by have := hp.2.2.1; dsimp only at this; omega⟩
 have b1 := hp.1.2
 have b2 := hp.2.1.2
 have b3 := hp.2.2.2
 dsimp only at b1 b2 b3
 subst em em2 em3
 have h : ws.drop k = ("tie" : Str) :: nS (m : Nat) :: y :: nS (m2 : Nat) :: nS (m3 : Nat) :: r := h
 obtain ⟨h1, h⟩ := b5a h
 obtain ⟨h2, h⟩ := b5a h
 obtain ⟨h3, h⟩ := b5a h
 obtain ⟨h4, h⟩ := b5a h
 obtain ⟨h5, h⟩ := b5a h
 have e1 := n1a h1 (g3a hs h1)
 obtain ⟨ρ2, e2⟩ := g4d h2 (by omega)
 have e3 := t1c h3
 obtain ⟨ρ4, e4⟩ := g4d h4 (by omega)
 obtain ⟨ρ5, e5⟩ := g4d h5 (by omega)
 have o1 := fun fa r => @k0a ws k fa r
 have o2 := fun r => @f6c ws (k + 1) r
 have o3 := fun r => @x3b ws (k + 1 + 1) r
 have o4 := fun r => @f6c ws (k + 1 + 1 + 1) r
 have o5 := fun r => @f6c ws (k + 1 + 1 + 1 + 1) r
 have ap : opAppend (.lst (acc.map tieD)) [.tup [.int (m : Nat), .str y, .int (m2 : Nat), .int (m3 : Nat)]] = some (.non, .lst ((acc ++ [((m : Int), y, (m2 : Int), (m3 : Int))]).map tieD)) := by
  show (if (acc.map tieD).length ≤ 100000 then _ else _) = _
  rw [if_pos (by rw [g8e]; omega), i4e]
  rfl
 have il : isLst (.lst (acc.map tieD)) = true := rfl
 clear h h1 h2 h3 h4 h5 hs hp b1 b2 b3
 show rtB2 _ = .nx [.bor (rdD ws (k + 1 + 1 + 1 + 1 + 1)), _, _, _, _]
 exists (D.lst ((acc ++ [((m : Int), y, (m2 : Int), (m3 : Int))]).map tieD)), A2
 exists (D.lst (acc.map tieD)), A1
 exists (D.int (m : Nat)), MD
 exists (D.int (m2 : Nat)), MD2
 exists (D.int (m3 : Nat)), MD3
 exists rdD ws (k + 1 + 1 + 1 + 1 + 1), R5
 exists rdD ws (k + 1 + 1 + 1 + 1), R4
 exists rdD ws (k + 1 + 1 + 1), R3
 exists rdD ws (k + 1 + 1), R2
 exists rdD ws (k + 1), R1
 exists rdD ws k, R0
 unfold rtB2
 simp! [o1, e1, o2, e2, o3, e3, o4, e4, o5, e5, ap, il]
theorem g8d (hs : ∀ w ∈ ws, PyData.strOk w = true) {rest : List Str} (hr : ((rest[0]?).getD ("" : Str) == ("tie" : Str)) = false) : ∀ {m k : Nat} {ps acc : List T4}, ws.drop k = ps.flatMap wT ++ rest → (∀ t ∈ ps, pnOk t.1 ∧ pnOk t.2.2.1 ∧ pnOk t.2.2.2) → ps.length < m → acc.length + ps.length ≤ 1000 →
    wloop rtT rtB2 m [.bor (rdD ws k), .own (.lst (acc.map tieD)), .no, .no, .no] = .nx [.bor (rdD ws (k + 5 * ps.length)), .own (.lst ((acc ++ ps).map tieD)), .no, .no, .no]
  | 0, k, ps, acc, _, _, h, _ => by omega
  | m + 1, k, [], acc, h, _, _, _ => by
    unfold wloop
    rw [g7d hs, g7b (r := rest) (by rw [h, l3e, i0e]), hr]
    show O.nx _ = O.nx _
    rw [h5e]
    rfl
  | m + 1, k, p :: ps, acc, h, hp, hm, ha => by
    rw [h0e] at hm ha
    rw [i8e, h4e] at h
    have h0 : ws.drop k = ("tie" : Str) :: (nS p.1 :: p.2.1 :: nS p.2.2.1 :: nS p.2.2.2 :: (ps.flatMap wT ++ rest)) := h
    have hk := (b5a h0).1
    have h3 : ws.drop (k + 5) = ps.flatMap wT ++ rest := (b5a (b5a (b5a (b5a (b5a h0).2).2).2).2).2
    unfold wloop
    rw [g7d hs, hk]
    rw [l9e, beq_self_eq_true]
    dsimp only
    rw [y1d hs h (hp p h1e) (by omega)]
    dsimp only
    have ih := g8d hs hr (m := m) (k := k + 5) (ps := ps) (acc := acc ++ [p]) h3 (fun q hq => hp q (h2e _ hq)) (by omega) (by rw [g9e, h8e]; omega)
    rw [ih, h4e, h0e, show k + 5 + 5 * ps.length = k + 5 * (ps.length + 1) by omega]
    rfl
theorem p0b : ∀ {ts : List T4}, plainL (ts.map tieD) = true
 | [] => e0a
 | t :: ts => by rw [h3e, c6a, p0b]; rfl
theorem k9c (hs : ∀ w ∈ ws, PyData.strOk w = true) {rest : List Str} (hr : ((rest[0]?).getD ("" : Str) == ("tie" : Str)) = false) {ts : List T4} (h : ws.drop k = ts.flatMap wT ++ rest) (hp : ∀ t ∈ ts, pnOk t.1 ∧ pnOk t.2.2.1 ∧ pnOk t.2.2.2) (hl : ts.length ≤ 900) :
  ∃ r, d_Reader_read_ties [.bor (rdD ws k), .no, .no, .no, .no] = .rt (.tup (ts.map tieD)) (.bor (rdD ws (k + 5 * ts.length)) :: r) := by
 have lp := g8d hs hr (m := fuel) (k := k) (ps := ts) (acc := []) h hp (q2a (by omega)) (by rw [i5e]; omega)
 rw [i0e] at lp
 have tp : opTuple [.lst (ts.map tieD)] = some (.tup (ts.map tieD)) := rfl
 have pl : plain (.tup (ts.map tieD)) = true := by rw [f7a]; exact p0b
 have lp : wloop rtT rtB2 fuel [.bor (rdD ws k), .own (.lst []), .no, .no, .no] = _ := lp
 rw [g3e]
 refine ⟨[.own (.lst (ts.map tieD)), .no, .no, .no], ?_⟩
 clear h hs hr hp
 exists (D.tup (ts.map tieD)), TP
 exists (D.lst (ts.map tieD)), LP
 exists rdD ws (k + 5 * ts.length), R2
 exists rdD ws k, R0
 exists rtT, T
 exists rtB2, B
 simp! [j7a, lp, tp, pl]
structure PnN (ps : List P2) (ts : List T4) : Prop where
 p : ∀ p ∈ ps, pnOk p.1
 t : ∀ t ∈ ts, pnOk t.1 ∧ pnOk t.2.2.1 ∧ pnOk t.2.2.2
 kp : ∀ p ∈ ps, PyData.strOk p.2 = true
 lp : ps.length ≤ 400
 lt : ts.length ≤ 600
theorem r7d {ps : List P2} {ts : List T4} : (wN ps ts).length = 3 * ps.length + 5 * ts.length := by
 unfold wN
 rw [g9e, s9c, d8e]
theorem e2e {r : List Sl} : oMeth "Reader" "read_points" 0 aNil (.bor (rdD ws k) :: r) = oHere aNil (.bor (rdD ws k) :: r) := rfl
theorem e3e {r : List Sl} : oMeth "Reader" "read_ties" 0 aNil (.bor (rdD ws k) :: r) = oHere aNil (.bor (rdD ws k) :: r) := rfl
theorem o6d {ts : List T4} {rest : List Str} (hr : ((rest[0]?).getD ("" : Str) == ("point" : Str)) = false) : (((ts.flatMap wT ++ rest)[0]?).getD ("" : Str) == ("point" : Str)) = false := by
  cases ts with
  | nil => exact hr
  | cons t ts =>
    show ((some ("tie" : Str)).getD ("" : Str) == ("point" : Str)) = false
    decide +kernel
theorem p1b (hs : ∀ w ∈ ws, PyData.strOk w = true) {rest : List Str} (hr : ((rest[0]?).getD ("" : Str) == ("point" : Str)) = false) (hr2 : ((rest[0]?).getD ("" : Str) == ("tie" : Str)) = false) {ps : List P2} {ts : List T4} (h : ws.drop k = wN ps ts ++ rest) (N : PnN ps ts) :
  ∃ r, d_Reader_read_net [.bor (rdD ws k), .no] = .rt (netD ps ts) (.bor (rdD ws (k + (wN ps ts).length)) :: r) := by
 have a := N.lp
 have b := N.lt
 unfold wN at h
 rw [h4e] at h
 obtain ⟨r1, e1⟩ := x4b hs (o6d hr) h N.p (by omega) N.kp
 have h2 : ws.drop (k + 3 * ps.length) = ts.flatMap wT ++ rest := by
  rw [← List.drop_drop, h, List.drop_append_of_le_length (by rw [s9c]; omega), ← s9c, List.drop_length, i0e]
 obtain ⟨r2, e2⟩ := k9c hs hr2 h2 N.t (by omega)
 have o1 := fun r => @e2e ws k r
 have o2 := fun r => @e3e ws (k + 3 * ps.length) r
 refine ⟨[.val (.tup (ps.map ptD))], ?_⟩
 show _ = O.rt (.tup [.tup (ps.map ptD), .tup (ts.map tieD)]) _
 rw [r7d, ← Nat.add_assoc]
 clear h h2 hs hr hr2 N
 exists (D.tup (ps.map ptD)), TP
 exists (D.tup (ts.map tieD)), TT
 exists rdD ws (k + 3 * ps.length + 5 * ts.length), R2
 exists rdD ws (k + 3 * ps.length), R1
 exists rdD ws k, R0
 unfold d_Reader_read_net
 simp! [o1, e1, o2, e2]
end
open TL
structure WdOk (w : Str) : Prop where
 c : ∀ c ∈ tl w, c ≠ 32 ∧ c < 256
 l : 1 ≤ w.length ∧ w.length ≤ 8
def txt (ws : List Str) : Str := Txt.join " " ws
theorem o7d {w : Str} (h : WdOk w) : PyData.strOk w = true := by
 show w.cps.all (fun c => decide (c < 0x110000)) = true
 rw [← Array.all_toList, i2e]
 exact fun c hc => decide_eq_true (by have := (h.c c hc).2; omega)
theorem f7c {S : List Nat} {c : Nat} : ∀ {parts : List (List Nat)}, c ∈ joinL S parts → c ∈ S ∨ ∃ p ∈ parts, c ∈ p
  | [], h => by cases h
  | [p], h => .inr ⟨p, List.mem_singleton.mpr rfl, h⟩
  | p :: q :: r, h => by
    have h : c ∈ p ++ (S ++ joinL S (q :: r)) := h
    rcases List.mem_append.mp h with h | h
    · exact .inr ⟨p, h1e, h⟩
    · rcases List.mem_append.mp h with h | h
      · exact .inl h
      · rcases f7c h with h | ⟨z, hz, h⟩
        · exact .inl h
        · exact .inr ⟨z, h2e _ hz, h⟩
theorem e4e : tl (" " : Str) = [32] := by decide +kernel
theorem r8d {ws : List Str} : tl (txt ws) = joinL [32] (ws.map tl) := by
 unfold txt
 rw [join_eq, tl_join, e4e]
section
variable {ws : List Str}
theorem l4b (h : ∀ w ∈ ws, WdOk w) : PyData.strOk (txt ws) = true := by
 show (txt ws).cps.all (fun c => decide (c < 0x110000)) = true
 rw [← Array.all_toList, i2e]
 intro c hc
 have hc : c ∈ joinL [32] (ws.map tl) := by rw [← r8d]; exact hc
 refine decide_eq_true ?_
 rcases f7c hc with e | ⟨p, hp, e⟩
 ·rw [List.mem_singleton.mp e]; omega
 ·obtain ⟨w, hw, ew⟩ := List.mem_map.mp hp
  subst ew
  have := ((h w hw).c c e).2
  omega
theorem g9d (h : ∀ w ∈ ws, WdOk w) : (ws.map (·.length)).sum ≤ 8 * ws.length := by
  induction ws with
  | nil => simp
  | cons w ws ih =>
    have a := (h w h1e).l
    have b := ih fun v hv => h v (h2e _ hv)
    rw [h3e, List.sum_cons, h0e]
    omega
theorem h0d : (" " : Str).length = 1 := by decide +kernel
theorem y2d (h : ∀ w ∈ ws, WdOk w) : (txt ws).length ≤ 9 * ws.length := by
 have a := g9d h
 have b := StrLaws.join_length_le " " ws
 rw [h0d] at b
 unfold txt
 rw [join_eq]
 omega
theorem t2c (h : ∀ w ∈ ws, WdOk w) (hl : ws.length ≤ 100000) : opJoin (.str " ") (sL ws) = some (.str (txt ws)) := by
 have a := g9d h
 show (strsOf (ws.map D.str)).bind _ = _
 rw [n9b]
 show (if (ws.map (·.length)).sum + ws.length * (" " : Str).length ≤ 16777216 then _ else none) = _
 rw [if_pos (by rw [h0d]; omega)]
 rfl
theorem y3d (h : ∀ w ∈ ws, WdOk w) (hl : ws.length ≤ 100000) (hn : ws ≠ []) : opSplit (.str (txt ws)) (.str " ") = some (sL ws) := by
 have a := y2d h
 show (if ((" " : Str).length == 0) = false ∧ (txt ws).length ≤ 16777000 then some (D.lst ((Txt.split (txt ws) " ").map .str)) else none) = _
 rw [if_pos ⟨by rw [h0d]; rfl, by omega⟩]
 unfold txt
 rw [split_join (s := 32) (S := []) e4e (by decide +kernel) hn fun p hp hc => (((h p hp).c 32 hc).1 rfl)]
 rfl
theorem e5e (h : ∀ w ∈ ws, WdOk w) : opNe (.str (txt ws)) (.str "") = some (.bl (!ws.isEmpty)) := by
  show (if fit 60 (.str (txt ws)) && fit 60 (.str "") then some (D.bl (!eqD (.str (txt ws)) (.str ""))) else none) = _
  rw [show fit 60 (.str (txt ws)) = true from l4b h, show fit 60 (.str "") = true from l8a]
  show some (D.bl (!(txt ws == ""))) = _
  congr 2
  cases ws with
  | nil => rfl
  | cons w ws =>
    show (!(txt (w :: ws) == "")) = true
    rw [m8e, beq_eq_false_iff_ne]
    intro e
    have h1 : tl (txt (w :: ws)) = [] := by rw [e]; rfl
    rw [r8d] at h1
    have hw := (h w h1e).l.1
    rw [len_tl] at hw
    cases ws with
    | nil =>
      have h1 : tl w = [] := h1
      rw [h1] at hw
      simp at hw
    | cons v ws =>
      have h1 : tl w ++ ([32] ++ joinL [32] ((v :: ws).map tl)) = [] := h1
      have := congrArg List.length h1
      rw [g9e, g9e] at this
      simp at this
theorem r9d (h : ∀ w ∈ ws, WdOk w) (hl : ws.length ≤ 100000) : ∃ s, d_Reader_init [.bor (.obj "Reader" []), .val (.str (txt ws))] = .nx [.bor (rdD ws 0), s] := by
  have ne := e5e h
  have s1 : ∀ (x : D) (s : Sl), setFld 0 "Reader" "words" x [.bor (.obj "Reader" []), s] = some [.bor (.obj "Reader" [("words", x)]), s] := fun _ _ => rfl
  have s2 : ∀ (x y : D) (s : Sl), setFld 0 "Reader" "at" y [.bor (.obj "Reader" [("words", x)]), s] = some [.bor (.obj "Reader" [("words", x), ("at", y)]), s] := fun _ _ _ => rfl
  have s3 : ∀ (x y z : D) (s : Sl), setFld 0 "Reader" "words" z [.bor (.obj "Reader" [("words", x), ("at", y)]), s] = some [.bor (.obj "Reader" [("words", z), ("at", y)]), s] := fun _ _ _ _ => rfl
  have is : ∀ x : Str, isStr (.str x) = true := fun _ => rfl
  refine ⟨.val (.str (txt ws)), ?_⟩
  cases hw : ws with
  | nil =>
    rw [hw] at ne
    have ne : opNe (.str (txt [])) (.str "") = some (.bl false) := ne
    show _ = O.nx [.bor (.obj "Reader" [("words", .lst []), ("at", .int 0)]), _]
    exists txt [], t
    unfold d_Reader_init
    simp! [s1, s2, s3, ne]
  | cons w vs =>
    have sp := y3d h hl (by rw [hw]; simp)
    rw [hw] at ne sp
    have ne : opNe (.str (txt (w :: vs))) (.str "") = some (.bl true) := ne
    show _ = O.nx [.bor (.obj "Reader" [("words", sL (w :: vs)), ("at", .int 0)]), _]
    clear hw h
    exists sL (w :: vs), SL
    exists txt (w :: vs), t
    unfold d_Reader_init
    simp! [s1, s2, s3, ne, j5b, is, sp]
end
open TL
theorem n2a {w : Str} (h : ((w.cps.toList.all fun c => decide (c ≠ 32) && decide (c < 256)) && (decide (1 ≤ w.length) && decide (w.length ≤ 8))) = true) : WdOk w := by
 rw [h6e, h6e, i2e, decide_eq_true_eq, decide_eq_true_eq] at h
 exact ⟨fun c hc => by
  have := h.1 c hc
  rw [h6e, decide_eq_true_eq, decide_eq_true_eq] at this
  exact this, h.2⟩
theorem l5b {i : Int} (h : pnOk i) : WdOk (nS i) := by
 obtain ⟨m, rfl⟩ : ∃ m : Nat, i = (m : Nat) := ⟨i.toNat, by have := h.1; omega⟩
 have h2 := h.2
 have lm := numL_len (n := m) (k := 7) (by decide) (by omega)
 have lp := t0c m
 refine ⟨fun c hc => ?_, by rw [g1d]; omega⟩
 rw [f3c] at hc
 have := numL_digits m c hc
 omega
theorem h1d {x : Str} (h : isKindS x = true) : WdOk x := by
 unfold isKindS at h
 simp only [h6e, decide_eq_true_eq, i2e] at h
 refine ⟨fun c hc => ?_, h.1, h.2.1⟩
 have hm := h.2.2 c hc
 have al : ∀ c ∈ ("abcdefghijklmnopqrstuvwxyz" : Str).cps.toList, c ≠ 32 ∧ c < 256 := by decide +kernel
 exact al c hm
structure TxN (ps : List P2) (ts : List T4) : Prop where
 g : Good ps ts
theorem TxN.pn {ps : List P2} {ts : List T4} (g : Good ps ts) : PnN ps ts := by
 have nm : ∀ {n : Int}, (∃ p ∈ ps, p.1 = n) → pnOk n := fun ⟨p, hp, e⟩ => by rw [← e]; exact (g.pk p hp).1
 exact ⟨fun p hp => (g.pk p hp).1, fun t ht => ⟨(g.tk t ht).1, nm (g.tk t ht).2.2.1, nm (g.tk t ht).2.2.2⟩, fun p hp => h2a (g.pk p hp).2, g.np, g.nt⟩
theorem TxN.nm {ps : List P2} {ts : List T4} (g : Good ps ts) : NmN ps ts := by
 have N := TxN.pn g
 have up : ∀ {i : Int}, pnOk i → nmOk i := fun h => ⟨h.1, by have := h.2; omega⟩
 exact ⟨fun p hp => up (N.p p hp), fun t ht => ⟨up (N.t t ht).1, up (N.t t ht).2.1, up (N.t t ht).2.2⟩, g.np, g.nt⟩
theorem l6b {ps : List P2} {ts : List T4} (g : Good ps ts) : ∀ w ∈ wN ps ts, WdOk w := fun w hw => by
 have N := TxN.pn g
 unfold wN at hw
 rcases List.mem_append.mp hw with h | h
 ·obtain ⟨p, hp, h⟩ := List.mem_flatMap.mp h
  unfold wP at h
  simp only [k1e, j4e, or_false] at h
  rcases h with e | e | e
  ·rw [e]; exact n2a (by decide +kernel)
  ·rw [e]; exact l5b (N.p p hp)
  ·rw [e]; exact h1d (g.pk p hp).2
 ·obtain ⟨t, ht, h⟩ := List.mem_flatMap.mp h
  unfold wT at h
  simp only [k1e, j4e, or_false] at h
  rcases h with e | e | e | e | e
  ·rw [e]; exact n2a (by decide +kernel)
  ·rw [e]; exact l5b (N.t t ht).1
  ·rw [e]; exact h1d (g.tk t ht).2.1
  ·rw [e]; exact l5b (N.t t ht).2.1
  ·rw [e]; exact l5b (N.t t ht).2.2
theorem e6e {ws : List Str} (h : ∀ w ∈ ws, WdOk w) : ∀ w ∈ ws, PyData.strOk w = true := fun w hw => o7d (h w hw)
theorem y4d {ws : List Str} {k : Nat} {s0 : Sl} {r : List Sl} : oMeth "Reader" "read_net" 1 aNil (s0 :: .own (rdD ws k) :: r) = oHere aNil (s0 :: .own (rdD ws k) :: r) := rfl
section
variable {ps : List P2} {ts : List T4}
theorem a2b (g : Good ps ts) : (wN ps ts).length ≤ 4200 := by
 have a := g.np
 have b := g.nt
 rw [r7d]
 omega
theorem s0d (g : Good ps ts) : ∃ ρ', d_read_net [.val (.str (txt (wN ps ts))), .no, .no] = .rt (netD ps ts) ρ' := by
 have wd := l6b g
 have le := a2b g
 obtain ⟨s, e1⟩ := r9d wd (by omega)
 obtain ⟨r, e2⟩ := p1b (ws := wN ps ts) (k := 0) (e6e wd) (rest := []) (by decide +kernel) (by decide +kernel) (by rw [n0e, h5e]) (TxN.pn g)
 rw [Nat.zero_add] at e2
 obtain ⟨ρ3, e3⟩ := n0d g
 have dn := @g3d (wN ps ts) (wN ps ts).length
 rw [decide_eq_true (j0e _)] at dn
 have ob : objNo "Reader" "is_done" (rdD (wN ps ts) (wN ps ts).length) = true := rfl
 have om := fun s0 r => @y4d (wN ps ts) 0 s0 r
 refine e8a ?_
 clear wd g le
 exists rdD (wN ps ts) (wN ps ts).length, R1
 exists rdD (wN ps ts) 0, R0
 exists txt (wN ps ts), T
 exists netD ps ts, ND
 unfold d_read_net
 simp! [e1, om, e2, dn, ob, e3]
theorem p2b (g : Good ps ts) : ∃ ρ', d_net_text [.val (netD ps ts)] = .rt (.str (txt (wN ps ts))) ρ' := by
 obtain ⟨ρ1, e1⟩ := h0a (TxN.nm g)
 have j := t2c (l6b g) (by have := a2b g; omega)
 have is : isStr (.str " ") = true := rfl
 refine e8a ?_
 clear g
 exists txt (wN ps ts), T
 exists sL (wN ps ts), SL
 exists netD ps ts, ND
 unfold d_net_text
 simp! [e1, j5b, is, j]
end
def flatD : Nat → D → Prop
 | 0, d => (∃ i, d = .int i) ∨ ∃ s, d = .str s ∧ PyData.strOk s = true
 | n + 1, d => ((∃ i, d = .int i) ∨ ∃ s, d = .str s ∧ PyData.strOk s = true) ∨ ∃ ds, d = .tup ds ∧ ds.length ≤ 1000 ∧ ∀ x ∈ ds, flatD n x
theorem e2a : ∀ {n : Nat} {d : D}, flatD n d → flatD (n + 1) d
  | 0, d, h => .inl h
  | n + 1, d, h => by
    rcases h with h | ⟨ds, e, l, h⟩
    · exact .inl h
    · exact .inr ⟨ds, e, l, fun x hx => e2a (h x hx)⟩
theorem t3c {R : MS} {d : D} (h : (∃ i, d = .int i) ∨ ∃ s, d = .str s ∧ PyData.strOk s = true) : ∃ ρ', d_law_alike_S R [.val d, .val d, .no] = .rt (.bl true) ρ' := by
 refine e8a ?_
 rcases h with ⟨i, e⟩ | ⟨s, e, hs⟩
 ·subst e
  have t1 : ∀ i, opIsi "tuple" (.int i) = some (.bl false) := fun _ => rfl
  have t2 : ∀ i, opIsi "bool" (.int i) = some (.bl false) := fun _ => rfl
  have t3 : ∀ i, opIsi "int" (.int i) = some (.bl true) := fun _ => rfl
  have q1 : opEq (.bl true) (.bl true) = some (.bl true) := by rw [u5c]; rfl
  have q2 : opEq (.int i) (.int i) = some (.bl true) := by rw [z3a, beq_self_eq_true]
  unfold d_law_alike_S
  simp! [t1, t2, t3, q1, q2]
 ·subst e
  have t1 : ∀ i, opIsi "tuple" (.str i) = some (.bl false) := fun _ => rfl
  have t2 : ∀ i, opIsi "bool" (.str i) = some (.bl false) := fun _ => rfl
  have t3 : ∀ i, opIsi "int" (.str i) = some (.bl false) := fun _ => rfl
  have q1 : opEq (.bl false) (.bl false) = some (.bl true) := by rw [u5c]; rfl
  have q2 : opEq (.str s) (.str s) = some (.bl true) := by rw [y8a hs hs, beq_self_eq_true]
  unfold d_law_alike_S
  simp! [t1, t2, t3, q1, q2]
theorem o8d {R : MS} {ds : List D} (hl : ds.length ≤ 1000) (h : ∀ x ∈ ds, ∃ ρ', R [.val x, .val x, .no] = .rt (.bl true) ρ') : ∃ ρ', d_law_alike_S R [.val (.tup ds), .val (.tup ds), .no] = .rt (.bl true) ρ' := by
 have t1 : opIsi "tuple" (.tup ds) = some (.bl true) := rfl
 have l1 : opLen [.tup ds] = some (.int (ds.length : Nat)) := by rw [g1a]
 have n1 : opNe (.int (ds.length : Nat)) (.int (ds.length : Nat)) = some (.bl false) := by rw [z9b, beq_self_eq_true]; rfl
 have rg := k3a (j := (ds.length : Nat)) (by omega)
 rw [Int.toNat_natCast] at rg
 have en : opEq (.lst []) (.lst []) = some (.bl true) := rfl
 have c1 := m3a (i := 2) (t := mNot (tVal (eCall 2 1 R [] (aCons (eBin opIx (eVar 0) (eVar 2)) (aCons (eBin opIx (eVar 1) (eVar 2)) aNil))))) (e := eVar 2) (g := fun k : Nat => D.int (k : Nat)) (p := fun _ => false) (f := fun k : Nat => D.int (k : Nat)) (xs := List.range ds.length) (ρ := [.val (.tup ds), .val (.tup ds), .no]) rfl (by rw [j3e]; omega) (fun k hk => by
  have hk := List.mem_range.mp hk
  obtain ⟨ρ', e⟩ := h ds[k] (k8e hk)
  have ix : opIx (.tup ds) (.int (k : Nat)) = some ds[k] := by
   show atI ds (k : Nat) = _
   exact atI_nat (h7e hk)
  exists ds[k], x
  exists (D.tup ds), TD
  exists (D.int (k : Nat)), KD
  simp! [ix, e]) (fun k hk hf => by cases hf)
 rw [List.filter_eq_nil_iff.mpr fun a _ h => by cases h] at c1
 have c1 : compL (gN 2) (mNot (tVal (eCall 2 1 R [] (aCons (eBin opIx (eVar 0) (eVar 2)) (aCons (eBin opIx (eVar 1) (eVar 2)) aNil))))) (eVar 2) [2] ((List.range ds.length).map fun k => D.int (k : Nat)) [] [.val (.tup ds), .val (.tup ds), .no] = .ok [] [.val (.tup ds), .val (.tup ds), .no] := c1
 refine e8a ?_
 clear h
 exists (List.range ds.length).map (fun k => D.int (k : Nat)), RG
 exists (D.int (ds.length : Nat)), LN
 exists (D.tup ds), TD
 unfold d_law_alike_S
 simp! [t1, l1, n1, rg, c1, en]
theorem h2d : ∀ {n : Nat} {d : D}, flatD n d → ∃ ρ', d_law_alike_N (n + 1) [.val d, .val d, .no] = .rt (.bl true) ρ'
  | 0, d, h => t3c h
  | n + 1, d, h => by
    rcases h with h | ⟨ds, e, l, h⟩
    · exact t3c h
    · subst e
      exact o8d l fun x hx => h2d (h x hx)
theorem l0c {d : D} (h : flatD 7 d) : ∃ ρ', d_law_alike [.val d, .val d, .no] = .rt (.bl true) ρ' := h2d h
section
variable {ps : List P2} {ts : List T4}
theorem x0a (g : Good ps ts) : flatD 3 (netD ps ts) := by
 have a := g.np
 have b := g.nt
 refine .inr ⟨[.tup (ps.map ptD), .tup (ts.map tieD)], rfl, by simp, fun x hx => ?_⟩
 rcases List.mem_cons.mp hx with e | hx
 ·subst e
  refine .inr ⟨_, rfl, by rw [g8e]; omega, fun x hx => ?_⟩
  obtain ⟨p, hp, e⟩ := List.mem_map.mp hx
  subst e
  refine .inr ⟨[.int p.1, .str p.2], rfl, by simp, fun x hx => ?_⟩
  rcases List.mem_cons.mp hx with e | hx
  ·exact .inl ⟨_, e⟩
  ·exact .inr ⟨_, List.mem_singleton.mp hx, h2a (g.pk p hp).2⟩
 ·rw [List.mem_singleton.mp hx]
  refine .inr ⟨_, rfl, by rw [g8e]; omega, fun x hx => ?_⟩
  obtain ⟨t, ht, e⟩ := List.mem_map.mp hx
  subst e
  refine .inr ⟨[.int t.1, .str t.2.1, .int t.2.2.1, .int t.2.2.2], rfl, by simp, fun x hx => ?_⟩
  simp only [k1e, j4e, or_false] at hx
  rcases hx with e | e | e | e
  ·exact .inl ⟨_, e⟩
  ·exact .inr ⟨_, e, h2a (g.tk t ht).2.1⟩
  ·exact .inl ⟨_, e⟩
  ·exact .inl ⟨_, e⟩
theorem r9a (g : Good ps ts) : ∃ ρ', d_law_net_right [.val (netD ps ts), .no, .no] = .rt (.bl true) ρ' := by
 obtain ⟨ρ1, e1⟩ := h0a (TxN.nm g)
 rw [← g0d] at e1
 have j := t2c (l6b g) (by have := a2b g; omega)
 have is : isStr (.str " ") = true := rfl
 obtain ⟨ρ2, e2⟩ := p2b g
 obtain ⟨ρ3, e3⟩ := s0d g
 obtain ⟨ρ4, e4⟩ := l0c (e2a (e2a (e2a (e2a (x0a g)))))
 have so := l4b (l6b g)
 have t1 : ∀ s, opIsi "str" (.str s) = some (.bl true) := fun _ => rfl
 have n1 := x2b so
 have q1 : opEq (.str (txt (wN ps ts))) (.str (txt (wN ps ts))) = some (.bl true) := by rw [y8a so so, beq_self_eq_true]
 refine e8a ?_
 clear g so
 exists txt (wN ps ts), T
 exists sL (wN ps ts), SL
 exists netD ps ts, ND
 unfold d_law_net_right
 simp! [e1, j5b, is, j, e2, t1, n1, e3, e4, q1]
end
open TL
def br (ws : List Str) : List Str := ("(" : Str) :: (ws ++ [(")" : Str)])
def wI (xs : List Int) : List Str := xs.map nS
def wK (kp kt : List Int) : List Str := [("points" : Str)] ++ wI kp ++ [("ties" : Str)] ++ wI kt
def wQ (qs : List (Int × Int)) : List Str := qs.flatMap fun q => [nS q.1, nS q.2]
def wL (qs : List (Int × Int)) : List Str := if qs = [] then [] else [("loose" : Str)] ++ br (wQ qs)
def wF (f : Nt) : List Str := [("forbid" : Str)] ++ br (wN f.1 f.2)
def wA1 (r : Rl) : List Str := [("left" : Str)] ++ br (wN r.lp r.lt)
def wA2 (r : Rl) : List Str := wA1 r ++ [("keep" : Str)] ++ br (wK r.kp r.kt)
def wA (r : Rl) : List Str := wA2 r ++ [("right" : Str)] ++ br (wN r.rp r.rt)
def wR (r : Rl) : List Str := wA r ++ wL r.qs ++ r.fs.flatMap wF
theorem p4a {ws : List Str} : (br ws).length = ws.length + 2 := by
 unfold br
 rw [h0e, g9e, h8e]
theorem t4c {qs : List (Int × Int)} : (wQ qs).length = 2 * qs.length := by
 unfold wQ
 induction qs with
 | nil => rfl
 | cons q qs ih => rw [i8e, g9e, ih]; show 2 + _ = 2 * (qs.length + 1); omega
theorem t5c {x : Int} (h : nmB x = true) : pnOk x := by
 unfold nmB at h
 rw [h6e, decide_eq_true_eq, decide_eq_true_eq] at h
 exact h
theorem f8c {i : Int} (h : pnOk i) : nmOk i := ⟨h.1, by have := h.2; omega⟩
theorem f9c {ws : List Str} (h : ws.length ≤ 50000) : ∃ ρ', d_in_brackets [.val (sL ws)] = .rtN (sL (br ws)) ρ' := by
 have c1 : opCat (.lst [.str "("]) (sL ws) = some (sL (("(" : Str) :: ws)) := i6a (a := ["("]) (by show 1 + _ ≤ _; omega)
 have c2 : opCat (sL (("(" : Str) :: ws)) (.lst [.str ")"]) = some (sL (br ws)) := i6a (a := "(" :: ws) (b := [")"]) (by rw [h0e]; show _ + 1 ≤ _; omega)
 refine ⟨[.val (sL ws)], ?_⟩
 exists sL (br ws), B
 exists sL (("(" : Str) :: ws), C
 exists sL ws, S
 unfold d_in_brackets
 simp! [c1, c2]
theorem x5b {i : Nat} {xs : List Int} {ρ : List Sl} (hf : isFree ρ[i]? = true) (hl : xs.length ≤ 1000) (hx : ∀ x ∈ xs, nmOk x) : compL (gN i) (mpure true) (eFn opStr (aCons (eVar i) aNil)) [i] (xs.map .int) [] ρ = .ok ((wI xs).map .str) ρ := by
 rw [v2d (f := fun d => match d with | .int n => .str (nS n) | d => d) hf (by rw [g8e]; omega) fun d hd => ?_]
 ·unfold wI
  rw [i6e, i6e]
  rfl
 ·obtain ⟨n, hn, e⟩ := List.mem_map.mp hd
  subst e
  have e1 := x1b (hx n hn)
  obtain ⟨s, hs⟩ : ∃ s, ρ[i]? = some s := by
   cases q : ρ[i]? with
   | none => rw [q] at hf; cases hf
   | some s => exact ⟨s, rfl⟩
  have hi := (List.getElem?_eq_some_iff.mp hs).1
  have g : (ρ.set i (.val (.int n)))[i]? = some (.val (.int n)) := by rw [i1e hi]
  clear hd hx
  dsimp only
  simp! [e1, g]
section
variable {s0 s1 s2 s3 s4 s5 s6 s7 s8 s9 : Sl}
def qwB : MS := (sDrop [11, 12] (sSet 10 (eBin opCat (eVar 10) (eLst (aCons (eFn opStr (aCons (eVar 11) aNil)) (aCons (eFn opStr (aCons (eVar 12) aNil)) aNil))))))
theorem h3d : ∀ {qs : List (Int × Int)} {acc : List Str}, (∀ q ∈ qs, nmOk q.1 ∧ nmOk q.2) → acc.length + 2 * qs.length ≤ 90000 →
    loop (gT (gsCons (gN 11) (gsCons (gN 12) gsNil))) qwB (qs.map prD) [s0, s1, s2, s3, s4, s5, s6, s7, s8, s9, .val (sL acc), .no, .no, .no] = .nx [s0, s1, s2, s3, s4, s5, s6, s7, s8, s9, .val (sL (acc ++ wQ qs)), .no, .no, .no]
  | [], acc, _, _ => by unfold wQ; rw [l3e, h5e]; rfl
  | q :: qs, acc, h, hl => by
    rw [h0e] at hl
    have ih := h3d (qs := qs) (acc := acc ++ [nS q.1, nS q.2]) (fun x hx => h x (h2e _ hx)) (by rw [g9e]; show acc.length + 2 + _ ≤ _; omega)
    have e1 := x1b (h q h1e).1
    have e2 := x1b (h q h1e).2
    have c1 : opCat (sL acc) (.lst [.str (nS q.1), .str (nS q.2)]) = some (sL (acc ++ [nS q.1, nS q.2])) := i6a (b := [nS q.1, nS q.2]) (by show acc.length + 2 ≤ _; omega)
    have hp : prD q = .tup [.int q.1, .int q.2] := rfl
    have st : stp (gT (gsCons (gN 11) (gsCons (gN 12) gsNil))) qwB (prD q) [s0, s1, s2, s3, s4, s5, s6, s7, s8, s9, .val (sL acc), .no, .no, .no] = .nx [s0, s1, s2, s3, s4, s5, s6, s7, s8, s9, .val (sL (acc ++ [nS q.1, nS q.2])), .no, .no, .no] := by
      rw [hp]
      clear ih h hp
      exists sL (acc ++ [nS q.1, nS q.2]), A2
      exists sL acc, A1
      unfold qwB
      simp! [k4a, e1, e2, c1]
    rw [h3e, h7a, st, i3a]
    refine Eq.trans ih ?_
    unfold wQ
    rw [h4e, i8e]
end
section
variable {s0 s1 s2 s5 s6 s7 s8 s9 s10 s11 s12 s13 : Sl}
def fwB : MS := (sDrop [4] (sSet 3 (eBin opCat (eBin opCat (eVar 3) (eLst (aCons (eC (.str "forbid")) aNil))) (eCallN 1 0 d_in_brackets [] (aCons (eCall 1 5 d_net_words [] (aCons (eVar 4) aNil)) aNil)))))
theorem h4d {f : Nt} (g : Good f.1 f.2) : (wF f).length ≤ 4210 := by
 have := a2b g
 unfold wF
 rw [g9e, p4a]
 show 1 + _ ≤ _
 omega
theorem h5d : ∀ {fs : List Nt} {acc : List Str}, (∀ f ∈ fs, Good f.1 f.2) → acc.length + 4210 * fs.length ≤ 90000 →
    loop (gN 4) fwB (fs.map ntD) [s0, s1, s2, .val (sL acc), .no, s5, s6, s7, s8, s9, s10, s11, s12, s13] = .nx [s0, s1, s2, .val (sL (acc ++ fs.flatMap wF)), .no, s5, s6, s7, s8, s9, s10, s11, s12, s13]
  | [], acc, _, _ => by rw [l3e, h5e]; rfl
  | f :: fs, acc, h, hl => by
    rw [h0e] at hl
    have g := h f h1e
    have nl := h4d g
    have ih := h5d (fs := fs) (acc := acc ++ wF f) (fun x hx => h x (h2e _ hx)) (by rw [g9e]; omega)
    obtain ⟨ρ1, e1⟩ := h0a (TxN.nm g)
    have wl := a2b g
    obtain ⟨ρ2, e2⟩ := f9c (ws := wN f.1 f.2) (by omega)
    have c1 : opCat (sL acc) (.lst [.str "forbid"]) = some (sL (acc ++ [("forbid" : Str)])) := i6a (b := [("forbid" : Str)]) (by show acc.length + 1 ≤ _; omega)
    have c2 : opCat (sL (acc ++ [("forbid" : Str)])) (sL (br (wN f.1 f.2))) = some (sL (acc ++ wF f)) := by
      rw [i6a (by rw [p4a, g9e]; show acc.length + 1 + _ ≤ _; omega), h4e]
      rfl
    have hp : ntD f = netD f.1 f.2 := rfl
    have st : stp (gN 4) fwB (ntD f) [s0, s1, s2, .val (sL acc), .no, s5, s6, s7, s8, s9, s10, s11, s12, s13] = .nx [s0, s1, s2, .val (sL (acc ++ wF f)), .no, s5, s6, s7, s8, s9, s10, s11, s12, s13] := by
      rw [hp]
      clear ih h hp
      exists sL (acc ++ wF f), A2
      exists sL (acc ++ [("forbid" : Str)]), A3
      exists sL acc, A1
      exists sL (br (wN f.1 f.2)), B1
      exists sL (wN f.1 f.2), B2
      exists netD f.1 f.2, N1
      unfold fwB
      simp! [k4a, e1, e2, c1, c2]
    rw [h3e, h7a, st, i3a]
    refine Eq.trans ih ?_
    rw [h4e, i8e]
end
section
variable {r : Rl}
structure RwOk (r : Rl) : Prop where
 gl : Good r.lp r.lt
 gr : Good r.rp r.rt
 kp : ∀ x ∈ r.kp, pnOk x
 kt : ∀ x ∈ r.kt, pnOk x
 lk : r.kp.length ≤ 1000 ∧ r.kt.length ≤ 1000
 qq : ∀ q ∈ r.qs, pnOk q.1 ∧ pnOk q.2
 ql : r.qs.length ≤ 3
 ff : ∀ f ∈ r.fs, Good f.1 f.2
 fl : r.fs.length ≤ 2
theorem RlH.rw (h : RlH r) : RwOk r := ⟨h.gl, h.gr, fun x hx => t5c (h.k1.1 x hx), fun x hx => t5c (h.k2.1 x hx), h.kl, fun q hq => ⟨t5c (h.qq q hq).1.1, t5c (h.qq q hq).1.2⟩, h.ql, fun f hf => (h.ff f hf).2, h.fl⟩
theorem p5a {xs : List Int} : (wI xs).length = xs.length := by unfold wI; rw [g8e]
theorem h6d {kp kt : List Int} : (wK kp kt).length = kp.length + kt.length + 2 := by
 unfold wK
 simp only [g9e, p5a, h8e]
 omega
theorem l1c : (wA1 r).length = (wN r.lp r.lt).length + 3 := by
 unfold wA1
 rw [g9e, p4a, h8e]
 omega
theorem l2c : (wA2 r).length = (wN r.lp r.lt).length + r.kp.length + r.kt.length + 8 := by
 unfold wA2
 rw [g9e, g9e, p4a, l1c, h6d, h8e]
 omega
theorem p3b : (wA r).length = (wN r.lp r.lt).length + r.kp.length + r.kt.length + (wN r.rp r.rt).length + 11 := by
 unfold wA
 rw [g9e, g9e, p4a, l2c, h8e]
 omega
theorem h7d {qs : List (Int × Int)} : (wL qs).length ≤ 2 * qs.length + 3 := by
 unfold wL
 split
 ·simp
 ·rw [g9e, p4a, t4c, h8e]
  omega
theorem y5d {fs : List Nt} (h : ∀ f ∈ fs, Good f.1 f.2) : (fs.flatMap wF).length ≤ 4210 * fs.length := by
  induction fs with
  | nil => simp
  | cons f fs ih =>
    have a := ih fun x hx => h x (h2e _ hx)
    have b := h4d (h f h1e)
    rw [i8e, g9e, h0e]
    omega
theorem h8d (h : RwOk r) : (wR r).length ≤ 30000 := by
 have a := a2b h.gl
 have b := a2b h.gr
 have c := h.lk
 have d := @h7d r.qs
 have e := y5d h.ff
 have f := h.ql
 have g := h.fl
 unfold wR
 rw [g9e, g9e, p3b]
 omega
theorem g0c (h : RwOk r) : ∃ ρ', d_rule_words [.val (rlD r), .no, .no, .no, .no, .no, .no, .no, .no, .no, .no, .no, .no, .no] = .rt (sL (wR r)) ρ' := by
 have la := a2b h.gl
 have lb := a2b h.gr
 have lc := h.lk
 have ld := @h7d r.qs
 have lq := h.ql
 have lf := h.fl
 obtain ⟨ρ1, n1⟩ := h0a (TxN.nm h.gl)
 obtain ⟨ρ2, n2⟩ := h0a (TxN.nm h.gr)
 obtain ⟨ρ3, b1⟩ := f9c (ws := wN r.lp r.lt) (by omega)
 obtain ⟨ρ4, b2⟩ := f9c (ws := wN r.rp r.rt) (by omega)
 obtain ⟨ρ5, b3⟩ := f9c (ws := wK r.kp r.kt) (by rw [h6d]; omega)
 obtain ⟨ρ6, b4⟩ := f9c (ws := wQ r.qs) (by rw [t4c]; omega)
 have s1 := fun ρ (hf : isFree ρ[13]? = true) => x5b (i := 13) (xs := r.kp) (ρ := ρ) hf lc.1 fun x hx => f8c (h.kp x hx)
 have s2 := fun ρ (hf : isFree ρ[13]? = true) => x5b (i := 13) (xs := r.kt) (ρ := ρ) hf lc.2 fun x hx => f8c (h.kt x hx)
 have d1 : opCat (.lst [.str "points"]) (.lst ((wI r.kp).map .str)) = some (sL ([("points" : Str)] ++ wI r.kp)) := i6a (a := [("points" : Str)]) (b := wI r.kp) (by rw [p5a]; show 1 + _ ≤ _; omega)
 have d2 : opCat (sL ([("points" : Str)] ++ wI r.kp)) (.lst [.str "ties"]) = some (sL ([("points" : Str)] ++ wI r.kp ++ [("ties" : Str)])) := i6a (b := [("ties" : Str)]) (by rw [g9e, p5a]; show 1 + _ + 1 ≤ _; omega)
 have d3 : opCat (sL ([("points" : Str)] ++ wI r.kp ++ [("ties" : Str)])) (.lst ((wI r.kt).map .str)) = some (sL (wK r.kp r.kt)) := i6a (b := wI r.kt) (by rw [g9e, g9e, p5a, p5a]; show 1 + _ + 1 + _ ≤ _; omega)
 have f1 : opCat (.lst [.str "left"]) (sL (br (wN r.lp r.lt))) = some (sL (wA1 r)) := i6a (a := [("left" : Str)]) (by rw [p4a]; show 1 + _ ≤ _; omega)
 have f2 : opCat (sL (wA1 r)) (.lst [.str "keep"]) = some (sL (wA1 r ++ [("keep" : Str)])) := i6a (b := [("keep" : Str)]) (by rw [l1c]; show _ + 1 ≤ _; omega)
 have f3 : opCat (sL (wA1 r ++ [("keep" : Str)])) (sL (br (wK r.kp r.kt))) = some (sL (wA2 r)) := i6a (by rw [g9e, l1c, p4a, h6d, h8e]; omega)
 have f4 : opCat (sL (wA2 r)) (.lst [.str "right"]) = some (sL (wA2 r ++ [("right" : Str)])) := i6a (b := [("right" : Str)]) (by rw [l2c]; show _ + 1 ≤ _; omega)
 have f5 : opCat (sL (wA2 r ++ [("right" : Str)])) (sL (br (wN r.rp r.rt))) = some (sL (wA r)) := i6a (by rw [g9e, l2c, p4a, h8e]; omega)
 have f6 : opCat (sL (wA r)) (.lst [.str "loose"]) = some (sL (wA r ++ [("loose" : Str)])) := i6a (b := [("loose" : Str)]) (by rw [p3b]; show _ + 1 ≤ _; omega)
 have ll : opLen [.tup (r.qs.map prD)] = some (.int (r.qs.length : Nat)) := by rw [g1a, g8e]
 have gg : opGt (.int (r.qs.length : Nat)) (.int 0) = some (.bl (decide (0 < r.qs.length))) := by
  rw [u0a]
  congr 2
  exact decide_eq_decide.mpr (by omega)
 have w1 := @p3b r
 have lo1 := fun s0 s1 s2 s5 s6 s7 s8 s9 s10 s11 s12 s13 => h5d (s0 := s0) (s1 := s1) (s2 := s2) (s5 := s5) (s6 := s6) (s7 := s7) (s8 := s8) (s9 := s9) (s10 := s10) (s11 := s11) (s12 := s12) (s13 := s13) (fs := r.fs) (acc := wA r ++ wL r.qs) h.ff (by rw [g9e]; omega)
 rw [show wA r ++ wL r.qs ++ r.fs.flatMap wF = wR r from rfl] at lo1
 have lo2 := fun s0 s1 s2 s3 s4 s5 s6 s7 s8 s9 => h3d (s0 := s0) (s1 := s1) (s2 := s2) (s3 := s3) (s4 := s4) (s5 := s5) (s6 := s6) (s7 := s7) (s8 := s8) (s9 := s9) (qs := r.qs) (acc := []) (fun q hq => ⟨f8c (h.qq q hq).1, f8c (h.qq q hq).2⟩) (by rw [i5e]; omega)
 have lo2 : ∀ (s0 s1 s2 s3 s4 s5 s6 s7 s8 s9 : Sl), loop (gT (gsCons (gN 11) (gsCons (gN 12) gsNil))) qwB (r.qs.map prD) [s0, s1, s2, s3, s4, s5, s6, s7, s8, s9, .val (.lst []), .no, .no, .no] = .nx [s0, s1, s2, s3, s4, s5, s6, s7, s8, s9, .val (sL (wQ r.qs)), .no, .no, .no] := lo2
 unfold fwB at lo1
 unfold qwB at lo2
 refine e8a ?_
 unfold rlD
 by_cases hq : r.qs = []
 ·have f7 : wA r ++ wL r.qs = wA r := by unfold wL; rw [if_pos hq, h5e]
  rw [f7] at lo1
  have l0 : r.qs.length = 0 := by rw [hq]; rfl
  rw [decide_eq_false (by omega)] at gg
  clear h la lb lc ld lq lf w1 f6 f7 b4 lo2 hq l0
  exists sL (wR r), W9
  exists sL (wA r), W1
  exists sL (wA2 r), W2
  exists sL (wA1 r), W3
  exists sL (wA2 r ++ [("right" : Str)]), W4
  exists sL (wA1 r ++ [("keep" : Str)]), W5
  exists sL (wK r.kp r.kt), W6
  exists sL (br (wK r.kp r.kt)), W7
  exists sL (br (wN r.rp r.rt)), W8
  exists sL (br (wN r.lp r.lt)), V1
  exists sL (wN r.rp r.rt), V2
  exists sL (wN r.lp r.lt), V3
  exists sL ([("points" : Str)] ++ wI r.kp ++ [("ties" : Str)]), V4
  exists sL ([("points" : Str)] ++ wI r.kp), V5
  exists (wI r.kp).map D.str, V6
  exists (wI r.kt).map D.str, V7
  exists r.kp.map D.int, U1
  exists r.kt.map D.int, U2
  exists r.qs.map prD, U3
  exists r.fs.map ntD, U4
  exists netD r.lp r.lt, U5
  exists netD r.rp r.rt, U6
  exists (D.int (r.qs.length : Nat)), U7
  unfold d_rule_words
  simp! [n1, n2, b1, b2, b3, s1, s2, d1, d2, d3, f1, f2, f3, f4, f5, ll, gg, lo1]
 ·have l0 : 0 < r.qs.length := by cases hh : r.qs with | nil => exact (hq hh).elim | cons a b => simp
  rw [decide_eq_true l0] at gg
  have f7 : opCat (sL (wA r ++ [("loose" : Str)])) (sL (br (wQ r.qs))) = some (sL (wA r ++ wL r.qs)) := by
   rw [i6a (by rw [g9e, p3b, p4a, t4c, h8e]; omega)]
   unfold wL
   rw [if_neg hq, h4e]
  clear h la lb lc ld lq lf w1 hq l0
  exists sL (wR r), W9
  exists sL (wA r ++ wL r.qs), W0
  exists sL (wA r ++ [("loose" : Str)]), X0
  exists sL (br (wQ r.qs)), X1
  exists sL (wQ r.qs), X2
  exists sL (wA r), W1
  exists sL (wA2 r), W2
  exists sL (wA1 r), W3
  exists sL (wA2 r ++ [("right" : Str)]), W4
  exists sL (wA1 r ++ [("keep" : Str)]), W5
  exists sL (wK r.kp r.kt), W6
  exists sL (br (wK r.kp r.kt)), W7
  exists sL (br (wN r.rp r.rt)), W8
  exists sL (br (wN r.lp r.lt)), V1
  exists sL (wN r.rp r.rt), V2
  exists sL (wN r.lp r.lt), V3
  exists sL ([("points" : Str)] ++ wI r.kp ++ [("ties" : Str)]), V4
  exists sL ([("points" : Str)] ++ wI r.kp), V5
  exists (wI r.kp).map D.str, V6
  exists (wI r.kt).map D.str, V7
  exists r.kp.map D.int, U1
  exists r.kt.map D.int, U2
  exists r.qs.map prD, U3
  exists r.fs.map ntD, U4
  exists netD r.lp r.lt, U5
  exists netD r.rp r.rt, U6
  exists (D.int (r.qs.length : Nat)), U7
  unfold d_rule_words
  simp! [n1, n2, b1, b2, b3, b4, s1, s2, d1, d2, d3, f1, f2, f3, f4, f5, f6, f7, ll, gg, lo1, lo2]
end
open TL
theorem y0c {qs : List (Int × Int)} : opNe (.tup (qs.map prD)) (.tup []) = some (.bl (!qs.isEmpty)) := by
 show (if fit 60 (.tup (qs.map prD)) && fit 60 (.tup []) then some (D.bl (!eqD (.tup (qs.map prD)) (.tup []))) else none) = _
 rw [show fit 60 (.tup (qs.map prD)) = true from g5b, show fit 60 (.tup []) = true from rfl]
 cases qs <;> rfl
theorem o9d {ws vs : List Str} {g : M D} {s0 : Sl} {r : List Sl} (hg : g (s0 :: .own (sL ws) :: r) = .ok (sL vs) (s0 :: .own (sL ws) :: r)) (hl : ws.length + vs.length ≤ 90000) : eCatO 1 g (s0 :: .own (sL ws) :: r) = .ok (sL (ws ++ vs)) (s0 :: .own (sL ws) :: r) := by
 unfold eCatO
 rw [hg]
 show (if (ws.map D.str).length + (vs.map D.str).length ≤ 100000 then R.ok (D.lst (ws.map D.str ++ vs.map D.str)) _ else .bad) = _
 rw [if_pos (by rw [g8e, g8e]; omega), ← i4e]
 rfl
theorem g4e {ws : List Str} {w : Str} (h : ws.length ≤ 90000) : opAppend (sL ws) [.str w] = some (.non, sL (ws ++ [w])) := by
 show (if (ws.map D.str).length ≤ 100000 then _ else _) = _
 rw [if_pos (by rw [g8e]; omega)]
 unfold sL
 rw [i4e]
 rfl
section
variable {s0 s2 s3 s4 s5 s6 s7 s8 s9 s10 : Sl}
def lqE : M D := (eCatO 1 (eLst (aCons (eFn opStr (aCons (eVar 8) aNil)) (aCons (eFn opStr (aCons (eVar 9) aNil)) aNil))))
def lqB : MS := (sDrop [8, 9] (sSetN 1 lqE))
theorem h9d : ∀ {qs : List (Int × Int)} {acc : List Str}, (∀ q ∈ qs, nmOk q.1 ∧ nmOk q.2) → acc.length + 2 * qs.length ≤ 90000 →
    loop (gT (gsCons (gN 8) (gsCons (gN 9) gsNil))) lqB (qs.map prD) [s0, .own (sL acc), s2, s3, s4, s5, s6, s7, .no, .no, s10] = .nx [s0, .own (sL (acc ++ wQ qs)), s2, s3, s4, s5, s6, s7, .no, .no, s10]
  | [], acc, _, _ => by unfold wQ; rw [l3e, h5e]; rfl
  | q :: qs, acc, h, hl => by
    rw [h0e] at hl
    have ih := h9d (qs := qs) (acc := acc ++ [nS q.1, nS q.2]) (fun x hx => h x (h2e _ hx)) (by rw [g9e]; show acc.length + 2 + _ ≤ _; omega)
    have e1 := x1b (h q h1e).1
    have e2 := x1b (h q h1e).2
    have k1 : lqE [s0, .own (sL acc), s2, s3, s4, s5, s6, s7, .val (.int q.1), .val (.int q.2), s10] = .ok (sL (acc ++ [nS q.1, nS q.2])) [s0, .own (sL acc), s2, s3, s4, s5, s6, s7, .val (.int q.1), .val (.int q.2), s10] := o9d (vs := [nS q.1, nS q.2]) (show _ = R.ok (D.lst [.str (nS q.1), .str (nS q.2)]) _ by simp! [e1, e2]) (by show acc.length + 2 ≤ _; omega)
    have hp : prD q = .tup [.int q.1, .int q.2] := rfl
    have st : stp (gT (gsCons (gN 8) (gsCons (gN 9) gsNil))) lqB (prD q) [s0, .own (sL acc), s2, s3, s4, s5, s6, s7, .no, .no, s10] = .nx [s0, .own (sL (acc ++ [nS q.1, nS q.2])), s2, s3, s4, s5, s6, s7, .no, .no, s10] := by
      rw [hp]
      clear ih h hp e1 e2
      exists sL (acc ++ [nS q.1, nS q.2]), A2
      exists sL acc, A1
      unfold lqB
      simp! [k4a, k1]
    rw [h3e, h7a, st, i3a]
    refine Eq.trans ih ?_
    unfold wQ
    rw [h4e, i8e]
def lfE : M D := (eCatO 1 (eLst (aCons (eC (.str "forbid")) (aCons (eC (.str "(")) aNil))))
def lfB : MS := (sDrop [2] (sSetN 1 (eBin opCat (eBin opCat lfE (eCall 1 5 d_law_net_words [] (aCons (eVar 2) aNil))) (eLst (aCons (eC (.str ")")) aNil)))))
theorem i0d : ∀ {fs : List Nt} {acc : List Str}, (∀ f ∈ fs, Good f.1 f.2) → acc.length + 4210 * fs.length ≤ 80000 →
    loop (gN 2) lfB (fs.map ntD) [s0, .own (sL acc), .no, s3, s4, s5, s6, s7, s8, s9, s10] = .nx [s0, .own (sL (acc ++ fs.flatMap wF)), .no, s3, s4, s5, s6, s7, s8, s9, s10]
  | [], acc, _, _ => by rw [l3e, h5e]; rfl
  | f :: fs, acc, h, hl => by
    rw [h0e] at hl
    have g := h f h1e
    have nl := h4d g
    have ih := i0d (fs := fs) (acc := acc ++ wF f) (fun x hx => h x (h2e _ hx)) (by rw [g9e]; omega)
    obtain ⟨ρ1, e1⟩ := h0a (TxN.nm g)
    rw [← g0d] at e1
    have wl := a2b g
    have k1 : lfE [s0, .own (sL acc), .val (netD f.1 f.2), s3, s4, s5, s6, s7, s8, s9, s10] = .ok (sL (acc ++ [("forbid" : Str), ("(" : Str)])) [s0, .own (sL acc), .val (netD f.1 f.2), s3, s4, s5, s6, s7, s8, s9, s10] := o9d (vs := [("forbid" : Str), ("(" : Str)]) (show _ = R.ok (D.lst [.str "forbid", .str "("]) _ by simp! []) (by show acc.length + 2 ≤ _; omega)
    have c1 : opCat (sL (acc ++ [("forbid" : Str), ("(" : Str)])) (sL (wN f.1 f.2)) = some (sL (acc ++ [("forbid" : Str), ("(" : Str)] ++ wN f.1 f.2)) := i6a (by rw [g9e]; show acc.length + 2 + _ ≤ _; omega)
    have c2 : opCat (sL (acc ++ [("forbid" : Str), ("(" : Str)] ++ wN f.1 f.2)) (.lst [.str ")"]) = some (sL (acc ++ wF f)) := by
      have c := i6a (a := acc ++ [("forbid" : Str), ("(" : Str)] ++ wN f.1 f.2) (b := [(")" : Str)]) (by rw [g9e, g9e]; show acc.length + 2 + _ + 1 ≤ _; omega)
      refine Eq.trans c ?_
      congr 2
      unfold wF br
      simp only [h4e, k4e, i0e]
    have hp : ntD f = netD f.1 f.2 := rfl
    have st : stp (gN 2) lfB (ntD f) [s0, .own (sL acc), .no, s3, s4, s5, s6, s7, s8, s9, s10] = .nx [s0, .own (sL (acc ++ wF f)), .no, s3, s4, s5, s6, s7, s8, s9, s10] := by
      rw [hp]
      clear ih h hp
      exists sL (acc ++ wF f), A2
      exists sL (acc ++ [("forbid" : Str), ("(" : Str)] ++ wN f.1 f.2), A4
      exists sL (acc ++ [("forbid" : Str), ("(" : Str)]), A3
      exists sL acc, A1
      exists sL (wN f.1 f.2), B2
      exists netD f.1 f.2, N1
      unfold lfB
      simp! [k4a, e1, k1, c1, c2]
    rw [h3e, h7a, st, i3a]
    refine Eq.trans ih ?_
    rw [h4e, i8e]
end
section
variable {r : Rl}
def lwX (r : Rl) : List Str := [("left" : Str), ("(" : Str)] ++ wN r.lp r.lt ++ [(")" : Str), ("keep" : Str), ("(" : Str), ("points" : Str)]
def lwY (r : Rl) : List Str := lwX r ++ wI r.kp
def lwZ (r : Rl) : List Str := lwY r ++ [("ties" : Str)] ++ wI r.kt
def lwW (r : Rl) : List Str := lwZ r ++ [(")" : Str), ("right" : Str), ("(" : Str)] ++ wN r.rp r.rt
theorem e7e : lwW r ++ [(")" : Str)] = wA r := by
 unfold lwW lwZ lwY lwX wA wA2 wA1 wK br
 simp only [h4e, k4e, i0e]
theorem p0d {qs : List (Int × Int)} (h : qs ≠ []) {a : List Str} : a ++ [("loose" : Str), ("(" : Str)] ++ wQ qs ++ [(")" : Str)] = a ++ wL qs := by
 unfold wL br
 rw [if_neg h]
 simp only [h4e, k4e, i0e]
def lwE1 : M D := (eCatO 1 (eLst (aCons (eC (.str "ties")) aNil)))
def lwE2 : M D := (eCatO 1 (eLst (aCons (eC (.str "loose")) (aCons (eC (.str "(")) aNil))))
theorem l3c (h : RwOk r) : ∃ ρ', d_law_rule_words [.val (rlD r), .no, .no, .no, .no, .no, .no, .no, .no, .no, .no] = .rtN (sL (wR r)) ρ' := by
 have la := a2b h.gl
 have lb := a2b h.gr
 have lc := h.lk
 have lq := h.ql
 have lf := h.fl
 have ld := @h7d r.qs
 have w1 := @p3b r
 obtain ⟨ρ1, n1⟩ := h0a (TxN.nm h.gl)
 obtain ⟨ρ2, n2⟩ := h0a (TxN.nm h.gr)
 rw [← g0d] at n1 n2
 have s1 := fun ρ (hf : isFree ρ[10]? = true) => x5b (i := 10) (xs := r.kp) (ρ := ρ) hf lc.1 fun x hx => f8c (h.kp x hx)
 have s2 := fun ρ (hf : isFree ρ[10]? = true) => x5b (i := 10) (xs := r.kt) (ρ := ρ) hf lc.2 fun x hx => f8c (h.kt x hx)
 have e0 : (lwX r).length = (wN r.lp r.lt).length + 6 := by
  unfold lwX
  rw [g9e, g9e]
  show 2 + _ + 4 = _
  omega
 have e1 : (lwY r).length = (wN r.lp r.lt).length + 6 + r.kp.length := by
  unfold lwY
  rw [g9e, e0, p5a]
 have e2 : (lwZ r).length = (wN r.lp r.lt).length + 7 + r.kp.length + r.kt.length := by
  unfold lwZ
  rw [g9e, g9e, e1, p5a]
  show _ + 1 + _ = _
  omega
 have e3 : (lwW r).length = (wN r.lp r.lt).length + 10 + r.kp.length + r.kt.length + (wN r.rp r.rt).length := by
  unfold lwW
  rw [g9e, g9e, e2]
  show _ + 3 + _ = _
  omega
 have d1 : opCat (.lst [.str "left", .str "("]) (sL (wN r.lp r.lt)) = some (sL ([("left" : Str), ("(" : Str)] ++ wN r.lp r.lt)) := i6a (a := [("left" : Str), ("(" : Str)]) (by show 2 + _ ≤ _; omega)
 have d2 : opCat (sL ([("left" : Str), ("(" : Str)] ++ wN r.lp r.lt)) (.lst [.str ")", .str "keep", .str "(", .str "points"]) = some (sL (lwX r)) := i6a (b := [(")" : Str), ("keep" : Str), ("(" : Str), ("points" : Str)]) (by rw [g9e]; show 2 + _ + 4 ≤ _; omega)
 have d3 : opCat (sL (lwX r)) (.lst ((wI r.kp).map .str)) = some (sL (lwY r)) := i6a (b := wI r.kp) (by rw [e0, p5a]; omega)
 have d4 : opCat (sL (lwY r ++ [("ties" : Str)])) (.lst ((wI r.kt).map .str)) = some (sL (lwZ r)) := i6a (b := wI r.kt) (by rw [g9e, e1, p5a]; show _ + 1 + _ ≤ _; omega)
 have d5 : opCat (sL (lwZ r)) (.lst [.str ")", .str "right", .str "("]) = some (sL (lwZ r ++ [(")" : Str), ("right" : Str), ("(" : Str)])) := i6a (b := [(")" : Str), ("right" : Str), ("(" : Str)]) (by rw [e2]; show _ + 3 ≤ _; omega)
 have d6 : opCat (sL (lwZ r ++ [(")" : Str), ("right" : Str), ("(" : Str)])) (sL (wN r.rp r.rt)) = some (sL (lwW r)) := i6a (by rw [g9e, e2]; show _ + 3 + _ ≤ _; omega)
 have d7 : opCat (sL (lwW r)) (.lst [.str ")"]) = some (sL (wA r)) := by
  rw [← e7e]
  exact i6a (b := [(")" : Str)]) (by rw [e3]; show _ + 1 ≤ _; omega)
 have k1 := fun (s0 s2 s3 s4 s5 s6 s7 s8 s9 s10 : Sl) => (o9d (g := eLst (aCons (eC (.str "ties")) aNil)) (ws := lwY r) (s0 := s0) (r := [s2, s3, s4, s5, s6, s7, s8, s9, s10]) (vs := [("ties" : Str)]) (show _ = R.ok (D.lst [.str "ties"]) _ by simp! []) (by rw [e1]; show _ + 1 ≤ _; omega))
 have k2 := fun (s0 s2 s3 s4 s5 s6 s7 s8 s9 s10 : Sl) => (o9d (g := eLst (aCons (eC (.str "loose")) (aCons (eC (.str "(")) aNil))) (ws := wA r) (s0 := s0) (r := [s2, s3, s4, s5, s6, s7, s8, s9, s10]) (vs := [("loose" : Str), ("(" : Str)]) (show _ = R.ok (D.lst [.str "loose", .str "("]) _ by simp! []) (by rw [p3b]; show _ + 2 ≤ _; omega))
 have il : ∀ ws, isLst (sL ws) = true := fun _ => rfl
 have ne := @y0c r.qs
 have lo1 := fun s0 s3 s4 s5 s6 s7 s8 s9 s10 => i0d (s0 := s0) (s3 := s3) (s4 := s4) (s5 := s5) (s6 := s6) (s7 := s7) (s8 := s8) (s9 := s9) (s10 := s10) (fs := r.fs) (acc := wA r ++ wL r.qs) h.ff (by rw [g9e]; omega)
 rw [show wA r ++ wL r.qs ++ r.fs.flatMap wF = wR r from rfl] at lo1
 have lo2 := fun s0 s2 s3 s4 s5 s6 s7 s10 => h9d (s0 := s0) (s2 := s2) (s3 := s3) (s4 := s4) (s5 := s5) (s6 := s6) (s7 := s7) (s10 := s10) (qs := r.qs) (acc := wA r ++ [("loose" : Str), ("(" : Str)]) (fun q hq => ⟨f8c (h.qq q hq).1, f8c (h.qq q hq).2⟩) (by rw [g9e]; show _ + 2 + _ ≤ _; omega)
 unfold lfB lfE at lo1
 unfold lqB lqE at lo2
 have goal : ∃ ρ', d_law_rule_words [.val (rlD r), .no, .no, .no, .no, .no, .no, .no, .no, .no, .no] = .rtN (sL (wR r)) ρ' := by
  refine b0d ?_
  unfold rlD
  by_cases hq : r.qs = []
  ·have f7 : wA r ++ wL r.qs = wA r := by unfold wL; rw [if_pos hq, h5e]
   rw [f7] at lo1
   rw [show r.qs.isEmpty = true by rw [hq]; rfl] at ne
   have il9 := il (wA r)
   clear h la lb lc ld lq lf w1 f7 hq e0 e1 e2 e3 lo2 k2 il
   exists sL (wR r), W9
   exists sL (wA r), W1
   exists sL (lwW r), W2
   exists sL (lwZ r ++ [(")" : Str), ("right" : Str), ("(" : Str)]), W3
   exists sL (lwZ r), W4
   exists sL (lwY r ++ [("ties" : Str)]), W5
   exists sL (lwY r), W6
   exists sL (lwX r), W7
   exists sL ([("left" : Str), ("(" : Str)] ++ wN r.lp r.lt), W8
   exists sL (wN r.rp r.rt), V2
   exists sL (wN r.lp r.lt), V3
   exists (wI r.kp).map D.str, V6
   exists (wI r.kt).map D.str, V7
   exists r.kp.map D.int, U1
   exists r.kt.map D.int, U2
   exists r.qs.map prD, U3
   exists r.fs.map ntD, U4
   exists netD r.lp r.lt, U5
   exists netD r.rp r.rt, U6
   unfold d_law_rule_words
   simp! [n1, n2, s1, s2, d1, d2, d3, d4, d5, d6, d7, k1, ne, lo1]
  ·have ap := g4e (ws := wA r ++ [("loose" : Str), ("(" : Str)] ++ wQ r.qs) (w := (")" : Str)) (by rw [g9e, g9e, t4c]; show _ + 2 + _ ≤ _; omega)
   rw [p0d hq] at ap
   rw [show r.qs.isEmpty = false by cases hh : r.qs with | nil => exact (hq hh).elim | cons a b => rfl] at ne
   have il9 := il (wA r ++ [("loose" : Str), ("(" : Str)] ++ wQ r.qs)
   clear h la lb lc ld lq lf w1 hq e0 e1 e2 e3 il
   exists sL (wR r), W9
   exists sL (wA r ++ wL r.qs), X0
   exists sL (wA r ++ [("loose" : Str), ("(" : Str)] ++ wQ r.qs), X1
   exists sL (wA r ++ [("loose" : Str), ("(" : Str)]), X2
   exists sL (wA r), W1
   exists sL (lwW r), W2
   exists sL (lwZ r ++ [(")" : Str), ("right" : Str), ("(" : Str)]), W3
   exists sL (lwZ r), W4
   exists sL (lwY r ++ [("ties" : Str)]), W5
   exists sL (lwY r), W6
   exists sL (lwX r), W7
   exists sL ([("left" : Str), ("(" : Str)] ++ wN r.lp r.lt), W8
   exists sL (wN r.rp r.rt), V2
   exists sL (wN r.lp r.lt), V3
   exists (wI r.kp).map D.str, V6
   exists (wI r.kt).map D.str, V7
   exists r.kp.map D.int, U1
   exists r.kt.map D.int, U2
   exists r.qs.map prD, U3
   exists r.fs.map ntD, U4
   exists netD r.lp r.lt, U5
   exists netD r.rp r.rt, U6
   unfold d_law_rule_words
   simp! [n1, n2, s1, s2, d1, d2, d3, d4, d5, d6, d7, k1, k2, ne, lo1, lo2, il9, ap]
 exact goal
end
open TL
theorem e8e {m : Nat} {x : Str} (h : ∃ c ∈ tl x, ¬ (48 ≤ c ∧ c ≤ 57)) : (nS (m : Nat) == x) = false := by
 rw [beq_eq_false_iff_ne]
 intro e
 obtain ⟨c, hc, n⟩ := h
 rw [← e, f3c] at hc
 exact n (numL_digits m c hc)
theorem t6c {ws : List Str} {k : Nat} {a b : List Str} (h : ws.drop k = a ++ b) : ws.drop (k + a.length) = b := by
 rw [← List.drop_drop, h, List.drop_left]
def riT : M Bool := (tVal (eBin opNe (eView (eCall 1 0 d_Reader_next_word [] (aMeth "Reader" "next_word" (eVar 0) aNil))) (eVar 1)))
def riB : MS := (sExpr (eMut isLst 2 opAppend (aCons (eCallO 1 2 d_Reader_read_int 0 (oMeth "Reader" "read_int" 0 aNil)) aNil)))
theorem g5e : d_Reader_read_ints = (sSeq (sSetN 2 (eLst aNil))
  (sSeq (sWhile fuel riT riB)
  (sSeq (sExpr (eCallO 2 0 d_Reader_want 0 (oMeth "Reader" "want" 0 (aCons (eVar 1) aNil))))
  (sRet (eView (eFn opTuple (aCons (eVar 2) aNil))))))) := rfl
section
variable {ws : List Str} {k : Nat} {x : Str}
theorem i1d (hs : ∀ w ∈ ws, PyData.strOk w = true) (hx : PyData.strOk x = true) {L : D} : riT [.bor (rdD ws k), .val (.str x), .own L] = .ok (!((ws[k]?).getD ("" : Str) == x)) [.bor (rdD ws k), .val (.str x), .own L] := by
 obtain ⟨ρ', e, _, ob⟩ := f5c (k := k) hs hx
 have q := d6d (e1e (k := k) hs) hx
 exists (!((ws[k]?).getD ("" : Str) == x)), b
 exists (ws[k]?).getD ("" : Str), w
 exists rdD ws k, RD
 unfold riT
 simp! [e, q, ob]
theorem y6d (hs : ∀ w ∈ ws, PyData.strOk w = true) {i : Int} {r : List Str} (h : ws.drop k = nS i :: r) (hp : pnOk i) {acc : List Int} (ha : acc.length ≤ 2000) :
  riB [.bor (rdD ws k), .val (.str x), .own (.lst (acc.map .int))] = .nx [.bor (rdD ws (k + 1)), .val (.str x), .own (.lst ((acc ++ [i]).map .int))] := by
 obtain ⟨m, em⟩ : ∃ m : Nat, i = (m : Nat) := ⟨i.toNat, by have := hp.1; omega⟩
 subst em
 obtain ⟨ρ2, e2⟩ := g4d (b5a h).1 (by have := hp.2; omega)
 have o2 := fun r => @f6c ws k r
 have ap : opAppend (.lst (acc.map .int)) [.int (m : Nat)] = some (.non, .lst ((acc ++ [(m : Int)]).map .int)) := by
  show (if (acc.map D.int).length ≤ 100000 then _ else _) = _
  rw [if_pos (by rw [g8e]; omega), i4e]
  rfl
 have il : isLst (.lst (acc.map .int)) = true := rfl
 clear h hs hp
 exists (D.lst ((acc ++ [(m : Int)]).map .int)), A2
 exists (D.lst (acc.map .int)), A1
 exists (D.int (m : Nat)), MD
 exists rdD ws (k + 1), R1
 exists rdD ws k, R0
 unfold riB
 simp! [o2, e2, ap, il]
theorem i2d (hs : ∀ w ∈ ws, PyData.strOk w = true) (hx : PyData.strOk x = true) (hd : ∃ c ∈ tl x, ¬ (48 ≤ c ∧ c ≤ 57)) {rest : List Str} : ∀ {m k : Nat} {xs acc : List Int}, ws.drop k = wI xs ++ x :: rest → (∀ i ∈ xs, pnOk i) → xs.length < m → acc.length + xs.length ≤ 2000 →
    wloop riT riB m [.bor (rdD ws k), .val (.str x), .own (.lst (acc.map .int))] = .nx [.bor (rdD ws (k + xs.length)), .val (.str x), .own (.lst ((acc ++ xs).map .int))]
  | 0, k, xs, acc, _, _, h, _ => by omega
  | m + 1, k, [], acc, h, _, _, _ => by
    have h : ws.drop k = x :: rest := h
    unfold wloop
    rw [i1d hs hx, (b5a h).1, l9e, beq_self_eq_true]
    show O.nx _ = O.nx _
    rw [h5e]
    rfl
  | m + 1, k, i :: xs, acc, h, hp, hm, ha => by
    rw [h0e] at hm ha
    have h : ws.drop k = nS i :: (wI xs ++ x :: rest) := h
    have hi := hp i h1e
    obtain ⟨n, en⟩ : ∃ n : Nat, i = (n : Nat) := ⟨i.toNat, by have := hi.1; omega⟩
    unfold wloop
    rw [i1d hs hx, (b5a h).1, l9e, show (nS i == x) = false by rw [en]; exact e8e hd]
    show (match riB _ with | .nx ρ'' => wloop riT riB m ρ'' | o => o) = _
    rw [y6d hs h hi (by omega)]
    dsimp only
    have ih := i2d hs hx hd (m := m) (k := k + 1) (xs := xs) (acc := acc ++ [i]) (b5a h).2 (fun q hq => hp q (h2e _ hq)) (by omega) (by rw [g9e, h8e]; omega)
    rw [ih, h4e, h0e, show k + 1 + xs.length = k + (xs.length + 1) by omega]
    rfl
theorem s0a (hs : ∀ w ∈ ws, PyData.strOk w = true) (hd : ∃ c ∈ tl x, ¬ (48 ≤ c ∧ c ≤ 57)) {rest : List Str} {xs : List Int} (h : ws.drop k = wI xs ++ x :: rest) (hp : ∀ i ∈ xs, pnOk i) (hl : xs.length ≤ 1000) :
  (∃ r, d_Reader_read_ints [.bor (rdD ws k), .val (.str x), .no] = .rt (.tup (xs.map .int)) (.bor (rdD ws (k + xs.length + 1)) :: r)) ∧ ws.drop (k + xs.length + 1) = rest := by
 have h2 := t6c h
 rw [p5a] at h2
 have hw := (b5a h2).1
 have hx := g3a hs hw
 refine ⟨?_, (b5a h2).2⟩
 have lp := i2d hs hx hd (m := fuel) (k := k) (xs := xs) (acc := []) h hp (q2a (by omega)) (by rw [i5e]; omega)
 rw [i0e] at lp
 have wt := n1a hw hx
 have o1 := fun fa r => @k0a ws (k + xs.length) fa r
 have tp : opTuple [.lst (xs.map .int)] = some (.tup (xs.map .int)) := rfl
 have pl : plain (.tup (xs.map .int)) = true := by rw [f7a]; exact k9b
 have lp : wloop riT riB fuel [.bor (rdD ws k), .val (.str x), .own (.lst [])] = _ := lp
 rw [g5e]
 refine ⟨[.val (.str x), .own (.lst (xs.map .int))], ?_⟩
 clear h hs hp h2 hw hx hd
 exists (D.tup (xs.map .int)), TP
 exists (D.lst (xs.map .int)), LP
 exists rdD ws (k + xs.length + 1), R2
 exists rdD ws (k + xs.length), R1
 exists rdD ws k, R0
 exists riT, T
 exists riB, B
 simp! [j7a, lp, tp, pl, wt, o1]
theorem l4c {fa : M (List D)} {r : List Sl} : oMeth "Reader" "read_ints" 0 fa (.bor (rdD ws k) :: r) = oHere fa (.bor (rdD ws k) :: r) := rfl
theorem x6b {fa : M (List D)} {r : List Sl} : oMeth "Reader" "read_net_in" 0 fa (.bor (rdD ws k) :: r) = oHere fa (.bor (rdD ws k) :: r) := rfl
theorem y7d {r : List Sl} : oMeth "Reader" "read_net" 0 aNil (.bor (rdD ws k) :: r) = oHere aNil (.bor (rdD ws k) :: r) := rfl
theorem y8d {r : List Sl} : oMeth "Reader" "read_kept" 0 aNil (.bor (rdD ws k) :: r) = oHere aNil (.bor (rdD ws k) :: r) := rfl
theorem p1d {r : List Sl} : oMeth "Reader" "read_loose" 0 aNil (.bor (rdD ws k) :: r) = oHere aNil (.bor (rdD ws k) :: r) := rfl
theorem l5c (hs : ∀ w ∈ ws, PyData.strOk w = true) {rest : List Str} {kp kt : List Int} (h : ws.drop k = ("keep" : Str) :: ("(" : Str) :: ("points" : Str) :: (wI kp ++ ("ties" : Str) :: (wI kt ++ (")" : Str) :: rest))) (h1 : ∀ i ∈ kp, pnOk i) (h2 : ∀ i ∈ kt, pnOk i) (l1 : kp.length ≤ 1000) (l2 : kt.length ≤ 1000) :
  ∃ k', (∃ r, d_Reader_read_kept [.bor (rdD ws k), .no] = .rt (.tup [.tup (kp.map .int), .tup (kt.map .int)]) (.bor (rdD ws k') :: r)) ∧ ws.drop k' = rest := by
 obtain ⟨a1, h⟩ := b5a h
 obtain ⟨a2, h⟩ := b5a h
 obtain ⟨a3, h⟩ := b5a h
 have e1 := n1a a1 (g3a hs a1)
 have e2 := n1a a2 (g3a hs a2)
 have e3 := n1a a3 (g3a hs a3)
 obtain ⟨⟨r4, e4⟩, h⟩ := s0a hs ⟨116, by decide +kernel, by omega⟩ h h1 l1
 obtain ⟨⟨r5, e5⟩, h⟩ := s0a hs ⟨41, by decide +kernel, by omega⟩ h h2 l2
 refine ⟨_, ⟨[.val (.tup (kp.map .int))], ?_⟩, h⟩
 have o1 := fun fa r => @k0a ws k fa r
 have o2 := fun fa r => @k0a ws (k + 1) fa r
 have o3 := fun fa r => @k0a ws (k + 1 + 1) fa r
 have o4 := fun fa r => @l4c ws (k + 1 + 1 + 1) fa r
 have o5 := fun fa r => @l4c ws (k + 1 + 1 + 1 + kp.length + 1) fa r
 clear h a1 a2 a3 hs h1 h2
 exists (D.tup (kp.map .int)), TP
 exists (D.tup (kt.map .int)), TT
 exists rdD ws (k + 1 + 1 + 1 + kp.length + 1 + kt.length + 1), R5
 exists rdD ws (k + 1 + 1 + 1 + kp.length + 1), R4
 exists rdD ws (k + 1 + 1 + 1), R3
 exists rdD ws (k + 1 + 1), R2
 exists rdD ws (k + 1), R1
 exists rdD ws k, R0
 unfold d_Reader_read_kept
 simp! [o1, e1, o2, e2, o3, e3, o4, e4, o5, e5]
theorem l7b (hs : ∀ w ∈ ws, PyData.strOk w = true) {rest : List Str} {ps : List P2} {ts : List T4} (h : ws.drop k = x :: ("(" : Str) :: (wN ps ts ++ (")" : Str) :: rest)) (g : Good ps ts) :
  ∃ k', (∃ r, d_Reader_read_net_in [.bor (rdD ws k), .val (.str x), .no] = .rt (netD ps ts) (.bor (rdD ws k') :: r)) ∧ ws.drop k' = rest := by
 obtain ⟨a1, h⟩ := b5a h
 obtain ⟨a2, h⟩ := b5a h
 have e1 := n1a a1 (g3a hs a1)
 have e2 := n1a a2 (g3a hs a2)
 obtain ⟨r3, e3⟩ := p1b hs (rest := (")" : Str) :: rest) (by show ((some (")" : Str)).getD ("" : Str) == ("point" : Str)) = false; decide +kernel) (by show ((some (")" : Str)).getD ("" : Str) == ("tie" : Str)) = false; decide +kernel) h (TxN.pn g)
 have h4 := t6c h
 obtain ⟨a4, h⟩ := b5a h4
 have e4 := n1a a4 (g3a hs a4)
 refine ⟨_, ⟨[.val (.str x), .val (netD ps ts)], ?_⟩, h⟩
 have o1 := fun fa r => @k0a ws k fa r
 have o2 := fun fa r => @k0a ws (k + 1) fa r
 have o3 := fun r => @y7d ws (k + 1 + 1) r
 have o4 := fun fa r => @k0a ws (k + 1 + 1 + (wN ps ts).length) fa r
 clear h a1 a2 a4 h4 hs g
 exists netD ps ts, ND
 exists rdD ws (k + 1 + 1 + (wN ps ts).length + 1), R4
 exists rdD ws (k + 1 + 1 + (wN ps ts).length), R3
 exists rdD ws (k + 1 + 1), R2
 exists rdD ws (k + 1), R1
 exists rdD ws k, R0
 unfold d_Reader_read_net_in
 simp! [o1, e1, o2, e2, o3, e3, o4, e4]
end
def fl2 (qs : List (Int × Int)) : List Int := qs.flatMap fun q => [q.1, q.2]
theorem e9e : ∀ {qs : List (Int × Int)}, wQ qs = wI (fl2 qs)
  | [] => rfl
  | q :: qs => by
    have := @e9e qs
    unfold wQ fl2 wI at *
    rw [i8e, i8e, this, i4e]
    rfl
theorem l6c : ∀ {qs : List (Int × Int)}, (fl2 qs).length = 2 * qs.length
  | [] => rfl
  | q :: qs => by
    have := @l6c qs
    unfold fl2 at *
    rw [i8e, g9e, this, h0e]
    show 2 + _ = 2 * (qs.length + 1)
    omega
theorem i3d : ∀ {qs : List (Int × Int)} {k : Nat} {q : Int × Int}, qs[k]? = some q → (fl2 qs)[2 * k]? = some q.1 ∧ (fl2 qs)[2 * k + 1]? = some q.2
 | [], k, q, h => by cases h
 | p :: qs, 0, q, h => by cases h; exact ⟨rfl, rfl⟩
 | p :: qs, k + 1, q, h => i3d (qs := qs) (k := k) h
theorem f0e {n : Nat} (h : n = 1 ∨ n = 2 ∨ n = 3) : rng3 [.int 0, .int ((2 * n : Nat)), .int 2] = some ((List.range n).map fun k => D.int (0 + (k : Nat) * 2)) := by
 rcases h with e | e | e <;> subst e <;> rfl
section
variable {ws : List Str} {k : Nat}
theorem g1c (hs : ∀ w ∈ ws, PyData.strOk w = true) {rest : List Str} {qs : List (Int × Int)} (h : ws.drop k = ("loose" : Str) :: ("(" : Str) :: (wQ qs ++ (")" : Str) :: rest)) (hq : ∀ q ∈ qs, pnOk q.1 ∧ pnOk q.2) (hn : qs ≠ []) (hl : qs.length ≤ 3) :
  ∃ k', (∃ r, d_Reader_read_loose [.bor (rdD ws k), .no, .no] = .rt (.tup (qs.map prD)) (.bor (rdD ws k') :: r)) ∧ ws.drop k' = rest := by
 obtain ⟨a1, h⟩ := b5a h
 obtain ⟨a2, h⟩ := b5a h
 have e1 := n1a a1 (g3a hs a1)
 have e2 := n1a a2 (g3a hs a2)
 rw [e9e] at h
 have n0 : 0 < qs.length := by cases qs with | nil => exact (hn rfl).elim | cons a b => simp
 obtain ⟨⟨r3, e3⟩, h⟩ := s0a hs ⟨41, by decide +kernel, by omega⟩ h (fun i hi => by
  obtain ⟨q, h1, h2⟩ := List.mem_flatMap.mp hi
  simp only [k1e, j4e, or_false] at h2
  rcases h2 with e | e <;> rw [e]
  ·exact (hq q h1).1
  ·exact (hq q h1).2) (by rw [l6c]; omega)
 refine ⟨_, ⟨[.val (.tup ((fl2 qs).map .int)), .no], ?_⟩, h⟩
 have l1 : opLen [.tup ((fl2 qs).map .int)] = some (.int ((2 * qs.length : Nat))) := by rw [g1a, g8e, l6c]
 have q0 : opEq (.int ((2 * qs.length : Nat))) (.int 0) = some (.bl false) := by
  rw [z3a]
  congr 2
  rw [beq_eq_false_iff_ne]
  omega
 have m0 : opMod (.int ((2 * qs.length : Nat))) (.int 2) = some (.int 0) := by
  rw [x6a, if_pos (by decide)]
  congr 2
  omega
 have rg := f0e (n := qs.length) (by omega)
 have cm := v3a (i := 2) (e := eTup (aCons (eBin opIx (eVar 1) (eVar 2)) (aCons (eBin opIx (eVar 1) (eBin opAdd (eVar 2) (eC (.int 1)))) aNil))) (g := fun k : Nat => D.int (0 + (k : Nat) * 2)) (f := fun k : Nat => prD (qs.getD k (0, 0))) (xs := List.range qs.length) (ρ := [.bor (rdD ws (k + 1 + 1 + (fl2 qs).length + 1)), .val (.tup ((fl2 qs).map .int)), .no]) rfl (by rw [j3e]; omega) (fun j hj => by
  have hj := List.mem_range.mp hj
  obtain ⟨q, eq⟩ : ∃ q, qs[j]? = some q := ⟨_, h7e hj⟩
  have g := i3d eq
  have i1 : opIx (.tup ((fl2 qs).map .int)) (.int (0 + (j : Nat) * 2)) = some (.int q.1) := by
   show atI ((fl2 qs).map D.int) (0 + (j : Nat) * 2) = _
   rw [show (0 + ((j : Nat) : Int) * 2) = ((2 * j : Nat) : Int) by omega]
   exact atI_nat (by rw [i3e, g.1]; rfl)
  have i2 : opIx (.tup ((fl2 qs).map .int)) (.int (0 + (j : Nat) * 2 + 1)) = some (.int q.2) := by
   show atI ((fl2 qs).map D.int) (0 + (j : Nat) * 2 + 1) = _
   rw [show (0 + ((j : Nat) : Int) * 2 + 1) = ((2 * j + 1 : Nat) : Int) by omega]
   exact atI_nat (by rw [i3e, g.2]; rfl)
  have hp : prD (qs.getD j (0, 0)) = .tup [.int q.1, .int q.2] := by
   rw [j1e, eq]
   rfl
  rw [hp]
  clear h e1 e2 e3 l1 q0 m0 rg hp
  exists (0 + ((j : Nat) : Int) * 2), i
  exists D.tup ((fl2 qs).map .int), TD
  exists rdD ws (k + 1 + 1 + (fl2 qs).length + 1), R3
  simp! [i1, i2])
 have fin : ((List.range qs.length).map fun k : Nat => prD (qs.getD k (0, 0))) = qs.map prD := by
  apply List.ext_getElem?
  intro j
  rw [i3e, i3e]
  by_cases hj : j < qs.length
  ·rw [h7e (by rw [j3e]; exact hj), List.getElem_range]
   show some (prD (qs.getD j (0, 0))) = _
   rw [j1e, h7e hj]
   rfl
  ·rw [j7e (by rw [j3e]; omega), j7e (by omega)]
   rfl
 rw [fin] at cm
 have tp : opTuple [.lst (qs.map prD)] = some (.tup (qs.map prD)) := rfl
 have o1 := fun fa r => @k0a ws k fa r
 have o2 := fun fa r => @k0a ws (k + 1) fa r
 have o3 := fun fa r => @l4c ws (k + 1 + 1) fa r
 clear h a1 a2 hs hq hn hl fin
 exists (D.tup (qs.map prD)), QD
 exists (qs.map prD), QL
 exists ((List.range qs.length).map fun k : Nat => D.int (0 + (k : Nat) * 2)), RG
 exists (D.int ((2 * qs.length : Nat))), LN
 exists (D.tup ((fl2 qs).map .int)), TD
 exists rdD ws (k + 1 + 1 + (fl2 qs).length + 1), R3
 exists rdD ws (k + 1 + 1), R2
 exists rdD ws (k + 1), R1
 exists rdD ws k, R0
 unfold d_Reader_read_loose
 simp! [o1, e1, o2, e2, o3, e3, l1, q0, m0, rg, cm, tp, v5c]
end
open TL
def rfT : M Bool := (tVal (eBin opEq (eView (eCall 1 0 d_Reader_next_word [] (aMeth "Reader" "next_word" (eVar 0) aNil))) (eC (.str "forbid"))))
def rfB : MS := (sExpr (eMut isLst 5 opAppend (aCons (eCallO 2 1 d_Reader_read_net_in 0 (oMeth "Reader" "read_net_in" 0 (aCons (eC (.str "forbid")) aNil))) aNil)))
section
variable {ws : List Str} {k : Nat} {s1 s2 s3 s4 : Sl}
theorem i4d (hs : ∀ w ∈ ws, PyData.strOk w = true) {L : D} : rfT [.bor (rdD ws k), s1, s2, s3, s4, .own L] = .ok ((ws[k]?).getD ("" : Str) == ("forbid" : Str)) [.bor (rdD ws k), s1, s2, s3, s4, .own L] := by
 obtain ⟨ρ', e, q, ob⟩ := f5c (k := k) hs (x := "forbid") (by decide +kernel)
 exists ((ws[k]?).getD ("" : Str) == ("forbid" : Str)), b
 exists (ws[k]?).getD ("" : Str), w
 exists rdD ws k, RD
 unfold rfT
 simp! [e, q, ob]
theorem l7c {f : Nt} {r : List Str} : wF f ++ r = ("forbid" : Str) :: ("(" : Str) :: (wN f.1 f.2 ++ (")" : Str) :: r) := by
 unfold wF br
 simp only [h4e, k4e, i0e]
theorem y9d (hs : ∀ w ∈ ws, PyData.strOk w = true) {f : Nt} {r : List Str} (h : ws.drop k = wF f ++ r) (g : Good f.1 f.2) {acc : List Nt} (ha : acc.length ≤ 1000) :
  ∃ k', rfB [.bor (rdD ws k), s1, s2, s3, s4, .own (.lst (acc.map ntD))] = .nx [.bor (rdD ws k'), s1, s2, s3, s4, .own (.lst ((acc ++ [f]).map ntD))] ∧ ws.drop k' = r := by
 rw [l7c] at h
 obtain ⟨k', ⟨r1, e1⟩, h⟩ := l7b hs h g
 refine ⟨k', ?_, h⟩
 have o1 := fun fa r => @x6b ws k fa r
 have ap : opAppend (.lst (acc.map ntD)) [netD f.1 f.2] = some (.non, .lst ((acc ++ [f]).map ntD)) := by
  show (if (acc.map ntD).length ≤ 100000 then _ else _) = _
  rw [if_pos (by rw [g8e]; omega), i4e]
  rfl
 have il : isLst (.lst (acc.map ntD)) = true := rfl
 clear h hs g
 exists (D.lst ((acc ++ [f]).map ntD)), A2
 exists (D.lst (acc.map ntD)), A1
 exists netD f.1 f.2, ND
 exists rdD ws k', R1
 exists rdD ws k, R0
 unfold rfB
 simp! [o1, e1, ap, il]
theorem l8c (hs : ∀ w ∈ ws, PyData.strOk w = true) : ∀ {m k : Nat} {fs acc : List Nt}, ws.drop k = fs.flatMap wF → (∀ f ∈ fs, Good f.1 f.2) → fs.length < m → acc.length + fs.length ≤ 1000 →
    ∃ k', wloop rfT rfB m [.bor (rdD ws k), s1, s2, s3, s4, .own (.lst (acc.map ntD))] = .nx [.bor (rdD ws k'), s1, s2, s3, s4, .own (.lst ((acc ++ fs).map ntD))] ∧ ws.drop k' = []
  | 0, k, fs, acc, _, _, h, _ => by omega
  | m + 1, k, [], acc, h, _, _, _ => by
    have h : ws.drop k = [] := h
    refine ⟨k, ?_, h⟩
    unfold wloop
    rw [i4d hs, g7b h, show (([] : List Str)[0]?.getD ("" : Str) == ("forbid" : Str)) = false by decide +kernel]
    show O.nx _ = O.nx _
    rw [h5e]
  | m + 1, k, f :: fs, acc, h, hp, hm, ha => by
    rw [h0e] at hm ha
    rw [i8e] at h
    have h0 := h
    rw [l7c] at h0
    obtain ⟨k', e, h'⟩ := y9d (s1 := s1) (s2 := s2) (s3 := s3) (s4 := s4) hs h (hp f h1e) (acc := acc) (by omega)
    obtain ⟨k2, ih, h2⟩ := l8c hs (m := m) (k := k') (fs := fs) (acc := acc ++ [f]) h' (fun q hq => hp q (h2e _ hq)) (by omega) (by rw [g9e, h8e]; omega)
    refine ⟨k2, ?_, h2⟩
    unfold wloop
    rw [i4d hs, (b5a h0).1, l9e, beq_self_eq_true]
    dsimp only
    rw [e]
    dsimp only
    rw [ih, h4e]
    rfl
theorem g2c : ∀ {fs : List Nt}, plainL (fs.map ntD) = true
  | [] => e0a
  | f :: fs => by
    rw [h3e, c6a, g2c]
    show (plain (netD f.1 f.2) && true) = true
    rw [f1c]
    rfl
end
section
variable {r : Rl}
theorem p2d : wR r = ("left" : Str) :: ("(" : Str) :: (wN r.lp r.lt ++ (")" : Str) :: (("keep" : Str) :: ("(" : Str) :: ("points" : Str) :: (wI r.kp ++ ("ties" : Str) :: (wI r.kt ++ (")" : Str) :: (("right" : Str) :: ("(" : Str) :: (wN r.rp r.rt ++ (")" : Str) :: (wL r.qs ++ r.fs.flatMap wF))))))) := by
 unfold wR wA wA2 wA1 wK br
 simp only [h4e, k4e, i0e]
theorem p3d {fs : List Nt} : (((fs.flatMap wF)[0]?).getD ("" : Str) == ("loose" : Str)) = false := by
  cases fs with
  | nil => decide +kernel
  | cons f fs =>
    rw [i8e, l7c]
    show ((some ("forbid" : Str)).getD ("" : Str) == ("loose" : Str)) = false
    decide +kernel
theorem z0d {qs : List (Int × Int)} (h : qs ≠ []) {r : List Str} : wL qs ++ r = ("loose" : Str) :: ("(" : Str) :: (wQ qs ++ (")" : Str) :: r) := by
 unfold wL br
 rw [if_neg h]
 simp only [h4e, k4e, i0e]
theorem l9c (h : RwOk r) (hs : ∀ w ∈ wR r, PyData.strOk w = true) : ∃ k, (wR r).length ≤ k ∧ ∃ s, d_Reader_read_rule [.bor (rdD (wR r) 0), .no, .no, .no, .no, .no] = .rt (rlD r) (.bor (rdD (wR r) k) :: s) := by
 obtain ⟨ws, ew⟩ : ∃ ws, ws = wR r := ⟨_, rfl⟩
 have h0 : ws.drop 0 = _ := (by rw [n0e, ew, p2d] : ws.drop 0 = ("left" : Str) :: ("(" : Str) :: (wN r.lp r.lt ++ (")" : Str) :: (("keep" : Str) :: ("(" : Str) :: ("points" : Str) :: (wI r.kp ++ ("ties" : Str) :: (wI r.kt ++ (")" : Str) :: (("right" : Str) :: ("(" : Str) :: (wN r.rp r.rt ++ (")" : Str) :: (wL r.qs ++ r.fs.flatMap wF))))))))
 rw [← ew] at hs ⊢
 obtain ⟨k1, ⟨r1, e1⟩, h1⟩ := l7b hs h0 h.gl
 obtain ⟨k2, ⟨r2, e2⟩, h2⟩ := l5c hs h1 h.kp h.kt h.lk.1 h.lk.2
 obtain ⟨k3, ⟨r3, e3⟩, h3⟩ := l7b hs h2 h.gr
 have o1 := fun fa r => @x6b ws 0 fa r
 have o2 := fun r => @y8d ws k1 r
 have o3 := fun fa r => @x6b ws k2 fa r
 have o4 := fun r => @p1d ws k3 r
 have ql := h.ql
 have fl := h.fl
 obtain ⟨ρ4, e4, q4, b4⟩ := f5c (k := k3) hs (x := "loose") (by decide +kernel)
 rw [g7b h3] at q4 e4
 have tp : opTuple [.lst (r.fs.map ntD)] = some (.tup (r.fs.map ntD)) := rfl
 have pl : plain (.tup (r.fs.map ntD)) = true := by rw [f7a]; exact g2c
 have key : ∃ k, ws.length ≤ k ∧ ∃ s, d_Reader_read_rule [.bor (rdD ws 0), .no, .no, .no, .no, .no] = .rt (.tup [netD r.lp r.lt, .tup [.tup (r.kp.map .int), .tup (r.kt.map .int)], netD r.rp r.rt, .tup (r.qs.map prD), .tup (r.fs.map ntD)]) (.bor (rdD ws k) :: s) := by
  by_cases hq : r.qs = []
  ·have hw : wL r.qs = [] := by unfold wL; rw [if_pos hq]
   rw [hw, i0e] at h3 q4 e4
   rw [p3d] at q4
   obtain ⟨k5, e5, h5⟩ := l8c (s1 := .val (netD r.lp r.lt)) (s2 := .val (.tup [.tup (r.kp.map .int), .tup (r.kt.map .int)])) (s3 := .val (netD r.rp r.rt)) (s4 := .val (.tup [])) hs (m := fuel) (k := k3) (fs := r.fs) (acc := []) h3 h.ff (q2a (by omega)) (by rw [i5e]; omega)
   rw [i0e] at e5
   have e5 : wloop rfT rfB fuel [.bor (rdD ws k3), .val (netD r.lp r.lt), .val (.tup [.tup (r.kp.map .int), .tup (r.kt.map .int)]), .val (netD r.rp r.rt), .val (.tup []), .own (.lst [])] = _ := e5
   refine ⟨k5, List.drop_eq_nil_iff.mp h5, [.val (netD r.lp r.lt), .val (.tup [.tup (r.kp.map .int), .tup (r.kt.map .int)]), .val (netD r.rp r.rt), .val (.tup []), .own (.lst (r.fs.map ntD))], ?_⟩
   rw [hq, j6e]
   unfold rfT rfB at e5
   clear h h0 h1 h2 h3 h5 hs hw hq ew ql fl
   exists (r.fs.flatMap wF)[0]?.getD ("" : Str), w
   exists D.tup (r.fs.map ntD), F1
   exists D.lst (r.fs.map ntD), F2
   exists (r.kp.map D.int), K1
   exists (r.kt.map D.int), K2
   exists netD r.lp r.lt, N1
   exists netD r.rp r.rt, N2
   exists rdD ws 0, R0
   exists rdD ws k1, R1
   exists rdD ws k2, R2
   exists rdD ws k3, R3
   exists rdD ws k5, R5
   unfold d_Reader_read_rule
   simp! [o1, e1, o2, e2, o3, e3, b4, e4, q4, e5, tp, pl]
  ·rw [z0d hq] at h3 q4 e4
   obtain ⟨k4, ⟨r6, e6⟩, h4⟩ := g1c hs h3 h.qq hq h.ql
   obtain ⟨k5, e5, h5⟩ := l8c (s1 := .val (netD r.lp r.lt)) (s2 := .val (.tup [.tup (r.kp.map .int), .tup (r.kt.map .int)])) (s3 := .val (netD r.rp r.rt)) (s4 := .val (.tup (r.qs.map prD))) hs (m := fuel) (k := k4) (fs := r.fs) (acc := []) h4 h.ff (q2a (by omega)) (by rw [i5e]; omega)
   rw [i0e] at e5
   have e5 : wloop rfT rfB fuel [.bor (rdD ws k4), .val (netD r.lp r.lt), .val (.tup [.tup (r.kp.map .int), .tup (r.kt.map .int)]), .val (netD r.rp r.rt), .val (.tup (r.qs.map prD)), .own (.lst [])] = _ := e5
   refine ⟨k5, List.drop_eq_nil_iff.mp h5, [.val (netD r.lp r.lt), .val (.tup [.tup (r.kp.map .int), .tup (r.kt.map .int)]), .val (netD r.rp r.rt), .val (.tup (r.qs.map prD)), .own (.lst (r.fs.map ntD))], ?_⟩
   rw [l5e, l9e] at q4 e4
   rw [beq_self_eq_true] at q4
   unfold rfT rfB at e5
   clear h h0 h1 h2 h3 h4 h5 hs hq ew ql fl
   exists D.tup (r.fs.map ntD), F1
   exists D.lst (r.fs.map ntD), F2
   exists (r.kp.map D.int), K1
   exists (r.kt.map D.int), K2
   exists D.tup (r.qs.map prD), Q1
   exists netD r.lp r.lt, N1
   exists netD r.rp r.rt, N2
   exists rdD ws 0, R0
   exists rdD ws k1, R1
   exists rdD ws k2, R2
   exists rdD ws k3, R3
   exists rdD ws k4, R4
   exists rdD ws k5, R5
   unfold d_Reader_read_rule
   simp! [o1, e1, o2, e2, o3, e3, b4, e4, q4, o4, e6, e5, tp, pl]
 exact key
end
open TL
def WdA (ws : List Str) : Prop := ∀ w ∈ ws, WdOk w
theorem WdA.app {a b : List Str} (h : WdA a) (g : WdA b) : WdA (a ++ b) := fun w hw => (List.mem_append.mp hw).elim (h w) (g w)
theorem WdA.one {w : Str} (h : WdOk w) : WdA [w] := fun v hv => by rw [List.mem_singleton.mp hv]; exact h
theorem WdA.br {a : List Str} (h : WdA a) : WdA (br a) := ((WdA.one (w := "(") (n2a (by decide +kernel))).app h).app (WdA.one (w := ")") (n2a (by decide +kernel)))
theorem i5d {xs : List Int} (h : ∀ x ∈ xs, pnOk x) : WdA (wI xs) := fun w hw => by
 obtain ⟨x, hx, e⟩ := List.mem_map.mp hw
 rw [← e]
 exact l5b (h x hx)
theorem f1e {qs : List (Int × Int)} (h : ∀ q ∈ qs, pnOk q.1 ∧ pnOk q.2) : WdA (wQ qs) := fun w hw => by
 obtain ⟨q, hq, h2⟩ := List.mem_flatMap.mp hw
 simp only [k1e, j4e, or_false] at h2
 rcases h2 with e | e <;> rw [e]
 ·exact l5b (h q hq).1
 ·exact l5b (h q hq).2
theorem p4d {qs : List (Int × Int)} (h : ∀ q ∈ qs, pnOk q.1 ∧ pnOk q.2) : WdA (wL qs) := by
 unfold wL
 split
 ·exact fun w hw => by cases hw
 ·exact (WdA.one (n2a (by decide +kernel))).app (f1e h).br
theorem g6e {fs : List Nt} (h : ∀ f ∈ fs, Good f.1 f.2) : WdA (fs.flatMap wF) := fun w hw => by
 obtain ⟨f, hf, h2⟩ := List.mem_flatMap.mp hw
 exact ((WdA.one (n2a (by decide +kernel))).app (WdA.br (l6b (h f hf)))) w h2
section
variable {r : Rl}
theorem x7b (h : RwOk r) : WdA (wR r) := by
 have a1 : WdA (wA1 r) := (WdA.one (n2a (by decide +kernel))).app (WdA.br (l6b h.gl))
 have a2 : WdA (wK r.kp r.kt) := (((WdA.one (n2a (by decide +kernel))).app (i5d h.kp)).app (WdA.one (n2a (by decide +kernel)))).app (i5d h.kt)
 have a3 : WdA (wA2 r) := (a1.app (WdA.one (n2a (by decide +kernel)))).app a2.br
 have a4 : WdA (wA r) := (a3.app (WdA.one (n2a (by decide +kernel)))).app (WdA.br (l6b h.gr))
 exact (a4.app (p4d h.qq)).app (g6e h.ff)
theorem p5d {ws : List Str} {k : Nat} {s0 : Sl} {r : List Sl} : oMeth "Reader" "read_rule" 1 aNil (s0 :: .own (rdD ws k) :: r) = oHere aNil (s0 :: .own (rdD ws k) :: r) := rfl
theorem z1d (h : RwOk r) (g : RlOk r) : ∃ ρ', d_read_rule [.val (.str (txt (wR r))), .no, .no] = .rt (rlD r) ρ' := by
 have wd := x7b h
 have le := h8d h
 obtain ⟨s, e1⟩ := r9d wd (by omega)
 obtain ⟨k, hk, s2, e2⟩ := l9c h (e6e wd)
 obtain ⟨ρ3, e3⟩ := o4b g.kk
 rw [g.ok] at e3
 have dn := @g3d (wR r) k
 rw [decide_eq_true hk] at dn
 have ob : objNo "Reader" "is_done" (rdD (wR r) k) = true := rfl
 have om := fun s0 s => @p5d (wR r) 0 s0 s
 refine e8a ?_
 clear wd g le h hk
 exists rdD (wR r) k, R1
 exists rdD (wR r) 0, R0
 exists txt (wR r), T
 exists rlD r, ND
 unfold d_read_rule
 simp! [e1, om, e2, dn, ob, e3]
theorem m0c (h : RwOk r) : ∃ ρ', d_rule_text [.val (rlD r)] = .rt (.str (txt (wR r))) ρ' := by
 obtain ⟨ρ1, e1⟩ := g0c h
 have j := t2c (x7b h) (by have := h8d h; omega)
 have is : isStr (.str " ") = true := rfl
 refine e8a ?_
 clear h
 exists txt (wR r), T
 exists sL (wR r), SL
 exists rlD r, ND
 unfold d_rule_text
 simp! [e1, j5b, is, j]
theorem flat_ints {xs : List Int} (h : xs.length ≤ 1000) : flatD 1 (.tup (xs.map .int)) := .inr ⟨_, rfl, by rw [g8e]; exact h, fun x hx => by
 obtain ⟨i, _, e⟩ := List.mem_map.mp hx
 exact .inl ⟨i, e.symm⟩⟩
theorem i6d (h : RwOk r) : flatD 5 (rlD r) := by
 refine .inr ⟨_, rfl, by simp, fun x hx => ?_⟩
 simp only [k1e, j4e, or_false] at hx
 rcases hx with e | e | e | e | e <;> subst e
 ·exact e2a (x0a h.gl)
 ·refine .inr ⟨_, rfl, by simp, fun x hx => ?_⟩
  simp only [k1e, j4e, or_false] at hx
  rcases hx with e | e <;> subst e
  ·exact e2a (e2a (flat_ints h.lk.1))
  ·exact e2a (e2a (flat_ints h.lk.2))
 ·exact e2a (x0a h.gr)
 ·refine .inr ⟨_, rfl, by have := h.ql; rw [g8e]; omega, fun x hx => ?_⟩
  obtain ⟨q, _, e⟩ := List.mem_map.mp hx
  subst e
  exact e2a (e2a (flat_ints (xs := [q.1, q.2]) (by simp)))
 ·refine .inr ⟨_, rfl, by have := h.fl; rw [g8e]; omega, fun x hx => ?_⟩
  obtain ⟨f, hf, e⟩ := List.mem_map.mp hx
  subst e
  exact x0a (h.ff f hf)
theorem g3c (h : RwOk r) (g : RlOk r) : ∃ ρ', d_law_rule_right [.val (rlD r), .no, .no] = .rt (.bl true) ρ' := by
 obtain ⟨ρ1, e1⟩ := l3c h
 have j := t2c (x7b h) (by have := h8d h; omega)
 have is : isStr (.str " ") = true := rfl
 obtain ⟨ρ2, e2⟩ := m0c h
 obtain ⟨ρ3, e3⟩ := z1d h g
 obtain ⟨ρ4, e4⟩ := l0c (e2a (e2a (i6d h)))
 have ck := e5c g.kk g.ok
 have so := l4b (x7b h)
 have t1 : ∀ s, opIsi "str" (.str s) = some (.bl true) := fun _ => rfl
 have n1 := x2b so
 have q1 : opEq (.str (txt (wR r))) (.str (txt (wR r))) = some (.bl true) := by rw [y8a so so, beq_self_eq_true]
 refine e8a ?_
 clear g so h
 exists txt (wR r), T
 exists sL (wR r), SL
 exists rlD r, ND
 unfold d_law_rule_right
 simp! [e1, j5b, is, j, e2, t1, n1, e3, e4, q1, ck]
end
section
variable {s : Int} {κ : Str → Str}
theorem z2d (hs : 0 < s) {a b : Int} : a * s < b * s ↔ a < b := ⟨fun h => Int.lt_of_mul_lt_mul_right h (Int.le_of_lt hs), fun h => Int.mul_lt_mul_of_pos_right h hs⟩
theorem i7d (hs : 0 < s) {a b : Int} : a * s ≤ b * s ↔ a ≤ b := by rw [← Int.not_lt, ← Int.not_lt, z2d hs]
theorem p6d (hs : 0 < s) {a b : Int} : a * s = b * s ↔ a = b := by
 refine ⟨fun h => Int.le_antisymm ?_ ?_, fun h => by rw [h]⟩
 ·exact (i7d hs).mp (Int.le_of_eq h)
 ·exact (i7d hs).mp (Int.le_of_eq h.symm)
theorem s1d (hs : 0 < s) {a b : Int} : (a * s == b * s) = (a == b) := by
 rw [n8e, beq_iff_eq, beq_iff_eq, p6d hs]
theorem p7d (hs : 0 < s) {xs : List Int} (h : xs.Pairwise (· < ·)) : (xs.map (· * s)).Pairwise (· < ·) := by
 rw [List.pairwise_map]
 exact h.imp fun h => (z2d hs).mpr h
theorem g4c (hs : 0 < s) {xs : List Int} {n : Int} : n * s ∈ xs.map (· * s) ↔ n ∈ xs := by
 rw [List.mem_map]
 exact ⟨fun ⟨a, h, e⟩ => by rw [← (p6d hs).mp e]; exact h, fun h => ⟨n, h, rfl⟩⟩
theorem t7c (hs : 0 < s) {xs : List Int} {n : Int} : (xs.map (· * s)).contains (n * s) = xs.contains n := by
 rw [n8e, List.contains_iff_mem, List.contains_iff_mem, g4c hs]
theorem y9a (h1 : s ≤ 25641) (hs : 0 < s) {a : Int} (h : 0 ≤ a ∧ a < 40) : nameOk (a * s) := by
 have h2 : a * s ≤ 39 * s := (i7d hs).mpr (by omega)
 have h3 : 0 ≤ a * s := Int.mul_nonneg h.1 (Int.le_of_lt hs)
 exact ⟨h3, by omega⟩
def tuP (κ : Str → Str) (s : Int) (p : P2) : P2 := (p.1 * s, κ p.2)
def tuT (κ : Str → Str) (s : Int) (t : T4) : T4 := (t.1 * s, κ t.2.1, t.2.2.1 * s, t.2.2.2 * s)
def tuN (κ : Str → Str) (s : Int) (f : Nt) : Nt := (f.1.map (tuP κ s), f.2.map (tuT κ s))
def tuQ (s : Int) (q : Int × Int) : Int × Int := (q.1 * s, q.2 * s)
def tuR (κ : Str → Str) (s : Int) (r : Rl) : Rl := ⟨r.lp.map (tuP κ s), r.lt.map (tuT κ s), r.kp.map (· * s), r.kt.map (· * s), r.rp.map (tuP κ s), r.rt.map (tuT κ s), r.qs.map (tuQ s), r.fs.map (tuN κ s)⟩
def abef (x : Str) : Prop := x = "a" ∨ x = "b" ∨ x = "e" ∨ x = "f"
theorem nmsP {ps : List P2} : (ps.map (tuP κ s)).map (·.1) = (ps.map (·.1)).map (· * s) := by rw [i6e, i6e]; rfl
theorem nmsT {ts : List T4} : (ts.map (tuT κ s)).map (·.1) = (ts.map (·.1)).map (· * s) := by rw [i6e, i6e]; rfl
theorem LN.abP {ps : List P2} {ts : List T4} (m : LN ps ts) : ∀ p ∈ ps, abef p.2 := fun p hp => by
 rcases (m.pk p hp).2 with e | e
 ·exact .inl e
 ·exact .inr (.inl e)
theorem LN.abT {ps : List P2} {ts : List T4} (m : LN ps ts) : ∀ t ∈ ts, abef t.2.1 := fun p hp => by
 rcases (m.tk p hp).2.1 with e | e
 ·exact .inr (.inr (.inl e))
 ·exact .inr (.inr (.inr e))
theorem x8b (hκ : ∀ x, abef x → isKindS (κ x) = true) (hs : 0 < s) (h1 : s ≤ 25641) {ps : List P2} {ts : List T4} (m : LN ps ts) (l1 : ps.length ≤ 400) (l2 : ts.length ≤ 600) : Good (ps.map (tuP κ s)) (ts.map (tuT κ s)) where
 np := by rw [g8e]; exact l1
 nt := by rw [g8e]; exact l2
 pk := fun p hp => by
  obtain ⟨q, hq, e⟩ := List.mem_map.mp hp
  subst e
  exact ⟨y9a h1 hs (m.pk q hq).1, hκ _ (m.abP q hq)⟩
 tk := fun t ht => by
  obtain ⟨q, hq, e⟩ := List.mem_map.mp ht
  subst e
  obtain ⟨a, b, ⟨x, hx, ex⟩, ⟨y, hy, ey⟩⟩ := m.tk q hq
  refine ⟨y9a h1 hs a, hκ _ (m.abT q hq), ⟨_, List.mem_map.mpr ⟨x, hx, rfl⟩, ?_⟩, ⟨_, List.mem_map.mpr ⟨y, hy, rfl⟩, ?_⟩⟩
  ·show x.1 * s = q.2.2.1 * s
   rw [ex]
  ·show y.1 * s = q.2.2.2 * s
   rw [ey]
 pr := by rw [nmsP]; exact p7d hs m.pr
 tr := by rw [nmsT]; exact p7d hs m.tr
theorem g8b (hs : 0 < s) {ps : List P2} {n : Int} : lookP (ps.map (tuP κ s)) (n * s) = (lookP ps n).map κ := by
  unfold lookP
  induction ps with
  | nil => rfl
  | cons p ps ih =>
    rw [h3e, i9e, i9e]
    rw [show ((tuP κ s p).1 == n * s) = (p.1 == n) from s1d hs]
    cases p.1 == n with
    | true => rfl
    | false => exact ih
theorem t8c (hs : 0 < s) {ts : List T4} {n : Int} : lookT (ts.map (tuT κ s)) (n * s) = (lookT ts n).map fun t => (κ t.1, t.2.1 * s, t.2.2 * s) := by
  unfold lookT
  induction ts with
  | nil => rfl
  | cons p ps ih =>
    rw [h3e, i9e, i9e]
    rw [show ((tuT κ s p).1 == n * s) = (p.1 == n) from s1d hs]
    cases p.1 == n with
    | true => rfl
    | false => exact ih
theorem z3d (hs : 0 < s) {ps : List P2} {n : Int} : hasP (ps.map (tuP κ s)) (n * s) = hasP ps n := by
 rw [n8e, s7c, s7c, nmsP, g4c hs]
theorem z4d (hs : 0 < s) {ps : List T4} {n : Int} : hasT (ps.map (tuT κ s)) (n * s) = hasT ps n := by
 rw [n8e, s8c, s8c, nmsT, g4c hs]
theorem y1c (hs : 0 < s) {lp rp : List P2} {kp : List Int} (h : ptStand lp rp kp = true) : ptStand (lp.map (tuP κ s)) (rp.map (tuP κ s)) (kp.map (· * s)) = true := by
  unfold ptStand at h ⊢
  rw [h6e, i2e, List.isEmpty_iff, m3e] at h ⊢
  refine ⟨fun x hx => ?_, fun p hp => ?_⟩
  · obtain ⟨n, hn, e⟩ := List.mem_map.mp hx
    subst e
    have := h.1 n hn
    unfold okPt at this ⊢
    rw [g8b hs, g8b hs]
    cases q1 : lookP lp n with
    | none => rw [q1] at this; cases this
    | some a =>
      cases q2 : lookP rp n with
      | none => rw [q1, q2] at this; cases this
      | some b =>
        rw [q1, q2] at this
        have e : a = b := by simpa using this
        rw [e]
        exact beq_self_eq_true _
  · obtain ⟨q, hq, e⟩ := List.mem_map.mp hp
    subst e
    have := h.2 q hq
    rw [show (tuP κ s q).1 = q.1 * s from rfl, z3d hs, t7c hs]
    exact this
theorem y2c (hs : 0 < s) {lt rt : List T4} {kp kt : List Int} (h : tiStand lt rt kp kt = true) : tiStand (lt.map (tuT κ s)) (rt.map (tuT κ s)) (kp.map (· * s)) (kt.map (· * s)) = true := by
  unfold tiStand at h ⊢
  rw [h6e, i2e, List.isEmpty_iff, m3e] at h ⊢
  refine ⟨fun x hx => ?_, fun p hp => ?_⟩
  · obtain ⟨n, hn, e⟩ := List.mem_map.mp hx
    subst e
    have := h.1 n hn
    unfold okTi at this ⊢
    rw [t8c hs, t8c hs]
    cases q1 : lookT lt n with
    | none => rw [q1] at this; cases this
    | some a =>
      cases q2 : lookT rt n with
      | none => rw [q1, q2] at this; cases this
      | some b =>
        rw [q1, q2] at this
        dsimp only at this
        rw [h6e, decide_eq_true_eq] at this
        obtain ⟨e, g⟩ := this
        rw [e] at g ⊢
        show (decide _ && ((kp.map (· * s)).contains (b.2.1 * s) && (kp.map (· * s)).contains (b.2.2 * s))) = true
        rw [t7c hs, t7c hs, g, decide_eq_true rfl]
        rfl
  · obtain ⟨q, hq, e⟩ := List.mem_map.mp hp
    subst e
    have := h.2 q hq
    rw [show (tuT κ s q).1 = q.1 * s from rfl, z4d hs, t7c hs]
    exact this
theorem z5d (hs : 0 < s) {p q : Int × Int} : lePr (tuQ s p) (tuQ s q) = lePr p q := by
 unfold lePr leTup
 have e1 : (fun j => decide ([(tuQ s p).1, (tuQ s p).2].getD j 0 = [(tuQ s q).1, (tuQ s q).2].getD j 0)) = fun j => decide ([p.1, p.2].getD j 0 = [q.1, q.2].getD j 0) := by
  funext j
  match j with
  | 0 => exact decide_eq_decide.mpr (p6d hs)
  | 1 => exact decide_eq_decide.mpr (p6d hs)
  | j + 2 => rfl
 have e2 : (fun j => decide ([(tuQ s p).1, (tuQ s p).2].getD j 0 ≤ [(tuQ s q).1, (tuQ s q).2].getD j 0)) = fun j => decide ([p.1, p.2].getD j 0 ≤ [q.1, q.2].getD j 0) := by
  funext j
  match j with
  | 0 => exact decide_eq_decide.mpr (i7d hs)
  | 1 => exact decide_eq_decide.mpr (i7d hs)
  | j + 2 => rfl
 rw [e1, e2]
 rfl
theorem t9c (hs : 0 < s) : ∀ {qs : List (Int × Int)}, risPr qs = true → risPr (qs.map (tuQ s)) = true
  | [], _ => rfl
  | [a], _ => rfl
  | a :: b :: r, h => by
    unfold risPr at h
    rw [h6e] at h
    have ih := t9c hs h.2
    show (!lePr (tuQ s b) (tuQ s a) && risPr ((b :: r).map (tuQ s))) = true
    rw [z5d hs, h.1, ih]
    rfl
theorem z6d {A B : List P2} (h : subP A B = true) : ∀ p ∈ A.map (tuP κ s), p ∈ B.map (tuP κ s) := fun p hp => by
 obtain ⟨q, hq, e⟩ := List.mem_map.mp hp
 unfold subP at h
 rw [i2e] at h
 obtain ⟨x, hx, g⟩ := List.any_eq_true.mp (h q hq)
 rw [decide_eq_true_eq] at g
 subst g
 exact List.mem_map.mpr ⟨x, hx, e⟩
theorem z7d {A B : List T4} (h : subT A B = true) : ∀ p ∈ A.map (tuT κ s), p ∈ B.map (tuT κ s) := fun p hp => by
 obtain ⟨q, hq, e⟩ := List.mem_map.mp hp
 unfold subT at h
 rw [i2e] at h
 obtain ⟨x, hx, g⟩ := List.any_eq_true.mp (h q hq)
 rw [decide_eq_true_eq] at g
 subst g
 exact List.mem_map.mpr ⟨x, hx, e⟩
theorem RlH.tu {r : Rl} (hκ : ∀ x, abef x → isKindS (κ x) = true) (hs : 0 < s) (h1 : s ≤ 25641) (h : RlH r) (l : RlL r) : RlH (tuR κ s r) where
 gl := x8b hκ hs h1 l.nl h.gl.np h.gl.nt
 gr := x8b hκ hs h1 l.nr h.gr.np h.gr.nt
 s1 := by have := h.s1; exact ⟨by show (r.lp.map _).length ≤ 5; rw [g8e]; omega, by show (r.lt.map _).length ≤ 5; rw [g8e]; omega⟩
 s2 := by have := h.s2; exact ⟨by show (r.rp.map _).length ≤ 5; rw [g8e]; omega, by show (r.rt.map _).length ≤ 5; rw [g8e]; omega⟩
 h0 := by have := h.h0; show 0 < (r.lp.map _).length; rw [g8e]; exact this
 k1 := ⟨fun x hx => by
  obtain ⟨n, hn, e⟩ := List.mem_map.mp hx
  rw [← e]
  exact p3a (y9a h1 hs (l.bp n hn)), r5a (p7d hs (j8b h.k1.2))⟩
 k2 := ⟨fun x hx => by
  obtain ⟨n, hn, e⟩ := List.mem_map.mp hx
  rw [← e]
  exact p3a (y9a h1 hs (l.bt n hn)), r5a (p7d hs (j8b h.k2.2))⟩
 kl := by have := h.kl; exact ⟨by show (r.kp.map _).length ≤ _; rw [g8e]; exact this.1, by show (r.kt.map _).length ≤ _; rw [g8e]; exact this.2⟩
 p1 := y1c hs h.p1
 p2 := y2c hs h.p2
 qr := t9c hs h.qr
 qq := fun q hq => by
  obtain ⟨p, hp, e⟩ := List.mem_map.mp hq
  subst e
  obtain ⟨_, a3, a4, a5, a6⟩ := h.qq p hp
  refine ⟨⟨p3a (y9a h1 hs (l.bp _ a4)), p3a (y9a h1 hs (l.bp _ a5))⟩, (z2d hs).mpr a3, (g4c hs).mpr a4, (g4c hs).mpr a5, ?_⟩
  show lookP (r.lp.map (tuP κ s)) (p.1 * s) = lookP (r.lp.map (tuP κ s)) (p.2 * s)
  rw [g8b hs, g8b hs, a6]
 ql := by have := h.ql; show (r.qs.map _).length ≤ 3; rw [g8e]; exact this
 fl := by have := h.fl; show (r.fs.map _).length ≤ 2; rw [g8e]; exact this
 ff := fun f hf => by
  obtain ⟨x, hx, e⟩ := List.mem_map.mp hf
  subst e
  obtain ⟨b, g⟩ := h.ff x hx
  have g' : Good (tuN κ s x).1 (tuN κ s x).2 := x8b hκ hs h1 (l.nf x hx) g.np g.nt
  refine ⟨?_, g'⟩
  unfold forbB ntD at b
  rw [g3b g] at b
  dsimp only at b
  rw [h6e, h6e, h6e, h6e, decide_eq_true_eq, decide_eq_true_eq, decide_eq_true_eq] at b
  have e1 : ∀ {ps : List P2}, (ps.map (tuP κ s)).length = ps.length := g8e _
  have e2 : ∀ {ps : List T4}, (ps.map (tuT κ s)).length = ps.length := g8e _
  obtain ⟨⟨b1, b2⟩, b3, b4, b5⟩ := b
  refine s5c g' (z6d b1) (z7d b2) ?_ ?_ ?_
  ·show ((x.1.map (tuP κ s)).length : Int) - ((r.lp.map (tuP κ s)).length : Nat) ≤ 2
   rw [e1, e1]; exact b3
  ·show ((x.2.map (tuT κ s)).length : Int) - ((r.lt.map (tuT κ s)).length : Nat) ≤ 2
   rw [e2, e2]; exact b4
  ·show 0 < ((x.1.map (tuP κ s)).length : Int) - ((r.lp.map (tuP κ s)).length : Nat) + (((x.2.map (tuT κ s)).length : Int) - ((r.lt.map (tuT κ s)).length : Nat))
   rw [e1, e1, e2, e2]; exact b5
 fe := by
  rcases h.fe with e | e
  ·exact .inl (by show r.fs.map _ = []; rw [e]; rfl)
  ·exact .inr (by show r.qs.map _ = []; rw [e]; rfl)
end
theorem g9b {α : Type} {m : MG} {t : M Bool} {e : M D} {vs : List Nat} {g f : α → D} {ρ : List Sl} (hv : (vs.all fun v => isFree ρ[v]?) = true) : ∀ {xs : List α} {acc : List D}, acc.length + xs.length ≤ 100000 → (∀ x ∈ xs, ∃ ρ1 ρ2 ρ3, m (g x) (wipeS ρ vs) = some ρ1 ∧ t ρ1 = .ok true ρ2 ∧ e ρ2 = .ok (f x) ρ3 ∧ backS ρ ρ3 vs = ρ) →
    compL m t e vs (xs.map g) acc ρ = .ok (acc ++ xs.map f) ρ
  | [], acc, _, _ => by rw [j6e, j6e, h5e]; rfl
  | x :: xs, acc, hl, he => by
    obtain ⟨ρ1, ρ2, ρ3, h1, h2, h3, h4⟩ := he x h1e
    rw [h0e] at hl
    rw [h3e]
    unfold compL
    rw [if_pos hv, h1]
    dsimp only
    rw [h2]
    dsimp only
    rw [h3]
    dsimp only
    rw [if_pos (by omega), h4, g9b hv (by rw [g9e, h8e]; omega) fun y hy => he y (h2e _ hy), h4e]
    rfl
def someW : List Str := ["point", "tie", "left", "keep", "points", "ties", "loose", "forbid", "right", "z", "abcdefgh", "aa"]
theorem o5a : ∀ w ∈ someW, isKindS w = true := by decide +kernel
theorem ix12 {i : Int} (h : 0 ≤ i ∧ i < 12) : ∃ w ∈ someW, opIx (.lst (someW.map .str)) (.int i) = some (.str w) := by
 have h1 : i.toNat < someW.length := by show _ < 12; omega
 refine ⟨someW[i.toNat], k8e h1, ?_⟩
 show atI (someW.map D.str) i = _
 exact i9a h.1 (by rw [i3e, h7e h1]; rfl)
def kB : MS := (sDrop [3] (sPutAt isDct 2 opPutD (eVar 3) (eBin opIx (eVar 1) (eBin opMod (eCallO 1 0 d_law_next 0 (oHere aNil)) (eC (.int 12))))))
theorem x9b {cs : List Int} {kvs : List (Key × D)} {x : Str} (hl : kvs.length ≤ 1000) : ∃ w ∈ someW, stp (gN 3) kB (.str x) [.bor (deckD cs), .val (.lst (someW.map .str)), .own (.dK kvs), .no] = .nx [.bor (deckD cs.tail), .val (.lst (someW.map .str)), .own (.dK (putD kvs (.inr x) (.str w))), .no] := by
 obtain ⟨w, hw, ix⟩ := ix12 (i := cs.headD 0 % 12) (by omega)
 refine ⟨w, hw, ?_⟩
 have nx := @g8a cs
 have put : opPutD (.dK kvs) (.str x) (.str w) = some (.dK (putD kvs (.inr x) (.str w))) := if_pos (by omega)
 have dc : isDct (.dK kvs) = true := rfl
 have md : opMod (.int (cs.headD 0)) (.int 12) = some (.int (cs.headD 0 % 12)) := by rw [x6a, if_pos (by decide)]
 clear hw
 exists (cs.headD 0 % 12), j
 exists D.lst (someW.map .str), SW
 exists D.dK (putD kvs (.inr x) (.str w)), K2
 exists D.dK kvs, K1
 exists deckD cs.tail, C2
 exists deckD cs, C1
 unfold kB
 simp! [k4a, nx, ix, put, dc, md]
theorem z0a {kvs : List (Key × D)} {k : Key} {v : D} {m : Nat} (h : kvs.length ≤ m) : (putD kvs k v).length ≤ m + 1 := by
 unfold putD
 split
 ·rw [g8e]; omega
 ·rw [g9e]; show _ + 1 ≤ _; omega
structure KdOk (KD : D) (κ : Str → Str) : Prop where
 ix : ∀ x, abef x → opIxD KD (.str x) = some (.str (κ x))
 kd : ∀ x, abef x → isKindS (κ x) = true
theorem z8d {cs : List Int} (hd : Dk cs) : ∃ (KD : D) (κ : Str → Str) (cs' : List Int) (ρ' : List Sl), KdOk KD κ ∧ Dk cs' ∧ d_law_kinds [.bor (deckD cs), .no, .no, .no] = .rtN KD (.bor (deckD cs') :: ρ') := by
 obtain ⟨w1, m1, s1⟩ := x9b (cs := cs) (kvs := []) (x := "a") (by simp)
 obtain ⟨w2, m2, s2⟩ := x9b (cs := cs.tail) (kvs := putD [] (.inr "a") (.str w1)) (x := "b") (l1e (z0a (m := 0) (j0e _)) (by omega))
 obtain ⟨w3, m3, s3⟩ := x9b (cs := cs.tail.tail) (kvs := putD (putD [] (.inr "a") (.str w1)) (.inr "b") (.str w2)) (x := "e") (l1e (z0a (z0a (m := 0) (j0e _))) (by omega))
 obtain ⟨w4, m4, s4⟩ := x9b (cs := cs.tail.tail.tail) (kvs := putD (putD (putD [] (.inr "a") (.str w1)) (.inr "b") (.str w2)) (.inr "e") (.str w3)) (x := "f") (l1e (z0a (z0a (z0a (m := 0) (j0e _)))) (by omega))
 have lo : loop (gN 3) kB [.str "a", .str "b", .str "e", .str "f"] [.bor (deckD cs), .val (.lst (someW.map .str)), .own (.dK []), .no] = .nx [.bor (deckD cs.tail.tail.tail.tail), .val (.lst (someW.map .str)), .own (.dK (putD (putD (putD (putD [] (.inr "a") (.str w1)) (.inr "b") (.str w2)) (.inr "e") (.str w3)) (.inr "f") (.str w4))), .no] := by
  refine h7a.trans ?_
  rw [s1, i3a]
  refine Eq.trans h7a ?_
  rw [s2, i3a]
  refine Eq.trans h7a ?_
  rw [s3, i3a]
  refine Eq.trans h7a ?_
  rw [s4, i3a]
  rfl
 obtain ⟨KD, hK⟩ : ∃ KD, KD = D.dK (putD (putD (putD (putD [] (.inr "a") (.str w1)) (.inr "b") (.str w2)) (.inr "e") (.str w3)) (.inr "f") (.str w4)) := ⟨_, rfl⟩
 refine ⟨KD, fun x => if x = "a" then w1 else if x = "b" then w2 else if x = "e" then w3 else w4, cs.tail.tail.tail.tail, [.val (.lst (someW.map .str)), .no, .no], ⟨fun x hx => ?_, fun x hx => ?_⟩, hd.tl.tl.tl.tl, ?_⟩
 ·rw [hK]
  rcases hx with e | e | e | e <;> subst e <;> rfl
 ·rcases hx with e | e | e | e <;> subst e
  ·exact o5a _ m1
  ·exact o5a _ m2
  ·exact o5a _ m3
  ·exact o5a _ m4
 ·rw [← hK] at lo
  clear s1 s2 s3 s4 hK m1 m2 m3 m4
  have sw : D.lst [.str "point", .str "tie", .str "left", .str "keep", .str "points", .str "ties", .str "loose", .str "forbid", .str "right", .str "z", .str "abcdefgh", .str "aa"] = .lst (someW.map .str) := rfl
  exists deckD cs.tail.tail.tail.tail, C2
  exists deckD cs, C1
  unfold kB at lo
  unfold d_law_kinds
  exists D.lst (someW.map .str), SW
  simp! [sw, lo]
section
variable {KD : D} {κ : Str → Str} {s : Int}
theorem z9d (hs : 0 < s ∧ s ≤ 25641) : ∀ i, opMul (.int i) (.int s) = some (.int (i * s)) := fun i => by
 rw [i9b, if_pos (i7a (by omega))]
theorem h0b (hs : 0 < s ∧ s ≤ 25641) (K : KdOk KD κ) {ps : List P2} {ts : List T4} (m : LN ps ts) (l1 : ps.length ≤ 1000) (l2 : ts.length ≤ 1000) : ∃ ρ', d_law_turned [.val (netD ps ts), .val KD, .val (.int s), .no, .no, .no, .no, .no] = .rt (netD (ps.map (tuP κ s)) (ts.map (tuT κ s))) ρ' := by
 have ml := z9d hs
 have c1 := g9b (m := gT (gsCons (gN 4) (gsCons (gN 5) gsNil))) (t := mpure true) (e := eTup (aCons (eBin opMul (eVar 4) (eVar 2)) (aCons (eBin opIxD (eVar 1) (eVar 5)) aNil))) (vs := [4, 5]) (g := ptD) (f := fun p => ptD (tuP κ s p)) (ρ := [.val (netD ps ts), .val KD, .val (.int s), .no, .no, .no, .no, .no]) rfl (xs := ps) (acc := []) (by rw [i5e]; omega) fun x hx => by
  have e1 := K.ix _ (m.abP x hx)
  have e2 : ptD (tuP κ s x) = .tup [.int (x.1 * s), .str (κ x.2)] := rfl
  refine ⟨[.val (netD ps ts), .val KD, .val (.int s), .no, .val (.int x.1), .val (.str x.2), .no, .no], _, [.val (netD ps ts), .val KD, .val (.int s), .no, .val (.int x.1), .val (.str x.2), .no, .no], rfl, rfl, ?_, rfl⟩
  rw [e2]
  exists netD ps ts, ND
  exists κ x.2, y
  simp! [e1, ml]
 have c2 := fun s3 => g9b (m := gT (gsCons (gN 4) (gsCons (gN 5) (gsCons (gN 6) (gsCons (gN 7) gsNil))))) (t := mpure true) (e := eTup (aCons (eBin opMul (eVar 4) (eVar 2)) (aCons (eBin opIxD (eVar 1) (eVar 5)) (aCons (eBin opMul (eVar 6) (eVar 2)) (aCons (eBin opMul (eVar 7) (eVar 2)) aNil))))) (vs := [4, 5, 6, 7]) (g := tieD) (f := fun p => tieD (tuT κ s p)) (ρ := [.val (netD ps ts), .val KD, .val (.int s), s3, .no, .no, .no, .no]) rfl (xs := ts) (acc := []) (by rw [i5e]; omega) fun x hx => by
  have e1 := K.ix _ (m.abT x hx)
  have e2 : tieD (tuT κ s x) = .tup [.int (x.1 * s), .str (κ x.2.1), .int (x.2.2.1 * s), .int (x.2.2.2 * s)] := rfl
  refine ⟨[.val (netD ps ts), .val KD, .val (.int s), s3, .val (.int x.1), .val (.str x.2.1), .val (.int x.2.2.1), .val (.int x.2.2.2)], _, [.val (netD ps ts), .val KD, .val (.int s), s3, .val (.int x.1), .val (.str x.2.1), .val (.int x.2.2.1), .val (.int x.2.2.2)], rfl, rfl, ?_, rfl⟩
  rw [e2]
  exists netD ps ts, ND
  exists κ x.2.1, y
  simp! [e1, ml]
 rw [i0e] at c1
 have c2 := fun s3 => (c2 s3).trans (by rw [i0e])
 have n0 : opIx (netD ps ts) (.int 0) = some (.tup (ps.map ptD)) := rfl
 have n1 : opIx (netD ps ts) (.int 1) = some (.tup (ts.map tieD)) := rfl
 have out : D.tup [.tup (ps.map fun p => ptD (tuP κ s p)), .tup (ts.map fun p => tieD (tuT κ s p))] = netD (ps.map (tuP κ s)) (ts.map (tuT κ s)) := by
  unfold netD
  rw [i6e, i6e]
  rfl
 rw [← out]
 refine e8a ?_
 clear K m out
 exists netD ps ts, ND
 exists ps.map ptD, A1
 exists ts.map tieD, A2
 exists (ps.map fun p => ptD (tuP κ s p)), B1
 exists (ts.map fun p => tieD (tuT κ s p)), B2
 unfold d_law_turned
 simp! [n0, n1, c1, c2]
theorem f2e {xs : List Int} {a0 a1 a3 a4 a5 a6 a7 a8 a9 a10 a11 a12 a13 : Sl} (hs : 0 < s ∧ s ≤ 25641) (hl : xs.length ≤ 1000) : compL (gN 14) (mpure true) (eBin opMul (eVar 14) (eVar 2)) [14] (xs.map .int) [] [a0, a1, .val (.int s), a3, a4, a5, a6, a7, a8, a9, a10, a11, a12, a13, .no] = .ok ((xs.map (· * s)).map .int) [a0, a1, .val (.int s), a3, a4, a5, a6, a7, a8, a9, a10, a11, a12, a13, .no] := by
 rw [v3a (f := fun x => D.int (x * s)) rfl (by omega) fun x _ => ?_, i6e]
 ·rfl
 ·have ml := z9d hs
  simp! [ml]
theorem y0b (hs : 0 < s ∧ s ≤ 25641) (K : KdOk KD κ) {r : Rl} (h : RlH r) (l : RlL r) : ∃ ρ', d_law_turned_rule [.val (rlD r), .val KD, .val (.int s), .no, .no, .no, .no, .no, .no, .no, .no, .no, .no, .no, .no] = .rt (rlD (tuR κ s r)) ρ' := by
 have ml := z9d hs
 have a1 := h.s1
 have a2 := h.s2
 have a3 := h.kl
 have a4 := h.ql
 have a5 := h.fl
 obtain ⟨ρ1, e1⟩ := h0b (s := s) hs K l.nl (by omega) (by omega)
 obtain ⟨ρ2, e2⟩ := h0b (s := s) hs K l.nr (by omega) (by omega)
 have c1 := fun (a0 a1 a3' a4' a5' a6 a7 a8 a9 a10 a11 a12 a13 : Sl) => f2e (s := s) (xs := r.kp) (a0 := a0) (a1 := a1) (a3 := a3') (a4 := a4') (a5 := a5') (a6 := a6) (a7 := a7) (a8 := a8) (a9 := a9) (a10 := a10) (a11 := a11) (a12 := a12) (a13 := a13) hs a3.1
 have c2 := fun (a0 a1 a3' a4' a5' a6 a7 a8 a9 a10 a11 a12 a13 : Sl) => f2e (s := s) (xs := r.kt) (a0 := a0) (a1 := a1) (a3 := a3') (a4 := a4') (a5 := a5') (a6 := a6) (a7 := a7) (a8 := a8) (a9 := a9) (a10 := a10) (a11 := a11) (a12 := a12) (a13 := a13) hs a3.2
 have c3 := fun (a0 a1 a3 a4 a5 a6 a7 a8 a9 a10 : Sl) => g9b (m := gT (gsCons (gN 11) (gsCons (gN 12) gsNil))) (t := mpure true) (e := eTup (aCons (eBin opMul (eVar 11) (eVar 2)) (aCons (eBin opMul (eVar 12) (eVar 2)) aNil))) (vs := [11, 12]) (g := prD) (f := fun q => prD (tuQ s q)) (ρ := [a0, a1, .val (.int s), a3, a4, a5, a6, a7, a8, a9, a10, .no, .no, .no, .no]) rfl (xs := r.qs) (acc := []) (by rw [i5e]; omega) fun x hx => by
  have e2 : prD (tuQ s x) = .tup [.int (x.1 * s), .int (x.2 * s)] := rfl
  refine ⟨[a0, a1, .val (.int s), a3, a4, a5, a6, a7, a8, a9, a10, .val (.int x.1), .val (.int x.2), .no, .no], _, [a0, a1, .val (.int s), a3, a4, a5, a6, a7, a8, a9, a10, .val (.int x.1), .val (.int x.2), .no, .no], rfl, rfl, ?_, rfl⟩
  rw [e2]
  simp! [ml]
 have c3 := fun (a0 a1 a3 a4 a5 a6 a7 a8 a9 a10 : Sl) => (c3 a0 a1 a3 a4 a5 a6 a7 a8 a9 a10).trans (by rw [i0e])
 have c4 := fun (a0 a3 a4 a5 a6 a7 a8 a9 a10 a11 a12 a14 : Sl) => v3a (i := 13) (e := eCall 3 5 d_law_turned [] (aCons (eVar 13) (aCons (eVar 1) (aCons (eVar 2) aNil)))) (g := ntD) (f := fun f => ntD (tuN κ s f)) (xs := r.fs) (ρ := [a0, .val KD, .val (.int s), a3, a4, a5, a6, a7, a8, a9, a10, a11, a12, .no, a14]) rfl (by omega) (fun f hf => by
  have g := (h.ff f hf).2
  obtain ⟨ρ3, e3⟩ := h0b (s := s) hs K (l.nf f hf) (by have := g.np; omega) (by have := g.nt; omega)
  have x1 : ntD f = netD f.1 f.2 := rfl
  have x2 : ntD (tuN κ s f) = netD (f.1.map (tuP κ s)) (f.2.map (tuT κ s)) := rfl
  rw [x1, x2]
  exists netD f.1 f.2, N1
  exists netD (f.1.map (tuP κ s)) (f.2.map (tuT κ s)), N2
  simp! [e3])
 have out : rlD (tuR κ s r) = .tup [netD (r.lp.map (tuP κ s)) (r.lt.map (tuT κ s)), .tup [.tup ((r.kp.map (· * s)).map .int), .tup ((r.kt.map (· * s)).map .int)], netD (r.rp.map (tuP κ s)) (r.rt.map (tuT κ s)), .tup (r.qs.map fun q => prD (tuQ s q)), .tup (r.fs.map fun f => ntD (tuN κ s f))] := by
  unfold rlD tuR
  dsimp only
  rw [i6e (g := prD), i6e (g := ntD)]
  rfl
 rw [out]
 unfold rlD
 refine e8a ?_
 clear K h l out a1 a2 a3 a4 a5
 exists netD (r.lp.map (tuP κ s)) (r.lt.map (tuT κ s)), N1
 exists netD (r.rp.map (tuP κ s)) (r.rt.map (tuT κ s)), N2
 exists netD r.lp r.lt, N3
 exists netD r.rp r.rt, N4
 exists (r.kp.map (· * s)).map D.int, K1
 exists (r.kt.map (· * s)).map D.int, K2
 exists r.kp.map D.int, K3
 exists r.kt.map D.int, K4
 exists (r.qs.map fun q => prD (tuQ s q)), Q1
 exists r.qs.map prD, Q2
 exists (r.fs.map fun f => ntD (tuN κ s f)), F1
 exists r.fs.map ntD, F2
 unfold d_law_turned_rule
 simp! [e1, e2, c1, c2, c3, c4]
end
open TL
def lawB87 : MS := (sDrop [2, 5, 6, 7, 8] (sSeq (sSet 5 (eCallO 4 5 d_law_net 1 (oHere (aCons (eC (.int 5)) (aCons (eC (.int 5)) (aCons (eBin opMod (eCallO 1 0 d_law_next 1 (oHere aNil)) (eC (.int 2))) aNil))))))
  (sSeq (sSet 6 (eCallO 3 7 d_law_rule 1 (oHere (aCons (eVar 5) (aCons (eBin opGt (eVar 2) (eC (.int 0))) aNil)))))
  (sSeq (sSet 7 (eCallON 1 3 d_law_kinds 1 (oHere aNil)))
  (sSeq (sSet 8 (eBin opIx (eLst (aCons (eC (.int 1)) (aCons (eC (.int 25641)) (aCons (eC (.int 7)) aNil)))) (eBin opMod (eCallO 1 0 d_law_next 1 (oHere aNil)) (eC (.int 3)))))
  (sSeq (sIf (mNot (tVal (eCall 1 2 d_law_net_right [] (aCons (eCall 3 5 d_law_turned [] (aCons (eCallO 4 5 d_law_net 1 (oHere (aCons (eC (.int 6)) (aCons (eC (.int 6)) (aCons (eC (.int 1)) aNil))))) (aCons (eVar 7) (aCons (eVar 8) aNil)))) aNil)))) (sRet (eC (.bl false))) sSkip)
  (sIf (mNot (tVal (eCall 1 2 d_law_rule_right [] (aCons (eCall 3 12 d_law_turned_rule [] (aCons (eVar 6) (aCons (eVar 7) (aCons (eVar 8) aNil)))) aNil)))) (sRet (eC (.bl false))) sSkip)))))))
theorem a0e {i : Int} (h : 0 ≤ i ∧ i < 3) : ∃ s : Int, (0 < s ∧ s ≤ 25641) ∧ opIx (.lst [.int 1, .int 25641, .int 7]) (.int i) = some (.int s) := by
 have h1 : i = 0 ∨ i = 1 ∨ i = 2 := by omega
 rcases h1 with h1 | h1 | h1 <;> subst h1
 ·exact ⟨1, by omega, rfl⟩
 ·exact ⟨25641, by omega, rfl⟩
 ·exact ⟨7, by omega, rfl⟩
theorem a1e {cs : List Int} {z : D} {k : Int} (hd : Dk cs) : ∃ cs', Dk cs' ∧ stp (gN 2) lawB87 (.int k) [.val z, .own (deckD cs), .no, .no, .no, .no, .no, .no, .no] = .nx [.val z, .own (deckD cs'), .no, .no, .no, .no, .no, .no, .no] := by
 have nx := @g8a cs
 obtain ⟨ps, ts, cs1, ρ1, mn, d1, e1⟩ := c9e (mp := 5) (mt := 5) (far := cs.headD 0 % 2) hd.tl (by omega) (by omega) (by omega)
 have a1 := mn.p0
 have a2 := mn.pl
 have a3 := mn.tl
 obtain ⟨r, cs2, ρ2, ⟨h, l⟩, _, _, d2, e2⟩ := d6e (gd := decide (0 < k)) d1 (mn.ln (by omega) (by omega)) (by omega) (by omega) (by omega)
 obtain ⟨KD, κ, cs3, ρ3, K, d3, e3⟩ := z8d d2
 have nx3 := @g8a cs3
 obtain ⟨s, hs, ix⟩ := a0e (i := cs3.headD 0 % 3) (by omega)
 obtain ⟨ps2, ts2, cs4, ρ4, mn2, d4, e4⟩ := c9e (mp := 6) (mt := 6) (far := 1) d3.tl (by omega) (by omega) (by omega)
 have b2 := mn2.pl
 have b3 := mn2.tl
 have ln2 := mn2.ln (by omega) (by omega)
 obtain ⟨ρ5, e5⟩ := h0b (s := s) hs K ln2 (by omega) (by omega)
 obtain ⟨ρ6, e6⟩ := r9a (x8b K.kd hs.1 hs.2 ln2 (by omega) (by omega))
 obtain ⟨ρ7, e7⟩ := y0b (s := s) hs K h l
 have h' := h.tu K.kd hs.1 hs.2 l
 obtain ⟨ρ8, e8⟩ := g3c h'.rw h'.ok
 refine ⟨cs4, d4, ?_⟩
 clear hd mn d1 h l d2 K d3 hs mn2 d4 ln2 h' a1 a2 a3 b2 b3
 exists rlD (tuR κ s r), R2
 exists rlD r, R1
 exists netD (ps2.map (tuP κ s)) (ts2.map (tuT κ s)), N3
 exists netD ps2 ts2, N2
 exists netD ps ts, N1
 have gk : opGt (.int k) (.int 0) = some (.bl (decide (0 < k))) := u0a
 exists deckD cs3.tail, C5
 exists deckD cs4, C6
 exists deckD cs3, C4
 exists deckD cs2, C3
 exists deckD cs1, C2
 exists deckD cs.tail, C1
 exists deckD cs, C0
 unfold lawB87
 simp! [k4a, nx, e1, gk, e2, e3, nx3, ix, e4, e5, e6, e7, e8]
theorem i8d {z : D} : ∀ {ks : List Int} {cs : List Int}, Dk cs → ∃ cs', Dk cs' ∧ loop (gN 2) lawB87 (ks.map .int) [.val z, .own (deckD cs), .no, .no, .no, .no, .no, .no, .no] = .nx [.val z, .own (deckD cs'), .no, .no, .no, .no, .no, .no, .no]
  | [], cs, hd => ⟨cs, hd, rfl⟩
  | k :: ks, cs, hd => by
    obtain ⟨cs1, d1, e1⟩ := a1e (z := z) (k := k) hd
    obtain ⟨cs2, d2, e2⟩ := i8d (z := z) (ks := ks) d1
    refine ⟨cs2, d2, ?_⟩
    rw [h3e, h7a, e1, i3a]
    exact e2
theorem txt0 : txt (wN [] []) = ("" : Str) := by decide +kernel
theorem a2e : Good [] [] := ⟨by simp, by simp, by simp, by simp, by simp, by simp⟩
theorem g7e : Good [(1000000, "zzzzzzzz")] [(1000000, "a", 1000000, 1000000)] := by
 have k1 : isKindS "zzzzzzzz" = true := by decide +kernel
 have k2 : isKindS "a" = true := by decide +kernel
 refine ⟨by simp, by simp, fun p hp => ?_, fun t ht => ?_, by simp, by simp⟩
 ·rw [i7e] at hp; subst hp; exact ⟨⟨by simp, by simp⟩, k1⟩
 ·rw [i7e] at ht; subst ht; exact ⟨⟨by simp, by simp⟩, k2, ⟨_, List.mem_singleton.mpr rfl, rfl⟩, ⟨_, List.mem_singleton.mpr rfl, rfl⟩⟩
theorem law_t {ns : List Int} (hl : ns.length ≤ 63) : ∃ ρ', d_law [.val (.scr ns), .no, .no, .no, .no, .no, .no, .no, .no] = .rt (.bl true) ρ' := by
 obtain ⟨cs, ρ1, d1, _, e1⟩ := c8e (m := 300) hl (by omega)
 obtain ⟨cs1, d2, lo⟩ := i8d (z := .scr ns) (ks := [0, 1, 2]) d1
 have lo : loop (gN 2) lawB87 [.int 0, .int 1, .int 2] [.val (.scr ns), .own (deckD cs), .no, .no, .no, .no, .no, .no, .no] = .nx [.val (.scr ns), .own (deckD cs1), .no, .no, .no, .no, .no, .no, .no] := lo
 have r1 : rng1 [.int 3] = some [.int 0, .int 1, .int 2] := rfl
 have n2 := @g8a cs1
 have n3 := @g8a cs1.tail
 have n4 := @g8a cs1.tail.tail
 have n5 := @g8a cs1.tail.tail.tail
 have b2 := d2.hd
 have b3 := d2.tl.hd
 have b4 := d2.tl.tl.hd
 have b5 := d2.tl.tl.tl.hd
 obtain ⟨x2, hx2⟩ : ∃ x, x = cs1.headD 0 := ⟨_, rfl⟩
 obtain ⟨x3, hx3⟩ : ∃ x, x = cs1.tail.headD 0 := ⟨_, rfl⟩
 obtain ⟨x4, hx4⟩ : ∃ x, x = cs1.tail.tail.headD 0 := ⟨_, rfl⟩
 obtain ⟨x5, hx5⟩ : ∃ x, x = cs1.tail.tail.tail.headD 0 := ⟨_, rfl⟩
 rw [← hx2] at n2 b2
 rw [← hx3] at n3 b3
 rw [← hx4] at n4 b4
 rw [← hx5] at n5 b5
 have m1 : mulOk (x2 % 3) (x3 % 200) = true := i7a (by omega)
 have m3 : ∀ i, mulOk i 998 = true := fun i => i7a (by omega)
 obtain ⟨P, hP⟩ : ∃ P, P = 400 - x2 % 3 * (x3 % 200) := ⟨_, rfl⟩
 have P4 : 1 ≤ P ∧ P ≤ 400 := by
  have h1 : 0 ≤ x2 % 3 * (x3 % 200) := Int.mul_nonneg (by omega) (by omega)
  have h2 : x2 % 3 * (x3 % 200) ≤ 2 * 199 := Int.mul_le_mul (by omega) (by omega) (by omega) (by omega)
  omega
 obtain ⟨T, hT⟩ : ∃ T, T = 600 - x4 % 2 := ⟨_, rfl⟩
 obtain ⟨ρ2, e2⟩ := x8d (first := x5 * 998) (np := P) (nt := T) P4 (by omega)
 obtain ⟨ρ3, e3⟩ := r9a (x9c (first := x5 * 998) (np := P.toNat) (nt := T.toNat) (by omega) (by omega) (by omega) (by omega))
 obtain ⟨ρ4, e4⟩ := p2b a2e
 obtain ⟨ρ5, e5⟩ := s0d a2e
 obtain ⟨ρ6, e6⟩ := l0c (e2a (e2a (e2a (e2a (x0a a2e)))))
 obtain ⟨ρ7, e7⟩ := r9a g7e
 rw [txt0] at e4 e5
 have q1 : opEq (.str "") (.str "") = some (.bl true) := by rw [y8a l8a l8a, beq_self_eq_true]
 have z0 : netD [] [] = .tup [.tup [], .tup []] := rfl
 have z1 : netD [(1000000, "zzzzzzzz")] [(1000000, "a", 1000000, 1000000)] = .tup [.tup [.tup [.int 1000000, .str "zzzzzzzz"]], .tup [.tup [.int 1000000, .str "a", .int 1000000, .int 1000000]]] := rfl
 rw [z0] at e4 e5 e6
 rw [z1] at e7
 refine e8a ?_
 clear d1 d2 b2 b3 b4 b5 P4 z0 z1
 exists netD (gps (x5 * 998) P.toNat) (gts (x5 * 998) P.toNat T.toNat), G
 rw [hP, hT] at e2
 clear hP hT hx2 hx3 hx4 hx5
 exists deckD cs1.tail.tail.tail.tail, C5
 exists deckD cs1.tail.tail.tail, C4
 exists deckD cs1.tail.tail, C3
 exists deckD cs1.tail, C2
 exists deckD cs1, C1
 exists deckD cs, C0
 unfold d_law
 unfold lawB87 at lo
 simp! [e1, r1, lo, n2, n3, n4, n5, m1, m3, e2, e3, e4, e5, e6, e7, q1]
end NT.Pure
namespace Lk87
open PySem L2 NT NT.Den
theorem all_mk {P : Program} {w : World} {K : Fra} {h : Heap} {mg : Str → Option Value} {fa : Addr} (X : K.In h) (G : h.Ns mainGlobals mg) (hfa : mg "law" = some (.ref fa)) (c : SaysB exL faL fnL K) :
  ∃ fd : FuncData, (∀ (s : Shared) (v : Value), BindsTo s fd ⟨[v], []⟩ [("_law_script", v)]) ∧ ∀ base : Heap, K.In base → base.Ns mainGlobals mg → FnOk P w K mg base (L2.CX P w) 11 fa fd ["_law_script"] (spLaw K) := by
 have oa0 := c.ns 0 rfl
 have oc0 := c.k 1 rfl
 have a0 := c.g X G 2 rfl
 obtain ⟨fd0, F0⟩ := c.f 0 rfl
 have a1 := c.g X G 3 rfl
 obtain ⟨fd1, F1⟩ := c.f 1 rfl
 have a2 := c.g X G 4 rfl
 obtain ⟨fd2, F2⟩ := c.f 2 rfl
 have a3 := c.g X G 5 rfl
 obtain ⟨fd3, F3⟩ := c.f 3 rfl
 have a4 := c.g X G 6 rfl
 obtain ⟨fd4, F4⟩ := c.f 4 rfl
 have a5 := c.g X G 7 rfl
 obtain ⟨fd5, F5⟩ := c.f 5 rfl
 have a6 := c.g X G 8 rfl
 obtain ⟨fd6, F6⟩ := c.f 6 rfl
 have a7 := c.g X G 9 rfl
 obtain ⟨fd7, F7⟩ := c.f 7 rfl
 have a8 := c.g X G 10 rfl
 obtain ⟨fd8, F8⟩ := c.f 8 rfl
 have a9 := c.g X G 11 rfl
 obtain ⟨fd9, F9⟩ := c.f 9 rfl
 have a10 := c.g X G 12 rfl
 obtain ⟨fd10, F10⟩ := c.f 10 rfl
 have a11 := c.mk 13 rfl
 obtain ⟨fd11, F11⟩ := c.me 11 rfl
 have a12 := c.mt 14 rfl
 obtain ⟨fd12, F12⟩ := c.me 12 rfl
 have a13 := c.mt 15 rfl
 obtain ⟨fd13, F13⟩ := c.me 13 rfl
 have a14 := c.mt 16 rfl
 obtain ⟨fd14, F14⟩ := c.me 14 rfl
 have a15 := c.mt 17 rfl
 obtain ⟨fd15, F15⟩ := c.me 15 rfl
 have a16 := c.mt 18 rfl
 obtain ⟨fd16, F16⟩ := c.me 16 rfl
 have a17 := c.mt 19 rfl
 obtain ⟨fd17, F17⟩ := c.me 17 rfl
 have a18 := c.mt 20 rfl
 obtain ⟨fd18, F18⟩ := c.me 18 rfl
 have a19 := c.mt 21 rfl
 obtain ⟨fd19, F19⟩ := c.me 19 rfl
 have a20 := c.g X G 22 rfl
 obtain ⟨fd20, F20⟩ := c.f 20 rfl
 have a21 := c.g X G 23 rfl
 obtain ⟨fd21, F21⟩ := c.f 21 rfl
 have a22 := c.g X G 24 rfl
 obtain ⟨fd22, F22⟩ := c.f 22 rfl
 have a23 := c.g X G 25 rfl
 obtain ⟨fd23, F23⟩ := c.f 23 rfl
 have a24 := c.g X G 26 rfl
 obtain ⟨fd24, F24⟩ := c.f 24 rfl
 have a25 := c.g X G 27 rfl
 obtain ⟨fd25, F25⟩ := c.f 25 rfl
 have a26 := c.g X G 28 rfl
 obtain ⟨fd26, F26⟩ := c.f 26 rfl
 have a27 := c.g X G 29 rfl
 obtain ⟨fd27, F27⟩ := c.f 27 rfl
 have a28 := c.g X G 30 rfl
 obtain ⟨fd28, F28⟩ := c.f 28 rfl
 have a29 := c.g X G 31 rfl
 obtain ⟨fd29, F29⟩ := c.f 29 rfl
 have a30 := c.g X G 32 rfl
 obtain ⟨fd30, F30⟩ := c.f 30 rfl
 have a31 := c.g X G 33 rfl
 obtain ⟨fd31, F31⟩ := c.f 31 rfl
 have a32 := c.g X G 34 rfl
 obtain ⟨fd32, F32⟩ := c.f 32 rfl
 have a33 := c.g X G 35 rfl
 obtain ⟨fd33, F33⟩ := c.f 33 rfl
 have a34 := c.g X G 36 rfl
 obtain ⟨fd34, F34⟩ := c.f 34 rfl
 have a35 := c.g X G 37 rfl
 obtain ⟨fd35, F35⟩ := c.f 35 rfl
 have a36 := c.g X G 38 rfl
 obtain ⟨fd36, F36⟩ := c.f 36 rfl
 have a37 := c.g X G 39 rfl
 obtain ⟨fd37, F37⟩ := c.f 37 rfl
 have a38 := c.g X G 40 rfl
 obtain ⟨fd38, F38⟩ := c.f 38 rfl
 have a39 := c.g X G 41 rfl
 obtain ⟨fd39, F39⟩ := c.f 39 rfl
 have a40 := c.g X G 42 rfl
 obtain ⟨fd40, F40⟩ := c.f 40 rfl
 have a41 := c.g X G 43 rfl
 obtain ⟨fd41, F41⟩ := c.f 41 rfl
 have a42 := c.g X G 44 rfl
 obtain ⟨fd42, F42⟩ := c.f 42 rfl
 have a43 := c.g X G 45 rfl
 obtain ⟨fd43, F43⟩ := c.f 43 rfl
 have a44 := c.g X G 46 rfl
 obtain ⟨fd44, F44⟩ := c.f 44 rfl
 have a45 := c.g X G 47 rfl
 obtain ⟨fd45, F45⟩ := c.f 45 rfl
 have a46 := c.g X G 48 rfl
 obtain ⟨fd46, F46⟩ := c.f 46 rfl
 have a47 := c.g X G 49 rfl
 obtain ⟨fd47, F47⟩ := c.f 47 rfl
 have a48 := c.g X G 50 rfl
 obtain ⟨fd48, F48⟩ := c.f 48 rfl
 have a49 := c.g X G 51 rfl
 obtain ⟨fd49, F49⟩ := c.f 49 rfl
 have a50 := c.g X G 52 rfl
 obtain ⟨fd50, F50⟩ := c.f 50 rfl
 have a51 := c.mt 53 rfl
 obtain ⟨fd51, F51⟩ := c.me 51 rfl
 have a52 := c.mt 54 rfl
 obtain ⟨fd52, F52⟩ := c.me 52 rfl
 have a53 := c.mt 55 rfl
 obtain ⟨fd53, F53⟩ := c.me 53 rfl
 have a54 := c.mt 56 rfl
 obtain ⟨fd54, F54⟩ := c.me 54 rfl
 have a55 := c.mt 57 rfl
 obtain ⟨fd55, F55⟩ := c.me 55 rfl
 have a56 := c.g X G 58 rfl
 obtain ⟨fd56, F56⟩ := c.f 56 rfl
 have a57 := c.g X G 59 rfl
 obtain ⟨fd57, F57⟩ := c.f 57 rfl
 have a58 := c.g X G 60 rfl
 obtain ⟨fd58, F58⟩ := c.f 58 rfl
 have a59 := c.g X G 61 rfl
 obtain ⟨fd59, F59⟩ := c.f 59 rfl
 have a60 := c.g X G 62 rfl
 obtain ⟨fd60, F60⟩ := c.f 60 rfl
 have a61 := c.g X G 63 rfl
 obtain ⟨fd61, F61⟩ := c.f 61 rfl
 have a62 := c.g X G 64 rfl
 obtain ⟨fd62, F62⟩ := c.f 62 rfl
 have a63 := c.g X G 65 rfl
 obtain ⟨fd63, F63⟩ := c.f 63 rfl
 have ea0 := c.g X G 66 rfl
 have xc0 := c.xc 67 rfl
 have ea1 := c.g X G 68 rfl
 have xc1 := c.xc 69 rfl
 have e := hfa.symm.trans a63
 cases e
 have B : Bt mg := ⟨c.z X G 83 rfl, c.z X G 84 rfl, c.z X G 85 rfl, c.z X G 86 rfl, c.z X G 87 rfl, c.z X G 88 rfl, c.z X G 89 rfl, c.z X G 90 rfl, c.z X G 91 rfl, c.z X G 92 rfl, c.z X G 93 rfl, c.z X G 94 rfl, c.z X G 95 rfl, c.z X G 96 rfl, c.z X G 97 rfl, c.z X G 98 rfl, c.z X G 99 rfl⟩
 obtain ⟨cls, hcls⟩ : ∃ cls : Nat → Value, cls 1 = .ref (He.ga K "NoRule") ∧ cls 13 = .ref (He.ga K "NoText") := ⟨fun n => if n = 1 then .ref (He.ga K "NoRule") else if n = 13 then .ref (He.ga K "NoText") else .none, rfl, rfl⟩
 have c_MOST_FIGURES : Cst mg "MOST_FIGURES" (.int 7) := c.ci X G 72 rfl
 have c_MOST_FORBIDS : Cst mg "MOST_FORBIDS" (.int 2) := c.ci X G 73 rfl
 have c_MOST_FURTHER : Cst mg "MOST_FURTHER" (.int 2) := c.ci X G 74 rfl
 have c_MOST_LETTERS : Cst mg "MOST_LETTERS" (.int 8) := c.ci X G 75 rfl
 have c_MOST_LOOSE : Cst mg "MOST_LOOSE" (.int 3) := c.ci X G 76 rfl
 have c_MOST_NAME : Cst mg "MOST_NAME" (.int 1000000) := c.ci X G 77 rfl
 have c_MOST_POINTS : Cst mg "MOST_POINTS" (.int 400) := c.ci X G 78 rfl
 have c_MOST_TIES : Cst mg "MOST_TIES" (.int 600) := c.ci X G 79 rfl
 have c_OPEN_SIGN : Cst mg "OPEN_SIGN" (.str "(") := c.cs X G 80 rfl
 have c_SHUT_SIGN : Cst mg "SHUT_SIGN" (.str ")") := c.cs X G 81 rfl
 have c_SMALL : Cst mg "SMALL" (.int 5) := c.ci X G 82 rfl
 have X_NoRule : Exn K mg cls "NoRule" 1 := ⟨⟨_, hcls.1, ea0, xc0⟩⟩
 have X_NoText : Exn K mg cls "NoText" 13 := ⟨⟨_, hcls.2, ea1, xc1⟩⟩
 have HC0 : cls 1 = .ref (He.ga K "NoRule") := hcls.1
 have HC1 : cls 13 = .ref (He.ga K "NoText") := hcls.2
 have CF_Reader : ClsF K "Reader" := v3d oa0 oc0
 have NF_Reader_words : NaF K "Reader" "words" := q5d oa0 (c.o 70 rfl)
 have NF_Reader_at : NaF K "Reader" "at" := q5d oa0 (c.o 71 rfl)
 refine ⟨fd63, fun s v => b7e F63 (fun _ _ _ _ _ _ _ _ => .of_eq rfl) s v, fun base _ _ => ?_⟩
 have C_law_alike := b4a F0 a0 (a7c (base := base) (P := P) (w := w) (cls := cls) B F0 a0 (F0.binds (ps := ["_law_found", "_law_due"]) fun _ _ _ _ _ _ us hl => match us, hl with | [_, _], _ => rfl) ) (F0.binds (ps := ["_law_found", "_law_due"]) fun _ _ _ _ _ _ us hl => match us, hl with | [_, _], _ => rfl)
 have C_law_mixed := b4a F1 a1 (a9c (base := base) (P := P) (w := w) (cls := cls) B F1 ) (F1.binds (ps := ["_law_cell_here", "_law_k"]) fun _ _ _ _ _ _ us hl => match us, hl with | [_, _], _ => rfl)
 have C_law_deck := b4a F2 a2 (h9c (base := base) (P := P) (w := w) (cls := cls) B F2 C_law_mixed) (F2.binds (ps := ["_law_script", "_law_many"]) fun _ _ _ _ _ _ us hl => match us, hl with | [_, _], _ => rfl)
 have C_law_great := b4a F3 a3 (b1c (base := base) (P := P) (w := w) (cls := cls) B F3 ) (F3.binds (ps := ["_law_points", "_law_ties", "_law_first"]) fun _ _ _ _ _ _ us hl => match us, hl with | [_, _, _], _ => rfl)
 have C_law_next := b4a F4 a4 (i1c (base := base) (P := P) (w := w) (cls := cls) B F4 ) (F4.binds (ps := ["_law_deck_here"]) fun _ _ _ _ _ _ us hl => match us, hl with | [_], _ => rfl)
 have C_law_kinds := b4a F5 a5 (b3c (base := base) (P := P) (w := w) (cls := cls) B F5 C_law_next) (F5.binds (ps := ["_law_deck_here"]) fun _ _ _ _ _ _ us hl => match us, hl with | [_], _ => rfl)
 have C_law_names := b4a F6 a6 (b5c (base := base) (P := P) (w := w) (cls := cls) B F6 C_law_next) (F6.binds (ps := ["_law_deck_here", "_law_many", "_law_far"]) fun _ _ _ _ _ _ us hl => match us, hl with | [_, _, _], _ => rfl)
 have C_law_net := b4a F7 a7 (v7c (base := base) (P := P) (w := w) (cls := cls) B F7 C_law_names C_law_next) (F7.binds (ps := ["_law_deck_here", "_law_most_points", "_law_most_ties", "_law_far"]) fun _ _ _ _ _ _ us hl => match us, hl with | [_, _, _, _], _ => rfl)
 have C_law_net_words := b4a F8 a8 (z9a (base := base) (P := P) (w := w) (cls := cls) B F8 ) (F8.binds (ps := ["_law_net_here"]) fun _ _ _ _ _ _ us hl => match us, hl with | [_], _ => rfl)
 have C_net_words := b4a F9 a9 (b7c (base := base) (P := P) (w := w) (cls := cls) B F9 ) (F9.binds (ps := ["net"]) fun _ _ _ _ _ _ us hl => match us, hl with | [_], _ => rfl)
 have C_net_text := b4a F10 a10 (i3c (base := base) (P := P) (w := w) (cls := cls) B F10 C_net_words) (F10.binds (ps := ["net"]) fun _ _ _ _ _ _ us hl => match us, hl with | [_], _ => rfl)
 have C_Reader_init := b4e (c.g X G 0 rfl) oa0 a11 (m0b (base := base) (P := P) (w := w) (cls := cls) B F11 CF_Reader NF_Reader_words NF_Reader_at) (F11.binds (ps := ["self", "text"]) fun _ _ _ _ _ _ us hl => match us, hl with | [_, _], _ => rfl)
 have C_Reader_is_done := l2a oa0 oc0 a12 (y0a (base := base) (P := P) (w := w) (cls := cls) B F12 CF_Reader NF_Reader_at NF_Reader_words) (F12.binds (ps := ["self"]) fun _ _ _ _ _ _ us hl => match us, hl with | [_], _ => rfl)
 have C_Reader_next_word := l2a oa0 oc0 a13 (q4a (base := base) (P := P) (w := w) (cls := cls) B F13 CF_Reader NF_Reader_at NF_Reader_words) (F13.binds (ps := ["self"]) fun _ _ _ _ _ _ us hl => match us, hl with | [_], _ => rfl)
 have C_Reader_take := l2a oa0 oc0 a14 (m2b (base := base) (P := P) (w := w) (cls := cls) B F14 C_Reader_is_done X_NoText CF_Reader NF_Reader_at NF_Reader_words) (F14.binds (ps := ["self"]) fun _ _ _ _ _ _ us hl => match us, hl with | [_], _ => rfl)
 have C_Reader_read_int := l2a oa0 oc0 a15 (v8a (base := base) (P := P) (w := w) (cls := cls) B F15 C_Reader_take c_MOST_FIGURES X_NoText) (F15.binds (ps := ["self"]) fun _ _ _ _ _ _ us hl => match us, hl with | [_], _ => rfl)
 have C_Reader_want := l2a oa0 oc0 a16 (m4b (base := base) (P := P) (w := w) (cls := cls) B F16 C_Reader_take X_NoText) (F16.binds (ps := ["self", "word"]) fun _ _ _ _ _ _ us hl => match us, hl with | [_, _], _ => rfl)
 have C_Reader_read_points := l2a oa0 oc0 a17 (m6a (base := base) (P := P) (w := w) (cls := cls) B F17 C_Reader_next_word C_Reader_read_int C_Reader_take C_Reader_want) (F17.binds (ps := ["self"]) fun _ _ _ _ _ _ us hl => match us, hl with | [_], _ => rfl)
 have C_Reader_read_ties := l2a oa0 oc0 a18 (q6a (base := base) (P := P) (w := w) (cls := cls) B F18 C_Reader_next_word C_Reader_read_int C_Reader_take C_Reader_want) (F18.binds (ps := ["self"]) fun _ _ _ _ _ _ us hl => match us, hl with | [_], _ => rfl)
 have C_Reader_read_net := l2a oa0 oc0 a19 (w0a (base := base) (P := P) (w := w) (cls := cls) B F19 C_Reader_read_points C_Reader_read_ties) (F19.binds (ps := ["self"]) fun _ _ _ _ _ _ us hl => match us, hl with | [_], _ => rfl)
 have C_are_rising := b4a F20 a20 (v6b (base := base) (P := P) (w := w) (cls := cls) B F20 ) (F20.binds (ps := ["row"]) fun _ _ _ _ _ _ us hl => match us, hl with | [_], _ => rfl)
 have C_is_kind := b4a F21 a21 (v9c (base := base) (P := P) (w := w) (cls := cls) B F21 c_MOST_LETTERS) (F21.binds (ps := ["thing"]) fun _ _ _ _ _ _ us hl => match us, hl with | [_], _ => rfl)
 have C_is_int := b4a F22 a22 (c6d (base := base) (P := P) (w := w) (cls := cls) B F22 ) (F22.binds (ps := ["thing"]) fun _ _ _ _ _ _ us hl => match us, hl with | [_], _ => rfl)
 have C_is_name := b4a F23 a23 (w1c (base := base) (P := P) (w := w) (cls := cls) B F23 C_is_int c_MOST_NAME) (F23.binds (ps := ["thing"]) fun _ _ _ _ _ _ us hl => match us, hl with | [_], _ => rfl)
 have C_is_tuple := b4a F24 a24 (i5c (base := base) (P := P) (w := w) (cls := cls) B F24 ) (F24.binds (ps := ["thing", "many"]) fun _ _ _ _ _ _ us hl => match us, hl with | [_, _], _ => rfl)
 have C_are_points := b4a F25 a25 (v8b (base := base) (P := P) (w := w) (cls := cls) B F25 C_are_rising C_is_kind C_is_name C_is_tuple c_MOST_POINTS) (F25.binds (ps := ["thing"]) fun _ _ _ _ _ _ us hl => match us, hl with | [_], _ => rfl)
 have C_are_ties := b4a F26 a26 (i7c (base := base) (P := P) (w := w) (cls := cls) B F26 C_are_rising C_is_kind C_is_name C_is_tuple c_MOST_TIES) (F26.binds (ps := ["thing", "points"]) fun _ _ _ _ _ _ us hl => match us, hl with | [_, _], _ => rfl)
 have C_points_of := b4a F27 a27 (b9c (base := base) (P := P) (w := w) (cls := cls) B F27 ) (F27.binds (ps := ["net"]) fun _ _ _ _ _ _ us hl => match us, hl with | [_], _ => rfl)
 have C_is_net := b4a F28 a28 (c8d (base := base) (P := P) (w := w) (cls := cls) B F28 C_are_points C_are_ties C_is_tuple C_points_of) (F28.binds (ps := ["thing"]) fun _ _ _ _ _ _ us hl => match us, hl with | [_], _ => rfl)
 have C_read_net := b4a F29 a29 (i9c (base := base) (P := P) (w := w) (cls := cls) B F29 C_Reader_init C_Reader_is_done C_Reader_read_net C_is_net X_NoText) (F29.binds (ps := ["text"]) fun _ _ _ _ _ _ us hl => match us, hl with | [_], _ => rfl)
 have C_law_net_right := b4a F30 a30 (a1b (base := base) (P := P) (w := w) (cls := cls) B F30 C_law_alike C_law_net_words C_net_text C_read_net) (F30.binds (ps := ["_law_net_here"]) fun _ _ _ _ _ _ us hl => match us, hl with | [_], _ => rfl)
 have C_law_fresh := b4a F31 a31 (c1c (base := base) (P := P) (w := w) (cls := cls) B F31 ) (F31.binds (ps := ["_law_net_here", "_law_other", "_law_turn"]) fun _ _ _ _ _ _ us hl => match us, hl with | [_, _, _], _ => rfl)
 have C_law_added := b4a F32 a32 (c3c (base := base) (P := P) (w := w) (cls := cls) B F32 C_law_fresh C_law_next) (F32.binds (ps := ["_law_deck_here", "_law_net_here", "_law_other", "_law_most_points", "_law_most_ties"]) fun _ _ _ _ _ _ us hl => match us, hl with | [_, _, _, _, _], _ => rfl)
 have C_law_forbids := b4a F33 a33 (m6b (base := base) (P := P) (w := w) (cls := cls) B F33 C_law_added C_law_next) (F33.binds (ps := ["_law_deck_here", "_law_left"]) fun _ _ _ _ _ _ us hl => match us, hl with | [_, _], _ => rfl)
 have C_law_loose := b4a F34 a34 (c5c (base := base) (P := P) (w := w) (cls := cls) B F34 C_law_next) (F34.binds (ps := ["_law_deck_here", "_law_inner"]) fun _ _ _ _ _ _ us hl => match us, hl with | [_, _], _ => rfl)
 have C_law_part := b4a F35 a35 (j1c (base := base) (P := P) (w := w) (cls := cls) B F35 C_law_next) (F35.binds (ps := ["_law_deck_here", "_law_net_here", "_law_many"]) fun _ _ _ _ _ _ us hl => match us, hl with | [_, _, _], _ => rfl)
 have C_law_rule := b4a F36 a36 (j3c (base := base) (P := P) (w := w) (cls := cls) B F36 C_law_added C_law_forbids C_law_loose C_law_next C_law_part) (F36.binds (ps := ["_law_deck_here", "_law_left", "_law_guarded"]) fun _ _ _ _ _ _ us hl => match us, hl with | [_, _, _], _ => rfl)
 have C_law_rule_words := b4a F37 a37 (y2a (base := base) (P := P) (w := w) (cls := cls) B F37 C_law_net_words) (F37.binds (ps := ["_law_rule_here"]) fun _ _ _ _ _ _ us hl => match us, hl with | [_], _ => rfl)
 have C_are_among := b4a F38 a38 (c7c (base := base) (P := P) (w := w) (cls := cls) B F38 ) (F38.binds (ps := ["row", "other"]) fun _ _ _ _ _ _ us hl => match us, hl with | [_, _], _ => rfl)
 have C_is_part := b4a F39 a39 (w3c (base := base) (P := P) (w := w) (cls := cls) B F39 C_are_among) (F39.binds (ps := ["net", "other"]) fun _ _ _ _ _ _ us hl => match us, hl with | [_, _], _ => rfl)
 have C_is_forbid := b4a F40 a40 (c9c (base := base) (P := P) (w := w) (cls := cls) B F40 C_is_net C_is_part c_MOST_FURTHER) (F40.binds (ps := ["left", "thing"]) fun _ _ _ _ _ _ us hl => match us, hl with | [_, _], _ => rfl)
 have C_are_forbids := b4a F41 a41 (m8b (base := base) (P := P) (w := w) (cls := cls) B F41 C_is_forbid c_MOST_FORBIDS) (F41.binds (ps := ["left", "loose", "thing"]) fun _ _ _ _ _ _ us hl => match us, hl with | [_, _, _], _ => rfl)
 have C_are_names := b4a F42 a42 (d1c (base := base) (P := P) (w := w) (cls := cls) B F42 C_is_name) (F42.binds (ps := ["thing"]) fun _ _ _ _ _ _ us hl => match us, hl with | [_], _ => rfl)
 have C_is_loose := b4a F43 a43 (j5c (base := base) (P := P) (w := w) (cls := cls) B F43 C_are_names C_are_rising C_points_of c_MOST_LOOSE) (F43.binds (ps := ["left", "kept", "thing"]) fun _ _ _ _ _ _ us hl => match us, hl with | [_, _, _], _ => rfl)
 have C_is_pair_of_names := b4a F44 a44 (q8a (base := base) (P := P) (w := w) (cls := cls) B F44 C_are_names C_are_rising C_is_tuple) (F44.binds (ps := ["thing"]) fun _ _ _ _ _ _ us hl => match us, hl with | [_], _ => rfl)
 have C_is_small := b4a F45 a45 (j7c (base := base) (P := P) (w := w) (cls := cls) B F45 c_SMALL) (F45.binds (ps := ["net"]) fun _ _ _ _ _ _ us hl => match us, hl with | [_], _ => rfl)
 have C_points_stand := b4a F46 a46 (j7b (base := base) (P := P) (w := w) (cls := cls) B F46 C_points_of) (F46.binds (ps := ["left", "right", "names"]) fun _ _ _ _ _ _ us hl => match us, hl with | [_, _, _], _ => rfl)
 have C_ties_of := b4a F47 a47 (w5c (base := base) (P := P) (w := w) (cls := cls) B F47 ) (F47.binds (ps := ["net"]) fun _ _ _ _ _ _ us hl => match us, hl with | [_], _ => rfl)
 have C_ties_stand := b4a F48 a48 (w0b (base := base) (P := P) (w := w) (cls := cls) B F48 C_ties_of) (F48.binds (ps := ["left", "right", "kept"]) fun _ _ _ _ _ _ us hl => match us, hl with | [_, _, _], _ => rfl)
 have C_is_rule := b4a F49 a49 (w7c (base := base) (P := P) (w := w) (cls := cls) B F49 C_are_forbids C_is_loose C_is_net C_is_pair_of_names C_is_small C_is_tuple C_points_stand C_ties_stand) (F49.binds (ps := ["thing"]) fun _ _ _ _ _ _ us hl => match us, hl with | [_], _ => rfl)
 have C_check := b4a F50 a50 (m8d (base := base) (P := P) (w := w) (cls := cls) B F50 C_is_rule X_NoRule) (F50.binds (ps := ["thing"]) fun _ _ _ _ _ _ us hl => match us, hl with | [_], _ => rfl)
 have C_Reader_read_ints := l2a oa0 oc0 a51 (r0a (base := base) (P := P) (w := w) (cls := cls) B F51 C_Reader_next_word C_Reader_read_int C_Reader_want) (F51.binds (ps := ["self", "last"]) fun _ _ _ _ _ _ us hl => match us, hl with | [_, _], _ => rfl)
 have C_Reader_read_kept := l2a oa0 oc0 a52 (r2a (base := base) (P := P) (w := w) (cls := cls) B F52 C_Reader_read_ints C_Reader_want c_OPEN_SIGN c_SHUT_SIGN) (F52.binds (ps := ["self"]) fun _ _ _ _ _ _ us hl => match us, hl with | [_], _ => rfl)
 have C_Reader_read_loose := l2a oa0 oc0 a53 (o8a (base := base) (P := P) (w := w) (cls := cls) B F53 C_Reader_read_ints C_Reader_want c_OPEN_SIGN c_SHUT_SIGN X_NoText) (F53.binds (ps := ["self"]) fun _ _ _ _ _ _ us hl => match us, hl with | [_], _ => rfl)
 have C_Reader_read_net_in := l2a oa0 oc0 a54 (m8a (base := base) (P := P) (w := w) (cls := cls) B F54 C_Reader_read_net C_Reader_want c_OPEN_SIGN c_SHUT_SIGN) (F54.binds (ps := ["self", "word"]) fun _ _ _ _ _ _ us hl => match us, hl with | [_, _], _ => rfl)
 have C_Reader_read_rule := l2a oa0 oc0 a55 (r4a (base := base) (P := P) (w := w) (cls := cls) B F55 C_Reader_next_word C_Reader_read_kept C_Reader_read_loose C_Reader_read_net_in) (F55.binds (ps := ["self"]) fun _ _ _ _ _ _ us hl => match us, hl with | [_], _ => rfl)
 have C_read_rule := b4a F56 a56 (d3c (base := base) (P := P) (w := w) (cls := cls) B F56 C_Reader_init C_Reader_is_done C_Reader_read_rule C_is_rule X_NoText) (F56.binds (ps := ["text"]) fun _ _ _ _ _ _ us hl => match us, hl with | [_], _ => rfl)
 have C_in_brackets := b4a F57 a57 (n0b (base := base) (P := P) (w := w) (cls := cls) B F57 c_OPEN_SIGN c_SHUT_SIGN) (F57.binds (ps := ["words"]) fun _ _ _ _ _ _ us hl => match us, hl with | [_], _ => rfl)
 have C_rule_words := b4a F58 a58 (w2b (base := base) (P := P) (w := w) (cls := cls) B F58 C_in_brackets C_net_words) (F58.binds (ps := ["rule"]) fun _ _ _ _ _ _ us hl => match us, hl with | [_], _ => rfl)
 have C_rule_text := b4a F59 a59 (d5c (base := base) (P := P) (w := w) (cls := cls) B F59 C_rule_words) (F59.binds (ps := ["rule"]) fun _ _ _ _ _ _ us hl => match us, hl with | [_], _ => rfl)
 have C_law_rule_right := b4a F60 a60 (y4a (base := base) (P := P) (w := w) (cls := cls) B F60 C_law_alike C_law_rule_words C_check C_read_rule C_rule_text) (F60.binds (ps := ["_law_rule_here"]) fun _ _ _ _ _ _ us hl => match us, hl with | [_], _ => rfl)
 have C_law_turned := b4a F61 a61 (w4b (base := base) (P := P) (w := w) (cls := cls) B F61 ) (F61.binds (ps := ["_law_net_here", "_law_kinds_here", "_law_step"]) fun _ _ _ _ _ _ us hl => match us, hl with | [_, _, _], _ => rfl)
 have C_law_turned_rule := b4a F62 a62 (w2a (base := base) (P := P) (w := w) (cls := cls) B F62 C_law_turned) (F62.binds (ps := ["_law_rule_here", "_law_kinds_here", "_law_step"]) fun _ _ _ _ _ _ us hl => match us, hl with | [_, _, _], _ => rfl)
 exact (b9e (base := base) (P := P) (w := w) (cls := cls) B F63 C_law_alike C_law_deck C_law_great C_law_kinds C_law_net C_law_net_right C_law_next C_law_rule C_law_rule_right C_law_turned C_law_turned_rule C_net_text C_read_net).imp (b1e fun ns h => NT.Pure.law_t h)
end Lk87
open PySem PySem.W PyProof.Rows
set_option maxHeartbeats 0 in
theorem PySem.Challenge.cw_netturns_k87_whole_texts_holds : PySem.Challenge.rw_netturns_k87_whole_texts.Holds := by
 w_on; o_law
 refine HandSHeadRun.head_any (r := OpenLaw.row PySem.Challenge.rw_netturns_k87_whole_texts) (q := view (OpenLaw.row PySem.Challenge.rw_netturns_k87_whole_texts).prog [71]) (H := NT.hookB 5 Lk87.exL Lk87.faL Lk87.fnL) (ob := Lk87.ob) (M := 30000) (loose := Lk87.nmL) (d := HandSHeadRun.topDef (OpenLaw.row PySem.Challenge.rw_netturns_k87_whole_texts).prog 71) (kwd := [])
  (fun s => NT.obsBG_eq (HandSHeadRun.getT_eq s)) (by kernel_rfl) (fun s => by kernel_rfl) Lk87.run (by kernel_rfl) (by kernel_rfl) (by kernel_rfl) (by rfl) (by first | assumption | decide +kernel) (by decide +kernel) ⟨rfl, rfl, rfl, rfl, rfl, by decide +kernel⟩ ?hw ?hc
 case hw => w_witness2
 case hc =>
  refine NT.walkB (l := PySem.Challenge.rw_netturns_k87_whole_texts) (n := 63) (k := 11) (x := "_law_script") (CX := fun w => L2.CX (PySem.Challenge.rw_netturns_k87_whole_texts).prog w) rfl (by decide) (by kernel_rfl) ⟨rfl, by decide, by decide⟩ ?_ (fun w H s e s' h => NT.no_exc h)
  intro w mg fa h Y G hmg0
  obtain ⟨K, KX, c⟩ := Y
  have hmg : mg ("law" : Str) = some (.ref fa) := by
   rw [← show (HandSHeadRun.topDef (OpenLaw.row PySem.Challenge.rw_netturns_k87_whole_texts).prog 71).name = ("law" : Str) by kernel_rfl]
   exact hmg0
  obtain ⟨fd, hb, hF⟩ := Lk87.all_mk KX G hmg c
  exact ⟨K, fd, NT.spLaw K, KX, hb, fun H a ns hl _ hS => ⟨a, ns, rfl, hS, hl, fun _ => rfl⟩, hF⟩
