import PyProof.Rows.All
import Wide.All
import OpenK.AllK
import Wide.FinOn
import KE.KStateDown
import HandS.ForMost
import HandS.ForExc
import HandS.More
import HandS.Defaults
import HandS.Head0
import HandS.Head1
import HandS.Head2
import HandS.HeadEnd
import HandS.HeadHook1
import HandS.HeadHook2
import HandS.HeadHook3
import HandS.Zip
import HandS.TupAny
import HandS.FStr
import HandS.Deep
import HandS.Conv
import HandS.IsInst
import HandS.Strs
import HandS.WideBits
import HandS.NoneIn
import HandS.DictTup
import HandS.Codes
import HandS.ClsMeth
import HandS.Replace
import HandS.Steps
import KE.GoesMore
import KE.DataMinMax
import KE.Datum
import PySem.Challenge.RW_sieve_k55_whole_alike_from_text
set_option Elab.async false
set_option linter.all false
set_option maxRecDepth 100000
set_option maxHeartbeats 4000000
namespace Sv
open PySem PySem.Spec PyProof.Rows L2
section
open PySem PySem.Spec PyProof.Rows L2
def top (i : Nat) : Stmt := PySem.Challenge.pw_sieve_k55_whole_alike_from_text.main.body.getD i (.Pass ⟨0, 0, 0, 0⟩)
abbrev s_holds : Stmt := top 1
abbrev s_meet : Stmt := top 2
abbrev s_has : Stmt := top 4
abbrev s_common : Stmt := top 5
abbrev s_corner : Stmt := top 6
abbrev s_rests : Stmt := top 7
abbrev s_looked : Stmt := top 9
abbrev s_every : Stmt := top 12
abbrev s_Rule_init : Stmt := inClass (top 13) 0
abbrev s_Rule_fits : Stmt := inClass (top 13) 1
abbrev s_Word_init : Stmt := inClass (top 14) 0
abbrev s_Word_told : Stmt := inClass (top 14) 1
abbrev s_Word_head : Stmt := inClass (top 14) 2
abbrev s_Back_told : Stmt := inClass (top 15) 0
abbrev s_Back_head : Stmt := inClass (top 15) 1
abbrev s_Call_init : Stmt := inClass (top 16) 0
abbrev s_Call_told : Stmt := inClass (top 16) 1
abbrev s_Call_head : Stmt := inClass (top 16) 2
abbrev s_rule_of : Stmt := top 17
abbrev s_length_of : Stmt := top 19
abbrev s_put_chain : Stmt := top 20
abbrev s_unfolded : Stmt := top 21
abbrev s_joint : Stmt := top 23
abbrev s_parting : Stmt := top 24
abbrev s_read_chain : Stmt := top 43
abbrev s_word_of : Stmt := top 44
abbrev s_calls_of : Stmt := top 54
abbrev s_lengths_of : Stmt := top 55
abbrev s_Book_init : Stmt := inClass (top 57) 0
abbrev s_Book_need_calls : Stmt := inClass (top 57) 1
abbrev s_Book_chain_names : Stmt := inClass (top 57) 2
abbrev s_Book_chain : Stmt := inClass (top 57) 3
abbrev s_Book_length : Stmt := inClass (top 57) 4
abbrev s_Book_told : Stmt := inClass (top 57) 5
abbrev s_reached : Stmt := top 59
abbrev s_shorter : Stmt := top 60
abbrev s_part_of : Stmt := top 63
abbrev s_read_address : Stmt := top 64
abbrev s_show_address : Stmt := top 65
abbrev s_mask : Stmt := top 68
abbrev s_beginning : Stmt := top 69
abbrev s_shared : Stmt := top 70
abbrev s_bits_of : Stmt := top 71
abbrev s_words_of : Stmt := top 75
abbrev s_is_name : Stmt := top 76
abbrev s_number_by : Stmt := top 77
abbrev s_address_by : Stmt := top 78
abbrev s_numbers_by : Stmt := top 79
abbrev s_addresses_by : Stmt := top 80
abbrev s_box_by : Stmt := top 81
abbrev s_rule_by : Stmt := top 82
abbrev s_show_numbers : Stmt := top 83
abbrev s_show_addresses : Stmt := top 84
abbrev s_show_rule : Stmt := top 85
abbrev s_default_by : Stmt := top 86
abbrev s_name_by : Stmt := top 87
abbrev s_rule_at : Stmt := top 88
abbrev s_read_book : Stmt := top 89
abbrev s_show_book : Stmt := top 90
abbrev s_read_label : Stmt := top 95
abbrev s_read_parcel : Stmt := top 96
abbrev s_show_label : Stmt := top 97
abbrev s_show_parcel : Stmt := top 98
abbrev s_read_order : Stmt := top 103
abbrev s_book_by : Stmt := top 105
abbrev s_need_no_rows : Stmt := top 108
abbrev s_never_of : Stmt := top 110
abbrev s_alike_of : Stmt := top 111
abbrev s_Desk_init : Stmt := inClass (top 113) 0
abbrev s_Desk_book_of : Stmt := inClass (top 113) 1
abbrev s_Desk_keep : Stmt := inClass (top 113) 3
abbrev s_Desk_asked : Stmt := inClass (top 113) 4
abbrev s_Desk_say : Stmt := inClass (top 113) 6
abbrev s_l_cell_at : Stmt := top 115
abbrev s_l_top : Stmt := top 116
abbrev s_l_marks : Stmt := top 117
abbrev s_l_stretch : Stmt := top 118
abbrev s_l_box : Stmt := top 119
abbrev s_l_boxes : Stmt := top 120
abbrev s_l_name : Stmt := top 121
abbrev s_l_rule : Stmt := top 122
abbrev s_l_chains : Stmt := top 123
abbrev s_l_turned : Stmt := top 124
abbrev s_l_near : Stmt := top 125
abbrev s_l_books : Stmt := top 126
abbrev s_l_parcel : Stmt := top 127
abbrev s_l_has : Stmt := top 128
abbrev s_l_read : Stmt := top 129
abbrev s_l_dotted : Stmt := top 130
abbrev s_l_shown : Stmt := top 131
abbrev s_l_row : Stmt := top 132
abbrev s_l_text : Stmt := top 133
abbrev s_l_number : Stmt := top 134
abbrev s_l_parsed : Stmt := top 135
abbrev s_l_word : Stmt := top 136
abbrev s_l_alike : Stmt := top 137
abbrev s_l_never : Stmt := top 138
abbrev s_l_length : Stmt := top 139
abbrev s_l_words : Stmt := top 140
abbrev s_l_shorter : Stmt := top 141
abbrev s_l_boxes_told : Stmt := top 142
abbrev s_law : Stmt := top 143
end
section
open PySem PySem.Spec PyProof.Rows L2
/-! ### data -/
abbrev Box := List (Int × Int)
inductive Rule where
  | word (b : Box) (w : Str)
  | back (b : Box)
  | call (b : Box) (n : Str)
  deriving DecidableEq
def Rule.box : Rule → Box
  | .word b _ => b
  | .back b => b
  | .call b _ => b
structure Book where
  dflt : Str
  chains : List (Str × List Rule)
  total : Int
inductive D where
  | non
  | bl (b : Bool)
  | int (i : Int)
  | str (s : Str)
  | lst (ds : List D)
  | tup (ds : List D)
  | rul (r : Rule)
  | bok (b : Book)
abbrev eSt (s : Int × Int) : D := .tup [.int s.1, .int s.2]
def eBox (b : Box) : D := .tup (b.map eSt)
def eRule : Rule → D
  | .word b w => .tup [.str w, eBox b]
  | .back b => .tup [.str "back", eBox b]
  | .call b n => .tup [.str "call", eBox b, .str n]
abbrev cWord (K : PySem.W.Frag) : Addr := He.ga K "Word"
abbrev cBack (K : PySem.W.Frag) : Addr := He.ga K "Back"
abbrev cCall (K : PySem.W.Frag) : Addr := He.ga K "Call"
abbrev cBook (K : PySem.W.Frag) : Addr := He.ga K "Book"
abbrev cDesk (K : PySem.W.Frag) : Addr := He.ga K "Desk"

/-! ### heaps that grow -/
def imm : HO → Bool
  | .lst _ => false
  | .dK _ => false
  | .dT _ => false
  | .set _ _ => false
  | .ext _ => false
  | _ => true
/-- what never changes stays -/
def Ext (H H' : Hp) : Prop := ∀ a o, H a = some o → imm o = true → H' a = some o
theorem Ext.refl (H : Hp) : Ext H H := fun _ _ h _ => h
theorem Ext.trans {H H1 H2 : Hp} (a : Ext H H1) (b : Ext H1 H2) : Ext H H2 := fun c o h i => b c o (a c o h i) i
theorem Ext.tr {H H1 H2 : Hp} (b : Ext H1 H2) (a : Ext H H1) : Ext H H2 := a.trans b
theorem _root_.L2.Same.ext {H H' : Hp} (a : Same H H') : Ext H H' := fun c o h _ => a c o h
theorem _root_.L2.Same.tr {H H1 H2 : Hp} (b : Same H1 H2) (a : Same H H1) : Same H H2 := a.trans b
theorem _root_.L2.Same.new {H : Hp} {p : Addr} {o : HO} (h : H p = none) : Same H (upd H p o) := fun b u e => by
  rw [upd_ne (ne_of_none e h)]
  exact e
theorem _root_.L2.Same.mut {H H' : Hp} {p : Addr} {o : HO} (s : Same H H') (h : H p = none) : Same H (upd H' p o) := fun b u e => by
  rw [upd_ne (ne_of_none e h)]
  exact s b u e
theorem Ext.mut {H : Hp} {p : Addr} {o u : HO} (h : H p = some u) (hi : imm u = false) : Ext H (upd H p o) := fun b x e i => by
  by_cases hb : b = p
  · rw [hb, h] at e
    cases e
    rw [hi] at i
    cases i
  · rw [upd_ne hb]
    exact e
/-- an object changed, all else as it was -/
def But (p : Addr) (H H' : Hp) : Prop := ∀ a o, a ≠ p → H a = some o → H' a = some o
theorem But.upd (p : Addr) (H : Hp) (o : HO) : But p H (upd H p o) := fun a u n e => by
  rw [upd_ne n]
  exact e
theorem But.same {H0 H H' : Hp} {p : Addr} (b : But p H H') (s : Same H0 H) (n : H0 p = none) : Same H0 H' := fun a o e => b a o (ne_of_none e n) (s a o e)

/-! ### what stands for a datum -/
mutual
inductive Dt (K : PySem.W.Frag) (H : Hp) : V → D → Prop where
  | non : Dt K H .non .non
  | bl (b : Bool) : Dt K H (.bl b) (.bl b)
  | int (i : Int) : Dt K H (.int i) (.int i)
  | str (x : Str) : Dt K H (.str x) (.str x)
  | lst {a : Addr} {xs : List V} {ds : List D} (o : Obj) : H a = some (.frz o (.lst xs)) → DtAll K H xs ds → Dt K H (.ref a) (.lst ds)
  | tup {a : Addr} {xs : List V} {ds : List D} : SqT K H a xs → DtAll K H xs ds → Dt K H (.ref a) (.tup ds)
  | rWord {a dx : Addr} {v : V} {b : Box} {w : Str} : H a = some (.ins (cWord K) dx [("box", v), ("word", .str w)]) → Dt K H v (eBox b) → Dt K H (.ref a) (.rul (.word b w))
  | rBack {a dx : Addr} {v : V} {b : Box} : H a = some (.ins (cBack K) dx [("box", v)]) → Dt K H v (eBox b) → Dt K H (.ref a) (.rul (.back b))
  | rCall {a dx : Addr} {v : V} {b : Box} {n : Str} : H a = some (.ins (cCall K) dx [("box", v), ("name", .str n)]) → Dt K H v (eBox b) → Dt K H (.ref a) (.rul (.call b n))
  | bok {a dx c : Addr} {kvs : List (Key × V)} {B : Book} (o : Obj) : H a = some (.ins (cBook K) dx [("default", .str B.dflt), ("chains", .ref c), ("total", .int B.total)]) → H c = some (.frz o (.dK kvs)) →
      DtKv K H kvs B.chains → Dt K H (.ref a) (.bok B)
inductive DtAll (K : PySem.W.Frag) (H : Hp) : List V → List D → Prop where
  | nil : DtAll K H [] []
  | cons {v : V} {vs : List V} {d : D} {ds : List D} : Dt K H v d → DtAll K H vs ds → DtAll K H (v :: vs) (d :: ds)
inductive DtKv (K : PySem.W.Frag) (H : Hp) : List (Key × V) → List (Str × List Rule) → Prop where
  | nil : DtKv K H [] []
  | cons {v : V} {n : Str} {rs : List Rule} {kvs : List (Key × V)} {l : List (Str × List Rule)} : Dt K H v (.lst (rs.map D.rul)) → DtKv K H kvs l → DtKv K H ((.inr n, v) :: kvs) ((n, rs) :: l)
end
section
variable {K : PySem.W.Frag} {H H' : Hp}
theorem rd_up {a : Addr} {u : HO} (e : Ext H H') (i : imm u = true) (h : Rd H a u) : Rd H' a u := by
  rcases h with h | ⟨o, h⟩
  · exact .inl (e _ _ h i)
  · exact .inr ⟨o, e _ _ h rfl⟩
theorem sqT_up {a : Addr} {xs : List V} (e : Ext H H') (h : SqT K H a xs) : SqT K H' a xs := by
  rcases h with h | h
  · exact .inl (rd_up e rfl h)
  · exact .inr h
mutual
theorem Dt.up (e : Ext H H') : ∀ {v : V} {d : D}, Dt K H v d → Dt K H' v d
  | _, _, .non => .non
  | _, _, .bl b => .bl b
  | _, _, .int i => .int i
  | _, _, .str x => .str x
  | _, _, .lst o h r => .lst o (e _ _ h rfl) (DtAll.up e r)
  | _, _, .tup h r => .tup (sqT_up e h) (DtAll.up e r)
  | _, _, .rWord h r => .rWord (e _ _ h rfl) (Dt.up e r)
  | _, _, .rBack h r => .rBack (e _ _ h rfl) (Dt.up e r)
  | _, _, .rCall h r => .rCall (e _ _ h rfl) (Dt.up e r)
  | _, _, .bok o h c r => .bok o (e _ _ h rfl) (e _ _ c rfl) (DtKv.up e r)
theorem DtAll.up (e : Ext H H') : ∀ {vs : List V} {ds : List D}, DtAll K H vs ds → DtAll K H' vs ds
  | _, _, .nil => .nil
  | _, _, .cons h r => .cons (Dt.up e h) (DtAll.up e r)
theorem DtKv.up (e : Ext H H') : ∀ {kvs : List (Key × V)} {l : List (Str × List Rule)}, DtKv K H kvs l → DtKv K H' kvs l
  | _, _, .nil => .nil
  | _, _, .cons h r => .cons (Dt.up e h) (DtKv.up e r)
end
theorem Dt.upR {v : V} {d : D} (h : Dt K H v d) (e : Ext H H') : Dt K H' v d := h.up e
theorem DtAll.upR {v : List V} {d : List D} (h : DtAll K H v d) (e : Ext H H') : DtAll K H' v d := h.up e
theorem DtAll.mk {v : V} {vs : List V} {d : D} {ds : List D} (h : Dt K H v d) (r : DtAll K H vs ds) : DtAll K H (v :: vs) (d :: ds) := .cons h r
theorem DtAll.length : ∀ {vs : List V} {ds : List D}, DtAll K H vs ds → vs.length = ds.length
  | _, _, .nil => rfl
  | _, _, .cons _ r => congrArg Nat.succ (DtAll.length r)
theorem DtAll.get : ∀ {vs : List V} {ds : List D} {i : Nat} {d : D}, DtAll K H vs ds → ds[i]? = some d → ∃ v, vs[i]? = some v ∧ Dt K H v d
  | _, _, _, _, .nil, e => by simp at e
  | _, _, 0, d, .cons (v := v) h _, e => by
    have e1 := Option.some.inj e
    exact ⟨v, rfl, by rw [← e1]; exact h⟩
  | _, _, i + 1, d, .cons _ r, e => DtAll.get (i := i) r e
theorem DtAll.getV : ∀ {vs : List V} {ds : List D} {i : Nat} {v : V}, DtAll K H vs ds → vs[i]? = some v → ∃ d, ds[i]? = some d ∧ Dt K H v d
  | _, _, _, _, .nil, e => by simp at e
  | _, _, 0, v, .cons (d := d) h _, e => by
    have e1 := Option.some.inj e
    exact ⟨d, rfl, by rw [← e1]; exact h⟩
  | _, _, i + 1, d, .cons _ r, e => DtAll.getV (i := i) r e
theorem DtAll.append : ∀ {vs ws : List V} {ds es : List D}, DtAll K H vs ds → DtAll K H ws es → DtAll K H (vs ++ ws) (ds ++ es)
  | _, _, _, _, .nil, s => s
  | _, _, _, _, .cons h r, s => .cons h (DtAll.append r s)
theorem DtAll.snoc {vs : List V} {ds : List D} {v : V} {d : D} (h : DtAll K H vs ds) (x : Dt K H v d) : DtAll K H (vs ++ [v]) (ds ++ [d]) := h.append (.cons x .nil)
theorem DtAll.take : ∀ {vs : List V} {ds : List D} (n : Nat), DtAll K H vs ds → DtAll K H (vs.take n) (ds.take n)
  | _, _, 0, _ => .nil
  | _, _, _ + 1, .nil => .nil
  | _, _, n + 1, .cons h r => .cons h (DtAll.take n r)
theorem DtAll.drop : ∀ {vs : List V} {ds : List D} (n : Nat), DtAll K H vs ds → DtAll K H (vs.drop n) (ds.drop n)
  | _, _, 0, r => r
  | _, _, _ + 1, .nil => .nil
  | _, _, n + 1, .cons _ r => DtAll.drop n r
theorem DtAll.set {v : V} {d : D} (x : Dt K H v d) : ∀ {vs : List V} {ds : List D} (n : Nat), DtAll K H vs ds → DtAll K H (vs.set n v) (ds.set n d)
  | _, _, _, .nil => .nil
  | _, _, 0, .cons _ r => .cons x r
  | _, _, n + 1, .cons h r => .cons h (DtAll.set x n r)
theorem DtAll.dropLast {vs : List V} {ds : List D} (h : DtAll K H vs ds) : DtAll K H vs.dropLast ds.dropLast := by
  rw [List.dropLast_eq_take, List.dropLast_eq_take, h.length]
  exact h.take _
theorem DtAll.ints : ∀ {vs : List V} {ns : List Int}, DtAll K H vs (ns.map D.int) → vs = ns.map V.int
  | _, [], .nil => rfl
  | _, n :: ns, .cons h r => by
    cases h
    rw [DtAll.ints r, List.map_cons]
theorem DtAll.strs : ∀ {vs : List V} {ns : List Str}, DtAll K H vs (ns.map D.str) → vs = ns.map V.str
  | _, [], .nil => rfl
  | _, n :: ns, .cons h r => by
    cases h
    rw [DtAll.strs r, List.map_cons]
theorem DtAll.bls : ∀ {vs : List V} {ns : List Bool}, DtAll K H vs (ns.map D.bl) → vs = ns.map V.bl
  | _, [], .nil => rfl
  | _, n :: ns, .cons h r => by
    cases h
    rw [DtAll.bls r, List.map_cons]
theorem DtAll.ofStrs : ∀ (ns : List Str), DtAll K H (ns.map V.str) (ns.map D.str)
  | [] => .nil
  | n :: ns => .cons (.str n) (DtAll.ofStrs ns)
theorem DtAll.ofInts : ∀ (ns : List Int), DtAll K H (ns.map V.int) (ns.map D.int)
  | [] => .nil
  | n :: ns => .cons (.int n) (DtAll.ofInts ns)
theorem DtAll.atI {vs : List V} {ds : List D} {i : Int} {d : D} (h : DtAll K H vs ds) (e : atI ds i = some d) : ∃ v, L2.atI vs i = some v ∧ Dt K H v d := by
  unfold L2.atI at e ⊢
  rw [h.length]
  cases q : ixN ds.length i with
  | none =>
    rw [q] at e
    cases e
  | some j =>
    rw [q] at e
    exact h.get e
/-- inversions -/
theorem Dt.int_eq {v : V} {i : Int} (h : Dt K H v (.int i)) : v = .int i := by cases h; rfl
theorem Dt.str_eq {v : V} {i : Str} (h : Dt K H v (.str i)) : v = .str i := by cases h; rfl
theorem Dt.bl_eq {v : V} {i : Bool} (h : Dt K H v (.bl i)) : v = .bl i := by cases h; rfl
theorem Dt.non_eq {v : V} (h : Dt K H v .non) : v = .non := by cases h; rfl
theorem Dt.tupI {v : V} {ds : List D} (h : Dt K H v (.tup ds)) : ∃ a xs, v = .ref a ∧ SqT K H a xs ∧ DtAll K H xs ds := by
  cases h with
  | tup s r => exact ⟨_, _, rfl, s, r⟩
theorem Dt.lstI {v : V} {ds : List D} (h : Dt K H v (.lst ds)) : ∃ a xs o, v = .ref a ∧ H a = some (.frz o (.lst xs)) ∧ DtAll K H xs ds := by
  cases h with
  | lst o s r => exact ⟨_, _, o, rfl, s, r⟩
theorem sqL_frz {a : Addr} {xs : List V} {o : Obj} (h : H a = some (.frz o (.lst xs))) : SqL K H a xs := .inl (.inr ⟨o, h⟩)

/-- a datum handed on: what is no object is told by itself -/
def At (K : PySem.W.Frag) (H : Hp) : D → (V → Prop) → Prop
  | .int i, Q => Q (.int i)
  | .str s, Q => Q (.str s)
  | .bl b, Q => Q (.bl b)
  | .non, Q => Q .non
  | d, Q => ∀ u, Dt K H u d → Q u
theorem At.use {d : D} {Q : V → Prop} {u : V} (k : At K H d Q) (h : Dt K H u d) : Q u := by
  cases h with
  | non => exact k
  | bl b => exact k
  | int i => exact k
  | str x => exact k
  | lst o a r => exact k _ (.lst o a r)
  | tup a r => exact k _ (.tup a r)
  | rWord a r => exact k _ (.rWord a r)
  | rBack a r => exact k _ (.rBack a r)
  | rCall a r => exact k _ (.rCall a r)
  | bok o a c r => exact k _ (.bok o a c r)
theorem At.i {i : Int} {Q : V → Prop} (k : Q (.int i)) : At K H (.int i) Q := k
theorem At.s {i : Str} {Q : V → Prop} (k : Q (.str i)) : At K H (.str i) Q := k
theorem At.b {i : Bool} {Q : V → Prop} (k : Q (.bl i)) : At K H (.bl i) Q := k
theorem At.n {Q : V → Prop} (k : Q .non) : At K H .non Q := k
theorem At.of {d : D} {Q : V → Prop} (k : ∀ u, Dt K H u d → Q u) : At K H d Q := by
  cases d with
  | int i => exact k _ (.int i)
  | str i => exact k _ (.str i)
  | bl i => exact k _ (.bl i)
  | non => exact k _ .non
  | _ => exact k
end
end
section
open PySem PySem.Spec PyProof.Rows L2
def d_holds : He.DefD := ⟨("holds", none), "holds", "holds", defArgs s_holds, defBody s_holds, defScope s_holds, [], []⟩
def d_meet : He.DefD := ⟨("meet", none), "meet", "meet", defArgs s_meet, defBody s_meet, defScope s_meet, [], []⟩
def d_has : He.DefD := ⟨("has", none), "has", "has", defArgs s_has, defBody s_has, defScope s_has, [], []⟩
def d_common : He.DefD := ⟨("common", none), "common", "common", defArgs s_common, defBody s_common, defScope s_common, [], []⟩
def d_corner : He.DefD := ⟨("corner", none), "corner", "corner", defArgs s_corner, defBody s_corner, defScope s_corner, [], []⟩
def d_rests : He.DefD := ⟨("rests", none), "rests", "rests", defArgs s_rests, defBody s_rests, defScope s_rests, [], []⟩
def d_looked : He.DefD := ⟨("looked", none), "looked", "looked", defArgs s_looked, defBody s_looked, defScope s_looked, [], []⟩
def d_every : He.DefD := ⟨("every", none), "every", "every", defArgs s_every, defBody s_every, defScope s_every, [], []⟩
def d_Rule_init : He.DefD := ⟨("Rule", some "__init__"), "__init__", "Rule.__init__", defArgs s_Rule_init, defBody s_Rule_init, defScope s_Rule_init, [], []⟩
def d_Rule_fits : He.DefD := ⟨("Rule", some "fits"), "fits", "Rule.fits", defArgs s_Rule_fits, defBody s_Rule_fits, defScope s_Rule_fits, [], []⟩
def d_Word_init : He.DefD := ⟨("Word", some "__init__"), "__init__", "Word.__init__", defArgs s_Word_init, defBody s_Word_init, defScope s_Word_init, [], []⟩
def d_Word_told : He.DefD := ⟨("Word", some "told"), "told", "Word.told", defArgs s_Word_told, defBody s_Word_told, defScope s_Word_told, [], []⟩
def d_Word_head : He.DefD := ⟨("Word", some "head"), "head", "Word.head", defArgs s_Word_head, defBody s_Word_head, defScope s_Word_head, [], []⟩
def d_Back_told : He.DefD := ⟨("Back", some "told"), "told", "Back.told", defArgs s_Back_told, defBody s_Back_told, defScope s_Back_told, [], []⟩
def d_Back_head : He.DefD := ⟨("Back", some "head"), "head", "Back.head", defArgs s_Back_head, defBody s_Back_head, defScope s_Back_head, [], []⟩
def d_Call_init : He.DefD := ⟨("Call", some "__init__"), "__init__", "Call.__init__", defArgs s_Call_init, defBody s_Call_init, defScope s_Call_init, [], []⟩
def d_Call_told : He.DefD := ⟨("Call", some "told"), "told", "Call.told", defArgs s_Call_told, defBody s_Call_told, defScope s_Call_told, [], []⟩
def d_Call_head : He.DefD := ⟨("Call", some "head"), "head", "Call.head", defArgs s_Call_head, defBody s_Call_head, defScope s_Call_head, [], []⟩
def d_rule_of : He.DefD := ⟨("rule_of", none), "rule_of", "rule_of", defArgs s_rule_of, defBody s_rule_of, defScope s_rule_of, [], []⟩
def d_length_of : He.DefD := ⟨("length_of", none), "length_of", "length_of", defArgs s_length_of, defBody s_length_of, defScope s_length_of, [], []⟩
def d_put_chain : He.DefD := ⟨("put_chain", none), "put_chain", "put_chain", defArgs s_put_chain, defBody s_put_chain, defScope s_put_chain, [], []⟩
def d_unfolded : He.DefD := ⟨("unfolded", none), "unfolded", "unfolded", defArgs s_unfolded, defBody s_unfolded, defScope s_unfolded, [], []⟩
def d_joint : He.DefD := ⟨("joint", none), "joint", "joint", defArgs s_joint, defBody s_joint, defScope s_joint, [], []⟩
def d_parting : He.DefD := ⟨("parting", none), "parting", "parting", defArgs s_parting, defBody s_parting, defScope s_parting, [], []⟩
def d_read_chain : He.DefD := ⟨("read_chain", none), "read_chain", "read_chain", defArgs s_read_chain, defBody s_read_chain, defScope s_read_chain, [], []⟩
def d_word_of : He.DefD := ⟨("word_of", none), "word_of", "word_of", defArgs s_word_of, defBody s_word_of, defScope s_word_of, [], []⟩
def d_calls_of : He.DefD := ⟨("calls_of", none), "calls_of", "calls_of", defArgs s_calls_of, defBody s_calls_of, defScope s_calls_of, [], []⟩
def d_lengths_of : He.DefD := ⟨("lengths_of", none), "lengths_of", "lengths_of", defArgs s_lengths_of, defBody s_lengths_of, defScope s_lengths_of, [], []⟩
def d_Book_init : He.DefD := ⟨("Book", some "__init__"), "__init__", "Book.__init__", defArgs s_Book_init, defBody s_Book_init, defScope s_Book_init, [], []⟩
def d_Book_need_calls : He.DefD := ⟨("Book", some "need_calls"), "need_calls", "Book.need_calls", defArgs s_Book_need_calls, defBody s_Book_need_calls, defScope s_Book_need_calls, [], []⟩
def d_Book_chain_names : He.DefD := ⟨("Book", some "chain_names"), "chain_names", "Book.chain_names", defArgs s_Book_chain_names, defBody s_Book_chain_names, defScope s_Book_chain_names, [], []⟩
def d_Book_chain : He.DefD := ⟨("Book", some "chain"), "chain", "Book.chain", defArgs s_Book_chain, defBody s_Book_chain, defScope s_Book_chain, [], []⟩
def d_Book_length : He.DefD := ⟨("Book", some "length"), "length", "Book.length", defArgs s_Book_length, defBody s_Book_length, defScope s_Book_length, [], []⟩
def d_Book_told : He.DefD := ⟨("Book", some "told"), "told", "Book.told", defArgs s_Book_told, defBody s_Book_told, defScope s_Book_told, [], []⟩
def d_reached : He.DefD := ⟨("reached", none), "reached", "reached", defArgs s_reached, defBody s_reached, defScope s_reached, [], []⟩
def d_shorter : He.DefD := ⟨("shorter", none), "shorter", "shorter", defArgs s_shorter, defBody s_shorter, defScope s_shorter, [], []⟩
def d_part_of : He.DefD := ⟨("part_of", none), "part_of", "part_of", defArgs s_part_of, defBody s_part_of, defScope s_part_of, [], []⟩
def d_read_address : He.DefD := ⟨("read_address", none), "read_address", "read_address", defArgs s_read_address, defBody s_read_address, defScope s_read_address, [], []⟩
def d_show_address : He.DefD := ⟨("show_address", none), "show_address", "show_address", defArgs s_show_address, defBody s_show_address, defScope s_show_address, [], []⟩
def d_mask : He.DefD := ⟨("mask", none), "mask", "mask", defArgs s_mask, defBody s_mask, defScope s_mask, [], []⟩
def d_beginning : He.DefD := ⟨("beginning", none), "beginning", "beginning", defArgs s_beginning, defBody s_beginning, defScope s_beginning, [], []⟩
def d_shared : He.DefD := ⟨("shared", none), "shared", "shared", defArgs s_shared, defBody s_shared, defScope s_shared, [], []⟩
def d_bits_of : He.DefD := ⟨("bits_of", none), "bits_of", "bits_of", defArgs s_bits_of, defBody s_bits_of, defScope s_bits_of, [], []⟩
def d_words_of : He.DefD := ⟨("words_of", none), "words_of", "words_of", defArgs s_words_of, defBody s_words_of, defScope s_words_of, [], []⟩
def d_is_name : He.DefD := ⟨("is_name", none), "is_name", "is_name", defArgs s_is_name, defBody s_is_name, defScope s_is_name, [], []⟩
def d_number_by : He.DefD := ⟨("number_by", none), "number_by", "number_by", defArgs s_number_by, defBody s_number_by, defScope s_number_by, [], []⟩
def d_address_by : He.DefD := ⟨("address_by", none), "address_by", "address_by", defArgs s_address_by, defBody s_address_by, defScope s_address_by, [], []⟩
def d_numbers_by : He.DefD := ⟨("numbers_by", none), "numbers_by", "numbers_by", defArgs s_numbers_by, defBody s_numbers_by, defScope s_numbers_by, [], []⟩
def d_addresses_by : He.DefD := ⟨("addresses_by", none), "addresses_by", "addresses_by", defArgs s_addresses_by, defBody s_addresses_by, defScope s_addresses_by, [], []⟩
def d_box_by : He.DefD := ⟨("box_by", none), "box_by", "box_by", defArgs s_box_by, defBody s_box_by, defScope s_box_by, [], []⟩
def d_rule_by : He.DefD := ⟨("rule_by", none), "rule_by", "rule_by", defArgs s_rule_by, defBody s_rule_by, defScope s_rule_by, [], []⟩
def d_show_numbers : He.DefD := ⟨("show_numbers", none), "show_numbers", "show_numbers", defArgs s_show_numbers, defBody s_show_numbers, defScope s_show_numbers, [], []⟩
def d_show_addresses : He.DefD := ⟨("show_addresses", none), "show_addresses", "show_addresses", defArgs s_show_addresses, defBody s_show_addresses, defScope s_show_addresses, [], []⟩
def d_show_rule : He.DefD := ⟨("show_rule", none), "show_rule", "show_rule", defArgs s_show_rule, defBody s_show_rule, defScope s_show_rule, [], []⟩
def d_default_by : He.DefD := ⟨("default_by", none), "default_by", "default_by", defArgs s_default_by, defBody s_default_by, defScope s_default_by, [], []⟩
def d_name_by : He.DefD := ⟨("name_by", none), "name_by", "name_by", defArgs s_name_by, defBody s_name_by, defScope s_name_by, [], []⟩
def d_rule_at : He.DefD := ⟨("rule_at", none), "rule_at", "rule_at", defArgs s_rule_at, defBody s_rule_at, defScope s_rule_at, [], []⟩
def d_read_book : He.DefD := ⟨("read_book", none), "read_book", "read_book", defArgs s_read_book, defBody s_read_book, defScope s_read_book, [], []⟩
def d_show_book : He.DefD := ⟨("show_book", none), "show_book", "show_book", defArgs s_show_book, defBody s_show_book, defScope s_show_book, [], []⟩
def d_read_label : He.DefD := ⟨("read_label", none), "read_label", "read_label", defArgs s_read_label, defBody s_read_label, defScope s_read_label, [], []⟩
def d_read_parcel : He.DefD := ⟨("read_parcel", none), "read_parcel", "read_parcel", defArgs s_read_parcel, defBody s_read_parcel, defScope s_read_parcel, [], []⟩
def d_show_label : He.DefD := ⟨("show_label", none), "show_label", "show_label", defArgs s_show_label, defBody s_show_label, defScope s_show_label, [], []⟩
def d_show_parcel : He.DefD := ⟨("show_parcel", none), "show_parcel", "show_parcel", defArgs s_show_parcel, defBody s_show_parcel, defScope s_show_parcel, [], []⟩
def d_read_order : He.DefD := ⟨("read_order", none), "read_order", "read_order", defArgs s_read_order, defBody s_read_order, defScope s_read_order, [], []⟩
def d_book_by : He.DefD := ⟨("book_by", none), "book_by", "book_by", defArgs s_book_by, defBody s_book_by, defScope s_book_by, [], []⟩
def d_need_no_rows : He.DefD := ⟨("need_no_rows", none), "need_no_rows", "need_no_rows", defArgs s_need_no_rows, defBody s_need_no_rows, defScope s_need_no_rows, [], []⟩
def d_never_of : He.DefD := ⟨("never_of", none), "never_of", "never_of", defArgs s_never_of, defBody s_never_of, defScope s_never_of, [], []⟩
def d_alike_of : He.DefD := ⟨("alike_of", none), "alike_of", "alike_of", defArgs s_alike_of, defBody s_alike_of, defScope s_alike_of, [], []⟩
def d_Desk_init : He.DefD := ⟨("Desk", some "__init__"), "__init__", "Desk.__init__", defArgs s_Desk_init, defBody s_Desk_init, defScope s_Desk_init, [], []⟩
def d_Desk_book_of : He.DefD := ⟨("Desk", some "book_of"), "book_of", "Desk.book_of", defArgs s_Desk_book_of, defBody s_Desk_book_of, defScope s_Desk_book_of, [], []⟩
def d_Desk_keep : He.DefD := ⟨("Desk", some "keep"), "keep", "Desk.keep", defArgs s_Desk_keep, defBody s_Desk_keep, defScope s_Desk_keep, [], []⟩
def d_Desk_asked : He.DefD := ⟨("Desk", some "asked"), "asked", "Desk.asked", defArgs s_Desk_asked, defBody s_Desk_asked, defScope s_Desk_asked, [], []⟩
def d_Desk_say : He.DefD := ⟨("Desk", some "say"), "say", "Desk.say", defArgs s_Desk_say, defBody s_Desk_say, defScope s_Desk_say, [], []⟩
def d_l_cell_at : He.DefD := ⟨("_law_cell_at", none), "_law_cell_at", "_law_cell_at", defArgs s_l_cell_at, defBody s_l_cell_at, defScope s_l_cell_at, [], []⟩
def d_l_top : He.DefD := ⟨("_law_top", none), "_law_top", "_law_top", defArgs s_l_top, defBody s_l_top, defScope s_l_top, [], []⟩
def d_l_marks : He.DefD := ⟨("_law_marks", none), "_law_marks", "_law_marks", defArgs s_l_marks, defBody s_l_marks, defScope s_l_marks, [], []⟩
def d_l_stretch : He.DefD := ⟨("_law_stretch", none), "_law_stretch", "_law_stretch", defArgs s_l_stretch, defBody s_l_stretch, defScope s_l_stretch, [], []⟩
def d_l_box : He.DefD := ⟨("_law_box", none), "_law_box", "_law_box", defArgs s_l_box, defBody s_l_box, defScope s_l_box, [], []⟩
def d_l_boxes : He.DefD := ⟨("_law_boxes", none), "_law_boxes", "_law_boxes", defArgs s_l_boxes, defBody s_l_boxes, defScope s_l_boxes, [], []⟩
def d_l_name : He.DefD := ⟨("_law_name", none), "_law_name", "_law_name", defArgs s_l_name, defBody s_l_name, defScope s_l_name, [], []⟩
def d_l_rule : He.DefD := ⟨("_law_rule", none), "_law_rule", "_law_rule", defArgs s_l_rule, defBody s_l_rule, defScope s_l_rule, [], []⟩
def d_l_chains : He.DefD := ⟨("_law_chains", none), "_law_chains", "_law_chains", defArgs s_l_chains, defBody s_l_chains, defScope s_l_chains, [], []⟩
def d_l_turned : He.DefD := ⟨("_law_turned", none), "_law_turned", "_law_turned", defArgs s_l_turned, defBody s_l_turned, defScope s_l_turned, [], []⟩
def d_l_near : He.DefD := ⟨("_law_near", none), "_law_near", "_law_near", defArgs s_l_near, defBody s_l_near, defScope s_l_near, [], []⟩
def d_l_books : He.DefD := ⟨("_law_books", none), "_law_books", "_law_books", defArgs s_l_books, defBody s_l_books, defScope s_l_books, [], []⟩
def d_l_parcel : He.DefD := ⟨("_law_parcel", none), "_law_parcel", "_law_parcel", defArgs s_l_parcel, defBody s_l_parcel, defScope s_l_parcel, [], []⟩
def d_l_has : He.DefD := ⟨("_law_has", none), "_law_has", "_law_has", defArgs s_l_has, defBody s_l_has, defScope s_l_has, [], []⟩
def d_l_read : He.DefD := ⟨("_law_read", none), "_law_read", "_law_read", defArgs s_l_read, defBody s_l_read, defScope s_l_read, [], []⟩
def d_l_dotted : He.DefD := ⟨("_law_dotted", none), "_law_dotted", "_law_dotted", defArgs s_l_dotted, defBody s_l_dotted, defScope s_l_dotted, [], []⟩
def d_l_shown : He.DefD := ⟨("_law_shown", none), "_law_shown", "_law_shown", defArgs s_l_shown, defBody s_l_shown, defScope s_l_shown, [], []⟩
def d_l_row : He.DefD := ⟨("_law_row", none), "_law_row", "_law_row", defArgs s_l_row, defBody s_l_row, defScope s_l_row, [], []⟩
def d_l_text : He.DefD := ⟨("_law_text", none), "_law_text", "_law_text", defArgs s_l_text, defBody s_l_text, defScope s_l_text, [], []⟩
def d_l_number : He.DefD := ⟨("_law_number", none), "_law_number", "_law_number", defArgs s_l_number, defBody s_l_number, defScope s_l_number, [], []⟩
def d_l_parsed : He.DefD := ⟨("_law_parsed", none), "_law_parsed", "_law_parsed", defArgs s_l_parsed, defBody s_l_parsed, defScope s_l_parsed, [], []⟩
def d_l_word : He.DefD := ⟨("_law_word", none), "_law_word", "_law_word", defArgs s_l_word, defBody s_l_word, defScope s_l_word, [], []⟩
def d_l_alike : He.DefD := ⟨("_law_alike", none), "_law_alike", "_law_alike", defArgs s_l_alike, defBody s_l_alike, defScope s_l_alike, [], []⟩
def d_l_never : He.DefD := ⟨("_law_never", none), "_law_never", "_law_never", defArgs s_l_never, defBody s_l_never, defScope s_l_never, [], []⟩
def d_l_length : He.DefD := ⟨("_law_length", none), "_law_length", "_law_length", defArgs s_l_length, defBody s_l_length, defScope s_l_length, [], []⟩
def d_l_words : He.DefD := ⟨("_law_words", none), "_law_words", "_law_words", defArgs s_l_words, defBody s_l_words, defScope s_l_words, [], []⟩
def d_l_shorter : He.DefD := ⟨("_law_shorter", none), "_law_shorter", "_law_shorter", defArgs s_l_shorter, defBody s_l_shorter, defScope s_l_shorter, [], []⟩
def d_l_boxes_told : He.DefD := ⟨("_law_boxes_told", none), "_law_boxes_told", "_law_boxes_told", defArgs s_l_boxes_told, defBody s_l_boxes_told, defScope s_l_boxes_told, [], []⟩
def d_law : He.DefD := ⟨("law", none), "law", "law", defArgs s_law, defBody s_law, defScope s_law, [], []⟩
def d_Word_fits : He.DefD := ⟨("Word", some "fits"), "fits", "Rule.fits", defArgs s_Rule_fits, defBody s_Rule_fits, defScope s_Rule_fits, [], []⟩
def d_Back_fits : He.DefD := ⟨("Back", some "fits"), "fits", "Rule.fits", defArgs s_Rule_fits, defBody s_Rule_fits, defScope s_Rule_fits, [], []⟩
def d_Call_fits : He.DefD := ⟨("Call", some "fits"), "fits", "Rule.fits", defArgs s_Rule_fits, defBody s_Rule_fits, defScope s_Rule_fits, [], []⟩
def d_Back_init : He.DefD := ⟨("Back", some "__init__"), "__init__", "Rule.__init__", defArgs s_Rule_init, defBody s_Rule_init, defScope s_Rule_init, [], []⟩
def fnl0 : List He.DefD := [d_holds, d_meet, d_has, d_common, d_corner, d_rests, d_looked, d_every, d_Rule_init, d_Rule_fits, d_Word_init, d_Word_told, d_Word_head, d_Back_told, d_Back_head, d_Call_init, d_Call_told, d_Call_head, d_rule_of, d_length_of, d_put_chain, d_unfolded, d_joint, d_parting, d_read_chain, d_word_of, d_calls_of, d_lengths_of, d_Book_init, d_Book_need_calls]
def fnl1 : List He.DefD := [d_Book_chain_names, d_Book_chain, d_Book_length, d_Book_told, d_reached, d_shorter, d_part_of, d_read_address, d_show_address, d_mask, d_beginning, d_shared, d_bits_of, d_words_of, d_is_name, d_number_by, d_address_by, d_numbers_by, d_addresses_by, d_box_by, d_rule_by, d_show_numbers, d_show_addresses, d_show_rule, d_default_by, d_name_by, d_rule_at, d_read_book, d_show_book, d_read_label]
def fnl2 : List He.DefD := [d_read_parcel, d_show_label, d_show_parcel, d_read_order, d_book_by, d_need_no_rows, d_never_of, d_alike_of, d_Desk_init, d_Desk_book_of, d_Desk_keep, d_Desk_asked, d_Desk_say, d_l_cell_at, d_l_top, d_l_marks, d_l_stretch, d_l_box, d_l_boxes, d_l_name, d_l_rule, d_l_chains, d_l_turned, d_l_near, d_l_books, d_l_parcel, d_l_has, d_l_read, d_l_dotted, d_l_shown]
def fnl3 : List He.DefD := [d_l_row, d_l_text, d_l_number, d_l_parsed, d_l_word, d_l_alike, d_l_never, d_l_length, d_l_words, d_l_shorter, d_l_boxes_told, d_law, d_Word_fits, d_Back_fits, d_Call_fits, d_Back_init]
def fnl : List He.DefD := fnl0 ++ (fnl1 ++ (fnl2 ++ (fnl3)))
def fal0 : List He.Fa := [.glo "holds", .glo "meet", .glo "has", .glo "common", .glo "corner", .glo "rests", .glo "looked", .glo "every", .glo "Rule", .glo "Word", .glo "Back", .glo "Call", .glo "rule_of", .glo "length_of", .glo "put_chain", .glo "unfolded", .glo "joint", .glo "parting", .glo "SieveError", .glo "NoAddress", .glo "NoRow", .glo "TwoChains", .glo "NoChain", .glo "Ring", .glo "TooLong", .glo "NoName", .glo "read_chain", .glo "word_of", .glo "calls_of", .glo "lengths_of"]
def fal1 : List He.Fa := [.glo "Book", .glo "reached", .glo "shorter", .glo "part_of", .glo "read_address", .glo "show_address", .glo "mask", .glo "beginning", .glo "shared", .glo "bits_of", .glo "words_of", .glo "is_name", .glo "number_by", .glo "address_by", .glo "numbers_by", .glo "addresses_by", .glo "box_by", .glo "rule_by", .glo "show_numbers", .glo "show_addresses", .glo "show_rule", .glo "default_by", .glo "name_by", .glo "rule_at", .glo "read_book", .glo "show_book", .glo "read_label", .glo "read_parcel", .glo "show_label", .glo "show_parcel"]
def fal2 : List He.Fa := [.glo "read_order", .glo "book_by", .glo "need_no_rows", .glo "never_of", .glo "alike_of", .glo "Desk", .glo "_law_cell_at", .glo "_law_top", .glo "_law_marks", .glo "_law_stretch", .glo "_law_box", .glo "_law_boxes", .glo "_law_name", .glo "_law_rule", .glo "_law_chains", .glo "_law_turned", .glo "_law_near", .glo "_law_books", .glo "_law_parcel", .glo "_law_has", .glo "_law_read", .glo "_law_dotted", .glo "_law_shown", .glo "_law_row", .glo "_law_text", .glo "_law_number", .glo "_law_parsed", .glo "_law_word", .glo "_law_alike", .glo "_law_never"]
def fal3 : List He.Fa := [.glo "_law_length", .glo "_law_words", .glo "_law_shorter", .glo "_law_boxes_told", .glo "law", .cls "Rule", .mkr "Rule", .meth "Rule" "fits", .meth "Rule" "__init__", .noat "Rule" "box", .cls "Word", .mkr "Word", .meth "Word" "told", .meth "Word" "head", .meth "Word" "fits", .noat "Word" "box", .noat "Word" "word", .cls "Back", .mkr "Back", .meth "Back" "told", .meth "Back" "head", .meth "Back" "fits", .noat "Back" "box", .cls "Call", .mkr "Call", .meth "Call" "told", .meth "Call" "head", .meth "Call" "fits", .noat "Call" "box", .noat "Call" "name"]
def fal4 : List He.Fa := [.cls "Book", .mkr "Book", .meth "Book" "need_calls", .meth "Book" "chain_names", .meth "Book" "chain", .meth "Book" "length", .meth "Book" "told", .noat "Book" "default", .noat "Book" "chains", .noat "Book" "total", .cls "Desk", .mkr "Desk", .meth "Desk" "book_of", .meth "Desk" "keep", .meth "Desk" "asked", .meth "Desk" "say", .noat "Desk" "books", .noat "Desk" "gates", .free "len", .free "zip", .free "max", .free "min", .free "tuple", .free "range", .free "reversed", .free "isinstance", .free "enumerate", .free "list", .free "sum", .free "all"]
def fal5 : List He.Fa := [.free "int", .free "str", .int "LONGEST_books" 120, .int "ALL" 4294967295, .int "LATEST" 1000000000000, .int "LONGEST_slips" 1000000000, .int "MOST" 100, .str "FIGURES" "0123456789", .str "LETTERS" "abcdefghijklmnopqrstuvwxyz", .glo "HIGHEST", .glo "PAIRS"]
def fal : List He.Fa := fal0 ++ (fal1 ++ (fal2 ++ (fal3 ++ (fal4 ++ (fal5)))))
def nml0 : List PySem.Str := ["holds", "meet", "has", "common", "corner", "rests", "looked", "HIGHEST", "every", "Rule", "Word", "Back", "Call", "rule_of", "length_of", "put_chain", "unfolded", "joint", "parting", "SieveError", "NoAddress", "NoRow", "TwoChains", "NoChain", "Ring", "TooLong", "OutOfTime", "Taken", "Full", "NoTalk"]
def nml1 : List PySem.Str := ["NoName", "changed", "least", "choice", "read_chain", "word_of", "path", "flip", "Talk", "Table", "Gate", "LONGEST_books", "calls_of", "lengths_of", "ring_of", "Book", "reached", "shorter", "FIGURES", "part_of", "read_address", "show_address", "ALL", "mask", "beginning", "shared", "bits_of", "LETTERS", "PAIRS", "words_of"]
def nml2 : List PySem.Str := ["is_name", "number_by", "address_by", "numbers_by", "addresses_by", "box_by", "rule_by", "show_numbers", "show_addresses", "show_rule", "default_by", "name_by", "rule_at", "read_book", "show_book", "LATEST", "LONGEST_slips", "MOST", "read_label", "read_parcel", "show_label", "show_parcel", "read_change", "moment_by", "count_by", "take_by", "read_order", "book_by", "change_at", "changes_by"]
def nml3 : List PySem.Str := ["need_no_rows", "path_of", "never_of", "alike_of", "taken", "Desk", "_law_cell_at", "_law_top", "_law_marks", "_law_stretch", "_law_box", "_law_boxes", "_law_name", "_law_rule", "_law_chains", "_law_turned", "_law_near", "_law_books", "_law_parcel", "_law_has", "_law_read", "_law_dotted", "_law_shown", "_law_row", "_law_text", "_law_number", "_law_parsed", "_law_word", "_law_alike", "_law_never"]
def nml4 : List PySem.Str := ["_law_length", "_law_words", "_law_shorter", "_law_boxes_told"]
def nml : List PySem.Str := nml0 ++ (nml1 ++ (nml2 ++ (nml3 ++ (nml4))))
def cvB (K : PySem.W.Frag) (c mc : Value) (f : Str) (a : Addr) : Bool := match PySem.W.findCls K c mc f with
  | some (.val (.ref b)) => decide (b = a)
  | _ => false
theorem cvB_ok {K : PySem.W.Frag} {c mc : Value} {f : Str} {a : Addr} (h : cvB K c mc f a = true) : PySem.W.findCls K c mc f = some (.val (.ref a)) := by
  unfold cvB at h
  split at h
  · rename_i b e
    rw [e, of_decide_eq_true h]
  · cases h
def tnB (K : PySem.W.Frag) (x : Str) : Bool := match K.lookup (He.ga K x) with
  | some ⟨.type c, none, _, _⟩ => decide (c = "tuple")
  | _ => false
theorem tnB_ok {K : PySem.W.Frag} {x : Str} {H0 : Hp} (h : tnB K x = true) : tyV K "tuple" (.ref (He.ga K x)) H0 := by
  unfold tnB at h
  split at h
  · rename_i c dt sl e
    have h := of_decide_eq_true h
    subst h
    exact .inr (.inl ⟨rfl, _, e, rfl, rfl⟩)
  · cases h
def exl0 : List (PySem.W.Frag → Bool) := [fun K => He.eqO (PySem.W.findIn K (.ref (He.ga K "Word")) "__class__") (some (some (.builtin "object.__class__"))), fun K => decide (PySem.W.mroIn K (He.ga K "Word") (.type "object") = some true), fun K => decide (PySem.W.kitOne K (.ref (He.ga K "Word")) (.ref (He.ga K "Word")) = some true), fun K => decide (PySem.W.kitOne K (.ref (He.ga K "Word")) (.ref (He.ga K "Call")) = some false), fun K => He.eqO (PySem.W.findIn K (.ref (He.ga K "Back")) "__class__") (some (some (.builtin "object.__class__"))), fun K => decide (PySem.W.mroIn K (He.ga K "Back") (.type "object") = some true)]
def exl1 : List (PySem.W.Frag → Bool) := [fun K => decide (PySem.W.kitOne K (.ref (He.ga K "Back")) (.ref (He.ga K "Word")) = some false), fun K => decide (PySem.W.kitOne K (.ref (He.ga K "Back")) (.ref (He.ga K "Call")) = some false), fun K => He.eqO (PySem.W.findIn K (.ref (He.ga K "Call")) "__class__") (some (some (.builtin "object.__class__"))), fun K => decide (PySem.W.mroIn K (He.ga K "Call") (.type "object") = some true), fun K => decide (PySem.W.kitOne K (.ref (He.ga K "Call")) (.ref (He.ga K "Word")) = some false), fun K => decide (PySem.W.kitOne K (.ref (He.ga K "Call")) (.ref (He.ga K "Call")) = some true)]
def exl2 : List (PySem.W.Frag → Bool) := [fun K => He.eqO (PySem.W.specialIn K (.builtin "object.__class__") "__get__") (some (some (.builtin "getset_descriptor.__get__"))), fun K => decide (PySem.W.takesIn K (.builtin "object.__class__") = some true), fun K => PySem.W.readsIn K (He.ga K "Rule") (.type "type"), fun K => He.eqO (PySem.W.specialIn K (.ref (He.ga K "Rule")) "__getattribute__") (some (some (.builtin "type.__getattribute__"))), fun K => cvB K (.ref (He.ga K "Rule")) (.type "type") "__init__" (He.ma K (He.ga K "Rule") "__init__"), fun K => He.tupB K "HIGHEST" [.int 3, .int 255, .int 4294967295, .int 65535, .int 4294967295, .int 65535]]
def exl3 : List (PySem.W.Frag → Bool) := [fun K => He.tupB K "PAIRS" [.str "turn", .str "kind", .str "from", .str "fromdoor", .str "to", .str "todoor"], fun K => tnB K "PAIRS"]
def exl : List (PySem.W.Frag → Bool) := exl0 ++ (exl1 ++ (exl2 ++ (exl3)))
def exB (K : PySem.W.Frag) : Bool := exl.all fun f => f K
/-- what the top has written -/
structure Tx (K : PySem.W.Frag) (mg : Str → Option Value) : Prop where
  ex : ∃ h : Heap, K.In h ∧ h.Ns mainGlobals mg
  says : He.SaysD fal fnl K
  more : exB K = true
section
variable {K : PySem.W.Frag} {mg : Str → Option Value}
theorem Tx.at_ (T : Tx K mg) (i : Nat) {f : PySem.W.Frag → Bool} (h : exl[i]? = some f := by rfl) : f K = true := List.all_eq_true.mp T.more f (List.mem_of_getElem? h)
theorem Tx.x_cls_Word (T : Tx K mg) : PySem.W.findIn K (.ref (He.ga K "Word")) "__class__" = some (some (.builtin "object.__class__")) := He.eqO_ok (T.at_ 0 (f := fun K => He.eqO (PySem.W.findIn K (.ref (He.ga K "Word")) "__class__") (some (some (.builtin "object.__class__")))))
theorem Tx.x_mro_Word (T : Tx K mg) : PySem.W.mroIn K (He.ga K "Word") (.type "object") = some true := of_decide_eq_true (T.at_ 1 (f := fun K => decide (PySem.W.mroIn K (He.ga K "Word") (.type "object") = some true)))
theorem Tx.x_kit_Word_Word (T : Tx K mg) : PySem.W.kitOne K (.ref (He.ga K "Word")) (.ref (He.ga K "Word")) = some true := of_decide_eq_true (T.at_ 2 (f := fun K => decide (PySem.W.kitOne K (.ref (He.ga K "Word")) (.ref (He.ga K "Word")) = some true)))
theorem Tx.x_kit_Word_Call (T : Tx K mg) : PySem.W.kitOne K (.ref (He.ga K "Word")) (.ref (He.ga K "Call")) = some false := of_decide_eq_true (T.at_ 3 (f := fun K => decide (PySem.W.kitOne K (.ref (He.ga K "Word")) (.ref (He.ga K "Call")) = some false)))
theorem Tx.x_cls_Back (T : Tx K mg) : PySem.W.findIn K (.ref (He.ga K "Back")) "__class__" = some (some (.builtin "object.__class__")) := He.eqO_ok (T.at_ 4 (f := fun K => He.eqO (PySem.W.findIn K (.ref (He.ga K "Back")) "__class__") (some (some (.builtin "object.__class__")))))
theorem Tx.x_mro_Back (T : Tx K mg) : PySem.W.mroIn K (He.ga K "Back") (.type "object") = some true := of_decide_eq_true (T.at_ 5 (f := fun K => decide (PySem.W.mroIn K (He.ga K "Back") (.type "object") = some true)))
theorem Tx.x_kit_Back_Word (T : Tx K mg) : PySem.W.kitOne K (.ref (He.ga K "Back")) (.ref (He.ga K "Word")) = some false := of_decide_eq_true (T.at_ 6 (f := fun K => decide (PySem.W.kitOne K (.ref (He.ga K "Back")) (.ref (He.ga K "Word")) = some false)))
theorem Tx.x_kit_Back_Call (T : Tx K mg) : PySem.W.kitOne K (.ref (He.ga K "Back")) (.ref (He.ga K "Call")) = some false := of_decide_eq_true (T.at_ 7 (f := fun K => decide (PySem.W.kitOne K (.ref (He.ga K "Back")) (.ref (He.ga K "Call")) = some false)))
theorem Tx.x_cls_Call (T : Tx K mg) : PySem.W.findIn K (.ref (He.ga K "Call")) "__class__" = some (some (.builtin "object.__class__")) := He.eqO_ok (T.at_ 8 (f := fun K => He.eqO (PySem.W.findIn K (.ref (He.ga K "Call")) "__class__") (some (some (.builtin "object.__class__")))))
theorem Tx.x_mro_Call (T : Tx K mg) : PySem.W.mroIn K (He.ga K "Call") (.type "object") = some true := of_decide_eq_true (T.at_ 9 (f := fun K => decide (PySem.W.mroIn K (He.ga K "Call") (.type "object") = some true)))
theorem Tx.x_kit_Call_Word (T : Tx K mg) : PySem.W.kitOne K (.ref (He.ga K "Call")) (.ref (He.ga K "Word")) = some false := of_decide_eq_true (T.at_ 10 (f := fun K => decide (PySem.W.kitOne K (.ref (He.ga K "Call")) (.ref (He.ga K "Word")) = some false)))
theorem Tx.x_kit_Call_Call (T : Tx K mg) : PySem.W.kitOne K (.ref (He.ga K "Call")) (.ref (He.ga K "Call")) = some true := of_decide_eq_true (T.at_ 11 (f := fun K => decide (PySem.W.kitOne K (.ref (He.ga K "Call")) (.ref (He.ga K "Call")) = some true)))
theorem Tx.x_get (T : Tx K mg) : PySem.W.specialIn K (.builtin "object.__class__") "__get__" = some (some (.builtin "getset_descriptor.__get__")) := He.eqO_ok (T.at_ 12 (f := fun K => He.eqO (PySem.W.specialIn K (.builtin "object.__class__") "__get__") (some (some (.builtin "getset_descriptor.__get__")))))
theorem Tx.x_tk (T : Tx K mg) : PySem.W.takesIn K (.builtin "object.__class__") = some true := of_decide_eq_true (T.at_ 13 (f := fun K => decide (PySem.W.takesIn K (.builtin "object.__class__") = some true)))
theorem Tx.x_rd (T : Tx K mg) : PySem.W.readsIn K (He.ga K "Rule") (.type "type") = true := id (T.at_ 14 (f := fun K => PySem.W.readsIn K (He.ga K "Rule") (.type "type")))
theorem Tx.x_ga (T : Tx K mg) : PySem.W.specialIn K (.ref (He.ga K "Rule")) "__getattribute__" = some (some (.builtin "type.__getattribute__")) := He.eqO_ok (T.at_ 15 (f := fun K => He.eqO (PySem.W.specialIn K (.ref (He.ga K "Rule")) "__getattribute__") (some (some (.builtin "type.__getattribute__")))))
theorem Tx.x_cv (T : Tx K mg) : PySem.W.findCls K (.ref (He.ga K "Rule")) (.type "type") "__init__" = some (.val (.ref (He.ma K (He.ga K "Rule") "__init__"))) := cvB_ok (T.at_ 16 (f := fun K => cvB K (.ref (He.ga K "Rule")) (.type "type") "__init__" (He.ma K (He.ga K "Rule") "__init__")))
theorem Tx.x_HIGHEST (T : Tx K mg) : He.tupB K "HIGHEST" [.int 3, .int 255, .int 4294967295, .int 65535, .int 4294967295, .int 65535] = true := id (T.at_ 17 (f := fun K => He.tupB K "HIGHEST" [.int 3, .int 255, .int 4294967295, .int 65535, .int 4294967295, .int 65535]))
theorem Tx.x_PAIRS (T : Tx K mg) : He.tupB K "PAIRS" [.str "turn", .str "kind", .str "from", .str "fromdoor", .str "to", .str "todoor"] = true := id (T.at_ 18 (f := fun K => He.tupB K "PAIRS" [.str "turn", .str "kind", .str "from", .str "fromdoor", .str "to", .str "todoor"]))
theorem Tx.x_PT (T : Tx K mg) {H0 : Hp} : tyV K "tuple" (.ref (He.ga K "PAIRS")) H0 := tnB_ok (T.at_ 19 (f := fun K => tnB K "PAIRS"))
theorem Tx.g_holds (T : Tx K mg) : mg "holds" = some (.ref (He.ga K "holds")) := let ⟨_, X, G⟩ := T.ex; He.glo_ok X G (T.says.fact 0 (f := .glo "holds"))
theorem Tx.g_meet (T : Tx K mg) : mg "meet" = some (.ref (He.ga K "meet")) := let ⟨_, X, G⟩ := T.ex; He.glo_ok X G (T.says.fact 1 (f := .glo "meet"))
theorem Tx.g_has (T : Tx K mg) : mg "has" = some (.ref (He.ga K "has")) := let ⟨_, X, G⟩ := T.ex; He.glo_ok X G (T.says.fact 2 (f := .glo "has"))
theorem Tx.g_common (T : Tx K mg) : mg "common" = some (.ref (He.ga K "common")) := let ⟨_, X, G⟩ := T.ex; He.glo_ok X G (T.says.fact 3 (f := .glo "common"))
theorem Tx.g_corner (T : Tx K mg) : mg "corner" = some (.ref (He.ga K "corner")) := let ⟨_, X, G⟩ := T.ex; He.glo_ok X G (T.says.fact 4 (f := .glo "corner"))
theorem Tx.g_rests (T : Tx K mg) : mg "rests" = some (.ref (He.ga K "rests")) := let ⟨_, X, G⟩ := T.ex; He.glo_ok X G (T.says.fact 5 (f := .glo "rests"))
theorem Tx.g_looked (T : Tx K mg) : mg "looked" = some (.ref (He.ga K "looked")) := let ⟨_, X, G⟩ := T.ex; He.glo_ok X G (T.says.fact 6 (f := .glo "looked"))
theorem Tx.g_every (T : Tx K mg) : mg "every" = some (.ref (He.ga K "every")) := let ⟨_, X, G⟩ := T.ex; He.glo_ok X G (T.says.fact 7 (f := .glo "every"))
theorem Tx.g_Rule (T : Tx K mg) : mg "Rule" = some (.ref (He.ga K "Rule")) := let ⟨_, X, G⟩ := T.ex; He.glo_ok X G (T.says.fact 8 (f := .glo "Rule"))
theorem Tx.g_Word (T : Tx K mg) : mg "Word" = some (.ref (He.ga K "Word")) := let ⟨_, X, G⟩ := T.ex; He.glo_ok X G (T.says.fact 9 (f := .glo "Word"))
theorem Tx.g_Back (T : Tx K mg) : mg "Back" = some (.ref (He.ga K "Back")) := let ⟨_, X, G⟩ := T.ex; He.glo_ok X G (T.says.fact 10 (f := .glo "Back"))
theorem Tx.g_Call (T : Tx K mg) : mg "Call" = some (.ref (He.ga K "Call")) := let ⟨_, X, G⟩ := T.ex; He.glo_ok X G (T.says.fact 11 (f := .glo "Call"))
theorem Tx.g_rule_of (T : Tx K mg) : mg "rule_of" = some (.ref (He.ga K "rule_of")) := let ⟨_, X, G⟩ := T.ex; He.glo_ok X G (T.says.fact 12 (f := .glo "rule_of"))
theorem Tx.g_length_of (T : Tx K mg) : mg "length_of" = some (.ref (He.ga K "length_of")) := let ⟨_, X, G⟩ := T.ex; He.glo_ok X G (T.says.fact 13 (f := .glo "length_of"))
theorem Tx.g_put_chain (T : Tx K mg) : mg "put_chain" = some (.ref (He.ga K "put_chain")) := let ⟨_, X, G⟩ := T.ex; He.glo_ok X G (T.says.fact 14 (f := .glo "put_chain"))
theorem Tx.g_unfolded (T : Tx K mg) : mg "unfolded" = some (.ref (He.ga K "unfolded")) := let ⟨_, X, G⟩ := T.ex; He.glo_ok X G (T.says.fact 15 (f := .glo "unfolded"))
theorem Tx.g_joint (T : Tx K mg) : mg "joint" = some (.ref (He.ga K "joint")) := let ⟨_, X, G⟩ := T.ex; He.glo_ok X G (T.says.fact 16 (f := .glo "joint"))
theorem Tx.g_parting (T : Tx K mg) : mg "parting" = some (.ref (He.ga K "parting")) := let ⟨_, X, G⟩ := T.ex; He.glo_ok X G (T.says.fact 17 (f := .glo "parting"))
theorem Tx.g_SieveError (T : Tx K mg) : mg "SieveError" = some (.ref (He.ga K "SieveError")) := let ⟨_, X, G⟩ := T.ex; He.glo_ok X G (T.says.fact 18 (f := .glo "SieveError"))
theorem Tx.g_NoAddress (T : Tx K mg) : mg "NoAddress" = some (.ref (He.ga K "NoAddress")) := let ⟨_, X, G⟩ := T.ex; He.glo_ok X G (T.says.fact 19 (f := .glo "NoAddress"))
theorem Tx.g_NoRow (T : Tx K mg) : mg "NoRow" = some (.ref (He.ga K "NoRow")) := let ⟨_, X, G⟩ := T.ex; He.glo_ok X G (T.says.fact 20 (f := .glo "NoRow"))
theorem Tx.g_TwoChains (T : Tx K mg) : mg "TwoChains" = some (.ref (He.ga K "TwoChains")) := let ⟨_, X, G⟩ := T.ex; He.glo_ok X G (T.says.fact 21 (f := .glo "TwoChains"))
theorem Tx.g_NoChain (T : Tx K mg) : mg "NoChain" = some (.ref (He.ga K "NoChain")) := let ⟨_, X, G⟩ := T.ex; He.glo_ok X G (T.says.fact 22 (f := .glo "NoChain"))
theorem Tx.g_Ring (T : Tx K mg) : mg "Ring" = some (.ref (He.ga K "Ring")) := let ⟨_, X, G⟩ := T.ex; He.glo_ok X G (T.says.fact 23 (f := .glo "Ring"))
theorem Tx.g_TooLong (T : Tx K mg) : mg "TooLong" = some (.ref (He.ga K "TooLong")) := let ⟨_, X, G⟩ := T.ex; He.glo_ok X G (T.says.fact 24 (f := .glo "TooLong"))
theorem Tx.g_NoName (T : Tx K mg) : mg "NoName" = some (.ref (He.ga K "NoName")) := let ⟨_, X, G⟩ := T.ex; He.glo_ok X G (T.says.fact 25 (f := .glo "NoName"))
theorem Tx.g_read_chain (T : Tx K mg) : mg "read_chain" = some (.ref (He.ga K "read_chain")) := let ⟨_, X, G⟩ := T.ex; He.glo_ok X G (T.says.fact 26 (f := .glo "read_chain"))
theorem Tx.g_word_of (T : Tx K mg) : mg "word_of" = some (.ref (He.ga K "word_of")) := let ⟨_, X, G⟩ := T.ex; He.glo_ok X G (T.says.fact 27 (f := .glo "word_of"))
theorem Tx.g_calls_of (T : Tx K mg) : mg "calls_of" = some (.ref (He.ga K "calls_of")) := let ⟨_, X, G⟩ := T.ex; He.glo_ok X G (T.says.fact 28 (f := .glo "calls_of"))
theorem Tx.g_lengths_of (T : Tx K mg) : mg "lengths_of" = some (.ref (He.ga K "lengths_of")) := let ⟨_, X, G⟩ := T.ex; He.glo_ok X G (T.says.fact 29 (f := .glo "lengths_of"))
theorem Tx.g_Book (T : Tx K mg) : mg "Book" = some (.ref (He.ga K "Book")) := let ⟨_, X, G⟩ := T.ex; He.glo_ok X G (T.says.fact 30 (f := .glo "Book"))
theorem Tx.g_reached (T : Tx K mg) : mg "reached" = some (.ref (He.ga K "reached")) := let ⟨_, X, G⟩ := T.ex; He.glo_ok X G (T.says.fact 31 (f := .glo "reached"))
theorem Tx.g_shorter (T : Tx K mg) : mg "shorter" = some (.ref (He.ga K "shorter")) := let ⟨_, X, G⟩ := T.ex; He.glo_ok X G (T.says.fact 32 (f := .glo "shorter"))
theorem Tx.g_part_of (T : Tx K mg) : mg "part_of" = some (.ref (He.ga K "part_of")) := let ⟨_, X, G⟩ := T.ex; He.glo_ok X G (T.says.fact 33 (f := .glo "part_of"))
theorem Tx.g_read_address (T : Tx K mg) : mg "read_address" = some (.ref (He.ga K "read_address")) := let ⟨_, X, G⟩ := T.ex; He.glo_ok X G (T.says.fact 34 (f := .glo "read_address"))
theorem Tx.g_show_address (T : Tx K mg) : mg "show_address" = some (.ref (He.ga K "show_address")) := let ⟨_, X, G⟩ := T.ex; He.glo_ok X G (T.says.fact 35 (f := .glo "show_address"))
theorem Tx.g_mask (T : Tx K mg) : mg "mask" = some (.ref (He.ga K "mask")) := let ⟨_, X, G⟩ := T.ex; He.glo_ok X G (T.says.fact 36 (f := .glo "mask"))
theorem Tx.g_beginning (T : Tx K mg) : mg "beginning" = some (.ref (He.ga K "beginning")) := let ⟨_, X, G⟩ := T.ex; He.glo_ok X G (T.says.fact 37 (f := .glo "beginning"))
theorem Tx.g_shared (T : Tx K mg) : mg "shared" = some (.ref (He.ga K "shared")) := let ⟨_, X, G⟩ := T.ex; He.glo_ok X G (T.says.fact 38 (f := .glo "shared"))
theorem Tx.g_bits_of (T : Tx K mg) : mg "bits_of" = some (.ref (He.ga K "bits_of")) := let ⟨_, X, G⟩ := T.ex; He.glo_ok X G (T.says.fact 39 (f := .glo "bits_of"))
theorem Tx.g_words_of (T : Tx K mg) : mg "words_of" = some (.ref (He.ga K "words_of")) := let ⟨_, X, G⟩ := T.ex; He.glo_ok X G (T.says.fact 40 (f := .glo "words_of"))
theorem Tx.g_is_name (T : Tx K mg) : mg "is_name" = some (.ref (He.ga K "is_name")) := let ⟨_, X, G⟩ := T.ex; He.glo_ok X G (T.says.fact 41 (f := .glo "is_name"))
theorem Tx.g_number_by (T : Tx K mg) : mg "number_by" = some (.ref (He.ga K "number_by")) := let ⟨_, X, G⟩ := T.ex; He.glo_ok X G (T.says.fact 42 (f := .glo "number_by"))
theorem Tx.g_address_by (T : Tx K mg) : mg "address_by" = some (.ref (He.ga K "address_by")) := let ⟨_, X, G⟩ := T.ex; He.glo_ok X G (T.says.fact 43 (f := .glo "address_by"))
theorem Tx.g_numbers_by (T : Tx K mg) : mg "numbers_by" = some (.ref (He.ga K "numbers_by")) := let ⟨_, X, G⟩ := T.ex; He.glo_ok X G (T.says.fact 44 (f := .glo "numbers_by"))
theorem Tx.g_addresses_by (T : Tx K mg) : mg "addresses_by" = some (.ref (He.ga K "addresses_by")) := let ⟨_, X, G⟩ := T.ex; He.glo_ok X G (T.says.fact 45 (f := .glo "addresses_by"))
theorem Tx.g_box_by (T : Tx K mg) : mg "box_by" = some (.ref (He.ga K "box_by")) := let ⟨_, X, G⟩ := T.ex; He.glo_ok X G (T.says.fact 46 (f := .glo "box_by"))
theorem Tx.g_rule_by (T : Tx K mg) : mg "rule_by" = some (.ref (He.ga K "rule_by")) := let ⟨_, X, G⟩ := T.ex; He.glo_ok X G (T.says.fact 47 (f := .glo "rule_by"))
theorem Tx.g_show_numbers (T : Tx K mg) : mg "show_numbers" = some (.ref (He.ga K "show_numbers")) := let ⟨_, X, G⟩ := T.ex; He.glo_ok X G (T.says.fact 48 (f := .glo "show_numbers"))
theorem Tx.g_show_addresses (T : Tx K mg) : mg "show_addresses" = some (.ref (He.ga K "show_addresses")) := let ⟨_, X, G⟩ := T.ex; He.glo_ok X G (T.says.fact 49 (f := .glo "show_addresses"))
theorem Tx.g_show_rule (T : Tx K mg) : mg "show_rule" = some (.ref (He.ga K "show_rule")) := let ⟨_, X, G⟩ := T.ex; He.glo_ok X G (T.says.fact 50 (f := .glo "show_rule"))
theorem Tx.g_default_by (T : Tx K mg) : mg "default_by" = some (.ref (He.ga K "default_by")) := let ⟨_, X, G⟩ := T.ex; He.glo_ok X G (T.says.fact 51 (f := .glo "default_by"))
theorem Tx.g_name_by (T : Tx K mg) : mg "name_by" = some (.ref (He.ga K "name_by")) := let ⟨_, X, G⟩ := T.ex; He.glo_ok X G (T.says.fact 52 (f := .glo "name_by"))
theorem Tx.g_rule_at (T : Tx K mg) : mg "rule_at" = some (.ref (He.ga K "rule_at")) := let ⟨_, X, G⟩ := T.ex; He.glo_ok X G (T.says.fact 53 (f := .glo "rule_at"))
theorem Tx.g_read_book (T : Tx K mg) : mg "read_book" = some (.ref (He.ga K "read_book")) := let ⟨_, X, G⟩ := T.ex; He.glo_ok X G (T.says.fact 54 (f := .glo "read_book"))
theorem Tx.g_show_book (T : Tx K mg) : mg "show_book" = some (.ref (He.ga K "show_book")) := let ⟨_, X, G⟩ := T.ex; He.glo_ok X G (T.says.fact 55 (f := .glo "show_book"))
theorem Tx.g_read_label (T : Tx K mg) : mg "read_label" = some (.ref (He.ga K "read_label")) := let ⟨_, X, G⟩ := T.ex; He.glo_ok X G (T.says.fact 56 (f := .glo "read_label"))
theorem Tx.g_read_parcel (T : Tx K mg) : mg "read_parcel" = some (.ref (He.ga K "read_parcel")) := let ⟨_, X, G⟩ := T.ex; He.glo_ok X G (T.says.fact 57 (f := .glo "read_parcel"))
theorem Tx.g_show_label (T : Tx K mg) : mg "show_label" = some (.ref (He.ga K "show_label")) := let ⟨_, X, G⟩ := T.ex; He.glo_ok X G (T.says.fact 58 (f := .glo "show_label"))
theorem Tx.g_show_parcel (T : Tx K mg) : mg "show_parcel" = some (.ref (He.ga K "show_parcel")) := let ⟨_, X, G⟩ := T.ex; He.glo_ok X G (T.says.fact 59 (f := .glo "show_parcel"))
theorem Tx.g_read_order (T : Tx K mg) : mg "read_order" = some (.ref (He.ga K "read_order")) := let ⟨_, X, G⟩ := T.ex; He.glo_ok X G (T.says.fact 60 (f := .glo "read_order"))
theorem Tx.g_book_by (T : Tx K mg) : mg "book_by" = some (.ref (He.ga K "book_by")) := let ⟨_, X, G⟩ := T.ex; He.glo_ok X G (T.says.fact 61 (f := .glo "book_by"))
theorem Tx.g_need_no_rows (T : Tx K mg) : mg "need_no_rows" = some (.ref (He.ga K "need_no_rows")) := let ⟨_, X, G⟩ := T.ex; He.glo_ok X G (T.says.fact 62 (f := .glo "need_no_rows"))
theorem Tx.g_never_of (T : Tx K mg) : mg "never_of" = some (.ref (He.ga K "never_of")) := let ⟨_, X, G⟩ := T.ex; He.glo_ok X G (T.says.fact 63 (f := .glo "never_of"))
theorem Tx.g_alike_of (T : Tx K mg) : mg "alike_of" = some (.ref (He.ga K "alike_of")) := let ⟨_, X, G⟩ := T.ex; He.glo_ok X G (T.says.fact 64 (f := .glo "alike_of"))
theorem Tx.g_Desk (T : Tx K mg) : mg "Desk" = some (.ref (He.ga K "Desk")) := let ⟨_, X, G⟩ := T.ex; He.glo_ok X G (T.says.fact 65 (f := .glo "Desk"))
theorem Tx.g_l_cell_at (T : Tx K mg) : mg "_law_cell_at" = some (.ref (He.ga K "_law_cell_at")) := let ⟨_, X, G⟩ := T.ex; He.glo_ok X G (T.says.fact 66 (f := .glo "_law_cell_at"))
theorem Tx.g_l_top (T : Tx K mg) : mg "_law_top" = some (.ref (He.ga K "_law_top")) := let ⟨_, X, G⟩ := T.ex; He.glo_ok X G (T.says.fact 67 (f := .glo "_law_top"))
theorem Tx.g_l_marks (T : Tx K mg) : mg "_law_marks" = some (.ref (He.ga K "_law_marks")) := let ⟨_, X, G⟩ := T.ex; He.glo_ok X G (T.says.fact 68 (f := .glo "_law_marks"))
theorem Tx.g_l_stretch (T : Tx K mg) : mg "_law_stretch" = some (.ref (He.ga K "_law_stretch")) := let ⟨_, X, G⟩ := T.ex; He.glo_ok X G (T.says.fact 69 (f := .glo "_law_stretch"))
theorem Tx.g_l_box (T : Tx K mg) : mg "_law_box" = some (.ref (He.ga K "_law_box")) := let ⟨_, X, G⟩ := T.ex; He.glo_ok X G (T.says.fact 70 (f := .glo "_law_box"))
theorem Tx.g_l_boxes (T : Tx K mg) : mg "_law_boxes" = some (.ref (He.ga K "_law_boxes")) := let ⟨_, X, G⟩ := T.ex; He.glo_ok X G (T.says.fact 71 (f := .glo "_law_boxes"))
theorem Tx.g_l_name (T : Tx K mg) : mg "_law_name" = some (.ref (He.ga K "_law_name")) := let ⟨_, X, G⟩ := T.ex; He.glo_ok X G (T.says.fact 72 (f := .glo "_law_name"))
theorem Tx.g_l_rule (T : Tx K mg) : mg "_law_rule" = some (.ref (He.ga K "_law_rule")) := let ⟨_, X, G⟩ := T.ex; He.glo_ok X G (T.says.fact 73 (f := .glo "_law_rule"))
theorem Tx.g_l_chains (T : Tx K mg) : mg "_law_chains" = some (.ref (He.ga K "_law_chains")) := let ⟨_, X, G⟩ := T.ex; He.glo_ok X G (T.says.fact 74 (f := .glo "_law_chains"))
theorem Tx.g_l_turned (T : Tx K mg) : mg "_law_turned" = some (.ref (He.ga K "_law_turned")) := let ⟨_, X, G⟩ := T.ex; He.glo_ok X G (T.says.fact 75 (f := .glo "_law_turned"))
theorem Tx.g_l_near (T : Tx K mg) : mg "_law_near" = some (.ref (He.ga K "_law_near")) := let ⟨_, X, G⟩ := T.ex; He.glo_ok X G (T.says.fact 76 (f := .glo "_law_near"))
theorem Tx.g_l_books (T : Tx K mg) : mg "_law_books" = some (.ref (He.ga K "_law_books")) := let ⟨_, X, G⟩ := T.ex; He.glo_ok X G (T.says.fact 77 (f := .glo "_law_books"))
theorem Tx.g_l_parcel (T : Tx K mg) : mg "_law_parcel" = some (.ref (He.ga K "_law_parcel")) := let ⟨_, X, G⟩ := T.ex; He.glo_ok X G (T.says.fact 78 (f := .glo "_law_parcel"))
theorem Tx.g_l_has (T : Tx K mg) : mg "_law_has" = some (.ref (He.ga K "_law_has")) := let ⟨_, X, G⟩ := T.ex; He.glo_ok X G (T.says.fact 79 (f := .glo "_law_has"))
theorem Tx.g_l_read (T : Tx K mg) : mg "_law_read" = some (.ref (He.ga K "_law_read")) := let ⟨_, X, G⟩ := T.ex; He.glo_ok X G (T.says.fact 80 (f := .glo "_law_read"))
theorem Tx.g_l_dotted (T : Tx K mg) : mg "_law_dotted" = some (.ref (He.ga K "_law_dotted")) := let ⟨_, X, G⟩ := T.ex; He.glo_ok X G (T.says.fact 81 (f := .glo "_law_dotted"))
theorem Tx.g_l_shown (T : Tx K mg) : mg "_law_shown" = some (.ref (He.ga K "_law_shown")) := let ⟨_, X, G⟩ := T.ex; He.glo_ok X G (T.says.fact 82 (f := .glo "_law_shown"))
theorem Tx.g_l_row (T : Tx K mg) : mg "_law_row" = some (.ref (He.ga K "_law_row")) := let ⟨_, X, G⟩ := T.ex; He.glo_ok X G (T.says.fact 83 (f := .glo "_law_row"))
theorem Tx.g_l_text (T : Tx K mg) : mg "_law_text" = some (.ref (He.ga K "_law_text")) := let ⟨_, X, G⟩ := T.ex; He.glo_ok X G (T.says.fact 84 (f := .glo "_law_text"))
theorem Tx.g_l_number (T : Tx K mg) : mg "_law_number" = some (.ref (He.ga K "_law_number")) := let ⟨_, X, G⟩ := T.ex; He.glo_ok X G (T.says.fact 85 (f := .glo "_law_number"))
theorem Tx.g_l_parsed (T : Tx K mg) : mg "_law_parsed" = some (.ref (He.ga K "_law_parsed")) := let ⟨_, X, G⟩ := T.ex; He.glo_ok X G (T.says.fact 86 (f := .glo "_law_parsed"))
theorem Tx.g_l_word (T : Tx K mg) : mg "_law_word" = some (.ref (He.ga K "_law_word")) := let ⟨_, X, G⟩ := T.ex; He.glo_ok X G (T.says.fact 87 (f := .glo "_law_word"))
theorem Tx.g_l_alike (T : Tx K mg) : mg "_law_alike" = some (.ref (He.ga K "_law_alike")) := let ⟨_, X, G⟩ := T.ex; He.glo_ok X G (T.says.fact 88 (f := .glo "_law_alike"))
theorem Tx.g_l_never (T : Tx K mg) : mg "_law_never" = some (.ref (He.ga K "_law_never")) := let ⟨_, X, G⟩ := T.ex; He.glo_ok X G (T.says.fact 89 (f := .glo "_law_never"))
theorem Tx.g_l_length (T : Tx K mg) : mg "_law_length" = some (.ref (He.ga K "_law_length")) := let ⟨_, X, G⟩ := T.ex; He.glo_ok X G (T.says.fact 90 (f := .glo "_law_length"))
theorem Tx.g_l_words (T : Tx K mg) : mg "_law_words" = some (.ref (He.ga K "_law_words")) := let ⟨_, X, G⟩ := T.ex; He.glo_ok X G (T.says.fact 91 (f := .glo "_law_words"))
theorem Tx.g_l_shorter (T : Tx K mg) : mg "_law_shorter" = some (.ref (He.ga K "_law_shorter")) := let ⟨_, X, G⟩ := T.ex; He.glo_ok X G (T.says.fact 92 (f := .glo "_law_shorter"))
theorem Tx.g_l_boxes_told (T : Tx K mg) : mg "_law_boxes_told" = some (.ref (He.ga K "_law_boxes_told")) := let ⟨_, X, G⟩ := T.ex; He.glo_ok X G (T.says.fact 93 (f := .glo "_law_boxes_told"))
theorem Tx.g_law (T : Tx K mg) : mg "law" = some (.ref (He.ga K "law")) := let ⟨_, X, G⟩ := T.ex; He.glo_ok X G (T.says.fact 94 (f := .glo "law"))
theorem Tx.c_Rule (T : Tx K mg) : Cls K (He.ga K "Rule") := He.cls_ok (T.says.fact 95 (f := .cls "Rule"))
theorem Tx.mk_Rule (T : Tx K mg) : Mk K (He.ga K "Rule") (He.ma K (He.ga K "Rule") "__init__") := He.mkr_ok (T.says.fact 96 (f := .mkr "Rule"))
theorem Tx.m_Rule_fits (T : Tx K mg) : Meth K (He.ga K "Rule") "fits" (He.ma K (He.ga K "Rule") "fits") := He.meth_ok (T.says.fact 97 (f := .meth "Rule" "fits"))
theorem Tx.m_Rule_init (T : Tx K mg) : Meth K (He.ga K "Rule") "__init__" (He.ma K (He.ga K "Rule") "__init__") := He.meth_ok (T.says.fact 98 (f := .meth "Rule" "__init__"))
theorem Tx.n_Rule_box (T : Tx K mg) : NoAttr K (He.ga K "Rule") "box" := He.noat_ok (T.says.fact 99 (f := .noat "Rule" "box"))
theorem Tx.c_Word (T : Tx K mg) : Cls K (He.ga K "Word") := He.cls_ok (T.says.fact 100 (f := .cls "Word"))
theorem Tx.mk_Word (T : Tx K mg) : Mk K (He.ga K "Word") (He.ma K (He.ga K "Word") "__init__") := He.mkr_ok (T.says.fact 101 (f := .mkr "Word"))
theorem Tx.m_Word_told (T : Tx K mg) : Meth K (He.ga K "Word") "told" (He.ma K (He.ga K "Word") "told") := He.meth_ok (T.says.fact 102 (f := .meth "Word" "told"))
theorem Tx.m_Word_head (T : Tx K mg) : Meth K (He.ga K "Word") "head" (He.ma K (He.ga K "Word") "head") := He.meth_ok (T.says.fact 103 (f := .meth "Word" "head"))
theorem Tx.m_Word_fits (T : Tx K mg) : Meth K (He.ga K "Word") "fits" (He.ma K (He.ga K "Word") "fits") := He.meth_ok (T.says.fact 104 (f := .meth "Word" "fits"))
theorem Tx.n_Word_box (T : Tx K mg) : NoAttr K (He.ga K "Word") "box" := He.noat_ok (T.says.fact 105 (f := .noat "Word" "box"))
theorem Tx.n_Word_word (T : Tx K mg) : NoAttr K (He.ga K "Word") "word" := He.noat_ok (T.says.fact 106 (f := .noat "Word" "word"))
theorem Tx.c_Back (T : Tx K mg) : Cls K (He.ga K "Back") := He.cls_ok (T.says.fact 107 (f := .cls "Back"))
theorem Tx.mk_Back (T : Tx K mg) : Mk K (He.ga K "Back") (He.ma K (He.ga K "Back") "__init__") := He.mkr_ok (T.says.fact 108 (f := .mkr "Back"))
theorem Tx.m_Back_told (T : Tx K mg) : Meth K (He.ga K "Back") "told" (He.ma K (He.ga K "Back") "told") := He.meth_ok (T.says.fact 109 (f := .meth "Back" "told"))
theorem Tx.m_Back_head (T : Tx K mg) : Meth K (He.ga K "Back") "head" (He.ma K (He.ga K "Back") "head") := He.meth_ok (T.says.fact 110 (f := .meth "Back" "head"))
theorem Tx.m_Back_fits (T : Tx K mg) : Meth K (He.ga K "Back") "fits" (He.ma K (He.ga K "Back") "fits") := He.meth_ok (T.says.fact 111 (f := .meth "Back" "fits"))
theorem Tx.n_Back_box (T : Tx K mg) : NoAttr K (He.ga K "Back") "box" := He.noat_ok (T.says.fact 112 (f := .noat "Back" "box"))
theorem Tx.c_Call (T : Tx K mg) : Cls K (He.ga K "Call") := He.cls_ok (T.says.fact 113 (f := .cls "Call"))
theorem Tx.mk_Call (T : Tx K mg) : Mk K (He.ga K "Call") (He.ma K (He.ga K "Call") "__init__") := He.mkr_ok (T.says.fact 114 (f := .mkr "Call"))
theorem Tx.m_Call_told (T : Tx K mg) : Meth K (He.ga K "Call") "told" (He.ma K (He.ga K "Call") "told") := He.meth_ok (T.says.fact 115 (f := .meth "Call" "told"))
theorem Tx.m_Call_head (T : Tx K mg) : Meth K (He.ga K "Call") "head" (He.ma K (He.ga K "Call") "head") := He.meth_ok (T.says.fact 116 (f := .meth "Call" "head"))
theorem Tx.m_Call_fits (T : Tx K mg) : Meth K (He.ga K "Call") "fits" (He.ma K (He.ga K "Call") "fits") := He.meth_ok (T.says.fact 117 (f := .meth "Call" "fits"))
theorem Tx.n_Call_box (T : Tx K mg) : NoAttr K (He.ga K "Call") "box" := He.noat_ok (T.says.fact 118 (f := .noat "Call" "box"))
theorem Tx.n_Call_name (T : Tx K mg) : NoAttr K (He.ga K "Call") "name" := He.noat_ok (T.says.fact 119 (f := .noat "Call" "name"))
theorem Tx.c_Book (T : Tx K mg) : Cls K (He.ga K "Book") := He.cls_ok (T.says.fact 120 (f := .cls "Book"))
theorem Tx.mk_Book (T : Tx K mg) : Mk K (He.ga K "Book") (He.ma K (He.ga K "Book") "__init__") := He.mkr_ok (T.says.fact 121 (f := .mkr "Book"))
theorem Tx.m_Book_need_calls (T : Tx K mg) : Meth K (He.ga K "Book") "need_calls" (He.ma K (He.ga K "Book") "need_calls") := He.meth_ok (T.says.fact 122 (f := .meth "Book" "need_calls"))
theorem Tx.m_Book_chain_names (T : Tx K mg) : Meth K (He.ga K "Book") "chain_names" (He.ma K (He.ga K "Book") "chain_names") := He.meth_ok (T.says.fact 123 (f := .meth "Book" "chain_names"))
theorem Tx.m_Book_chain (T : Tx K mg) : Meth K (He.ga K "Book") "chain" (He.ma K (He.ga K "Book") "chain") := He.meth_ok (T.says.fact 124 (f := .meth "Book" "chain"))
theorem Tx.m_Book_length (T : Tx K mg) : Meth K (He.ga K "Book") "length" (He.ma K (He.ga K "Book") "length") := He.meth_ok (T.says.fact 125 (f := .meth "Book" "length"))
theorem Tx.m_Book_told (T : Tx K mg) : Meth K (He.ga K "Book") "told" (He.ma K (He.ga K "Book") "told") := He.meth_ok (T.says.fact 126 (f := .meth "Book" "told"))
theorem Tx.n_Book_default (T : Tx K mg) : NoAttr K (He.ga K "Book") "default" := He.noat_ok (T.says.fact 127 (f := .noat "Book" "default"))
theorem Tx.n_Book_chains (T : Tx K mg) : NoAttr K (He.ga K "Book") "chains" := He.noat_ok (T.says.fact 128 (f := .noat "Book" "chains"))
theorem Tx.n_Book_total (T : Tx K mg) : NoAttr K (He.ga K "Book") "total" := He.noat_ok (T.says.fact 129 (f := .noat "Book" "total"))
theorem Tx.c_Desk (T : Tx K mg) : Cls K (He.ga K "Desk") := He.cls_ok (T.says.fact 130 (f := .cls "Desk"))
theorem Tx.mk_Desk (T : Tx K mg) : Mk K (He.ga K "Desk") (He.ma K (He.ga K "Desk") "__init__") := He.mkr_ok (T.says.fact 131 (f := .mkr "Desk"))
theorem Tx.m_Desk_book_of (T : Tx K mg) : Meth K (He.ga K "Desk") "book_of" (He.ma K (He.ga K "Desk") "book_of") := He.meth_ok (T.says.fact 132 (f := .meth "Desk" "book_of"))
theorem Tx.m_Desk_keep (T : Tx K mg) : Meth K (He.ga K "Desk") "keep" (He.ma K (He.ga K "Desk") "keep") := He.meth_ok (T.says.fact 133 (f := .meth "Desk" "keep"))
theorem Tx.m_Desk_asked (T : Tx K mg) : Meth K (He.ga K "Desk") "asked" (He.ma K (He.ga K "Desk") "asked") := He.meth_ok (T.says.fact 134 (f := .meth "Desk" "asked"))
theorem Tx.m_Desk_say (T : Tx K mg) : Meth K (He.ga K "Desk") "say" (He.ma K (He.ga K "Desk") "say") := He.meth_ok (T.says.fact 135 (f := .meth "Desk" "say"))
theorem Tx.n_Desk_books (T : Tx K mg) : NoAttr K (He.ga K "Desk") "books" := He.noat_ok (T.says.fact 136 (f := .noat "Desk" "books"))
theorem Tx.n_Desk_gates (T : Tx K mg) : NoAttr K (He.ga K "Desk") "gates" := He.noat_ok (T.says.fact 137 (f := .noat "Desk" "gates"))
theorem Tx.b_len (T : Tx K mg) : mg "len" = none := let ⟨_, X, G⟩ := T.ex; He.free_ok X G (T.says.fact 138 (f := .free "len"))
theorem Tx.b_zip (T : Tx K mg) : mg "zip" = none := let ⟨_, X, G⟩ := T.ex; He.free_ok X G (T.says.fact 139 (f := .free "zip"))
theorem Tx.b_max (T : Tx K mg) : mg "max" = none := let ⟨_, X, G⟩ := T.ex; He.free_ok X G (T.says.fact 140 (f := .free "max"))
theorem Tx.b_min (T : Tx K mg) : mg "min" = none := let ⟨_, X, G⟩ := T.ex; He.free_ok X G (T.says.fact 141 (f := .free "min"))
theorem Tx.b_tuple (T : Tx K mg) : mg "tuple" = none := let ⟨_, X, G⟩ := T.ex; He.free_ok X G (T.says.fact 142 (f := .free "tuple"))
theorem Tx.b_range (T : Tx K mg) : mg "range" = none := let ⟨_, X, G⟩ := T.ex; He.free_ok X G (T.says.fact 143 (f := .free "range"))
theorem Tx.b_reversed (T : Tx K mg) : mg "reversed" = none := let ⟨_, X, G⟩ := T.ex; He.free_ok X G (T.says.fact 144 (f := .free "reversed"))
theorem Tx.b_isinstance (T : Tx K mg) : mg "isinstance" = none := let ⟨_, X, G⟩ := T.ex; He.free_ok X G (T.says.fact 145 (f := .free "isinstance"))
theorem Tx.b_enumerate (T : Tx K mg) : mg "enumerate" = none := let ⟨_, X, G⟩ := T.ex; He.free_ok X G (T.says.fact 146 (f := .free "enumerate"))
theorem Tx.b_list (T : Tx K mg) : mg "list" = none := let ⟨_, X, G⟩ := T.ex; He.free_ok X G (T.says.fact 147 (f := .free "list"))
theorem Tx.b_sum (T : Tx K mg) : mg "sum" = none := let ⟨_, X, G⟩ := T.ex; He.free_ok X G (T.says.fact 148 (f := .free "sum"))
theorem Tx.b_all (T : Tx K mg) : mg "all" = none := let ⟨_, X, G⟩ := T.ex; He.free_ok X G (T.says.fact 149 (f := .free "all"))
theorem Tx.b_int (T : Tx K mg) : mg "int" = none := let ⟨_, X, G⟩ := T.ex; He.free_ok X G (T.says.fact 150 (f := .free "int"))
theorem Tx.b_str (T : Tx K mg) : mg "str" = none := let ⟨_, X, G⟩ := T.ex; He.free_ok X G (T.says.fact 151 (f := .free "str"))
theorem Tx.i_LONGEST_books (T : Tx K mg) : ∃ u, mg "LONGEST_books" = some u ∧ RelV (.int 120) u := let ⟨_, X, G⟩ := T.ex; let ⟨t, e⟩ := He.int_ok X G (T.says.fact 152 (f := .int "LONGEST_books" 120)); ⟨_, e, t, rfl⟩
theorem Tx.i_ALL (T : Tx K mg) : ∃ u, mg "ALL" = some u ∧ RelV (.int 4294967295) u := let ⟨_, X, G⟩ := T.ex; let ⟨t, e⟩ := He.int_ok X G (T.says.fact 153 (f := .int "ALL" 4294967295)); ⟨_, e, t, rfl⟩
theorem Tx.i_LATEST (T : Tx K mg) : ∃ u, mg "LATEST" = some u ∧ RelV (.int 1000000000000) u := let ⟨_, X, G⟩ := T.ex; let ⟨t, e⟩ := He.int_ok X G (T.says.fact 154 (f := .int "LATEST" 1000000000000)); ⟨_, e, t, rfl⟩
theorem Tx.i_LONGEST_slips (T : Tx K mg) : ∃ u, mg "LONGEST_slips" = some u ∧ RelV (.int 1000000000) u := let ⟨_, X, G⟩ := T.ex; let ⟨t, e⟩ := He.int_ok X G (T.says.fact 155 (f := .int "LONGEST_slips" 1000000000)); ⟨_, e, t, rfl⟩
theorem Tx.i_MOST (T : Tx K mg) : ∃ u, mg "MOST" = some u ∧ RelV (.int 100) u := let ⟨_, X, G⟩ := T.ex; let ⟨t, e⟩ := He.int_ok X G (T.says.fact 156 (f := .int "MOST" 100)); ⟨_, e, t, rfl⟩
theorem Tx.t_FIGURES (T : Tx K mg) : ∃ u, mg "FIGURES" = some u ∧ RelV (.str "0123456789") u := let ⟨_, X, G⟩ := T.ex; let ⟨t, e⟩ := He.str_ok X G (T.says.fact 157 (f := .str "FIGURES" "0123456789")); ⟨_, e, t, rfl⟩
theorem Tx.t_LETTERS (T : Tx K mg) : ∃ u, mg "LETTERS" = some u ∧ RelV (.str "abcdefghijklmnopqrstuvwxyz") u := let ⟨_, X, G⟩ := T.ex; let ⟨t, e⟩ := He.str_ok X G (T.says.fact 158 (f := .str "LETTERS" "abcdefghijklmnopqrstuvwxyz")); ⟨_, e, t, rfl⟩
theorem Tx.g_HIGHEST (T : Tx K mg) : mg "HIGHEST" = some (.ref (He.ga K "HIGHEST")) := let ⟨_, X, G⟩ := T.ex; He.glo_ok X G (T.says.fact 159 (f := .glo "HIGHEST"))
theorem Tx.g_PAIRS (T : Tx K mg) : mg "PAIRS" = some (.ref (He.ga K "PAIRS")) := let ⟨_, X, G⟩ := T.ex; He.glo_ok X G (T.says.fact 160 (f := .glo "PAIRS"))
theorem Tx.d_holds (T : Tx K mg) : ∃ fd, FunD K "holds" "holds" (defArgs s_holds) (defBody s_holds) (defScope s_holds) [] [] (He.ga K "holds") fd := T.says.def_ 0 (d := Sv.d_holds)
theorem Tx.d_meet (T : Tx K mg) : ∃ fd, FunD K "meet" "meet" (defArgs s_meet) (defBody s_meet) (defScope s_meet) [] [] (He.ga K "meet") fd := T.says.def_ 1 (d := Sv.d_meet)
theorem Tx.d_has (T : Tx K mg) : ∃ fd, FunD K "has" "has" (defArgs s_has) (defBody s_has) (defScope s_has) [] [] (He.ga K "has") fd := T.says.def_ 2 (d := Sv.d_has)
theorem Tx.d_common (T : Tx K mg) : ∃ fd, FunD K "common" "common" (defArgs s_common) (defBody s_common) (defScope s_common) [] [] (He.ga K "common") fd := T.says.def_ 3 (d := Sv.d_common)
theorem Tx.d_corner (T : Tx K mg) : ∃ fd, FunD K "corner" "corner" (defArgs s_corner) (defBody s_corner) (defScope s_corner) [] [] (He.ga K "corner") fd := T.says.def_ 4 (d := Sv.d_corner)
theorem Tx.d_rests (T : Tx K mg) : ∃ fd, FunD K "rests" "rests" (defArgs s_rests) (defBody s_rests) (defScope s_rests) [] [] (He.ga K "rests") fd := T.says.def_ 5 (d := Sv.d_rests)
theorem Tx.d_looked (T : Tx K mg) : ∃ fd, FunD K "looked" "looked" (defArgs s_looked) (defBody s_looked) (defScope s_looked) [] [] (He.ga K "looked") fd := T.says.def_ 6 (d := Sv.d_looked)
theorem Tx.d_every (T : Tx K mg) : ∃ fd, FunD K "every" "every" (defArgs s_every) (defBody s_every) (defScope s_every) [] [] (He.ga K "every") fd := T.says.def_ 7 (d := Sv.d_every)
theorem Tx.d_Rule_init (T : Tx K mg) : ∃ fd, FunD K "__init__" "Rule.__init__" (defArgs s_Rule_init) (defBody s_Rule_init) (defScope s_Rule_init) [] [] (He.ma K (He.ga K "Rule") "__init__") fd := T.says.def_ 8 (d := Sv.d_Rule_init)
theorem Tx.d_Rule_fits (T : Tx K mg) : ∃ fd, FunD K "fits" "Rule.fits" (defArgs s_Rule_fits) (defBody s_Rule_fits) (defScope s_Rule_fits) [] [] (He.ma K (He.ga K "Rule") "fits") fd := T.says.def_ 9 (d := Sv.d_Rule_fits)
theorem Tx.d_Word_init (T : Tx K mg) : ∃ fd, FunD K "__init__" "Word.__init__" (defArgs s_Word_init) (defBody s_Word_init) (defScope s_Word_init) [] [] (He.ma K (He.ga K "Word") "__init__") fd := T.says.def_ 10 (d := Sv.d_Word_init)
theorem Tx.d_Word_told (T : Tx K mg) : ∃ fd, FunD K "told" "Word.told" (defArgs s_Word_told) (defBody s_Word_told) (defScope s_Word_told) [] [] (He.ma K (He.ga K "Word") "told") fd := T.says.def_ 11 (d := Sv.d_Word_told)
theorem Tx.d_Word_head (T : Tx K mg) : ∃ fd, FunD K "head" "Word.head" (defArgs s_Word_head) (defBody s_Word_head) (defScope s_Word_head) [] [] (He.ma K (He.ga K "Word") "head") fd := T.says.def_ 12 (d := Sv.d_Word_head)
theorem Tx.d_Back_told (T : Tx K mg) : ∃ fd, FunD K "told" "Back.told" (defArgs s_Back_told) (defBody s_Back_told) (defScope s_Back_told) [] [] (He.ma K (He.ga K "Back") "told") fd := T.says.def_ 13 (d := Sv.d_Back_told)
theorem Tx.d_Back_head (T : Tx K mg) : ∃ fd, FunD K "head" "Back.head" (defArgs s_Back_head) (defBody s_Back_head) (defScope s_Back_head) [] [] (He.ma K (He.ga K "Back") "head") fd := T.says.def_ 14 (d := Sv.d_Back_head)
theorem Tx.d_Call_init (T : Tx K mg) : ∃ fd, FunD K "__init__" "Call.__init__" (defArgs s_Call_init) (defBody s_Call_init) (defScope s_Call_init) [] [] (He.ma K (He.ga K "Call") "__init__") fd := T.says.def_ 15 (d := Sv.d_Call_init)
theorem Tx.d_Call_told (T : Tx K mg) : ∃ fd, FunD K "told" "Call.told" (defArgs s_Call_told) (defBody s_Call_told) (defScope s_Call_told) [] [] (He.ma K (He.ga K "Call") "told") fd := T.says.def_ 16 (d := Sv.d_Call_told)
theorem Tx.d_Call_head (T : Tx K mg) : ∃ fd, FunD K "head" "Call.head" (defArgs s_Call_head) (defBody s_Call_head) (defScope s_Call_head) [] [] (He.ma K (He.ga K "Call") "head") fd := T.says.def_ 17 (d := Sv.d_Call_head)
theorem Tx.d_rule_of (T : Tx K mg) : ∃ fd, FunD K "rule_of" "rule_of" (defArgs s_rule_of) (defBody s_rule_of) (defScope s_rule_of) [] [] (He.ga K "rule_of") fd := T.says.def_ 18 (d := Sv.d_rule_of)
theorem Tx.d_length_of (T : Tx K mg) : ∃ fd, FunD K "length_of" "length_of" (defArgs s_length_of) (defBody s_length_of) (defScope s_length_of) [] [] (He.ga K "length_of") fd := T.says.def_ 19 (d := Sv.d_length_of)
theorem Tx.d_put_chain (T : Tx K mg) : ∃ fd, FunD K "put_chain" "put_chain" (defArgs s_put_chain) (defBody s_put_chain) (defScope s_put_chain) [] [] (He.ga K "put_chain") fd := T.says.def_ 20 (d := Sv.d_put_chain)
theorem Tx.d_unfolded (T : Tx K mg) : ∃ fd, FunD K "unfolded" "unfolded" (defArgs s_unfolded) (defBody s_unfolded) (defScope s_unfolded) [] [] (He.ga K "unfolded") fd := T.says.def_ 21 (d := Sv.d_unfolded)
theorem Tx.d_joint (T : Tx K mg) : ∃ fd, FunD K "joint" "joint" (defArgs s_joint) (defBody s_joint) (defScope s_joint) [] [] (He.ga K "joint") fd := T.says.def_ 22 (d := Sv.d_joint)
theorem Tx.d_parting (T : Tx K mg) : ∃ fd, FunD K "parting" "parting" (defArgs s_parting) (defBody s_parting) (defScope s_parting) [] [] (He.ga K "parting") fd := T.says.def_ 23 (d := Sv.d_parting)
theorem Tx.d_read_chain (T : Tx K mg) : ∃ fd, FunD K "read_chain" "read_chain" (defArgs s_read_chain) (defBody s_read_chain) (defScope s_read_chain) [] [] (He.ga K "read_chain") fd := T.says.def_ 24 (d := Sv.d_read_chain)
theorem Tx.d_word_of (T : Tx K mg) : ∃ fd, FunD K "word_of" "word_of" (defArgs s_word_of) (defBody s_word_of) (defScope s_word_of) [] [] (He.ga K "word_of") fd := T.says.def_ 25 (d := Sv.d_word_of)
theorem Tx.d_calls_of (T : Tx K mg) : ∃ fd, FunD K "calls_of" "calls_of" (defArgs s_calls_of) (defBody s_calls_of) (defScope s_calls_of) [] [] (He.ga K "calls_of") fd := T.says.def_ 26 (d := Sv.d_calls_of)
theorem Tx.d_lengths_of (T : Tx K mg) : ∃ fd, FunD K "lengths_of" "lengths_of" (defArgs s_lengths_of) (defBody s_lengths_of) (defScope s_lengths_of) [] [] (He.ga K "lengths_of") fd := T.says.def_ 27 (d := Sv.d_lengths_of)
theorem Tx.d_Book_init (T : Tx K mg) : ∃ fd, FunD K "__init__" "Book.__init__" (defArgs s_Book_init) (defBody s_Book_init) (defScope s_Book_init) [] [] (He.ma K (He.ga K "Book") "__init__") fd := T.says.def_ 28 (d := Sv.d_Book_init)
theorem Tx.d_Book_need_calls (T : Tx K mg) : ∃ fd, FunD K "need_calls" "Book.need_calls" (defArgs s_Book_need_calls) (defBody s_Book_need_calls) (defScope s_Book_need_calls) [] [] (He.ma K (He.ga K "Book") "need_calls") fd := T.says.def_ 29 (d := Sv.d_Book_need_calls)
theorem Tx.d_Book_chain_names (T : Tx K mg) : ∃ fd, FunD K "chain_names" "Book.chain_names" (defArgs s_Book_chain_names) (defBody s_Book_chain_names) (defScope s_Book_chain_names) [] [] (He.ma K (He.ga K "Book") "chain_names") fd := T.says.def_ 30 (d := Sv.d_Book_chain_names)
theorem Tx.d_Book_chain (T : Tx K mg) : ∃ fd, FunD K "chain" "Book.chain" (defArgs s_Book_chain) (defBody s_Book_chain) (defScope s_Book_chain) [] [] (He.ma K (He.ga K "Book") "chain") fd := T.says.def_ 31 (d := Sv.d_Book_chain)
theorem Tx.d_Book_length (T : Tx K mg) : ∃ fd, FunD K "length" "Book.length" (defArgs s_Book_length) (defBody s_Book_length) (defScope s_Book_length) [] [] (He.ma K (He.ga K "Book") "length") fd := T.says.def_ 32 (d := Sv.d_Book_length)
theorem Tx.d_Book_told (T : Tx K mg) : ∃ fd, FunD K "told" "Book.told" (defArgs s_Book_told) (defBody s_Book_told) (defScope s_Book_told) [] [] (He.ma K (He.ga K "Book") "told") fd := T.says.def_ 33 (d := Sv.d_Book_told)
theorem Tx.d_reached (T : Tx K mg) : ∃ fd, FunD K "reached" "reached" (defArgs s_reached) (defBody s_reached) (defScope s_reached) [] [] (He.ga K "reached") fd := T.says.def_ 34 (d := Sv.d_reached)
theorem Tx.d_shorter (T : Tx K mg) : ∃ fd, FunD K "shorter" "shorter" (defArgs s_shorter) (defBody s_shorter) (defScope s_shorter) [] [] (He.ga K "shorter") fd := T.says.def_ 35 (d := Sv.d_shorter)
theorem Tx.d_part_of (T : Tx K mg) : ∃ fd, FunD K "part_of" "part_of" (defArgs s_part_of) (defBody s_part_of) (defScope s_part_of) [] [] (He.ga K "part_of") fd := T.says.def_ 36 (d := Sv.d_part_of)
theorem Tx.d_read_address (T : Tx K mg) : ∃ fd, FunD K "read_address" "read_address" (defArgs s_read_address) (defBody s_read_address) (defScope s_read_address) [] [] (He.ga K "read_address") fd := T.says.def_ 37 (d := Sv.d_read_address)
theorem Tx.d_show_address (T : Tx K mg) : ∃ fd, FunD K "show_address" "show_address" (defArgs s_show_address) (defBody s_show_address) (defScope s_show_address) [] [] (He.ga K "show_address") fd := T.says.def_ 38 (d := Sv.d_show_address)
theorem Tx.d_mask (T : Tx K mg) : ∃ fd, FunD K "mask" "mask" (defArgs s_mask) (defBody s_mask) (defScope s_mask) [] [] (He.ga K "mask") fd := T.says.def_ 39 (d := Sv.d_mask)
theorem Tx.d_beginning (T : Tx K mg) : ∃ fd, FunD K "beginning" "beginning" (defArgs s_beginning) (defBody s_beginning) (defScope s_beginning) [] [] (He.ga K "beginning") fd := T.says.def_ 40 (d := Sv.d_beginning)
theorem Tx.d_shared (T : Tx K mg) : ∃ fd, FunD K "shared" "shared" (defArgs s_shared) (defBody s_shared) (defScope s_shared) [] [] (He.ga K "shared") fd := T.says.def_ 41 (d := Sv.d_shared)
theorem Tx.d_bits_of (T : Tx K mg) : ∃ fd, FunD K "bits_of" "bits_of" (defArgs s_bits_of) (defBody s_bits_of) (defScope s_bits_of) [] [] (He.ga K "bits_of") fd := T.says.def_ 42 (d := Sv.d_bits_of)
theorem Tx.d_words_of (T : Tx K mg) : ∃ fd, FunD K "words_of" "words_of" (defArgs s_words_of) (defBody s_words_of) (defScope s_words_of) [] [] (He.ga K "words_of") fd := T.says.def_ 43 (d := Sv.d_words_of)
theorem Tx.d_is_name (T : Tx K mg) : ∃ fd, FunD K "is_name" "is_name" (defArgs s_is_name) (defBody s_is_name) (defScope s_is_name) [] [] (He.ga K "is_name") fd := T.says.def_ 44 (d := Sv.d_is_name)
theorem Tx.d_number_by (T : Tx K mg) : ∃ fd, FunD K "number_by" "number_by" (defArgs s_number_by) (defBody s_number_by) (defScope s_number_by) [] [] (He.ga K "number_by") fd := T.says.def_ 45 (d := Sv.d_number_by)
theorem Tx.d_address_by (T : Tx K mg) : ∃ fd, FunD K "address_by" "address_by" (defArgs s_address_by) (defBody s_address_by) (defScope s_address_by) [] [] (He.ga K "address_by") fd := T.says.def_ 46 (d := Sv.d_address_by)
theorem Tx.d_numbers_by (T : Tx K mg) : ∃ fd, FunD K "numbers_by" "numbers_by" (defArgs s_numbers_by) (defBody s_numbers_by) (defScope s_numbers_by) [] [] (He.ga K "numbers_by") fd := T.says.def_ 47 (d := Sv.d_numbers_by)
theorem Tx.d_addresses_by (T : Tx K mg) : ∃ fd, FunD K "addresses_by" "addresses_by" (defArgs s_addresses_by) (defBody s_addresses_by) (defScope s_addresses_by) [] [] (He.ga K "addresses_by") fd := T.says.def_ 48 (d := Sv.d_addresses_by)
theorem Tx.d_box_by (T : Tx K mg) : ∃ fd, FunD K "box_by" "box_by" (defArgs s_box_by) (defBody s_box_by) (defScope s_box_by) [] [] (He.ga K "box_by") fd := T.says.def_ 49 (d := Sv.d_box_by)
theorem Tx.d_rule_by (T : Tx K mg) : ∃ fd, FunD K "rule_by" "rule_by" (defArgs s_rule_by) (defBody s_rule_by) (defScope s_rule_by) [] [] (He.ga K "rule_by") fd := T.says.def_ 50 (d := Sv.d_rule_by)
theorem Tx.d_show_numbers (T : Tx K mg) : ∃ fd, FunD K "show_numbers" "show_numbers" (defArgs s_show_numbers) (defBody s_show_numbers) (defScope s_show_numbers) [] [] (He.ga K "show_numbers") fd := T.says.def_ 51 (d := Sv.d_show_numbers)
theorem Tx.d_show_addresses (T : Tx K mg) : ∃ fd, FunD K "show_addresses" "show_addresses" (defArgs s_show_addresses) (defBody s_show_addresses) (defScope s_show_addresses) [] [] (He.ga K "show_addresses") fd := T.says.def_ 52 (d := Sv.d_show_addresses)
theorem Tx.d_show_rule (T : Tx K mg) : ∃ fd, FunD K "show_rule" "show_rule" (defArgs s_show_rule) (defBody s_show_rule) (defScope s_show_rule) [] [] (He.ga K "show_rule") fd := T.says.def_ 53 (d := Sv.d_show_rule)
theorem Tx.d_default_by (T : Tx K mg) : ∃ fd, FunD K "default_by" "default_by" (defArgs s_default_by) (defBody s_default_by) (defScope s_default_by) [] [] (He.ga K "default_by") fd := T.says.def_ 54 (d := Sv.d_default_by)
theorem Tx.d_name_by (T : Tx K mg) : ∃ fd, FunD K "name_by" "name_by" (defArgs s_name_by) (defBody s_name_by) (defScope s_name_by) [] [] (He.ga K "name_by") fd := T.says.def_ 55 (d := Sv.d_name_by)
theorem Tx.d_rule_at (T : Tx K mg) : ∃ fd, FunD K "rule_at" "rule_at" (defArgs s_rule_at) (defBody s_rule_at) (defScope s_rule_at) [] [] (He.ga K "rule_at") fd := T.says.def_ 56 (d := Sv.d_rule_at)
theorem Tx.d_read_book (T : Tx K mg) : ∃ fd, FunD K "read_book" "read_book" (defArgs s_read_book) (defBody s_read_book) (defScope s_read_book) [] [] (He.ga K "read_book") fd := T.says.def_ 57 (d := Sv.d_read_book)
theorem Tx.d_show_book (T : Tx K mg) : ∃ fd, FunD K "show_book" "show_book" (defArgs s_show_book) (defBody s_show_book) (defScope s_show_book) [] [] (He.ga K "show_book") fd := T.says.def_ 58 (d := Sv.d_show_book)
theorem Tx.d_read_label (T : Tx K mg) : ∃ fd, FunD K "read_label" "read_label" (defArgs s_read_label) (defBody s_read_label) (defScope s_read_label) [] [] (He.ga K "read_label") fd := T.says.def_ 59 (d := Sv.d_read_label)
theorem Tx.d_read_parcel (T : Tx K mg) : ∃ fd, FunD K "read_parcel" "read_parcel" (defArgs s_read_parcel) (defBody s_read_parcel) (defScope s_read_parcel) [] [] (He.ga K "read_parcel") fd := T.says.def_ 60 (d := Sv.d_read_parcel)
theorem Tx.d_show_label (T : Tx K mg) : ∃ fd, FunD K "show_label" "show_label" (defArgs s_show_label) (defBody s_show_label) (defScope s_show_label) [] [] (He.ga K "show_label") fd := T.says.def_ 61 (d := Sv.d_show_label)
theorem Tx.d_show_parcel (T : Tx K mg) : ∃ fd, FunD K "show_parcel" "show_parcel" (defArgs s_show_parcel) (defBody s_show_parcel) (defScope s_show_parcel) [] [] (He.ga K "show_parcel") fd := T.says.def_ 62 (d := Sv.d_show_parcel)
theorem Tx.d_read_order (T : Tx K mg) : ∃ fd, FunD K "read_order" "read_order" (defArgs s_read_order) (defBody s_read_order) (defScope s_read_order) [] [] (He.ga K "read_order") fd := T.says.def_ 63 (d := Sv.d_read_order)
theorem Tx.d_book_by (T : Tx K mg) : ∃ fd, FunD K "book_by" "book_by" (defArgs s_book_by) (defBody s_book_by) (defScope s_book_by) [] [] (He.ga K "book_by") fd := T.says.def_ 64 (d := Sv.d_book_by)
theorem Tx.d_need_no_rows (T : Tx K mg) : ∃ fd, FunD K "need_no_rows" "need_no_rows" (defArgs s_need_no_rows) (defBody s_need_no_rows) (defScope s_need_no_rows) [] [] (He.ga K "need_no_rows") fd := T.says.def_ 65 (d := Sv.d_need_no_rows)
theorem Tx.d_never_of (T : Tx K mg) : ∃ fd, FunD K "never_of" "never_of" (defArgs s_never_of) (defBody s_never_of) (defScope s_never_of) [] [] (He.ga K "never_of") fd := T.says.def_ 66 (d := Sv.d_never_of)
theorem Tx.d_alike_of (T : Tx K mg) : ∃ fd, FunD K "alike_of" "alike_of" (defArgs s_alike_of) (defBody s_alike_of) (defScope s_alike_of) [] [] (He.ga K "alike_of") fd := T.says.def_ 67 (d := Sv.d_alike_of)
theorem Tx.d_Desk_init (T : Tx K mg) : ∃ fd, FunD K "__init__" "Desk.__init__" (defArgs s_Desk_init) (defBody s_Desk_init) (defScope s_Desk_init) [] [] (He.ma K (He.ga K "Desk") "__init__") fd := T.says.def_ 68 (d := Sv.d_Desk_init)
theorem Tx.d_Desk_book_of (T : Tx K mg) : ∃ fd, FunD K "book_of" "Desk.book_of" (defArgs s_Desk_book_of) (defBody s_Desk_book_of) (defScope s_Desk_book_of) [] [] (He.ma K (He.ga K "Desk") "book_of") fd := T.says.def_ 69 (d := Sv.d_Desk_book_of)
theorem Tx.d_Desk_keep (T : Tx K mg) : ∃ fd, FunD K "keep" "Desk.keep" (defArgs s_Desk_keep) (defBody s_Desk_keep) (defScope s_Desk_keep) [] [] (He.ma K (He.ga K "Desk") "keep") fd := T.says.def_ 70 (d := Sv.d_Desk_keep)
theorem Tx.d_Desk_asked (T : Tx K mg) : ∃ fd, FunD K "asked" "Desk.asked" (defArgs s_Desk_asked) (defBody s_Desk_asked) (defScope s_Desk_asked) [] [] (He.ma K (He.ga K "Desk") "asked") fd := T.says.def_ 71 (d := Sv.d_Desk_asked)
theorem Tx.d_Desk_say (T : Tx K mg) : ∃ fd, FunD K "say" "Desk.say" (defArgs s_Desk_say) (defBody s_Desk_say) (defScope s_Desk_say) [] [] (He.ma K (He.ga K "Desk") "say") fd := T.says.def_ 72 (d := Sv.d_Desk_say)
theorem Tx.d_l_cell_at (T : Tx K mg) : ∃ fd, FunD K "_law_cell_at" "_law_cell_at" (defArgs s_l_cell_at) (defBody s_l_cell_at) (defScope s_l_cell_at) [] [] (He.ga K "_law_cell_at") fd := T.says.def_ 73 (d := Sv.d_l_cell_at)
theorem Tx.d_l_top (T : Tx K mg) : ∃ fd, FunD K "_law_top" "_law_top" (defArgs s_l_top) (defBody s_l_top) (defScope s_l_top) [] [] (He.ga K "_law_top") fd := T.says.def_ 74 (d := Sv.d_l_top)
theorem Tx.d_l_marks (T : Tx K mg) : ∃ fd, FunD K "_law_marks" "_law_marks" (defArgs s_l_marks) (defBody s_l_marks) (defScope s_l_marks) [] [] (He.ga K "_law_marks") fd := T.says.def_ 75 (d := Sv.d_l_marks)
theorem Tx.d_l_stretch (T : Tx K mg) : ∃ fd, FunD K "_law_stretch" "_law_stretch" (defArgs s_l_stretch) (defBody s_l_stretch) (defScope s_l_stretch) [] [] (He.ga K "_law_stretch") fd := T.says.def_ 76 (d := Sv.d_l_stretch)
theorem Tx.d_l_box (T : Tx K mg) : ∃ fd, FunD K "_law_box" "_law_box" (defArgs s_l_box) (defBody s_l_box) (defScope s_l_box) [] [] (He.ga K "_law_box") fd := T.says.def_ 77 (d := Sv.d_l_box)
theorem Tx.d_l_boxes (T : Tx K mg) : ∃ fd, FunD K "_law_boxes" "_law_boxes" (defArgs s_l_boxes) (defBody s_l_boxes) (defScope s_l_boxes) [] [] (He.ga K "_law_boxes") fd := T.says.def_ 78 (d := Sv.d_l_boxes)
theorem Tx.d_l_name (T : Tx K mg) : ∃ fd, FunD K "_law_name" "_law_name" (defArgs s_l_name) (defBody s_l_name) (defScope s_l_name) [] [] (He.ga K "_law_name") fd := T.says.def_ 79 (d := Sv.d_l_name)
theorem Tx.d_l_rule (T : Tx K mg) : ∃ fd, FunD K "_law_rule" "_law_rule" (defArgs s_l_rule) (defBody s_l_rule) (defScope s_l_rule) [] [] (He.ga K "_law_rule") fd := T.says.def_ 80 (d := Sv.d_l_rule)
theorem Tx.d_l_chains (T : Tx K mg) : ∃ fd, FunD K "_law_chains" "_law_chains" (defArgs s_l_chains) (defBody s_l_chains) (defScope s_l_chains) [] [] (He.ga K "_law_chains") fd := T.says.def_ 81 (d := Sv.d_l_chains)
theorem Tx.d_l_turned (T : Tx K mg) : ∃ fd, FunD K "_law_turned" "_law_turned" (defArgs s_l_turned) (defBody s_l_turned) (defScope s_l_turned) [] [] (He.ga K "_law_turned") fd := T.says.def_ 82 (d := Sv.d_l_turned)
theorem Tx.d_l_near (T : Tx K mg) : ∃ fd, FunD K "_law_near" "_law_near" (defArgs s_l_near) (defBody s_l_near) (defScope s_l_near) [] [] (He.ga K "_law_near") fd := T.says.def_ 83 (d := Sv.d_l_near)
theorem Tx.d_l_books (T : Tx K mg) : ∃ fd, FunD K "_law_books" "_law_books" (defArgs s_l_books) (defBody s_l_books) (defScope s_l_books) [] [] (He.ga K "_law_books") fd := T.says.def_ 84 (d := Sv.d_l_books)
theorem Tx.d_l_parcel (T : Tx K mg) : ∃ fd, FunD K "_law_parcel" "_law_parcel" (defArgs s_l_parcel) (defBody s_l_parcel) (defScope s_l_parcel) [] [] (He.ga K "_law_parcel") fd := T.says.def_ 85 (d := Sv.d_l_parcel)
theorem Tx.d_l_has (T : Tx K mg) : ∃ fd, FunD K "_law_has" "_law_has" (defArgs s_l_has) (defBody s_l_has) (defScope s_l_has) [] [] (He.ga K "_law_has") fd := T.says.def_ 86 (d := Sv.d_l_has)
theorem Tx.d_l_read (T : Tx K mg) : ∃ fd, FunD K "_law_read" "_law_read" (defArgs s_l_read) (defBody s_l_read) (defScope s_l_read) [] [] (He.ga K "_law_read") fd := T.says.def_ 87 (d := Sv.d_l_read)
theorem Tx.d_l_dotted (T : Tx K mg) : ∃ fd, FunD K "_law_dotted" "_law_dotted" (defArgs s_l_dotted) (defBody s_l_dotted) (defScope s_l_dotted) [] [] (He.ga K "_law_dotted") fd := T.says.def_ 88 (d := Sv.d_l_dotted)
theorem Tx.d_l_shown (T : Tx K mg) : ∃ fd, FunD K "_law_shown" "_law_shown" (defArgs s_l_shown) (defBody s_l_shown) (defScope s_l_shown) [] [] (He.ga K "_law_shown") fd := T.says.def_ 89 (d := Sv.d_l_shown)
theorem Tx.d_l_row (T : Tx K mg) : ∃ fd, FunD K "_law_row" "_law_row" (defArgs s_l_row) (defBody s_l_row) (defScope s_l_row) [] [] (He.ga K "_law_row") fd := T.says.def_ 90 (d := Sv.d_l_row)
theorem Tx.d_l_text (T : Tx K mg) : ∃ fd, FunD K "_law_text" "_law_text" (defArgs s_l_text) (defBody s_l_text) (defScope s_l_text) [] [] (He.ga K "_law_text") fd := T.says.def_ 91 (d := Sv.d_l_text)
theorem Tx.d_l_number (T : Tx K mg) : ∃ fd, FunD K "_law_number" "_law_number" (defArgs s_l_number) (defBody s_l_number) (defScope s_l_number) [] [] (He.ga K "_law_number") fd := T.says.def_ 92 (d := Sv.d_l_number)
theorem Tx.d_l_parsed (T : Tx K mg) : ∃ fd, FunD K "_law_parsed" "_law_parsed" (defArgs s_l_parsed) (defBody s_l_parsed) (defScope s_l_parsed) [] [] (He.ga K "_law_parsed") fd := T.says.def_ 93 (d := Sv.d_l_parsed)
theorem Tx.d_l_word (T : Tx K mg) : ∃ fd, FunD K "_law_word" "_law_word" (defArgs s_l_word) (defBody s_l_word) (defScope s_l_word) [] [] (He.ga K "_law_word") fd := T.says.def_ 94 (d := Sv.d_l_word)
theorem Tx.d_l_alike (T : Tx K mg) : ∃ fd, FunD K "_law_alike" "_law_alike" (defArgs s_l_alike) (defBody s_l_alike) (defScope s_l_alike) [] [] (He.ga K "_law_alike") fd := T.says.def_ 95 (d := Sv.d_l_alike)
theorem Tx.d_l_never (T : Tx K mg) : ∃ fd, FunD K "_law_never" "_law_never" (defArgs s_l_never) (defBody s_l_never) (defScope s_l_never) [] [] (He.ga K "_law_never") fd := T.says.def_ 96 (d := Sv.d_l_never)
theorem Tx.d_l_length (T : Tx K mg) : ∃ fd, FunD K "_law_length" "_law_length" (defArgs s_l_length) (defBody s_l_length) (defScope s_l_length) [] [] (He.ga K "_law_length") fd := T.says.def_ 97 (d := Sv.d_l_length)
theorem Tx.d_l_words (T : Tx K mg) : ∃ fd, FunD K "_law_words" "_law_words" (defArgs s_l_words) (defBody s_l_words) (defScope s_l_words) [] [] (He.ga K "_law_words") fd := T.says.def_ 98 (d := Sv.d_l_words)
theorem Tx.d_l_shorter (T : Tx K mg) : ∃ fd, FunD K "_law_shorter" "_law_shorter" (defArgs s_l_shorter) (defBody s_l_shorter) (defScope s_l_shorter) [] [] (He.ga K "_law_shorter") fd := T.says.def_ 99 (d := Sv.d_l_shorter)
theorem Tx.d_l_boxes_told (T : Tx K mg) : ∃ fd, FunD K "_law_boxes_told" "_law_boxes_told" (defArgs s_l_boxes_told) (defBody s_l_boxes_told) (defScope s_l_boxes_told) [] [] (He.ga K "_law_boxes_told") fd := T.says.def_ 100 (d := Sv.d_l_boxes_told)
theorem Tx.d_law (T : Tx K mg) : ∃ fd, FunD K "law" "law" (defArgs s_law) (defBody s_law) (defScope s_law) [] [] (He.ga K "law") fd := T.says.def_ 101 (d := Sv.d_law)
theorem Tx.d_Word_fits (T : Tx K mg) : ∃ fd, FunD K "fits" "Rule.fits" (defArgs s_Rule_fits) (defBody s_Rule_fits) (defScope s_Rule_fits) [] [] (He.ma K (He.ga K "Word") "fits") fd := T.says.def_ 102 (d := Sv.d_Word_fits)
theorem Tx.d_Back_fits (T : Tx K mg) : ∃ fd, FunD K "fits" "Rule.fits" (defArgs s_Rule_fits) (defBody s_Rule_fits) (defScope s_Rule_fits) [] [] (He.ma K (He.ga K "Back") "fits") fd := T.says.def_ 103 (d := Sv.d_Back_fits)
theorem Tx.d_Call_fits (T : Tx K mg) : ∃ fd, FunD K "fits" "Rule.fits" (defArgs s_Rule_fits) (defBody s_Rule_fits) (defScope s_Rule_fits) [] [] (He.ma K (He.ga K "Call") "fits") fd := T.says.def_ 104 (d := Sv.d_Call_fits)
theorem Tx.d_Back_init (T : Tx K mg) : ∃ fd, FunD K "__init__" "Rule.__init__" (defArgs s_Rule_init) (defBody s_Rule_init) (defScope s_Rule_init) [] [] (He.ma K (He.ga K "Back") "__init__") fd := T.says.def_ 105 (d := Sv.d_Back_init)
end
end
section
open PySem PySem.Spec PySem.W PySem.Calls PyProof.Rows L2
/-! ### the written part, brought out once -/
def nsRefs (o : Obj) : List Addr := match o.data with
  | .dict es _ => es.toList.flatMap fun e => He.refV e.val
  | _ => []
def clsNs (o : Obj) : List Addr := match o.data with
  | .cls cd => [cd.ns]
  | _ => []
def fnRefs (o : Obj) : List Addr := match o.data with
  | .func fd => He.refV fd.code ++ He.refV fd.defaults
  | _ => []
def atL (g : Addr → Option Obj) (f : Obj → List Addr) (as : List Addr) : List Addr := as.flatMap fun a => match g a with
  | some o => f o
  | none => []
def asX (g : Addr → Option Obj) : List Addr :=
  let a1 := atL g nsRefs [mainGlobals]
  let a2 := atL g clsNs a1
  let a3 := atL g nsRefs a2
  mainGlobals :: PySem.cStatics :: (a1 ++ (a2 ++ (a3 ++ atL g fnRefs (a1 ++ a3))))
section
variable {β : Type}
def fAd : List Addr → (List Addr → β) → β
  | [], k => k []
  | a :: r, k => HandSHeadRun.frNat a fun a => fAd r fun r => k (a :: r)
theorem fAd_eq : ∀ (l : List Addr) (k : List Addr → β), fAd l k = k l
  | [], _ => rfl
  | a :: r, k => by
    show HandSHeadRun.frNat a (fun a => fAd r fun r => k (a :: r)) = _
    rw [HandSHeadRun.frNat_eq, fAd_eq r]
def fVal (v : Value) (k : Value → β) : β := match v with
  | .ref a => HandSHeadRun.frNat a fun a => k (.ref a)
  | .none => k .none
  | .ellipsis => k .ellipsis
  | .notImplemented => k .notImplemented
  | .bool b => k (.bool b)
  | .int i t => k (.int i t)
  | .float b t => k (.float b t)
  | .str s t => k (.str s t)
  | .bytes b t => k (.bytes b t)
  | .type n => k (.type n)
  | .builtin n => k (.builtin n)
theorem fVal_eq (v : Value) (k : Value → β) : fVal v k = k v := by
  cases v with
  | ref a =>
    show HandSHeadRun.frNat a (fun a => k (.ref a)) = _
    rw [HandSHeadRun.frNat_eq]
  | _ => rfl
def fVals : List Value → (List Value → β) → β
  | [], k => k []
  | a :: r, k => fVal a fun a => fVals r fun r => k (a :: r)
theorem fVals_eq : ∀ (l : List Value) (k : List Value → β), fVals l k = k l
  | [], _ => rfl
  | a :: r, k => by
    show fVal a (fun a => fVals r fun r => k (a :: r)) = _
    rw [fVal_eq, fVals_eq r]
def fEnts : List DictEntry → (List DictEntry → β) → β
  | [], k => k []
  | ⟨h, x, v⟩ :: r, k => fVal x fun x => fVal v fun v => fEnts r fun r => k (⟨h, x, v⟩ :: r)
theorem fEnts_eq : ∀ (l : List DictEntry) (k : List DictEntry → β), fEnts l k = k l
  | [], _ => rfl
  | ⟨h, x, v⟩ :: r, k => by
    show fVal x (fun x => fVal v fun v => fEnts r fun r => k (⟨h, x, v⟩ :: r)) = _
    rw [fVal_eq, fVal_eq, fEnts_eq r]
def fData (d : Data) (k : Data → β) : β := match d with
  | .dict es n => fEnts es.toList fun l => k (.dict ⟨l⟩ n)
  | .seq es n => fVals es.toList fun l => k (.seq ⟨l⟩ n)
  | .fields es => fVals es.toList fun l => k (.fields ⟨l⟩)
  | .func ⟨n1, n2, n3, n4, n5, n6, n7, n8, n9, n10, n11, n12, n13, n14, n15⟩ => fVal n8 fun n8 => fVal n9 fun n9 => fVal n13 fun n13 => HandSHeadRun.frNat n6 fun n6 => HandSHeadRun.frNat n15 fun n15 => k (.func ⟨n1, n2, n3, n4, n5, n6, n7, n8, n9, n10, n11, n12, n13, n14, n15⟩)
  | .cls ⟨c1, c2, c3, c4, c5, c6, c7, c8, c9, c10, c11⟩ => fVals c3 fun c3 => HandSHeadRun.frNat c4 fun c4 => k (.cls ⟨c1, c2, c3, c4, c5, c6, c7, c8, c9, c10, c11⟩)
  | .plain => k .plain
  | .prim v => k (.prim v)
  | .set a b c => k (.set a b c)
  | .bytearray a b => k (.bytearray a b)
  | .cell v => k (.cell v)
  | .freed => k .freed
theorem fData_eq (d : Data) (k : Data → β) : fData d k = k d := by
  cases d with
  | dict es n => exact fEnts_eq _ _
  | seq es n => exact fVals_eq _ _
  | fields es => exact fVals_eq _ _
  | func f =>
    obtain ⟨n1, n2, n3, n4, n5, n6, n7, n8, n9, n10, n11, n12, n13, n14, n15⟩ := f
    show fVal n8 (fun n8 => fVal n9 fun n9 => fVal n13 fun n13 => HandSHeadRun.frNat n6 fun n6 => HandSHeadRun.frNat n15 fun n15 => k (.func ⟨n1, n2, n3, n4, n5, n6, n7, n8, n9, n10, n11, n12, n13, n14, n15⟩)) = _
    rw [fVal_eq, fVal_eq, fVal_eq, HandSHeadRun.frNat_eq, HandSHeadRun.frNat_eq]
  | cls c =>
    obtain ⟨c1, c2, c3, c4, c5, c6, c7, c8, c9, c10, c11⟩ := c
    show fVals c3 (fun c3 => HandSHeadRun.frNat c4 fun c4 => k (.cls ⟨c1, c2, c3, c4, c5, c6, c7, c8, c9, c10, c11⟩)) = _
    rw [fVals_eq, HandSHeadRun.frNat_eq]
  | _ => rfl
def fDict (d : Option Addr) (k : Option Addr → β) : β := match d with
  | none => k none
  | some a => HandSHeadRun.frNat a fun a => k (some a)
theorem fDict_eq (d : Option Addr) (k : Option Addr → β) : fDict d k = k d := by
  cases d with
  | none => rfl
  | some a =>
    show HandSHeadRun.frNat a (fun a => k (some a)) = _
    rw [HandSHeadRun.frNat_eq]
def fObj (o : Obj) (k : Obj → β) : β := match o with
  | ⟨c, d, dt, sl⟩ => fVal c fun c => fDict d fun d => fData dt fun dt => k ⟨c, d, dt, sl⟩
theorem fObj_eq (o : Obj) (k : Obj → β) : fObj o k = k o := by
  obtain ⟨c, d, dt, sl⟩ := o
  show fVal c (fun c => fDict d fun d => fData dt fun dt => k ⟨c, d, dt, sl⟩) = _
  rw [fVal_eq, fDict_eq, fData_eq]
def fFr : List (Addr × Obj) → (List (Addr × Obj) → β) → β
  | [], k => k []
  | (a, o) :: r, k => HandSHeadRun.frNat a fun a => fObj o fun o => fFr r fun r => k ((a, o) :: r)
theorem fFr_eq : ∀ (l : List (Addr × Obj)) (k : List (Addr × Obj) → β), fFr l k = k l
  | [], _ => rfl
  | (a, o) :: r, k => by
    show HandSHeadRun.frNat a (fun a => fObj o fun o => fFr r fun r => k ((a, o) :: r)) = _
    rw [HandSHeadRun.frNat_eq, fObj_eq, fFr_eq r]
/-- the written part that g tells, brought out, handed on -/
def viaK (g : Addr → Option Obj) (k : PySem.W.Frag → β) : β :=
  fAd (atL g nsRefs [mainGlobals]) fun a1 => fAd (atL g clsNs a1) fun a2 => fAd (atL g nsRefs a2) fun a3 => fAd (atL g fnRefs (a1 ++ a3)) fun a4 => fFr (He.frG g (mainGlobals :: PySem.cStatics :: (a1 ++ (a2 ++ (a3 ++ a4))))) k
theorem viaK_eq (g : Addr → Option Obj) (k : PySem.W.Frag → β) : viaK g k = k (He.frG g (asX g)) := by
  unfold viaK
  rw [fAd_eq, fAd_eq, fAd_eq, fAd_eq, fFr_eq]
  rfl
end
abbrev AlX : Type := He.AlD × Bool
def obsX (K : PySem.W.Frag) : AlX := (He.obsD fal fnl K, exB K)
def hookX : PySem.W.Hook where
  α := AlX
  obs := fun s => obsX (He.frG s.heap.get? (asX s.heap.get?))
  val := fun _ => (He.valD fnl, true)
  says := fun _ h => ∃ K : PySem.W.Frag, K.In h ∧ obsX K = (He.valD fnl, true)
  of := fun _ _ e => ⟨_, He.frG_in, e⟩
  keeps := fun _ _ _ ⟨K, hK, c⟩ k => ⟨K, PySem.W.Frag.In.keeps hK k, c⟩
def obX (s : SharedT) : AlX := viaK (HandSHeadRun.getT s) obsX
theorem obX_eq (s : SharedT) : obX s = hookX.obs s.abs := by
  unfold obX
  rw [viaK_eq]
  have e : HandSHeadRun.getT s = s.abs.heap.get? := funext (HandSHeadRun.getT_eq s)
  rw [e]
  rfl
abbrev RR : PySem.W.OpenRow := PySem.W.OpenLaw.row PySem.Challenge.rw_sieve_k55_whole_alike_from_text
noncomputable abbrev endR (w : World) (os : OsState) : Option SharedT := HandSHeadRun.endF (HandSHeadRun.stepQ (HandSHeadRun.denQ HandSHeadRun.tabQ) RR.prog w) 40000 RR.prog w os
end
section
open PySem PySem.Spec PySem.W PySem.Calls PyProof.Rows L2
/-! the top is run anew for some looks at a time: all at once would pass the memory limit -/
theorem four {α β γ : Type} {x : Option SharedT} {A B E : PySem.W.Frag → Bool} {V : PySem.W.Frag → α} {L : SharedT → β} {S : SharedT → γ} {l : β} {c : γ} {v : α}
    (h1 : x.map (fun s => viaK (HandSHeadRun.getT s) A) = some true) (h2 : x.map (fun s => viaK (HandSHeadRun.getT s) fun K => B K && E K) = some true)
    (h4 : x.map (fun s => viaK (HandSHeadRun.getT s) V) = some v) (h5 : x.map (fun s => (L s, S s)) = some (l, c)) :
    x.map (fun s => (L s, S s, viaK (HandSHeadRun.getT s) fun K => ((A K && B K, V K), E K))) = some (l, c, ((true, v), true)) := by
  cases x with
  | none => cases h1
  | some s =>
    have e1 : viaK (HandSHeadRun.getT s) A = true := Option.some.inj h1
    have e2 : viaK (HandSHeadRun.getT s) (fun K => B K && E K) = true := Option.some.inj h2
    have e4 : viaK (HandSHeadRun.getT s) V = v := Option.some.inj h4
    have e5 : (L s, S s) = (l, c) := Option.some.inj h5
    rw [viaK_eq] at e1 e2 e4
    rw [Prod.mk.injEq] at e5
    show some (L s, S s, viaK (HandSHeadRun.getT s) fun K => ((A K && B K, V K), E K)) = _
    rw [viaK_eq, e5.1, e5.2]
    generalize He.frG (HandSHeadRun.getT s) (asX (HandSHeadRun.getT s)) = K at *
    show some (l, c, ((A K && B K, V K), E K)) = _
    rw [Bool.and_eq_true] at e2
    rw [e1, e2.1, e2.2, e4]
    rfl
theorem run_1 (w : World) (os : OsState) : (endR w os).map (fun s => viaK (HandSHeadRun.getT s) fun K => fal.all fun f => f.ok K) = some true := by
  kernel_rfl
theorem run_2 (w : World) (os : OsState) : (endR w os).map (fun s => viaK (HandSHeadRun.getT s) fun K => (fnl.all fun d => d.ok K) && exB K) = some true := by
  kernel_rfl
theorem run_3 (w : World) (os : OsState) : (endR w os).map (fun s => viaK (HandSHeadRun.getT s) fun K => fnl.map fun d => He.fnW K d.at_) = some (fnl.map He.DefD.val) := by
  kernel_rfl
theorem run_4 (w : World) (os : OsState) : (endR w os).map (fun s => (HandSHeadRun.looksF RR.prog (boot_heap w.params) s.abs, HandSHeadRun.seenQ (PySem.W.view RR.prog [143]) nml (importedModules RR.prog.main.body) (fun s => PySem.W.xlAt (PySem.W.view RR.prog [143]) [] s && PySem.W.recOk RR.toRowW.records s) s.abs)) = some (true, PySem.W.openGood (PySem.W.view RR.prog [143]) nml) := by
  kernel_rfl
theorem run (w : World) : HandSHeadRun.RunEq RR (PySem.W.view RR.prog [143]) hookX obX 40000 nml w := fun os => four (run_1 w os) (run_2 w os) (run_3 w os) (run_4 w os)
end
section
open PySem PySem.Spec PySem.W PySem.Calls PyProof.Rows L2
abbrev RL : PySem.W.OpenLaw := PySem.Challenge.rw_sieve_k55_whole_alike_from_text
/-- what is left behind the head: the law's def keeps its promise -/
def LawFacts : Prop := ∀ (w : World) (K : PySem.W.Frag) (h : Heap) (mg : Str → Option Value) (f : Addr), K.In h → h.Ns mainGlobals mg → mg ("law" : Str) = some (.ref f) → obsX K = (He.valD fnl, true) →
  ∃ (fd : FuncData) (sp : Sp), (∀ (s : Shared) (v : Value), BindsTo s fd ⟨[v], []⟩ [(("_law_script" : Str), v)]) ∧ (∀ (H : Hp) (a : Addr) (ns : List Int), ns.length ≤ 63 → Only H → SqL K H a (ns.map V.int) → sp [.ref a] H (fun v _ => v = .bl true) fun _ _ _ => False) ∧
    ∀ base : Heap, K.In base → base.Ns mainGlobals mg → FnOk RL.prog w K mg base CX0 13 f fd ["_law_script"] sp
theorem head_end (F : LawFacts) : PySem.Challenge.rw_sieve_k55_whole_alike_from_text.Holds := by
  w_on; o_law
  refine HandSHeadRun.head_any (r := OpenLaw.row RL) (q := view (OpenLaw.row RL).prog [143]) (H := hookX) (ob := obX) (M := 40000) (loose := nml) (d := HandSHeadRun.topDef (OpenLaw.row RL).prog 143) (kwd := []) obX_eq
    (by kernel_rfl) (fun s => by kernel_rfl) run (by kernel_rfl) (by kernel_rfl) (by kernel_rfl) (by rfl) (by first | assumption | decide +kernel) (by decide +kernel) ⟨rfl, rfl, rfl, rfl, rfl, by decide +kernel⟩ ?hw ?hc
  case hw => w_witness2
  case hc =>
    refine L2.walk_ofE (l := RL) (n := 63) (k := 13) (x := "_law_script") (CX := L2.CX0) rfl (by decide) (by kernel_rfl) ⟨rfl, by decide, by decide⟩ ?F (fun _ _ _ _ z => z)
    intro w mg fa h Y G hmg0
    obtain ⟨K, KX, c⟩ := Y
    have hmg : mg ("law" : PySem.Str) = some (.ref fa) := by
      have e : (HandSHeadRun.topDef (OpenLaw.row RL).prog 143).name = ("law" : PySem.Str) := by kernel_rfl
      rw [← e]
      exact hmg0
    obtain ⟨fd, sp, hb, hs, hF⟩ := F w K h mg fa KX G hmg c
    exact ⟨K, fd, sp, KX, hb, hs, hF⟩
end
section
open PySem PySem.Spec PyProof.Rows L2
/-! ### rules of our own: what is made is locked at once -/
/-- a new list, locked from then on -/
def tFz (t : TE) : TE := fun σ H Q => t σ H fun v H' => ∃ p xs, v = .ref p ∧ H' p = some (.lst xs) ∧ ∀ od, Q v (upd H' p (.frz od (.lst xs)))
theorem pe_fz {X : Cx} {e : Expr} {t : TE} (h : PE X e t) : PE X e (tFz t) := by
  refine ⟨fun pins s σ H Q I hw => ?_⟩
  refine thn (h.run pins s σ H _ I hw) fun u s1 ⟨v, H1, I1, r, p, xs, ev, hp, q⟩ => ?_
  obtain ⟨od, I2⟩ := I1.lock hp trivial
  exact ⟨v, _, I2, r, q od⟩
/-- a statement behind which a list is locked -/
def EFz (De : Ends) : Ends := { De with nx := fun σ' H' => ∃ p xs, H' p = some (.lst xs) ∧ ∀ od, De.nx σ' (upd H' p (.frz od (.lst xs))) }
def tFzS (t : TS) : TS := fun De σ H => t (EFz De) σ H
theorem ps_fz {X : Cx} {st : Stmt} {t : TS} (h : PS X st t) : PS X st (tFzS t) := by
  refine ⟨fun pins s σ H De I hw => ?_⟩
  refine thn (h.run pins s σ H _ I hw) fun f s1 q => ?_
  cases f with
  | next =>
    obtain ⟨σ', H', I1, p, xs, hp, q⟩ := q
    obtain ⟨od, I2⟩ := I1.lock hp trivial
    exact ⟨σ', _, I2, q od⟩
  | ret v => exact q
  | brk => exact q
  | cont => exact q
/-- a statement ahead of which a thing is locked -/
def tPre (t : TS) : TS := fun De σ H => ∃ p u, H p = some u ∧ Mut (some u) ∧ ∀ od, t De σ (upd H p (.frz od u))
theorem ps_pre {X : Cx} {st : Stmt} {t : TS} (h : PS X st t) : PS X st (tPre t) := by
  refine ⟨fun pins s σ H De I hw => ?_⟩
  obtain ⟨p, u, hp, mu, hw⟩ := hw
  obtain ⟨od, I2⟩ := I.lock hp mu
  exact h.run pins s σ _ De I2 (hw od)
/-- one of two readings -/
def tOrE (t u : TE) : TE := fun σ H Q => t σ H Q ∨ u σ H Q
theorem PE.or {X : Cx} {e : Expr} {t u : TE} (h : PE X e t) (h' : PE X e u) : PE X e (tOrE t u) := ⟨fun pins s σ H Q I hw => hw.elim (h.run pins s σ H Q I) (h'.run pins s σ H Q I)⟩
/-- a text of one sign that is drawn out -/
def rMulS : R2 := fun x y H Q => ∃ (c : Nat) (n : Nat), x = .str ⟨#[c]⟩ ∧ y = .int (n : Int) ∧ n ≤ 1000 ∧ Q (.str ⟨(List.replicate n c).toArray⟩) H

/-! ### named readings of calls -/
def rMax2 : List V → Hp → VK → Prop := fun xs H Q => ∃ i j, xs = [.int i, .int j] ∧ Q (.int (if j > i then j else i)) H
def rMin2 : List V → Hp → VK → Prop := fun xs H Q => ∃ i j, xs = [.int i, .int j] ∧ Q (.int (if j < i then j else i)) H
def rStrI : List V → Hp → VK → Prop := fun xs H Q => ∃ i, xs = [.int i] ∧ i.natAbs.log2 < 1920 ∧ Q (.str (toString i)) H
def rIntB : List V → Hp → VK → Prop := fun xs H Q => (∃ i, xs = [.int i] ∧ Q (.int i) H) ∨ ∃ k, xs = [.bl k] ∧ Q (.int (if k then 1 else 0)) H
def rIntS : List V → Hp → VK → Prop := fun xs H Q => ∃ a n, xs = [.str a] ∧ PySem.intText? a = some n ∧ a.length ≤ 640 ∧ Q (.int n) H
def rLenQ (K : PySem.W.Frag) : List V → Hp → VK → Prop := fun xs H Q => ∃ p ys, xs = [.ref p] ∧ (SqL K H p ys ∨ SqT K H p ys) ∧ Q (.int ys.length) H
def rLenS : List V → Hp → VK → Prop := fun xs H Q => ∃ z, xs = [.str z] ∧ z.length ≤ sizeLine ∧ Q (.int z.length) H
def rListOf (K : PySem.W.Frag) : List V → Hp → VK → Prop := fun xs H Q => ∃ p ys, xs = [.ref p] ∧ (SqL K H p ys ∨ SqT K H p ys) ∧ ∀ l, H l = none → Q (.ref l) (upd H l (.lst ys))
def rTupOf (K : PySem.W.Frag) : List V → Hp → VK → Prop := fun xs H Q => ∃ p ys, xs = [.ref p] ∧ ((SqL K H p ys ∧ ∀ l, H l = none → Q (.ref l) (upd H l (.tup ys))) ∨ (SqT K H p ys ∧ Q (.ref p) H))
section
variable {X : Cx}
theorem cl_max2 (hc : X.calm = true) : CallR X (.builtin "max") rMax2 := call_max2 hc
theorem cl_min2 (hc : X.calm = true) : CallR X (.builtin "min") rMin2 := call_min2 hc
theorem cl_strI : CallR X (.type "str") rStrI := call_str_int
theorem cl_intB : CallR X (.type "int") rIntB := call_int1
theorem cl_intS : CallR X (.type "int") rIntS := call_int_str
theorem cl_lenQ : CallR X (.builtin "len") (rLenQ X.K) := call_len_seq
theorem cl_lenS : CallR X (.builtin "len") rLenS := call_len_str
theorem cl_listOf : CallR X (.type "list") (rListOf X.K) := call_list_of
theorem cl_tupOf : CallR X (.type "tuple") (rTupOf X.K) := call_tuple_of
end

/-! ### readings, step by step -/
/-- what is wanted of a new tuple, of a new list -/
def NewT (Q : VK) (xs : List V) (H : Hp) : Prop := xs.length ≤ sizeLine ∧ ∀ p, H p = none → Q (.ref p) (upd H p (.tup xs))
def NewM (Q : VK) (xs : List V) (H : Hp) : Prop := xs.length ≤ sizeLine ∧ ∀ p, H p = none → Q (.ref p) (upd H p (.lst xs))
/-- .. of a list that is locked then -/
def FzQ (Q : VK) : VK := fun v H' => ∃ p xs, v = .ref p ∧ H' p = some (.lst xs) ∧ ∀ od, Q v (upd H' p (.frz od (.lst xs)))
section
variable {K : PySem.W.Frag} {σ : L2.St} {H H' : Hp} {v x y u : V} {Q : VK} {De : Ends} {ta tb te : TE} {tr : TA} {t t1 t2 : TS}
theorem w_var {i : Nat} (h : σ[i]? = some (some v)) (k : Q v H) : tVar i σ H Q := ⟨v, h, k⟩
theorem w_c (k : Q v H) : tC v σ H Q := k
theorem w_op {r : R2} (k : ta σ H fun x H1 => tb σ H1 fun y H2 => r x y H2 Q) : tOp r ta tb σ H Q := k
theorem w_un {r : V → Hp → VK → Prop} (k : ta σ H fun x H1 => r x H1 Q) : tUn r ta σ H Q := k
theorem w_I0 {g : Int → Int → V} {i j : Int} (k : Q (g i j) H) : rI0 g (.int i) (.int j) H Q := ⟨i, j, rfl, rfl, k⟩
theorem w_I {C : Int → Int → Prop} {g : Int → Int → V} {i j : Int} (c : C i j) (k : Q (g i j) H) : rI C g (.int i) (.int j) H Q := ⟨i, j, rfl, rfl, c, k⟩
theorem w_U {g : Int → V} {i : Int} (k : Q (g i) H) : rU g (.int i) H Q := ⟨i, rfl, k⟩
theorem dI {i j : Int} : decide (V.int i = V.int j) = decide (i = j) := by
  by_cases h : i = j
  · subst h; simp
  · rw [decide_eq_false h]
    exact decide_eq_false fun z => h (V.int.inj z)
theorem dS {i j : Str} : decide (V.str i = V.str j) = decide (i = j) := by
  by_cases h : i = j
  · subst h; simp
  · rw [decide_eq_false h]
    exact decide_eq_false fun z => h (V.str.inj z)
theorem w_eqI {i j : Int} (k : Q (.bl (decide (i = j))) H) : rEq (.int i) (.int j) H Q := ⟨rfl, by rw [dI]; exact k⟩
theorem w_eqS {i j : Str} (k : Q (.bl (decide (i = j))) H) : rEq (.str i) (.str j) H Q := ⟨rfl, by rw [dS]; exact k⟩
theorem w_neI {i j : Int} (k : Q (.bl (!decide (i = j))) H) : rNe (.int i) (.int j) H Q := ⟨rfl, by rw [dI]; exact k⟩
theorem w_neS {i j : Str} (k : Q (.bl (!decide (i = j))) H) : rNe (.str i) (.str j) H Q := ⟨rfl, by rw [dS]; exact k⟩
theorem w_isN (k : Q (.bl (decide (x = .non))) H) : rIsN x .non H Q := ⟨rfl, k⟩
theorem w_notN (k : Q (.bl (!decide (x = .non))) H) : rNotN x .non H Q := ⟨rfl, k⟩
/-- items -/
theorem w_ixT {ds : List D} {i : Int} {d : D} (h : Dt K H v (.tup ds)) (e : atI ds i = some d) (k : At K H d fun u => Q u H) : rIxT K v (.int i) H Q := by
  obtain ⟨a, xs, rfl, s, r⟩ := h.tupI
  obtain ⟨u, e2, hu⟩ := r.atI e
  exact ⟨a, xs, i, u, rfl, rfl, s, e2, k.use hu⟩
theorem w_ixL {ds : List D} {i : Int} {d : D} (h : Dt K H v (.lst ds)) (e : atI ds i = some d) (k : At K H d fun u => Q u H) : rIxL K v (.int i) H Q := by
  obtain ⟨a, xs, o, rfl, s, r⟩ := h.lstI
  obtain ⟨u, e2, hu⟩ := r.atI e
  exact ⟨a, xs, i, u, rfl, rfl, sqL_frz s, e2, k.use hu⟩
theorem w_ixM {p : Addr} {xs : List V} {ds : List D} {i : Int} {d : D} (h : H p = some (.lst xs)) (r : DtAll K H xs ds) (e : atI ds i = some d) (k : At K H d fun u => Q u H) : rIxL K (.ref p) (.int i) H Q := by
  obtain ⟨u, e2, hu⟩ := r.atI e
  exact ⟨p, xs, i, u, rfl, rfl, SqL.of h, e2, k.use hu⟩
theorem w_ixS {z : Str} {i : Int} {c : Nat} (hz : z.length ≤ sizeLine) (e : atI z.cps.toList i = some c) (k : Q (.str ⟨#[c]⟩) H) : rIxS (.str z) (.int i) H Q := ⟨z, i, c, rfl, rfl, hz, e, k⟩
/-- tests -/
theorem w_test {q : Bool → Hp → Prop} (k : te σ H fun x H1 => ∃ b, x = .bl b ∧ q b H1) : tTest te σ H q := k
theorem w_B {q : Bool → Hp → Prop} (k : te σ H fun x H1 => ∃ b, x = .bl b ∧ q b H1) : tB te σ H q := k
theorem w_bool {b : Bool} {q : Bool → Prop} (k : q b) : ∃ b', V.bl b = .bl b' ∧ q b' := ⟨b, rfl, k⟩
theorem w_and {c d : TT} {q : Bool → Hp → Prop} (k : c σ H fun b H1 => if b = true then d σ H1 q else q false H1) : tAnd c d σ H q := k
theorem w_or {c d : TT} {q : Bool → Hp → Prop} (k : c σ H fun b H1 => if b = true then q true H1 else d σ H1 q) : tOr c d σ H q := k
theorem w_not {c : TT} {q : Bool → Hp → Prop} (k : c σ H fun b H1 => q (!b) H1) : tNot c σ H q := k
theorem w_andV (k : ta σ H fun x H1 => ∃ b, x = .bl b ∧ if b = true then tb σ H1 Q else Q (.bl false) H1) : tAndV ta tb σ H Q := k
theorem w_orV (k : ta σ H fun x H1 => ∃ b, x = .bl b ∧ if b = true then Q (.bl true) H1 else tb σ H1 Q) : tOrV ta tb σ H Q := k
theorem w_notV (k : ta σ H fun x H1 => ∃ b, x = .bl b ∧ Q (.bl (!b)) H1) : tNotV ta σ H Q := k
theorem w_chain {r r' : R2} {tc : TE} (k : ta σ H fun x H1 => tb σ H1 fun y H2 => r x y H2 fun z H3 => ∃ b, z = .bl b ∧ if b = true then tc σ H3 fun w H4 => r' y w H4 Q else Q (.bl false) H3) : tChain r r' ta tb tc σ H Q := k
/-- statements -/
theorem w_seqA {g : TG} (k : te σ H fun x H1 => g x σ H1 (t De)) : tSeq (tAsg te g) t De σ H := k
theorem w_seqI {c : TT} (k : c σ H fun b H1 => if b = true then t1 { De with nx := t De } σ H1 else t2 { De with nx := t De } σ H1) : tSeq (tIfS c t1 t2) t De σ H := k
theorem w_seqD (k : te σ H fun _ H1 => t De σ H1) : tSeq (tDrop te) t De σ H := k
theorem w_seqR (k : te σ H De.rt) : tSeq (tRet te) t De σ H := k
theorem w_seqC (k : De.ct σ H) : tSeq tCont t De σ H := k
theorem w_seqS (k : t1 { De with nx := tSeq t2 t De } σ H) : tSeq (tSeq t1 t2) t De σ H := k
theorem w_seqN (k : t De σ H) : tSeq tNext t De σ H := k
theorem w_next (k : De.nx σ H) : tNext De σ H := k
theorem w_ret (k : te σ H De.rt) : tRet te De σ H := k
theorem w_if {c : TT} (k : c σ H fun b H1 => if b = true then t1 De σ H1 else t2 De σ H1) : tIfS c t1 t2 De σ H := k
theorem w_name {i : Nat} {q : L2.St → Hp → Prop} (k : q (σ.set i (some v)) H) : gName i v σ H q := k
/-- targets of two, three, more names -/
theorem w_tup {ds : List D} {n : Nat} {gs : TGs} {q : L2.St → Hp → Prop} (h : Dt K H v (.tup ds)) (e : ds.length = n) (k : ∀ xs, DtAll K H xs ds → gs xs σ H q) : gTup K n gs v σ H q := by
  obtain ⟨a, xs, rfl, s, r⟩ := h.tupI
  exact ⟨a, xs, rfl, s, r.length.trans e, k xs r⟩
theorem w_gcons {d : D} {ds : List D} {i : Nat} {gs : TGs} {xs : List V} {q : L2.St → Hp → Prop} (r : DtAll K H xs (d :: ds)) (k : At K H d fun u => ∀ ys, DtAll K H ys ds → gs ys (σ.set i (some u)) H q) : gCons (gName i) gs xs σ H q := by
  cases r with
  | cons h r => exact ⟨_, _, rfl, (At.use (Q := fun u => ∀ ys, DtAll K H ys ds → gs ys (σ.set i (some u)) H q) k h) _ r⟩
theorem w_gnil {xs : List V} {q : L2.St → Hp → Prop} (r : DtAll K H xs []) (k : q σ H) : gNil xs σ H q := by
  cases r
  exact ⟨rfl, k⟩
/-- arguments, calls -/
theorem w_nil {q : List V → Hp → Prop} (k : q [] H) : tNil σ H q := k
theorem w_cons {q : List V → Hp → Prop} (k : te σ H fun x H1 => tr σ H1 fun xs H2 => q (x :: xs) H2) : tCons te tr σ H q := k
theorem w_CB {r : List V → Hp → VK → Prop} (k : tr σ H fun vs H1 => r vs H1 Q) : tCB r tr σ H Q := k
theorem w_call {sp : Sp} {E : XK} (k : tr σ H fun vs H1 => sp vs H1 Q E) : tCall sp [] E tr σ H Q := by
  unfold tCall
  have e : (fun (vs : List V) (H1 : Hp) => sp (vs ++ []) H1 Q E) = fun vs H1 => sp vs H1 Q E := by
    funext vs H1
    rw [List.append_nil]
  rw [e]
  exact k
theorem w_max2 {i j : Int} (k : Q (.int (if j > i then j else i)) H) : rMax2 [.int i, .int j] H Q := ⟨i, j, rfl, k⟩
theorem w_min2 {i j : Int} (k : Q (.int (if j < i then j else i)) H) : rMin2 [.int i, .int j] H Q := ⟨i, j, rfl, k⟩
theorem w_strI {i : Int} (h : i.natAbs.log2 < 1920) (k : Q (.str (toString i)) H) : rStrI [.int i] H Q := ⟨i, rfl, h, k⟩
theorem w_intB {b : Bool} (k : Q (.int (if b then 1 else 0)) H) : rIntB [.bl b] H Q := .inr ⟨b, rfl, k⟩
theorem w_intS {a : Str} {n : Int} (h : PySem.intText? a = some n) (hz : a.length ≤ 640) (k : Q (.int n) H) : rIntS [.str a] H Q := ⟨a, n, rfl, h, hz, k⟩
theorem w_lenL {ds : List D} (h : Dt K H v (.lst ds)) (k : Q (.int (ds.length : Nat)) H) : rLenQ K [v] H Q := by
  obtain ⟨a, xs, o, rfl, s, r⟩ := h.lstI
  exact ⟨a, xs, rfl, .inl (sqL_frz s), by rw [r.length]; exact k⟩
theorem w_lenT {ds : List D} (h : Dt K H v (.tup ds)) (k : Q (.int (ds.length : Nat)) H) : rLenQ K [v] H Q := by
  obtain ⟨a, xs, rfl, s, r⟩ := h.tupI
  exact ⟨a, xs, rfl, .inr s, by rw [r.length]; exact k⟩
theorem w_lenM {p : Addr} {xs : List V} (h : H p = some (.lst xs)) (k : Q (.int (xs.length : Nat)) H) : rLenQ K [.ref p] H Q := ⟨p, xs, rfl, .inl (SqL.of h), k⟩
theorem w_lenS {z : Str} (h : z.length ≤ sizeLine) (k : Q (.int (z.length : Nat)) H) : rLenS [.str z] H Q := ⟨z, rfl, h, k⟩
/-- what is new -/
theorem new_T {xs : List V} {ds : List D} {p : Addr} (r : DtAll K H xs ds) (n : H p = none) : Dt K (upd H p (.tup xs)) (.ref p) (.tup ds) := .tup (SqT.of upd_same) (r.up (Same.new n).ext)
theorem new_F {xs : List V} {ds : List D} {p : Addr} {od : Obj} (h : H p = some (.lst xs)) (r : DtAll K H xs ds) : Dt K (upd H p (.frz od (.lst xs))) (.ref p) (.lst ds) := .lst od upd_same (r.up (Ext.mut h rfl))
theorem w_newT {xs : List V} {ds : List D} (r : DtAll K H xs ds) (hz : xs.length ≤ sizeLine) (k : ∀ u H', Same H H' → Dt K H' u (.tup ds) → Q u H') : NewT Q xs H :=
  ⟨hz, fun _ n => k _ _ (Same.new n) (new_T r n)⟩
theorem w_tTup (k : tr σ H fun xs H1 => NewT Q xs H1) : tTup tr σ H Q := k
/-- a list display: to be stored into, or locked -/
theorem w_tLst (k : tr σ H fun xs H1 => NewM Q xs H1) : tLst tr σ H Q := k
theorem w_newM {xs : List V} (hz : xs.length ≤ sizeLine) (k : ∀ p H', H p = none → Same H H' → H' p = some (.lst xs) → Q (.ref p) H') : NewM Q xs H :=
  ⟨hz, fun p n => k p _ n (Same.new n) upd_same⟩
/-- a list just made, locked -/
theorem fz_new {p : Addr} {xs : List V} {ds : List D} (n : H p = none) (s : Same H H') (hp : H' p = some (.lst xs)) (r : DtAll K H' xs ds) (k : ∀ u H2, Same H H2 → Dt K H2 u (.lst ds) → Q u H2) : FzQ Q (.ref p) H' :=
  ⟨p, xs, rfl, hp, fun od => k _ _ (s.mut n) (new_F hp r)⟩
theorem w_fz {t : TE} (k : t σ H (FzQ Q)) : tFz t σ H Q := k
theorem newF {xs : List V} {ds : List D} (r : DtAll K H xs ds) (k : ∀ u H', Same H H' → Dt K H' u (.lst ds) → Q u H') : ∀ p, H p = none → FzQ Q (.ref p) (upd H p (.lst xs)) := fun p n =>
  ⟨p, xs, rfl, upd_same, fun od => k _ _ ((Same.new n).mut n) (new_F upd_same (r.up (Same.new n).ext))⟩
theorem w_newF {xs : List V} {ds : List D} (r : DtAll K H xs ds) (hz : xs.length ≤ sizeLine) (k : ∀ u H', Same H H' → Dt K H' u (.lst ds) → Q u H') : NewM (FzQ Q) xs H := ⟨hz, newF r k⟩
/-- a list of our own, handed out: locked -/
theorem w_outF {p : Addr} {xs : List V} {ds : List D} (h : H p = some (.lst xs)) (r : DtAll K H xs ds) (k : ∀ H', But p H H' → Dt K H' (.ref p) (.lst ds) → Q (.ref p) H') : FzQ Q (.ref p) H := ⟨p, xs, rfl, h, fun od => k _ (But.upd p H _) (new_F h r)⟩
theorem w_tupOf {ds : List D} (h : Dt K H v (.lst ds)) (k : ∀ u H', Same H H' → Dt K H' u (.tup ds) → Q u H') : rTupOf K [v] H Q := by
  obtain ⟨a, xs, o, rfl, s, r⟩ := h.lstI
  exact ⟨a, xs, rfl, .inl ⟨sqL_frz s, fun p n => k _ _ (Same.new n) (new_T r n)⟩⟩
theorem w_tupOfM {p : Addr} {xs : List V} {ds : List D} (h : H p = some (.lst xs)) (r : DtAll K H xs ds) (k : ∀ u H', Same H H' → Dt K H' u (.tup ds) → Q u H') : rTupOf K [.ref p] H Q :=
  ⟨p, xs, rfl, .inl ⟨SqL.of h, fun p n => k _ _ (Same.new n) (new_T r n)⟩⟩
/-- list(x): to be stored into, or locked -/
theorem w_listOfM {ds : List D} (h : Dt K H v (.lst ds)) (k : ∀ p xs H', H p = none → Same H H' → H' p = some (.lst xs) → DtAll K H' xs ds → Q (.ref p) H') : rListOf K [v] H Q := by
  obtain ⟨a, xs, o, rfl, s, r⟩ := h.lstI
  exact ⟨a, xs, rfl, .inl (sqL_frz s), fun p n => k p xs _ n (Same.new n) upd_same (r.up (Same.new n).ext)⟩
theorem w_listOfF {ds : List D} (h : Dt K H v (.lst ds)) (k : ∀ u H', Same H H' → Dt K H' u (.lst ds) → Q u H') : rListOf K [v] H (FzQ Q) := by
  obtain ⟨a, xs, o, rfl, s, r⟩ := h.lstI
  exact ⟨a, xs, rfl, .inl (sqL_frz s), newF r k⟩
theorem w_all {bs : List Bool} (h : Dt K H v (.lst (bs.map D.bl))) (k : Q (.bl (bs.all id)) H) : rAll K [v] H Q := by
  obtain ⟨a, xs, o, rfl, s, r⟩ := h.lstI
  have e := r.bls
  subst e
  exact ⟨a, bs, rfl, sqL_frz s, k⟩
theorem w_sum {ns : List Int} (h : Dt K H v (.lst (ns.map D.int))) (k : Q (.int ns.sum) H) : rSum K [v] H Q := by
  obtain ⟨a, xs, o, rfl, s, r⟩ := h.lstI
  have e := r.ints
  subst e
  exact ⟨a, ns, rfl, sqL_frz s, k⟩
/-- methods of lists -/
theorem w_BM {T : String} {r : V → List V → Hp → VK → Prop} (k : ta σ H fun x H1 => tyV K T x H1 ∧ tr σ H1 fun xs H2 => r x xs H2 Q) : tBM K T r ta tr σ H Q := k
theorem w_BM0 {T : String} {r : V → List V → Hp → VK → Prop} (k : ta σ H fun x H1 => tyV K T x H1 ∧ r x [] H1 Q) : tBM0 K T r ta σ H Q := k
theorem w_tyL {p : Addr} {xs : List V} {R : Prop} (h : H p = some (.lst xs)) (k : R) : tyV K "list" (.ref p) H ∧ R := ⟨.inl ⟨rfl, _, SqL.of h⟩, k⟩
theorem w_append {p : Addr} {xs : List V} (h : H p = some (.lst xs)) (hz : xs.length < sizeLine) (k : ∀ H', But p H H' → Ext H H' → H' p = some (.lst (xs ++ [u])) → Q .non H') : rAppend (.ref p) [u] H Q :=
  ⟨p, xs, u, rfl, rfl, h, hz, k _ (But.upd p H _) (Ext.mut h rfl) upd_same⟩
theorem w_pop {p : Addr} {xs : List V} (h : H p = some (.lst (xs ++ [u]))) (k : ∀ H', But p H H' → Ext H H' → H' p = some (.lst xs) → Q u H') : rPop (.ref p) [] H Q := by
  refine ⟨p, xs ++ [u], u, rfl, rfl, h, by simp, ?_⟩
  refine k _ (But.upd p H _) (Ext.mut h rfl) ?_
  rw [List.dropLast_concat]
  exact upd_same
theorem w_setL {p : Addr} {xs : List V} {j : Nat} {q : Hp → Prop} (h : H p = some (.lst xs)) (hj : j < xs.length) (k : ∀ H', But p H H' → Ext H H' → H' p = some (.lst (xs.set j u)) → q H') : rSetL (.ref p) (.int (j : Int)) u H q := by
  refine ⟨p, xs, (j : Int), j, rfl, rfl, h, ?_, k _ (But.upd p H _) (Ext.mut h rfl) upd_same⟩
  unfold ixN
  rw [if_pos (Int.natCast_nonneg j), if_pos (Int.ofNat_lt.mpr hj), Int.toNat_natCast]
end
end
section
open PySem PySem.Spec PyProof.Rows L2
/-! ### a def and its promise -/
structure Fd (P : Program) (w : World) (K : PySem.W.Frag) (mg : Str → Option Value) (base : Heap) (k : Nat) (f : Addr) (ps : List Str) (sp : Sp) : Prop where
  ex : ∃ fd, FnOk P w K mg base CX0 k f fd ps sp ∧ PySem.W.keepIn K (.ref f) = true ∧ Binds K fd ps []
section
variable {P : Program} {w : World} {K : PySem.W.Frag} {mg : Str → Option Value} {base : Heap}
theorem Fd.mono {j k : Nat} {f : Addr} {ps : List Str} {sp : Sp} (F : Fd P w K mg base j f ps sp) (h : j ≤ k) : Fd P w K mg base k f ps sp :=
  let ⟨fd, a, b, c⟩ := F.ex
  ⟨fd, a.mono h, b, c⟩
theorem Fd.imp {k : Nat} {f : Addr} {ps : List Str} {sp sp' : Sp} (F : Fd P w K mg base k f ps sp) (h : ∀ vs H Q E, sp' vs H Q E → sp vs H Q E) : Fd P w K mg base k f ps sp' :=
  let ⟨fd, a, b, c⟩ := F.ex
  ⟨fd, a.imp h, b, c⟩
theorem mkFd {n qual : Str} {params : Arguments} {body : List Stmt} {scope : Scope} {f : Addr} {N ps : List Str} {k : Nat} {sp : Sp} (hF : ∃ fd, FunD K n qual params body scope [] [] f fd) (S : FnScope N ps scope)
    (b : ∀ (kV doc pm : Value) (an : Option Addr) (cdv ct : Value) (us : List Value), us.length = ps.length → bindArgs (PySem.W.fnOf n qual params body scope .none kV doc pm an cdv ct) ⟨us, []⟩ = pure (ps.zip us))
    (len : ∀ vs H Q E, sp vs H Q E → vs.length = ps.length)
    (hbody : ∀ (cdv : Value) (A : Around) (outer : List Env) (s : Shared) (H : Hp) (vs : List V) (Q : VK) (E : XK), Room k (A.deeper (envOfC qual scope s.heap.objs.size f cdv)) → sp vs H Q E →
      ∃ t, PSs (cxOf CX0 P w K mg base N qual scope f cdv A outer s H E).nox body t ∧ t { nx := fun _ H' => Q .non H', rt := Q } (start N vs) H) : Fd P w K mg base (k + 1) f ps sp := by
  obtain ⟨fd, F⟩ := hF
  refine ⟨fd, F.ok S len fun cdv A outer s H vs Q E hr h => ?_, F.kp, F.bindsN b⟩
  obtain ⟨t, h1, h2⟩ := hbody cdv A outer s H vs Q E hr h
  exact ⟨t, h1.nox, h2⟩
/-- no promise at all: what is never called -/
theorem noFd {n qual : Str} {params : Arguments} {body : List Stmt} {scope : Scope} {f : Addr} {ps : List Str} (k : Nat) (hF : ∃ fd, FunD K n qual params body scope [] [] f fd)
    (b : ∀ (kV doc pm : Value) (an : Option Addr) (cdv ct : Value) (us : List Value), us.length = ps.length → bindArgs (PySem.W.fnOf n qual params body scope .none kV doc pm an cdv ct) ⟨us, []⟩ = pure (ps.zip us)) :
    Fd P w K mg base k f ps (fun _ _ _ _ => False) := by
  obtain ⟨fd, F⟩ := hF
  exact ⟨fd, ⟨fun _ _ _ _ h => h.elim, fun _ _ _ _ _ _ _ _ _ _ _ _ _ h => h.elim⟩, F.kp, F.bindsN b⟩
end
/-! promises by the number of arguments -/
def Sp0 (R : Hp → VK → Prop) : Sp := fun vs H Q _ => vs = [] ∧ R H Q
def Sp1 (R : V → Hp → VK → Prop) : Sp := fun vs H Q _ => ∃ a, vs = [a] ∧ R a H Q
def Sp2 (R : V → V → Hp → VK → Prop) : Sp := fun vs H Q _ => ∃ a b, vs = [a, b] ∧ R a b H Q
def Sp3 (R : V → V → V → Hp → VK → Prop) : Sp := fun vs H Q _ => ∃ a b c, vs = [a, b, c] ∧ R a b c H Q
def Sp4 (R : V → V → V → V → Hp → VK → Prop) : Sp := fun vs H Q _ => ∃ a b c d, vs = [a, b, c, d] ∧ R a b c d H Q
def Sp5 (R : V → V → V → V → V → Hp → VK → Prop) : Sp := fun vs H Q _ => ∃ a b c d e, vs = [a, b, c, d, e] ∧ R a b c d e H Q
section
variable {vs : List V} {H : Hp} {Q : VK} {E : XK} {a b c d e : V}
theorem Sp0.len {R : Hp → VK → Prop} (h : Sp0 R vs H Q E) : vs.length = 0 := by obtain ⟨rfl, _⟩ := h; rfl
theorem Sp1.len {R : V → Hp → VK → Prop} (h : Sp1 R vs H Q E) : vs.length = 1 := by obtain ⟨_, rfl, _⟩ := h; rfl
theorem Sp2.len {R : V → V → Hp → VK → Prop} (h : Sp2 R vs H Q E) : vs.length = 2 := by obtain ⟨_, _, rfl, _⟩ := h; rfl
theorem Sp3.len {R : V → V → V → Hp → VK → Prop} (h : Sp3 R vs H Q E) : vs.length = 3 := by obtain ⟨_, _, _, rfl, _⟩ := h; rfl
theorem Sp4.len {R : V → V → V → V → Hp → VK → Prop} (h : Sp4 R vs H Q E) : vs.length = 4 := by obtain ⟨_, _, _, _, rfl, _⟩ := h; rfl
theorem Sp5.len {R : V → V → V → V → V → Hp → VK → Prop} (h : Sp5 R vs H Q E) : vs.length = 5 := by obtain ⟨_, _, _, _, _, rfl, _⟩ := h; rfl
theorem Sp0.mk {R : Hp → VK → Prop} (k : R H Q) : Sp0 R [] H Q E := ⟨rfl, k⟩
theorem Sp1.mk {R : V → Hp → VK → Prop} (k : R a H Q) : Sp1 R [a] H Q E := ⟨_, rfl, k⟩
theorem Sp2.mk {R : V → V → Hp → VK → Prop} (k : R a b H Q) : Sp2 R [a, b] H Q E := ⟨_, _, rfl, k⟩
theorem Sp3.mk {R : V → V → V → Hp → VK → Prop} (k : R a b c H Q) : Sp3 R [a, b, c] H Q E := ⟨_, _, _, rfl, k⟩
theorem Sp4.mk {R : V → V → V → V → Hp → VK → Prop} (k : R a b c d H Q) : Sp4 R [a, b, c, d] H Q E := ⟨_, _, _, _, rfl, k⟩
theorem Sp5.mk {R : V → V → V → V → V → Hp → VK → Prop} (k : R a b c d e H Q) : Sp5 R [a, b, c, d, e] H Q E := ⟨_, _, _, _, _, rfl, k⟩
end
/-! ### calls of such defs -/
section
variable {X : Cx} {k : Nat} {f C : Addr} {ps : List Str} {sp : Sp} {x m : Str} {p pos apos : Pos} {e o : Expr} {es : List Expr} {ta : TE} {t : TA}
theorem pe_f (F : Fd X.prog X.w X.K X.mg X.base k f ps sp) (hr : Room k X.A) (hg : Gl X x) (hm : X.mg x = some (.ref f)) (ha : PA X (e :: es) t) (hdb : (x == ("__debug__" : Str)) = false := by decide)
    (he : starEach (e :: es) X.env = (false, eval e X.env) :: starEach es X.env := by rfl) (hpl : (backTo pos (starEach es X.env)).any (·.1) = false := by rfl) : PE X (.Call (.Name x p) (e :: es) [] pos) (tCall sp [] E0 t) := by
  obtain ⟨fd, F1, kp, b⟩ := F.ex
  exact pe_call F1 hr hg hm kp b .nil pass0 ha hdb he hpl
theorem pe_f0 (F : Fd X.prog X.w X.K X.mg X.base k f ps sp) (hr : Room k X.A) (hg : Gl X x) (hm : X.mg x = some (.ref f)) (hdb : (x == ("__debug__" : Str)) = false := by decide) : PE X (.Call (.Name x p) [] [] pos) (tCall sp [] E0 tNil) := by
  obtain ⟨fd, F1, kp, b⟩ := F.ex
  exact pe_call0 F1 hr hg hm kp b .nil pass0 hdb
theorem pe_m {pl : Sem Bool} (he : PE X o ta) (c : Cls X.K C) (hm : Meth X.K C m f) (F : Fd X.prog X.w X.K X.mg X.base k f ps sp) (hr : Room k X.A) (ha : PA X (e :: es) t)
    (hst : starEach (e :: es) X.env = (false, eval e X.env) :: starEach es X.env := by rfl) (hpl : (backTo pos (starEach es X.env)).any (·.1) = false := by rfl)
    (ht : eval (.Call (.Attribute o m apos) (e :: es) [] pos) X.env = (do
      let ov ← eval o X.env
      standAt apos.atName
      let (f, first) ← holding [ov] (getMethod ov m pl)
      callWith pos f first (backTo pos (starEach (e :: es) X.env)) (backToKw pos (keywordEach [] X.env))) := by rfl) : PE X (.Call (.Attribute o m apos) (e :: es) [] pos) (tMeth C m sp [] E0 ta t) := by
  obtain ⟨fd, F1, kp, b⟩ := F.ex
  exact pe_meth he c hm F1 hr b .nil pass0 ha hst hpl ht
theorem pe_m0 {pl : Sem Bool} (he : PE X o ta) (c : Cls X.K C) (hm : Meth X.K C m f) (F : Fd X.prog X.w X.K X.mg X.base k f ps sp) (hr : Room k X.A)
    (ht : eval (.Call (.Attribute o m apos) [] [] pos) X.env = (do
      let ov ← eval o X.env
      standAt apos.atName
      let (f, first) ← holding [ov] (getMethod ov m pl)
      callWith pos f first (backTo pos (starEach [] X.env)) (backToKw pos (keywordEach [] X.env))) := by rfl) : PE X (.Call (.Attribute o m apos) [] [] pos) (tMeth C m sp [] E0 ta tNil) := by
  obtain ⟨fd, F1, kp, b⟩ := F.ex
  exact pe_meth0 he c hm F1 hr b .nil pass0 ht
theorem pe_k (M : Mk X.K C f) (F : Fd X.prog X.w X.K X.mg X.base k f ps sp) (hr : Room (k + 1) X.A) (hg : Gl X x) (hm : X.mg x = some (.ref C)) (ha : PA X (e :: es) t) (hdb : (x == ("__debug__" : Str)) = false := by decide)
    (he : starEach (e :: es) X.env = (false, eval e X.env) :: starEach es X.env := by rfl) (hpl : (backTo pos (starEach es X.env)).any (·.1) = false := by rfl) : PE X (.Call (.Name x p) (e :: es) [] pos) (tMake C sp [] E0 t) := by
  obtain ⟨fd, F1, kp, b⟩ := F.ex
  exact pe_make M F1 hr hg hm b .nil pass0 ha hdb he hpl
theorem pe_k0 (M : Mk X.K C f) (F : Fd X.prog X.w X.K X.mg X.base k f ps sp) (hr : Room (k + 1) X.A) (hg : Gl X x) (hm : X.mg x = some (.ref C)) (hdb : (x == ("__debug__" : Str)) = false := by decide) :
    PE X (.Call (.Name x p) [] [] pos) (tMake C sp [] E0 tNil) := by
  obtain ⟨fd, F1, kp, b⟩ := F.ex
  exact pe_make0 M F1 hr hg hm b .nil pass0 hdb
/-- C.m(o, ..), C a class, m a plain def of it -/
def tClsF (C : Addr) (sp : Sp) (ta : TE) (t : TA) : TE := fun σ H Q => ta σ H fun x H1 => x = .ref C ∧ t σ H1 fun vs H2 => sp vs H2 Q E0
theorem pe_cf {pl : Sem Bool} (he : PE X o ta) (r : ClX.CRead X.K C (.type "type")) (c : PySem.W.findCls X.K (.ref C) (.type "type") m = some (.val (.ref f))) (F : Fd X.prog X.w X.K X.mg X.base k f ps sp) (hr : Room k X.A) (ha : PA X (e :: es) t)
    (hst : starEach (e :: es) X.env = (false, eval e X.env) :: starEach es X.env := by rfl) (hpl : (backTo pos (starEach es X.env)).any (·.1) = false := by rfl)
    (ht : eval (.Call (.Attribute o m apos) (e :: es) [] pos) X.env = (do
      let ov ← eval o X.env
      standAt apos.atName
      let (f, first) ← holding [ov] (getMethod ov m pl)
      callWith pos f first (backTo pos (starEach (e :: es) X.env)) (backToKw pos (keywordEach [] X.env))) := by rfl) : PE X (.Call (.Attribute o m apos) (e :: es) [] pos) (tClsF C sp ta t) := by
  obtain ⟨fd, F1, kp, b⟩ := F.ex
  refine ⟨fun pins s σ H Q I h => ?_⟩
  refine PySem.W.methodCall_KW (pl := pl) (thn (he.run pins s σ H _ I h) fun u s1 ⟨x, H1, I1, rx, ex, q⟩ => ?_) ht
  subst ex
  obtain rfl : u = Value.ref C := rx
  refine PySem.W.method_cls I1.kIn r.ga (PySem.W.cls_value I1.kIn r.rd c rfl ?_)
  refine PySem.W.callWith_K (first := []) (h₀ := X.base) I1.ok.mod.kin kp (thn (ha.run pos pins _ σ H1 _ (I1.tok (s1.toks + 1)) q) fun us s2 ⟨vs, H2, I2, r2, q2⟩ => ⟨I2.kIn, ?_⟩) hst hpl
  exact run_fn F1 hr b .nil pass0 I2 r2 (by rw [List.append_nil]; exact q2)
end
theorem hu65 {A : Around} {k : Nat} (hr : Room k A) : A.units + 65 < cLine := by
  have := hr.un
  omega
theorem Tx.rd_Rule {K : PySem.W.Frag} {mg : Str → Option Value} (T : Tx K mg) : ClX.CRead K (He.ga K "Rule") (.type "type") := ⟨T.x_rd, T.x_ga⟩
theorem Tx.cv_Rule_init {K : PySem.W.Frag} {mg : Str → Option Value} (T : Tx K mg) : PySem.W.findCls K (.ref (He.ga K "Rule")) (.type "type") "__init__" = some (.val (.ref (He.ma K (He.ga K "Rule") "__init__"))) := T.x_cv
/-! ### operators of our own -/
section
variable {X : Cx}
def rCatF : R2 := fun x y H Q => ∃ l b xs zs, x = .ref l ∧ y = .ref b ∧ Rd H l (.lst xs) ∧ Rd H b (.lst zs) ∧ xs.length + zs.length ≤ sizeLine ∧ ∀ p, H p = none → Q (.ref p) (upd H p (.lst (xs ++ zs)))
theorem op_catF : OpR X (binaryOp .Add) rCatF := by
  intro pins s σ H x y v u Q I rx ry h
  obtain ⟨l, b, xs, zs, rfl, rfl, hH, hB, hz, q⟩ := h
  obtain rfl : v = Value.ref l := rx
  obtain rfl : u = Value.ref b := ry
  obtain ⟨_, its, n, r, e⟩ := hH.ok I.hok
  obtain ⟨_, its2, n2, r2, e2⟩ := hB.ok I.hok
  have l1 := r.length
  have l2 := r2.length
  refine PySem.P.add_list e e2 ?_ (by rw [List.size_toArray, List.size_toArray]; omega)
  have ea : its.toArray ++ its2.toArray = (its ++ its2).toArray := by simp
  rw [ea]
  exact ⟨.ref _, _, I.lnew (t' := s.toks) (r.append r2) (by rw [List.length_append]; exact hz), rfl, q _ I.fresh⟩
theorem rep_fold (c : Nat) : ∀ (n : Nat) (acc : Array Nat), (List.replicate n (#[c] : Array Nat)).foldl (· ++ ·) acc = acc ++ (List.replicate n c).toArray
  | 0, acc => by simp
  | n + 1, acc => by
    rw [List.replicate_succ, List.foldl_cons, rep_fold c n (acc ++ #[c]), List.replicate_succ]
    rw [Array.append_assoc]
    congr 1
    exact List.append_toArray [c] _
/-- a text of one sign, drawn out -/
theorem op_mulS : OpR X (binaryOp .Mult) rMulS := by
  intro pins s σ H x y v u Q I rx ry h
  obtain ⟨c, n, rfl, rfl, hn, q⟩ := h
  obtain ⟨t, rfl⟩ := (show ∃ t, v = Value.str ⟨#[c]⟩ t from rx)
  obtain ⟨t', rfl⟩ := (show ∃ t', u = Value.int (n : Int) t' from ry)
  have hz : sizeLine = 16777216 := sizeLine_eq
  have hl : (⟨#[c]⟩ : Str).length = 1 := rfl
  refine PySem.P.mul_str ?_ (fun h1 h2 h3 => ?_) (fun h1 h2 => ?_) ?_
  · rw [decide_eq_false (by omega), decide_eq_false (by omega)] <;> rfl
  · rw [hl] at h3
    have h4 : ((1000 : Nat) : Int) ≤ (2 ^ 63 - 1) / (n : Int) := (Int.le_ediv_iff_mul_le (by omega)).mpr (by omega)
    omega
  · rw [hl]
    have e : 1 * ((n : Nat) : Int).toNat = n := by omega
    rw [e]
    unfold Builtin.Str.tooLong
    exact decide_eq_false (by omega)
  · by_cases h0 : ((n : Nat) : Int) < 1
    · rw [if_pos h0]
      have e : n = 0 := by omega
      subst e
      exact ⟨by decide, ⟨.str Str.empty, H, I.tok _, ⟨_, rfl⟩, q⟩⟩
    · rw [if_neg h0]
      by_cases h1 : (((n : Nat) : Int) == 1 || (⟨#[c]⟩ : Str).length == 0) = true
      · rw [if_pos h1]
        have e : n = 1 := by
          rw [hl] at h1
          have h2 : (((n : Nat) : Int) == 1) = true := by
            rcases Bool.or_eq_true_iff.mp h1 with z | z
            · exact z
            · cases z
          have h3 := eq_of_beq h2
          omega
        subst e
        exact ⟨.str ⟨#[c]⟩, H, I, ⟨_, rfl⟩, q⟩
      · rw [if_neg h1]
        have e : (⟨(List.replicate ((n : Nat) : Int).toNat (#[c] : Array Nat)).foldl (· ++ ·) #[]⟩ : Str) = ⟨(List.replicate n c).toArray⟩ := by
          rw [Int.toNat_natCast, rep_fold c n #[]]
          simp
        rw [e]
        refine ⟨?_, ⟨.str _, H, I.tok _, ⟨_, rfl⟩, q⟩⟩
        show (List.replicate n c).toArray.size ≤ sizeLine
        simp
        omega
end
/-! ### enumerate of a tuple -/
theorem meets_enumT (l : Addr) (items : Array Value) :
    Meets (Builtin.«enumerate.__new__» ⟨[.type "enumerate", .ref l], []⟩) (fun _ R s => s.heap.IsTuple l items ∧
      R (.ok (.ret (.ref (s.heap.push { cls := .type "tuple_iterator", data := .fields #[.ref l, .int 0 0] }).objs.size)))
        { s with heap := (s.heap.push { cls := .type "tuple_iterator", data := .fields #[.ref l, .int 0 0] }).push { cls := .type "enumerate", data := .fields #[.none, .bool false, .ref s.heap.objs.size, rawInt 0, .none, .none] } }) :=
  .of_wp fun prog w A R s h => by
    obtain ⟨hp, g, d, tk, os⟩ := s
    obtain ⟨hL, h⟩ := h
    have hsub := sub_enumerate
    obtain ⟨o, hl, hc, n, hd⟩ := id hL
    wp_walk using PySem.AutoSeq1.wpAny_loadPart' hl
    refine wpAny_stack_any fun st => wpAny_pure ?_
    split
    · rename_i c _ _ _ _ _
      cases (c == Value.type "enumerate")
      · wp_walk using PySem.AutoSeq1.wpAny_loadPart' hl, wpAny_pyIter_tuple hL
        exact ⟨_, rfl, h⟩
      · wp_walk using PySem.AutoSeq1.wpAny_loadPart' hl, wpAny_pyIter_tuple hL
        exact ⟨_, rfl, h⟩
    · wp_walk using PySem.AutoSeq1.wpAny_loadPart' hl, wpAny_pyIter_tuple hL
      exact ⟨_, rfl, h⟩
section
variable {prog : Program} {w : World} {A : Around} {E : Value → Shared → Prop} {s : Shared}
theorem call_enumT {l : Addr} {items : Array Value} {Q : Value → Shared → Prop} (hL : s.heap.IsTuple l items)
    (h : ∀ h', IsEnum h' (s.heap.objs.size + 1) s.heap.objs.size 0 .none → h'.IsTupleIter s.heap.objs.size l 0 → h'.objs.size = s.heap.objs.size + 2 → (∀ b o, s.heap.get? b = some o → h'.get? b = some o) → Q (.ref (s.heap.objs.size + 1)) { s with heap := h' }) :
    wpAny (model prog w) A (call (.type "enumerate") [.ref l]) Q E s := by
  refine callType_new PySem.F.called_enumerate (by decide) (PySem.F.typeCall_enumerate_1 _) (PySem.F.newCall_enumerate_1 _) (fun obj => PySem.F.args_object_init_2 obj _) PySem.F.entry_enumerate_new (meets_enumT l items) ⟨hL, ?_⟩
  have hz : (s.heap.push { cls := .type "tuple_iterator", data := .fields #[.ref l, .int 0 0] }).objs.size = s.heap.objs.size + 1 := Heap.size_push ..
  show _ ∧ _
  rw [hz]
  have he : IsEnum ((s.heap.push { cls := .type "tuple_iterator", data := .fields #[.ref l, .int 0 0] }).push { cls := .type "enumerate", data := .fields #[.none, .bool false, .ref s.heap.objs.size, rawInt 0, .none, .none] }) (s.heap.objs.size + 1) s.heap.objs.size 0 .none := by
    have q := Heap.get?_push_size (s.heap.push { cls := .type "tuple_iterator", data := .fields #[.ref l, .int 0 0] }) (o := { cls := .type "enumerate", data := .fields #[.none, .bool false, .ref s.heap.objs.size, rawInt 0, .none, .none] }) rfl
    rw [hz] at q
    exact q
  exact ⟨⟨_, he, rfl⟩, h _ he ⟨_, Heap.get?_push_of_some _ (Heap.get?_push_size _ rfl), rfl, rfl⟩ (by rw [Heap.size_push, hz]) fun b o x => Heap.get?_push_of_some _ (Heap.get?_push_of_some _ x)⟩
end
/-- the tuple at a, each item in a new pair -/
def Ett (K : PySem.W.Frag) (a : Addr) : It :=
  ⟨fun i H => ∃ (xs : List V) (x : V), SqT K H a xs ∧ xs[i]? = some x, fun i H v H' => ∃ T x, v = .ref T ∧ H T = none ∧ H' = upd H T (.tup [.int (i : Nat), x]) ∧ ∀ xs, SqT K H a xs → xs[i]? = some x, fun i H => ∃ xs : List V, SqT K H a xs ∧ xs.length = i⟩
theorem turn_enumT {P : Program} {w : World} {K : PySem.W.Frag} {elts : List Expr} {kk : Nat} {tpos : Pos} (a e it : Addr) (hai : a ≠ it) (hae : a ≠ e) (hei : e ≠ it) :
    Turn P w K (.Tuple elts kk tpos) (Ett K a) [e, it] e (fun i h => (∃ old, IsEnum h e it ((i : Nat) : Int) old) ∧ h.IsTupleIter it a i) where
  mem := by simp
  obj := fun i h st b hb => by
    obtain ⟨⟨old, he⟩, o, ho, hc, hd⟩ := st
    have e' : b = e ∨ b = it := by simpa using hb
    rcases e' with z | z
    · rw [z]
      exact ⟨_, he, fun v q => nomatch q⟩
    · rw [z]
      exact ⟨o, ho, fun v q => by rw [hd] at q; cases q⟩
  keep := fun i h h' st k => let ⟨⟨old, he⟩, hi⟩ := st; ⟨⟨old, k e (by simp) _ he⟩, hi.at fun o q => k it (by simp) o q⟩
  item := by
    intro X hP hw hK hc i pins s σ H E I hf st hg
    subst hP hw hK
    obtain ⟨⟨old, he⟩, hit⟩ := st
    obtain ⟨xs, x, hq, hx⟩ := hg
    obtain ⟨its, rv, p, hz⟩ := I.tuple hq
    obtain ⟨u, hu, ru⟩ := rv.get hx
    have hlt : i < its.toArray.size := by
      have := (List.getElem?_eq_some_iff.mp hu).1
      simpa using this
    have hel : e < s.heap.objs.size := Heap.lt_size he
    have hil : it < s.heap.objs.size := by
      obtain ⟨_, q, _⟩ := hit
      exact Heap.lt_size q
    refine wpAny_pyNext_enum_itemD (Draws.tuple (A := X.A.in1) (I.ok.hd hc) it a hai its.toArray) he ⟨hit, p⟩ hlt hei (by simp [hei, Ne.symm hae]) fun x' h' tk hx' ho hit' hT hsz hk => ?_
    have ex : x' = u := by
      rw [show its.toArray[i]? = some u by simpa using hu] at hx'
      exact (Option.some.inj hx').symm
    subst ex
    refine ⟨_, rfl, wpAny_letOwnedTupleGo_enum (s := { s with heap := h', toks := tk + 1 }) ho fun h2 he' sb => ?_⟩
    have hT2 : h2.get? s.heap.objs.size = some { cls := .type "tuple", data := .seq #[.int i tk, x'] } := (sb.2 _ (Nat.ne_of_gt hel)).trans hT
    have new : ObjOk X.prog X.w (upd H s.heap.objs.size (.tup [.int (i : Nat), x])) h2 s.heap.objs.size (.tup [.int (i : Nat), x]) :=
      ⟨by show 2 ≤ sizeLine; decide, [.int i tk, x'], .cons ⟨_, rfl⟩ (.cons ru .nil), ⟨_, hT2, rfl, _, rfl⟩⟩
    have I1 : Inv X pins σ (upd H s.heap.objs.size (.tup [.int (i : Nat), x])) { s with heap := h2, toks := tk + 1 } :=
      I.turnedNew (ch := [e, it]) (fun b ob hb q => (sb.2 b (fun z => hb (by simp [z]))).trans (hk b ob (fun z => hb (by simp [z])) (fun z => hb (by simp [z])) q)) hf (Nat.le_refl _) new
    refine ⟨.ref s.heap.objs.size, _, I1, rfl, ⟨_, x, rfl, I.hok.fresh (Nat.le_refl _), rfl, fun ys hy => by rw [I.tuple_inj hy hq]; exact hx⟩, ⟨⟨x', ?_⟩, hit'.1.at fun o q => (sb.2 it (Ne.symm hei)).trans q⟩, fun b hb => ?_⟩
    · have e1 : ((i + 1 : Nat) : Int) = (i : Int) + 1 := by omega
      rw [e1]
      exact he'
    · have hb' : b < s.heap.objs.size := by
        have e' : b = e ∨ b = it := by simpa using hb
        rcases e' with z | z
        · rw [z]; exact hel
        · rw [z]; exact hil
      rw [upd_ne (Nat.ne_of_lt hb')]
      exact (hf b hb).1
  done := by
    intro X hP hw hK hc i pins s σ H E I hf st hg
    subst hP hw hK
    obtain ⟨⟨old, he⟩, hit⟩ := st
    obtain ⟨xs, hq, hx⟩ := hg
    obtain ⟨its, rv, p, hz⟩ := I.tuple hq
    obtain ⟨f0, f1, f2, f3, f4, f5⟩ := hf it (by simp)
    have hl : i = its.toArray.size := by
      rw [← hx, rv.length]
      simp
    refine wpAny_pyNext_enum_endD (Draws.tuple (A := X.A.in1) (I.ok.hd hc) it a hai its.toArray) he (by rw [← hl]; exact ⟨hit, p⟩) fun h' eb => ⟨rfl, I.turned (t' := s.toks) (fun b o hb q => eb b o hb q) f0 f1 f3 f4 f5⟩
  self := fun A i s Q E st h => let ⟨⟨_, he⟩, _⟩ := st; wpAny_pyIter_enum he h
def iEnumT (K : PySem.W.Frag) (ta : TA) : TI := fun σ H R => ta σ H fun vs H1 => ∃ a xs, vs = [.ref a] ∧ SqT K H1 a xs ∧ R (Ett K a) H1
theorem pi_enumT {X : Cx} {e : Expr} {ta : TA} {p pos tpos : Pos} {elts : List Expr} {kk : Nat} (hg : Gl X "enumerate") (hm : X.mg "enumerate" = none) (ha : PA X [e] ta) (hs : starEach [e] X.env = [(false, eval e X.env)] := by rfl) :
    PI X (.Tuple elts kk tpos) (.Call (.Name "enumerate" p) [e] [] pos) (iEnumT X.K ta) := by
  refine ⟨fun pins s σ H R I h => ?_⟩
  refine Call_ (ld_blt I hg hm boot_enumerate (PyProof.Rows.callWith_type1 (thn (ha.run pos pins s σ H _ I h) fun us s1 ⟨vs, H1, I1, r1, q1⟩ => ?_) hs rfl))
  obtain ⟨a, xs, ex, hq, q⟩ := q1
  subst ex
  cases r1 with
  | cons r rr =>
    cases rr
    cases r
    obtain ⟨its, rv, p', hz⟩ := I1.tuple hq
    have hlt : a < s1.heap.objs.size := p'.lt
    refine call_enumT (show s1.heap.IsTuple a its.toArray from p') fun h' he hit hsz hk => wpAny_pyIter_enum he ?_
    have I2 : Inv X pins σ H1 { s1 with heap := h' } := I1.kept (t' := s1.toks) hk
    refine ⟨s1.heap.objs.size + 1, [s1.heap.objs.size + 1, s1.heap.objs.size], _, _, H1, rfl, I2, turn_enumT a (s1.heap.objs.size + 1) s1.heap.objs.size (Nat.ne_of_lt hlt) (Nat.ne_of_lt (Nat.lt_succ_of_lt hlt)) (Nat.succ_ne_self _), ⟨⟨.none, he⟩, hit⟩, fun b hb => ?_, q⟩
    have e' : b = s1.heap.objs.size + 1 ∨ b = s1.heap.objs.size := by simpa using hb
    have hle : s1.heap.objs.size ≤ b := by
      rcases e' with z | z
      · rw [z]
        exact Nat.le_add_right _ _
      · rw [z]
        exact Nat.le_refl _
    exact I1.fpOk hle (I1.hok.fresh hle)
/-! ### dicts that are locked -/
section
variable {X : Cx}
def rListD : List V → Hp → VK → Prop := fun xs H Q => ∃ p kvs, xs = [.ref p] ∧ Rd H p (.dK kvs) ∧ ∀ q, H q = none → Q (.ref q) (upd H q (.lst (kvs.map fun kv => kV kv.1)))
theorem cl_listD (hc : X.calm = true) : CallR X (.type "list") rListD := by
  intro pins s σ H xs us Q I r h
  obtain ⟨p, kvs, e, hk, q⟩ := h
  subst e
  obtain ⟨u, eu, rx⟩ := vals1 r
  subst eu
  obtain rfl : u = Value.ref p := rx
  obtain ⟨z, lo, vs, rk, hd⟩ := dk_rd I.hok hk
  obtain ⟨ep, hat⟩ := hd.dictAt
  have hl : kvs.length = vs.length := Paired.length rk
  refine PySem.W.kdl_call (PySem.W.kdl_dict (knd := mixKind X.prog X.w) (kvs := vs) (ep := ep) lo) (I.ok.hd hc) hat (by rw [← hl]; exact z) fun h' tk acc' c' hkeep hS hacc => ?_
  have el : acc'.toList.length = acc'.size := by simp
  have hv : Vals (kvs.map fun kv => kV kv.1) acc'.toList := by
    refine vals_of_at (by rw [List.length_map, el, hacc.1, hl]) fun j x w h1 h2 => ?_
    obtain ⟨k, y, hky, hi⟩ := hacc.2 j w (by rw [← Array.getElem?_toList]; exact h2)
    have e1 : (kvs.map (·.1))[j]? = some k := by
      rw [KV.keys rk, List.getElem?_map, hky] <;> rfl
    have e2 : (kvs.map fun kv => kV kv.1)[j]? = some (kV k) := by
      rw [show (kvs.map fun kv => kV kv.1) = (kvs.map (·.1)).map kV by rw [List.map_map] <;> rfl, List.getElem?_map, e1] <;> rfl
    rw [e2] at h1
    cases h1
    exact keyIs_rel hi
  refine ⟨.ref s.heap.objs.size, upd H s.heap.objs.size (.lst (kvs.map fun kv => kV kv.1)), I.laid hkeep (Nat.le_refl _) ?_, rfl, q _ (I.hok.fresh (Nat.le_refl _))⟩
  refine (show ObjOk X.prog X.w _ _ _ (.lst (kvs.map fun kv => kV kv.1)) from ⟨by rw [List.length_map]; exact z, acc'.toList, c', hv, ?_⟩)
  rw [Array.toArray_toList]
  exact hS
def rLenD : List V → Hp → VK → Prop := fun xs H Q => ∃ p kvs, xs = [.ref p] ∧ Rd H p (.dK kvs) ∧ Q (.int (kvs.length : Nat)) H
theorem cl_lenD : CallR X (.builtin "len") rLenD := by
  intro pins s σ H xs us Q I r h
  obtain ⟨p, kvs, e, hk, q⟩ := h
  subst e
  obtain ⟨u, eu, rx⟩ := vals1 r
  subst eu
  obtain rfl : u = Value.ref p := rx
  exact d_len I hk fun t s' I' => ⟨.int kvs.length, H, I', ⟨t, rfl⟩, q⟩
/-- min of a tuple of whole numbers -/
def rMinT (K : PySem.W.Frag) : List V → Hp → VK → Prop := fun xs H Q => ∃ p n ns, xs = [.ref p] ∧ SqT K H p ((n :: ns).map V.int) ∧ Q (.int (ns.foldl min n)) H
theorem reads_ints {h : Heap} : ∀ {ns : List Int} {us : List Value}, Vals (ns.map V.int) us → ∃ as, ReadsAll h us (ns.map PyData.int) as
  | [], _, .nil => ⟨_, ReadsAll.nil⟩
  | n :: ns, _, .cons r rs => by
    obtain ⟨t, rfl⟩ := r
    obtain ⟨as, q⟩ := reads_ints (h := h) rs
    exact ⟨_, ReadsAll.cons (Reads.int n t) q⟩
theorem alike_ints (ns : List Int) : PySem.W.AlikeAll (ns.map PyData.int) := by
  refine ⟨fun x hx y hy => ?_, fun x hx => ?_⟩
  · obtain ⟨i, _, rfl⟩ := List.mem_map.mp hx
    obtain ⟨j, _, rfl⟩ := List.mem_map.mp hy
    rfl
  · obtain ⟨i, _, rfl⟩ := List.mem_map.mp hx
    intro z
    cases z
theorem depth_ints : ∀ ns : List Int, PyData.depthAll (ns.map PyData.int) ≤ 1
  | [] => by simp [PyData.depthAll]
  | n :: ns => by
    have := depth_ints ns
    simp [PyData.depthAll, PyData.depth]
    omega
theorem cl_minT (hc : X.calm = true) (hu : X.A.units + 64 < cLine) : CallR X (.builtin "min") (rMinT X.K) := by
  intro pins s σ H xs us Q I r h
  obtain ⟨p, n, ns, e, hk, q⟩ := h
  subst e
  obtain ⟨u, eu, rx⟩ := vals1 r
  subst eu
  obtain rfl : u = Value.ref p := rx
  obtain ⟨its, rv, pl, hz⟩ := I.tuple hk
  obtain ⟨as, hr⟩ := reads_ints (h := s.heap) rv
  have dp := depth_ints (n :: ns)
  refine PySem.W.min_tuple_data (x := .int n) (xs := ns.map PyData.int) (I.ok.hd hc) (show s.heap.IsTuple p its.toArray from pl) hr (alike_ints (n :: ns)) (by
    have e : PyData.int n :: ns.map PyData.int = (n :: ns).map PyData.int := rfl
    rw [e]
    omega) fun i v h' tk bs hi hd hk => ?_
  rw [PySem.W.minD_ints] at hd
  cases hd with
  | int _ t => exact ⟨.int _, H, I.kept (t' := tk) hk, ⟨t, rfl⟩, q⟩
end
end
section
open PySem
/-! ### stretches and boxes, in plain Lean -/
def meet (s t : Int × Int) : Option (Int × Int) := if min s.2 t.2 < max s.1 t.1 then none else some (max s.1 t.1, min s.2 t.2)
def common : Box → Box → Option Box
  | s :: b, t :: c => match meet s t with
    | none => none
    | some m => (common b c).map (m :: ·)
  | _, _ => some []
def holdsB (s : Int × Int) (n : Int) : Bool := decide (s.1 ≤ n) && decide (n ≤ s.2)
def hasB : Box → List Int → Bool
  | s :: b, n :: p => holdsB s n && hasB b p
  | _, _ => true
def corner (b : Box) : List Int := b.map (·.1)
def restsGo : Box → Box → Box → List Box
  | ahead, s :: b, m :: c => (if s.1 < m.1 then [ahead ++ ([(s.1, m.1 - 1)] ++ b)] else []) ++ ((if m.2 < s.2 then [ahead ++ ([(m.2 + 1, s.2)] ++ b)] else []) ++ restsGo (ahead ++ [m]) b c)
  | _, _, _ => []
def rests (box other : Box) : List Box := match common box other with
  | none => [box]
  | some both => restsGo [] box both
theorem common_len : ∀ {b c m : Box}, b.length = c.length → common b c = some m → m.length = b.length
  | [], c, m, _, h => by
    cases c <;> (simp [common] at h; simp [← h])
  | s :: b, [], m, e, _ => by simp at e
  | s :: b, t :: c, m, e, h => by
    unfold common at h
    cases hm : meet s t with
    | none => rw [hm] at h; cases h
    | some x =>
      rw [hm] at h
      cases hc : common b c with
      | none => simp [hc] at h
      | some y =>
        simp [hc] at h
        rw [← h, List.length_cons, List.length_cons, common_len (by simpa using e) hc]
def every : Box := [(0, 3), (0, 255), (0, 4294967295), (0, 65535), (0, 4294967295), (0, 65535)]
/-! ### rows, and looking along them -/
inductive Go where
  | row (n : Nat)
  | word (w : Str)
  deriving DecidableEq
structure Row where
  name : Str
  idx : Nat
  box : Box
  yes : Go
  no : Nat
abbrev Way := List (Nat × Bool)
structure Leaf where
  box : Box
  way : Way
  word : Str
def Go.ahead (n : Nat) : Go → Go
  | .row m => .row (max m (n + 1))
  | .word w => .word w
def Go.size (l : Nat) : Go → Nat
  | .row n => l + 1 - n
  | .word _ => 0
theorem Go.ahead_size {l n : Nat} (h : n < l) (g : Go) : (g.ahead n).size l < l + 1 - n := by
  cases g <;> simp [Go.ahead, Go.size] <;> omega
def look (rows : List Row) (dflt : Str) (here : Box) (g : Go) (way : Way) : List Leaf := match g with
  | .word w => [⟨here, way, w⟩]
  | .row n => if h : n < rows.length then
      (match common here rows[n].box with
        | none => []
        | some both => look rows dflt both (rows[n].yes.ahead n) (way ++ [(n, true)])) ++
      (rests here rows[n].box).flatMap fun one => look rows dflt one ((Go.row rows[n].no).ahead n) (way ++ [(n, false)])
    else [⟨here, way, dflt⟩]
termination_by g.size rows.length
decreasing_by
  · exact Go.ahead_size h _
  · exact Go.ahead_size h _
def cost (rows : List Row) (here : Box) (g : Go) : Nat := match g with
  | .word _ => 1
  | .row n => if h : n < rows.length then
      1 + (match common here rows[n].box with
        | none => 0
        | some both => cost rows both (rows[n].yes.ahead n)) +
      ((rests here rows[n].box).map fun one => cost rows one ((Go.row rows[n].no).ahead n)).sum
    else 1
termination_by g.size rows.length
decreasing_by
  · exact Go.ahead_size h _
  · exact Go.ahead_size h _
structure RowOk (l n : Nat) (r : Row) : Prop where
  no : n < r.no ∧ r.no ≤ l
  yes : ∀ m, r.yes = .row m → n < m ∧ m ≤ l
  box : r.box.length = 6
def RowsOk (rows : List Row) : Prop := ∀ n r, rows[n]? = some r → RowOk rows.length n r
end
section
open PySem PySem.Spec PyProof.Rows L2
/-! ### lists of one's own -/
theorem szN {n : Nat} (h : n ≤ 16000000) : n ≤ sizeLine := by rw [sizeLine_eq]; omega
theorem szlN {n : Nat} (h : n < 16000000) : n < sizeLine := by rw [sizeLine_eq]; omega
theorem But.trans {p : Addr} {H H1 H2 : Hp} (a : But p H H1) (b : But p H1 H2) : But p H H2 := fun c o n e => b c o n (a c o n e)
theorem But.of {p : Addr} {H H1 : Hp} (a : Same H H1) : But p H H1 := fun c o _ e => a c o e
structure Ow (K : PySem.W.Frag) (H : Hp) (p : Addr) (ds : List D) : Prop where
  ex : ∃ vs, H p = some (.lst vs) ∧ DtAll K H vs ds
section
variable {K : PySem.W.Frag} {σ : L2.St} {H H' Hb : Hp} {v x y u : V} {Q : VK} {De : Ends} {ta tb te td ty : TE} {tr : TA} {t t1 t2 : TS} {p q : Addr} {d : D} {ds es : List D}
theorem Ow.up (s : Same H H') (h : Ow K H p ds) : Ow K H' p ds :=
  let ⟨vs, a, b⟩ := h.ex
  ⟨vs, s _ _ a, b.up s.ext⟩
theorem Ow.but (s : But q H H') (e : Ext H H') (n : p ≠ q) (h : Ow K H p ds) : Ow K H' p ds :=
  let ⟨vs, a, b⟩ := h.ex
  ⟨vs, s _ _ n a, b.up e⟩
theorem Ow.ne (h : Ow K H p ds) (n : H q = none) : p ≠ q := by
  obtain ⟨vs, a, _⟩ := h.ex
  exact ne_of_none a n
theorem Ow.none (s : Same Hb H) (n : Hb p = none) (hh : Hb q = none) (h : Ow K H p ds) (h2 : H q = none) : p ≠ q := h.ne h2
theorem w_newO {xs : List V} (r : DtAll K H xs ds) (hz : xs.length ≤ 16000000) (k : ∀ p H', H p = none → Same H H' → Ow K H' p ds → Q (.ref p) H') : NewM Q xs H :=
  ⟨szN hz, fun p n => k p _ n (Same.new n) ⟨xs, upd_same, r.up (Same.new n).ext⟩⟩
theorem w_tyO {R : Prop} (h : Ow K H p ds) (k : R) : tyV K "list" (.ref p) H ∧ R := by
  obtain ⟨vs, a, _⟩ := h.ex
  exact ⟨.inl ⟨rfl, _, SqL.of a⟩, k⟩
theorem w_appO (h : Ow K H p ds) (x : Dt K H u d) (hz : ds.length < 16000000) (k : ∀ H', But p H H' → Ext H H' → Ow K H' p (ds ++ [d]) → Q .non H') : rAppend (.ref p) [u] H Q := by
  obtain ⟨vs, a, b⟩ := h.ex
  have e : Ext H (upd H p (.lst (vs ++ [u]))) := Ext.mut a rfl
  exact ⟨p, vs, u, rfl, rfl, a, szlN (by rw [b.length]; exact hz), k _ (But.upd p H _) e ⟨_, upd_same, (b.snoc x).up e⟩⟩
/-- .. of a list made here: what stood before stays -/
theorem w_appS (h : Ow K H p ds) (x : Dt K H u d) (hz : ds.length < 16000000) (s : Same Hb H) (n : Hb p = none) (k : ∀ H', But p H H' → Ext H H' → Same Hb H' → Ow K H' p (ds ++ [d]) → Q .non H') : rAppend (.ref p) [u] H Q :=
  w_appO h x hz fun H' b e o => k H' b e (b.same s n) o
theorem w_popO (h : Ow K H p (ds ++ [d])) (k : ∀ u H', But p H H' → Ext H H' → Ow K H' p ds → Dt K H' u d → Q u H') : rPop (.ref p) [] H Q := by
  obtain ⟨vs, a, b⟩ := h.ex
  obtain ⟨w, e1, hw⟩ := b.get (i := ds.length) (d := d) (by simp)
  have hl := b.length
  rw [List.length_append, List.length_singleton] at hl
  have ne : vs ≠ [] := by
    intro z
    rw [z] at hl
    simp at hl
  have e2 : vs = vs.dropLast ++ [w] := by
    have q := List.dropLast_concat_getLast ne
    have q2 : vs.getLast ne = w := by
      rw [List.getLast_eq_getElem]
      have e := (List.getElem?_eq_some_iff.mp e1).2
      rw [← e]
      congr 1
      omega
    rw [q2] at q
    exact q.symm
  have e3 : Ext H (upd H p (.lst vs.dropLast)) := Ext.mut a rfl
  refine ⟨p, vs, w, rfl, rfl, a, by rw [e2]; simp, k _ _ (But.upd p H _) e3 ⟨_, upd_same, ?_⟩ (hw.up e3)⟩
  have q := b.dropLast
  rw [List.dropLast_concat] at q
  exact q.up e3
theorem w_ixO {i : Int} (h : Ow K H p ds) (e : atI ds i = some d) (k : At K H d fun u => Q u H) : rIxL K (.ref p) (.int i) H Q := by
  obtain ⟨vs, a, b⟩ := h.ex
  exact w_ixM a b e k
theorem w_lenO (h : Ow K H p ds) (k : Q (.int (ds.length : Nat)) H) : rLenQ K [.ref p] H Q := by
  obtain ⟨vs, a, b⟩ := h.ex
  exact w_lenM a (by rw [b.length]; exact k)
theorem w_setO {j : Nat} {q : Hp → Prop} (h : Ow K H p ds) (x : Dt K H u d) (hj : j < ds.length) (k : ∀ H', But p H H' → Ext H H' → Ow K H' p (ds.set j d) → q H') : rSetL (.ref p) (.int (j : Int)) u H q := by
  obtain ⟨vs, a, b⟩ := h.ex
  refine w_setL a (by rw [b.length]; exact hj) fun H' b' e' h' => k H' b' e' ⟨_, h', (b.set x j).up e'⟩
theorem w_outO (h : Ow K H p ds) (k : ∀ H', But p H H' → Ext H H' → Dt K H' (.ref p) (.lst ds) → Q (.ref p) H') : FzQ Q (.ref p) H := by
  obtain ⟨vs, a, b⟩ := h.ex
  exact ⟨p, vs, rfl, a, fun od => k _ (But.upd p H _) (Ext.mut a rfl) (new_F a b)⟩
theorem w_outS (h : Ow K H p ds) (s : Same Hb H) (n : Hb p = none) (k : ∀ H', Same Hb H' → Dt K H' (.ref p) (.lst ds) → Q (.ref p) H') : FzQ Q (.ref p) H :=
  w_outO h fun H' b _ r => k H' (b.same s n) r
theorem w_tupO (h : Ow K H p ds) (k : ∀ u H', Same H H' → Dt K H' u (.tup ds) → Q u H') : rTupOf K [.ref p] H Q := by
  obtain ⟨vs, a, b⟩ := h.ex
  exact w_tupOfM a b k
theorem w_listO (h : Dt K H v (.lst ds)) (k : ∀ p H', H p = none → Same H H' → Ow K H' p ds → Q (.ref p) H') : rListOf K [v] H Q :=
  w_listOfM h fun p xs H' n s a b => k p H' n s ⟨xs, a, b⟩
/-! ### walks -/
structure ItD (K : PySem.W.Frag) (C : Hp → Prop) (J : It) (ds : List D) : Prop where
  stop : ∀ H, C H → J.stop ds.length H
  go : ∀ i H, i < ds.length → C H → J.go i H
  yld : ∀ i H x H', i < ds.length → C H → J.yld i H x H' → ∃ d, ds[i]? = some d ∧ Same H H' ∧ Dt K H' x d
def ForR (g : TG) (tb : TS) (De : Ends) (σ : L2.St) : It → Hp → Prop := fun J H1 => ∃ W : Nat → Nat → L2.St → Hp → Prop, (∃ m, W 0 m σ H1) ∧ ∀ i m σ H, W i m σ H →
  (J.stop i H ∧ De.nx σ H) ∨ (J.go i H ∧ ∃ N : L2.St → Hp → Prop, (∀ σ' H', N σ' H' → ∃ m', m' < m ∧ W (i + 1) m' σ' H') ∧ ∀ x H', J.yld i H x H' → g x σ H' fun σ2 H2 => tb { De with nx := N, ct := N, bk := De.nx } σ2 H2)
theorem w_for {wi : TI} {g : TG} (k : wi σ H (ForR g t De σ)) : tFor wi g t De σ H := k
theorem w_seqF {wi : TI} {g : TG} (k : wi σ H (ForR g t1 { De with nx := t De } σ)) : tSeq (tFor wi g t1) t De σ H := k
/-- a loop: Pv by the turn, the names, the heap -/
theorem f_for {g : TG} {J : It} {C : Hp → Prop} (it : ItD K C J ds) (Pv : Nat → L2.St → Hp → Prop) (h0 : Pv 0 σ H) (hx : ∀ i σ' H', Pv i σ' H' → C H')
    (hs : ∀ i d u σ' H' H2, ds[i]? = some d → Pv i σ' H' → Same H' H2 → Dt K H2 u d → g u σ' H2 fun σ2 H3 => t { De with nx := Pv (i + 1), ct := Pv (i + 1), bk := De.nx } σ2 H3) (hd : ∀ σ' H', Pv ds.length σ' H' → De.nx σ' H') : ForR g t De σ J H := by
  refine ⟨fun i m σ' H' => m = ds.length - i ∧ i ≤ ds.length ∧ Pv i σ' H', ⟨ds.length, by simp, Nat.zero_le _, h0⟩, ?_⟩
  rintro i m σ' H' ⟨rfl, hi, p⟩
  by_cases hlt : i < ds.length
  · refine .inr ⟨it.go i H' hlt (hx i σ' H' p), Pv (i + 1), fun σ2 H2 p' => ⟨ds.length - (i + 1), by omega, rfl, hlt, p'⟩, fun x H2 y => ?_⟩
    obtain ⟨d, e, s, hu⟩ := it.yld i H' x H2 hlt (hx i σ' H' p) y
    exact hs i d x σ' H' H2 e p s hu
  · have e : i = ds.length := by omega
    subst e
    exact .inl ⟨it.stop H' (hx _ σ' H' p), hd σ' H' p⟩
/-- what a comprehension asks of the walk -/
def LcR (g : TG) (tt : TT) (te : TE) (vs : List Nat) (σ : L2.St) (Q : VK) : It → Hp → Prop := fun J H1 => ∀ D, H1 D = none → ∃ W : Nat → Nat → Hp → Prop, (∃ m, W 0 m (upd H1 D (.lst []))) ∧ ∀ i m H, W i m H →
  (J.stop i H ∧ Q (.ref D) H) ∨ (J.go i H ∧ ∃ Nx : Hp → Prop, (∀ H', Nx H' → ∃ m', m' < m ∧ W (i + 1) m' H') ∧ ∀ x H', J.yld i H x H' → g x (wipe σ vs) H' fun σ2 H2 => wipe σ2 vs = wipe σ vs ∧ tt σ2 H2 fun b H3 =>
    if b = true then te σ2 H3 fun y H4 => ∃ acc, H4 D = some (.lst acc) ∧ acc.length < sizeLine ∧ Nx (upd H4 D (.lst (acc ++ [y]))) else Nx H3)
theorem w_lc {wi : TI} {g : TG} {tt : TT} {vs : List Nat} (k : wi σ H (LcR g tt te vs σ Q)) : tLc wi g tt te vs σ H Q := k
/-- .. with what it makes locked at once, under a name -/
def SetQ (i : Nat) (t : TS) (De : Ends) (σ : L2.St) : VK := fun x H1 => gName i x σ H1 (EFz { De with nx := t De }).nx
theorem f_lc {α : Type} {emb : α → D} {g : TG} {tt : TT} {vs : List Nat} {J : It} {C : Hp → Prop} {l : List α} (it : ItD K C J (l.map emb)) (f : α → Option D) (hz : l.length ≤ 16000000) (hc : ∀ H', Same H H' → C H')
    (hs : ∀ (i : Nat) (d : α) u H' (Y : VK) (N : Hp → Prop), l[i]? = some d → Same H H' → Dt K H' u (emb d) → (∀ y H3 e, f d = some e → Same H' H3 → Dt K H3 y e → Y y H3) → (∀ H3, f d = none → Same H' H3 → N H3) →
      g u (wipe σ vs) H' fun σ2 H2 => wipe σ2 vs = wipe σ vs ∧ tt σ2 H2 fun b H3 => if b = true then te σ2 H3 Y else N H3)
    (k : ∀ p H' xs, H p = none → Same H H' → H' p = some (.lst xs) → DtAll K H' xs (l.filterMap f) → Q (.ref p) H') : LcR g tt te vs σ Q J H := by
  intro p np
  refine ⟨fun i m H' => m = l.length - i ∧ i ≤ l.length ∧ Same H H' ∧ ∃ xs, H' p = some (.lst xs) ∧ xs.length ≤ i ∧ DtAll K H' xs ((l.take i).filterMap f), ⟨l.length, by simp, Nat.zero_le _, Same.new np, [], upd_same, Nat.le_refl _, by simp; exact .nil⟩, ?_⟩
  rintro i m H' ⟨rfl, hi, s1, xs, hp, hl, r⟩
  by_cases hlt : i < l.length
  · have hlt' : i < (l.map emb).length := by rw [List.length_map]; exact hlt
    refine .inr ⟨it.go i H' hlt' (hc _ s1), fun H2 => Same H H2 ∧ ∃ xs, H2 p = some (.lst xs) ∧ xs.length ≤ i + 1 ∧ DtAll K H2 xs ((l.take (i + 1)).filterMap f), fun H2 p' => ⟨l.length - (i + 1), by omega, rfl, hlt, p'⟩, fun x H2 y => ?_⟩
    obtain ⟨d, e, s, hu⟩ := it.yld i H' x H2 hlt' (hc _ s1) y
    rw [List.getElem?_map, Option.map_eq_some_iff] at e
    obtain ⟨a, ea, rfl⟩ := e
    have et : l.take (i + 1) = l.take i ++ [a] := by
      rw [List.take_succ, ea]
      rfl
    refine hs i a x H2 _ _ ea (s1.trans s) hu (fun y H3 e fe s3 hy => ?_) fun H3 fe s3 => ?_
    · have s4 : Same H' H3 := s.trans s3
      refine ⟨xs, s4 _ _ hp, szlN (by omega), (Same.mut (s1.trans s4) np), xs ++ [y], upd_same, by simp; omega, ?_⟩
      rw [et, List.filterMap_append]
      have ex : Ext H3 (upd H3 p (.lst (xs ++ [y]))) := Ext.mut (s4 _ _ hp) rfl
      have e5 : List.filterMap f [a] = [e] := by simp [fe]
      rw [e5]
      exact ((r.up s4.ext).snoc hy).up ex
    · have s4 : Same H' H3 := s.trans s3
      refine ⟨s1.trans s4, xs, s4 _ _ hp, by omega, ?_⟩
      rw [et, List.filterMap_append]
      have e5 : List.filterMap f [a] = [] := by simp [fe]
      rw [e5, List.append_nil]
      exact r.up s4.ext
  · have e : i = l.length := by omega
    subst e
    rw [List.take_length] at r
    refine .inl ⟨?_, k p H' xs np s1 hp r⟩
    have q := it.stop H' (hc _ s1)
    rw [List.length_map] at q
    exact q
/-- .. locked -/
theorem lcF {p : Addr} {xs : List V} (np : H p = none) (s : Same H H') (hp : H' p = some (.lst xs)) (r : DtAll K H' xs ds) (k : ∀ u H2, Same H H2 → Dt K H2 u (.lst ds) → Q u H2) : FzQ Q (.ref p) H' := fz_new np s hp r k
theorem lcO {p : Addr} {xs : List V} (hp : H' p = some (.lst xs)) (r : DtAll K H' xs ds) : Ow K H' p ds := ⟨xs, hp, r⟩
theorem w_seqZ {te : TE} {i : Nat} (k : te σ H (SetQ i t De σ)) : tSeq (tFzS (tAsg te (gName i))) t De σ H := k
theorem lcZ {i : Nat} {p : Addr} {xs : List V} (np : H p = none) (s : Same H H') (hp : H' p = some (.lst xs)) (r : DtAll K H' xs ds) (k : ∀ u H2, Same H H2 → Dt K H2 u (.lst ds) → t De (σ.set i (some u)) H2) : SetQ i t De σ (.ref p) H' :=
  ⟨p, xs, hp, fun od => k _ _ (s.mut np) (new_F hp r)⟩
/-! the walks that the text has -/
theorem i_list {R : It → Hp → Prop} {H0 : Hp} (h : Dt K H0 v (.lst ds)) (e : Ext H0 H) (k : ∀ J, ItD K (Ext H0) J ds → R J H) : ∃ a, v = .ref a ∧ (∃ xs, SqL K H a xs) ∧ R (Itl K a) H := by
  obtain ⟨a, xs, o, rfl, s, r⟩ := h.lstI
  refine ⟨a, rfl, ⟨xs, sqL_frz (e _ _ s rfl)⟩, k _ ⟨fun H' x => ⟨xs, sqL_frz (x _ _ s rfl), by rw [r.length]; exact Nat.le_refl _⟩, fun i H' hi x => ⟨xs, xs[i]'(by rw [r.length]; exact hi), sqL_frz (x _ _ s rfl), by simp⟩, fun i H' u H2 hi x y => ?_⟩⟩
  obtain ⟨e1, y⟩ := y
  subst e1
  obtain ⟨d, hd, hu⟩ := r.getV (y xs (sqL_frz (x _ _ s rfl)))
  exact ⟨d, hd, Same.refl _, hu.up x⟩
theorem i_listO {R : It → Hp → Prop} {p : Addr} (h : Ow K H p ds) (k : ∀ J, ItD K (fun H' => Ow K H' p ds) J ds → R J H) : ∃ a, V.ref p = .ref a ∧ (∃ xs, SqL K H a xs) ∧ R (Itl K a) H := by
  obtain ⟨xs, s, r⟩ := h.ex
  refine ⟨p, rfl, ⟨xs, SqL.of s⟩, k _ ⟨fun H' x => ?_, fun i H' hi x => ?_, fun i H' u H2 hi x y => ?_⟩⟩
  · obtain ⟨vs, a, b⟩ := x.ex
    exact ⟨vs, SqL.of a, by rw [b.length]; exact Nat.le_refl _⟩
  · obtain ⟨vs, a, b⟩ := x.ex
    exact ⟨vs, vs[i]'(by rw [b.length]; exact hi), SqL.of a, by simp⟩
  · obtain ⟨vs, a, b⟩ := x.ex
    obtain ⟨e1, y⟩ := y
    subst e1
    obtain ⟨d, hd, hu⟩ := b.getV (y vs (SqL.of a))
    exact ⟨d, hd, Same.refl _, hu⟩
theorem i_tup {R : It → Hp → Prop} {H0 : Hp} (h : Dt K H0 v (.tup ds)) (e : Ext H0 H) (k : ∀ J, ItD K (Ext H0) J ds → R J H) : ∃ a, v = .ref a ∧ (∃ xs, SqT K H a xs) ∧ R (Itt K a) H := by
  obtain ⟨a, xs, rfl, s, r⟩ := h.tupI
  refine ⟨a, rfl, ⟨xs, sqT_up e s⟩, k _ ⟨fun H' x => ⟨xs, sqT_up x s, by rw [r.length]; exact Nat.le_refl _⟩, fun i H' hi x => ⟨xs, xs[i]'(by rw [r.length]; exact hi), sqT_up x s, by simp⟩, fun i H' u H2 hi x y => ?_⟩⟩
  obtain ⟨e1, y⟩ := y
  subst e1
  obtain ⟨d, hd, hu⟩ := r.getV (y xs (sqT_up x s))
  exact ⟨d, hd, Same.refl _, hu.up x⟩
def numD (n : Nat) : List D := (List.range n).map fun (i : Nat) => D.int (i : Nat)
theorem numD_len (n : Nat) : (numD n).length = n := by simp [numD]
theorem numD_get {n i : Nat} {d : D} (h : (numD n)[i]? = some d) : i < n ∧ d = D.int (i : Nat) := by
  unfold numD at h
  rw [List.getElem?_map, Option.map_eq_some_iff] at h
  obtain ⟨a, h1, rfl⟩ := h
  obtain ⟨h3, h4⟩ := List.getElem?_eq_some_iff.mp h1
  rw [List.getElem_range] at h4
  rw [List.length_range] at h3
  exact ⟨h3, by rw [h4]⟩
theorem i_rng {R : It → Hp → Prop} {j : Int} (n : Nat) (hj : j = (n : Int)) (hn : n ≤ 1000000) (k : ∀ J, ItD K (fun _ => True) J (numD n) → R J H) : ∃ j' : Int, [V.int j] = [.int j'] ∧ -(2 ^ 62) ≤ j' ∧ j' < 2 ^ 62 ∧ R (Itr 0 j'.toNat) H := by
  subst hj
  refine ⟨(n : Int), rfl, by omega, by omega, k _ ⟨fun H' _ => ?_, fun i H' hi _ => ?_, fun i H' u H2 hi x y => ?_⟩⟩
  · rw [numD_len, Int.toNat_natCast]
    exact Nat.le_refl _
  · rw [numD_len] at hi
    rw [Int.toNat_natCast]
    exact hi
  · rw [numD_len] at hi
    obtain ⟨rfl, rfl⟩ := y
    rw [Int.zero_add]
    exact ⟨.int (i : Nat), by simp [numD, hi], Same.refl _, .int _⟩
/-- lo, lo + c, .. below hi -/
theorem i_rng3 {R : It → Hp → Prop} {i j c : Int} (n : Nat) (hc : RgC i j c n) (k : ∀ J, ItD K (fun _ => True) J ((List.range n).map fun (m : Nat) => D.int (i + (m : Int) * c)) → R J H) :
    ∃ (i' j' c' : Int) (n' : Nat), [V.int i, V.int j, V.int c] = [.int i', .int j', .int c'] ∧ RgC i' j' c' n' ∧ R (Itc i' c' n') H := by
  refine ⟨i, j, c, n, rfl, hc, k _ ⟨fun H' _ => ?_, fun m H' hi _ => ?_, fun m H' u H2 hi x y => ?_⟩⟩
  · rw [List.length_map, List.length_range]
    exact Nat.le_refl _
  · rw [List.length_map, List.length_range] at hi
    exact hi
  · rw [List.length_map, List.length_range] at hi
    obtain ⟨rfl, rfl⟩ := y
    exact ⟨_, by simp [hi], Same.refl _, .int _⟩
theorem atI_nat {α : Type} {xs : List α} {i : Nat} {a : α} (h : xs[i]? = some a) : L2.atI xs (i : Int) = some a := by
  have hl := (List.getElem?_eq_some_iff.mp h).1
  unfold L2.atI ixN
  rw [if_pos (Int.natCast_nonneg i), if_pos (Int.ofNat_lt.mpr hl), Int.toNat_natCast]
  exact h
theorem w_yes {q : Bool → Hp → Prop} (k : q true H) : tYes σ H q := k
def enumD (ds : List D) : List D := (ds.zipIdx).map fun p => .tup [.int (p.2 : Nat), p.1]
theorem enumD_len (ds : List D) : (enumD ds).length = ds.length := by simp [enumD]
theorem enumD_get {i : Nat} {e : D} (h : (enumD ds)[i]? = some e) : ∃ d, ds[i]? = some d ∧ e = .tup [.int (i : Nat), d] := by
  unfold enumD at h
  rw [List.getElem?_map, Option.map_eq_some_iff] at h
  obtain ⟨⟨a, n⟩, h1, rfl⟩ := h
  rw [List.getElem?_zipIdx, Option.map_eq_some_iff] at h1
  obtain ⟨b, h1, h2⟩ := h1
  cases h2
  exact ⟨_, h1, by simp⟩
theorem enumD_at {i : Nat} {d : D} (h : ds[i]? = some d) : (enumD ds)[i]? = some (.tup [.int (i : Nat), d]) := by
  unfold enumD
  rw [List.getElem?_map, List.getElem?_zipIdx, h]
  simp
theorem i_enum {R : It → Hp → Prop} {H0 : Hp} (h : Dt K H0 v (.lst ds)) (e : Ext H0 H) (k : ∀ J, ItD K (Ext H0) J (enumD ds) → R J H) : ∃ c xs, [v] = [.ref c] ∧ SqL K H c xs ∧ R (Ite K c) H := by
  obtain ⟨c, xs, o, rfl, s, r⟩ := h.lstI
  refine ⟨c, xs, rfl, sqL_frz (e _ _ s rfl), k _ ⟨fun H' x => ⟨xs, sqL_frz (x _ _ s rfl), by rw [enumD_len, r.length]; exact Nat.le_refl _⟩, fun i H' hi x => ?_, fun i H' u H2 hi x y => ?_⟩⟩
  · rw [enumD_len] at hi
    exact ⟨xs, xs[i]'(by rw [r.length]; exact hi), sqL_frz (x _ _ s rfl), by simp⟩
  · obtain ⟨T, u, rfl, nT, rfl, y⟩ := y
    obtain ⟨d, hd, hu⟩ := r.getV (y xs (sqL_frz (x _ _ s rfl)))
    exact ⟨_, enumD_at hd, Same.new nT, new_T (.cons (.int _) (.cons (hu.up x) .nil)) nT⟩
theorem i_enumT {R : It → Hp → Prop} {H0 : Hp} (h : Dt K H0 v (.tup ds)) (e : Ext H0 H) (k : ∀ J, ItD K (Ext H0) J (enumD ds) → R J H) : ∃ c xs, [v] = [.ref c] ∧ SqT K H c xs ∧ R (Ett K c) H := by
  obtain ⟨c, xs, rfl, s, r⟩ := h.tupI
  refine ⟨c, xs, rfl, sqT_up e s, k _ ⟨fun H' x => ⟨xs, sqT_up x s, by rw [enumD_len, r.length]⟩, fun i H' hi x => ?_, fun i H' u H2 hi x y => ?_⟩⟩
  · rw [enumD_len] at hi
    exact ⟨xs, xs[i]'(by rw [r.length]; exact hi), sqT_up x s, by simp⟩
  · obtain ⟨T, u, rfl, nT, rfl, y⟩ := y
    obtain ⟨d, hd, hu⟩ := r.getV (y xs (sqT_up x s))
    exact ⟨_, enumD_at hd, Same.new nT, new_T (.cons (.int _) (.cons (hu.up x) .nil)) nT⟩
theorem i_rev {R : It → Hp → Prop} {H0 : Hp} (h : Dt K H0 v (.lst ds)) (e : Ext H0 H) (k : ∀ J, ItD K (Ext H0) J ds.reverse → R J H) : ∃ (a : Addr) (xs : List V), [v] = [.ref a] ∧ SqL K H a xs ∧ R (Itv K a xs.length) H := by
  obtain ⟨a, xs, o, rfl, s, r⟩ := h.lstI
  refine ⟨a, xs, rfl, sqL_frz (e _ _ s rfl), k _ ⟨fun H' x => by show xs.length ≤ _; rw [List.length_reverse, r.length]; exact Nat.le_refl _, fun i H' hi x => ?_, fun i H' u H2 hi x y => ?_⟩⟩
  · rw [List.length_reverse, ← r.length] at hi
    exact ⟨hi, xs, xs[xs.length - 1 - i]'(by omega), sqL_frz (x _ _ s rfl), by simp⟩
  · rw [List.length_reverse, ← r.length] at hi
    obtain ⟨rfl, y⟩ := y
    obtain ⟨d, hd, hu⟩ := r.getV (y xs (sqL_frz (x _ _ s rfl)))
    refine ⟨d, ?_, Same.refl _, hu.up x⟩
    rw [List.getElem?_reverse (by rw [← r.length]; exact hi), ← r.length]
    exact hd
def signs (z : Str) : List Str := z.cps.toList.map fun c => ⟨#[c]⟩
theorem i_str {R : It → Hp → Prop} {z : Str} (k : ∀ J, ItD K (fun _ => True) J (z.cps.toList.map fun c => D.str ⟨#[c]⟩) → R J H) : ∃ x, V.str z = .str x ∧ R (Its x) H := by
  refine ⟨z, rfl, k _ ⟨fun H' x => by simp [Its], fun i H' hi x => by simpa [Its] using hi, fun i H' u H2 hi x y => ?_⟩⟩
  obtain ⟨rfl, c, hc, rfl⟩ := y
  exact ⟨.str ⟨#[c]⟩, by rw [List.getElem?_map, Array.getElem?_toList, hc]; rfl, Same.refl _, .str _⟩
def zipD (ds es : List D) : List D := (ds.zip es).map fun p => .tup [p.1, p.2]
theorem zipD_at {i : Nat} {d e : D} (h : ds[i]? = some d) (h2 : es[i]? = some e) : (zipD ds es)[i]? = some (.tup [d, e]) := by
  unfold zipD
  rw [List.getElem?_map, List.getElem?_zip_eq_some (z := (d, e)) |>.mpr ⟨h, h2⟩]
  rfl
theorem zipD_get {i : Nat} {z : D} (h : (zipD ds es)[i]? = some z) : ∃ d e, ds[i]? = some d ∧ es[i]? = some e ∧ z = .tup [d, e] := by
  unfold zipD at h
  rw [List.getElem?_map, Option.map_eq_some_iff] at h
  obtain ⟨⟨d, e⟩, h1, rfl⟩ := h
  have := List.getElem?_zip_eq_some.mp h1
  exact ⟨d, e, this.1, this.2, rfl⟩
theorem zipD_len (h : ds.length = es.length) : (zipD ds es).length = ds.length := by simp [zipD, h]
theorem i_zip {R : It → Hp → Prop} {H0 H1 : Hp} (h : Dt K H0 v (.tup ds)) (h2 : Dt K H1 u (.tup es)) (e : Ext H0 H) (e2 : Ext H1 H) (hl : ds.length = es.length) (k : ∀ J, ItD K (fun H' => Ext H0 H' ∧ Ext H1 H') J (zipD ds es) → R J H) :
    ∃ c d xs ys, [v, u] = [.ref c, .ref d] ∧ ((SqL K H c xs ∧ SqL K H d ys ∧ R (Itz K c d) H) ∨ (SqT K H c xs ∧ SqT K H d ys ∧ R (RZ.ItzT K c d) H)) := by
  obtain ⟨c, xs, rfl, s, r⟩ := h.tupI
  obtain ⟨d, ys, rfl, s2, r2⟩ := h2.tupI
  refine ⟨c, d, xs, ys, rfl, .inr ⟨sqT_up e s, sqT_up e2 s2, k _ ⟨fun H' x => ⟨xs, ys, sqT_up x.1 s, sqT_up x.2 s2, .inl (by rw [zipD_len hl, r.length]; exact Nat.le_refl _)⟩, fun i H' hi x => ?_, fun i H' w H2 hi x y => ?_⟩⟩⟩
  · rw [zipD_len hl] at hi
    exact ⟨xs, ys, xs[i]'(by rw [r.length]; exact hi), ys[i]'(by rw [r2.length, ← hl]; exact hi), sqT_up x.1 s, sqT_up x.2 s2, by simp, by simp⟩
  · obtain ⟨T, a, b, rfl, nT, rfl, y1, y2⟩ := y
    obtain ⟨d1, q1, u1⟩ := r.getV (y1 xs (sqT_up x.1 s))
    obtain ⟨d2, q2, u2⟩ := r2.getV (y2 ys (sqT_up x.2 s2))
    exact ⟨_, zipD_at q1 q2, Same.new nT, new_T (.cons (u1.up x.1) (.cons (u2.up x.2) .nil)) nT⟩
end
end
section
open PySem PySem.Spec PyProof.Rows L2
/-! ### data that are compared as they stand -/
class Em (α : Type) [DecidableEq α] [PySem.W.Datum α] where
  emb : α → D
  dp : ∀ {K : PySem.W.Frag} {H : Hp} {v : V} (a : α), Dt K H v (emb a) → Dp K H v (PySem.W.Datum.toD a)
instance : Em Int := ⟨.int, fun a h => by cases h; exact .int a⟩
instance : Em Str := ⟨.str, fun a h => by cases h; exact .str a⟩
section
variable {K : PySem.W.Frag} {H : Hp} {α β : Type} [DecidableEq α] [PySem.W.Datum α] [Em α] [DecidableEq β] [PySem.W.Datum β] [Em β]
instance : Em (α × β) := ⟨fun p => .tup [Em.emb p.1, Em.emb p.2], fun p h => by
  cases h with
  | tup s r =>
    cases r with
    | cons h1 r =>
      cases r with
      | cons h2 r =>
        cases r
        exact .tup s (.cons (Em.dp p.1 h1) (.cons (Em.dp p.2 h2) .nil))⟩
theorem em_all : ∀ {vs : List V} {l : List α}, DtAll K H vs (l.map Em.emb) → DpAll K H vs (l.map PySem.W.Datum.toD)
  | _, [], .nil => .nil
  | _, _ :: _, .cons h r => .cons (Em.dp _ h) (em_all r)
instance : Em (List α) := ⟨fun l => .lst (l.map Em.emb), fun l h => by
  cases h with
  | lst o s r => exact .lst (sqL_frz s) (em_all r)⟩
theorem em_own {p : Addr} {l : List α} (h : Ow K H p (l.map Em.emb)) : Dp K H (.ref p) (PySem.W.Datum.toD l) := by
  obtain ⟨vs, a, b⟩ := h.ex
  exact .lst (SqL.of a) (em_all b)
end
def rEqG (K : PySem.W.Frag) : R2 := fun x y H Q => ∃ (α : Type) (_ : DecidableEq α) (_ : PySem.W.Datum α) (a b : α), Dp K H x (PySem.W.Datum.toD a) ∧ Dp K H y (PySem.W.Datum.toD b) ∧ PySem.W.Datum.depth α ≤ 60 ∧ Q (.bl (decide (a = b))) H
def rNeG (K : PySem.W.Frag) : R2 := fun x y H Q => ∃ (α : Type) (_ : DecidableEq α) (_ : PySem.W.Datum α) (a b : α), Dp K H x (PySem.W.Datum.toD a) ∧ Dp K H y (PySem.W.Datum.toD b) ∧ PySem.W.Datum.depth α ≤ 60 ∧ Q (.bl (!decide (a = b))) H
def rInG (K : PySem.W.Frag) : R2 := fun x y H Q => ∃ (α : Type) (_ : DecidableEq α) (_ : PySem.W.Datum α) (a : α) (l : List α), Dp K H x (PySem.W.Datum.toD a) ∧ Dp K H y (PySem.W.Datum.toD l) ∧ PySem.W.Datum.depth α ≤ 60 ∧ Q (.bl (decide (a ∈ l))) H
section
variable {X : Cx}
theorem op_eqG (hu : X.A.units + 64 < cLine) : OpR X (compareOp .Eq) (rEqG X.K) := by
  intro pins s σ H x y v u Q I rx ry h
  obtain ⟨α, _, _, a, b, hd, he, hz, q⟩ := h
  obtain ⟨as, r1⟩ := Dp.reads I _ x v hd rx
  obtain ⟨bs, r2⟩ := Dp.reads I _ y u he ry
  refine PySem.SeqAt.eq_plain r1 r2 (PySem.W.Datum.plain a) (PySem.W.Datum.plain b) ?_ ?_
  · have := PySem.W.Datum.depth_le a
    omega
  · rw [PySem.W.Datum.eqv]
    exact ⟨.bl _, H, I, rfl, q⟩
theorem op_neG (hu : X.A.units + 64 < cLine) : OpR X (compareOp .NotEq) (rNeG X.K) := by
  intro pins s σ H x y v u Q I rx ry h
  obtain ⟨α, _, _, a, b, hd, he, hz, q⟩ := h
  obtain ⟨as, r1⟩ := Dp.reads I _ x v hd rx
  obtain ⟨bs, r2⟩ := Dp.reads I _ y u he ry
  refine PySem.SeqAt.ne_plain r1 r2 (PySem.W.Datum.plain a) (PySem.W.Datum.plain b) ?_ ?_
  · have := PySem.W.Datum.depth_le a
    omega
  · rw [PySem.W.Datum.eqv]
    exact ⟨.bl _, H, I, rfl, q⟩
theorem op_inG (hu : X.A.units + 65 < cLine) : OpR X (compareOp .In) (rInG X.K) := by
  intro pins s σ H x y v u Q I rx ry h
  obtain ⟨α, _, _, a, l, hd, he, hz, q⟩ := h
  obtain ⟨as, r1⟩ := Dp.reads I _ x v hd rx
  obtain ⟨bs, r2⟩ := Dp.reads I _ y u he ry
  refine PySem.SeqAt.in_list_data (xs := l.map PySem.W.Datum.toD) r2 r1 (PySem.W.plainAll_map l) (PySem.W.Datum.plain a) ?_ ?_
  · have := PySem.W.Datum.depth_le a
    omega
  · rw [PySem.W.any_datum]
    exact ⟨.bl _, H, I, rfl, q⟩
end
section
variable {K : PySem.W.Frag} {H : Hp} {Q : VK} {α : Type} [i1 : DecidableEq α] [i2 : PySem.W.Datum α] [Em α] {x y : V} {p : Addr} {a b : α} {l : List α}
theorem w_eqG (hx : Dt K H x (Em.emb a)) (hy : Dt K H y (Em.emb b)) (hz : PySem.W.Datum.depth α ≤ 60) (k : Q (.bl (decide (a = b))) H) : rEqG K x y H Q := ⟨α, i1, i2, a, b, Em.dp a hx, Em.dp b hy, hz, k⟩
theorem w_neG (hx : Dt K H x (Em.emb a)) (hy : Dt K H y (Em.emb b)) (hz : PySem.W.Datum.depth α ≤ 60) (k : Q (.bl (!decide (a = b))) H) : rNeG K x y H Q := ⟨α, i1, i2, a, b, Em.dp a hx, Em.dp b hy, hz, k⟩
theorem w_eqGO {b : List α} (hx : Ow K H p (l.map Em.emb)) (hy : Dt K H y (Em.emb b)) (hz : PySem.W.Datum.depth (List α) ≤ 60) (k : Q (.bl (decide (l = b))) H) : rEqG K (.ref p) y H Q := ⟨List α, _, _, l, b, em_own hx, Em.dp b hy, hz, k⟩
theorem w_inG (hx : Dt K H x (Em.emb a)) (hy : Dt K H y (Em.emb l)) (hz : PySem.W.Datum.depth α ≤ 60) (k : Q (.bl (decide (a ∈ l))) H) : rInG K x y H Q := ⟨α, i1, i2, a, l, Em.dp a hx, Em.dp l hy, hz, k⟩
end
/-! ### texts -/
def rSplit : V → List V → Hp → VK → Prop := fun x xs H Q => ∃ a b, x = .str a ∧ xs = [.str b] ∧ (b.length == 0) = false ∧ a.length + 2 ≤ sizeLine ∧ rNewStrs (Txt.split a b) H Q
def rPart : V → List V → Hp → VK → Prop := fun x xs H Q => ∃ a b, x = .str a ∧ xs = [.str b] ∧ (b.length == 0) = false ∧ a.length ≤ sizeLine ∧
      ∀ p, H p = none → Q (.ref p) (upd H p (.tup [.str (Txt.partition a b).1, .str (Txt.partition a b).2.1, .str (Txt.partition a b).2.2]))
def rJoin (K : PySem.W.Frag) : V → List V → Hp → VK → Prop := fun x xs H Q => ∃ a p, ∃ ys : List Str, x = .str a ∧ xs = [.ref p] ∧ (SqL K H p (ys.map V.str) ∨ SqT K H p (ys.map V.str)) ∧
      (ys.map (·.length)).sum + ys.length * a.length ≤ 16777216 ∧ Q (.str (Txt.join a ys)) H
def tJn (ts : List TE) : TE := fun σ H Q => tJs ts Str.empty σ H fun out H1 => Q (.str out) H1
def rJs (ts : List TE) (acc : Str) (σ : L2.St) (Q : Str → Hp → Prop) : V → Hp → Prop := fun x H1 => ∃ y : Str, x = .str y ∧ (acc ++ y).length ≤ sizeLine ∧ tJs ts (acc ++ y) σ H1 Q
def rSx : V → List V → Hp → VK → Prop := fun x xs H Q => ∃ a b i rest, x = .str a ∧ xs = [.str b] ∧ Builtin.Str.occurrences a b 0 a.length 1 = i :: rest ∧ Q (.int (i : Nat)) H
def rTx (K : PySem.W.Frag) : V → List V → Hp → VK → Prop := fun x xs H Q => ∃ p, ∃ ys : List Str, ∃ z j, x = .ref p ∧ xs = [.str z] ∧ SqT K H p (ys.map V.str) ∧ ys[j]? = some z ∧ (∀ m, m < j → ys[m]? ≠ some z) ∧ Q (.int (j : Nat)) H
def rLeS : R2 := fun x y H Q => ∃ i j, x = .str i ∧ y = .str j ∧ Q (.bl (!decide (j.cps.toList < i.cps.toList))) H
section
variable {X : Cx} {o e : Expr} {to te : TE}
theorem pe_splitR {apos pos : Pos} (ho : PE X o to) (he : PE X e te) (hs : starEach [e] X.env = [(false, eval e X.env)] := by rfl) (hbase : attributeBase o "split" X.env (eval o X.env) = eval o X.env := by rfl) (hline : (apos.endLine == pos.line) = true := by rfl) :
    PE X (.Call (.Attribute o "split" apos) [e] [] pos) (tM1 rSplit to te) := pe_split ho he hs hbase hline
theorem pe_partR {apos pos : Pos} (ho : PE X o to) (he : PE X e te) (hs : starEach [e] X.env = [(false, eval e X.env)] := by rfl) (hbase : attributeBase o "partition" X.env (eval o X.env) = eval o X.env := by rfl) (hline : (apos.endLine == pos.line) = true := by rfl) :
    PE X (.Call (.Attribute o "partition" apos) [e] [] pos) (tM1 rPart to te) := pe_partition ho he hs hbase hline
theorem pe_joinR {apos pos : Pos} (ho : PE X o to) (he : PE X e te) (hs : starEach [e] X.env = [(false, eval e X.env)] := by rfl) (hbase : attributeBase o "join" X.env (eval o X.env) = eval o X.env := by rfl) (hline : (apos.endLine == pos.line) = true := by rfl) :
    PE X (.Call (.Attribute o "join" apos) [e] [] pos) (tM1 (rJoin X.K) to te) := pe_join ho he hs hbase hline
theorem pe_jn {v1 v2 : Expr} {rest : List Expr} {ts : List TE} {pos : Pos} (h : PJ X (v1 :: v2 :: rest) ts) : PE X (.JoinedStr (v1 :: v2 :: rest) pos) (tJn ts) := pe_joined h
theorem cm_sx : MtR X "str.index" rSx := mt_sindex
theorem cm_tx : MtR X "tuple.index" (rTx X.K) := mt_tup_index
theorem op_leS : OpR X (compareOp .LtE) rLeS := op_le_str
end
/-! ### readings of dicts -/
def rDGet : R2 := fun x y H Q => ∃ a v, x = .ref a ∧ DGet H a y (some v) ∧ Q v H
def rDIn : R2 := fun y x H Q => ∃ a o, x = .ref a ∧ DGet H a y o ∧ Q (.bl o.isSome) H
def rDNin : R2 := fun y x H Q => ∃ a o, x = .ref a ∧ DGet H a y o ∧ Q (.bl (!o.isSome)) H
def rDPut : V → V → V → Hp → (Hp → Prop) → Prop := fun v x y H q => ∃ a H4, x = .ref a ∧ DPut H a y v H4 ∧ q H4
def rGet1 (Q : VK) (a : Addr) (y : V) (H : Hp) : Prop := ∃ o, DGet H a y o ∧ Q (o.getD .non) H
def rGet2 (Q : VK) (a : Addr) (y z : V) (H : Hp) : Prop := ∃ o, DGet H a y o ∧ Q (o.getD z) H
inductive KvG (K : PySem.W.Frag) (H : Hp) {α κ : Type} (ek : α → κ) : List (κ × V) → List (α × D) → Prop where
  | nil : KvG K H ek [] []
  | cons {v : V} {a : α} {d : D} {kvs : List (κ × V)} {l : List (α × D)} : Dt K H v d → KvG K H ek kvs l → KvG K H ek ((ek a, v) :: kvs) ((a, d) :: l)
section
variable {α κ : Type} [DecidableEq α] [DecidableEq κ]
def lookD {β : Type} (l : List (α × β)) (a : α) : Option β := (l.find? fun p => decide (p.1 = a)).map (·.2)
def putD {β : Type} (l : List (α × β)) (a : α) (d : β) : List (α × β) := if (l.any fun p => decide (p.1 = a)) = true then l.map (fun p => if p.1 = a then (p.1, d) else p) else l ++ [(a, d)]
variable {K : PySem.W.Frag} {H H' : Hp} {ek : α → κ}
omit [DecidableEq α] [DecidableEq κ] in
theorem KvG.up (e : Ext H H') : ∀ {kvs : List (κ × V)} {l : List (α × D)}, KvG K H ek kvs l → KvG K H' ek kvs l
  | _, _, .nil => .nil
  | _, _, .cons h r => .cons (h.up e) (KvG.up e r)
omit [DecidableEq α] [DecidableEq κ] in
theorem KvG.len : ∀ {kvs : List (κ × V)} {l : List (α × D)}, KvG K H ek kvs l → kvs.length = l.length
  | _, _, .nil => rfl
  | _, _, .cons h r => congrArg Nat.succ (KvG.len r)
omit [DecidableEq α] [DecidableEq κ] in
theorem KvG.snoc {a : α} {v : V} {d : D} (h : Dt K H v d) : ∀ {kvs : List (κ × V)} {l : List (α × D)}, KvG K H ek kvs l → KvG K H ek (kvs ++ [(ek a, v)]) (l ++ [(a, d)])
  | _, _, .nil => .cons h .nil
  | _, _, .cons h0 r => .cons h0 (KvG.snoc h r)
theorem KvG.look (inj : ∀ a b, ek a = ek b → a = b) (a : α) : ∀ {kvs : List (κ × V)} {l : List (α × D)}, KvG K H ek kvs l → (∀ d, lookD l a = some d → ∃ v, valV kvs (ek a) = some v ∧ Dt K H v d) ∧ (lookD l a = none → valV kvs (ek a) = none)
  | _, _, .nil => ⟨fun d h => by simp [lookD] at h, fun _ => rfl⟩
  | _, _, .cons (v := v) (a := b) (d := d0) (kvs := kvs) (l := l) h r => by
    by_cases e : b = a
    · subst e
      have e1 : lookD ((b, d0) :: l) b = some d0 := by simp [lookD]
      rw [e1, valV_pos rfl]
      exact ⟨fun d hd => ⟨v, rfl, by cases hd; exact h⟩, fun z => by cases z⟩
    · have e1 : lookD ((b, d0) :: l) a = lookD l a := by simp [lookD, e]
      have e2 : ¬ (ek b, v).1 = ek a := fun z => e (inj _ _ z)
      rw [e1, valV_neg e2]
      exact KvG.look inj a r
omit [DecidableEq α] [DecidableEq κ] in
theorem KvG.map_put [DecidableEq α] [DecidableEq κ] (inj : ∀ a b, ek a = ek b → a = b) {a : α} {v : V} {d : D} (h : Dt K H v d) : ∀ {kvs : List (κ × V)} {l : List (α × D)}, KvG K H ek kvs l → KvG K H ek (kvs.map (fun kv => if kv.1 = ek a then (kv.1, v) else kv)) (l.map (fun p => if p.1 = a then (p.1, d) else p))
  | _, _, .nil => .nil
  | _, _, .cons (v := w) (a := b) (d := d0) (kvs := kvs) (l := l) h0 r => by
    rw [List.map_cons, List.map_cons]
    by_cases e : b = a
    · rw [if_pos e, if_pos (congrArg ek e)]
      exact .cons h (KvG.map_put inj h r)
    · rw [if_neg e, if_neg fun z => e (inj _ _ z)]
      exact .cons h0 (KvG.map_put inj h r)
theorem KvG.any (inj : ∀ a b, ek a = ek b → a = b) (a : α) : ∀ {kvs : List (κ × V)} {l : List (α × D)}, KvG K H ek kvs l → (kvs.any fun kv => decide (kv.1 = ek a)) = l.any fun p => decide (p.1 = a)
  | _, _, .nil => rfl
  | _, _, .cons (a := b) h r => by
    rw [List.any_cons, List.any_cons, KvG.any inj a r]
    congr 1
    by_cases e : b = a
    · rw [decide_eq_true (congrArg ek e), decide_eq_true e]
    · rw [decide_eq_false e, decide_eq_false fun z => e (inj _ _ z)]
theorem KvG.put (inj : ∀ a b, ek a = ek b → a = b) {a : α} {v : V} {d : D} {kvs : List (κ × V)} {l : List (α × D)} (h : Dt K H v d) (r : KvG K H ek kvs l) : KvG K H ek (putK kvs (ek a) v) (putD l a d) := by
  unfold putK putD
  rw [r.any inj a]
  by_cases e : (l.any fun p => decide (p.1 = a)) = true
  · rw [if_pos e, if_pos e]
    exact r.map_put inj h
  · rw [if_neg e, if_neg e]
    exact r.snoc h
end
abbrev ekS : Str → Key := Sum.inr
abbrev ekP : Str × Int → List Key := fun p => [.inr p.1, .inl p.2]
theorem ekS_inj : ∀ a b, ekS a = ekS b → a = b := fun _ _ h => Sum.inr.inj h
theorem ekP_inj : ∀ a b, ekP a = ekP b → a = b := fun a b h => by
  cases a; cases b
  simp [ekP] at h
  simp [h]
/-- a dict by texts: one's own, or locked -/
structure DiS (K : PySem.W.Frag) (H : Hp) (p : Addr) (l : List (Str × D)) : Prop where
  ex : ∃ kvs, Rd H p (.dK kvs) ∧ KvG K H ekS kvs l
structure OdS (K : PySem.W.Frag) (H : Hp) (p : Addr) (l : List (Str × D)) : Prop where
  ex : ∃ kvs, H p = some (.dK kvs) ∧ KvG K H ekS kvs l
/-- a dict by pairs of a text and a number -/
structure OdP (K : PySem.W.Frag) (H : Hp) (p : Addr) (l : List ((Str × Int) × D)) : Prop where
  ex : ∃ kvs, H p = some (.dT kvs) ∧ KvG K H ekP kvs l
section
variable {K : PySem.W.Frag} {σ : L2.St} {H H' Hb : Hp} {v x y u : V} {Q : VK} {De : Ends} {ta tb te td ty tv : TE} {tr : TA} {t t1 t2 : TS} {p q : Addr} {d : D} {ds es : List D} {l : List (Str × D)} {m : List ((Str × Int) × D)} {n : Str}
theorem OdS.di (h : OdS K H p l) : DiS K H p l := let ⟨kvs, a, b⟩ := h.ex; ⟨kvs, .inl a, b⟩
theorem OdS.up (s : Same H H') (h : OdS K H p l) : OdS K H' p l := let ⟨kvs, a, b⟩ := h.ex; ⟨kvs, s _ _ a, b.up s.ext⟩
theorem OdP.up (s : Same H H') (h : OdP K H p m) : OdP K H' p m := let ⟨kvs, a, b⟩ := h.ex; ⟨kvs, s _ _ a, b.up s.ext⟩
theorem OdS.but (s : But q H H') (e : Ext H H') (n : p ≠ q) (h : OdS K H p l) : OdS K H' p l := let ⟨kvs, a, b⟩ := h.ex; ⟨kvs, s _ _ n a, b.up e⟩
theorem OdP.but (s : But q H H') (e : Ext H H') (n : p ≠ q) (h : OdP K H p m) : OdP K H' p m := let ⟨kvs, a, b⟩ := h.ex; ⟨kvs, s _ _ n a, b.up e⟩
theorem OdS.ne (h : OdS K H p l) (n : H q = none) : p ≠ q := let ⟨_, a, _⟩ := h.ex; ne_of_none a n
theorem OdP.ne (h : OdP K H p m) (n : H q = none) : p ≠ q := let ⟨_, a, _⟩ := h.ex; ne_of_none a n
theorem OdP.isD (h : OdP K H p m) : IsD H p := let ⟨kvs, a, _⟩ := h.ex; .inr ⟨kvs, .inl a⟩
theorem OdS.isD (h : OdS K H p l) : IsD H p := let ⟨kvs, a, _⟩ := h.ex; .inl ⟨kvs, .inl a⟩
theorem w_dget1 (k : td σ H fun x H1 => ∃ a, x = .ref a ∧ IsD H1 a ∧ ty σ H1 fun y H2 => rGet1 Q a y H2) : tDGet1 td ty σ H Q := k
theorem w_dget2 {tx : TE} (k : td σ H fun x H1 => ∃ a, x = .ref a ∧ IsD H1 a ∧ ty σ H1 fun y H2 => tx σ H2 fun z H3 => rGet2 Q a y z H3) : tDGet2 td ty tx σ H Q := k
theorem w_dget (k : td σ H fun x H1 => ty σ H1 fun y H2 => rDGet x y H2 Q) : tDGet td ty σ H Q := k
theorem w_din (k : ty σ H fun y H1 => td σ H1 fun x H2 => rDIn y x H2 Q) : tDIn ty td σ H Q := k
theorem w_dnin (k : ty σ H fun y H1 => td σ H1 fun x H2 => rDNin y x H2 Q) : tDNotIn ty td σ H Q := k
theorem w_seqP (k : tv σ H fun v H1 => td σ H1 fun x H2 => ty σ H2 fun y H3 => rDPut v x y H3 (t De σ)) : tSeq (sDPut td ty tv) t De σ H := k
theorem w_put (k : tv σ H fun v H1 => td σ H1 fun x H2 => ty σ H2 fun y H3 => rDPut v x y H3 (De.nx σ)) : sDPut td ty tv De σ H := k
theorem dS_get (h : DiS K H p l) (e : lookD l n = some d) (k : At K H d fun u => Q u H) : rDGet (.ref p) (.str n) H Q := by
  obtain ⟨kvs, a, b⟩ := h.ex
  obtain ⟨v, hv, dv⟩ := (b.look ekS_inj n).1 d e
  exact ⟨p, v, rfl, .inl ⟨kvs, .inr n, a, rfl, hv.symm⟩, k.use dv⟩
theorem dS_look (h : DiS K H p l) : ∃ o, DGet H p (.str n) o ∧ o.isSome = (lookD l n).isSome := by
  obtain ⟨kvs, a, b⟩ := h.ex
  refine ⟨valV kvs (.inr n), .inl ⟨kvs, .inr n, a, rfl, rfl⟩, ?_⟩
  cases e : lookD l n with
  | none => rw [show valV kvs (.inr n) = none from (b.look ekS_inj n).2 e] <;> rfl
  | some d =>
    obtain ⟨v, hv, _⟩ := (b.look ekS_inj n).1 d e
    rw [show valV kvs (.inr n) = some v from hv] <;> rfl
theorem dS_in (h : DiS K H p l) (k : Q (.bl (lookD l n).isSome) H) : rDIn (.str n) (.ref p) H Q := by
  obtain ⟨o, a, b⟩ := dS_look (n := n) h
  exact ⟨p, o, rfl, a, by rw [b]; exact k⟩
theorem dS_nin (h : DiS K H p l) (k : Q (.bl (!(lookD l n).isSome)) H) : rDNin (.str n) (.ref p) H Q := by
  obtain ⟨o, a, b⟩ := dS_look (n := n) h
  exact ⟨p, o, rfl, a, by rw [b]; exact k⟩
theorem dS_put {q : Hp → Prop} (h : OdS K H p l) (x : Dt K H v d) (hz : l.length < 16000000) (k : ∀ H', But p H H' → Ext H H' → OdS K H' p (putD l n d) → q H') : rDPut v (.ref p) (.str n) H q := by
  obtain ⟨kvs, a, b⟩ := h.ex
  have e : Ext H (upd H p (.dK (putK kvs (.inr n) v))) := Ext.mut a rfl
  exact ⟨p, _, rfl, .inl ⟨kvs, .inr n, a, rfl, szlN (by rw [b.len]; exact hz), rfl⟩, k _ (But.upd p H _) e ⟨_, upd_same, (b.put ekS_inj x).up e⟩⟩
theorem w_dnewK (k : ∀ p H', H p = none → Same H H' → OdS K H' p [] → Q (.ref p) H') : tDNewK σ H Q := fun p n => k p _ n (Same.new n) ⟨[], upd_same, .nil⟩
theorem w_dnewT (k : ∀ p H', H p = none → Same H H' → OdP K H' p [] → Q (.ref p) H') : tDNewT σ H Q := fun p n => k p _ n (Same.new n) ⟨[], upd_same, .nil⟩
/-- a pair just laid, as a key -/
structure Pk (H : Hp) (v : V) (k : Str × Int) : Prop where
  ex : ∃ a, v = .ref a ∧ H a = some (.tup [.str k.1, .int k.2])
theorem Pk.up {k : Str × Int} (e : Ext H H') (h : Pk H v k) : Pk H' v k := let ⟨a, b, c⟩ := h.ex; ⟨a, b, e _ _ c rfl⟩
theorem w_newPk {k : Str × Int} (h : ∀ u H', Same H H' → Pk H' u k → Dt K H' u (.tup [.str k.1, .int k.2]) → Q u H') : NewT Q [.str k.1, .int k.2] H :=
  ⟨szN (by simp), fun p n => h _ _ (Same.new n) ⟨p, rfl, upd_same⟩ (new_T (.cons (.str _) (.cons (.int _) .nil)) n)⟩
theorem dP_look {k : Str × Int} (h : OdP K H p m) (hk : Pk H y k) : ∃ o, DGet H p y o ∧ o.isSome = (lookD m k).isSome ∧ (∀ d, lookD m k = some d → ∃ v, o = some v ∧ Dt K H v d) := by
  obtain ⟨kvs, a, b⟩ := h.ex
  obtain ⟨c, rfl, hc⟩ := hk.ex
  refine ⟨valV kvs (ekP k), .inr ⟨kvs, ekP k, c, .inl a, rfl, hc, rfl⟩, ?_, fun d e => (b.look ekP_inj k).1 d e⟩
  cases e : lookD m k with
  | none => rw [show valV kvs (ekP k) = none from (b.look ekP_inj k).2 e] <;> rfl
  | some d =>
    obtain ⟨v, hv, _⟩ := (b.look ekP_inj k).1 d e
    rw [show valV kvs (ekP k) = some v from hv] <;> rfl
theorem dP_in {k : Str × Int} (h : OdP K H p m) (hk : Pk H y k) (c : Q (.bl (lookD m k).isSome) H) : rDIn y (.ref p) H Q := by
  obtain ⟨o, a, b, _⟩ := dP_look h hk
  exact ⟨p, o, rfl, a, by rw [b]; exact c⟩
theorem dP_nin {k : Str × Int} (h : OdP K H p m) (hk : Pk H y k) (c : Q (.bl (!(lookD m k).isSome)) H) : rDNin y (.ref p) H Q := by
  obtain ⟨o, a, b, _⟩ := dP_look h hk
  exact ⟨p, o, rfl, a, by rw [b]; exact c⟩
theorem dP_put {k : Str × Int} {q : Hp → Prop} (h : OdP K H p m) (hk : Pk H y k) (x : Dt K H v d) (hz : m.length < 16000000) (c : ∀ H', But p H H' → Ext H H' → OdP K H' p (putD m k d) → q H') : rDPut v (.ref p) y H q := by
  obtain ⟨kvs, a, b⟩ := h.ex
  obtain ⟨r, rfl, hr⟩ := hk.ex
  have e : Ext H (upd H p (.dT (putK kvs (ekP k) v))) := Ext.mut a rfl
  exact ⟨p, _, rfl, .inr ⟨kvs, ekP k, r, a, rfl, hr, szlN (by rw [b.len]; exact hz), rfl⟩, c _ (But.upd p H _) e ⟨_, upd_same, (b.put ekP_inj x).up e⟩⟩
/-- d.get(k), d.get(k, x) -/
theorem dP_get1 {k : Str × Int} (h : OdP K H p m) (hk : Pk H y k) (c : ∀ u, Dt K H u ((lookD m k).getD .non) → Q u H) : rGet1 Q p y H := by
  obtain ⟨o, a, b, r⟩ := dP_look h hk
  refine ⟨o, a, c _ ?_⟩
  cases e : lookD m k with
  | none =>
    rw [e] at b
    cases o with
    | none => exact .non
    | some z => cases b
  | some d =>
    obtain ⟨v, rfl, hv⟩ := r d e
    exact hv
theorem dS_get2 {z : V} {dz : D} (h : OdS K H p l) (hz : Dt K H z dz) (c : ∀ u, Dt K H u ((lookD l n).getD dz) → Q u H) : rGet2 Q p (.str n) z H := by
  obtain ⟨kvs, a, b⟩ := h.ex
  refine ⟨valV kvs (.inr n), .inl ⟨kvs, .inr n, .inl a, rfl, rfl⟩, c _ ?_⟩
  cases e : lookD l n with
  | none =>
    rw [show valV kvs (.inr n) = none from (b.look ekS_inj n).2 e]
    exact hz
  | some d =>
    obtain ⟨v, hv, dv⟩ := (b.look ekS_inj n).1 d e
    rw [show valV kvs (.inr n) = some v from hv]
    exact dv
end
end
section
open PySem PySem.Spec PyProof.Rows L2
theorem atI0 {α : Type} {a : α} {l : List α} : L2.atI (a :: l) 0 = some a := atI_nat (i := 0) rfl
theorem atI1 {α : Type} {a b : α} {l : List α} : L2.atI (a :: b :: l) 1 = some b := atI_nat (i := 1) rfl
def rFld (K : PySem.W.Frag) (f : Str) : V → Hp → VK → Prop := fun x H1 Q => ∃ a C dx fs v, x = .ref a ∧ H1 a = some (.ins C dx fs) ∧ Cls K C ∧ NoAttr K C f ∧ fs.lookup f = some v ∧ Q v H1
def rSFld (K : PySem.W.Frag) (f : Str) : V → V → Hp → (Hp → Prop) → Prop := fun y x H2 q => ∃ a C dx fs, x = .ref a ∧ H2 a = some (.ins C dx fs) ∧ Cls K C ∧ NoAttr K C f ∧ fs.length < 1000 ∧ q (upd H2 a (.ins C dx (putF f y fs)))
def rMeth (C : Addr) (m : Str) (sp : Sp) (E : XK) (t : TA) (σ : L2.St) (Q : VK) : V → Hp → Prop := fun x H1 => ∃ a dx fs, x = .ref a ∧ H1 a = some (.ins C dx fs) ∧ fs.lookup m = none ∧ t σ H1 fun vs H2 => sp (x :: (vs ++ [])) H2 Q E
def rMake (C : Addr) (sp : Sp) (E : XK) (Q : VK) : List V → Hp → Prop := fun vs H1 => ∀ x dx, H1 x = none → H1 dx = none → dx ≠ x → sp (.ref x :: (vs ++ [])) (upd (upd H1 dx (.own x)) x (.ins C dx [])) (fun v H2 => v = .non ∧ Q (.ref x) H2) E
def rFmt (Q : VK) : V → Hp → Prop := fun x H1 => (∃ y : Str, x = .str y ∧ y.length ≤ sizeLine ∧ Q (.str y) H1) ∨ ∃ i : Int, x = .int i ∧ i.natAbs.log2 < 1920 ∧ Q (.str (toString i)) H1
def rAddS : R2 := fun x y H Q => ∃ i j, x = .str i ∧ y = .str j ∧ i.length + j.length ≤ sizeLine ∧ Q (.str (i ++ j)) H
theorem op_addS {X : Cx} : OpR X (binaryOp .Add) rAddS := op_add_str
def Rule.isWord : Rule → Bool
  | .word _ _ => true
  | _ => false
def Rule.isCall : Rule → Bool
  | .call _ _ => true
  | _ => false
/-- the chains of a book, as the locked dict at c -/
structure DiB (K : PySem.W.Frag) (H : Hp) (c : Addr) (l : List (Str × List Rule)) : Prop where
  ex : ∃ o kvs, H c = some (.frz o (.dK kvs)) ∧ DtKv K H kvs l
def eCh (p : Str × List Rule) : Str × D := (p.1, .lst (p.2.map D.rul))
def eRow (p : Str × List Rule) : D := .tup [.str p.1, .lst (p.2.map D.rul)]
def cutL {α : Type} (xs : List α) (lo hi : Option Int) : List α := (xs.drop (HT.sIx xs.length 0 lo)).take (HT.sIx xs.length xs.length hi - HT.sIx xs.length 0 lo)
theorem cutL_from {α : Type} (xs : List α) (k : Nat) : cutL xs (some (k : Int)) none = xs.drop k := by
  unfold cutL
  rw [HT.sIx_nat, HT.sIx_none]
  rw [List.take_of_length_le (by simp)]
  by_cases h : k ≤ xs.length
  · rw [Nat.min_eq_left h]
  · rw [List.drop_eq_nil_of_le (by omega), List.drop_eq_nil_of_le (by omega)]
theorem cutL_to {α : Type} (xs : List α) (k : Nat) : cutL xs none (some (k : Int)) = xs.take k := by
  unfold cutL
  rw [HT.sIx_nat, HT.sIx_none, Nat.sub_zero, List.drop_zero]
  by_cases h : k ≤ xs.length
  · rw [Nat.min_eq_left h]
  · rw [List.take_of_length_le (by omega), List.take_of_length_le (by omega)]
section
variable {K : PySem.W.Frag} {mg : Str → Option Value} {σ : L2.St} {H H' Hb : Hp} {v x y u : V} {Q : VK} {De : Ends} {ta tb te td ty tv to : TE} {tr ts : TA} {t t1 t2 : TS} {p q : Addr} {d : D} {ds es : List D} {n f m : Str} {r : Rule} {B : Book} {b : Box} {sp : Sp} {E : XK} {C : Addr}
theorem DtKv.kv : ∀ {kvs : List (Key × V)} {l : List (Str × List Rule)}, DtKv K H kvs l → KvG K H ekS kvs (l.map eCh)
  | _, _, .nil => .nil
  | _, _, .cons h r => .cons h (DtKv.kv r)
theorem DtKv.of : ∀ {kvs : List (Key × V)} {l : List (Str × List Rule)}, KvG K H ekS kvs (l.map eCh) → DtKv K H kvs l
  | _, [], .nil => .nil
  | _, _ :: _, .cons h r => .cons h (DtKv.of r)
theorem DtKv.len : ∀ {kvs : List (Key × V)} {l : List (Str × List Rule)}, DtKv K H kvs l → kvs.length = l.length
  | _, _, .nil => rfl
  | _, _, .cons _ r => congrArg Nat.succ (DtKv.len r)
theorem DtKv.get : ∀ {kvs : List (Key × V)} {l : List (Str × List Rule)} {i : Nat} {k : Key} {v : V}, DtKv K H kvs l → kvs[i]? = some (k, v) → ∃ p, l[i]? = some p ∧ k = .inr p.1 ∧ Dt K H v (.lst (p.2.map D.rul))
  | _, _, _, _, _, .nil, e => by simp at e
  | _, _, 0, _, _, .cons h r, e => by
    have e1 := Option.some.inj e
    rw [Prod.mk.injEq] at e1
    obtain ⟨rfl, rfl⟩ := e1
    exact ⟨_, rfl, rfl, h⟩
  | _, _, i + 1, _, _, .cons h r, e => DtKv.get (i := i) r e
theorem DtKv.keys : ∀ {kvs : List (Key × V)} {l : List (Str × List Rule)}, DtKv K H kvs l → (kvs.map fun kv => kV kv.1) = (l.map (·.1)).map V.str
  | _, _, .nil => rfl
  | _, _, .cons h r => by
    rw [List.map_cons, List.map_cons, List.map_cons, DtKv.keys r]
    rfl
variable {l : List (Str × List Rule)}
theorem DiB.up (e : Ext H H') (h : DiB K H p l) : DiB K H' p l := let ⟨o, kvs, a, b⟩ := h.ex; ⟨o, kvs, e _ _ a rfl, b.up e⟩
theorem DiB.di (h : DiB K H p l) : DiS K H p (l.map eCh) := let ⟨o, kvs, a, b⟩ := h.ex; ⟨kvs, .inr ⟨o, a⟩, b.kv⟩
theorem i_items {R : It → Hp → Prop} {H0 : Hp} (h : DiB K H0 p l) (e : Ext H0 H) (k : ∀ J, ItD K (Ext H0) J (l.map eRow) → R J H) : ∃ d o kvs, V.ref p = .ref d ∧ H d = some (.frz o (.dK kvs)) ∧ R (Iti d o kvs) H := by
  obtain ⟨o, kvs, a, b⟩ := h.ex
  refine ⟨p, o, kvs, rfl, e _ _ a rfl, k _ ⟨fun H' x => ⟨x _ _ a rfl, by rw [List.length_map, b.len]; exact Nat.le_refl _⟩, fun i H' hi x => ⟨x _ _ a rfl, by rw [List.length_map, ← b.len] at hi; exact hi⟩, fun i H' u H2 hi x y => ?_⟩⟩
  obtain ⟨T, kk, w, e1, rfl, nT, rfl⟩ := y
  obtain ⟨z, e2, rfl, hw⟩ := b.get e1
  exact ⟨eRow z, by rw [List.getElem?_map, e2]; rfl, Same.new nT, new_T (.cons (.str _) (.cons (hw.up x) .nil)) nT⟩
theorem w_iItems {R : It → Hp → Prop} (k : td σ H fun x H1 => ∃ d o kvs, x = .ref d ∧ H1 d = some (.frz o (.dK kvs)) ∧ R (Iti d o kvs) H1) : iItems td σ H R := k
theorem w_keysF (h : DiB K H p l) (k : ∀ u H', Same H H' → Dt K H' u (.lst ((l.map (·.1)).map D.str)) → Q u H') : rListD [.ref p] H (FzQ Q) := by
  obtain ⟨o, kvs, a, b⟩ := h.ex
  refine ⟨p, kvs, rfl, .inr ⟨o, a⟩, ?_⟩
  rw [b.keys]
  exact newF (DtAll.ofStrs _) k
theorem w_lenB (h : DiB K H p l) (k : Q (.int (l.length : Nat)) H) : rLenD [.ref p] H Q := by
  obtain ⟨o, kvs, a, b⟩ := h.ex
  exact ⟨p, kvs, rfl, .inr ⟨o, a⟩, by rw [b.len]; exact k⟩
theorem w_iEnumT {R : It → Hp → Prop} (k : tr σ H fun vs H1 => ∃ a xs, vs = [.ref a] ∧ SqT K H1 a xs ∧ R (Ett K a) H1) : iEnumT K tr σ H R := k
theorem w_iRng3 {R : It → Hp → Prop} (k : tr σ H fun vs H1 => ∃ (i j c : Int) (n : Nat), vs = [.int i, .int j, .int c] ∧ RgC i j c n ∧ R (Itc i c n) H1) : iRng3 tr σ H R := k
theorem w_iList {R : It → Hp → Prop} (k : te σ H fun x H1 => ∃ a, x = .ref a ∧ (∃ xs, SqL K H1 a xs) ∧ R (Itl K a) H1) : iList K te σ H R := k
theorem w_iTup {R : It → Hp → Prop} (k : te σ H fun x H1 => ∃ a, x = .ref a ∧ (∃ xs, SqT K H1 a xs) ∧ R (Itt K a) H1) : iTup K te σ H R := k
theorem w_iEnum {R : It → Hp → Prop} (k : tr σ H fun vs H1 => ∃ a xs, vs = [.ref a] ∧ SqL K H1 a xs ∧ R (Ite K a) H1) : iEnum K tr σ H R := k
theorem w_iRev {R : It → Hp → Prop} (k : tr σ H fun vs H1 => ∃ (a : Addr) (xs : List V), vs = [.ref a] ∧ SqL K H1 a xs ∧ R (Itv K a xs.length) H1) : iRev K tr σ H R := k
theorem w_iStr {R : It → Hp → Prop} (k : te σ H fun v H1 => ∃ x, v = .str x ∧ R (Its x) H1) : iStr te σ H R := k
theorem w_iRng1 {R : It → Hp → Prop} (k : tr σ H fun vs H1 => ∃ j : Int, vs = [.int j] ∧ -(2 ^ 62) ≤ j ∧ j < 2 ^ 62 ∧ R (Itr 0 j.toNat) H1) : iRng1 tr σ H R := k
theorem w_iZipA {R : It → Hp → Prop} (k : tr σ H fun vs H1 => ∃ a b xs ys, vs = [.ref a, .ref b] ∧ ((SqL K H1 a xs ∧ SqL K H1 b ys ∧ R (Itz K a b) H1) ∨ (SqT K H1 a xs ∧ SqT K H1 b ys ∧ R (RZ.ItzT K a b) H1))) : RZ.iZipA K tr σ H R := k
/-! fields -/
theorem w_fld (k : ta σ H fun x H1 => rFld K f x H1 Q) : tFld K ta f σ H Q := k
theorem w_seqW (k : tv σ H fun y H1 => ta σ H1 fun x H2 => rSFld K f y x H2 (t De σ)) : tSeq (sFld K ta tv f) t De σ H := k
theorem w_sfld (k : tv σ H fun y H1 => ta σ H1 fun x H2 => rSFld K f y x H2 (De.nx σ)) : sFld K ta tv f De σ H := k
theorem fl_box (T : Tx K mg) (h : Dt K H x (.rul r)) (k : ∀ u, Dt K H u (eBox r.box) → Q u H) : rFld K "box" x H Q := by
  cases h with
  | rWord a c => exact ⟨_, _, _, _, _, rfl, a, T.c_Word, T.n_Word_box, rfl, k _ c⟩
  | rBack a c => exact ⟨_, _, _, _, _, rfl, a, T.c_Back, T.n_Back_box, rfl, k _ c⟩
  | rCall a c => exact ⟨_, _, _, _, _, rfl, a, T.c_Call, T.n_Call_box, rfl, k _ c⟩
theorem fl_word {w : Str} (T : Tx K mg) (h : Dt K H x (.rul (.word b w))) (k : Q (.str w) H) : rFld K "word" x H Q := by
  cases h with
  | rWord a c => exact ⟨_, _, _, _, _, rfl, a, T.c_Word, T.n_Word_word, rfl, k⟩
theorem fl_name (T : Tx K mg) (h : Dt K H x (.rul (.call b n))) (k : Q (.str n) H) : rFld K "name" x H Q := by
  cases h with
  | rCall a c => exact ⟨_, _, _, _, _, rfl, a, T.c_Call, T.n_Call_name, rfl, k⟩
theorem fl_dflt (T : Tx K mg) (h : Dt K H x (.bok B)) (k : Q (.str B.dflt) H) : rFld K "default" x H Q := by
  cases h with
  | bok o a c r => exact ⟨_, _, _, _, _, rfl, a, T.c_Book, T.n_Book_default, rfl, k⟩
theorem fl_total (T : Tx K mg) (h : Dt K H x (.bok B)) (k : Q (.int B.total) H) : rFld K "total" x H Q := by
  cases h with
  | bok o a c r => exact ⟨_, _, _, _, _, rfl, a, T.c_Book, T.n_Book_total, rfl, k⟩
theorem fl_chains (T : Tx K mg) (h : Dt K H x (.bok B)) (k : ∀ c, DiB K H c B.chains → Q (.ref c) H) : rFld K "chains" x H Q := by
  cases h with
  | bok o a c r => exact ⟨_, _, _, _, _, rfl, a, T.c_Book, T.n_Book_chains, rfl, k _ ⟨o, _, c, r⟩⟩
/-! methods -/
theorem app_nil (sp : Sp) (x : V) (Q : VK) (E : XK) : (fun (vs : List V) (H2 : Hp) => sp (x :: (vs ++ [])) H2 Q E) = fun vs H2 => sp (x :: vs) H2 Q E := by
  funext vs H2
  rw [List.append_nil]
theorem w_meth (k : ta σ H fun x H1 => rMeth C m sp E tr σ Q x H1) : tMeth C m sp [] E ta tr σ H Q := k
theorem m_bok (h : Dt K H x (.bok B)) (k : tr σ H fun vs H2 => sp (x :: vs) H2 Q E) (hm : m ≠ "default" ∧ m ≠ "chains" ∧ m ≠ "total" := by decide) : rMeth (cBook K) m sp E tr σ Q x H := by
  cases h with
  | bok o a c r =>
    refine ⟨_, _, _, rfl, a, ?_, by rw [app_nil]; exact k⟩
    simp only [List.lookup, beq_eq_false_iff_ne.mpr hm.1, beq_eq_false_iff_ne.mpr hm.2.1, beq_eq_false_iff_ne.mpr hm.2.2]
theorem m_word {w : Str} (h : Dt K H x (.rul (.word b w))) (k : tr σ H fun vs H2 => sp (x :: vs) H2 Q E) (hm : m ≠ "box" ∧ m ≠ "word" ∧ m ≠ "name" := by decide) : rMeth (cWord K) m sp E tr σ Q x H := by
  cases h with
  | rWord a c => exact ⟨_, _, _, rfl, a, by simp only [List.lookup, beq_eq_false_iff_ne.mpr hm.1, beq_eq_false_iff_ne.mpr hm.2.1], by rw [app_nil]; exact k⟩
theorem m_back (h : Dt K H x (.rul (.back b))) (k : tr σ H fun vs H2 => sp (x :: vs) H2 Q E) (hm : m ≠ "box" ∧ m ≠ "word" ∧ m ≠ "name" := by decide) : rMeth (cBack K) m sp E tr σ Q x H := by
  cases h with
  | rBack a c => exact ⟨_, _, _, rfl, a, by simp only [List.lookup, beq_eq_false_iff_ne.mpr hm.1], by rw [app_nil]; exact k⟩
theorem m_call (h : Dt K H x (.rul (.call b n))) (k : tr σ H fun vs H2 => sp (x :: vs) H2 Q E) (hm : m ≠ "box" ∧ m ≠ "word" ∧ m ≠ "name" := by decide) : rMeth (cCall K) m sp E tr σ Q x H := by
  cases h with
  | rCall a c => exact ⟨_, _, _, rfl, a, by simp only [List.lookup, beq_eq_false_iff_ne.mpr hm.1, beq_eq_false_iff_ne.mpr hm.2.2], by rw [app_nil]; exact k⟩
/-- a method of a rule, whichever it is -/
theorem w_rule3 {i : Nat} {sp1 sp2 sp3 : Sp} {m1 : Str} (hs : σ[i]? = some (some x)) (h : Dt K H x (.rul r)) (hm : m1 ≠ "box" ∧ m1 ≠ "word" ∧ m1 ≠ "name") (k1 : ∀ b w, r = .word b w → tr σ H fun vs H2 => sp1 (x :: vs) H2 Q E) (k2 : ∀ b, r = .back b → tr σ H fun vs H2 => sp2 (x :: vs) H2 Q E)
    (k3 : ∀ b n, r = .call b n → tr σ H fun vs H2 => sp3 (x :: vs) H2 Q E) : tOrE (tMeth (cWord K) m1 sp1 [] E (tVar i) tr) (tOrE (tMeth (cBack K) m1 sp2 [] E (tVar i) tr) (tMeth (cCall K) m1 sp3 [] E (tVar i) tr)) σ H Q := by
  cases r with
  | word b w => exact .inl ⟨x, hs, m_word h (k1 b w rfl) hm⟩
  | back b => exact .inr (.inl ⟨x, hs, m_back h (k2 b rfl) hm⟩)
  | call b n => exact .inr (.inr ⟨x, hs, m_call h (k3 b n rfl) hm⟩)
theorem w_rule1 {i : Nat} {m1 : Str} (hs : σ[i]? = some (some x)) (h : Dt K H x (.rul r)) (hm : m1 ≠ "box" ∧ m1 ≠ "word" ∧ m1 ≠ "name") (k : tr σ H fun vs H2 => sp (x :: vs) H2 Q E) : tOrE (tMeth (cWord K) m1 sp [] E (tVar i) tr) (tOrE (tMeth (cBack K) m1 sp [] E (tVar i) tr) (tMeth (cCall K) m1 sp [] E (tVar i) tr)) σ H Q :=
  w_rule3 hs h hm (fun _ _ _ => k) (fun _ _ => k) (fun _ _ _ => k)
theorem w_make (k : tr σ H fun vs H1 => rMake C sp E Q vs H1) : tMake C sp [] E tr σ H Q := k
theorem make_i {vs : List V} (k : ∀ a dx H', H a = none → Same H H' → H' a = some (.ins C dx []) → sp (.ref a :: vs) H' (fun v H2 => v = .non ∧ Q (.ref a) H2) E) : rMake C sp E Q vs H := fun a dx n1 n2 ne => by
  rw [List.append_nil]
  refine k a dx _ n1 ((Same.new n2).trans (Same.new ?_)) upd_same
  rw [upd_ne (Ne.symm ne)]
  exact n1
theorem w_clsF (k : ta σ H fun x H1 => x = .ref C ∧ tr σ H1 fun vs H2 => sp vs H2 Q E0) : tClsF C sp ta tr σ H Q := k
/-! is it one of a class -/
theorem isi_word (T : Tx K mg) (h : Dt K H x (.rul r)) (k : Q (.bl r.isWord) H) : rIsi K [x, .ref (He.ga K "Word")] H Q := by
  cases h with
  | rWord a c => exact ⟨_, _, _, _, _, rfl, .own _, .base (.ins a T.c_Word T.x_cls_Word T.x_get T.x_tk T.x_mro_Word), T.x_kit_Word_Word, k⟩
  | rBack a c => exact ⟨_, _, _, _, _, rfl, .own _, .base (.ins a T.c_Back T.x_cls_Back T.x_get T.x_tk T.x_mro_Back), T.x_kit_Back_Word, k⟩
  | rCall a c => exact ⟨_, _, _, _, _, rfl, .own _, .base (.ins a T.c_Call T.x_cls_Call T.x_get T.x_tk T.x_mro_Call), T.x_kit_Call_Word, k⟩
theorem isi_call (T : Tx K mg) (h : Dt K H x (.rul r)) (k : Q (.bl r.isCall) H) : rIsi K [x, .ref (He.ga K "Call")] H Q := by
  cases h with
  | rWord a c => exact ⟨_, _, _, _, _, rfl, .own _, .base (.ins a T.c_Word T.x_cls_Word T.x_get T.x_tk T.x_mro_Word), T.x_kit_Word_Call, k⟩
  | rBack a c => exact ⟨_, _, _, _, _, rfl, .own _, .base (.ins a T.c_Back T.x_cls_Back T.x_get T.x_tk T.x_mro_Back), T.x_kit_Back_Call, k⟩
  | rCall a c => exact ⟨_, _, _, _, _, rfl, .own _, .base (.ins a T.c_Call T.x_cls_Call T.x_get T.x_tk T.x_mro_Call), T.x_kit_Call_Call, k⟩
theorem isi_int {i : Int} (k : Q (.bl false) H) : rIsi K [.int i, .ty "str"] H Q := ⟨_, _, _, _, false, rfl, .ty _, .base (.int i), kit_ty (by decide +kernel), k⟩
theorem isi_str {i : Str} (k : Q (.bl true) H) : rIsi K [.str i, .ty "str"] H Q := ⟨_, _, _, _, true, rfl, .ty _, .base (.str i), kit_ty (by decide +kernel), k⟩
/-! slices -/
theorem w_sl {r : V → Option Int → Option Int → Hp → VK → Prop} {tl th : TO} (k : te σ H fun x H1 => tl σ H1 fun l H2 => th σ H2 fun u H3 => r x l u H3 Q) : L2.tSl r te tl th σ H Q := k
theorem w_noPart {q : Option Int → Hp → Prop} (k : q none H) : tNoPart σ H q := k
theorem w_part {q : Option Int → Hp → Prop} (k : te σ H fun x H1 => ∃ i, x = .int i ∧ q (some i) H1) : tPart te σ H q := k
theorem w_intx {i : Int} {q : Int → Prop} (k : q i) : ∃ j, V.int i = .int j ∧ q j := ⟨i, rfl, k⟩
theorem cut_dt {xs : List V} {lo hi : Option Int} (r : DtAll K H xs ds) : DtAll K H (cutV xs lo hi) (cutL ds lo hi) := by
  unfold cutV cutL
  rw [r.length]
  exact (r.drop _).take _
theorem sl_F {lo hi : Option Int} (h : Dt K H v (.lst ds)) (k : ∀ u H', Same H H' → Dt K H' u (.lst (cutL ds lo hi)) → Q u H') : rSlL K v lo hi H (FzQ Q) := by
  obtain ⟨a, xs, o, rfl, s, r⟩ := h.lstI
  exact ⟨a, xs, rfl, sqL_frz s, newF (cut_dt r) k⟩
theorem sl_O {lo hi : Option Int} (h : Ow K H p ds) (k : ∀ u H', Same H H' → Dt K H' u (.lst (cutL ds lo hi)) → Q u H') : rSlL K (.ref p) lo hi H (FzQ Q) := by
  obtain ⟨vs, a, b⟩ := h.ex
  exact ⟨p, vs, rfl, SqL.of a, newF (cut_dt b) k⟩
theorem sl_T {lo hi : Option Int} (h : Dt K H v (.tup ds)) (k : ∀ u H', Same H H' → Dt K H' u (.tup (cutL ds lo hi)) → Q u H') : rSlA K v lo hi H Q := by
  obtain ⟨a, xs, rfl, s, r⟩ := h.tupI
  refine ⟨a, xs, rfl, s, fun hw => k _ _ (Same.refl _) ?_, fun _ p n => k _ _ (Same.new n) (new_T (cut_dt r) n)⟩
  have e : cutL ds lo hi = ds := by
    unfold cutL
    rw [r.length] at hw
    rw [hw.1, hw.2]
    simp
  rw [e]
  exact .tup s r
theorem sl_S {z : Str} {lo hi : Option Int} (hz : z.length ≤ sizeLine) (k : Q (.str (cutS z lo hi)) H) : rSlS (.str z) lo hi H Q := ⟨z, rfl, hz, k⟩
/-! one behind the other -/
theorem catA (hx : Dt K H x (.tup ds)) (hy : Dt K H y (.tup es)) (hz : ds.length + es.length ≤ 16000000) (k : ∀ u H', Same H H' → Dt K H' u (.tup (ds ++ es)) → Q u H') : rCatA K x y H Q := by
  obtain ⟨a, xs, rfl, s, r⟩ := hx.tupI
  obtain ⟨c, ys, rfl, s2, r2⟩ := hy.tupI
  refine ⟨a, c, xs, ys, rfl, rfl, s, s2, szN (by rw [r.length, r2.length]; exact hz), fun e => ?_, fun _ e => ?_, fun _ _ p n => k _ _ (Same.new n) (new_T (r.append r2) n)⟩
  · subst e
    cases r
    exact k _ _ (Same.refl _) (.tup s2 r2)
  · subst e
    cases r2
    rw [List.append_nil] at k
    exact k _ _ (Same.refl _) (.tup s r)
/-- a list, locked or one's own -/
structure Ls (K : PySem.W.Frag) (H : Hp) (v : V) (ds : List D) : Prop where
  ex : ∃ a xs, v = .ref a ∧ Rd H a (.lst xs) ∧ DtAll K H xs ds
theorem Dt.ls (h : Dt K H v (.lst ds)) : Ls K H v ds := let ⟨a, xs, o, e, s, r⟩ := h.lstI; ⟨a, xs, e, .inr ⟨o, s⟩, r⟩
theorem Ow.ls (h : Ow K H p ds) : Ls K H (.ref p) ds := let ⟨vs, a, b⟩ := h.ex; ⟨p, vs, rfl, .inl a, b⟩
theorem catF (hx : Ls K H x ds) (hy : Ls K H y es) (hz : ds.length + es.length ≤ 16000000) (k : ∀ u H', Same H H' → Dt K H' u (.lst (ds ++ es)) → Q u H') : rCatF x y H (FzQ Q) := by
  obtain ⟨a, xs, rfl, s, r⟩ := hx.ex
  obtain ⟨c, ys, rfl, s2, r2⟩ := hy.ex
  exact ⟨a, c, xs, ys, rfl, rfl, s, s2, szN (by rw [r.length, r2.length]; exact hz), newF (r.append r2) k⟩
theorem catO (hx : Ls K H x ds) (hy : Ls K H y es) (hz : ds.length + es.length ≤ 16000000) (k : ∀ p H', H p = none → Same H H' → Ow K H' p (ds ++ es) → Q (.ref p) H') : rCatF x y H Q := by
  obtain ⟨a, xs, rfl, s, r⟩ := hx.ex
  obtain ⟨c, ys, rfl, s2, r2⟩ := hy.ex
  exact ⟨a, c, xs, ys, rfl, rfl, s, s2, szN (by rw [r.length, r2.length]; exact hz), fun p n => k p _ n (Same.new n) ⟨_, upd_same, (r.append r2).up (Same.new n).ext⟩⟩
/-! texts -/
theorem w_M1 {r : V → List V → Hp → VK → Prop} (k : to σ H fun x H1 => (∃ a, x = .str a) ∧ te σ H1 fun y H2 => r x [y] H2 Q) : tM1 r to te σ H Q := k
theorem w_isS {z : Str} {R : Prop} (k : R) : (∃ a, V.str z = .str a) ∧ R := ⟨⟨_, rfl⟩, k⟩
theorem s_split {a c : Str} (h1 : (c.length == 0) = false) (h2 : a.length ≤ 16000000) (k : ∀ u H', Same H H' → Dt K H' u (.lst ((Txt.split a c).map D.str)) → Q u H') : rSplit (.str a) [.str c] H (FzQ Q) :=
  ⟨a, c, rfl, rfl, h1, szN (by have := sizeLine_eq; omega) |> fun (z : a.length ≤ sizeLine) => (by rw [sizeLine_eq]; omega), newF (DtAll.ofStrs _) k⟩
theorem s_part {a c : Str} (h1 : (c.length == 0) = false) (h2 : a.length ≤ 16000000) (k : ∀ u H', Same H H' → Dt K H' u (.tup [.str (Txt.partition a c).1, .str (Txt.partition a c).2.1, .str (Txt.partition a c).2.2]) → Q u H') : rPart (.str a) [.str c] H Q :=
  ⟨a, c, rfl, rfl, h1, szN h2, fun p n => k _ _ (Same.new n) (new_T (.cons (.str _) (.cons (.str _) (.cons (.str _) .nil))) n)⟩
theorem s_join {a : Str} {ss : List Str} (h : Ls K H y (ss.map D.str)) (hz : (ss.map (·.length)).sum + ss.length * a.length ≤ 16777216) (k : Q (.str (Txt.join a ss)) H) : rJoin K (.str a) [y] H Q := by
  obtain ⟨c, xs, rfl, s, r⟩ := h.ex
  have e := r.strs
  subst e
  refine ⟨a, c, ss, rfl, rfl, .inl ?_, hz, k⟩
  rcases s with s | ⟨o, s⟩
  · exact SqL.of s
  · exact sqL_frz s
theorem w_jn {tl : List TE} (k : tJs tl Str.empty σ H fun out H1 => Q (.str out) H1) : tJn tl σ H Q := k
theorem w_js {tl : List TE} {acc : Str} {q : Str → Hp → Prop} (k : te σ H fun x H1 => rJs tl acc σ q x H1) : tJs (te :: tl) acc σ H q := k
theorem w_j0 {acc : Str} {q : Str → Hp → Prop} (k : q acc H) : tJs [] acc σ H q := k
theorem w_j1 {tl : List TE} {acc z : Str} {q : Str → Hp → Prop} (hz : (acc ++ z).length ≤ 16000000) (k : tJs tl (acc ++ z) σ H q) : rJs tl acc σ q (.str z) H := ⟨z, rfl, szN hz, k⟩
theorem w_fmt (k : te σ H fun x H1 => rFmt Q x H1) : tFmt te σ H Q := k
theorem fmtS {z : Str} (hz : z.length ≤ 16000000) (k : Q (.str z) H) : rFmt Q (.str z) H := .inl ⟨z, rfl, szN hz, k⟩
theorem fmtI {i : Int} (hz : i.natAbs.log2 < 1920) (k : Q (.str (toString i)) H) : rFmt Q (.int i) H := .inr ⟨i, rfl, hz, k⟩
theorem w_addS {i j : Str} (hz : i.length + j.length ≤ 16000000) (k : Q (.str (i ++ j)) H) : rAddS (.str i) (.str j) H Q := ⟨i, j, rfl, rfl, szN hz, k⟩
theorem w_inS {c : Nat} {z : Str} (k : Q (.bl (decide (c ∈ z.cps.toList))) H) : rInS (.str ⟨#[c]⟩) (.str z) H Q := ⟨c, z, rfl, rfl, k⟩
theorem w_ninS {c : Nat} {z : Str} (k : Q (.bl (!decide (c ∈ z.cps.toList))) H) : rNotInS (.str ⟨#[c]⟩) (.str z) H Q := ⟨c, z, rfl, rfl, k⟩
theorem w_leS {i j : Str} (k : Q (.bl (!decide (j.cps.toList < i.cps.toList))) H) : rLeS (.str i) (.str j) H Q := ⟨i, j, rfl, rfl, k⟩
theorem w_bits (k : to σ H fun x H1 => ∃ i, x = .int i ∧ Q (.int (Builtin.Int.intBits i : Nat)) H1) : tBits to σ H Q := k
theorem w_mulS {c k : Nat} (hn : k ≤ 1000) (q : Q (.str ⟨(List.replicate k c).toArray⟩) H) : rMulS (.str ⟨#[c]⟩) (.int (k : Int)) H Q := ⟨c, k, rfl, rfl, hn, q⟩
theorem inV_strs {z : Str} (ss : List Str) : inV (.str z) (ss.map V.str) = decide (z ∈ ss) := by
  induction ss with
  | nil => rfl
  | cons a ss ih =>
    unfold inV at ih ⊢
    rw [List.map_cons, List.any_cons, ih]
    by_cases e : a = z
    · subst e
      simp [eqV]
    · have e2 : ¬ z = a := fun h => e h.symm
      simp [eqV, e, e2]
theorem flat_strs (ss : List Str) : (ss.map V.str).all flatV = true := by simp [flatV]
theorem in_T {z : Str} {ss : List Str} {neg : Bool} (h : Dt K H v (.tup (ss.map D.str))) (k : Q (.bl (if neg then !decide (z ∈ ss) else decide (z ∈ ss))) H) : rIn K neg (.str z) v H Q := by
  obtain ⟨a, xs, rfl, s, r⟩ := h.tupI
  have e := r.strs
  subst e
  exact ⟨a, _, rfl, .inr s, rfl, flat_strs ss, by rw [inV_strs]; exact k⟩
theorem in_L {z : Str} {ss : List Str} {neg : Bool} (h : Ls K H v (ss.map D.str)) (k : Q (.bl (if neg then !decide (z ∈ ss) else decide (z ∈ ss))) H) : rIn K neg (.str z) v H Q := by
  obtain ⟨a, xs, rfl, s, r⟩ := h.ex
  have e := r.strs
  subst e
  refine ⟨a, _, rfl, .inl ?_, rfl, flat_strs ss, by rw [inV_strs]; exact k⟩
  rcases s with s | ⟨o, s⟩
  · exact SqL.of s
  · exact sqL_frz s
theorem w_lenX (h : Ls K H v ds) (k : Q (.int (ds.length : Nat)) H) : rLenQ K [v] H Q := by
  obtain ⟨a, xs, rfl, s, r⟩ := h.ex
  refine ⟨a, xs, rfl, .inl ?_, by rw [r.length]; exact k⟩
  rcases s with s | ⟨o, s⟩
  · exact SqL.of s
  · exact sqL_frz s
theorem w_minT {n : Int} {ns : List Int} (h : Dt K H v (.tup ((n :: ns).map D.int))) (k : Q (.int (ns.foldl min n)) H) : rMinT K [v] H Q := by
  obtain ⟨a, xs, rfl, s, r⟩ := h.tupI
  have e := r.ints
  subst e
  exact ⟨a, n, ns, rfl, s, k⟩
theorem w_tx {ys : List Str} {z : Str} {j : Nat} (h : Dt K H v (.tup (ys.map D.str))) (h1 : ys[j]? = some z) (h2 : ∀ m, m < j → ys[m]? ≠ some z) (k : Q (.int (j : Nat)) H) : rTx K v [.str z] H Q := by
  obtain ⟨a, xs, rfl, s, r⟩ := h.tupI
  have e := r.strs
  subst e
  exact ⟨a, ys, z, j, rfl, rfl, s, h1, h2, k⟩
/-! tests of None -/
theorem w_isN0 (k : Q (.bl true) H) : rIsN .non .non H Q := ⟨rfl, by simpa using k⟩
theorem w_isNr {a : Addr} (k : Q (.bl false) H) : rIsN (.ref a) .non H Q := ⟨rfl, by simpa using k⟩
theorem w_isNs {a : Str} (k : Q (.bl false) H) : rIsN (.str a) .non H Q := ⟨rfl, by simpa using k⟩
theorem w_notN0 (k : Q (.bl false) H) : rNotN .non .non H Q := ⟨rfl, by simpa using k⟩
theorem w_notNr {a : Addr} (k : Q (.bl true) H) : rNotN (.ref a) .non H Q := ⟨rfl, by simpa using k⟩
theorem w_notNs {a : Str} (k : Q (.bl true) H) : rNotN (.str a) .non H Q := ⟨rfl, by simpa using k⟩
theorem iteD_t {p : Prop} [Decidable p] {A B : Prop} (h : p) (k : A) : if decide p = true then A else B := by rw [decide_eq_true h]; exact iteT k
theorem iteD_f {p : Prop} [Decidable p] {A B : Prop} (h : ¬ p) (k : B) : if decide p = true then A else B := by rw [decide_eq_false h]; exact iteF k
theorem iteAB {p : Prop} [Decidable p] {A B : Prop} (h1 : p → B → A) (h2 : B) : if p then A else B := by
  by_cases h : p
  · rw [if_pos h]; exact h1 h h2
  · rw [if_neg h]; exact h2
theorem iteNT {A B : Prop} (h : B) : if (!true) = true then A else B := iteF h
theorem iteNF {A B : Prop} (h : A) : if (!false) = true then A else B := iteT h
def PreN (t1 : TS) (De : Ends) (σ : L2.St) (H : Hp) : Prop := ∃ p u, H p = some u ∧ Mut (some u) ∧ ∀ od, t1 De σ (upd H p (.frz od u))
theorem w_seqPre (k : PreN t1 { De with nx := t De } σ H) : tSeq (tPre t1) t De σ H := k
/-- a book, also one that is just made -/
structure BkC (K : PySem.W.Frag) (H : Hp) (x : V) (l : List (Str × List Rule)) : Prop where
  ex : ∃ a dx c d rest, x = .ref a ∧ H a = some (.ins (cBook K) dx (("default", d) :: ("chains", .ref c) :: rest)) ∧ (rest = [] ∨ ∃ t, rest = [(("total" : Str), t)]) ∧ DiB K H c l
theorem Dt.bkc (h : Dt K H x (.bok B)) : BkC K H x B.chains := by
  cases h with
  | bok o a c r => exact ⟨_, _, _, _, _, rfl, a, .inr ⟨_, rfl⟩, ⟨o, _, c, r⟩⟩
theorem BkC.up (e : Ext H H') (h : BkC K H x l) : BkC K H' x l := let ⟨a, dx, c, d, rest, h1, h2, h3, h4⟩ := h.ex; ⟨a, dx, c, d, rest, h1, e _ _ h2 rfl, h3, h4.up e⟩
theorem m_bkc (h : BkC K H x l) (k : tr σ H fun vs H2 => sp (x :: vs) H2 Q E) (hm : m ≠ "default" ∧ m ≠ "chains" ∧ m ≠ "total" := by decide) : rMeth (cBook K) m sp E tr σ Q x H := by
  obtain ⟨a, dx, c, d, rest, rfl, h2, h3, h4⟩ := h.ex
  refine ⟨_, _, _, rfl, h2, ?_, by rw [app_nil]; exact k⟩
  rcases h3 with rfl | ⟨t, rfl⟩
  · simp only [List.lookup, beq_eq_false_iff_ne.mpr hm.1, beq_eq_false_iff_ne.mpr hm.2.1]
  · simp only [List.lookup, beq_eq_false_iff_ne.mpr hm.1, beq_eq_false_iff_ne.mpr hm.2.1, beq_eq_false_iff_ne.mpr hm.2.2]
theorem fl_chainsC (T : Tx K mg) (h : BkC K H x l) (k : ∀ c, DiB K H c l → Q (.ref c) H) : rFld K "chains" x H Q := by
  obtain ⟨a, dx, c, d, rest, rfl, h2, h3, h4⟩ := h.ex
  exact ⟨_, _, _, _, _, rfl, h2, T.c_Book, T.n_Book_chains, rfl, k _ h4⟩
theorem w_sub {ti : TE} {ts : TSet} {q : L2.St → Hp → Prop} (k : to σ H fun o H1 => ti σ H1 fun i H2 => ts o i v H2 fun H3 => q σ H3) : gSub to ti ts v σ H q := k
theorem w_drop (k : te σ H fun _ H1 => De.nx σ H1) : tDrop te De σ H := k
/-- a loop by a test: the measure m -/
def WhB (W : Nat → L2.St → Hp → Prop) (m : Nat) (tb : TS) (De : Ends) (σ : L2.St) (H1 : Hp) : Prop := ∃ N : L2.St → Hp → Prop, (∀ σ' H', N σ' H' → ∃ m', m' < m ∧ W m' σ' H') ∧ tb { De with nx := N, ct := N, bk := De.nx } σ H1
theorem whB {W : Nat → L2.St → Hp → Prop} {m : Nat} {tb : TS} (k : tb { De with nx := fun σ' H' => ∃ m', m' < m ∧ W m' σ' H', ct := fun σ' H' => ∃ m', m' < m ∧ W m' σ' H', bk := De.nx } σ H) : WhB W m tb De σ H := ⟨_, fun _ _ z => z, k⟩
theorem f_while {c : TT} {tb : TS} (W : Nat → L2.St → Hp → Prop) (m : Nat) (h0 : W m σ H) (hs : ∀ m σ H, W m σ H → c σ H fun b H1 => if b = true then WhB W m tb De σ H1 else De.nx σ H1) : tWhile c tb De σ H := ⟨W, ⟨m, h0⟩, hs⟩
theorem w_seqV {c : TT} {tb : TS} (k : tWhile c tb { De with nx := t De } σ H) : tSeq (tWhile c tb) t De σ H := k
end
end
section
open PySem
/-! ### chains, in plain Lean -/
abbrev Chs := List (Str × List Rule)
def lenC : Nat → Chs → Str → Nat
  | 0, _, _ => 0
  | f + 1, ch, n => (((lookD ch n).getD []).map fun r => match r with
    | .call _ m => 1 + lenC f ch m
    | _ => 1).sum
def Deep : Nat → Chs → Str → Prop
  | 0, _, _ => False
  | f + 1, ch, n => ∃ rs, lookD ch n = some rs ∧ ∀ b m, Rule.call b m ∈ rs → Deep f ch m
def unfGo (unf : Str → Nat → List Row) (len : Str → Nat) (n : Str) (fin : Nat) : List Rule → Nat → Nat → List Row
  | [], _, _ => []
  | .word b w :: rs, i, here => ⟨n, i, b, .word w, here + 1⟩ :: unfGo unf len n fin rs (i + 1) (here + 1)
  | .back b :: rs, i, here => ⟨n, i, b, .row fin, here + 1⟩ :: unfGo unf len n fin rs (i + 1) (here + 1)
  | .call b m :: rs, i, here => ⟨n, i, b, .row (here + 1), here + 1 + len m⟩ :: (unf m (here + 1) ++ unfGo unf len n fin rs (i + 1) (here + 1 + len m))
def unfC : Nat → Chs → Str → Nat → List Row
  | 0, _, _, _ => []
  | f + 1, ch, n, st => unfGo (unfC f ch) (lenC f ch) n (st + lenC (f + 1) ch n) ((lookD ch n).getD []) 0 st
def lenR (f : Nat) (ch : Chs) : Rule → Nat
  | .call _ m => 1 + lenC f ch m
  | _ => 1
theorem lenC_eq {f : Nat} {ch : Chs} {n : Str} {rs : List Rule} (h : lookD ch n = some rs) : lenC (f + 1) ch n = (rs.map (lenR f ch)).sum := by
  unfold lenC
  rw [h]
  rfl
theorem unfGo_len {f : Nat} {ch : Chs} {n : Str} {fin : Nat} (ih : ∀ m st, Deep f ch m → (unfC f ch m st).length = lenC f ch m) : ∀ (rs : List Rule) (i here : Nat), (∀ b m, Rule.call b m ∈ rs → Deep f ch m) → (unfGo (unfC f ch) (lenC f ch) n fin rs i here).length = (rs.map (lenR f ch)).sum
  | [], _, _, _ => rfl
  | .word b w :: rs, i, here, h => by
    have := unfGo_len ih (n := n) (fin := fin) rs (i + 1) (here + 1) fun b m q => h b m (by simp [q])
    simp [unfGo, lenR, this]
    omega
  | .back b :: rs, i, here, h => by
    have := unfGo_len ih (n := n) (fin := fin) rs (i + 1) (here + 1) fun b m q => h b m (by simp [q])
    simp [unfGo, lenR, this]
    omega
  | .call b m :: rs, i, here, h => by
    have h1 := unfGo_len ih (n := n) (fin := fin) rs (i + 1) (here + 1 + lenC f ch m) fun b m q => h b m (by simp [q])
    have h2 := ih m (here + 1) (h b m (by simp))
    simp [unfGo, lenR, h1, h2]
    omega
theorem unfC_len : ∀ (f : Nat) (ch : Chs) (n : Str) (st : Nat), Deep f ch n → (unfC f ch n st).length = lenC f ch n
  | 0, _, _, _, h => h.elim
  | f + 1, ch, n, st, ⟨rs, h1, h2⟩ => by
    rw [lenC_eq h1]
    unfold unfC
    rw [h1]
    exact unfGo_len (fun m st d => unfC_len f ch m st d) rs 0 st h2
theorem deep_up : ∀ {f : Nat} {ch : Chs} {n : Str}, Deep f ch n → Deep (f + 1) ch n ∧ lenC (f + 1) ch n = lenC f ch n
  | 0, _, _, h => h.elim
  | f + 1, ch, n, ⟨rs, h1, h2⟩ => by
    refine ⟨⟨rs, h1, fun b m h => (deep_up (h2 b m h)).1⟩, ?_⟩
    rw [lenC_eq h1, lenC_eq h1]
    congr 1
    refine List.map_congr_left fun r hr => ?_
    cases r with
    | call b m =>
      have := (deep_up (h2 b m hr)).2
      simp [lenR, this]
    | word b w => rfl
    | back b => rfl
theorem deep_to {f g : Nat} {ch : Chs} {n : Str} (h : Deep f ch n) (hg : f ≤ g) : Deep g ch n ∧ lenC g ch n = lenC f ch n := by
  induction g with
  | zero =>
    have e : f = 0 := by omega
    subst e
    exact ⟨h, rfl⟩
  | succ g ih =>
    by_cases e : f = g + 1
    · subst e
      exact ⟨h, rfl⟩
    · obtain ⟨a, b⟩ := ih (by omega)
      obtain ⟨c, d⟩ := deep_up a
      exact ⟨c, d.trans b⟩
/-- the rules that a point meets, and the word -/
abbrev Steps := List (Str × Nat × Bool)
def readGo (read : Str → Steps × Option Str) (n : Str) (p : List Int) : List Rule → Nat → Steps × Option Str
  | [], _ => ([], none)
  | r :: rs, i => if hasB r.box p = true then match r with
      | .word _ w => ([(n, i, true)], some w)
      | .back _ => ([(n, i, true)], none)
      | .call _ m => match read m with
        | (s, some w) => ((n, i, true) :: s, some w)
        | (s, none) => ((n, i, true) :: (s ++ (readGo read n p rs (i + 1)).1), (readGo read n p rs (i + 1)).2)
    else ((n, i, false) :: (readGo read n p rs (i + 1)).1, (readGo read n p rs (i + 1)).2)
def readC : Nat → Chs → List Int → Str → Steps × Option Str
  | 0, _, _, _ => ([], none)
  | f + 1, ch, p, n => readGo (readC f ch p) n p ((lookD ch n).getD []) 0
section
variable {read : Str → Steps × Option Str} {n : Str} {p : List Int} {rs : List Rule} {i : Nat}
theorem readGo_no {r : Rule} (h : hasB r.box p = false) : readGo read n p (r :: rs) i = ((n, i, false) :: (readGo read n p rs (i + 1)).1, (readGo read n p rs (i + 1)).2) := if_neg (by rw [h]; exact Bool.false_ne_true)
theorem readGo_word {b : Box} {w : Str} (h : hasB b p = true) : readGo read n p (.word b w :: rs) i = ([(n, i, true)], some w) := if_pos h
theorem readGo_back {b : Box} (h : hasB b p = true) : readGo read n p (.back b :: rs) i = ([(n, i, true)], none) := if_pos h
theorem readGo_callN {b : Box} {m : Str} {s : Steps} (h : hasB b p = true) (e : read m = (s, none)) : readGo read n p (.call b m :: rs) i = ((n, i, true) :: (s ++ (readGo read n p rs (i + 1)).1), (readGo read n p rs (i + 1)).2) := by
  refine (if_pos h).trans ?_
  simp only [e]
theorem readGo_callS {b : Box} {m : Str} {s : Steps} {w : Str} (h : hasB b p = true) (e : read m = (s, some w)) : readGo read n p (.call b m :: rs) i = ((n, i, true) :: s, some w) := by
  refine (if_pos h).trans ?_
  simp only [e]
end
theorem readGo_len {read : Str → Steps × Option Str} {len : Rule → Nat} {n : Str} {p : List Int} (hr : ∀ r, 1 ≤ len r) : ∀ (rs : List Rule) (i : Nat), (∀ b m, Rule.call b m ∈ rs → 1 + (read m).1.length ≤ len (.call b m)) → (readGo read n p rs i).1.length ≤ (rs.map len).sum
  | [], _, _ => Nat.zero_le _
  | r :: rs, i, h => by
    have ih := readGo_len (n := n) (p := p) hr rs (i + 1) fun b m q => h b m (by simp [q])
    have h1 := hr r
    unfold readGo
    split
    · cases r with
      | word b w => simp; omega
      | back b => simp; omega
      | call b m =>
        have h2 := h b m (by simp)
        dsimp only
        rcases hh : read m with ⟨s, _ | wd⟩
        · rw [hh] at h2
          simp at h2 ⊢
          omega
        · rw [hh] at h2
          simp at h2 ⊢
          omega
    · simp
      omega
theorem lenR_pos {f : Nat} {ch : Chs} (r : Rule) : 1 ≤ lenR f ch r := by
  cases r <;> simp [lenR]
theorem readC_len : ∀ (f : Nat) (ch : Chs) (p : List Int) (n : Str), Deep f ch n → (readC f ch p n).1.length ≤ lenC f ch n
  | 0, _, _, _, h => h.elim
  | f + 1, ch, p, n, ⟨rs, h1, h2⟩ => by
    rw [lenC_eq h1]
    unfold readC
    rw [h1]
    refine readGo_len lenR_pos rs 0 fun b m h => ?_
    have := readC_len f ch p m (h2 b m h)
    simp [lenR]
    exact this
def wordB (f : Nat) (B : Book) (p : List Int) : Str := ((readC f B.chains p "main").2).getD B.dflt
end
set_option hygiene false
local macro_rules | `(tactic| walk_at "ext") => `(tactic| first | (apply Ext.tr; (case b => (first | assumption | (apply L2.Same.ext; assumption))); (case a => walk_at "ext")) | fail)
local macro_rules | `(tactic| walk_at "ext") => `(tactic| first | exact L2.Same.ext (by assumption) | fail)
local macro_rules | `(tactic| walk_at "ext") => `(tactic| first | assumption | fail)
local macro_rules | `(tactic| walk_at "ext") => `(tactic| first | exact Ext.refl _ | fail)
local macro_rules | `(tactic| walk_at "same") => `(tactic| first | (apply L2.Same.tr; (case b => assumption); (case a => walk_at "same")) | fail)
local macro_rules | `(tactic| walk_at "same") => `(tactic| first | assumption | fail)
local macro_rules | `(tactic| walk_at "same") => `(tactic| first | exact Same.refl _ | fail)
local macro_rules | `(tactic| walk_at "dt") => `(tactic| first | (apply Dt.upR; (case h => assumption); (case e => walk_at "ext")) | fail)
local macro_rules | `(tactic| walk_at "dt") => `(tactic| first | exact Dt.non | fail)
local macro_rules | `(tactic| walk_at "dt") => `(tactic| first | exact Dt.bl _ | fail)
local macro_rules | `(tactic| walk_at "dt") => `(tactic| first | exact Dt.str _ | fail)
local macro_rules | `(tactic| walk_at "dt") => `(tactic| first | exact Dt.int _ | fail)
local macro_rules | `(tactic| walk_at "dt") => `(tactic| first | assumption | fail)
local macro_rules | `(tactic| walk_at "dts") => `(tactic| first | (apply DtAll.upR; (case h => assumption); (case e => walk_at "ext")) | fail)
local macro_rules | `(tactic| walk_at "dts") => `(tactic| first | (apply DtAll.mk; (case h => walk_at "dt"); (case r => walk_at "dts")) | fail)
local macro_rules | `(tactic| walk_at "dts") => `(tactic| first | assumption | fail)
local macro_rules | `(tactic| walk_at "dts") => `(tactic| first | exact DtAll.nil | fail)
local macro_rules | `(tactic| walk_at "ow") => `(tactic| first | (apply DiB.up; (case h => assumption); (case e => walk_at "ext")) | fail)
local macro_rules | `(tactic| walk_at "ow") => `(tactic| first | (apply OdP.up; (case h => assumption); (case s => walk_at "same")) | fail)
local macro_rules | `(tactic| walk_at "ow") => `(tactic| first | (apply OdS.up; (case h => assumption); (case s => walk_at "same")) | fail)
local macro_rules | `(tactic| walk_at "ow") => `(tactic| first | (apply Ow.up; (case h => assumption); (case s => walk_at "same")) | fail)
local macro_rules | `(tactic| walk_at "ow") => `(tactic| first | assumption | fail)
local macro_rules | `(tactic| walk_at "w") => `(tactic| first | (with_reducible refine iteF ?_) | fail)
local macro_rules | `(tactic| walk_at "w") => `(tactic| first | (with_reducible refine iteT ?_) | fail)
local macro_rules | `(tactic| walk_at "w") => `(tactic| first | (with_reducible refine iteNF ?_) | fail)
local macro_rules | `(tactic| walk_at "w") => `(tactic| first | (with_reducible refine iteNT ?_) | fail)
local macro_rules | `(tactic| walk_at "w") => `(tactic| first | (with_reducible refine w_isS ?_) | fail)
local macro_rules | `(tactic| walk_at "w") => `(tactic| first | (with_reducible refine w_intx ?_) | fail)
local macro_rules | `(tactic| walk_at "w") => `(tactic| first | (with_reducible refine w_bool ?_) | fail)
local macro_rules | `(tactic| walk_at "w") => `(tactic| first | ((with_reducible show rLenS [V.str _] _ _); apply w_lenS; (case h => exact szN (by omega))) | fail)
local macro_rules | `(tactic| walk_at "w") => `(tactic| first | ((with_reducible show At _ _ _ _); refine At.of fun u_ hu_ => ?_) | fail)
local macro_rules | `(tactic| walk_at "w") => `(tactic| first | ((with_reducible show At _ _ D.non _); refine At.n ?_) | fail)
local macro_rules | `(tactic| walk_at "w") => `(tactic| first | ((with_reducible show At _ _ (D.bl _) _); refine At.b ?_) | fail)
local macro_rules | `(tactic| walk_at "w") => `(tactic| first | ((with_reducible show At _ _ (D.str _) _); refine At.s ?_) | fail)
local macro_rules | `(tactic| walk_at "w") => `(tactic| first | ((with_reducible show At _ _ (D.int _) _); refine At.i ?_) | fail)
local macro_rules | `(tactic| walk_at "w") => `(tactic| first | ((with_reducible show ∀ xs, DtAll _ _ xs [] → gNil xs _ _ _); (intro xs_ r_; refine w_gnil r_ ?_)) | fail)
local macro_rules | `(tactic| walk_at "w") => `(tactic| first | ((with_reducible show ∀ xs, DtAll _ _ xs (_ :: _) → gCons _ _ xs _ _ _); (intro xs_ r_; refine w_gcons r_ ?_)) | fail)
local macro_rules | `(tactic| walk_at "w") => `(tactic| first | ((with_reducible show gTup _ _ _ _ _ _ _); apply w_tup; (case h => walk_at "dt"); (case e => (first | exact atI0 | exact atI1 | exact rfl | exact atI_nat (by assumption)))) | fail)
local macro_rules | `(tactic| walk_at "w") => `(tactic| first | ((with_reducible show rIsi _ [V.str _, V.ty _] _ _); refine isi_str ?_) | fail)
local macro_rules | `(tactic| walk_at "w") => `(tactic| first | ((with_reducible show rIsi _ [V.int _, V.ty _] _ _); refine isi_int ?_) | fail)
local macro_rules | `(tactic| walk_at "w") => `(tactic| first | ((with_reducible show rIxL _ _ (V.int _) _ _); apply w_ixL; (case h => walk_at "dt"); (case e => (first | exact atI0 | exact atI1 | exact rfl | exact atI_nat (by assumption)))) | fail)
local macro_rules | `(tactic| walk_at "w") => `(tactic| first | ((with_reducible show rIxT _ _ (V.int _) _ _); apply w_ixT; (case h => walk_at "dt"); (case e => (first | exact atI0 | exact atI1 | exact rfl | exact atI_nat (by assumption)))) | fail)
local macro_rules | `(tactic| walk_at "w") => `(tactic| first | ((with_reducible show rNotInS _ (V.str _) _ _); refine w_ninS ?_) | fail)
local macro_rules | `(tactic| walk_at "w") => `(tactic| first | ((with_reducible show rInS _ (V.str _) _ _); refine w_inS ?_) | fail)
local macro_rules | `(tactic| walk_at "w") => `(tactic| first | ((with_reducible show rLeS (V.str _) (V.str _) _ _); refine w_leS ?_) | fail)
local macro_rules | `(tactic| walk_at "w") => `(tactic| first | ((with_reducible show rNe (V.str _) (V.str _) _ _); refine w_neS ?_) | fail)
local macro_rules | `(tactic| walk_at "w") => `(tactic| first | ((with_reducible show rNe (V.int _) (V.int _) _ _); refine w_neI ?_) | fail)
local macro_rules | `(tactic| walk_at "w") => `(tactic| first | ((with_reducible show rEq (V.str _) (V.str _) _ _); refine w_eqS ?_) | fail)
local macro_rules | `(tactic| walk_at "w") => `(tactic| first | ((with_reducible show rEq (V.int _) (V.int _) _ _); refine w_eqI ?_) | fail)
local macro_rules | `(tactic| walk_at "w") => `(tactic| first | ((with_reducible show rNotN (V.str _) V.non _ _); refine w_notNs ?_) | fail)
local macro_rules | `(tactic| walk_at "w") => `(tactic| first | ((with_reducible show rNotN (V.ref _) V.non _ _); refine w_notNr ?_) | fail)
local macro_rules | `(tactic| walk_at "w") => `(tactic| first | ((with_reducible show rNotN V.non V.non _ _); refine w_notN0 ?_) | fail)
local macro_rules | `(tactic| walk_at "w") => `(tactic| first | ((with_reducible show rIsN (V.str _) V.non _ _); refine w_isNs ?_) | fail)
local macro_rules | `(tactic| walk_at "w") => `(tactic| first | ((with_reducible show rIsN (V.ref _) V.non _ _); refine w_isNr ?_) | fail)
local macro_rules | `(tactic| walk_at "w") => `(tactic| first | ((with_reducible show rIsN V.non V.non _ _); refine w_isN0 ?_) | fail)
local macro_rules | `(tactic| walk_at "w") => `(tactic| first | ((with_reducible show rIntB [V.bl _] _ _); refine w_intB ?_) | fail)
local macro_rules | `(tactic| walk_at "w") => `(tactic| first | ((with_reducible show rMin2 _ _ _); refine w_min2 ?_) | fail)
local macro_rules | `(tactic| walk_at "w") => `(tactic| first | ((with_reducible show rMax2 _ _ _); refine w_max2 ?_) | fail)
local macro_rules | `(tactic| walk_at "w") => `(tactic| first | ((with_reducible show rI0 _ _ _ _ _); refine w_I0 ?_) | fail)
local macro_rules | `(tactic| walk_at "w") => `(tactic| first | ((with_reducible show RZ.iZipA _ _ _ _ _); refine w_iZipA ?_) | fail)
local macro_rules | `(tactic| walk_at "w") => `(tactic| first | ((with_reducible show iItems _ _ _ _); refine w_iItems ?_) | fail)
local macro_rules | `(tactic| walk_at "w") => `(tactic| first | ((with_reducible show iRng3 _ _ _ _); refine w_iRng3 ?_) | fail)
local macro_rules | `(tactic| walk_at "w") => `(tactic| first | ((with_reducible show iRng1 _ _ _ _); refine w_iRng1 ?_) | fail)
local macro_rules | `(tactic| walk_at "w") => `(tactic| first | ((with_reducible show iStr _ _ _ _); refine w_iStr ?_) | fail)
local macro_rules | `(tactic| walk_at "w") => `(tactic| first | ((with_reducible show iRev _ _ _ _ _); refine w_iRev ?_) | fail)
local macro_rules | `(tactic| walk_at "w") => `(tactic| first | ((with_reducible show iEnumT _ _ _ _ _); refine w_iEnumT ?_) | fail)
local macro_rules | `(tactic| walk_at "w") => `(tactic| first | ((with_reducible show iEnum _ _ _ _ _); refine w_iEnum ?_) | fail)
local macro_rules | `(tactic| walk_at "w") => `(tactic| first | ((with_reducible show iTup _ _ _ _ _); refine w_iTup ?_) | fail)
local macro_rules | `(tactic| walk_at "w") => `(tactic| first | ((with_reducible show iList _ _ _ _ _); refine w_iList ?_) | fail)
local macro_rules | `(tactic| walk_at "w") => `(tactic| first | ((with_reducible show sFld _ _ _ _ _ _ _); refine w_sfld ?_) | fail)
local macro_rules | `(tactic| walk_at "w") => `(tactic| first | ((with_reducible show sDPut _ _ _ _ _ _); refine w_put ?_) | fail)
local macro_rules | `(tactic| walk_at "w") => `(tactic| first | ((with_reducible show tDNotIn _ _ _ _ _); refine w_dnin ?_) | fail)
local macro_rules | `(tactic| walk_at "w") => `(tactic| first | ((with_reducible show tDIn _ _ _ _ _); refine w_din ?_) | fail)
local macro_rules | `(tactic| walk_at "w") => `(tactic| first | ((with_reducible show tDGet2 _ _ _ _ _ _); refine w_dget2 ?_) | fail)
local macro_rules | `(tactic| walk_at "w") => `(tactic| first | ((with_reducible show tDGet1 _ _ _ _ _); refine w_dget1 ?_) | fail)
local macro_rules | `(tactic| walk_at "w") => `(tactic| first | ((with_reducible show tDGet _ _ _ _ _); refine w_dget ?_) | fail)
local macro_rules | `(tactic| walk_at "w") => `(tactic| first | ((with_reducible show tBits _ _ _ _); refine w_bits ?_) | fail)
local macro_rules | `(tactic| walk_at "w") => `(tactic| first | ((with_reducible show tFmt _ _ _ _); refine w_fmt ?_) | fail)
local macro_rules | `(tactic| walk_at "w") => `(tactic| first | ((with_reducible show tJs [] _ _ _ _); refine w_j0 ?_) | fail)
local macro_rules | `(tactic| walk_at "w") => `(tactic| first | ((with_reducible show tJs (_ :: _) _ _ _ _); refine w_js ?_) | fail)
local macro_rules | `(tactic| walk_at "w") => `(tactic| first | ((with_reducible show tJn _ _ _ _); refine w_jn ?_) | fail)
local macro_rules | `(tactic| walk_at "w") => `(tactic| first | ((with_reducible show tClsF _ _ _ _ _ _ _); refine w_clsF ?_) | fail)
local macro_rules | `(tactic| walk_at "w") => `(tactic| first | ((with_reducible show tYes _ _ _); refine w_yes ?_) | fail)
local macro_rules | `(tactic| walk_at "w") => `(tactic| first | ((with_reducible show tM1 _ _ _ _ _ _); refine w_M1 ?_) | fail)
local macro_rules | `(tactic| walk_at "w") => `(tactic| first | ((with_reducible show tPart _ _ _ _); refine w_part ?_) | fail)
local macro_rules | `(tactic| walk_at "w") => `(tactic| first | ((with_reducible show tNoPart _ _ _); refine w_noPart ?_) | fail)
local macro_rules | `(tactic| walk_at "w") => `(tactic| first | ((with_reducible show L2.tSl _ _ _ _ _ _ _); refine w_sl ?_) | fail)
local macro_rules | `(tactic| walk_at "w") => `(tactic| first | ((with_reducible show tLc _ _ _ _ _ _ _ _); refine w_lc ?_) | fail)
local macro_rules | `(tactic| walk_at "w") => `(tactic| first | ((with_reducible show tFor _ _ _ _ _ _); refine w_for ?_) | fail)
local macro_rules | `(tactic| walk_at "w") => `(tactic| first | ((with_reducible show tIfS _ _ _ _ _ _); refine w_if ?_) | fail)
local macro_rules | `(tactic| walk_at "w") => `(tactic| first | ((with_reducible show rU _ (V.int _) _ _); refine w_U ?_) | fail)
local macro_rules | `(tactic| walk_at "w") => `(tactic| first | ((with_reducible show tDrop _ _ _ _); refine w_drop ?_) | fail)
local macro_rules | `(tactic| walk_at "w") => `(tactic| first | ((with_reducible show gSub _ _ _ _ _ _ _); refine w_sub ?_) | fail)
local macro_rules | `(tactic| walk_at "w") => `(tactic| first | ((with_reducible show tRet _ _ _ _); refine w_ret ?_) | fail)
local macro_rules | `(tactic| walk_at "w") => `(tactic| first | ((with_reducible show tNext _ _ _); refine w_next ?_) | fail)
local macro_rules | `(tactic| walk_at "w") => `(tactic| first | ((with_reducible show tBM0 _ _ _ _ _ _ _); refine w_BM0 ?_) | fail)
local macro_rules | `(tactic| walk_at "w") => `(tactic| first | ((with_reducible show tBM _ _ _ _ _ _ _ _); refine w_BM ?_) | fail)
local macro_rules | `(tactic| walk_at "w") => `(tactic| first | ((with_reducible show tChain _ _ _ _ _ _ _ _); refine w_chain ?_) | fail)
local macro_rules | `(tactic| walk_at "w") => `(tactic| first | ((with_reducible show tOrV _ _ _ _ _); refine w_orV ?_) | fail)
local macro_rules | `(tactic| walk_at "w") => `(tactic| first | ((with_reducible show tAndV _ _ _ _ _); refine w_andV ?_) | fail)
local macro_rules | `(tactic| walk_at "w") => `(tactic| first | ((with_reducible show tNotV _ _ _ _); refine w_notV ?_) | fail)
local macro_rules | `(tactic| walk_at "w") => `(tactic| first | ((with_reducible show tOr _ _ _ _ _); refine w_or ?_) | fail)
local macro_rules | `(tactic| walk_at "w") => `(tactic| first | ((with_reducible show tAnd _ _ _ _ _); refine w_and ?_) | fail)
local macro_rules | `(tactic| walk_at "w") => `(tactic| first | ((with_reducible show tNot _ _ _ _); refine w_not ?_) | fail)
local macro_rules | `(tactic| walk_at "w") => `(tactic| first | ((with_reducible show tUn _ _ _ _ _); refine w_un ?_) | fail)
local macro_rules | `(tactic| walk_at "w") => `(tactic| first | ((with_reducible show tFz _ _ _ _); refine w_fz ?_) | fail)
local macro_rules | `(tactic| walk_at "w") => `(tactic| first | ((with_reducible show tLst _ _ _ _); refine w_tLst ?_) | fail)
local macro_rules | `(tactic| walk_at "w") => `(tactic| first | ((with_reducible show tTup _ _ _ _); refine w_tTup ?_) | fail)
local macro_rules | `(tactic| walk_at "w") => `(tactic| first | ((with_reducible show tMake _ _ _ _ _ _ _ _); refine w_make ?_) | fail)
local macro_rules | `(tactic| walk_at "w") => `(tactic| first | ((with_reducible show tMeth _ _ _ _ _ _ _ _ _ _); refine w_meth ?_) | fail)
local macro_rules | `(tactic| walk_at "w") => `(tactic| first | ((with_reducible show tCall _ _ _ _ _ _ _); refine w_call ?_) | fail)
local macro_rules | `(tactic| walk_at "w") => `(tactic| first | ((with_reducible show tB _ _ _ _); refine w_B ?_) | fail)
local macro_rules | `(tactic| walk_at "w") => `(tactic| first | ((with_reducible show tTest _ _ _ _); refine w_test ?_) | fail)
local macro_rules | `(tactic| walk_at "w") => `(tactic| first | ((with_reducible show gName _ _ _ _ _); refine w_name ?_) | fail)
local macro_rules | `(tactic| walk_at "w") => `(tactic| first | ((with_reducible show tNil _ _ _); refine w_nil ?_) | fail)
local macro_rules | `(tactic| walk_at "w") => `(tactic| first | ((with_reducible show tCons _ _ _ _ _); refine w_cons ?_) | fail)
local macro_rules | `(tactic| walk_at "w") => `(tactic| first | ((with_reducible show tCB _ _ _ _ _); refine w_CB ?_) | fail)
local macro_rules | `(tactic| walk_at "w") => `(tactic| first | ((with_reducible show tSeq (tPre _) _ _ _ _); refine w_seqPre ?_) | fail)
local macro_rules | `(tactic| walk_at "w") => `(tactic| first | ((with_reducible show tSeq (sDPut _ _ _) _ _ _ _); refine w_seqP ?_) | fail)
local macro_rules | `(tactic| walk_at "w") => `(tactic| first | ((with_reducible show tSeq (sFld _ _ _ _) _ _ _ _); refine w_seqW ?_) | fail)
local macro_rules | `(tactic| walk_at "w") => `(tactic| first | ((with_reducible show tSeq (tWhile _ _) _ _ _ _); refine w_seqV ?_) | fail)
local macro_rules | `(tactic| walk_at "w") => `(tactic| first | ((with_reducible show tSeq (tFzS (tAsg _ (gName _))) _ _ _ _); refine w_seqZ ?_) | fail)
local macro_rules | `(tactic| walk_at "w") => `(tactic| first | ((with_reducible show tSeq (tSeq _ _) _ _ _ _); refine w_seqS ?_) | fail)
local macro_rules | `(tactic| walk_at "w") => `(tactic| first | ((with_reducible show tSeq tCont _ _ _ _); refine w_seqC ?_) | fail)
local macro_rules | `(tactic| walk_at "w") => `(tactic| first | ((with_reducible show tSeq tNext _ _ _ _); refine w_seqN ?_) | fail)
local macro_rules | `(tactic| walk_at "w") => `(tactic| first | ((with_reducible show tSeq (tFor _ _ _) _ _ _ _); refine w_seqF ?_) | fail)
local macro_rules | `(tactic| walk_at "w") => `(tactic| first | ((with_reducible show tSeq (tRet _) _ _ _ _); refine w_seqR ?_) | fail)
local macro_rules | `(tactic| walk_at "w") => `(tactic| first | ((with_reducible show tSeq (tDrop _) _ _ _ _); refine w_seqD ?_) | fail)
local macro_rules | `(tactic| walk_at "w") => `(tactic| first | ((with_reducible show tSeq (tIfS _ _ _) _ _ _ _); refine w_seqI ?_) | fail)
local macro_rules | `(tactic| walk_at "w") => `(tactic| first | ((with_reducible show tSeq (tAsg _ _) _ _ _ _); refine w_seqA ?_) | fail)
local macro_rules | `(tactic| walk_at "w") => `(tactic| first | ((with_reducible show tFld _ _ _ _ _ _); refine w_fld ?_) | fail)
local macro_rules | `(tactic| walk_at "w") => `(tactic| first | ((with_reducible show tOp _ _ _ _ _ _); refine w_op ?_) | fail)
local macro_rules | `(tactic| walk_at "w") => `(tactic| first | ((with_reducible show tC _ _ _ _); refine w_c ?_) | fail)
local macro_rules | `(tactic| walk_at "w") => `(tactic| first | ((with_reducible show tVar _ _ _ _); apply w_var; (case h => exact rfl)) | fail)
local macro_rules | `(tactic| walk_at "newT") => `(tactic| (apply w_newT (K := K); (case r => walk_at "dts"); (case hz => exact sz (by simp))))
local macro_rules | `(tactic| walk_at "newF") => `(tactic| (apply w_newF (K := K); (case r => walk_at "dts"); (case hz => exact sz (by simp))))
local macro_rules | `(tactic| walk_at "newM") => `(tactic| (apply w_newM; (case hz => exact sz (by simp))))
local macro_rules | `(tactic| walk_at "newO") => `(tactic| (apply w_newO (K := K); (case r => walk_at "dts"); (case hz => simp)))
local macro_rules | `(tactic| walk_at "catA") => `(tactic| (apply catA; (case hx => walk_at "dt"); (case hy => walk_at "dt"); (case hz => (simp; omega))))
local macro_rules | `(tactic| walk_at "yes") => `(tactic| (apply iteD_t; (case h => (first | assumption | omega | (simp; omega)))))
local macro_rules | `(tactic| walk_at "no") => `(tactic| (apply iteD_f; (case h => (first | assumption | omega | (simp; omega)))))
section
open PySem PySem.Spec PyProof.Rows L2
theorem sz {n : Nat} (h : n ≤ 100000) : n ≤ sizeLine := Nat.le_trans h (by decide)
theorem szl {n : Nat} (h : n < 100000) : n < sizeLine := Nat.lt_of_lt_of_le h (by decide)
def eOSt : Option (Int × Int) → D
  | none => .non
  | some s => eSt s
def eOBox : Option Box → D
  | none => .non
  | some b => eBox b
def eInts (l : List Int) : D := .tup (l.map D.int)
theorem max_if (i j : Int) : (if j > i then j else i) = max i j := by omega
theorem min_if (i j : Int) : (if j < i then j else i) = min i j := by omega
section
variable {P : Program} {w : World} {K : PySem.W.Frag} {mg : Str → Option Value} {base : Heap}
def sp_holds (K : PySem.W.Frag) : Sp := Sp2 fun x y H Q => ∃ (s : Int × Int) (n : Int), Dt K H x (eSt s) ∧ y = .int n ∧ Q (.bl (holdsB s n)) H
def sN_holds : List Str := ["stretch", "number"]
theorem sc_holds : FnScope sN_holds ["stretch", "number"] (defScope s_holds) := ⟨rfl, rfl, rfl, by decide +kernel, rfl, by decide +kernel, by decide +kernel⟩

theorem ok_holds (T : Tx K mg) : Fd P w K mg base 1 (He.ga K "holds") ["stretch", "number"] (sp_holds K) := by
  refine mkFd T.d_holds sc_holds (fun _ _ _ _ _ _ us hl => match us, hl with | [_, _], _ => rfl) (fun vs H Q E h => Sp2.len h) (fun cdv A outer s H vs Q E hr h => ?_)
  obtain ⟨x, y, rfl, s, n, hx, rfl, k⟩ := h
  refine ⟨_, (pss_cons (ps_ret (pe_chain op_le op_le (pe_ix ix_tup (pv 0) pe_int (fun _ _ => rfl)) (pv 1) (pe_ix ix_tup (pv 0) pe_int (fun _ _ => rfl))))
      pss_nil), ?_⟩
  try dsimp only [cxOf, Cx.nox, Cx.wish]
  repeat walk_at "w"
  unfold holdsB at k
  refine ite2 (fun h1 => ?_) (fun h1 => ?_)
  · repeat walk_at "w"
    rw [h1, Bool.true_and] at k
    exact k
  · rw [Bool.not_eq_true] at h1
    rw [h1, Bool.false_and] at k
    exact k
def sp_meet (K : PySem.W.Frag) : Sp := Sp2 fun x y H Q => ∃ (s t : Int × Int), Dt K H x (eSt s) ∧ Dt K H y (eSt t) ∧ ∀ v H', Same H H' → Dt K H' v (eOSt (meet s t)) → Q v H'
def sN_meet : List Str := ["one", "other", "low", "high"]
theorem sc_meet : FnScope sN_meet ["one", "other"] (defScope s_meet) := ⟨rfl, rfl, rfl, by decide +kernel, rfl, by decide +kernel, by decide +kernel⟩

theorem ok_meet (T : Tx K mg) : Fd P w K mg base 1 (He.ga K "meet") ["one", "other"] (sp_meet K) := by
  refine mkFd T.d_meet sc_meet (fun _ _ _ _ _ _ us hl => match us, hl with | [_, _], _ => rfl) (fun vs H Q E h => Sp2.len h) (fun cdv A outer s H vs Q E hr h => ?_)
  obtain ⟨x, y, rfl, s, t, hx, hy, k⟩ := h
  refine ⟨_, (pss_cons (ps_set (i := 2) sc_meet.nd rfl (.inl rfl) (pe_callB (cl_max2 rfl) (by rfl) T.b_max (by decide +kernel) (pa_cons (pe_ix ix_tup (pv 0) pe_int (fun _ _ => rfl)) (pa_cons (pe_ix ix_tup (pv 1) pe_int (fun _ _ => rfl)) pa_nil))))
      (pss_cons (ps_set (i := 3) sc_meet.nd rfl (.inl rfl) (pe_callB (cl_min2 rfl) (by rfl) T.b_min (by decide +kernel) (pa_cons (pe_ix ix_tup (pv 0) pe_int (fun _ _ => rfl)) (pa_cons (pe_ix ix_tup (pv 1) pe_int (fun _ _ => rfl)) pa_nil))))
      (pss_cons (ps_if (pt_cmpR op_gt (pv 2) (pv 3) (nomark _)) (pss_cons (ps_ret pe_non)
      pss_nil) pss_nil)
      (pss_cons (ps_ret (pe_tup (pa_cons (pv 2) (pa_cons (pv 3) pa_nil))))
      pss_nil)))), ?_⟩
  try dsimp only [cxOf, Cx.nox, Cx.wish]
  repeat walk_at "w"
  rw [max_if, min_if]
  refine ite2 (fun h1 => ?_) (fun h1 => ?_)
  · have h1 := of_decide_eq_true h1
    repeat walk_at "w"
    refine k _ _ (Same.refl _) ?_
    unfold meet
    rw [if_pos h1]
    exact .non
  · have h1 : ¬ _ := fun z => h1 (decide_eq_true z)
    repeat walk_at "w"
    walk_at "newT"
    intro v H' s' hv
    refine k _ _ s' ?_
    unfold meet
    rw [if_neg h1]
    exact hv
def sp_has (K : PySem.W.Frag) : Sp := Sp2 fun x y H Q => ∃ (b : Box) (p : List Int), b.length = p.length ∧ Dt K H x (eBox b) ∧ Dt K H y (eInts p) ∧ ∀ H', Same H H' → Q (.bl (hasB b p)) H'
def sN_has : List Str := ["box", "point", "stretch", "number"]
theorem sc_has : FnScope sN_has ["box", "point"] (defScope s_has) := ⟨rfl, rfl, rfl, by decide +kernel, rfl, by decide +kernel, by decide +kernel⟩

theorem hasB_drop {b : Box} {p : List Int} {i : Nat} {s : Int × Int} {n : Int} (h1 : b[i]? = some s) (h2 : p[i]? = some n) : hasB (b.drop i) (p.drop i) = (holdsB s n && hasB (b.drop (i + 1)) (p.drop (i + 1))) := by
  rw [List.drop_eq_getElem_cons (List.getElem?_eq_some_iff.mp h1).1, List.drop_eq_getElem_cons (List.getElem?_eq_some_iff.mp h2).1]
  rw [(List.getElem?_eq_some_iff.mp h1).2, (List.getElem?_eq_some_iff.mp h2).2]
  rfl
theorem ok_has (T : Tx K mg) : Fd P w K mg base 2 (He.ga K "has") ["box", "point"] (sp_has K) := by
  have F_holds := ok_holds (P := P) (w := w) (base := base) T
  refine mkFd T.d_has sc_has (fun _ _ _ _ _ _ us hl => match us, hl with | [_, _], _ => rfl) (fun vs H Q E h => Sp2.len h) (fun cdv A outer s H vs Q E hr h => ?_)
  obtain ⟨x, y, rfl, b, p, hl, hx, hy, k⟩ := h
  refine ⟨_, (pss_cons (ps_for PassesOwn.never rfl (RZ.pi_zipA (by rfl) T.b_zip (pa_cons (pv 0) (pa_cons (pv 1) pa_nil))) (pg_tup rfl (pgs_cons (pg_name (i := 2) sc_has.nd rfl (.inl rfl)) (pgs_cons (pg_name (i := 3) sc_has.nd rfl (.inl rfl)) pgs_nil))) (pss_cons (ps_if (pt_not (pt_val (pe_f F_holds (hr.mono (by omega)) (by rfl) T.g_holds (pa_cons (pv 2) (pa_cons (pv 3) pa_nil))))) (pss_cons (ps_ret pe_bl)
      pss_nil) pss_nil)
      pss_nil))
      (pss_cons (ps_ret pe_bl)
      pss_nil)), ?_⟩
  try dsimp only [cxOf, Cx.nox, Cx.wish]
  repeat walk_at "w"
  refine i_zip hx hy (by walk_at "ext") (by walk_at "ext") (by simp [hl]) fun J it => ?_
  refine f_for it (fun i σ H' => ∃ u v, σ = [some x, some y, u, v] ∧ Same H H' ∧ hasB (b.drop i) (p.drop i) = hasB b p) ⟨none, none, rfl, Same.refl _, rfl⟩ (fun i σ H' ⟨_, _, _, s, _⟩ => ⟨s.ext, s.ext⟩) ?_ ?_
  · rintro i d u σ H' H2 e1 ⟨_, _, rfl, s1, e3⟩ s2 hu
    obtain ⟨d1, d2, q1, q2, rfl⟩ := zipD_get e1
    rw [List.getElem?_map, Option.map_eq_some_iff] at q1 q2
    obtain ⟨t, e0, rfl⟩ := q1
    obtain ⟨n, e2, rfl⟩ := q2
    have e4 := hasB_drop e0 e2
    repeat walk_at "w"
    refine Sp2.mk ⟨t, n, (by walk_at "dt"), rfl, ?_⟩
    repeat walk_at "w"
    cases hh : holdsB t n with
    | true =>
      repeat walk_at "w"
      exact ⟨_, _, rfl, (by walk_at "same"), by rw [← e3, e4, hh, Bool.true_and]⟩
    | false =>
      repeat walk_at "w"
      have k2 := k H2 (by walk_at "same")
      rw [← e3, e4, hh, Bool.false_and] at k2
      exact k2
  · rintro σ H' ⟨_, _, rfl, s1, e3⟩
    repeat walk_at "w"
    have k2 := k H' s1
    rw [← e3, List.drop_eq_nil_of_le (by rw [zipD_len (by simp [hl])]; simp)] at k2
    exact k2
def sp_common (K : PySem.W.Frag) : Sp := Sp2 fun x y H Q => ∃ (b c : Box), b.length = c.length ∧ b.length ≤ 1000 ∧ Dt K H x (eBox b) ∧ Dt K H y (eBox c) ∧ ∀ v H', Same H H' → Dt K H' v (eOBox (common b c)) → Q v H'
def sN_common : List Str := ["box", "other", "both", "mine", "its", "stretch"]
theorem sc_common : FnScope sN_common ["box", "other"] (defScope s_common) := ⟨rfl, rfl, rfl, by decide +kernel, rfl, by decide +kernel, by decide +kernel⟩

theorem common_drop {b c : Box} {i : Nat} {s t : Int × Int} (h1 : b[i]? = some s) (h2 : c[i]? = some t) : common (b.drop i) (c.drop i) = match meet s t with
    | none => none
    | some m => (common (b.drop (i + 1)) (c.drop (i + 1))).map (m :: ·) := by
  rw [List.drop_eq_getElem_cons (List.getElem?_eq_some_iff.mp h1).1, List.drop_eq_getElem_cons (List.getElem?_eq_some_iff.mp h2).1]
  rw [(List.getElem?_eq_some_iff.mp h1).2, (List.getElem?_eq_some_iff.mp h2).2]
  rfl
theorem ok_common (T : Tx K mg) : Fd P w K mg base 2 (He.ga K "common") ["box", "other"] (sp_common K) := by
  have F_meet := ok_meet (P := P) (w := w) (base := base) T
  refine mkFd T.d_common sc_common (fun _ _ _ _ _ _ us hl => match us, hl with | [_, _], _ => rfl) (fun vs H Q E h => Sp2.len h) (fun cdv A outer s H vs Q E hr h => ?_)
  obtain ⟨x, y, rfl, b, c, hl, hz, hx, hy, k⟩ := h
  refine ⟨_, (pss_cons (ps_set (i := 2) sc_common.nd rfl (.inl rfl) (pe_lst pa_nil))
      (pss_cons (ps_for PassesOwn.never rfl (RZ.pi_zipA (by rfl) T.b_zip (pa_cons (pv 0) (pa_cons (pv 1) pa_nil))) (pg_tup rfl (pgs_cons (pg_name (i := 3) sc_common.nd rfl (.inl rfl)) (pgs_cons (pg_name (i := 4) sc_common.nd rfl (.inl rfl)) pgs_nil))) (pss_cons (ps_set (i := 5) sc_common.nd rfl (.inl rfl) (pe_f F_meet (hr.mono (by omega)) (by rfl) T.g_meet (pa_cons (pv 3) (pa_cons (pv 4) pa_nil))))
      (pss_cons (ps_if (pt_cmpR op_isN1 (pv 5) pe_non (nomark _)) (pss_cons (ps_ret pe_non)
      pss_nil) pss_nil)
      (pss_cons (ps_expr (pe_bm PySem.F.plainAttrs_list PySem.F.slot_list_append PySem.F.type_list_append mt_append (pv 2) (pa_cons (pv 5) pa_nil)))
      pss_nil))))
      (pss_cons (ps_ret (pe_callTy cl_tupOf (by rfl) T.b_tuple (by decide +kernel) (pa_cons (pv 2) pa_nil)))
      pss_nil))), ?_⟩
  try dsimp only [cxOf, Cx.nox, Cx.wish]
  repeat walk_at "w"
  walk_at "newO"
  intro p H1 np s1 o1
  repeat walk_at "w"
  refine i_zip hx hy (by walk_at "ext") (by walk_at "ext") (by simp [hl]) fun J it => ?_
  refine f_for it (fun i σ H' => ∃ u v z acc, σ = [some x, some y, some (.ref p), u, v, z] ∧ Same H H' ∧ Ow K H' p (acc.map eSt) ∧ acc.length ≤ i ∧ i ≤ b.length ∧ common b c = (common (b.drop i) (c.drop i)).map (acc ++ ·)) ⟨none, none, none, [], rfl, s1, o1, by simp, by simp, by simp⟩ (fun i σ H' ⟨_, _, _, _, _, s, _⟩ => ⟨s.ext, s.ext⟩) ?_ ?_
  · rintro i d u σ H' H2 e1 ⟨_, _, _, acc, rfl, s3, o3, hi, hle, e3⟩ s4 hu
    obtain ⟨d1, d2, q1, q2, rfl⟩ := zipD_get e1
    rw [List.getElem?_map, Option.map_eq_some_iff] at q1 q2
    obtain ⟨s, e0, rfl⟩ := q1
    obtain ⟨t, e2, rfl⟩ := q2
    have e4 := common_drop e0 e2
    have hlt := (List.getElem?_eq_some_iff.mp e0).1
    repeat walk_at "w"
    refine Sp2.mk ⟨s, t, (by walk_at "dt"), (by walk_at "dt"), fun z H3 s5 hz3 => ?_⟩
    repeat walk_at "w"
    cases hm : meet s t with
    | none =>
      rw [hm] at hz3 e4
      cases hz3
      repeat walk_at "w"
      refine k _ _ (by walk_at "same") ?_
      rw [e3, e4]
      exact .non
    | some m =>
      rw [hm] at hz3 e4
      obtain ⟨a, vs, rfl, z4, z5⟩ := hz3.tupI
      repeat walk_at "w"
      refine w_tyO (o3.up (by walk_at "same")) ?_
      repeat walk_at "w"
      refine w_appS (o3.up (by walk_at "same")) (by walk_at "dt") (by simp; omega) (Hb := H) (by walk_at "same") np fun H4 b4 x4 s6 o4 => ?_
      repeat walk_at "w"
      refine ⟨_, _, _, acc ++ [m], rfl, s6, by rw [List.map_append]; exact o4, by simp; omega, hlt, ?_⟩
      rw [e3, e4]
      cases common (b.drop (i + 1)) (c.drop (i + 1)) <;> simp
  · rintro σ H' ⟨_, _, _, acc, rfl, s3, o3, hi, hle, e3⟩
    repeat walk_at "w"
    refine w_tupO o3 fun u H2 s4 hu => ?_
    repeat walk_at "w"
    refine k _ _ (by walk_at "same") ?_
    rw [e3, List.drop_eq_nil_of_le (by rw [zipD_len (by simp [hl])]; simp)]
    simp [common]
    exact hu
end
end
section
open PySem PySem.Spec PyProof.Rows L2
section
variable {P : Program} {w : World} {K : PySem.W.Frag} {mg : Str → Option Value} {base : Heap}
def sp_corner (K : PySem.W.Frag) : Sp := Sp1 fun x H Q => ∃ (b : Box), b.length ≤ 1000 ∧ Dt K H x (eBox b) ∧ ∀ v H', Same H H' → Dt K H' v (eInts (corner b)) → Q v H'
def sN_corner : List Str := ["box", "stretch"]
theorem sc_corner : FnScope sN_corner ["box"] (defScope s_corner) := ⟨rfl, rfl, rfl, by decide +kernel, rfl, by decide +kernel, by decide +kernel⟩

theorem ok_corner (T : Tx K mg) : Fd P w K mg base 1 (He.ga K "corner") ["box"] (sp_corner K) := by
  refine mkFd T.d_corner sc_corner (fun _ _ _ _ _ _ us hl => match us, hl with | [_], _ => rfl) (fun vs H Q E h => Sp1.len h) (fun cdv A outer s H vs Q E hr h => ?_)
  obtain ⟨x, rfl, b, hz, hx, k⟩ := h
  refine ⟨_, (pss_cons (ps_ret (pe_callTy cl_tupOf (by rfl) T.b_tuple (by decide +kernel) (pa_cons (pe_fz (pe_lc (own := [("stretch", 1)]) rfl sc_corner.nd (pi_tup (pv 0)) (blkOk_by (own := [("stretch", 1)]) (N := sN_corner) (sc := defScope s_corner) (by decide +kernel)) (fun _ _ _ _ _ => (pg_name (i := 1) sc_corner.nd rfl (.inl rfl))) (fun _ _ _ _ _ => pts_nil) (fun _ _ _ _ _ => (pe_ix (show IxR _ (rIxT K) from ix_tup) (pv 1) pe_int (fun _ _ => rfl))))) pa_nil)))
      pss_nil), ?_⟩
  try dsimp only [cxOf, Cx.nox, Cx.wish]
  repeat walk_at "w"
  refine i_tup hx (by walk_at "ext") fun J it => ?_
  refine f_lc it (fun s => some (.int s.1)) (by omega) (fun H' s => s.ext) (fun i s u H' Y N e s1 hu hY _ => ?_) fun p H' xs np s1 hp r => ?_
  · repeat walk_at "w"
    refine ⟨rfl, ?_⟩
    repeat walk_at "w"
    exact hY _ _ _ rfl (Same.refl _) (.int _)
  · refine lcF np s1 hp r fun u H2 s2 hu => ?_
    repeat walk_at "w"
    refine w_tupOf hu fun u2 H3 s3 hu2 => ?_
    repeat walk_at "w"
    refine k _ _ (by walk_at "same") ?_
    have e : b.filterMap (fun s => some (D.int s.1)) = (corner b).map D.int := by simp [corner]
    rw [e] at hu2
    exact hu2
def sp_rests (K : PySem.W.Frag) : Sp := Sp2 fun x y H Q => ∃ (b c : Box), b.length = c.length ∧ b.length ≤ 1000 ∧ Dt K H x (eBox b) ∧ Dt K H y (eBox c) ∧ ∀ v H', Same H H' → Dt K H' v (.lst ((rests b c).map eBox)) → Q v H'
def sN_rests : List Str := ["box", "other", "both", "told", "k", "ahead", "behind"]
theorem sc_rests : FnScope sN_rests ["box", "other"] (defScope s_rests) := ⟨rfl, rfl, rfl, by decide +kernel, rfl, by decide +kernel, by decide +kernel⟩

theorem restsGo_len : ∀ (a b c : Box), (restsGo a b c).length ≤ 2 * b.length
  | _, [], c => by cases c <;> simp [restsGo]
  | _, _ :: _, [] => by simp [restsGo]
  | a, s :: b, m :: c => by
    have := restsGo_len (a ++ [m]) b c
    unfold restsGo
    simp only [List.length_append, List.length_cons]
    split <;> split <;> simp <;> omega
theorem restsGo_drop {b m : Box} {i : Nat} {s t : Int × Int} (h1 : b[i]? = some s) (h2 : m[i]? = some t) : restsGo (m.take i) (b.drop i) (m.drop i) = (if s.1 < t.1 then [m.take i ++ ([(s.1, t.1 - 1)] ++ b.drop (i + 1))] else []) ++ ((if t.2 < s.2 then [m.take i ++ ([(t.2 + 1, s.2)] ++ b.drop (i + 1))] else []) ++ restsGo (m.take (i + 1)) (b.drop (i + 1)) (m.drop (i + 1))) := by
  rw [List.drop_eq_getElem_cons (List.getElem?_eq_some_iff.mp h1).1, List.drop_eq_getElem_cons (List.getElem?_eq_some_iff.mp h2).1]
  rw [(List.getElem?_eq_some_iff.mp h1).2, (List.getElem?_eq_some_iff.mp h2).2]
  have e : m.take (i + 1) = m.take i ++ [t] := by
    rw [List.take_succ, h2]
    rfl
  rw [e]
  rfl
theorem ok_rests (T : Tx K mg) : Fd P w K mg base 3 (He.ga K "rests") ["box", "other"] (sp_rests K) := by
  have F_common := ok_common (P := P) (w := w) (base := base) T
  refine mkFd T.d_rests sc_rests (fun _ _ _ _ _ _ us hl => match us, hl with | [_, _], _ => rfl) (fun vs H Q E h => Sp2.len h) (fun cdv A outer s H vs Q E hr h => ?_)
  obtain ⟨x, y, rfl, b, c, hl, hz, hx, hy, k⟩ := h
  refine ⟨_, (pss_cons (ps_set (i := 2) sc_rests.nd rfl (.inl rfl) (pe_f F_common (hr.mono (by omega)) (by rfl) T.g_common (pa_cons (pv 0) (pa_cons (pv 1) pa_nil))))
      (pss_cons (ps_if (pt_cmpR op_isN1 (pv 2) pe_non (nomark _)) (pss_cons (ps_ret (pe_fz (pe_lst (pa_cons (pv 0) pa_nil))))
      pss_nil) pss_nil)
      (pss_cons (ps_set (i := 3) sc_rests.nd rfl (.inl rfl) (pe_lst pa_nil))
      (pss_cons (ps_for PassesOwn.never rfl (pi_range1 (by rfl) T.b_range (pa_cons (pe_callB cl_lenQ (by rfl) T.b_len PySem.boot_len (pa_cons (pv 0) pa_nil)) pa_nil)) (pg_name (i := 4) sc_rests.nd rfl (.inl rfl)) (pss_cons (ps_set (i := 5) sc_rests.nd rfl (.inl rfl) (pe_slice sl_tupA (pv 2) po_none (po_some (pv 4))))
      (pss_cons (ps_set (i := 6) sc_rests.nd rfl (.inl rfl) (pe_slice sl_tupA (pv 0) (po_some (pe_op op_add (pv 4) pe_int)) po_none))
      (pss_cons (ps_if (pt_cmpR op_lt (pe_ix ix_tup (pe_ix ix_tup (pv 0) (pv 4) (fun _ _ => rfl)) pe_int (fun _ _ => rfl)) (pe_ix ix_tup (pe_ix ix_tup (pv 2) (pv 4) (fun _ _ => rfl)) pe_int (fun _ _ => rfl)) (nomark _)) (pss_cons (ps_expr (pe_bm PySem.F.plainAttrs_list PySem.F.slot_list_append PySem.F.type_list_append mt_append (pv 3) (pa_cons (pe_op op_catA (pe_op op_catA (pv 5) (pe_tup (pa_cons (pe_tup (pa_cons (pe_ix ix_tup (pe_ix ix_tup (pv 0) (pv 4) (fun _ _ => rfl)) pe_int (fun _ _ => rfl)) (pa_cons (pe_op op_sub (pe_ix ix_tup (pe_ix ix_tup (pv 2) (pv 4) (fun _ _ => rfl)) pe_int (fun _ _ => rfl)) pe_int) pa_nil))) pa_nil))) (pv 6)) pa_nil)))
      pss_nil) pss_nil)
      (pss_cons (ps_if (pt_cmpR op_lt (pe_ix ix_tup (pe_ix ix_tup (pv 2) (pv 4) (fun _ _ => rfl)) pe_int (fun _ _ => rfl)) (pe_ix ix_tup (pe_ix ix_tup (pv 0) (pv 4) (fun _ _ => rfl)) pe_int (fun _ _ => rfl)) (nomark _)) (pss_cons (ps_expr (pe_bm PySem.F.plainAttrs_list PySem.F.slot_list_append PySem.F.type_list_append mt_append (pv 3) (pa_cons (pe_op op_catA (pe_op op_catA (pv 5) (pe_tup (pa_cons (pe_tup (pa_cons (pe_op op_add (pe_ix ix_tup (pe_ix ix_tup (pv 2) (pv 4) (fun _ _ => rfl)) pe_int (fun _ _ => rfl)) pe_int) (pa_cons (pe_ix ix_tup (pe_ix ix_tup (pv 0) (pv 4) (fun _ _ => rfl)) pe_int (fun _ _ => rfl)) pa_nil))) pa_nil))) (pv 6)) pa_nil)))
      pss_nil) pss_nil)
      pss_nil)))))
      (pss_cons (ps_ret (pe_fz (pv 3)))
      pss_nil))))), ?_⟩
  try dsimp only [cxOf, Cx.nox, Cx.wish]
  repeat walk_at "w"
  refine Sp2.mk ⟨b, c, hl, hz, (by walk_at "dt"), (by walk_at "dt"), fun z H1 s1 hz1 => ?_⟩
  repeat walk_at "w"
  cases hc : common b c with
  | none =>
    rw [hc] at hz1
    cases hz1
    repeat walk_at "w"
    walk_at "newF"
    intro u H2 s2 hu
    refine k _ _ (by walk_at "same") ?_
    unfold rests
    rw [hc]
    exact hu
  | some m =>
    rw [hc] at hz1
    obtain ⟨a, vs, rfl, z4, z5⟩ := Dt.tupI hz1
    have hml := common_len hl hc
    have hz1 : Dt K H1 (.ref a) (eBox m) := hz1
    repeat walk_at "w"
    walk_at "newO"
    intro p H2 np s2 o2
    repeat walk_at "w"
    refine w_lenT (ds := b.map eSt) (by walk_at "dt") ?_
    repeat walk_at "w"
    refine i_rng (K := K) b.length (by simp) (by omega) fun J it => ?_
    refine f_for it (fun i σ H' => ∃ u v w acc, σ = [some x, some y, some (.ref a), some (.ref p), u, v, w] ∧ Same H1 H' ∧ Ow K H' p (acc.map eBox) ∧ acc.length ≤ 2 * i ∧ restsGo [] b m = acc ++ restsGo (m.take i) (b.drop i) (m.drop i)) ⟨none, none, none, [], rfl, s2, o2, by simp, by simp⟩ (fun i σ H' _ => trivial) ?_ ?_
    · rintro i d u σ H' H3 e1 ⟨_, _, _, acc, rfl, s3, o3, hi, e3⟩ s4 hu
      obtain ⟨hi2, rfl⟩ := numD_get e1
      cases hu
      have q1 : b[i]? = some b[i] := by simp [hi2]
      have q2 : m[i]? = some (m[i]'(by omega)) := by simp [hml, hi2]
      have q3 : (b.map eSt)[i]? = some (eSt b[i]) := by rw [List.getElem?_map, q1]; rfl
      have q4 : (m.map eSt)[i]? = some (eSt (m[i]'(by omega))) := by rw [List.getElem?_map, q2]; rfl
      have e4 := restsGo_drop q1 q2
      generalize b[i] = s at *
      generalize m[i]'(by omega) = t at *
      rw [e4] at e3
      repeat walk_at "w"
      refine sl_T (H := H3) (ds := m.map eSt) (by walk_at "dt") fun w1 H4 s5 hw1 => ?_
      rw [cutL_to] at hw1
      repeat walk_at "w"
      refine sl_T (H := H4) (ds := b.map eSt) (by walk_at "dt") fun w2 H5 s6 hw2 => ?_
      rw [show ((i : Int) + 1) = ((i + 1 : Nat) : Int) by omega, cutL_from] at hw2
      repeat walk_at "w"
      have o5 : Ow K H5 p (acc.map eBox) := (by walk_at "ow")
      generalize eN : tSeq (tIfS _ _ _) tNext _ = NX
      have key : ∀ acc1 H6, Same H1 H6 → Ext H5 H6 → Ow K H6 p (acc1.map eBox) → acc1.length ≤ 2 * i + 1 → restsGo [] b m = acc1 ++ ((if t.snd < s.snd then [List.take i m ++ ([(t.snd + 1, s.snd)] ++ List.drop (i + 1) b)] else []) ++ restsGo (List.take (i + 1) m) (List.drop (i + 1) b) (List.drop (i + 1) m)) →
          NX [some x, some y, some (.ref a), some (.ref p), some (.int i), some w1, some w2] H6 := by
        intro acc1 H6 s7 x7 o7 hl7 e7
        rw [← eN]
        repeat walk_at "w"
        refine ite2 (fun h2 => ?_) (fun h2 => ?_)
        · have h2 := of_decide_eq_true h2
          rw [if_pos h2] at e7
          repeat walk_at "w"
          refine w_tyO o7 ?_
          repeat walk_at "w"
          walk_at "newT"
          intro u1 H7 s8 hu1
          repeat walk_at "w"
          walk_at "newT"
          intro u2 H8 s9 hu2
          repeat walk_at "w"
          walk_at "catA"
          intro u3 H9 s10 hu3
          repeat walk_at "w"
          walk_at "catA"
          intro u4 H10 s11 hu4
          repeat walk_at "w"
          refine w_appS (ds := acc1.map eBox) (d := eBox (List.take i m ++ ([(t.snd + 1, s.snd)] ++ List.drop (i + 1) b))) (by walk_at "ow") (by simpa [eBox] using hu4) (by simp; omega) (Hb := H1) (by walk_at "same") np fun H11 b4 x4 s12 o12 => ?_
          repeat walk_at "w"
          refine ⟨_, _, _, acc1 ++ [_], rfl, s12, by rw [List.map_append]; exact o12, by simp; omega, ?_⟩
          rw [e7]
          simp
        · have h2 : ¬ t.2 < s.2 := fun z => h2 (decide_eq_true z)
          rw [if_neg h2, List.nil_append] at e7
          repeat walk_at "w"
          exact ⟨_, _, _, acc1, rfl, s7, o7, by omega, e7⟩
      refine ite2 (fun h2 => ?_) (fun h2 => ?_)
      · have h2 := of_decide_eq_true h2
        rw [if_pos h2] at e3
        repeat walk_at "w"
        refine w_tyO o5 ?_
        repeat walk_at "w"
        walk_at "newT"
        intro u1 H7 s8 hu1
        repeat walk_at "w"
        walk_at "newT"
        intro u2 H8 s9 hu2
        repeat walk_at "w"
        walk_at "catA"
        intro u3 H9 s10 hu3
        repeat walk_at "w"
        walk_at "catA"
        intro u4 H10 s11 hu4
        repeat walk_at "w"
        refine w_appS (ds := acc.map eBox) (d := eBox (List.take i m ++ ([(s.1, t.1 - 1)] ++ List.drop (i + 1) b))) (by walk_at "ow") (by simpa [eBox] using hu4) (by simp; omega) (Hb := H1) (by walk_at "same") np fun H11 b4 x4 s12 o12 => ?_
        repeat walk_at "w"
        refine key (acc ++ [_]) H11 s12 (by walk_at "ext") (by rw [List.map_append]; exact o12) (by simp; omega) ?_
        rw [e3]
        simp
      · have h2 : ¬ s.1 < t.1 := fun z => h2 (decide_eq_true z)
        rw [if_neg h2, List.nil_append] at e3
        repeat walk_at "w"
        exact key acc H5 (by walk_at "same") (Ext.refl _) o5 (by omega) e3
    · rintro σ H' ⟨_, _, _, acc, rfl, s3, o3, hi, e3⟩
      rw [numD_len, List.drop_eq_nil_of_le (Nat.le_refl _)] at e3
      repeat walk_at "w"
      refine w_outS o3 s3 np fun H3 s4 hr => ?_
      refine k _ _ (by walk_at "same") ?_
      unfold rests
      rw [hc]
      simp only []
      rw [e3]
      simpa [restsGo] using hr
theorem dt_HIGHEST (T : Tx K mg) {H : Hp} : Dt K H (.ref (He.ga K "HIGHEST")) (eInts [3, 255, 4294967295, 65535, 4294967295, 65535]) :=
  .tup (He.tupB_ok T.x_HIGHEST H) (DtAll.ofInts [3, 255, 4294967295, 65535, 4294967295, 65535])
def sp_every (K : PySem.W.Frag) : Sp := Sp0 fun H Q => ∀ v H', Same H H' → Dt K H' v (eBox every) → Q v H'
def sN_every : List Str := ["high"]
theorem sc_every : FnScope sN_every [] (defScope s_every) := ⟨rfl, rfl, rfl, by decide +kernel, rfl, by decide +kernel, by decide +kernel⟩

theorem ok_every (T : Tx K mg) : Fd P w K mg base 1 (He.ga K "every") [] (sp_every K) := by
  refine mkFd T.d_every sc_every (fun _ _ _ _ _ _ us hl => match us, hl with | [], _ => rfl) (fun vs H Q E h => Sp0.len h) (fun cdv A outer s H vs Q E hr h => ?_)
  obtain ⟨rfl, k⟩ := h
  refine ⟨_, (pss_cons (ps_ret (pe_callTy cl_tupOf (by rfl) T.b_tuple (by decide +kernel) (pa_cons (pe_fz (pe_lc (own := [("high", 0)]) rfl sc_every.nd (pi_tup (pe_glob (v := .ref _) (by rfl) T.g_HIGHEST rfl)) (blkOk_by (own := [("high", 0)]) (N := sN_every) (sc := defScope s_every) (by decide +kernel)) (fun _ _ _ _ _ => (pg_name (i := 0) sc_every.nd rfl (.inl rfl))) (fun _ _ _ _ _ => pts_nil) (fun _ _ _ _ _ => (pe_tup (pa_cons pe_int (pa_cons (pv 0) pa_nil)))))) pa_nil)))
      pss_nil), ?_⟩
  try dsimp only [cxOf, Cx.nox, Cx.wish]
  repeat walk_at "w"
  refine i_tup (dt_HIGHEST T (H := H)) (Ext.refl _) fun J it => ?_
  refine f_lc it (fun n => some (eSt (0, n))) (by simp) (fun H' s => s.ext) (fun i s u H' Y N e s1 hu hY _ => ?_) fun p H' xs np s1 hp r => ?_
  · cases hu
    repeat walk_at "w"
    refine ⟨rfl, ?_⟩
    repeat walk_at "w"
    walk_at "newT"
    intro u2 H2 s2 hu2
    exact hY _ _ _ rfl s2 hu2
  · refine lcF np s1 hp r fun u H2 s2 hu => ?_
    repeat walk_at "w"
    refine w_tupOf hu fun u2 H3 s3 hu2 => ?_
    repeat walk_at "w"
    exact k _ _ (by walk_at "same") hu2
end
end
section
open PySem PySem.Spec PyProof.Rows L2
/-! ### looked -/
theorem snoc_cases {α : Type} (l : List α) : l = [] ∨ ∃ st t, l = st ++ [t] := by
  rcases List.eq_nil_or_concat l with h | ⟨st, t, h⟩
  · exact .inl h
  · exact .inr ⟨st, t, by rw [h, List.concat_eq_append]⟩
theorem restsGo_dim : ∀ {a b c r : Box}, b.length = c.length → r ∈ restsGo a b c → r.length = a.length + b.length
  | _, [], c, r, _, h => by cases c <;> simp [restsGo] at h
  | _, _ :: _, [], r, e, h => by simp at e
  | a, s :: b, m :: c, r, e, h => by
    unfold restsGo at h
    simp only [List.mem_append] at h
    rcases h with h | h | h
    · split at h <;> simp at h
      subst h
      simp
    · split at h <;> simp at h
      subst h
      simp
    · rw [restsGo_dim (by simpa using e) h]
      simp
      omega
theorem rests_dim {b c r : Box} (e : b.length = c.length) (h : r ∈ rests b c) : r.length = b.length := by
  unfold rests at h
  split at h
  · simp at h
    rw [h]
  · rename_i m hm
    have := restsGo_dim (by rw [common_len e hm]) h
    simpa using this
theorem rests_len {b c : Box} (h : b.length = 6) : (rests b c).length ≤ 12 := by
  unfold rests
  split
  · simp
  · rename_i m hm
    have := restsGo_len [] b m
    omega
theorem look_pos (rows : List Row) (dflt : Str) (here : Box) (g : Go) (way : Way) : 1 ≤ (look rows dflt here g way).length := by
  induction here, g, way using look.induct rows with
  | case1 here way w => unfold look; simp
  | case2 here way n h ih1 ih2 =>
    unfold look
    simp only [h, dite_true]
    cases hc : common here rows[n].box with
    | none =>
      have e : rests here rows[n].box = [here] := by
        unfold rests
        rw [hc]
      rw [e]
      have := ih2 here
      simp
      omega
    | some both =>
      have := ih1 both
      simp
      omega
  | case3 here way n h => unfold look; simp [h]
theorem cost_pos (rows : List Row) (here : Box) (g : Go) : 1 ≤ cost rows here g := by
  unfold cost
  split
  · simp
  · split <;> omega
def eGo : Go → D
  | .row n => .int (n : Nat)
  | .word w => .str w
abbrev eWy (p : Nat × Bool) : D := .tup [.int (p.1 : Nat), .bl p.2]
abbrev eWay (w : Way) : D := .lst (w.map eWy)
abbrev eRw (r : Row) : D := .tup [.str r.name, .int (r.idx : Nat), eBox r.box, eGo r.yes, .int (r.no : Nat)]
abbrev eLeaf (l : Leaf) : D := .tup [eBox l.box, eWay l.way, .str l.word]
abbrev Td := Box × Go × Way
abbrev eTd (t : Td) : D := .tup [eBox t.1, eGo t.2.1, eWay t.2.2]
def lvs (rows : List Row) (dflt : Str) (t : Td) : List Leaf := look rows dflt t.1 t.2.1 t.2.2
def TdOk (rows : List Row) (t : Td) : Prop := t.1.length = 6 ∧ ∀ n, t.2.1 = .row n → n ≤ rows.length ∧ t.2.2.length ≤ n
theorem todo_len (rows : List Row) (dflt : Str) : ∀ l : List Td, l.length ≤ (l.flatMap (lvs rows dflt)).length
  | [] => by simp
  | t :: l => by
    have h1 := todo_len rows dflt l
    have h2 := look_pos rows dflt t.1 t.2.1 t.2.2
    rw [List.flatMap_cons, List.length_append, List.length_cons]
    unfold lvs at h1 ⊢
    omega
theorem look_at {rows : List Row} {dflt : Str} {here : Box} {n : Nat} {way : Way} {r : Row} (h : rows[n]? = some r) (ok : RowOk rows.length n r) : look rows dflt here (.row n) way = (match common here r.box with
      | none => []
      | some both => look rows dflt both r.yes (way ++ [(n, true)])) ++ (rests here r.box).flatMap fun one => look rows dflt one (.row r.no) (way ++ [(n, false)]) := by
  obtain ⟨h1, h2⟩ := List.getElem?_eq_some_iff.mp h
  have e1 : r.yes.ahead n = r.yes := by
    cases hy : r.yes with
    | row m =>
      have := ok.yes m hy
      simp [Go.ahead]
      omega
    | word w => rfl
  have e2 : (Go.row r.no).ahead n = .row r.no := by
    have := ok.no
    simp [Go.ahead]
    omega
  rw [look]
  simp only [h1, dite_true]
  rw [h2, e1, e2]
  all_goals rfl
theorem cost_at {rows : List Row} {here : Box} {n : Nat} {r : Row} (h : rows[n]? = some r) (ok : RowOk rows.length n r) : cost rows here (.row n) = 1 + (match common here r.box with
      | none => 0
      | some both => cost rows both r.yes) + ((rests here r.box).map fun one => cost rows one (.row r.no)).sum := by
  obtain ⟨h1, h2⟩ := List.getElem?_eq_some_iff.mp h
  have e1 : r.yes.ahead n = r.yes := by
    cases hy : r.yes with
    | row m =>
      have := ok.yes m hy
      simp [Go.ahead]
      omega
    | word w => rfl
  have e2 : (Go.row r.no).ahead n = .row r.no := by
    have := ok.no
    simp [Go.ahead]
    omega
  rw [cost]
  simp only [h1, dite_true]
  rw [h2, e1, e2]
  all_goals rfl
section
variable {P : Program} {w : World} {K : PySem.W.Frag} {mg : Str → Option Value} {base : Heap}
def sp_looked (K : PySem.W.Frag) : Sp := Sp3 fun x y z H Q => ∃ (rows : List Row) (dflt : Str) (box : Box), RowsOk rows ∧ rows.length ≤ 1000 ∧ box.length = 6 ∧ (look rows dflt box (.row 0) []).length ≤ 5000000 ∧
  Dt K H x (.lst (rows.map eRw)) ∧ y = .str dflt ∧ Dt K H z (eBox box) ∧ ∀ v H', Same H H' → Dt K H' v (.lst ((look rows dflt box (.row 0) []).map eLeaf)) → Q v H'
def sN_looked : List Str := ["rows", "default", "box", "told", "todo", "here", "at", "way", "row", "one", "both"]
theorem sc_looked : FnScope sN_looked ["rows", "default", "box"] (defScope s_looked) := ⟨rfl, rfl, rfl, by decide +kernel, rfl, by decide +kernel, by decide +kernel⟩

theorem ok_looked (T : Tx K mg) : Fd P w K mg base 4 (He.ga K "looked") ["rows", "default", "box"] (sp_looked K) := by
  have F_rests := ok_rests (P := P) (w := w) (base := base) T
  have F_common := ok_common (P := P) (w := w) (base := base) T
  refine mkFd T.d_looked sc_looked (fun _ _ _ _ _ _ us hl => match us, hl with | [_, _, _], _ => rfl) (fun vs H Q E h => Sp3.len h) (fun cdv A outer s H vs Q E hr h => ?_)
  obtain ⟨x, y, z, rfl, rows, dflt, box, hro, hrn, hb6, hN, hx, rfl, hz, k⟩ := h
  refine ⟨_, (pss_cons (ps_set (i := 3) sc_looked.nd rfl (.inl rfl) (pe_lst pa_nil))
      (pss_cons (ps_set (i := 4) sc_looked.nd rfl (.inl rfl) (pe_lst (pa_cons (pe_tup (pa_cons (pv 2) (pa_cons pe_int (pa_cons (pe_fz (pe_lst pa_nil)) pa_nil)))) pa_nil)))
      (pss_cons (ps_while PassesOwn.never (pt_cmpR op_gt (pe_callB cl_lenQ (by rfl) T.b_len PySem.boot_len (pa_cons (pv 4) pa_nil)) pe_int (nomark _)) (pss_cons (ps_asg (pe_bm0 PySem.F.plainAttrs_list PySem.F.slot_list_pop PySem.F.type_list_pop mt_pop (pv 4)) (pg_tup rfl (pgs_cons (pg_name (i := 5) sc_looked.nd rfl (.inl rfl)) (pgs_cons (pg_name (i := 6) sc_looked.nd rfl (.inl rfl)) (pgs_cons (pg_name (i := 7) sc_looked.nd rfl (.inl rfl)) pgs_nil)))))
      (pss_cons (ps_if (pt_val (pe_callB call_isi (by rfl) T.b_isinstance (by decide +kernel) (pa_cons (pv 6) (pa_cons (pe_bltn (v := .ty "str") (u := .type "str") (by rfl) T.b_str (by decide +kernel) rfl) pa_nil)))) (pss_cons (ps_expr (pe_bm PySem.F.plainAttrs_list PySem.F.slot_list_append PySem.F.type_list_append mt_append (pv 3) (pa_cons (pe_tup (pa_cons (pv 5) (pa_cons (pv 7) (pa_cons (pv 6) pa_nil)))) pa_nil)))
      (pss_cons ps_continue
      pss_nil)) pss_nil)
      (pss_cons (ps_if (pt_cmpR op_eq (pv 6) (pe_callB cl_lenQ (by rfl) T.b_len PySem.boot_len (pa_cons (pv 0) pa_nil)) (nomark _)) (pss_cons (ps_expr (pe_bm PySem.F.plainAttrs_list PySem.F.slot_list_append PySem.F.type_list_append mt_append (pv 3) (pa_cons (pe_tup (pa_cons (pv 5) (pa_cons (pv 7) (pa_cons (pv 1) pa_nil)))) pa_nil)))
      (pss_cons ps_continue
      pss_nil)) pss_nil)
      (pss_cons (ps_set (i := 8) sc_looked.nd rfl (.inl rfl) (pe_ix ix_list (pv 0) (pv 6) (fun _ _ => rfl)))
      (pss_cons (ps_for PassesOwn.never rfl (pi_reversed (by rfl) T.b_reversed (pa_cons (pe_f F_rests (hr.mono (by omega)) (by rfl) T.g_rests (pa_cons (pv 5) (pa_cons (pe_ix ix_tup (pv 8) pe_int (fun _ _ => rfl)) pa_nil))) pa_nil)) (pg_name (i := 9) sc_looked.nd rfl (.inl rfl)) (pss_cons (ps_expr (pe_bm PySem.F.plainAttrs_list PySem.F.slot_list_append PySem.F.type_list_append mt_append (pv 4) (pa_cons (pe_tup (pa_cons (pv 9) (pa_cons (pe_ix ix_tup (pv 8) pe_int (fun _ _ => rfl)) (pa_cons (pe_fz (pe_op op_catF (pv 7) (pe_fz (pe_lst (pa_cons (pe_tup (pa_cons (pv 6) (pa_cons pe_bl pa_nil))) pa_nil))))) pa_nil)))) pa_nil)))
      pss_nil))
      (pss_cons (ps_set (i := 10) sc_looked.nd rfl (.inl rfl) (pe_f F_common (hr.mono (by omega)) (by rfl) T.g_common (pa_cons (pv 5) (pa_cons (pe_ix ix_tup (pv 8) pe_int (fun _ _ => rfl)) pa_nil))))
      (pss_cons (ps_if (pt_cmpR op_notN1 (pv 10) pe_non (nomark _)) (pss_cons (ps_expr (pe_bm PySem.F.plainAttrs_list PySem.F.slot_list_append PySem.F.type_list_append mt_append (pv 4) (pa_cons (pe_tup (pa_cons (pv 10) (pa_cons (pe_ix ix_tup (pv 8) pe_int (fun _ _ => rfl)) (pa_cons (pe_fz (pe_op op_catF (pv 7) (pe_fz (pe_lst (pa_cons (pe_tup (pa_cons (pv 6) (pa_cons pe_bl pa_nil))) pa_nil))))) pa_nil)))) pa_nil)))
      pss_nil) pss_nil)
      pss_nil))))))))
      (pss_cons (ps_ret (pe_fz (pv 3)))
      pss_nil)))), ?_⟩
  try dsimp only [cxOf, Cx.nox, Cx.wish]
  repeat walk_at "w"
  walk_at "newO"
  intro p H1 np s1 o1
  repeat walk_at "w"
  walk_at "newF"
  intro u H2 s2 hu
  repeat walk_at "w"
  walk_at "newT"
  intro u2 H3 s3 hu2
  repeat walk_at "w"
  walk_at "newO"
  intro q H4 nq s4 o4
  repeat walk_at "w"
  have nq0 : H q = none := Same.free (by walk_at "same") nq
  have nep : p ≠ q := (o1.up (by walk_at "same") (H' := H3)).ne nq
  refine f_while (fun m σ H' => ∃ (todo : List Td) (acc : List Leaf) (e5 e6 e7 e8 e9 e10 : Option V), σ = [some x, some (.str dflt), some z, some (.ref p), some (.ref q), e5, e6, e7, e8, e9, e10] ∧ Same H H' ∧ Ow K H' p (acc.map eLeaf) ∧ Ow K H' q (todo.map eTd) ∧
    (∀ t ∈ todo, TdOk rows t) ∧ look rows dflt box (.row 0) [] = acc ++ todo.reverse.flatMap (lvs rows dflt) ∧ m = (todo.map fun t => cost rows t.1 t.2.1).sum) _
    ⟨[(box, .row 0, [])], [], none, none, none, none, none, none, rfl, (by walk_at "same"), (by walk_at "ow"), o4, ?_, by simp [lvs], rfl⟩ ?_
  · intro t ht
    simp at ht
    subst ht
    exact ⟨hb6, fun n e => by cases e; exact ⟨Nat.zero_le _, Nat.le_refl _⟩⟩
  rintro m σ H5 ⟨todo, acc, e5, e6, e7, e8, e9, e10, rfl, s5, o5, o6, hok, heq, rfl⟩
  have hlen : acc.length + todo.length ≤ 5000000 := by
    have h1 := todo_len rows dflt todo.reverse
    rw [heq, List.length_append] at hN
    rw [List.length_reverse] at h1
    omega
  repeat walk_at "w"
  refine w_lenO o6 ?_
  repeat walk_at "w"
  rcases snoc_cases todo with rfl | ⟨st, t, rfl⟩
  · refine ite2 (fun h2 => ?_) (fun h2 => ?_)
    · simp at h2
    · repeat walk_at "w"
      refine w_outS o5 s5 np fun H6 s6 hr => ?_
      refine k _ _ s6 ?_
      rw [heq]
      simpa using hr
  · refine ite2 (fun h2 => ?_) (fun h2 => ?_)
    rotate_left
    · simp at h2
    have hokt := hok t (by simp)
    have hoks : ∀ t' ∈ st, TdOk rows t' := fun t' h => hok t' (by simp [h])
    obtain ⟨here, go, way⟩ := t
    rw [List.map_append, List.map_singleton] at o6
    rw [List.reverse_append, List.reverse_singleton, List.singleton_append, List.flatMap_cons] at heq
    rw [List.map_append, List.map_singleton, List.sum_append]
    repeat walk_at "w"
    refine whB ?_
    repeat walk_at "w"
    refine w_tyO o6 ?_
    refine w_popO o6 fun u5 H6 b6 x6 o7 hu5 => ?_
    have s7 : Same H H6 := b6.same s5 nq0
    have o8 := o5.but b6 x6 nep
    cases go with
    | word wd =>
      have hu5 : Dt K H6 u5 (.tup [eBox here, .str wd, eWay way]) := hu5
      repeat walk_at "w"
      refine w_tyO o8 ?_
      repeat walk_at "w"
      walk_at "newT"
      intro u6 H7 s8 hu6
      repeat walk_at "w"
      refine w_appS (d := eLeaf ⟨here, way, wd⟩) (by walk_at "ow") (by simpa using hu6) (by simp at hlen ⊢; omega) (Hb := H) (by walk_at "same") np fun H8 b8 x8 s9 o9 => ?_
      repeat walk_at "w"
      refine ⟨_, ?_, st, acc ++ [⟨here, way, wd⟩], _, _, _, _, _, _, rfl, s9, by rw [List.map_append]; exact o9, (o7.up s8).but b8 x8 (Ne.symm nep), hoks, ?_, rfl⟩
      · have := cost_pos rows here (.word wd)
        simp [cost]
      · rw [heq]
        simp [lvs, look]
    | row n =>
      have hu5 : Dt K H6 u5 (.tup [eBox here, .int (n : Nat), eWay way]) := hu5
      obtain ⟨hn, hwl⟩ : n ≤ rows.length ∧ way.length ≤ n := hokt.2 n rfl
      have h6 : here.length = 6 := hokt.1
      repeat walk_at "w"
      refine w_lenL (ds := rows.map eRw) (by walk_at "dt") ?_
      repeat walk_at "w"
      rw [List.length_map]
      refine ite2 (fun h3 => ?_) (fun h3 => ?_)
      · have h3 : n = rows.length := by
          have := of_decide_eq_true h3
          omega
        repeat walk_at "w"
        refine w_tyO o8 ?_
        repeat walk_at "w"
        walk_at "newT"
        intro u6 H7 s8 hu6
        repeat walk_at "w"
        refine w_appS (d := eLeaf ⟨here, way, dflt⟩) (by walk_at "ow") (by simpa using hu6) (by simp at hlen ⊢; omega) (Hb := H) (by walk_at "same") np fun H8 b8 x8 s9 o9 => ?_
        repeat walk_at "w"
        refine ⟨_, ?_, st, acc ++ [⟨here, way, dflt⟩], _, _, _, _, _, _, rfl, s9, by rw [List.map_append]; exact o9, (o7.up s8).but b8 x8 (Ne.symm nep), hoks, ?_, rfl⟩
        · have := cost_pos rows here (.row n)
          simp
          omega
        · rw [heq]
          simp only [lvs]
          rw [look]
          simp [h3]
      · have hlt : n < rows.length := by
          have : ¬ ((n : Int) = (rows.length : Int)) := fun z => h3 (decide_eq_true z)
          omega
        have q1 : rows[n]? = some rows[n] := by simp [hlt]
        generalize rows[n] = r at q1
        have rok := hro n r q1
        have q3 : (rows.map eRw)[n]? = some (eRw r) := by rw [List.getElem?_map, q1]; rfl
        have hlk := look_at (dflt := dflt) (here := here) (way := way) q1 rok
        have hcs := cost_at (here := here) q1 rok
        have h66 : here.length = r.box.length := by rw [h6, rok.box]
        repeat walk_at "w"
        refine Sp2.mk ⟨here, r.box, h66, by omega, (by walk_at "dt"), (by walk_at "dt"), fun v H7 s8 hv => ?_⟩
        repeat walk_at "w"
        refine i_rev hv (Ext.refl _) fun J it => ?_
        rw [← List.map_reverse] at it
        have hrl := rests_len (c := r.box) h6
        refine f_for it (fun i σ' H' => ∃ e, σ' = [some x, some (.str dflt), some z, some (.ref p), some (.ref q), _, _, _, _, e, _] ∧ Same H H' ∧ Ext H7 H' ∧ Ow K H' p (acc.map eLeaf) ∧ Ow K H' q ((st ++ ((rests here r.box).reverse.take i).map fun one => (one, Go.row r.no, way ++ [(n, false)])).map eTd)) ⟨_, rfl, (by walk_at "same"), Ext.refl _, (by walk_at "ow"), ?_⟩ (fun i σ' H' h => ?_) ?_ ?_
        · simpa using o7.up s8
        · obtain ⟨_, _, _, x1, _⟩ := h
          exact x1
        · rintro i d u7 σ' H' H8 e1 ⟨_, rfl, s9, x9, o9, o10⟩ s10 hu7
          rw [List.getElem?_map, Option.map_eq_some_iff] at e1
          obtain ⟨one, e1, rfl⟩ := e1
          repeat walk_at "w"
          refine w_tyO (o10.up s10) ?_
          repeat walk_at "w"
          walk_at "newT"
          intro u8 H9 s11 hu8
          repeat walk_at "w"
          walk_at "newF"
          intro u9 H10 s12 hu9
          repeat walk_at "w"
          refine catF (ds := way.map eWy) (Dt.ls (by walk_at "dt")) (Dt.ls hu9) (by simp; omega) fun u10 H11 s13 hu10 => ?_
          repeat walk_at "w"
          walk_at "newT"
          intro u11 H12 s14 hu11
          repeat walk_at "w"
          refine w_appS (d := eTd (one, .row r.no, way ++ [(n, false)])) (by walk_at "ow") (by simpa [eTd, eWay, eGo] using hu11) (by simp at hlen ⊢; omega) (Hb := H) (by walk_at "same") nq0 fun H13 b13 x13 s15 o15 => ?_
          repeat walk_at "w"
          refine ⟨_, rfl, s15, (by walk_at "ext"), ?_, ?_⟩
          · exact (o9.up (by walk_at "same")).but b13 x13 nep
          · have et : (rests here r.box).reverse.take (i + 1) = (rests here r.box).reverse.take i ++ [one] := by
              rw [List.take_succ, e1]
              rfl
            rw [et]
            simpa using o15
        · rintro σ' H' ⟨_, rfl, s9, x9, o9, o10⟩
          rw [List.length_map, List.take_length] at o10
          repeat walk_at "w"
          refine Sp2.mk ⟨here, r.box, h66, by omega, (by walk_at "dt"), (by walk_at "dt"), fun v2 H8 s10 hv2 => ?_⟩
          repeat walk_at "w"
          have hokn : ∀ t' ∈ st ++ (rests here r.box).reverse.map (fun one => ((one, Go.row r.no, way ++ [(n, false)]) : Td)), TdOk rows t' := by
            intro t' h'
            rcases List.mem_append.mp h' with h' | h'
            · exact hoks t' h'
            · obtain ⟨one, h1, rfl⟩ := List.mem_map.mp h'
              refine ⟨by rw [rests_dim h66 (List.mem_reverse.mp h1), h6], fun m e => ?_⟩
              cases e
              exact ⟨rok.no.2, by have := rok.no.1; simp; omega⟩
          have hsum : ((rests here r.box).reverse.map fun one => cost rows one (.row r.no)).sum = ((rests here r.box).map fun one => cost rows one (.row r.no)).sum := by
            rw [List.map_reverse, List.sum_reverse]
          have hcom : ((fun t => cost rows t.1 t.2.1) ∘ fun one => ((one, Go.row r.no, way ++ [(n, false)]) : Td)) = fun one => cost rows one (.row r.no) := rfl
          cases hc : common here r.box with
          | none =>
            rw [hc] at hv2 hlk hcs
            cases hv2
            repeat walk_at "w"
            refine ⟨_, ?_, st ++ (rests here r.box).reverse.map (fun one => (one, Go.row r.no, way ++ [(n, false)])), acc, _, _, _, _, _, _, rfl, (by walk_at "same"), (by walk_at "ow"), o10.up s10, hokn, ?_, rfl⟩
            · rw [List.map_append, List.map_map, List.sum_append, hcom, hsum]
              simp
              omega
            · rw [heq]
              simp only [lvs] at hlk ⊢
              rw [hlk]
              simp [lvs, List.flatMap_map, List.map_reverse]
          | some both =>
            rw [hc] at hv2 hlk hcs
            obtain ⟨a2, vs2, rfl, z4, z5⟩ := Dt.tupI hv2
            repeat walk_at "w"
            have hv2 : Dt K H8 (.ref a2) (eBox both) := hv2
            refine w_tyO (o10.up s10) ?_
            repeat walk_at "w"
            walk_at "newT"
            intro u8 H9 s11 hu8
            repeat walk_at "w"
            walk_at "newF"
            intro u9 H10 s12 hu9
            repeat walk_at "w"
            refine catF (ds := way.map eWy) (Dt.ls (by walk_at "dt")) (Dt.ls hu9) (by simp; omega) fun u10 H11 s13 hu10 => ?_
            repeat walk_at "w"
            walk_at "newT"
            intro u11 H12 s14 hu11
            repeat walk_at "w"
            refine w_appS (d := eTd (both, r.yes, way ++ [(n, true)])) (by walk_at "ow") (by simpa [eTd, eWay] using hu11) (by simp at hlen ⊢; omega) (Hb := H) (by walk_at "same") nq0 fun H13 b13 x13 s15 o15 => ?_
            repeat walk_at "w"
            refine ⟨_, ?_, (st ++ (rests here r.box).reverse.map (fun one => (one, Go.row r.no, way ++ [(n, false)]))) ++ [(both, r.yes, way ++ [(n, true)])], acc, _, _, _, _, _, _, rfl, s15, (o9.up (by walk_at "same")).but b13 x13 nep, ?_, ?_, ?_, rfl⟩
            · rw [List.map_append, List.map_append, List.map_map, List.sum_append, List.sum_append, hcom, hsum]
              dsimp only at hcs
              simp
              omega
            · simpa using o15
            · intro t' h'
              rcases List.mem_append.mp h' with h' | h'
              · exact hokn t' h'
              · simp at h'
                subst h'
                refine ⟨by rw [common_len h66 hc, h6], fun m e => ?_⟩
                have := rok.yes m e
                exact ⟨this.2, by simp; omega⟩
            · rw [heq]
              simp only [lvs] at hlk ⊢
              rw [hlk]
              simp [lvs, List.flatMap_map, List.map_reverse]
end
end
section
open PySem PySem.Spec PyProof.Rows L2
theorem isS1 {α : Type} (a : α) : (some a).isSome = true := rfl
theorem isS0 {α : Type} : (none : Option α).isSome = false := rfl
theorem look_eCh (n : Str) : ∀ l : List (Str × List Rule), lookD (l.map eCh) n = (lookD l n).map fun rs => .lst (rs.map D.rul)
  | [] => rfl
  | p :: l => by
    have ih := look_eCh n l
    unfold lookD at ih ⊢
    rw [List.map_cons, List.find?_cons, List.find?_cons]
    by_cases h : p.1 = n
    · rw [show decide ((eCh p).1 = n) = true from decide_eq_true h, decide_eq_true h]
      rfl
    · rw [show decide ((eCh p).1 = n) = false from decide_eq_false h, decide_eq_false h]
      exact ih
theorem But.tr {p : Addr} {H H1 H2 : Hp} (b : But p H1 H2) (a : But p H H1) : But p H H2 := a.trans b
theorem but_same {p : Addr} {H H1 H2 : Hp} (s : Same H1 H2) (a : But p H H1) : But p H H2 := fun c o n e => s c o (a c o n e)
section
variable {P : Program} {w : World} {K : PySem.W.Frag} {mg : Str → Option Value} {base : Heap}
def sp_Rule_init (K : PySem.W.Frag) : Sp := Sp2 fun x y H Q => ∃ C a dx, x = .ref a ∧ (C = cWord K ∨ C = cBack K ∨ C = cCall K) ∧ H a = some (.ins C dx []) ∧ ∀ H', But a H H' → H' a = some (.ins C dx [("box", y)]) → Q .non H'
def sN_Rule_init : List Str := ["self", "box"]
theorem sc_Rule_init : FnScope sN_Rule_init ["self", "box"] (defScope s_Rule_init) := ⟨rfl, rfl, rfl, by decide +kernel, rfl, by decide +kernel, by decide +kernel⟩

theorem ok_init_of (T : Tx K mg) {f : Addr} (hF : ∃ fd, FunD K "__init__" "Rule.__init__" (defArgs s_Rule_init) (defBody s_Rule_init) (defScope s_Rule_init) [] [] f fd) : Fd P w K mg base 1 f ["self", "box"] (sp_Rule_init K) := by
  refine mkFd hF sc_Rule_init (fun _ _ _ _ _ _ us hl => match us, hl with | [_, _], _ => rfl) (fun vs H Q E h => Sp2.len h) (fun cdv A outer s H vs Q E hr h => ?_)
  obtain ⟨x, y, rfl, C, a, dx, rfl, hC, ha, k⟩ := h
  refine ⟨_, (pss_cons (ps_fld (pv 0) (pv 1) rfl)
      pss_nil), ?_⟩
  try dsimp only [cxOf, Cx.nox, Cx.wish]
  repeat walk_at "w"
  have q : Cls K C ∧ NoAttr K C "box" := by
    rcases hC with rfl | rfl | rfl
    · exact ⟨T.c_Word, T.n_Word_box⟩
    · exact ⟨T.c_Back, T.n_Back_box⟩
    · exact ⟨T.c_Call, T.n_Call_box⟩
  refine ⟨a, C, dx, [], rfl, ha, q.1, q.2, by decide, ?_⟩
  repeat walk_at "w"
  exact k _ (But.upd a H _) upd_same
theorem ok_Rule_init (T : Tx K mg) : Fd P w K mg base 1 (He.ma K (He.ga K "Rule") "__init__") ["self", "box"] (sp_Rule_init K) := ok_init_of T T.d_Rule_init
theorem ok_Back_init (T : Tx K mg) : Fd P w K mg base 1 (He.ma K (He.ga K "Back") "__init__") ["self", "box"] (sp_Rule_init K) := ok_init_of T T.d_Back_init
def sp_Word_init (K : PySem.W.Frag) : Sp := Sp3 fun x y z H Q => ∃ a dx, x = .ref a ∧ H a = some (.ins (cWord K) dx []) ∧ ∀ H', But a H H' → H' a = some (.ins (cWord K) dx [("box", y), ("word", z)]) → Q .non H'
def sN_Word_init : List Str := ["self", "box", "word"]
theorem sc_Word_init : FnScope sN_Word_init ["self", "box", "word"] (defScope s_Word_init) := ⟨rfl, rfl, rfl, by decide +kernel, rfl, by decide +kernel, by decide +kernel⟩

theorem ok_Word_init (T : Tx K mg) : Fd P w K mg base 3 (He.ma K (He.ga K "Word") "__init__") ["self", "box", "word"] (sp_Word_init K) := by
  have F_Rule_init := ok_Rule_init (P := P) (w := w) (base := base) T
  refine mkFd T.d_Word_init sc_Word_init (fun _ _ _ _ _ _ us hl => match us, hl with | [_, _, _], _ => rfl) (fun vs H Q E h => Sp3.len h) (fun cdv A outer s H vs Q E hr h => ?_)
  obtain ⟨x, y, z, rfl, a, dx, rfl, ha, k⟩ := h
  refine ⟨_, (pss_cons (ps_expr (pe_cf (pe_glob (v := .ref _) (by rfl) T.g_Rule rfl) T.rd_Rule T.cv_Rule_init F_Rule_init (hr.mono (by omega)) (pa_cons (pv 0) (pa_cons (pv 1) pa_nil))))
      (pss_cons (ps_fld (pv 0) (pv 2) rfl)
      pss_nil)), ?_⟩
  try dsimp only [cxOf, Cx.nox, Cx.wish]
  repeat walk_at "w"
  refine ⟨rfl, ?_⟩
  repeat walk_at "w"
  refine Sp2.mk ⟨_, a, dx, rfl, .inl rfl, ha, fun H1 b1 h1 => ?_⟩
  repeat walk_at "w"
  refine ⟨a, _, dx, _, rfl, h1, T.c_Word, T.n_Word_word, by simp, ?_⟩
  repeat walk_at "w"
  exact k _ ((But.upd a H1 _).tr b1) upd_same
def sp_Call_init (K : PySem.W.Frag) : Sp := Sp3 fun x y z H Q => ∃ a dx, x = .ref a ∧ H a = some (.ins (cCall K) dx []) ∧ ∀ H', But a H H' → H' a = some (.ins (cCall K) dx [("box", y), ("name", z)]) → Q .non H'
def sN_Call_init : List Str := ["self", "box", "name"]
theorem sc_Call_init : FnScope sN_Call_init ["self", "box", "name"] (defScope s_Call_init) := ⟨rfl, rfl, rfl, by decide +kernel, rfl, by decide +kernel, by decide +kernel⟩

theorem ok_Call_init (T : Tx K mg) : Fd P w K mg base 3 (He.ma K (He.ga K "Call") "__init__") ["self", "box", "name"] (sp_Call_init K) := by
  have F_Rule_init := ok_Rule_init (P := P) (w := w) (base := base) T
  refine mkFd T.d_Call_init sc_Call_init (fun _ _ _ _ _ _ us hl => match us, hl with | [_, _, _], _ => rfl) (fun vs H Q E h => Sp3.len h) (fun cdv A outer s H vs Q E hr h => ?_)
  obtain ⟨x, y, z, rfl, a, dx, rfl, ha, k⟩ := h
  refine ⟨_, (pss_cons (ps_expr (pe_cf (pe_glob (v := .ref _) (by rfl) T.g_Rule rfl) T.rd_Rule T.cv_Rule_init F_Rule_init (hr.mono (by omega)) (pa_cons (pv 0) (pa_cons (pv 1) pa_nil))))
      (pss_cons (ps_fld (pv 0) (pv 2) rfl)
      pss_nil)), ?_⟩
  try dsimp only [cxOf, Cx.nox, Cx.wish]
  repeat walk_at "w"
  refine ⟨rfl, ?_⟩
  repeat walk_at "w"
  refine Sp2.mk ⟨_, a, dx, rfl, .inr (.inr rfl), ha, fun H1 b1 h1 => ?_⟩
  repeat walk_at "w"
  refine ⟨a, _, dx, _, rfl, h1, T.c_Call, T.n_Call_name, by simp, ?_⟩
  repeat walk_at "w"
  exact k _ ((But.upd a H1 _).tr b1) upd_same
/-! fits, told, head -/
def sp_fits (K : PySem.W.Frag) : Sp := Sp2 fun x y H Q => ∃ (r : Rule) (p : List Int), r.box.length = p.length ∧ Dt K H x (.rul r) ∧ Dt K H y (eInts p) ∧ ∀ H', Same H H' → Q (.bl (hasB r.box p)) H'
def sN_Rule_fits : List Str := ["self", "parcel"]
theorem sc_Rule_fits : FnScope sN_Rule_fits ["self", "parcel"] (defScope s_Rule_fits) := ⟨rfl, rfl, rfl, by decide +kernel, rfl, by decide +kernel, by decide +kernel⟩

theorem ok_fits_of (T : Tx K mg) {f : Addr} (hF : ∃ fd, FunD K "fits" "Rule.fits" (defArgs s_Rule_fits) (defBody s_Rule_fits) (defScope s_Rule_fits) [] [] f fd) : Fd P w K mg base 3 f ["self", "parcel"] (sp_fits K) := by
  have F_has := ok_has (P := P) (w := w) (base := base) T
  refine mkFd hF sc_Rule_fits (fun _ _ _ _ _ _ us hl => match us, hl with | [_, _], _ => rfl) (fun vs H Q E h => Sp2.len h) (fun cdv A outer s H vs Q E hr h => ?_)
  obtain ⟨x, y, rfl, r, p, hl, hx, hy, k⟩ := h
  refine ⟨_, (pss_cons (ps_ret (pe_f F_has (hr.mono (by omega)) (by rfl) T.g_has (pa_cons (pe_fld (pv 0) rfl) (pa_cons (pv 1) pa_nil))))
      pss_nil), ?_⟩
  try dsimp only [cxOf, Cx.nox, Cx.wish]
  repeat walk_at "w"
  refine fl_box T hx fun u hu => ?_
  repeat walk_at "w"
  exact Sp2.mk ⟨r.box, p, hl, hu, hy, fun H' s => k H' s⟩
theorem ok_Word_fits (T : Tx K mg) : Fd P w K mg base 3 (He.ma K (He.ga K "Word") "fits") ["self", "parcel"] (sp_fits K) := ok_fits_of T T.d_Word_fits
theorem ok_Back_fits (T : Tx K mg) : Fd P w K mg base 3 (He.ma K (He.ga K "Back") "fits") ["self", "parcel"] (sp_fits K) := ok_fits_of T T.d_Back_fits
theorem ok_Call_fits (T : Tx K mg) : Fd P w K mg base 3 (He.ma K (He.ga K "Call") "fits") ["self", "parcel"] (sp_fits K) := ok_fits_of T T.d_Call_fits
def sp_Word_told (K : PySem.W.Frag) : Sp := Sp1 fun x H Q => ∃ (b : Box) (wd : Str), Dt K H x (.rul (.word b wd)) ∧ ∀ v H', Same H H' → Dt K H' v (eRule (.word b wd)) → Q v H'
def sN_Word_told : List Str := ["self"]
theorem sc_Word_told : FnScope sN_Word_told ["self"] (defScope s_Word_told) := ⟨rfl, rfl, rfl, by decide +kernel, rfl, by decide +kernel, by decide +kernel⟩

theorem ok_Word_told (T : Tx K mg) : Fd P w K mg base 1 (He.ma K (He.ga K "Word") "told") ["self"] (sp_Word_told K) := by
  refine mkFd T.d_Word_told sc_Word_told (fun _ _ _ _ _ _ us hl => match us, hl with | [_], _ => rfl) (fun vs H Q E h => Sp1.len h) (fun cdv A outer s H vs Q E hr h => ?_)
  obtain ⟨x, rfl, b, wd, hx, k⟩ := h
  refine ⟨_, (pss_cons (ps_ret (pe_tup (pa_cons (pe_fld (pv 0) rfl) (pa_cons (pe_fld (pv 0) rfl) pa_nil))))
      pss_nil), ?_⟩
  try dsimp only [cxOf, Cx.nox, Cx.wish]
  repeat walk_at "w"
  refine fl_word T hx ?_
  repeat walk_at "w"
  refine fl_box T hx fun u hu => ?_
  repeat walk_at "w"
  walk_at "newT"
  intro u2 H2 s2 hu2
  exact k _ _ s2 hu2
def sp_Word_head (K : PySem.W.Frag) : Sp := Sp1 fun x H Q => ∃ (b : Box) (wd : Str), Dt K H x (.rul (.word b wd)) ∧ Q (.str wd) H
def sN_Word_head : List Str := ["self"]
theorem sc_Word_head : FnScope sN_Word_head ["self"] (defScope s_Word_head) := ⟨rfl, rfl, rfl, by decide +kernel, rfl, by decide +kernel, by decide +kernel⟩

theorem ok_Word_head (T : Tx K mg) : Fd P w K mg base 1 (He.ma K (He.ga K "Word") "head") ["self"] (sp_Word_head K) := by
  refine mkFd T.d_Word_head sc_Word_head (fun _ _ _ _ _ _ us hl => match us, hl with | [_], _ => rfl) (fun vs H Q E h => Sp1.len h) (fun cdv A outer s H vs Q E hr h => ?_)
  obtain ⟨x, rfl, b, wd, hx, k⟩ := h
  refine ⟨_, (pss_cons (ps_ret (pe_fld (pv 0) rfl))
      pss_nil), ?_⟩
  try dsimp only [cxOf, Cx.nox, Cx.wish]
  repeat walk_at "w"
  exact fl_word T hx k
def sp_Back_told (K : PySem.W.Frag) : Sp := Sp1 fun x H Q => ∃ (b : Box), Dt K H x (.rul (.back b)) ∧ ∀ v H', Same H H' → Dt K H' v (eRule (.back b)) → Q v H'
def sN_Back_told : List Str := ["self"]
theorem sc_Back_told : FnScope sN_Back_told ["self"] (defScope s_Back_told) := ⟨rfl, rfl, rfl, by decide +kernel, rfl, by decide +kernel, by decide +kernel⟩

theorem ok_Back_told (T : Tx K mg) : Fd P w K mg base 1 (He.ma K (He.ga K "Back") "told") ["self"] (sp_Back_told K) := by
  refine mkFd T.d_Back_told sc_Back_told (fun _ _ _ _ _ _ us hl => match us, hl with | [_], _ => rfl) (fun vs H Q E h => Sp1.len h) (fun cdv A outer s H vs Q E hr h => ?_)
  obtain ⟨x, rfl, b, hx, k⟩ := h
  refine ⟨_, (pss_cons (ps_ret (pe_tup (pa_cons pe_str (pa_cons (pe_fld (pv 0) rfl) pa_nil))))
      pss_nil), ?_⟩
  try dsimp only [cxOf, Cx.nox, Cx.wish]
  repeat walk_at "w"
  refine fl_box T hx fun u hu => ?_
  repeat walk_at "w"
  walk_at "newT"
  intro u2 H2 s2 hu2
  exact k _ _ s2 hu2
def sp_Back_head (K : PySem.W.Frag) : Sp := Sp1 fun x H Q => Q (.str "back") H
def sN_Back_head : List Str := ["self"]
theorem sc_Back_head : FnScope sN_Back_head ["self"] (defScope s_Back_head) := ⟨rfl, rfl, rfl, by decide +kernel, rfl, by decide +kernel, by decide +kernel⟩

theorem ok_Back_head (T : Tx K mg) : Fd P w K mg base 1 (He.ma K (He.ga K "Back") "head") ["self"] (sp_Back_head K) := by
  refine mkFd T.d_Back_head sc_Back_head (fun _ _ _ _ _ _ us hl => match us, hl with | [_], _ => rfl) (fun vs H Q E h => Sp1.len h) (fun cdv A outer s H vs Q E hr h => ?_)
  obtain ⟨x, rfl, k⟩ := h
  refine ⟨_, (pss_cons (ps_ret pe_str)
      pss_nil), ?_⟩
  repeat walk_at "w"
  exact k
def sp_Call_told (K : PySem.W.Frag) : Sp := Sp1 fun x H Q => ∃ (b : Box) (n : Str), Dt K H x (.rul (.call b n)) ∧ ∀ v H', Same H H' → Dt K H' v (eRule (.call b n)) → Q v H'
def sN_Call_told : List Str := ["self"]
theorem sc_Call_told : FnScope sN_Call_told ["self"] (defScope s_Call_told) := ⟨rfl, rfl, rfl, by decide +kernel, rfl, by decide +kernel, by decide +kernel⟩

theorem ok_Call_told (T : Tx K mg) : Fd P w K mg base 1 (He.ma K (He.ga K "Call") "told") ["self"] (sp_Call_told K) := by
  refine mkFd T.d_Call_told sc_Call_told (fun _ _ _ _ _ _ us hl => match us, hl with | [_], _ => rfl) (fun vs H Q E h => Sp1.len h) (fun cdv A outer s H vs Q E hr h => ?_)
  obtain ⟨x, rfl, b, n, hx, k⟩ := h
  refine ⟨_, (pss_cons (ps_ret (pe_tup (pa_cons pe_str (pa_cons (pe_fld (pv 0) rfl) (pa_cons (pe_fld (pv 0) rfl) pa_nil)))))
      pss_nil), ?_⟩
  try dsimp only [cxOf, Cx.nox, Cx.wish]
  repeat walk_at "w"
  refine fl_box T hx fun u hu => ?_
  repeat walk_at "w"
  refine fl_name T hx ?_
  repeat walk_at "w"
  walk_at "newT"
  intro u2 H2 s2 hu2
  exact k _ _ s2 hu2
def sp_Call_head (K : PySem.W.Frag) : Sp := Sp1 fun x H Q => ∃ (b : Box) (n : Str), n.length ≤ 1000 ∧ Dt K H x (.rul (.call b n)) ∧ Q (.str ("call " ++ n)) H
def sN_Call_head : List Str := ["self"]
theorem sc_Call_head : FnScope sN_Call_head ["self"] (defScope s_Call_head) := ⟨rfl, rfl, rfl, by decide +kernel, rfl, by decide +kernel, by decide +kernel⟩

theorem ok_Call_head (T : Tx K mg) : Fd P w K mg base 1 (He.ma K (He.ga K "Call") "head") ["self"] (sp_Call_head K) := by
  refine mkFd T.d_Call_head sc_Call_head (fun _ _ _ _ _ _ us hl => match us, hl with | [_], _ => rfl) (fun vs H Q E h => Sp1.len h) (fun cdv A outer s H vs Q E hr h => ?_)
  obtain ⟨x, rfl, b, n, hz, hx, k⟩ := h
  refine ⟨_, (pss_cons (ps_ret (pe_op op_addS pe_str (pe_fld (pv 0) rfl)))
      pss_nil), ?_⟩
  try dsimp only [cxOf, Cx.nox, Cx.wish]
  repeat walk_at "w"
  refine fl_name T hx ?_
  repeat walk_at "w"
  refine w_addS ?_ k
  have : ("call " : Str).length = 5 := rfl
  omega
/-! rule_of -/
def Rule.wordOk : Rule → Prop
  | .word _ w => w ≠ "call" ∧ w ≠ "back"
  | _ => True
def sp_rule_of (K : PySem.W.Frag) : Sp := Sp1 fun x H Q => ∃ (r : Rule), r.wordOk ∧ Dt K H x (eRule r) ∧ ∀ v H', Same H H' → Dt K H' v (.rul r) → Q v H'
def sN_rule_of : List Str := ["row"]
theorem sc_rule_of : FnScope sN_rule_of ["row"] (defScope s_rule_of) := ⟨rfl, rfl, rfl, by decide +kernel, rfl, by decide +kernel, by decide +kernel⟩

theorem ok_rule_of (T : Tx K mg) : Fd P w K mg base 5 (He.ga K "rule_of") ["row"] (sp_rule_of K) := by
  have F_Call_init := ok_Call_init (P := P) (w := w) (base := base) T
  have F_Back_init := ok_Back_init (P := P) (w := w) (base := base) T
  have F_Word_init := ok_Word_init (P := P) (w := w) (base := base) T
  refine mkFd T.d_rule_of sc_rule_of (fun _ _ _ _ _ _ us hl => match us, hl with | [_], _ => rfl) (fun vs H Q E h => Sp1.len h) (fun cdv A outer s H vs Q E hr h => ?_)
  obtain ⟨x, rfl, r, hw, hx, k⟩ := h
  refine ⟨_, (pss_cons (ps_if (pt_cmpR op_eq (pe_ix ix_tup (pv 0) pe_int (fun _ _ => rfl)) pe_str (nomark _)) (pss_cons (ps_ret (pe_k T.mk_Call F_Call_init (hr.mono (by omega)) (by rfl) T.g_Call (pa_cons (pe_ix ix_tup (pv 0) pe_int (fun _ _ => rfl)) (pa_cons (pe_ix ix_tup (pv 0) pe_int (fun _ _ => rfl)) pa_nil))))
      pss_nil) pss_nil)
      (pss_cons (ps_if (pt_cmpR op_eq (pe_ix ix_tup (pv 0) pe_int (fun _ _ => rfl)) pe_str (nomark _)) (pss_cons (ps_ret (pe_k T.mk_Back F_Back_init (hr.mono (by omega)) (by rfl) T.g_Back (pa_cons (pe_ix ix_tup (pv 0) pe_int (fun _ _ => rfl)) pa_nil)))
      pss_nil) pss_nil)
      (pss_cons (ps_ret (pe_k T.mk_Word F_Word_init (hr.mono (by omega)) (by rfl) T.g_Word (pa_cons (pe_ix ix_tup (pv 0) pe_int (fun _ _ => rfl)) (pa_cons (pe_ix ix_tup (pv 0) pe_int (fun _ _ => rfl)) pa_nil))))
      pss_nil))), ?_⟩
  try dsimp only [cxOf, Cx.nox, Cx.wish]
  cases r with
  | word b wd =>
    have hx : Dt K H x (.tup [.str wd, eBox b]) := hx
    repeat walk_at "w"
    rw [decide_eq_false hw.1]
    repeat walk_at "w"
    rw [decide_eq_false hw.2]
    repeat walk_at "w"
    refine make_i fun a dx H1 na s1 ha => ?_
    refine Sp3.mk ⟨a, dx, rfl, ha, fun H2 b2 h2 => ⟨rfl, ?_⟩⟩
    have s2 := b2.same s1 na
    exact k _ _ s2 (.rWord h2 (by walk_at "dt"))
  | back b =>
    have hx : Dt K H x (.tup [.str "back", eBox b]) := hx
    repeat walk_at "w"
    rw [show decide (("back" : Str) = "call") = false by decide]
    repeat walk_at "w"
    rw [show decide (("back" : Str) = "back") = true by decide]
    repeat walk_at "w"
    refine make_i fun a dx H1 na s1 ha => ?_
    refine Sp2.mk ⟨_, a, dx, rfl, .inr (.inl rfl), ha, fun H2 b2 h2 => ⟨rfl, ?_⟩⟩
    have s2 := b2.same s1 na
    exact k _ _ s2 (.rBack h2 (by walk_at "dt"))
  | call b n =>
    have hx : Dt K H x (.tup [.str "call", eBox b, .str n]) := hx
    repeat walk_at "w"
    rw [show decide (("call" : Str) = "call") = true by decide]
    repeat walk_at "w"
    refine make_i fun a dx H1 na s1 ha => ?_
    refine Sp3.mk ⟨a, dx, rfl, ha, fun H2 b2 h2 => ⟨rfl, ?_⟩⟩
    have s2 := b2.same s1 na
    exact k _ _ s2 (.rCall h2 (by walk_at "dt"))
/-! a book's chains -/
def sp_Book_chain (K : PySem.W.Frag) : Sp := Sp2 fun x y H Q => ∃ (B : Book) (n : Str) (rs : List Rule), Dt K H x (.bok B) ∧ y = .str n ∧ lookD B.chains n = some rs ∧ ∀ v H', Same H H' → Dt K H' v (.lst (rs.map D.rul)) → Q v H'
def sN_Book_chain : List Str := ["self", "name"]
theorem sc_Book_chain : FnScope sN_Book_chain ["self", "name"] (defScope s_Book_chain) := ⟨rfl, rfl, rfl, by decide +kernel, rfl, by decide +kernel, by decide +kernel⟩

theorem ok_Book_chain (T : Tx K mg) : Fd P w K mg base 1 (He.ma K (He.ga K "Book") "chain") ["self", "name"] (sp_Book_chain K) := by
  refine mkFd T.d_Book_chain sc_Book_chain (fun _ _ _ _ _ _ us hl => match us, hl with | [_, _], _ => rfl) (fun vs H Q E h => Sp2.len h) (fun cdv A outer s H vs Q E hr h => ?_)
  obtain ⟨x, y, rfl, B, n, rs, hx, rfl, hl, k⟩ := h
  refine ⟨_, (pss_cons (ps_if (pt_cmp (pc_dnotin (hu_of hr) (pv 1) (pe_fld (pv 0) rfl))) (pss_cons ps_never
      pss_nil) pss_nil)
      (pss_cons (ps_ret (pe_fz (pe_callTy cl_listOf (by rfl) T.b_list (by decide +kernel) (pa_cons (pe_dget (hu_of hr) (pe_fld (pv 0) rfl) (pv 1) (fun _ _ => rfl)) pa_nil))))
      pss_nil)), ?_⟩
  try dsimp only [cxOf, Cx.nox, Cx.wish]
  repeat walk_at "w"
  refine fl_chains T hx fun c hc => ?_
  have hl2 : lookD (B.chains.map eCh) n = some (.lst (rs.map D.rul)) := by rw [look_eCh, hl]; rfl
  repeat walk_at "w"
  refine dS_nin hc.di ?_
  rw [hl2, isS1]
  repeat walk_at "w"
  refine fl_chains T hx fun c hc => ?_
  repeat walk_at "w"
  refine dS_get hc.di hl2 ?_
  refine At.of fun u hu => ?_
  repeat walk_at "w"
  exact w_listOfF hu k
def sp_Book_chain_names (K : PySem.W.Frag) : Sp := Sp1 fun x H Q => ∃ (l : List (Str × List Rule)), BkC K H x l ∧ ∀ v H', Same H H' → Dt K H' v (.lst ((l.map (·.1)).map D.str)) → Q v H'
def sN_Book_chain_names : List Str := ["self"]
theorem sc_Book_chain_names : FnScope sN_Book_chain_names ["self"] (defScope s_Book_chain_names) := ⟨rfl, rfl, rfl, by decide +kernel, rfl, by decide +kernel, by decide +kernel⟩

theorem ok_Book_chain_names (T : Tx K mg) : Fd P w K mg base 1 (He.ma K (He.ga K "Book") "chain_names") ["self"] (sp_Book_chain_names K) := by
  refine mkFd T.d_Book_chain_names sc_Book_chain_names (fun _ _ _ _ _ _ us hl => match us, hl with | [_], _ => rfl) (fun vs H Q E h => Sp1.len h) (fun cdv A outer s H vs Q E hr h => ?_)
  obtain ⟨x, rfl, B, hx, k⟩ := h
  refine ⟨_, (pss_cons (ps_ret (pe_fz (pe_callTy (cl_listD rfl) (by rfl) T.b_list (by decide +kernel) (pa_cons (pe_fld (pv 0) rfl) pa_nil))))
      pss_nil), ?_⟩
  try dsimp only [cxOf, Cx.nox, Cx.wish]
  repeat walk_at "w"
  refine fl_chainsC T hx fun c hc => ?_
  repeat walk_at "w"
  exact w_keysF hc k
def sp_Book_length (K : PySem.W.Frag) : Sp := Sp1 fun x H Q => ∃ (B : Book), Dt K H x (.bok B) ∧ Q (.int B.total) H
def sN_Book_length : List Str := ["self"]
theorem sc_Book_length : FnScope sN_Book_length ["self"] (defScope s_Book_length) := ⟨rfl, rfl, rfl, by decide +kernel, rfl, by decide +kernel, by decide +kernel⟩

theorem ok_Book_length (T : Tx K mg) : Fd P w K mg base 1 (He.ma K (He.ga K "Book") "length") ["self"] (sp_Book_length K) := by
  refine mkFd T.d_Book_length sc_Book_length (fun _ _ _ _ _ _ us hl => match us, hl with | [_], _ => rfl) (fun vs H Q E h => Sp1.len h) (fun cdv A outer s H vs Q E hr h => ?_)
  obtain ⟨x, rfl, B, hx, k⟩ := h
  refine ⟨_, (pss_cons (ps_ret (pe_fld (pv 0) rfl))
      pss_nil), ?_⟩
  try dsimp only [cxOf, Cx.nox, Cx.wish]
  repeat walk_at "w"
  exact fl_total T hx k
end
end
section
open PySem PySem.Spec PyProof.Rows L2
section
variable {P : Program} {w : World} {K : PySem.W.Frag} {mg : Str → Option Value} {base : Heap}
def sp_length_of (f : Nat) (K : PySem.W.Frag) : Sp := Sp2 fun x y H Q => ∃ (B : Book) (n : Str), Deep f B.chains n ∧ Dt K H x (.bok B) ∧ y = .str n ∧ ∀ H', Same H H' → Q (.int (lenC f B.chains n : Nat)) H'
def sN_length_of : List Str := ["book", "name", "count", "rule"]
theorem sc_length_of : FnScope sN_length_of ["book", "name"] (defScope s_length_of) := ⟨rfl, rfl, rfl, by decide +kernel, rfl, by decide +kernel, by decide +kernel⟩

theorem len_step (T : Tx K mg) {k f : Nat} (hk : 1 ≤ k) (F_length_of : Fd P w K mg base k (He.ga K "length_of") ["book", "name"] (sp_length_of f K)) : Fd P w K mg base (k + 1) (He.ga K "length_of") ["book", "name"] (sp_length_of (f + 1) K) := by
  have F_Book_chain := ok_Book_chain (P := P) (w := w) (base := base) T
  refine mkFd T.d_length_of sc_length_of (fun _ _ _ _ _ _ us hl => match us, hl with | [_, _], _ => rfl) (fun vs H Q E h => Sp2.len h) (fun cdv A outer s H vs Q E hr h => ?_)
  obtain ⟨x, y, rfl, B, n, ⟨rs, hl, hd⟩, hx, rfl, q⟩ := h
  refine ⟨_, (pss_cons (ps_set (i := 2) sc_length_of.nd rfl (.inl rfl) pe_int)
      (pss_cons (ps_for PassesOwn.never rfl (pi_list (pe_m (pv 0) T.c_Book T.m_Book_chain F_Book_chain (hr.mono (by omega)) (pa_cons (pv 1) pa_nil))) (pg_name (i := 3) sc_length_of.nd rfl (.inl rfl)) (pss_cons (ps_set (i := 2) sc_length_of.nd rfl (.inl rfl) (pe_op op_add (pv 2) pe_int))
      (pss_cons (ps_if (pt_val (pe_callB call_isi (by rfl) T.b_isinstance (by decide +kernel) (pa_cons (pv 3) (pa_cons (pe_glob (v := .ref _) (by rfl) T.g_Call rfl) pa_nil)))) (pss_cons (ps_set (i := 2) sc_length_of.nd rfl (.inl rfl) (pe_op op_add (pv 2) (pe_f F_length_of (hr.mono (by omega)) (by rfl) T.g_length_of (pa_cons (pv 0) (pa_cons (pe_fld (pv 3) rfl) pa_nil)))))
      pss_nil) pss_nil)
      pss_nil)))
      (pss_cons (ps_ret (pv 2))
      pss_nil))), ?_⟩
  try dsimp only [cxOf, Cx.nox, Cx.wish]
  repeat walk_at "w"
  refine m_bok hx ?_
  repeat walk_at "w"
  refine Sp2.mk ⟨B, n, rs, hx, rfl, hl, fun v H1 s1 hv => ?_⟩
  repeat walk_at "w"
  refine i_list hv (Ext.refl _) fun J it => ?_
  refine f_for it (fun i σ H' => ∃ u, σ = [some x, some (.str n), some (.int (((rs.take i).map (lenR f B.chains)).sum : Nat)), u] ∧ Same H1 H') ⟨none, rfl, Same.refl _⟩ (fun i σ H' ⟨_, _, s⟩ => s.ext) ?_ ?_
  · rintro i d u σ H' H2 e1 ⟨_, rfl, s2⟩ s3 hu
    rw [List.getElem?_map, Option.map_eq_some_iff] at e1
    obtain ⟨r, e1, rfl⟩ := e1
    have et : ((rs.take (i + 1)).map (lenR f B.chains)).sum = ((rs.take i).map (lenR f B.chains)).sum + lenR f B.chains r := by
      rw [List.take_succ, e1]
      simp
    rw [et]
    repeat walk_at "w"
    refine isi_call T hu ?_
    repeat walk_at "w"
    cases r with
    | call b m =>
      refine iteT ?_
      repeat walk_at "w"
      refine fl_name T hu ?_
      repeat walk_at "w"
      refine Sp2.mk ⟨B, m, hd b m (List.mem_of_getElem? e1), (by walk_at "dt"), rfl, fun H3 s4 => ?_⟩
      repeat walk_at "w"
      refine ⟨some u, ?_, (by walk_at "same")⟩
      simp [lenR]
      omega
    | word b wd =>
      refine iteF ?_
      repeat walk_at "w"
      exact ⟨some u, by simp [lenR], (by walk_at "same")⟩
    | back b =>
      refine iteF ?_
      repeat walk_at "w"
      exact ⟨some u, by simp [lenR], (by walk_at "same")⟩
  · rintro σ H' ⟨_, rfl, s2⟩
    repeat walk_at "w"
    have q2 := q H' (by walk_at "same")
    rw [lenC_eq hl] at q2
    rw [List.length_map, List.take_length]
    exact q2
theorem ok_length_of (T : Tx K mg) : Fd P w K mg base 3 (He.ga K "length_of") ["book", "name"] (sp_length_of 2 K) :=
  len_step T (by omega) (len_step T (by omega) ((noFd 1 T.d_length_of (fun _ _ _ _ _ _ us hl => match us, hl with | [_, _], _ => rfl)).imp fun vs H Q E h => by obtain ⟨_, _, _, _, _, d, _⟩ := h; exact d.elim))
theorem drop_cons {α : Type} {l : List α} {i : Nat} {a : α} (h : l[i]? = some a) : l.drop i = a :: l.drop (i + 1) := by
  rw [List.drop_eq_getElem_cons (List.getElem?_eq_some_iff.mp h).1, (List.getElem?_eq_some_iff.mp h).2]
def sp_put_chain (f : Nat) (K : PySem.W.Frag) : Sp := Sp3 fun x y z H Q => ∃ (B : Book) (n : Str) (p : Addr) (acc : List Row), Deep f B.chains n ∧ Dt K H x (.bok B) ∧ y = .str n ∧ z = .ref p ∧ Ow K H p (acc.map eRw) ∧ acc.length + lenC f B.chains n ≤ 1000 ∧
  ∀ H', But p H H' → Ext H H' → Ow K H' p ((acc ++ unfC f B.chains n acc.length).map eRw) → Q .non H'
def sN_put_chain : List Str := ["book", "name", "told", "end", "index", "rule", "here", "behind"]
theorem sc_put_chain : FnScope sN_put_chain ["book", "name", "told"] (defScope s_put_chain) := ⟨rfl, rfl, rfl, by decide +kernel, rfl, by decide +kernel, by decide +kernel⟩

theorem put_step (T : Tx K mg) {k f : Nat} (hk : 3 ≤ k) (hf : f ≤ 1) (F_put_chain : Fd P w K mg base k (He.ga K "put_chain") ["book", "name", "told"] (sp_put_chain f K)) :
    Fd P w K mg base (k + 1) (He.ga K "put_chain") ["book", "name", "told"] (sp_put_chain (f + 1) K) := by
  have F_length_of := ok_length_of (P := P) (w := w) (base := base) T
  have F_Book_chain := ok_Book_chain (P := P) (w := w) (base := base) T
  refine mkFd T.d_put_chain sc_put_chain (fun _ _ _ _ _ _ us hl => match us, hl with | [_, _, _], _ => rfl) (fun vs H Q E h => Sp3.len h) (fun cdv A outer s H vs Q E hr h => ?_)
  obtain ⟨x, y, z, rfl, B, n, p, acc, hdeep, hx, rfl, rfl, op, hN, q⟩ := h
  refine ⟨_, (pss_cons (ps_set (i := 3) sc_put_chain.nd rfl (.inl rfl) (pe_op op_add (pe_callB cl_lenQ (by rfl) T.b_len PySem.boot_len (pa_cons (pv 2) pa_nil)) (pe_f F_length_of (hr.mono (by omega)) (by rfl) T.g_length_of (pa_cons (pv 0) (pa_cons (pv 1) pa_nil)))))
      (pss_cons (ps_for PassesOwn.never rfl (pi_enum (by rfl) T.b_enumerate (pa_cons (pe_m (pv 0) T.c_Book T.m_Book_chain F_Book_chain (hr.mono (by omega)) (pa_cons (pv 1) pa_nil)) pa_nil)) (pg_tup rfl (pgs_cons (pg_name (i := 4) sc_put_chain.nd rfl (.inl rfl)) (pgs_cons (pg_name (i := 5) sc_put_chain.nd rfl (.inl rfl)) pgs_nil))) (pss_cons (ps_set (i := 6) sc_put_chain.nd rfl (.inl rfl) (pe_callB cl_lenQ (by rfl) T.b_len PySem.boot_len (pa_cons (pv 2) pa_nil)))
      (pss_cons (ps_if (pt_val (pe_callB call_isi (by rfl) T.b_isinstance (by decide +kernel) (pa_cons (pv 5) (pa_cons (pe_glob (v := .ref _) (by rfl) T.g_Word rfl) pa_nil)))) (pss_cons (ps_expr (pe_bm PySem.F.plainAttrs_list PySem.F.slot_list_append PySem.F.type_list_append mt_append (pv 2) (pa_cons (pe_tup (pa_cons (pv 1) (pa_cons (pv 4) (pa_cons (pe_fld (pv 5) rfl) (pa_cons (pe_fld (pv 5) rfl) (pa_cons (pe_op op_add (pv 6) pe_int) pa_nil)))))) pa_nil)))
      pss_nil) (pss_cons (ps_if (pt_val (pe_callB call_isi (by rfl) T.b_isinstance (by decide +kernel) (pa_cons (pv 5) (pa_cons (pe_glob (v := .ref _) (by rfl) T.g_Call rfl) pa_nil)))) (pss_cons (ps_set (i := 7) sc_put_chain.nd rfl (.inl rfl) (pe_op op_add (pe_op op_add (pv 6) pe_int) (pe_f F_length_of (hr.mono (by omega)) (by rfl) T.g_length_of (pa_cons (pv 0) (pa_cons (pe_fld (pv 5) rfl) pa_nil)))))
      (pss_cons (ps_expr (pe_bm PySem.F.plainAttrs_list PySem.F.slot_list_append PySem.F.type_list_append mt_append (pv 2) (pa_cons (pe_tup (pa_cons (pv 1) (pa_cons (pv 4) (pa_cons (pe_fld (pv 5) rfl) (pa_cons (pe_op op_add (pv 6) pe_int) (pa_cons (pv 7) pa_nil)))))) pa_nil)))
      (pss_cons (ps_expr (pe_f F_put_chain (hr.mono (by omega)) (by rfl) T.g_put_chain (pa_cons (pv 0) (pa_cons (pe_fld (pv 5) rfl) (pa_cons (pv 2) pa_nil)))))
      pss_nil))) (pss_cons (ps_expr (pe_bm PySem.F.plainAttrs_list PySem.F.slot_list_append PySem.F.type_list_append mt_append (pv 2) (pa_cons (pe_tup (pa_cons (pv 1) (pa_cons (pv 4) (pa_cons (pe_fld (pv 5) rfl) (pa_cons (pv 3) (pa_cons (pe_op op_add (pv 6) pe_int) pa_nil)))))) pa_nil)))
      pss_nil))
      pss_nil))
      pss_nil)))
      pss_nil)), ?_⟩
  try dsimp only [cxOf, Cx.nox, Cx.wish]
  repeat walk_at "w"
  refine w_lenO op ?_
  repeat walk_at "w"
  obtain ⟨d2, l2⟩ := deep_to hdeep (g := 2) (by omega)
  refine Sp2.mk ⟨B, n, d2, hx, rfl, fun H1 s1 => ?_⟩
  rw [l2]
  repeat walk_at "w"
  refine m_bok (by walk_at "dt") ?_
  repeat walk_at "w"
  obtain ⟨rs, hl, hd⟩ := hdeep
  refine Sp2.mk ⟨B, n, rs, (by walk_at "dt"), rfl, hl, fun v H2 s2 hv => ?_⟩
  repeat walk_at "w"
  refine i_enum hv (Ext.refl _) fun J it => ?_
  have hfull : unfC (f + 1) B.chains n acc.length = unfGo (unfC f B.chains) (lenC f B.chains) n (acc.length + lenC (f + 1) B.chains n) rs 0 acc.length := by
    unfold unfC
    rw [hl]
    rfl
  have hlen : (unfC (f + 1) B.chains n acc.length).length = lenC (f + 1) B.chains n := unfC_len _ _ _ _ ⟨rs, hl, hd⟩
  generalize hfin : acc.length + lenC (f + 1) B.chains n = fin at hfull hN
  rw [show (((acc.map eRw).length : Nat) : Int) + ((lenC (f + 1) B.chains n : Nat) : Int) = (fin : Int) by rw [List.length_map]; omega]
  refine f_for it (fun i σ H' => ∃ (done : List Row) (e4 e5 e6 e7 : Option V), σ = [some x, some (.str n), some (.ref p), some (.int (fin : Nat)), e4, e5, e6, e7] ∧ But p H H' ∧ Ext H2 H' ∧ Ow K H' p ((acc ++ done).map eRw) ∧
    unfC (f + 1) B.chains n acc.length = done ++ unfGo (unfC f B.chains) (lenC f B.chains) n fin (rs.drop i) i (acc.length + done.length)) ⟨[], none, none, none, none, rfl, But.of (by walk_at "same"), Ext.refl _, ?_, ?_⟩ (fun i σ H' ⟨_, _, _, _, _, _, _, x1, _⟩ => x1) ?_ ?_
  · simpa using op.up (H' := H2) (by walk_at "same")
  · simpa using hfull
  · rintro i d u σ H' H3 e1 ⟨done, _, _, _, _, rfl, b3, x3, o3, e3⟩ s3 hu
    obtain ⟨d, e0, rfl⟩ := enumD_get e1
    rw [List.getElem?_map, Option.map_eq_some_iff] at e0
    obtain ⟨r, e0, rfl⟩ := e0
    rw [drop_cons e0] at e3
    have hdl : acc.length + done.length ≤ 1000 := by
      rw [e3, List.length_append] at hlen
      omega
    have o4 := o3.up s3
    have x4 : Ext H2 H3 := (by walk_at "ext")
    have hxx : Dt K H3 x (.bok B) := hx.up (Ext.tr x4 (Same.ext (s2.tr s1)))
    repeat walk_at "w"
    refine w_lenO o4 ?_
    rw [show (((acc ++ done).map eRw).length : Nat) = acc.length + done.length by simp]
    repeat walk_at "w"
    refine isi_word T (by walk_at "dt") ?_
    repeat walk_at "w"
    cases r with
    | word b wd =>
      refine iteT ?_
      repeat walk_at "w"
      refine w_tyO o4 ?_
      repeat walk_at "w"
      refine fl_box T (by walk_at "dt") fun u1 hu1 => ?_
      repeat walk_at "w"
      refine fl_word T (b := b) (w := wd) (by walk_at "dt") ?_
      repeat walk_at "w"
      walk_at "newT"
      intro u2 H4 s4 hu2
      repeat walk_at "w"
      refine w_appO (o4.up s4) (d := eRw ⟨n, i, b, .word wd, acc.length + done.length + 1⟩) (by simpa [eRw, eGo, Rule.box] using hu2) (by simp; omega) fun H5 b5 x5 o5 => ?_
      repeat walk_at "w"
      refine ⟨done ++ [⟨n, i, b, .word wd, acc.length + done.length + 1⟩], _, _, _, _, rfl, b5.tr (but_same (s4.tr s3) b3), (by walk_at "ext"), by simpa using o5, ?_⟩
      rw [e3]
      simp [unfGo, Nat.add_assoc]
    | back b =>
      refine iteF ?_
      repeat walk_at "w"
      refine isi_call T (by walk_at "dt") ?_
      repeat walk_at "w"
      refine iteF ?_
      repeat walk_at "w"
      refine w_tyO o4 ?_
      repeat walk_at "w"
      refine fl_box T (by walk_at "dt") fun u1 hu1 => ?_
      repeat walk_at "w"
      walk_at "newT"
      intro u2 H4 s4 hu2
      repeat walk_at "w"
      refine w_appO (o4.up s4) (d := eRw ⟨n, i, b, .row fin, acc.length + done.length + 1⟩) (by simpa [eRw, eGo, Rule.box] using hu2) (by simp; omega) fun H5 b5 x5 o5 => ?_
      repeat walk_at "w"
      refine ⟨done ++ [⟨n, i, b, .row fin, acc.length + done.length + 1⟩], _, _, _, _, rfl, b5.tr (but_same (s4.tr s3) b3), (by walk_at "ext"), by simpa using o5, ?_⟩
      rw [e3]
      simp [unfGo, Nat.add_assoc]
    | call b m =>
      refine iteF ?_
      repeat walk_at "w"
      refine isi_call T (by walk_at "dt") ?_
      repeat walk_at "w"
      refine iteT ?_
      repeat walk_at "w"
      refine fl_name T (b := b) (n := m) (by walk_at "dt") ?_
      repeat walk_at "w"
      have hdm : Deep f B.chains m := hd b m (List.mem_of_getElem? e0)
      obtain ⟨d3, l3⟩ := deep_to hdm (g := 2) (by omega)
      refine Sp2.mk ⟨B, m, d3, hxx, rfl, fun H4 s4 => ?_⟩
      rw [l3]
      have o5 := o4.up s4
      have x5 : Ext H2 H4 := (by walk_at "ext")
      repeat walk_at "w"
      refine w_tyO o5 ?_
      repeat walk_at "w"
      refine fl_box T (by walk_at "dt") fun u1 hu1 => ?_
      repeat walk_at "w"
      walk_at "newT"
      intro u2 H5 s5 hu2
      repeat walk_at "w"
      refine w_appO (o5.up s5) (d := eRw ⟨n, i, b, .row (acc.length + done.length + 1), acc.length + done.length + 1 + lenC f B.chains m⟩) (by simpa [eRw, eGo, Rule.box] using hu2) (by simp; omega) fun H6 b6 x6 o6 => ?_
      repeat walk_at "w"
      refine fl_name T (b := b) (n := m) (by walk_at "dt") ?_
      repeat walk_at "w"
      have hsub := unfC_len f B.chains m (acc.length + done.length + 1) hdm
      have hall : acc.length + done.length + 1 + lenC f B.chains m ≤ 1000 := by
        rw [e3, List.length_append] at hlen
        simp only [unfGo, List.length_cons, List.length_append] at hlen
        omega
      refine Sp3.mk ⟨B, m, p, acc ++ done ++ [⟨n, i, b, .row (acc.length + done.length + 1), acc.length + done.length + 1 + lenC f B.chains m⟩], hdm, hxx.up (by walk_at "ext"), rfl, rfl, by simpa using o6, by simp; omega, fun H7 b7 x7 o7 => ?_⟩
      repeat walk_at "w"
      refine ⟨done ++ (⟨n, i, b, .row (acc.length + done.length + 1), acc.length + done.length + 1 + lenC f B.chains m⟩ :: unfC f B.chains m (acc.length + done.length + 1)), _, _, _, _, rfl, b7.tr (b6.tr (but_same (s5.tr (s4.tr s3)) b3)), (by walk_at "ext"), ?_, ?_⟩
      · simpa [Nat.add_assoc] using o7
      · rw [e3]
        simp [unfGo, hsub]
        congr 1
        omega
  · rintro σ H' ⟨done, _, _, _, _, rfl, b3, x3, o3, e3⟩
    rw [enumD_len, List.length_map, List.drop_eq_nil_of_le (Nat.le_refl _)] at e3
    repeat walk_at "w"
    refine q H' b3 ?_ ?_
    · exact (by walk_at "ext")
    · rw [e3]
      simpa [unfGo] using o3
theorem ok_put_chain (T : Tx K mg) : Fd P w K mg base 5 (He.ga K "put_chain") ["book", "name", "told"] (sp_put_chain 2 K) :=
  put_step T (by omega) (by omega) (put_step T (by omega) (by omega) ((noFd 3 T.d_put_chain (fun _ _ _ _ _ _ us hl => match us, hl with | [_, _, _], _ => rfl)).imp fun vs H Q E h => by obtain ⟨_, _, _, _, _, _, _, _, d, _⟩ := h; exact d.elim))
def sp_unfolded (K : PySem.W.Frag) : Sp := Sp1 fun x H Q => ∃ (B : Book), Deep 2 B.chains "main" ∧ lenC 2 B.chains "main" ≤ 1000 ∧ Dt K H x (.bok B) ∧ ∀ v H', Same H H' → Dt K H' v (.lst ((unfC 2 B.chains "main" 0).map eRw)) → Q v H'
def sN_unfolded : List Str := ["book", "told"]
theorem sc_unfolded : FnScope sN_unfolded ["book"] (defScope s_unfolded) := ⟨rfl, rfl, rfl, by decide +kernel, rfl, by decide +kernel, by decide +kernel⟩

theorem ok_unfolded (T : Tx K mg) : Fd P w K mg base 6 (He.ga K "unfolded") ["book"] (sp_unfolded K) := by
  have F_put_chain := ok_put_chain (P := P) (w := w) (base := base) T
  refine mkFd T.d_unfolded sc_unfolded (fun _ _ _ _ _ _ us hl => match us, hl with | [_], _ => rfl) (fun vs H Q E h => Sp1.len h) (fun cdv A outer s H vs Q E hr h => ?_)
  obtain ⟨x, rfl, B, hd, hN, hx, k⟩ := h
  refine ⟨_, (pss_cons (ps_set (i := 1) sc_unfolded.nd rfl (.inl rfl) (pe_lst pa_nil))
      (pss_cons (ps_expr (pe_f F_put_chain (hr.mono (by omega)) (by rfl) T.g_put_chain (pa_cons (pv 0) (pa_cons pe_str (pa_cons (pv 1) pa_nil)))))
      (pss_cons (ps_ret (pe_fz (pv 1)))
      pss_nil))), ?_⟩
  try dsimp only [cxOf, Cx.nox, Cx.wish]
  repeat walk_at "w"
  walk_at "newO"
  intro p H1 np s1 o1
  repeat walk_at "w"
  refine Sp3.mk ⟨B, "main", p, [], hd, (by walk_at "dt"), rfl, rfl, o1, by simpa using hN, fun H2 b2 x2 o2 => ?_⟩
  repeat walk_at "w"
  refine w_outS o2 (b2.same s1 np) np fun H3 s3 hr => ?_
  exact k _ _ s3 (by simpa using hr)
abbrev eStp (s : Str × Nat × Bool) : D := .tup [.str s.1, .int (s.2.1 : Nat), .bl s.2.2]
def eOS : Option Str → D
  | none => .non
  | some s => .str s
def ChOk (k : Nat) (ch : Chs) : Prop := ∀ n rs, lookD ch n = some rs → ∀ r ∈ rs, r.box.length = k
def sp_read_chain (f : Nat) (K : PySem.W.Frag) : Sp := Sp4 fun x y z u H Q => ∃ (B : Book) (n : Str) (pt : List Int) (p : Addr) (acc : Steps), Deep f B.chains n ∧ ChOk pt.length B.chains ∧ Dt K H x (.bok B) ∧ y = .str n ∧ Dt K H z (eInts pt) ∧ u = .ref p ∧ Ow K H p (acc.map eStp) ∧ acc.length + lenC f B.chains n ≤ 1000 ∧
  ∀ v H', But p H H' → Ext H H' → Ow K H' p ((acc ++ (readC f B.chains pt n).1).map eStp) → Dt K H' v (eOS (readC f B.chains pt n).2) → Q v H'
def sN_read_chain : List Str := ["book", "name", "parcel", "steps", "index", "rule", "fits", "word"]
theorem sc_read_chain : FnScope sN_read_chain ["book", "name", "parcel", "steps"] (defScope s_read_chain) := ⟨rfl, rfl, rfl, by decide +kernel, rfl, by decide +kernel, by decide +kernel⟩

theorem read_step (T : Tx K mg) {k f : Nat} (hk : 3 ≤ k) (F_read_chain : Fd P w K mg base k (He.ga K "read_chain") ["book", "name", "parcel", "steps"] (sp_read_chain f K)) :
    Fd P w K mg base (k + 1) (He.ga K "read_chain") ["book", "name", "parcel", "steps"] (sp_read_chain (f + 1) K) := by
  have F_Book_chain := ok_Book_chain (P := P) (w := w) (base := base) T
  have F_Word_fits := ok_Word_fits (P := P) (w := w) (base := base) T
  have F_Back_fits := ok_Back_fits (P := P) (w := w) (base := base) T
  have F_Call_fits := ok_Call_fits (P := P) (w := w) (base := base) T
  refine mkFd T.d_read_chain sc_read_chain (fun _ _ _ _ _ _ us hl => match us, hl with | [_, _, _, _], _ => rfl) (fun vs H Q E h => Sp4.len h) (fun cdv A outer s H vs Q E hr h => ?_)
  obtain ⟨x, y, z, u, rfl, B, n, pt, p, acc, ⟨rs, hl, hd⟩, hbx, hx, rfl, hz, rfl, op, hN, q⟩ := h
  refine ⟨_, (pss_cons (ps_for PassesOwn.never rfl (pi_enum (by rfl) T.b_enumerate (pa_cons (pe_m (pv 0) T.c_Book T.m_Book_chain F_Book_chain (hr.mono (by omega)) (pa_cons (pv 1) pa_nil)) pa_nil)) (pg_tup rfl (pgs_cons (pg_name (i := 4) sc_read_chain.nd rfl (.inl rfl)) (pgs_cons (pg_name (i := 5) sc_read_chain.nd rfl (.inl rfl)) pgs_nil))) (pss_cons (ps_set (i := 6) sc_read_chain.nd rfl (.inl rfl) (PE.or (pe_m (pv 5) T.c_Word T.m_Word_fits F_Word_fits (hr.mono (by omega)) (pa_cons (pv 2) pa_nil)) (PE.or (pe_m (pv 5) T.c_Back T.m_Back_fits F_Back_fits (hr.mono (by omega)) (pa_cons (pv 2) pa_nil)) (pe_m (pv 5) T.c_Call T.m_Call_fits F_Call_fits (hr.mono (by omega)) (pa_cons (pv 2) pa_nil)))))
      (pss_cons (ps_expr (pe_bm PySem.F.plainAttrs_list PySem.F.slot_list_append PySem.F.type_list_append mt_append (pv 3) (pa_cons (pe_tup (pa_cons (pv 1) (pa_cons (pv 4) (pa_cons (pv 6) pa_nil)))) pa_nil)))
      (pss_cons (ps_if (pt_not (pt_val (pv 6))) (pss_cons ps_continue
      pss_nil) pss_nil)
      (pss_cons (ps_if (pt_val (pe_callB call_isi (by rfl) T.b_isinstance (by decide +kernel) (pa_cons (pv 5) (pa_cons (pe_glob (v := .ref _) (by rfl) T.g_Word rfl) pa_nil)))) (pss_cons (ps_ret (pe_fld (pv 5) rfl))
      pss_nil) pss_nil)
      (pss_cons (ps_if (pt_not (pt_val (pe_callB call_isi (by rfl) T.b_isinstance (by decide +kernel) (pa_cons (pv 5) (pa_cons (pe_glob (v := .ref _) (by rfl) T.g_Call rfl) pa_nil))))) (pss_cons (ps_ret pe_non)
      pss_nil) pss_nil)
      (pss_cons (ps_set (i := 7) sc_read_chain.nd rfl (.inl rfl) (pe_f F_read_chain (hr.mono (by omega)) (by rfl) T.g_read_chain (pa_cons (pv 0) (pa_cons (pe_fld (pv 5) rfl) (pa_cons (pv 2) (pa_cons (pv 3) pa_nil))))))
      (pss_cons (ps_if (pt_cmpR op_notN1 (pv 7) pe_non (nomark _)) (pss_cons (ps_ret (pv 7))
      pss_nil) pss_nil)
      pss_nil))))))))
      (pss_cons (ps_ret pe_non)
      pss_nil)), ?_⟩
  try dsimp only [cxOf, Cx.nox, Cx.wish]
  repeat walk_at "w"
  refine m_bok hx ?_
  repeat walk_at "w"
  refine Sp2.mk ⟨B, n, rs, hx, rfl, hl, fun v H1 s1 hv => ?_⟩
  repeat walk_at "w"
  refine i_enum hv (Ext.refl _) fun J it => ?_
  have hfull : readC (f + 1) B.chains pt n = readGo (readC f B.chains pt) n pt rs 0 := by
    unfold readC
    rw [hl]
    rfl
  rw [hfull] at q
  have hlen : (readGo (readC f B.chains pt) n pt rs 0).1.length ≤ lenC (f + 1) B.chains n := by
    rw [← hfull]
    exact readC_len _ _ _ _ ⟨rs, hl, hd⟩
  refine f_for it (fun i σ H' => ∃ (done : Steps) (e4 e5 e6 e7 : Option V), σ = [some x, some (.str n), some z, some (.ref p), e4, e5, e6, e7] ∧ But p H H' ∧ Ext H1 H' ∧ Ow K H' p ((acc ++ done).map eStp) ∧
    readGo (readC f B.chains pt) n pt rs 0 = (done ++ (readGo (readC f B.chains pt) n pt (rs.drop i) i).1, (readGo (readC f B.chains pt) n pt (rs.drop i) i).2) ∧ done.length + ((rs.drop i).map (lenR f B.chains)).sum ≤ lenC (f + 1) B.chains n) ⟨[], none, none, none, none, rfl, But.of (by walk_at "same"), Ext.refl _, ?_, ?_, ?_⟩ (fun i σ H' ⟨_, _, _, _, _, _, _, x1, _⟩ => x1) ?_ ?_
  · simpa using op.up (H' := H1) (by walk_at "same")
  · simp
  · rw [lenC_eq hl]
    simp
  · rintro i d u σ H' H3 e1 ⟨done, _, _, _, _, rfl, b3, x3, o3, e3, hsm⟩ s3 hu
    obtain ⟨d, e0, rfl⟩ := enumD_get e1
    rw [List.getElem?_map, Option.map_eq_some_iff] at e0
    obtain ⟨r, e0, rfl⟩ := e0
    have hmem := List.mem_of_getElem? e0
    have hrb : r.box.length = pt.length := hbx n rs hl r hmem
    rw [drop_cons e0] at e3 hsm
    rw [List.map_cons, List.sum_cons] at hsm
    have hp1 := lenR_pos (f := f) (ch := B.chains) r
    have hdl : acc.length + (done.length + (readGo (readC f B.chains pt) n pt (r :: rs.drop (i + 1)) i).1.length) ≤ 1000 := by
      rw [e3, List.length_append] at hlen
      omega
    have o4 := o3.up s3
    have x4 : Ext H1 H3 := (by walk_at "ext")
    have hxx : Dt K H3 x (.bok B) := hx.up (Ext.tr x4 (Same.ext s1))
    have hzz : Dt K H3 z (eInts pt) := hz.up (Ext.tr x4 (Same.ext s1))
    repeat walk_at "w"
    refine w_rule1 (x := u_) rfl hu_ (by decide) ?_
    repeat walk_at "w"
    refine Sp2.mk ⟨r, pt, hrb, hu_, hzz, fun H4 s4 => ?_⟩
    repeat walk_at "w"
    refine w_tyO (o4.up s4) ?_
    repeat walk_at "w"
    walk_at "newT"
    intro u2 H5 s5 hu2
    repeat walk_at "w"
    have o6 := (o4.up s4).up s5
    refine w_appO o6 (d := eStp (n, i, hasB r.box pt)) hu2 (by simp; omega) fun H6 b6 x6 o7 => ?_
    have x7 : Ext H3 H6 := Ext.tr x6 (Same.ext (s5.tr s4))
    have x8 : Ext H1 H6 := Ext.tr x7 x4
    have b7 : But p H H6 := b6.tr (but_same (s5.tr (s4.tr s3)) b3)
    repeat walk_at "w"
    cases hf : hasB r.box pt with
    | false =>
      have eG : readGo (readC f B.chains pt) n pt (r :: rs.drop (i + 1)) i = ((n, i, false) :: (readGo (readC f B.chains pt) n pt (rs.drop (i + 1)) (i + 1)).1, (readGo (readC f B.chains pt) n pt (rs.drop (i + 1)) (i + 1)).2) := readGo_no hf
      rw [eG] at e3
      rw [hf] at o7
      repeat walk_at "w"
      exact ⟨done ++ [(n, i, false)], _, _, _, _, rfl, b7, x8, by simpa using o7, by rw [e3]; simp, by rw [List.length_append, List.length_singleton]; omega⟩
    | true =>
      rw [hf] at o7
      repeat walk_at "w"
      refine isi_word T (hu_.up x7) ?_
      repeat walk_at "w"
      cases r with
      | word b wd =>
        have eG : readGo (readC f B.chains pt) n pt (.word b wd :: rs.drop (i + 1)) i = ([(n, i, true)], some wd) := by
          first | exact readGo_word hf | exact readGo_back hf
        rw [eG] at e3
        refine iteT ?_
        repeat walk_at "w"
        refine fl_word T (hu_.up x7) ?_
        rw [e3] at q
        refine q _ H6 b7 (by walk_at "ext") ?_ (.str _)
        simpa using o7
      | back b =>
        have eG : readGo (readC f B.chains pt) n pt (.back b :: rs.drop (i + 1)) i = ([(n, i, true)], none) := by
          first | exact readGo_word hf | exact readGo_back hf
        rw [eG] at e3
        refine iteF ?_
        repeat walk_at "w"
        refine isi_call T (hu_.up x7) ?_
        repeat walk_at "w"
        refine iteT ?_
        repeat walk_at "w"
        rw [e3] at q
        refine q _ H6 b7 (by walk_at "ext") ?_ .non
        simpa using o7
      | call b m =>
        refine iteF ?_
        repeat walk_at "w"
        refine isi_call T (hu_.up x7) ?_
        repeat walk_at "w"
        refine iteF ?_
        repeat walk_at "w"
        refine fl_name T (hu_.up x7) ?_
        repeat walk_at "w"
        have hdm := hd b m hmem
        have hsl := readC_len f B.chains pt m hdm
        have hle : lenR f B.chains (.call b m) = 1 + lenC f B.chains m := rfl
        refine Sp4.mk ⟨B, m, pt, p, acc ++ done ++ [(n, i, true)], hdm, hbx, hxx.up x7, rfl, hzz.up x7, rfl, by simpa using o7, by simp; omega, fun v H7 b8 x9 o8 hv8 => ?_⟩
        repeat walk_at "w"
        rcases hh : readC f B.chains pt m with ⟨ss, _ | wd⟩
        · rw [hh] at o8 hv8 hsl
          have eG : readGo (readC f B.chains pt) n pt (.call b m :: rs.drop (i + 1)) i = ((n, i, true) :: (ss ++ (readGo (readC f B.chains pt) n pt (rs.drop (i + 1)) (i + 1)).1), (readGo (readC f B.chains pt) n pt (rs.drop (i + 1)) (i + 1)).2) := by
            first | exact readGo_callN hf hh | exact readGo_callS hf hh
          rw [eG] at e3
          cases hv8
          repeat walk_at "w"
          exact ⟨done ++ ((n, i, true) :: ss), _, _, _, _, rfl, b8.tr b7, (by walk_at "ext"), by simpa using o8, by rw [e3]; simp, by rw [List.length_append, List.length_cons]; simp at hsl; omega⟩
        · rw [hh] at o8 hv8
          have eG : readGo (readC f B.chains pt) n pt (.call b m :: rs.drop (i + 1)) i = ((n, i, true) :: ss, some wd) := by
            first | exact readGo_callN hf hh | exact readGo_callS hf hh
          rw [eG] at e3
          cases hv8
          repeat walk_at "w"
          rw [e3] at q
          refine q _ H7 (b8.tr b7) (by walk_at "ext") ?_ (.str _)
          simpa using o8
  · rintro σ H' ⟨done, _, _, _, _, rfl, b3, x3, o3, e3, _⟩
    rw [enumD_len, List.length_map, List.drop_eq_nil_of_le (Nat.le_refl _)] at e3
    repeat walk_at "w"
    rw [e3] at q
    refine q _ H' b3 (by walk_at "ext") ?_ .non
    simpa [readGo] using o3
theorem ok_read_chain (T : Tx K mg) : Fd P w K mg base 5 (He.ga K "read_chain") ["book", "name", "parcel", "steps"] (sp_read_chain 2 K) :=
  read_step T (by omega) (read_step T (by omega) ((noFd 3 T.d_read_chain (fun _ _ _ _ _ _ us hl => match us, hl with | [_, _, _, _], _ => rfl)).imp fun vs H Q E h => by obtain ⟨_, _, _, _, _, _, _, _, _, _, d, _⟩ := h; exact d.elim))
def sp_word_of (K : PySem.W.Frag) : Sp := Sp2 fun x y H Q => ∃ (B : Book) (pt : List Int), Deep 2 B.chains "main" ∧ lenC 2 B.chains "main" ≤ 1000 ∧ ChOk pt.length B.chains ∧ Dt K H x (.bok B) ∧ Dt K H y (eInts pt) ∧ ∀ H', Same H H' → Q (.str (wordB 2 B pt)) H'
def sN_word_of : List Str := ["book", "parcel", "word"]
theorem sc_word_of : FnScope sN_word_of ["book", "parcel"] (defScope s_word_of) := ⟨rfl, rfl, rfl, by decide +kernel, rfl, by decide +kernel, by decide +kernel⟩

theorem ok_word_of (T : Tx K mg) : Fd P w K mg base 6 (He.ga K "word_of") ["book", "parcel"] (sp_word_of K) := by
  have F_read_chain := ok_read_chain (P := P) (w := w) (base := base) T
  refine mkFd T.d_word_of sc_word_of (fun _ _ _ _ _ _ us hl => match us, hl with | [_, _], _ => rfl) (fun vs H Q E h => Sp2.len h) (fun cdv A outer s H vs Q E hr h => ?_)
  obtain ⟨x, y, rfl, B, pt, hd, hN, hbx, hx, hy, k⟩ := h
  refine ⟨_, (pss_cons (ps_set (i := 2) sc_word_of.nd rfl (.inl rfl) (pe_f F_read_chain (hr.mono (by omega)) (by rfl) T.g_read_chain (pa_cons (pv 0) (pa_cons pe_str (pa_cons (pv 1) (pa_cons (pe_lst pa_nil) pa_nil))))))
      (pss_cons (ps_if (pt_cmpR op_isN1 (pv 2) pe_non (nomark _)) (pss_cons (ps_ret (pe_fld (pv 0) rfl))
      pss_nil) pss_nil)
      (pss_cons (ps_ret (pv 2))
      pss_nil))), ?_⟩
  try dsimp only [cxOf, Cx.nox, Cx.wish]
  repeat walk_at "w"
  walk_at "newO"
  intro p H1 np s1 o1
  repeat walk_at "w"
  refine Sp4.mk ⟨B, "main", pt, p, [], hd, hbx, (by walk_at "dt"), rfl, (by walk_at "dt"), rfl, o1, by simpa using hN, fun v H2 b2 x2 o2 hv => ?_⟩
  have s2 : Same H H2 := b2.same s1 np
  have kk := k H2 s2
  unfold wordB at kk
  repeat walk_at "w"
  cases hh : (readC 2 B.chains pt "main").2 with
  | none =>
    rw [hh] at hv kk
    cases hv
    repeat walk_at "w"
    exact fl_dflt T (by walk_at "dt") kk
  | some wd =>
    rw [hh] at hv kk
    cases hv
    repeat walk_at "w"
    exact kk
end
end
section
open PySem PySem.Spec PyProof.Rows L2
def callN : Rule → Option Str
  | .call _ n => some n
  | _ => none
def callsR (rs : List Rule) : List Str := rs.filterMap callN
theorem lookD_mem {β : Type} {l : List (Str × β)} {n : Str} {b : β} (h : lookD l n = some b) : (n, b) ∈ l := by
  unfold lookD at h
  rw [Option.map_eq_some_iff] at h
  obtain ⟨⟨m, c⟩, h1, h2⟩ := h
  have h3 := List.find?_some h1
  have h4 := List.mem_of_find?_eq_some h1
  simp at h3 h2
  subst h3 h2
  exact h4
theorem lookD_of {β : Type} : ∀ {l : List (Str × β)} {n : Str} {b : β}, (l.map (·.1)).Nodup → (n, b) ∈ l → lookD l n = some b
  | (m, c) :: l, n, b, nd, h => by
    rw [List.map_cons, List.nodup_cons] at nd
    rcases List.mem_cons.mp h with h | h
    · cases h
      simp [lookD]
    · have e : m ≠ n := fun z => nd.1 (by rw [z]; exact List.mem_map.mpr ⟨(n, b), h, rfl⟩)
      have ih := lookD_of nd.2 h
      unfold lookD at ih ⊢
      rw [List.find?_cons, decide_eq_false e]
      exact ih
theorem lookD_none {β : Type} {l : List (Str × β)} {n : Str} (h : n ∉ l.map (·.1)) : lookD l n = none := by
  cases e : lookD l n with
  | none => rfl
  | some b => exact (h (List.mem_map.mpr ⟨(n, b), lookD_mem e, rfl⟩)).elim
theorem lookD_any {α β : Type} [DecidableEq α] {l : List (α × β)} {a : α} {c : β} (h : lookD l a = some c) : (l.any fun p => decide (p.1 = a)) = true := by
  unfold lookD at h
  rw [Option.map_eq_some_iff] at h
  obtain ⟨p, h1, h2⟩ := h
  have h3 := List.find?_some h1
  exact List.any_eq_true.mpr ⟨p, List.mem_of_find?_eq_some h1, h3⟩
theorem putD_new {α β : Type} [DecidableEq α] {l : List (α × β)} {n : α} {b : β} (h : lookD l n = none) : putD l n b = l ++ [(n, b)] := by
  unfold putD
  unfold lookD at h
  rw [Option.map_eq_none_iff, List.find?_eq_none] at h
  rw [if_neg]
  simp only [List.any_eq_true, not_exists]
  rintro x ⟨h1, h2⟩
  exact h x h1 h2
theorem lookD_app {α β : Type} [DecidableEq α] {l : List (α × β)} {n m : α} {b : β} : lookD (l ++ [(n, b)]) m = match lookD l m with
    | some c => some c
    | none => if n = m then some b else none := by
  unfold lookD
  rw [List.find?_append]
  cases h : l.find? (fun p => decide (p.1 = m)) with
  | some c => rfl
  | none =>
    by_cases e : n = m
    · simp [e]
    · simp [e]
structure BkOk (chs : Chs) : Prop where
  nodup : (chs.map (·.1)).Nodup
  deep : ∀ p ∈ chs, Deep 2 chs p.1
  deepL : ∀ p ∈ chs, Deep chs.length chs p.1
  main : ∃ rs, (("main" : Str), rs) ∈ chs
  len : lenC 2 chs "main" ≤ 120
  words : ∀ p ∈ chs, ∀ r ∈ p.2, r.wordOk
  small : chs.length ≤ 100
  smalls : ∀ p ∈ chs, p.2.length ≤ 1000
theorem len_sum {chs : Chs} {n : Str} {rs : List Rule} (h : lookD chs n = some rs) (d : Deep 2 chs n) : (lenC 2 chs n : Int) = rs.length + ((callsR rs).map fun m => ((lenC 2 chs m : Nat) : Int)).sum := by
  rw [lenC_eq h]
  obtain ⟨rs', h', hd⟩ := d
  rw [h] at h'
  cases h'
  clear h
  induction rs with
  | nil => rfl
  | cons r rs ih =>
    have ih := ih fun b m q => hd b m (by simp [q])
    cases r with
    | word b w =>
      rw [show callsR (.word b w :: rs) = callsR rs from rfl, List.map_cons, List.sum_cons, show lenR 1 chs (.word b w) = 1 from rfl, List.length_cons]
      push_cast
      omega
    | back b =>
      rw [show callsR (.back b :: rs) = callsR rs from rfl, List.map_cons, List.sum_cons, show lenR 1 chs (.back b) = 1 from rfl, List.length_cons]
      push_cast
      omega
    | call b m =>
      have e : lenC 2 chs m = lenC 1 chs m := (deep_up (hd b m (by simp))).2
      rw [show callsR (.call b m :: rs) = m :: callsR rs from rfl, List.map_cons, List.sum_cons, show lenR 1 chs (.call b m) = 1 + lenC 1 chs m from rfl, List.length_cons, List.map_cons, List.sum_cons, e]
      push_cast
      omega
section
variable {P : Program} {w : World} {K : PySem.W.Frag} {mg : Str → Option Value} {base : Heap}
def sp_calls_of (K : PySem.W.Frag) : Sp := Sp1 fun x H Q => ∃ (rs : List Rule), rs.length ≤ 1000 ∧ Dt K H x (.lst (rs.map D.rul)) ∧ ∀ v H', Same H H' → Dt K H' v (.lst ((callsR rs).map D.str)) → Q v H'
def sN_calls_of : List Str := ["rules", "rule"]
theorem sc_calls_of : FnScope sN_calls_of ["rules"] (defScope s_calls_of) := ⟨rfl, rfl, rfl, by decide +kernel, rfl, by decide +kernel, by decide +kernel⟩

theorem ok_calls_of (T : Tx K mg) : Fd P w K mg base 1 (He.ga K "calls_of") ["rules"] (sp_calls_of K) := by
  refine mkFd T.d_calls_of sc_calls_of (fun _ _ _ _ _ _ us hl => match us, hl with | [_], _ => rfl) (fun vs H Q E h => Sp1.len h) (fun cdv A outer s H vs Q E hr h => ?_)
  obtain ⟨x, rfl, rs, hz, hx, k⟩ := h
  refine ⟨_, (pss_cons (ps_ret (pe_fz (pe_lc (own := [("rule", 1)]) rfl sc_calls_of.nd (pi_list (pv 0)) (blkOk_by (own := [("rule", 1)]) (N := sN_calls_of) (sc := defScope s_calls_of) (by decide +kernel)) (fun _ _ _ _ _ => (pg_name (i := 1) sc_calls_of.nd rfl (.inl rfl))) (fun _ _ _ _ _ => (pts_one (pt_val (pe_callB (show CallR _ _ (rIsi K) from call_isi) (by rfl) T.b_isinstance (by decide +kernel) (pa_cons (pv 1) (pa_cons (pe_glob (v := .ref _) (by rfl) T.g_Call rfl) pa_nil)))))) (fun _ _ _ _ _ => (show PE _ _ (tFld K _ _) from pe_fld (pv 1) rfl)))))
      pss_nil), ?_⟩
  try dsimp only [cxOf, Cx.nox, Cx.wish]
  repeat walk_at "w"
  refine i_list hx (Ext.refl _) fun J it => ?_
  refine f_lc it (fun r => (callN r).map D.str) (by omega) (fun H' s => s.ext) (fun i r u H' Y N e s1 hu hY hN => ?_) fun p H' xs np s1 hp r => ?_
  · repeat walk_at "w"
    refine ⟨rfl, ?_⟩
    repeat walk_at "w"
    refine isi_call T hu ?_
    repeat walk_at "w"
    cases r with
    | call b n =>
      refine iteT ?_
      repeat walk_at "w"
      refine fl_name T hu ?_
      exact hY _ _ _ rfl (Same.refl _) (.str _)
    | word b wd =>
      refine iteF ?_
      exact hN _ rfl (Same.refl _)
    | back b =>
      refine iteF ?_
      exact hN _ rfl (Same.refl _)
  · refine lcF np s1 hp r fun u H2 s2 hu => ?_
    refine k _ _ s2 ?_
    rw [callsR, List.map_filterMap]
    exact hu
def sp_Book_need_calls (K : PySem.W.Frag) : Sp := Sp2 fun x y H Q => ∃ (chs : Chs) (n : Str) (rs : List Rule), BkC K H x chs ∧ y = .str n ∧ lookD chs n = some rs ∧ rs.length ≤ 1000 ∧ (∀ m ∈ callsR rs, (lookD chs m).isSome = true) ∧ ∀ H', Same H H' → Q .non H'
def sN_Book_need_calls : List Str := ["self", "name", "one"]
theorem sc_Book_need_calls : FnScope sN_Book_need_calls ["self", "name"] (defScope s_Book_need_calls) := ⟨rfl, rfl, rfl, by decide +kernel, rfl, by decide +kernel, by decide +kernel⟩

theorem ok_Book_need_calls (T : Tx K mg) : Fd P w K mg base 2 (He.ma K (He.ga K "Book") "need_calls") ["self", "name"] (sp_Book_need_calls K) := by
  have F_calls_of := ok_calls_of (P := P) (w := w) (base := base) T
  refine mkFd T.d_Book_need_calls sc_Book_need_calls (fun _ _ _ _ _ _ us hl => match us, hl with | [_, _], _ => rfl) (fun vs H Q E h => Sp2.len h) (fun cdv A outer s H vs Q E hr h => ?_)
  obtain ⟨x, y, rfl, chs, n, rs, hx, rfl, hl, hz, hc, k⟩ := h
  refine ⟨_, (pss_cons (ps_for PassesOwn.never rfl (pi_list (pe_f F_calls_of (hr.mono (by omega)) (by rfl) T.g_calls_of (pa_cons (pe_dget (hu_of hr) (pe_fld (pv 0) rfl) (pv 1) (fun _ _ => rfl)) pa_nil))) (pg_name (i := 2) sc_Book_need_calls.nd rfl (.inl rfl)) (pss_cons (ps_if (pt_cmp (pc_dnotin (hu_of hr) (pv 2) (pe_fld (pv 0) rfl))) (pss_cons ps_never
      pss_nil) pss_nil)
      pss_nil))
      pss_nil), ?_⟩
  try dsimp only [cxOf, Cx.nox, Cx.wish]
  repeat walk_at "w"
  refine fl_chainsC T hx fun c hc2 => ?_
  repeat walk_at "w"
  refine dS_get hc2.di (d := .lst (rs.map D.rul)) (by rw [look_eCh, hl]; rfl) ?_
  refine At.of fun u hu => ?_
  repeat walk_at "w"
  refine Sp1.mk ⟨rs, hz, hu, fun v H1 s1 hv => ?_⟩
  repeat walk_at "w"
  refine i_list hv (Ext.refl _) fun J it => ?_
  refine f_for it (fun i σ H' => ∃ e, σ = [some x, some (.str n), e] ∧ Same H1 H') ⟨_, rfl, Same.refl _⟩ (fun i σ H' ⟨_, _, s⟩ => s.ext) ?_ ?_
  · rintro i d u σ H' H2 e1 ⟨_, rfl, s2⟩ s3 hu
    rw [List.getElem?_map, Option.map_eq_some_iff] at e1
    obtain ⟨m, e1, rfl⟩ := e1
    cases hu
    have hm := hc m (List.mem_of_getElem? e1)
    repeat walk_at "w"
    refine fl_chainsC T (hx.up (by walk_at "ext")) fun c hc2 => ?_
    repeat walk_at "w"
    refine dS_nin hc2.di ?_
    rw [look_eCh, Option.isSome_map, hm]
    repeat walk_at "w"
    exact ⟨_, rfl, (by walk_at "same")⟩
  · rintro σ H' ⟨_, rfl, s2⟩
    repeat walk_at "w"
    exact k H' (by walk_at "same")
def sp_Book_told (K : PySem.W.Frag) : Sp := Sp1 fun x H Q => ∃ (B : Book), B.chains.length ≤ 1000 ∧ (∀ p ∈ B.chains, p.2.length ≤ 1000) ∧ Dt K H x (.bok B) ∧ ∀ v H', Same H H' → Dt K H' v (.tup [.str B.dflt, .lst (B.chains.map fun p => .tup [.str p.1, .lst (p.2.map eRule)])]) → Q v H'
def sN_Book_told : List Str := ["self", "chains", "name", "rules", "rule"]
theorem sc_Book_told : FnScope sN_Book_told ["self"] (defScope s_Book_told) := ⟨rfl, rfl, rfl, by decide +kernel, rfl, by decide +kernel, by decide +kernel⟩

theorem ok_Book_told (T : Tx K mg) : Fd P w K mg base 2 (He.ma K (He.ga K "Book") "told") ["self"] (sp_Book_told K) := by
  have F_Word_told := ok_Word_told (P := P) (w := w) (base := base) T
  have F_Back_told := ok_Back_told (P := P) (w := w) (base := base) T
  have F_Call_told := ok_Call_told (P := P) (w := w) (base := base) T
  refine mkFd T.d_Book_told sc_Book_told (fun _ _ _ _ _ _ us hl => match us, hl with | [_], _ => rfl) (fun vs H Q E h => Sp1.len h) (fun cdv A outer s H vs Q E hr h => ?_)
  obtain ⟨x, rfl, B, hz, hzs, hx, k⟩ := h
  refine ⟨_, (pss_cons (ps_set (i := 1) sc_Book_told.nd rfl (.inl rfl) (pe_lst pa_nil))
      (pss_cons (ps_for PassesOwn.never rfl (pi_items (pe_fld (pv 0) rfl)) (pg_tup rfl (pgs_cons (pg_name (i := 2) sc_Book_told.nd rfl (.inl rfl)) (pgs_cons (pg_name (i := 3) sc_Book_told.nd rfl (.inl rfl)) pgs_nil))) (pss_cons (ps_expr (pe_bm PySem.F.plainAttrs_list PySem.F.slot_list_append PySem.F.type_list_append mt_append (pv 1) (pa_cons (pe_tup (pa_cons (pv 2) (pa_cons (pe_fz (pe_lc (own := [("rule", 4)]) rfl sc_Book_told.nd (pi_list (pv 3)) (blkOk_by (own := [("rule", 4)]) (N := sN_Book_told) (sc := defScope s_Book_told) (by decide +kernel)) (fun _ _ _ _ _ => (pg_name (i := 4) sc_Book_told.nd rfl (.inl rfl))) (fun _ _ _ _ _ => pts_nil) (fun _ _ _ _ _ => (PE.or (pe_m0 (pv 4) T.c_Word T.m_Word_told F_Word_told (hr.mono (by omega))) (PE.or (pe_m0 (pv 4) T.c_Back T.m_Back_told F_Back_told (hr.mono (by omega))) (pe_m0 (pv 4) T.c_Call T.m_Call_told F_Call_told (hr.mono (by omega)))))))) pa_nil))) pa_nil)))
      pss_nil))
      (pss_cons (ps_ret (pe_tup (pa_cons (pe_fld (pv 0) rfl) (pa_cons (pe_fz (pv 1)) pa_nil))))
      pss_nil))), ?_⟩
  try dsimp only [cxOf, Cx.nox, Cx.wish]
  repeat walk_at "w"
  walk_at "newO"
  intro p H1 np s1 o1
  repeat walk_at "w"
  refine fl_chains T (hx.up (by walk_at "ext")) fun c hc => ?_
  repeat walk_at "w"
  refine i_items hc (Ext.refl _) fun J it => ?_
  refine f_for it (fun i σ H' => ∃ e2 e3, σ = [some x, some (.ref p), e2, e3, none] ∧ Same H H' ∧ Ext H1 H' ∧ Ow K H' p ((B.chains.take i).map fun p => .tup [.str p.1, .lst (p.2.map eRule)])) ⟨_, _, rfl, s1, Ext.refl _, o1⟩ (fun i σ H' ⟨_, _, _, _, s, _⟩ => s) ?_ ?_
  · rintro i d u σ H' H2 e1 ⟨_, _, rfl, s2, x2, o2⟩ s3 hu
    rw [List.getElem?_map, Option.map_eq_some_iff] at e1
    obtain ⟨⟨n, rs⟩, e1, rfl⟩ := e1
    have hu : Dt K H2 u (.tup [.str n, .lst (rs.map D.rul)]) := hu
    have hzr : rs.length ≤ 1000 := hzs _ (List.mem_of_getElem? e1)
    repeat walk_at "w"
    refine w_tyO (o2.up s3) ?_
    repeat walk_at "w"
    refine i_list hu_ (Ext.refl _) fun J2 it2 => ?_
    refine f_lc it2 (fun r => some (eRule r)) (by omega) (fun H' s => s.ext) (fun i r u H' Y N e s1 hu hY hN => ?_) fun p2 H4 xs np2 s4 hp4 r => ?_
    · repeat walk_at "w"
      refine ⟨rfl, ?_⟩
      repeat walk_at "w"
      refine w_rule3 (x := u) rfl hu (by decide) (fun b wd e => ?_) (fun b e => ?_) (fun b m e => ?_)
      · subst e
        repeat walk_at "w"
        exact Sp1.mk ⟨b, wd, hu, fun v H3 s3 hv => hY _ _ _ rfl s3 hv⟩
      · subst e
        repeat walk_at "w"
        exact Sp1.mk ⟨b, hu, fun v H3 s3 hv => hY _ _ _ rfl s3 hv⟩
      · subst e
        repeat walk_at "w"
        exact Sp1.mk ⟨b, m, hu, fun v H3 s3 hv => hY _ _ _ rfl s3 hv⟩
    · refine lcF np2 s4 hp4 r fun u2 H5 s5 hu2 => ?_
      rw [show rs.filterMap (fun r => some (eRule r)) = rs.map eRule by simp] at hu2
      repeat walk_at "w"
      walk_at "newT"
      intro u3 H6 s6 hu3
      repeat walk_at "w"
      refine w_appS (d := .tup [.str n, .lst (rs.map eRule)]) ((o2.up s3).up (by walk_at "same")) hu3 (by simp; omega) (Hb := H) (by walk_at "same") np fun H7 b7 x7 s7 o7 => ?_
      repeat walk_at "w"
      refine ⟨_, _, rfl, s7, (by walk_at "ext"), ?_⟩
      rw [List.take_succ, e1, List.map_append]
      exact o7
  · rintro σ H' ⟨_, _, rfl, s2, x2, o2⟩
    rw [List.length_map, List.take_length] at o2
    repeat walk_at "w"
    refine fl_dflt T (hx.up s2.ext) ?_
    repeat walk_at "w"
    refine w_outS o2 s2 np fun H3 s3 hr => ?_
    repeat walk_at "w"
    walk_at "newT"
    intro u H4 s4 hu
    exact k _ _ (by walk_at "same") hu
end
end
section
open PySem PySem.Spec PyProof.Rows L2
/-- what is known so far: nothing but right lengths -/
def Kn (chs : Chs) (l : List (Str × D)) : Prop := ∀ n d, lookD l n = some d → d = .int (lenC 2 chs n : Nat)
theorem all_of {l : List (Str × D)} : ∀ {ss : List Str}, (ss.map fun s => (lookD l s).isSome).all id = true → ∀ s ∈ ss, (lookD l s).isSome = true
  | s :: ss, h, t, ht => by
    simp at h
    rcases List.mem_cons.mp ht with rfl | ht
    · exact h.1
    · exact h.2 t ht
theorem to_all {l : List (Str × D)} {ss : List Str} (h : ∀ s ∈ ss, (lookD l s).isSome = true) : (ss.map fun s => (lookD l s).isSome).all id = true := by
  simp
  exact h
theorem mem_callsR {rs : List Rule} {m : Str} (h : m ∈ callsR rs) : ∃ b, Rule.call b m ∈ rs := by
  obtain ⟨r, h1, h2⟩ := List.mem_filterMap.mp h
  cases r with
  | call b n =>
    simp [callN] at h2
    subst h2
    exact ⟨b, h1⟩
  | word b w => cases h2
  | back b => cases h2
theorem fm_bl {l : List (Str × D)} (ss : List Str) : ss.filterMap (fun s => some (D.bl (lookD l s).isSome)) = (ss.map fun s => (lookD l s).isSome).map D.bl := by simp
theorem fm_int (chs : Chs) (ss : List Str) : ss.filterMap (fun s => some (D.int (lenC 2 chs s : Nat))) = (ss.map fun s => ((lenC 2 chs s : Nat) : Int)).map D.int := by simp
section
variable {P : Program} {w : World} {K : PySem.W.Frag} {mg : Str → Option Value} {base : Heap}
def sp_lengths_of (K : PySem.W.Frag) : Sp := Sp1 fun x H Q => ∃ (c : Addr) (chs : Chs), BkOk chs ∧ x = .ref c ∧ DiB K H c chs ∧ ∀ p H' l, H p = none → Same H H' → OdS K H' p l → (∀ q ∈ chs, lookD l q.1 = some (.int (lenC 2 chs q.1 : Nat))) → Q (.ref p) H'
def sN_lengths_of : List Str := ["chains", "known", "again", "name", "rules", "calls", "one"]
theorem sc_lengths_of : FnScope sN_lengths_of ["chains"] (defScope s_lengths_of) := ⟨rfl, rfl, rfl, by decide +kernel, rfl, by decide +kernel, by decide +kernel⟩

theorem ok_lengths_of (T : Tx K mg) : Fd P w K mg base 2 (He.ga K "lengths_of") ["chains"] (sp_lengths_of K) := by
  have F_calls_of := ok_calls_of (P := P) (w := w) (base := base) T
  refine mkFd T.d_lengths_of sc_lengths_of (fun _ _ _ _ _ _ us hl => match us, hl with | [_], _ => rfl) (fun vs H Q E h => Sp1.len h) (fun cdv A outer s H vs Q E hr h => ?_)
  obtain ⟨x, rfl, c, chs, ok, rfl, hc, k⟩ := h
  have sm := ok.small
  refine ⟨_, (pss_cons (ps_set (i := 1) sc_lengths_of.nd rfl (.inr rfl) pe_dnewK)
      (pss_cons (ps_for PassesOwn.never rfl (pi_range1 (by rfl) T.b_range (pa_cons (pe_callB cl_lenD (by rfl) T.b_len PySem.boot_len (pa_cons (pv 0) pa_nil)) pa_nil)) (pg_name (i := 2) sc_lengths_of.nd rfl (.inl rfl)) (pss_cons (ps_for PassesOwn.never rfl (pi_items (pv 0)) (pg_tup rfl (pgs_cons (pg_name (i := 3) sc_lengths_of.nd rfl (.inl rfl)) (pgs_cons (pg_name (i := 4) sc_lengths_of.nd rfl (.inl rfl)) pgs_nil))) (pss_cons (ps_set (i := 5) sc_lengths_of.nd rfl (.inl rfl) (pe_f F_calls_of (hr.mono (by omega)) (by rfl) T.g_calls_of (pa_cons (pv 4) pa_nil)))
      (pss_cons (ps_if (PW.pt (pw_and (pt_cmp (pc_dnotin (hu_of hr) (pv 3) (pv 1))) (pw_and1 (pt_val (pe_callB (cr_all rfl) (by rfl) T.b_all (by decide +kernel) (pa_cons (pe_fz (pe_lc (own := [("one", 6)]) rfl sc_lengths_of.nd (pi_list (pv 5)) (blkOk_by (own := [("one", 6)]) (N := sN_lengths_of) (sc := defScope s_lengths_of) (by decide +kernel)) (fun _ _ _ _ _ => (pg_name (i := 6) sc_lengths_of.nd rfl (.inl rfl))) (fun _ _ _ _ _ => pts_nil) (fun _ _ _ _ _ => (pe_cmp (pc_din (hu_of hr) (pv 6) (pv 1)))))) pa_nil)))))) (pss_cons (ps_dput (hu_of hr) (pv 1) (pv 3) (pe_op op_add (pe_callB cl_lenQ (by rfl) T.b_len PySem.boot_len (pa_cons (pv 4) pa_nil)) (pe_callB (cr_sum rfl) (by rfl) T.b_sum (by decide +kernel) (pa_cons (pe_fz (pe_lc (own := [("one", 6)]) rfl sc_lengths_of.nd (pi_list (pv 5)) (blkOk_by (own := [("one", 6)]) (N := sN_lengths_of) (sc := defScope s_lengths_of) (by decide +kernel)) (fun _ _ _ _ _ => (pg_name (i := 6) sc_lengths_of.nd rfl (.inl rfl))) (fun _ _ _ _ _ => pts_nil) (fun _ _ _ _ _ => (pe_dget (hu_of hr) (pv 1) (pv 6) (fun _ _ => rfl))))) pa_nil))) rfl)
      pss_nil) pss_nil)
      pss_nil)))
      pss_nil))
      (pss_cons (ps_ret (pv 1))
      pss_nil))), ?_⟩
  try dsimp only [cxOf, Cx.nox, Cx.wish]
  repeat walk_at "w"
  refine w_dnewK (K := K) fun p H1 np s1 o1 => ?_
  repeat walk_at "w"
  refine w_lenB (l := chs) (hc.up (by walk_at "ext")) ?_
  repeat walk_at "w"
  refine i_rng (K := K) chs.length rfl (by omega) fun J it => ?_
  refine f_for it (fun j σ H' => ∃ e2 e3 e4 e5 l, σ = [some (.ref c), some (.ref p), e2, e3, e4, e5, none] ∧ Same H H' ∧ OdS K H' p l ∧ Kn chs l ∧ l.length ≤ j * chs.length ∧ ∀ q ∈ chs, Deep j chs q.1 → (lookD l q.1).isSome = true)
    ⟨_, _, _, _, [], rfl, s1, o1, fun n d h => (by cases h), by simp, fun q _ d => d.elim⟩ (fun _ _ _ _ => trivial) ?_ ?_
  · rintro j d u σ H' H2 e1 ⟨_, _, _, _, l, rfl, s2, o2, kn, hll, hdp⟩ s3 hu
    obtain ⟨hj, rfl⟩ := numD_get e1
    cases hu
    repeat walk_at "w"
    refine i_items (hc.up (Ext.tr s3.ext s2.ext)) (Ext.refl _) fun J2 it2 => ?_
    refine f_for it2 (fun i σ H' => ∃ e3 e4 e5 l2, σ = [some (.ref c), some (.ref p), some (.int (j : Nat)), e3, e4, e5, none] ∧ Same H H' ∧ Ext H2 H' ∧ OdS K H' p l2 ∧ Kn chs l2 ∧ l2.length ≤ j * chs.length + i ∧ (∀ n, (lookD l n).isSome = true → (lookD l2 n).isSome = true) ∧ ∀ q ∈ chs.take i, Deep (j + 1) chs q.1 → (lookD l2 q.1).isSome = true)
      ⟨_, _, _, l, rfl, (by walk_at "same"), Ext.refl _, o2.up s3, kn, hll, fun n h => h, fun q h => by simp at h⟩ (fun _ _ _ h => by obtain ⟨_, _, _, _, _, _, x, _⟩ := h; exact x) ?_ ?_
    · rintro i d u σ H' H3 e1 ⟨_, _, _, l2, rfl, s4, x4, o4, kn4, hl4, hsub, hdp4⟩ s5 hu
      rw [List.getElem?_map, Option.map_eq_some_iff] at e1
      obtain ⟨⟨n, rs⟩, e1, rfl⟩ := e1
      have hmem := List.mem_of_getElem? e1
      have hrz : rs.length ≤ 1000 := ok.smalls _ hmem
      have hlk : lookD chs n = some rs := lookD_of ok.nodup hmem
      have hdn : Deep 2 chs n := ok.deep _ hmem
      have hu : Dt K H3 u (.tup [.str n, .lst (rs.map D.rul)]) := hu
      have o5 := o4.up s5
      have htk : ∀ {l' : List (Str × D)}, (∀ m, (lookD l2 m).isSome = true → (lookD l' m).isSome = true) → (Deep (j + 1) chs n → (lookD l' n).isSome = true) → ∀ q ∈ chs.take (i + 1), Deep (j + 1) chs q.1 → (lookD l' q.1).isSome = true := by
        intro l' h1 h2 q hq dq
        rw [List.take_succ, e1] at hq
        rcases List.mem_append.mp hq with hq | hq
        · exact h1 _ (hdp4 q hq dq)
        · simp at hq
          subst hq
          exact h2 dq
      repeat walk_at "w"
      refine Sp1.mk ⟨rs, hrz, (by walk_at "dt"), fun v H4 s6 hv => ?_⟩
      have o6 := o5.up s6
      repeat walk_at "w"
      refine dS_nin o6.di ?_
      repeat walk_at "w"
      cases hk2 : (lookD l2 n).isSome with
      | true =>
        repeat walk_at "w"
        exact ⟨_, _, _, l2, rfl, (by walk_at "same"), (by walk_at "ext"), o6, kn4, by omega, hsub, htk (fun m h => h) fun _ => hk2⟩
      | false =>
        repeat walk_at "w"
        refine i_list hv (Ext.refl _) fun J3 it3 => ?_
        have hcl : (callsR rs).length ≤ 1000 := Nat.le_trans (List.length_filterMap_le _ _) hrz
        refine f_lc it3 (fun s => some (.bl (lookD l2 s).isSome)) (by omega) (fun H' s => s.ext) (fun i s u H' Y N e s7 hu hY hN => ?_) fun p2 H5 xs np2 s7 hp5 r5 => ?_
        · cases hu
          repeat walk_at "w"
          refine ⟨rfl, ?_⟩
          repeat walk_at "w"
          refine dS_in (o6.up s7).di ?_
          exact hY _ _ _ rfl (Same.refl _) (.bl _)
        · refine lcF np2 s7 hp5 r5 fun u2 H6 s8 hu2 => ?_
          rw [fm_bl] at hu2
          repeat walk_at "w"
          refine w_all hu2 ?_
          repeat walk_at "w"
          cases hall : ((callsR rs).map fun s => (lookD l2 s).isSome).all id with
          | false =>
            repeat walk_at "w"
            refine ⟨_, _, _, l2, rfl, (by walk_at "same"), (by walk_at "ext"), o6.up s8, kn4, by omega, hsub, htk (fun m h => h) fun dd => ?_⟩
            obtain ⟨rs', h1, h2⟩ := dd
            rw [hlk] at h1
            cases h1
            have : ((callsR rs).map fun s => (lookD l2 s).isSome).all id = true := to_all fun m hm => by
              obtain ⟨b, hb⟩ := mem_callsR hm
              have d1 := h2 b m hb
              have hms : ∃ rs2, lookD chs m = some rs2 := by
                obtain ⟨rs3, h3, h4⟩ := hdn
                rw [hlk] at h3
                cases h3
                obtain ⟨rs4, h5, _⟩ := h4 b m hb
                exact ⟨rs4, h5⟩
              obtain ⟨rs2, h5⟩ := hms
              exact hsub m (hdp (m, rs2) (lookD_mem h5) d1)
            rw [this] at hall
            cases hall
          | true =>
            have hkn := all_of hall
            have hget : ∀ m ∈ callsR rs, lookD l2 m = some (.int (lenC 2 chs m : Nat)) := fun m hm => by
              have h1 := hkn m hm
              cases h2 : lookD l2 m with
              | none => rw [h2] at h1; cases h1
              | some d => rw [kn4 m d h2]
            repeat walk_at "w"
            refine w_lenL (ds := rs.map D.rul) (by walk_at "dt") ?_
            repeat walk_at "w"
            refine i_list (hv.up (by walk_at "ext")) (Ext.refl _) fun J4 it4 => ?_
            refine f_lc it4 (fun s => some (.int (lenC 2 chs s : Nat))) (by omega) (fun H' s => s.ext) (fun i s u H' Y N e s9 hu hY hN => ?_) fun p3 H7 xs3 np3 s9 hp7 r7 => ?_
            · cases hu
              repeat walk_at "w"
              refine ⟨rfl, ?_⟩
              repeat walk_at "w"
              refine dS_get ((o6.up s8).up s9).di (hget s (List.mem_of_getElem? e)) ?_
              refine At.i ?_
              exact hY _ _ _ rfl (Same.refl _) (.int _)
            · refine lcF np3 s9 hp7 r7 fun u3 H8 s10 hu3 => ?_
              rw [fm_int] at hu3
              repeat walk_at "w"
              refine w_sum hu3 ?_
              repeat walk_at "w"
              have hnone : lookD l2 n = none := by
                cases h : lookD l2 n with
                | none => rfl
                | some d => rw [h] at hk2; cases hk2
              have hval : (((rs.map D.rul).length : Nat) : Int) + ((callsR rs).map fun s => ((lenC 2 chs s : Nat) : Int)).sum = ((lenC 2 chs n : Nat) : Int) := by
                rw [len_sum hlk hdn, List.length_map]
              rw [hval]
              have hsz : l2.length < 16000000 := by
                have : j * chs.length ≤ 100 * 100 := Nat.mul_le_mul (by omega) (by omega)
                have := (List.getElem?_eq_some_iff.mp e1).1
                omega
              refine dS_put (d := .int (lenC 2 chs n : Nat)) ((o6.up s8).up s10) (.int _) hsz fun H9 b9 x9 o9 => ?_
              rw [putD_new hnone] at o9
              repeat walk_at "w"
              have hsub2 : ∀ m, (lookD l2 m).isSome = true → (lookD (l2 ++ [(n, D.int (lenC 2 chs n : Nat))]) m).isSome = true := fun m h => by
                rw [lookD_app]
                cases h2 : lookD l2 m with
                | none => rw [h2] at h; cases h
                | some d => rfl
              refine ⟨_, _, _, l2 ++ [(n, .int (lenC 2 chs n : Nat))], rfl, b9.same (by walk_at "same") np, (by walk_at "ext"), o9, ?_, by simp; omega, fun m h => hsub2 m (hsub m h), htk hsub2 fun _ => ?_⟩
              · intro m d h
                rw [lookD_app] at h
                cases h2 : lookD l2 m with
                | some d2 =>
                  rw [h2] at h
                  cases h
                  exact kn4 m _ h2
                | none =>
                  rw [h2] at h
                  dsimp only at h
                  split at h
                  · rename_i e
                    subst e
                    cases h
                    rfl
                  · cases h
              · rw [lookD_app, hnone]
                simp
    · rintro σ H' ⟨_, _, _, l2, rfl, s4, x4, o4, kn4, hl4, hsub, hdp4⟩
      rw [List.length_map, List.take_length] at hdp4
      rw [List.length_map] at hl4
      repeat walk_at "w"
      refine ⟨_, _, _, _, l2, rfl, s4, o4, kn4, ?_, hdp4⟩
      rw [Nat.succ_mul]
      exact hl4
  · rintro σ H' ⟨_, _, _, _, l, rfl, s2, o2, kn, hll, hdp⟩
    rw [numD_len] at hdp
    repeat walk_at "w"
    refine k p H' l np s2 o2 fun q hq => ?_
    have h1 := hdp q hq (ok.deepL q hq)
    cases h2 : lookD l q.1 with
    | none => rw [h2] at h1; cases h1
    | some d => rw [kn _ d h2]
end
end
section
open PySem PySem.Spec PyProof.Rows L2
/-- a heap where a book that is half made becomes another thing -/
structure Half (a : Addr) (H H' : Hp) : Prop where
  at_ : ∃ C dx u w, H a = some (.ins C dx [(("default" : Str), u), (("chains" : Str), w)])
  keep : ∀ x o, x ≠ a → H x = some o → imm o = true → H' x = some o
section
variable {K : PySem.W.Frag} {H H' : Hp} {a : Addr}
theorem Half.frz (h : Half a H H') {x : Addr} {o : Obj} {u : HO} (e : H x = some (.frz o u)) : H' x = some (.frz o u) := by
  refine h.keep x _ (fun z => ?_) e rfl
  obtain ⟨C, dx, u, w, q⟩ := h.at_
  rw [z, q] at e
  cases e
theorem Half.sqT (h : Half a H H') {x : Addr} {xs : List V} (e : SqT K H x xs) : SqT K H' x xs := by
  rcases e with (e | ⟨o, e⟩) | e
  · refine .inl (.inl (h.keep x _ (fun z => ?_) e rfl))
    obtain ⟨C, dx, u, w, q⟩ := h.at_
    rw [z, q] at e
    cases e
  · exact .inl (.inr ⟨o, h.frz e⟩)
  · exact .inr e
theorem Half.ins (h : Half a H H') {x C dx : Addr} {f : Str} {v : V} {fs : List (Str × V)} (n : f ≠ "default") (e : H x = some (.ins C dx ((f, v) :: fs))) : H' x = some (.ins C dx ((f, v) :: fs)) := by
  refine h.keep x _ (fun z => ?_) e rfl
  obtain ⟨C, dx, u, w, q⟩ := h.at_
  rw [z, q] at e
  injection e with e
  injection e with _ _ e
  injection e with e
  injection e with e
  exact n e.symm
theorem Half.bok (h : Half a H H') {x C dx : Addr} {p q r : Str × V} (e : H x = some (.ins C dx [p, q, r])) : H' x = some (.ins C dx [p, q, r]) := by
  refine h.keep x _ (fun z => ?_) e rfl
  obtain ⟨C, dx, u, w, q⟩ := h.at_
  rw [z, q] at e
  injection e with e
  injection e with _ _ e
  have := congrArg List.length e
  simp at this
mutual
theorem Dt.half (e : Half a H H') : ∀ {v : V} {d : D}, Dt K H v d → Dt K H' v d
  | _, _, .non => .non
  | _, _, .bl b => .bl b
  | _, _, .int i => .int i
  | _, _, .str x => .str x
  | _, _, .lst o h r => .lst o (e.frz h) (DtAll.half e r)
  | _, _, .tup h r => .tup (e.sqT h) (DtAll.half e r)
  | _, _, .rWord h r => .rWord (e.ins (by decide) h) (Dt.half e r)
  | _, _, .rBack h r => .rBack (e.ins (by decide) h) (Dt.half e r)
  | _, _, .rCall h r => .rCall (e.ins (by decide) h) (Dt.half e r)
  | _, _, .bok o h c r => .bok o (e.bok h) (e.frz c) (DtKv.half e r)
theorem DtAll.half (e : Half a H H') : ∀ {vs : List V} {ds : List D}, DtAll K H vs ds → DtAll K H' vs ds
  | _, _, .nil => .nil
  | _, _, .cons h r => .cons (Dt.half e h) (DtAll.half e r)
theorem DtKv.half (e : Half a H H') : ∀ {kvs : List (Key × V)} {l : List (Str × List Rule)}, DtKv K H kvs l → DtKv K H' kvs l
  | _, _, .nil => .nil
  | _, _, .cons h r => .cons (Dt.half e h) (DtKv.half e r)
end
end
section
variable {P : Program} {w : World} {K : PySem.W.Frag} {mg : Str → Option Value} {base : Heap}
abbrev eChT (p : Str × List Rule) : D := .tup [.str p.1, .lst (p.2.map eRule)]
theorem callsR_some {chs : Chs} {n : Str} {rs : List Rule} (h : lookD chs n = some rs) (d : Deep 2 chs n) : ∀ m ∈ callsR rs, (lookD chs m).isSome = true := by
  intro m hm
  obtain ⟨b, hb⟩ := mem_callsR hm
  obtain ⟨rs', h1, h2⟩ := d
  rw [h] at h1
  cases h1
  obtain ⟨rs2, h3, _⟩ := h2 b m hb
  rw [h3]
  rfl
def sp_Book_init (K : PySem.W.Frag) : Sp := Sp3 fun x y z H Q => ∃ (a dx : Addr) (H0 : Hp) (d : Str) (chs : Chs), BkOk chs ∧ x = .ref a ∧ H0 a = none ∧ Same H0 H ∧ H a = some (.ins (cBook K) dx []) ∧ y = .str d ∧ Dt K H0 z (.lst (chs.map eChT)) ∧
  ∀ H', Same H0 H' → Dt K H' (.ref a) (.bok ⟨d, chs, (lenC 2 chs "main" : Nat)⟩) → Q .non H'
def sN_Book_init : List Str := ["self", "default", "chains", "name", "rows", "known", "row"]
theorem sc_Book_init : FnScope sN_Book_init ["self", "default", "chains"] (defScope s_Book_init) := ⟨rfl, rfl, rfl, by decide +kernel, rfl, by decide +kernel, by decide +kernel⟩

theorem ok_Book_init (T : Tx K mg) : Fd P w K mg base 6 (He.ma K (He.ga K "Book") "__init__") ["self", "default", "chains"] (sp_Book_init K) := by
  have F_rule_of := ok_rule_of (P := P) (w := w) (base := base) T
  have F_Book_chain_names := ok_Book_chain_names (P := P) (w := w) (base := base) T
  have F_Book_need_calls := ok_Book_need_calls (P := P) (w := w) (base := base) T
  have F_lengths_of := ok_lengths_of (P := P) (w := w) (base := base) T
  refine mkFd T.d_Book_init sc_Book_init (fun _ _ _ _ _ _ us hl => match us, hl with | [_, _, _], _ => rfl) (fun vs H Q E h => Sp3.len h) (fun cdv A outer s H vs Q E hr h => ?_)
  obtain ⟨x, y, z, rfl, a, dx, H0, d, chs, ok, rfl, na, s0, ha, rfl, hz, k⟩ := h
  have sm := ok.small
  refine ⟨_, (pss_cons (ps_fld (pv 0) (pv 1) rfl)
      (pss_cons (ps_fld (pv 0) pe_dnewK rfl)
      (pss_cons (ps_for PassesOwn.never rfl (pi_list (pv 2)) (pg_tup rfl (pgs_cons (pg_name (i := 3) sc_Book_init.nd rfl (.inl rfl)) (pgs_cons (pg_name (i := 4) sc_Book_init.nd rfl (.inl rfl)) pgs_nil))) (pss_cons (ps_if (pt_cmp (pc_din (hu_of hr) (pv 3) (pe_fld (pv 0) rfl))) (pss_cons ps_never
      pss_nil) pss_nil)
      (pss_cons (ps_dput (hu_of hr) (pe_fld (pv 0) rfl) (pv 3) (pe_fz (pe_lc (own := [("row", 6)]) rfl sc_Book_init.nd (pi_list (pv 4)) (blkOk_by (own := [("row", 6)]) (N := sN_Book_init) (sc := defScope s_Book_init) (by decide +kernel)) (fun _ _ _ _ _ => (pg_name (i := 6) sc_Book_init.nd rfl (.inl rfl))) (fun _ _ _ _ _ => pts_nil) (fun _ _ _ _ _ => (pe_f F_rule_of (hr.mono (by omega)) (by rfl) T.g_rule_of (pa_cons (pv 6) pa_nil))))) rfl)
      pss_nil)))
      (pss_cons (ps_pre (ps_for PassesOwn.never rfl (pi_list (pe_m0 (pv 0) T.c_Book T.m_Book_chain_names F_Book_chain_names (hr.mono (by omega)))) (pg_name (i := 3) sc_Book_init.nd rfl (.inl rfl)) (pss_cons (ps_expr (pe_m (pv 0) T.c_Book T.m_Book_need_calls F_Book_need_calls (hr.mono (by omega)) (pa_cons (pv 3) pa_nil)))
      pss_nil)))
      (pss_cons (ps_set (i := 5) sc_Book_init.nd rfl (.inl rfl) (pe_f F_lengths_of (hr.mono (by omega)) (by rfl) T.g_lengths_of (pa_cons (pe_fld (pv 0) rfl) pa_nil)))
      (pss_cons (ps_for PassesOwn.never rfl (pi_list (pe_m0 (pv 0) T.c_Book T.m_Book_chain_names F_Book_chain_names (hr.mono (by omega)))) (pg_name (i := 3) sc_Book_init.nd rfl (.inl rfl)) (pss_cons (ps_if (pt_cmp (pc_dnotin (hu_of hr) (pv 3) (pv 5))) (pss_cons ps_never
      pss_nil) pss_nil)
      pss_nil))
      (pss_cons (ps_if (pt_cmpR op_gt (pe_dget (hu_of hr) (pv 5) pe_str (fun _ _ => rfl)) (C8.pe_gc (by rfl) T.i_LONGEST_books) (nomark _)) (pss_cons ps_never
      pss_nil) pss_nil)
      (pss_cons (ps_fld (pv 0) (pe_dget (hu_of hr) (pv 5) pe_str (fun _ _ => rfl)) rfl)
      pss_nil)))))))), ?_⟩
  try dsimp only [cxOf, Cx.nox, Cx.wish]
  repeat walk_at "w"
  refine ⟨a, _, dx, [], rfl, ha, T.c_Book, T.n_Book_default, by decide, ?_⟩
  generalize hH1 : upd H a (.ins (cBook K) dx (putF "default" (.str d) [])) = H1
  have s1 : Same H0 H1 := by rw [← hH1]; exact (But.upd a H _).same s0 na
  have ha1 : H1 a = some (.ins (cBook K) dx [("default", .str d)]) := by rw [← hH1]; exact upd_same
  repeat walk_at "w"
  refine w_dnewK (K := K) fun c H2 nc s2 o2 => ?_
  have nc0 : H0 c = none := s1.free nc
  have hca : c ≠ a := fun e => by rw [e, ha1] at nc; cases nc
  repeat walk_at "w"
  refine ⟨a, _, dx, _, rfl, s2 _ _ ha1, T.c_Book, T.n_Book_chains, by simp, ?_⟩
  generalize hH3 : upd H2 a (.ins (cBook K) dx (putF "chains" (.ref c) [("default", .str d)])) = H3
  have s3 : Same H0 H3 := by rw [← hH3]; exact (But.upd a H2 _).same (s2.tr s1) na
  have ha3 : H3 a = some (.ins (cBook K) dx [("default", .str d), ("chains", .ref c)]) := by rw [← hH3]; exact upd_same
  have o3 : OdS K H3 c [] := by
    obtain ⟨kvs, e1, e2⟩ := o2.ex
    cases e2
    exact ⟨[], by rw [← hH3, upd_ne hca]; exact e1, .nil⟩
  repeat walk_at "w"
  refine i_list hz s3.ext fun J it => ?_
  refine f_for it (fun i σ H' => ∃ e3 e4, σ = [some (.ref a), some (.str d), some z, e3, e4, none, none] ∧ Same H0 H' ∧ H' a = some (.ins (cBook K) dx [("default", .str d), ("chains", .ref c)]) ∧ OdS K H' c ((chs.take i).map eCh)) ⟨_, _, rfl, s3, ha3, o3⟩ (fun i σ H' ⟨_, _, _, s, _⟩ => s.ext) ?_ ?_
  · rintro i d1 u σ H' H4 e1 ⟨_, _, rfl, s4, ha4, o4⟩ s5 hu
    rw [List.getElem?_map, Option.map_eq_some_iff] at e1
    obtain ⟨⟨n, rs⟩, e1, rfl⟩ := e1
    have hmem := List.mem_of_getElem? e1
    have hrz : rs.length ≤ 1000 := ok.smalls _ hmem
    have hwo := ok.words _ hmem
    have ha5 := s5 _ _ ha4
    have o5 := o4.up s5
    have hnew : lookD ((chs.take i).map eCh) n = none := by
      refine lookD_none fun hin => ?_
      rw [List.map_map] at hin
      obtain ⟨⟨n2, rs2⟩, h1, h2⟩ := List.mem_map.mp hin
      have h2 : n2 = n := h2
      subst h2
      obtain ⟨j, hj⟩ := List.getElem?_of_mem h1
      rw [List.getElem?_take] at hj
      split at hj
      · rename_i hlt
        have q1 : (chs.map (·.1))[j]? = some n2 := by rw [List.getElem?_map, hj]; rfl
        have q2 : (chs.map (·.1))[i]? = some n2 := by rw [List.getElem?_map, e1]; rfl
        have := (List.getElem?_inj (List.getElem?_eq_some_iff.mp q1).1 ok.nodup).mp (q1.trans q2.symm)
        omega
      · cases hj
    repeat walk_at "w"
    refine ⟨a, _, dx, _, _, rfl, ha5, T.c_Book, T.n_Book_chains, rfl, ?_⟩
    refine dS_in o5.di ?_
    rw [hnew, isS0]
    repeat walk_at "w"
    refine i_list hu_ (Ext.refl _) fun J2 it2 => ?_
    refine f_lc (l := rs) (emb := eRule) it2 (fun r => some (.rul r)) (by omega) (fun H' s => s.ext) (fun i r u H' Y N e s1 hu hY hN => ?_) fun p2 H6 xs np2 s6 hp6 r6 => ?_
    · repeat walk_at "w"
      refine ⟨rfl, ?_⟩
      repeat walk_at "w"
      exact Sp1.mk ⟨r, hwo r (List.mem_of_getElem? e), hu, fun v H3 s3 hv => hY _ _ _ rfl s3 hv⟩
    · refine lcF np2 s6 hp6 r6 fun u2 H7 s7 hu2 => ?_
      rw [show rs.filterMap (fun r => some (D.rul r)) = rs.map D.rul by simp] at hu2
      repeat walk_at "w"
      refine ⟨a, _, dx, _, _, rfl, s7 _ _ ha5, T.c_Book, T.n_Book_chains, rfl, ?_⟩
      repeat walk_at "w"
      refine dS_put (d := .lst (rs.map D.rul)) (o5.up s7) hu2 (by simp; omega) fun H8 b8 x8 o8 => ?_
      rw [putD_new hnew] at o8
      repeat walk_at "w"
      refine ⟨_, _, rfl, b8.same (by walk_at "same") nc0, b8 _ _ (Ne.symm hca) (s7 _ _ ha5), ?_⟩
      rw [List.take_succ, e1, List.map_append]
      exact o8
  · rintro σ H' ⟨_, _, rfl, s4, ha4, o4⟩
    rw [List.length_map, List.take_length] at o4
    obtain ⟨kvs, e1, e2⟩ := o4.ex
    repeat walk_at "w"
    refine ⟨c, _, e1, trivial, fun od => ?_⟩
    generalize hH5 : upd H' c (.frz od (.dK kvs)) = H5
    have s5 : Same H0 H5 := by rw [← hH5]; exact s4.mut nc0
    have ha5 : H5 a = some (.ins (cBook K) dx [("default", .str d), ("chains", .ref c)]) := by rw [← hH5, upd_ne (Ne.symm hca)]; exact ha4
    have hc5 : H5 c = some (.frz od (.dK kvs)) := by rw [← hH5]; exact upd_same
    have hkv : DtKv K H5 kvs chs := by
      rw [← hH5]
      exact (DtKv.of e2).up (Ext.mut e1 rfl)
    have hB : BkC K H5 (.ref a) chs := ⟨a, dx, c, _, [], rfl, ha5, .inl rfl, od, kvs, hc5, hkv⟩
    clear e1 e2 o4 ha4
    repeat walk_at "w"
    refine m_bkc hB ?_
    repeat walk_at "w"
    refine Sp1.mk ⟨chs, hB, fun v H6 s6 hv => ?_⟩
    repeat walk_at "w"
    refine i_list hv (Ext.refl _) fun J2 it2 => ?_
    refine f_for it2 (fun i σ H' => ∃ e3 e4, σ = [some (.ref a), some (.str d), some z, e3, e4, none, none] ∧ Same H6 H') ⟨_, _, rfl, Same.refl _⟩ (fun i σ H' ⟨_, _, _, s⟩ => s.ext) ?_ ?_
    · rintro i d1 u σ H' H7 e1 ⟨_, _, rfl, s7⟩ s8 hu
      rw [List.getElem?_map, Option.map_eq_some_iff] at e1
      obtain ⟨n, e1, rfl⟩ := e1
      rw [List.getElem?_map, Option.map_eq_some_iff] at e1
      obtain ⟨⟨n2, rs⟩, e1, rfl⟩ := e1
      have hmem := List.mem_of_getElem? e1
      cases hu
      have hlk := lookD_of ok.nodup hmem
      repeat walk_at "w"
      refine m_bkc (hB.up (by walk_at "ext")) ?_
      repeat walk_at "w"
      refine Sp2.mk ⟨chs, n2, rs, hB.up (by walk_at "ext"), rfl, hlk, ok.smalls _ hmem, callsR_some hlk (ok.deep _ hmem), fun H8 s9 => ?_⟩
      repeat walk_at "w"
      exact ⟨_, _, rfl, (by walk_at "same")⟩
    · rintro σ H' ⟨_, _, rfl, s7⟩
      repeat walk_at "w"
      refine fl_chainsC T (hB.up (by walk_at "ext")) fun c2 hc2 => ?_
      repeat walk_at "w"
      refine Sp1.mk ⟨c2, chs, ok, rfl, hc2, fun p H8 l np s8 o8 hl => ?_⟩
      have hmain : lookD l "main" = some (.int (lenC 2 chs "main" : Nat)) := by
        obtain ⟨rs, hm⟩ := ok.main
        exact hl _ hm
      repeat walk_at "w"
      refine m_bkc (hB.up (by walk_at "ext")) ?_
      repeat walk_at "w"
      refine Sp1.mk ⟨chs, hB.up (by walk_at "ext"), fun v3 H9 s9 hv3 => ?_⟩
      repeat walk_at "w"
      refine i_list hv3 (Ext.refl _) fun J3 it3 => ?_
      refine f_for it3 (fun i σ H' => ∃ e3 e4, σ = [some (.ref a), some (.str d), some z, e3, e4, some (.ref p), none] ∧ Same H9 H') ⟨_, _, rfl, Same.refl _⟩ (fun i σ H' ⟨_, _, _, s⟩ => s.ext) ?_ ?_
      · rintro i d1 u σ H' H10 e1 ⟨_, _, rfl, s10⟩ s11 hu
        rw [List.getElem?_map, Option.map_eq_some_iff] at e1
        obtain ⟨n, e1, rfl⟩ := e1
        rw [List.getElem?_map, Option.map_eq_some_iff] at e1
        obtain ⟨⟨n2, rs⟩, e1, rfl⟩ := e1
        have hmem := List.mem_of_getElem? e1
        cases hu
        repeat walk_at "w"
        refine dS_nin (o8.up (by walk_at "same")).di ?_
        rw [hl _ hmem, isS1]
        repeat walk_at "w"
        exact ⟨_, _, rfl, (by walk_at "same")⟩
      · rintro σ H' ⟨_, _, rfl, s10⟩
        repeat walk_at "w"
        refine dS_get (o8.up (by walk_at "same")).di hmain ?_
        repeat walk_at "w"
        rw [decide_eq_false (by have := ok.len; omega)]
        repeat walk_at "w"
        refine dS_get (o8.up (by walk_at "same")).di hmain ?_
        repeat walk_at "w"
        have s12 : Same H5 H' := (by walk_at "same")
        refine ⟨a, _, dx, _, rfl, s12 _ _ ha5, T.c_Book, T.n_Book_total, by simp, ?_⟩
        generalize hH11 : upd H' a (.ins (cBook K) dx (putF "total" (.int (lenC 2 chs "main" : Nat)) [("default", .str d), ("chains", .ref c)])) = H11
        have s11 : Same H0 H11 := by rw [← hH11]; exact (But.upd a H' _).same (by walk_at "same") na
        have ha11 : H11 a = some (.ins (cBook K) dx [("default", .str d), ("chains", .ref c), ("total", .int (lenC 2 chs "main" : Nat))]) := by rw [← hH11]; exact upd_same
        repeat walk_at "w"
        refine k H11 s11 ?_
        have hf : Half a H' H11 := ⟨⟨_, _, _, _, s12 _ _ ha5⟩, fun x o n e _ => by rw [← hH11, upd_ne n]; exact e⟩
        refine .bok od ha11 (hf.frz (s12 _ _ hc5)) (hkv.up s12.ext |>.half hf)
end
end
section
open PySem
/-! ### boxes within boxes -/
def StIn (s t : Int × Int) : Prop := t.1 ≤ s.1 ∧ s.1 ≤ s.2 ∧ s.2 ≤ t.2
def BoxIn : Box → Box → Prop
  | [], [] => True
  | s :: b, t :: c => StIn s t ∧ BoxIn b c
  | _, _ => False
theorem BoxIn.len : ∀ {b c : Box}, BoxIn b c → b.length = c.length
  | [], [], _ => rfl
  | _ :: _, _ :: _, h => congrArg Nat.succ (BoxIn.len h.2)
theorem BoxIn.trans : ∀ {b c d : Box}, BoxIn b c → BoxIn c d → BoxIn b d
  | [], [], [], _, _ => trivial
  | _ :: _, _ :: _, _ :: _, h, k => ⟨⟨by have := h.1.1; have := k.1.1; omega, h.1.2.1, by have := h.1.2.2; have := k.1.2.2; omega⟩, BoxIn.trans h.2 k.2⟩
theorem BoxIn.self : ∀ {b c : Box}, BoxIn b c → BoxIn b b
  | [], [], _ => trivial
  | _ :: _, _ :: _, h => ⟨⟨Int.le_refl _, h.1.2.1, Int.le_refl _⟩, BoxIn.self h.2⟩
theorem BoxIn.app : ∀ {a a' b b' : Box}, BoxIn a a' → BoxIn b b' → BoxIn (a ++ b) (a' ++ b')
  | [], [], _, _, _, h => h
  | _ :: _, _ :: _, _, _, h, k => ⟨h.1, BoxIn.app h.2 k⟩
theorem meet_in {s t m : Int × Int} (hs : s.1 ≤ s.2) (h : meet s t = some m) : StIn m s := by
  unfold meet at h
  split at h
  · cases h
  · cases h
    refine ⟨?_, ?_, ?_⟩ <;> simp only <;> omega
theorem common_in : ∀ {b c m e : Box}, BoxIn b e → common b c = some m → b.length = c.length → BoxIn m b
  | [], [], m, _, _, h, _ => by
    simp [common] at h
    subst h
    trivial
  | s :: b, t :: c, m, _ :: e, hb, h, hl => by
    unfold common at h
    cases hm : meet s t with
    | none => rw [hm] at h; cases h
    | some x =>
      rw [hm] at h
      cases hc : common b c with
      | none => simp [hc] at h
      | some y =>
        simp [hc] at h
        subst h
        exact ⟨meet_in hb.1.2.1 hm, common_in hb.2 hc (by simpa using hl)⟩
theorem restsGo_in : ∀ {a a' b m r : Box}, BoxIn a a' → BoxIn m b → BoxIn b b → r ∈ restsGo a b m → BoxIn r (a' ++ b)
  | _, _, [], [], r, _, _, _, h => by simp [restsGo] at h
  | a, a', s :: b, t :: m, r, ha, hm, hb, h => by
    unfold restsGo at h
    obtain ⟨⟨m1, m2, m3⟩, hm2⟩ := hm
    obtain ⟨⟨_, b2, _⟩, hb2⟩ := hb
    simp only [List.mem_append] at h
    rcases h with h | h | h
    · split at h <;> simp at h
      subst h
      refine ha.app ⟨⟨?_, ?_, ?_⟩, hb2⟩ <;> simp only <;> omega
    · split at h <;> simp at h
      subst h
      refine ha.app ⟨⟨?_, ?_, ?_⟩, hb2⟩ <;> simp only <;> omega
    · have q := restsGo_in (a := a ++ [t]) (a' := a' ++ [s]) (ha.app ⟨⟨m1, m2, m3⟩, trivial⟩) hm2 hb2 h
      simpa using q
theorem rests_in {b c r e : Box} (hb : BoxIn b e) (hl : b.length = c.length) (h : r ∈ rests b c) : BoxIn r b := by
  unfold rests at h
  split at h
  · simp at h
    subst h
    exact hb.self
  · rename_i m hm
    have := restsGo_in (a := []) (a' := []) trivial (common_in hb hm hl) hb.self h
    simpa using this
/-! ### what a box holds -/
theorem holds_meet {s t m : Int × Int} {n : Int} (h : meet s t = some m) : holdsB m n = (holdsB s n && holdsB t n) := by
  unfold meet at h
  split at h
  · cases h
  · cases h
    unfold holdsB
    rw [Bool.eq_iff_iff]
    simp
    omega
theorem holds_none {s t : Int × Int} {n : Int} (h : meet s t = none) : (holdsB s n && holdsB t n) = false := by
  unfold meet at h
  split at h
  · rename_i q
    rw [Bool.eq_false_iff]
    unfold holdsB
    simp
    omega
  · cases h
theorem has_common : ∀ {b c m : Box} {p : List Int}, common b c = some m → b.length = c.length → b.length = p.length → hasB m p = (hasB b p && hasB c p)
  | [], [], m, [], h, _, _ => by
    simp [common] at h
    subst h
    rfl
  | s :: b, t :: c, m, n :: p, h, hl, hp => by
    unfold common at h
    cases hm : meet s t with
    | none => rw [hm] at h; cases h
    | some x =>
      rw [hm] at h
      cases hc : common b c with
      | none => simp [hc] at h
      | some y =>
        simp [hc] at h
        subst h
        unfold hasB
        rw [holds_meet hm, has_common hc (by simpa using hl) (by simpa using hp)]
        cases holdsB s n <;> cases holdsB t n <;> cases hasB b p <;> rfl
theorem has_none : ∀ {b c : Box} {p : List Int}, common b c = none → b.length = c.length → b.length = p.length → (hasB b p && hasB c p) = false
  | [], [], [], h, _, _ => by simp [common] at h
  | s :: b, t :: c, n :: p, h, hl, hp => by
    unfold common at h
    unfold hasB
    cases hm : meet s t with
    | none =>
      have := holds_none (n := n) hm
      cases h1 : holdsB s n <;> cases h2 : holdsB t n <;> simp_all
    | some x =>
      rw [hm] at h
      cases hc : common b c with
      | some y => simp [hc] at h
      | none =>
        have := has_none hc (by simpa using hl) (p := p) (by simpa using hp)
        cases holdsB s n <;> cases holdsB t n <;> simp_all
theorem hasB_app : ∀ {a b : Box} {p q : List Int}, a.length = p.length → hasB (a ++ b) (p ++ q) = (hasB a p && hasB b q)
  | [], _, [], _, _ => by simp [hasB]
  | s :: a, b, n :: p, q, h => by
    simp only [List.cons_append, hasB]
    rw [hasB_app (by simpa using h), Bool.and_assoc]
theorem hasB_cons {s : Int × Int} {b : Box} {n : Int} {p : List Int} : hasB (s :: b) (n :: p) = (holdsB s n && hasB b p) := rfl
theorem restsGo_head : ∀ {a b m r : Box} {p q : List Int}, a.length = p.length → b.length = q.length → r ∈ restsGo a b m → hasB r (p ++ q) = true → hasB a p = true
  | _, [], m, _, _, _, _, _, h, _ => by cases m <;> simp [restsGo] at h
  | _, _ :: _, [], _, _, _, _, _, h, _ => by simp [restsGo] at h
  | a, s :: b, t :: m, r, p, n :: q, hl, hq, h, h2 => by
    unfold restsGo at h
    rcases List.mem_append.mp h with h | h
    · split at h <;> simp at h
      subst h
      rw [hasB_app hl, Bool.and_eq_true] at h2
      exact h2.1
    · rcases List.mem_append.mp h with h | h
      · split at h <;> simp at h
        subst h
        rw [hasB_app hl, Bool.and_eq_true] at h2
        exact h2.1
      · have h3 := restsGo_head (a := a ++ [t]) (p := p ++ [n]) (q := q) (by simp [hl]) (by simpa using hq) h (by simpa using h2)
        rw [hasB_app hl, Bool.and_eq_true] at h3
        exact h3.1
/-- a rest holds what the box holds and the meet does not -/
theorem has_restsGo : ∀ {a b m : Box} {p q : List Int}, a.length = p.length → BoxIn m b → b.length = q.length → hasB a p = true → ((∃ r ∈ restsGo a b m, hasB r (p ++ q) = true) ↔ (hasB b q = true ∧ hasB m q = false))
  | a, [], [], p, [], ha, _, _, hp => by simp [restsGo, hasB]
  | a, s :: b, t :: m, p, n :: q, ha, hm, hq, hp => by
    obtain ⟨⟨m1, m2, m3⟩, hm2⟩ := hm
    have hq' : b.length = q.length := by simpa using hq
    have e1 : ∀ x : Int × Int, hasB (a ++ ([x] ++ b)) (p ++ n :: q) = (holdsB x n && hasB b q) := fun x => by
      rw [hasB_app ha, hp, Bool.true_and]
      rfl
    unfold restsGo
    have split3 : (∃ r ∈ (if s.1 < t.1 then [a ++ ([(s.1, t.1 - 1)] ++ b)] else []) ++ ((if t.2 < s.2 then [a ++ ([(t.2 + 1, s.2)] ++ b)] else []) ++ restsGo (a ++ [t]) b m), hasB r (p ++ n :: q) = true) ↔
        (s.1 < t.1 ∧ holdsB (s.1, t.1 - 1) n = true ∧ hasB b q = true) ∨ (t.2 < s.2 ∧ holdsB (t.2 + 1, s.2) n = true ∧ hasB b q = true) ∨ ∃ r ∈ restsGo (a ++ [t]) b m, hasB r ((p ++ [n]) ++ q) = true := by
      constructor
      · rintro ⟨r, h1, h2⟩
        rcases List.mem_append.mp h1 with h1 | h1
        · split at h1
          · rw [List.mem_singleton.mp h1, e1, Bool.and_eq_true] at h2
            exact .inl ⟨by assumption, h2⟩
          · cases h1
        · rcases List.mem_append.mp h1 with h1 | h1
          · split at h1
            · rw [List.mem_singleton.mp h1, e1, Bool.and_eq_true] at h2
              exact .inr (.inl ⟨by assumption, h2⟩)
            · cases h1
          · exact .inr (.inr ⟨r, h1, by simpa using h2⟩)
      · rintro (⟨h1, h2, h3⟩ | ⟨h1, h2, h3⟩ | ⟨r, h1, h2⟩)
        · exact ⟨_, List.mem_append_left _ (by rw [if_pos h1]; exact List.mem_singleton.mpr rfl), by rw [e1, h2, h3]; rfl⟩
        · exact ⟨_, List.mem_append_right _ (List.mem_append_left _ (by rw [if_pos h1]; exact List.mem_singleton.mpr rfl)), by rw [e1, h2, h3]; rfl⟩
        · exact ⟨r, List.mem_append_right _ (List.mem_append_right _ h1), by simpa using h2⟩
    rw [split3, hasB_cons, hasB_cons]
    by_cases ht : holdsB t n = true
    · have ih := has_restsGo (a := a ++ [t]) (b := b) (m := m) (p := p ++ [n]) (q := q) (by simp [ha]) hm2 hq' (by rw [hasB_app ha, hp]; simp [hasB, ht])
      rw [ih, ht, Bool.true_and]
      generalize hasB b q = x
      generalize hasB m q = y
      unfold holdsB at ht ⊢
      simp at ht ⊢
      constructor
      · rintro (h | h | h)
        · omega
        · omega
        · exact ⟨⟨⟨by omega, by omega⟩, h.1⟩, h.2⟩
      · rintro ⟨⟨⟨h1, h2⟩, h3⟩, h4⟩
        exact .inr (.inr ⟨h3, h4⟩)
    · have hno : ¬ ∃ r ∈ restsGo (a ++ [t]) b m, hasB r ((p ++ [n]) ++ q) = true := by
        rintro ⟨r, h1, h2⟩
        have h3 := restsGo_head (by simp [ha]) hq' h1 h2
        rw [hasB_app ha, Bool.and_eq_true] at h3
        simp [hasB] at h3
        exact ht h3.2
      rw [Bool.not_eq_true] at ht
      rw [ht, Bool.false_and]
      generalize hasB b q = x at *
      unfold holdsB at ht ⊢
      simp at ht ⊢
      constructor
      · rintro (⟨h1, h2, h3⟩ | ⟨h1, h2, h3⟩ | h)
        · exact ⟨⟨by omega, by omega⟩, h3⟩
        · exact ⟨⟨by omega, by omega⟩, h3⟩
        · obtain ⟨r, h4, h5⟩ := h
          exact (hno ⟨r, h4, by simpa using h5⟩).elim
      · rintro ⟨⟨h1, h2⟩, h3⟩
        by_cases h4 : t.1 ≤ n
        · have := ht h4
          exact .inr (.inl ⟨by omega, ⟨by omega, h2⟩, h3⟩)
        · exact .inl ⟨by omega, ⟨h1, by omega⟩, h3⟩
theorem has_rests {b c e : Box} {p : List Int} (hb : BoxIn b e) (hl : b.length = c.length) (hp : b.length = p.length) : (∃ r ∈ rests b c, hasB r p = true) ↔ (hasB b p = true ∧ hasB c p = false) := by
  unfold rests
  cases hc : common b c with
  | none =>
    have h1 := has_none hc hl hp
    simp
    intro h2
    rw [h2, Bool.true_and] at h1
    exact h1
  | some m =>
    have h1 := has_restsGo (a := []) (b := b) (m := m) (p := []) (q := p) rfl (common_in hb hc hl) hp rfl
    rw [List.nil_append] at h1
    simp only
    rw [h1, has_common hc hl hp]
    cases hasB b p <;> simp
/-- the way of a point along rows -/
def walk (rows : List Row) (dflt : Str) (p : List Int) (g : Go) : Way × Str := match g with
  | .word w => ([], w)
  | .row n => if h : n < rows.length then
      if hasB rows[n].box p = true then ((n, true) :: (walk rows dflt p (rows[n].yes.ahead n)).1, (walk rows dflt p (rows[n].yes.ahead n)).2)
      else ((n, false) :: (walk rows dflt p ((Go.row rows[n].no).ahead n)).1, (walk rows dflt p ((Go.row rows[n].no).ahead n)).2)
    else ([], dflt)
termination_by g.size rows.length
decreasing_by
  all_goals exact Go.ahead_size h _
def Box6 (rows : List Row) : Prop := ∀ r ∈ rows, r.box.length = 6
theorem look_in {rows : List Row} {dflt : Str} (h6 : Box6 rows) (here : Box) (g : Go) (way : Way) : ∀ {e : Box} {l : Leaf}, BoxIn here e → here.length = 6 → l ∈ look rows dflt here g way → BoxIn l.box here := by
  induction here, g, way using look.induct rows with
  | case1 here way w =>
    intro e l hb _ h
    unfold look at h
    simp at h
    subst h
    exact hb.self
  | case2 here way n h ih1 ih2 =>
    intro e l hb hl hm
    have hr : here.length = rows[n].box.length := by rw [hl, h6 _ (List.getElem_mem h)]
    unfold look at hm
    simp only [h, dite_true] at hm
    rcases List.mem_append.mp hm with hm | hm
    · cases hc : common here rows[n].box with
      | none => rw [hc] at hm; cases hm
      | some both =>
        rw [hc] at hm
        have q := common_in hb hc hr
        exact (ih1 both (e := here) q (by rw [q.len, hl]) hm).trans q
    · obtain ⟨one, h1, h2⟩ := List.mem_flatMap.mp hm
      have q := rests_in hb hr h1
      exact (ih2 one (e := here) q (by rw [q.len, hl]) h2).trans q
  | case3 here way n h =>
    intro e l hb _ hm
    unfold look at hm
    simp [h] at hm
    subst hm
    exact hb.self
theorem look_sound {rows : List Row} {dflt : Str} {p : List Int} (h6 : Box6 rows) (hp : p.length = 6) (here : Box) (g : Go) (way : Way) : ∀ {e : Box} {l : Leaf}, BoxIn here e → here.length = 6 → l ∈ look rows dflt here g way → hasB l.box p = true → hasB here p = true ∧ l.way = way ++ (walk rows dflt p g).1 ∧ l.word = (walk rows dflt p g).2 := by
  induction here, g, way using look.induct rows with
  | case1 here way w =>
    intro e l hb _ h hh
    unfold look at h
    simp at h
    subst h
    refine ⟨hh, ?_, ?_⟩ <;> simp [walk]
  | case2 here way n h ih1 ih2 =>
    intro e l hb hl hm hh
    have hr : here.length = rows[n].box.length := by rw [hl, h6 _ (List.getElem_mem h)]
    unfold look at hm
    simp only [h, dite_true] at hm
    rcases List.mem_append.mp hm with hm | hm
    · cases hc : common here rows[n].box with
      | none => rw [hc] at hm; cases hm
      | some both =>
        rw [hc] at hm
        have q := common_in hb hc hr
        obtain ⟨h1, h2, h3⟩ := ih1 both (e := here) q (by rw [q.len, hl]) hm hh
        rw [has_common hc hr (by rw [hl, hp]), Bool.and_eq_true] at h1
        rw [walk]
        simp only [h, dite_true, h1.2, if_true]
        exact ⟨h1.1, by rw [h2]; simp, h3⟩
    · obtain ⟨one, h1, h2⟩ := List.mem_flatMap.mp hm
      have q := rests_in hb hr h1
      obtain ⟨h3, h4, h5⟩ := ih2 one (e := here) q (by rw [q.len, hl]) h2 hh
      obtain ⟨h6, h7⟩ := (has_rests hb hr (by rw [hl, hp])).mp ⟨one, h1, h3⟩
      rw [walk]
      simp only [h, dite_true, h7]
      exact ⟨h6, by rw [h4]; simp, h5⟩
  | case3 here way n h =>
    intro e l hb _ hm hh
    unfold look at hm
    simp [h] at hm
    subst hm
    rw [walk]
    simp [h]
    exact hh
theorem look_cover {rows : List Row} {dflt : Str} {p : List Int} (h6 : Box6 rows) (hp : p.length = 6) (here : Box) (g : Go) (way : Way) : ∀ {e : Box}, BoxIn here e → here.length = 6 → hasB here p = true → ∃ l ∈ look rows dflt here g way, hasB l.box p = true := by
  induction here, g, way using look.induct rows with
  | case1 here way w =>
    intro e hb _ hh
    exact ⟨⟨here, way, w⟩, by unfold look; simp, hh⟩
  | case2 here way n h ih1 ih2 =>
    intro e hb hl hh
    have hr : here.length = rows[n].box.length := by rw [hl, h6 _ (List.getElem_mem h)]
    unfold look
    simp only [h, dite_true]
    by_cases hc2 : hasB rows[n].box p = true
    · cases hc : common here rows[n].box with
      | none =>
        have := has_none hc hr (p := p) (by rw [hl, hp])
        rw [hh, hc2] at this
        cases this
      | some both =>
        have q := common_in hb hc hr
        obtain ⟨l, h1, h2⟩ := ih1 both (e := here) q (by rw [q.len, hl]) (by rw [has_common hc hr (by rw [hl, hp]), hh, hc2]; rfl)
        exact ⟨l, List.mem_append_left _ h1, h2⟩
    · rw [Bool.not_eq_true] at hc2
      obtain ⟨one, h1, h2⟩ := (has_rests hb hr (by rw [hl, hp])).mpr ⟨hh, hc2⟩
      have q := rests_in hb hr h1
      obtain ⟨l, h3, h4⟩ := ih2 one (e := here) q (by rw [q.len, hl]) h2
      exact ⟨l, List.mem_append_right _ (List.mem_flatMap.mpr ⟨one, h1, h3⟩), h4⟩
  | case3 here way n h =>
    intro e hb _ hh
    exact ⟨⟨here, way, dflt⟩, by unfold look; simp [h], hh⟩
/-- the corner of a box lies in it -/
theorem corner_has : ∀ {b e : Box}, BoxIn b e → hasB b (corner b) = true
  | [], [], _ => rfl
  | s :: b, _ :: _, h => by
    have := corner_has h.2
    unfold corner at this ⊢
    rw [List.map_cons, hasB_cons, this, Bool.and_true]
    unfold holdsB
    simp
    exact h.1.2.1
/-! ### the rows of a book -/
/-- rows that stand from here on and stay below fin -/
def SegOk (here fin : Nat) (rows : List Row) : Prop := ∀ j r, rows[j]? = some r → (here + j < r.no ∧ r.no ≤ fin) ∧ (∀ m, r.yes = .row m → here + j < m ∧ m ≤ fin) ∧ r.box.length = 6
theorem SegOk.cons {here fin : Nat} {r : Row} {rows : List Row} (h0 : (here < r.no ∧ r.no ≤ fin) ∧ (∀ m, r.yes = .row m → here < m ∧ m ≤ fin) ∧ r.box.length = 6) (h : SegOk (here + 1) fin rows) : SegOk here fin (r :: rows) := by
  intro j r' e
  cases j with
  | zero =>
    simp at e
    subst e
    exact h0
  | succ j =>
    have e : rows[j]? = some r' := e
    obtain ⟨h1, h2, h3⟩ := h j r' e
    exact ⟨by omega, fun m q => by have := h2 m q; omega, h3⟩
theorem SegOk.app {here mid fin : Nat} {a b : List Row} (ha : SegOk here mid a) (hl : here + a.length = mid) (hm : mid ≤ fin) (hb : SegOk mid fin b) : SegOk here fin (a ++ b) := by
  intro j r e
  by_cases h : j < a.length
  · rw [List.getElem?_append_left h] at e
    obtain ⟨h1, h2, h3⟩ := ha j r e
    exact ⟨by omega, fun m q => by have := h2 m q; omega, h3⟩
  · rw [List.getElem?_append_right (by omega)] at e
    obtain ⟨h1, h2, h3⟩ := hb _ r e
    exact ⟨by omega, fun m q => by have := h2 m q; omega, h3⟩
theorem unfGo_ok {f : Nat} {ch : Chs} {n : Str} {fin : Nat} (ih : ∀ m st, Deep f ch m → SegOk st (st + lenC f ch m) (unfC f ch m st)) : ∀ (rs : List Rule) (i here : Nat), (∀ b m, Rule.call b m ∈ rs → Deep f ch m) → (∀ r ∈ rs, r.box.length = 6) → here + (rs.map (lenR f ch)).sum ≤ fin →
    SegOk here fin (unfGo (unfC f ch) (lenC f ch) n fin rs i here)
  | [], _, _, _, _, _ => fun j r e => by simp [unfGo] at e
  | .word b w :: rs, i, here, hd, hb, hf => by
    have e1 : lenR f ch (.word b w) = 1 := rfl
    rw [List.map_cons, List.sum_cons, e1] at hf
    refine SegOk.cons ⟨?_, fun m q => (by cases q), hb _ (List.mem_cons_self ..)⟩ (unfGo_ok ih rs (i + 1) (here + 1) (fun b m q => hd b m (List.mem_cons_of_mem _ q)) (fun r q => hb r (List.mem_cons_of_mem _ q)) (by omega))
    simp only
    omega
  | .back b :: rs, i, here, hd, hb, hf => by
    have e1 : lenR f ch (.back b) = 1 := rfl
    rw [List.map_cons, List.sum_cons, e1] at hf
    refine SegOk.cons ⟨?_, fun m q => ?_, hb _ (List.mem_cons_self ..)⟩ (unfGo_ok ih rs (i + 1) (here + 1) (fun b m q => hd b m (List.mem_cons_of_mem _ q)) (fun r q => hb r (List.mem_cons_of_mem _ q)) (by omega))
    · simp only
      omega
    · simp only at q
      cases q
      omega
  | .call b m :: rs, i, here, hd, hb, hf => by
    have e1 : lenR f ch (.call b m) = 1 + lenC f ch m := rfl
    rw [List.map_cons, List.sum_cons, e1] at hf
    have hdm := hd b m (List.mem_cons_self ..)
    refine SegOk.cons ⟨?_, fun m' q => ?_, hb _ (List.mem_cons_self ..)⟩ (SegOk.app (ih m (here + 1) hdm) (by rw [unfC_len _ _ _ _ hdm]) (by omega) (unfGo_ok ih rs (i + 1) (here + 1 + lenC f ch m) (fun b m q => hd b m (List.mem_cons_of_mem _ q)) (fun r q => hb r (List.mem_cons_of_mem _ q)) (by omega)))
    · simp only
      omega
    · simp only at q
      cases q
      omega
theorem unfC_ok {ch : Chs} (hb : ∀ n rs, lookD ch n = some rs → ∀ r ∈ rs, r.box.length = 6) : ∀ (f : Nat) (n : Str) (st : Nat), Deep f ch n → SegOk st (st + lenC f ch n) (unfC f ch n st)
  | 0, _, _, h => h.elim
  | f + 1, n, st, ⟨rs, h1, h2⟩ => by
    have e : unfC (f + 1) ch n st = unfGo (unfC f ch) (lenC f ch) n (st + lenC (f + 1) ch n) rs 0 st := by
      unfold unfC
      rw [h1]
      rfl
    rw [e]
    exact unfGo_ok (fun m st d => unfC_ok hb f m st d) rs 0 st h2 (hb n rs h1) (by rw [lenC_eq h1]; exact Nat.le_refl _)
def rowsB (B : Book) : List Row := unfC 2 B.chains "main" 0
def lookB (B : Book) (box : Box) : List Leaf := look (rowsB B) B.dflt box (.row 0) []
structure BookOk (B : Book) : Prop where
  ok : BkOk B.chains
  box : ∀ p ∈ B.chains, ∀ r ∈ p.2, BoxIn r.box every
  total : B.total = (lenC 2 B.chains "main" : Nat)
  cap : ∀ box, BoxIn box every → (lookB B box).length ≤ 2025
theorem BookOk.deep {B : Book} (h : BookOk B) : Deep 2 B.chains "main" := by
  obtain ⟨rs, q⟩ := h.ok.main
  exact h.ok.deep _ q
theorem BookOk.len {B : Book} (h : BookOk B) : lenC 2 B.chains "main" ≤ 1000 := by
  have := h.ok.len
  omega
theorem BookOk.box6 {B : Book} (h : BookOk B) : ∀ n rs, lookD B.chains n = some rs → ∀ r ∈ rs, r.box.length = 6 := fun n rs e r hr => (h.box _ (lookD_mem e) r hr).len
theorem BookOk.rowsLen {B : Book} (h : BookOk B) : (rowsB B).length = lenC 2 B.chains "main" := unfC_len _ _ _ _ h.deep
theorem BookOk.rows {B : Book} (h : BookOk B) : RowsOk (rowsB B) := by
  intro n r e
  have q := unfC_ok h.box6 2 "main" 0 h.deep n r e
  rw [Nat.zero_add, Nat.zero_add] at q
  obtain ⟨q1, q2, q3⟩ := q
  exact ⟨by rw [h.rowsLen]; exact q1, fun m e => by rw [h.rowsLen]; exact q2 m e, q3⟩
theorem BookOk.six {B : Book} (h : BookOk B) : Box6 (rowsB B) := fun r hr => by
  obtain ⟨j, hj⟩ := List.getElem?_of_mem hr
  exact (h.rows j r hj).box
theorem every_in : BoxIn every every := by
  simp [every, BoxIn, StIn]
theorem BookOk.leaf {B : Book} (h : BookOk B) {box : Box} (hb : BoxIn box every) {l : Leaf} (hl : l ∈ lookB B box) : BoxIn l.box box := look_in h.six box _ _ hb (by rw [hb.len]; rfl) hl
/-! ### two books looked at jointly -/
structure Jo where
  box : Box
  way : Way
  word : Str
  way2 : Way
  word2 : Str
def jointB (B C : Book) : List Jo := (lookB B every).flatMap fun l => (lookB C l.box).map fun m => ⟨m.box, l.way, l.word, m.way, m.word⟩
def partB (B C : Book) : Option (List Int) := ((jointB B C).find? fun j => !decide (j.word = j.word2)).map fun j => corner j.box
theorem flat_len {α β : Type} (f : α → List β) (k : Nat) : ∀ l : List α, (∀ a ∈ l, (f a).length ≤ k) → (l.flatMap f).length ≤ l.length * k
  | [], _ => by simp
  | a :: l, h => by
    have h1 := flat_len f k l fun b hb => h b (List.mem_cons_of_mem _ hb)
    have h2 := h a (List.mem_cons_self ..)
    rw [List.flatMap_cons, List.length_append, List.length_cons, Nat.succ_mul]
    omega
theorem joint_len {B C : Book} (hB : BookOk B) (hC : BookOk C) : (jointB B C).length ≤ 4100625 := by
  have h1 := flat_len (fun l : Leaf => (lookB C l.box).map fun m => (⟨m.box, l.way, l.word, m.way, m.word⟩ : Jo)) 2025 (lookB B every) fun l hl => by
    rw [List.length_map]
    exact hC.cap _ (hB.leaf every_in hl)
  have h2 := hB.cap every every_in
  have h3 : (lookB B every).length * 2025 ≤ 2025 * 2025 := Nat.mul_le_mul_right _ h2
  exact Nat.le_trans h1 (Nat.le_trans h3 (by decide))
/-! ### how many stretches are narrowed -/
def narG : Box → Box → Nat
  | s :: b, t :: c => (if s = t then 0 else 1) + narG b c
  | _, _ => 0
def narC (b : Box) : Nat := narG b every
theorem narG_set : ∀ (b c : Box) (j : Nat) (st : Int × Int), narG (b.set j st) c ≤ narG b c + 1
  | [], c, j, st => by simp
  | s :: b, [], j, st => by cases j <;> simp [narG]
  | s :: b, t :: c, 0, st => by
    simp only [List.set_cons_zero, narG]
    split <;> split <;> omega
  | s :: b, t :: c, j + 1, st => by
    have := narG_set b c j st
    simp only [List.set_cons_succ, narG]
    split <;> omega
theorem BoxIn.set : ∀ {b c : Box} {j : Nat} {st t : Int × Int}, BoxIn b c → c[j]? = some t → StIn st t → BoxIn (b.set j st) c
  | [], [], _, _, _, _, h, _ => by simp at h
  | s :: b, u :: c, 0, st, t, hb, h, hs => by
    simp at h
    subst h
    exact ⟨hs, hb.2⟩
  | s :: b, u :: c, j + 1, st, t, hb, h, hs => ⟨hb.1, BoxIn.set hb.2 (by simpa using h) hs⟩
/-- the pieces into which boxes may cut -/
def piecesL (bs : List Box) : Nat := (bs.map fun b => 1 + 2 * narC b).prod
theorem prod_set : ∀ (l : List Nat) (j a : Nat), l[j]? = some 1 → (l.set j a).prod = l.prod * a
  | [], _, _, h => by simp at h
  | x :: l, 0, a, h => by
    simp at h
    subst h
    simp [Nat.mul_comm]
  | x :: l, j + 1, a, h => by
    have := prod_set l j a (by simpa using h)
    simp [this, Nat.mul_assoc]
end
section
open PySem PySem.Spec PyProof.Rows L2
section
variable {P : Program} {w : World} {K : PySem.W.Frag} {mg : Str → Option Value} {base : Heap}
abbrev eJo (j : Jo) : D := .tup [eBox j.box, eWay j.way, .str j.word, eWay j.way2, .str j.word2]
def sp_joint (K : PySem.W.Frag) : Sp := Sp2 fun x y H Q => ∃ (B C : Book), BookOk B ∧ BookOk C ∧ Dt K H x (.bok B) ∧ Dt K H y (.bok C) ∧ ∀ v H', Same H H' → Dt K H' v (.lst ((jointB B C).map eJo)) → Q v H'
def sN_joint : List Str := ["one", "other", "told", "rows", "box", "way", "word", "part", "other_way", "other_word"]
theorem sc_joint : FnScope sN_joint ["one", "other"] (defScope s_joint) := ⟨rfl, rfl, rfl, by decide +kernel, rfl, by decide +kernel, by decide +kernel⟩

theorem ok_joint (T : Tx K mg) : Fd P w K mg base 7 (He.ga K "joint") ["one", "other"] (sp_joint K) := by
  have F_unfolded := ok_unfolded (P := P) (w := w) (base := base) T
  have F_looked := ok_looked (P := P) (w := w) (base := base) T
  have F_every := ok_every (P := P) (w := w) (base := base) T
  refine mkFd T.d_joint sc_joint (fun _ _ _ _ _ _ us hl => match us, hl with | [_, _], _ => rfl) (fun vs H Q E h => Sp2.len h) (fun cdv A outer s H vs Q E hr h => ?_)
  obtain ⟨x, y, rfl, B, C, hB, hC, hx, hy, k⟩ := h
  refine ⟨_, (pss_cons (ps_set (i := 2) sc_joint.nd rfl (.inl rfl) (pe_lst pa_nil))
      (pss_cons (ps_set (i := 3) sc_joint.nd rfl (.inl rfl) (pe_f F_unfolded (hr.mono (by omega)) (by rfl) T.g_unfolded (pa_cons (pv 1) pa_nil)))
      (pss_cons (ps_for PassesOwn.never rfl (pi_list (pe_f F_looked (hr.mono (by omega)) (by rfl) T.g_looked (pa_cons (pe_f F_unfolded (hr.mono (by omega)) (by rfl) T.g_unfolded (pa_cons (pv 0) pa_nil)) (pa_cons (pe_fld (pv 0) rfl) (pa_cons (pe_f0 F_every (hr.mono (by omega)) (by rfl) T.g_every) pa_nil))))) (pg_tup rfl (pgs_cons (pg_name (i := 4) sc_joint.nd rfl (.inl rfl)) (pgs_cons (pg_name (i := 5) sc_joint.nd rfl (.inl rfl)) (pgs_cons (pg_name (i := 6) sc_joint.nd rfl (.inl rfl)) pgs_nil)))) (pss_cons (ps_for PassesOwn.never rfl (pi_list (pe_f F_looked (hr.mono (by omega)) (by rfl) T.g_looked (pa_cons (pv 3) (pa_cons (pe_fld (pv 1) rfl) (pa_cons (pv 4) pa_nil))))) (pg_tup rfl (pgs_cons (pg_name (i := 7) sc_joint.nd rfl (.inl rfl)) (pgs_cons (pg_name (i := 8) sc_joint.nd rfl (.inl rfl)) (pgs_cons (pg_name (i := 9) sc_joint.nd rfl (.inl rfl)) pgs_nil)))) (pss_cons (ps_expr (pe_bm PySem.F.plainAttrs_list PySem.F.slot_list_append PySem.F.type_list_append mt_append (pv 2) (pa_cons (pe_tup (pa_cons (pv 7) (pa_cons (pe_fz (pe_callTy cl_listOf (by rfl) T.b_list (by decide +kernel) (pa_cons (pv 5) pa_nil))) (pa_cons (pv 6) (pa_cons (pv 8) (pa_cons (pv 9) pa_nil)))))) pa_nil)))
      pss_nil))
      pss_nil))
      (pss_cons (ps_ret (pe_fz (pv 2)))
      pss_nil)))), ?_⟩
  try dsimp only [cxOf, Cx.nox, Cx.wish]
  repeat walk_at "w"
  walk_at "newO"
  intro p H1 np s1 o1
  repeat walk_at "w"
  refine Sp1.mk ⟨C, hC.deep, hC.len, (by walk_at "dt"), fun v2 H2 s2 hv2 => ?_⟩
  repeat walk_at "w"
  refine Sp1.mk ⟨B, hB.deep, hB.len, (by walk_at "dt"), fun v3 H3 s3 hv3 => ?_⟩
  repeat walk_at "w"
  refine fl_dflt T (hx.up (by walk_at "ext")) ?_
  repeat walk_at "w"
  refine Sp0.mk fun v4 H4 s4 hv4 => ?_
  repeat walk_at "w"
  have hlB : (lookB B every).length ≤ 2025 := hB.cap _ every_in
  refine Sp3.mk ⟨rowsB B, B.dflt, every, hB.rows, by rw [hB.rowsLen]; exact hB.len, rfl, Nat.le_trans hlB (by decide), hv3.up s4.ext, rfl, hv4, fun v5 H5 s5 hv5 => ?_⟩
  repeat walk_at "w"
  refine i_list hv5 (Ext.refl _) fun J it => ?_
  have hlj := joint_len hB hC
  refine f_for it (fun i σ H' => ∃ e4 e5 e6 e7 e8 e9, σ = [some x, some y, some (.ref p), some v2, e4, e5, e6, e7, e8, e9] ∧ Same H H' ∧ Ext H5 H' ∧ Ow K H' p ((((lookB B every).take i).flatMap fun l => (lookB C l.box).map fun m => (⟨m.box, l.way, l.word, m.way, m.word⟩ : Jo)).map eJo)) ⟨_, _, _, _, _, _, rfl, (by walk_at "same"), Ext.refl _, (by walk_at "ow")⟩ (fun i σ H' ⟨_, _, _, _, _, _, _, _, s, _⟩ => s) ?_ ?_
  · rintro i d u σ H' H6 e1 ⟨_, _, _, _, _, _, rfl, s6, x6, o6⟩ s7 hu
    rw [List.getElem?_map, Option.map_eq_some_iff] at e1
    obtain ⟨l, e1, rfl⟩ := e1
    have e1 : (lookB B every)[i]? = some l := e1
    have hlm := List.mem_of_getElem? e1
    have hle := hB.leaf every_in hlm
    have hu : Dt K H6 u (.tup [eBox l.box, eWay l.way, .str l.word]) := hu
    have htk : ((lookB B every).take (i + 1)).flatMap (fun l => (lookB C l.box).map fun m => (⟨m.box, l.way, l.word, m.way, m.word⟩ : Jo)) = ((lookB B every).take i).flatMap (fun l => (lookB C l.box).map fun m => (⟨m.box, l.way, l.word, m.way, m.word⟩ : Jo)) ++ (lookB C l.box).map fun m => (⟨m.box, l.way, l.word, m.way, m.word⟩ : Jo) := by
      rw [List.take_succ, e1, List.flatMap_append]
      simp
    have hbd : (((lookB B every).take i).flatMap fun l => (lookB C l.box).map fun m => (⟨m.box, l.way, l.word, m.way, m.word⟩ : Jo)).length + (lookB C l.box).length ≤ 4100625 := by
      have e2 : jointB B C = ((lookB B every).take (i + 1) ++ (lookB B every).drop (i + 1)).flatMap fun l => (lookB C l.box).map fun m => (⟨m.box, l.way, l.word, m.way, m.word⟩ : Jo) := by
        rw [List.take_append_drop]
        rfl
      rw [e2, List.flatMap_append, htk, List.length_append, List.length_append, List.length_map] at hlj
      omega
    rw [htk]
    generalize ((lookB B every).take i).flatMap (fun l => (lookB C l.box).map fun m => (⟨m.box, l.way, l.word, m.way, m.word⟩ : Jo)) = acc at *
    repeat walk_at "w"
    refine fl_dflt T (hy.up (by walk_at "ext")) ?_
    repeat walk_at "w"
    have hcC : (lookB C l.box).length ≤ 2025 := hC.cap _ hle
    refine Sp3.mk ⟨rowsB C, C.dflt, l.box, hC.rows, by rw [hC.rowsLen]; exact hC.len, by rw [hle.len]; rfl, Nat.le_trans hcC (by decide), hv2.up (by walk_at "ext"), rfl, (by walk_at "dt"), fun v8 H8 s8 hv8 => ?_⟩
    repeat walk_at "w"
    refine i_list hv8 (Ext.refl _) fun J2 it2 => ?_
    refine f_for it2 (fun i σ H' => ∃ e4 e7 e8 e9, σ = [some x, some y, some (.ref p), some v2, e4, _, _, e7, e8, e9] ∧ Same H H' ∧ Ext H8 H' ∧ Ow K H' p ((acc ++ ((lookB C l.box).take i).map fun m => (⟨m.box, l.way, l.word, m.way, m.word⟩ : Jo)).map eJo)) ⟨_, _, _, _, rfl, (by walk_at "same"), Ext.refl _, by simpa using (o6.up s7).up s8⟩ (fun i σ H' h => ?_) ?_ ?_
    · obtain ⟨_, _, _, _, _, _, s, _⟩ := h
      exact s
    · rintro i d u9 σ' H' H9 e2 ⟨_, _, _, _, rfl, s9, x9, o9⟩ s10 hu9
      rw [List.getElem?_map, Option.map_eq_some_iff] at e2
      obtain ⟨m, e2, rfl⟩ := e2
      have e2 : (lookB C l.box)[i]? = some m := e2
      have hu9 : Dt K H9 u9 (.tup [eBox m.box, eWay m.way, .str m.word]) := hu9
      have hi := (List.getElem?_eq_some_iff.mp e2).1
      repeat walk_at "w"
      refine w_tyO (o9.up s10) ?_
      repeat walk_at "w"
      refine w_listOfF (ds := l.way.map eWy) (by walk_at "dt") fun v10 H10 s11 hv10 => ?_
      repeat walk_at "w"
      walk_at "newT"
      intro u11 H11 s12 hu11
      repeat walk_at "w"
      refine w_appS (d := eJo ⟨m.box, l.way, l.word, m.way, m.word⟩) ((o9.up s10).up (by walk_at "same")) hu11 (by simp; omega) (Hb := H) (by walk_at "same") np fun H12 b12 x12 s13 o13 => ?_
      repeat walk_at "w"
      refine ⟨_, _, _, _, rfl, s13, (by walk_at "ext"), ?_⟩
      have et : (lookB C l.box).take (i + 1) = (lookB C l.box).take i ++ [m] := by
        rw [List.take_succ, e2]
        rfl
      rw [et]
      simpa using o13
    · rintro σ' H' ⟨_, _, _, _, rfl, s9, x9, o9⟩
      rw [List.length_map, show (look (rowsB C) C.dflt l.box (.row 0) []).length = (lookB C l.box).length from rfl, List.take_length] at o9
      repeat walk_at "w"
      exact ⟨_, _, _, _, _, _, rfl, s9, (by walk_at "ext"), o9⟩
  · rintro σ' H' ⟨_, _, _, _, _, _, rfl, s6, x6, o6⟩
    rw [List.length_map, show (look (rowsB B) B.dflt every (.row 0) []).length = (lookB B every).length from rfl, List.take_length] at o6
    repeat walk_at "w"
    refine w_outS o6 s6 np fun H7 s7 hr => ?_
    exact k _ _ s7 hr
def sp_parting (K : PySem.W.Frag) : Sp := Sp2 fun x y H Q => ∃ (B C : Book), BookOk B ∧ BookOk C ∧ Dt K H x (.bok B) ∧ Dt K H y (.bok C) ∧ ∀ v H', Same H H' → Dt K H' v (match partB B C with | none => .non | some p => eInts p) → Q v H'
def sN_parting : List Str := ["one", "other", "box", "way", "word", "other_way", "other_word"]
theorem sc_parting : FnScope sN_parting ["one", "other"] (defScope s_parting) := ⟨rfl, rfl, rfl, by decide +kernel, rfl, by decide +kernel, by decide +kernel⟩

theorem jo_in {B C : Book} (hB : BookOk B) (hC : BookOk C) {j : Jo} (h : j ∈ jointB B C) : BoxIn j.box every := by
  obtain ⟨l, h1, h2⟩ := List.mem_flatMap.mp h
  obtain ⟨m, h3, rfl⟩ := List.mem_map.mp h2
  have q := hB.leaf every_in h1
  exact (hC.leaf q h3).trans q
theorem ok_parting (T : Tx K mg) : Fd P w K mg base 8 (He.ga K "parting") ["one", "other"] (sp_parting K) := by
  have F_joint := ok_joint (P := P) (w := w) (base := base) T
  have F_corner := ok_corner (P := P) (w := w) (base := base) T
  refine mkFd T.d_parting sc_parting (fun _ _ _ _ _ _ us hl => match us, hl with | [_, _], _ => rfl) (fun vs H Q E h => Sp2.len h) (fun cdv A outer s H vs Q E hr h => ?_)
  obtain ⟨x, y, rfl, B, C, hB, hC, hx, hy, k⟩ := h
  refine ⟨_, (pss_cons (ps_for PassesOwn.never rfl (pi_list (pe_f F_joint (hr.mono (by omega)) (by rfl) T.g_joint (pa_cons (pv 0) (pa_cons (pv 1) pa_nil)))) (pg_tup rfl (pgs_cons (pg_name (i := 2) sc_parting.nd rfl (.inl rfl)) (pgs_cons (pg_name (i := 3) sc_parting.nd rfl (.inl rfl)) (pgs_cons (pg_name (i := 4) sc_parting.nd rfl (.inl rfl)) (pgs_cons (pg_name (i := 5) sc_parting.nd rfl (.inl rfl)) (pgs_cons (pg_name (i := 6) sc_parting.nd rfl (.inl rfl)) pgs_nil)))))) (pss_cons (ps_if (pt_cmpR op_ne (pv 4) (pv 6) (nomark _)) (pss_cons (ps_ret (pe_f F_corner (hr.mono (by omega)) (by rfl) T.g_corner (pa_cons (pv 2) pa_nil)))
      pss_nil) pss_nil)
      pss_nil))
      (pss_cons (ps_ret pe_non)
      pss_nil)), ?_⟩
  try dsimp only [cxOf, Cx.nox, Cx.wish]
  repeat walk_at "w"
  refine Sp2.mk ⟨B, C, hB, hC, hx, hy, fun v1 H1 s1 hv1 => ?_⟩
  repeat walk_at "w"
  refine i_list hv1 (Ext.refl _) fun J it => ?_
  refine f_for it (fun i σ H' => ∃ e2 e3 e4 e5 e6, σ = [some x, some y, e2, e3, e4, e5, e6] ∧ Same H1 H' ∧ partB B C = (((jointB B C).drop i).find? fun j => !decide (j.word = j.word2)).map fun j => corner j.box) ⟨_, _, _, _, _, rfl, Same.refl _, rfl⟩ (fun i σ H' ⟨_, _, _, _, _, _, s, _⟩ => s.ext) ?_ ?_
  · rintro i d u σ H' H2 e1 ⟨_, _, _, _, _, rfl, s2, hp⟩ s3 hu
    rw [List.getElem?_map, Option.map_eq_some_iff] at e1
    obtain ⟨j, e1, rfl⟩ := e1
    have hj := jo_in hB hC (List.mem_of_getElem? e1)
    have hu : Dt K H2 u (.tup [eBox j.box, eWay j.way, .str j.word, eWay j.way2, .str j.word2]) := hu
    rw [drop_cons e1, List.find?_cons] at hp
    repeat walk_at "w"
    cases hd : decide (j.word = j.word2) with
    | true =>
      rw [hd] at hp
      repeat walk_at "w"
      exact ⟨_, _, _, _, _, rfl, (by walk_at "same"), hp⟩
    | false =>
      rw [hd] at hp
      repeat walk_at "w"
      have hp : partB B C = some (corner j.box) := hp
      refine Sp1.mk ⟨j.box, by rw [hj.len]; decide, (by walk_at "dt"), fun v3 H3 s4 hv3 => ?_⟩
      refine k _ _ (by walk_at "same") ?_
      rw [hp]
      exact hv3
  · rintro σ' H' ⟨_, _, _, _, _, rfl, s2, hp⟩
    rw [List.length_map, List.drop_eq_nil_of_le (Nat.le_refl _)] at hp
    repeat walk_at "w"
    refine k _ _ (by walk_at "same") ?_
    rw [hp]
    exact .non
end
end
section
open PySem
/-! ### what is reached, and the shortened book -/
abbrev Place := Str × Int
def placeOf (rows : List Row) (i : Nat) : Place := match rows[i]? with
  | some r => (r.name, (r.idx : Nat))
  | none => ("", 0)
abbrev Firsts := List (Place × List Int)
def firstW (rows : List Row) (c : List Int) : Way → Firsts → Firsts
  | [], acc => acc
  | (i, fits) :: way, acc => firstW rows c way (if (fits && !(lookD acc (placeOf rows i)).isSome) = true then acc ++ [(placeOf rows i, c)] else acc)
def firstL (rows : List Row) : List Leaf → Firsts → Firsts
  | [], acc => acc
  | l :: ls, acc => firstL rows ls (firstW rows (corner l.box) l.way acc)
def firstB (B : Book) : Firsts := firstL (rowsB B) (lookB B every) []
def reachN (B : Book) (n : Str) (k : Nat) : List (Str × Nat × Option (List Int)) := (List.range k).map fun i => (n, i, lookD (firstB B) (n, (i : Int)))
def reachB (B : Book) : List (Str × Nat × Option (List Int)) := B.chains.flatMap fun p => reachN B p.1 p.2.length
def liveB (B : Book) (n : Str) (i : Nat) : Bool := (lookD (firstB B) (n, (i : Int))).isSome
def keptB (B : Book) (n : Str) (rs : List Rule) : List Rule := ((rs.zipIdx).filter fun p => liveB B n p.2).map (·.1)
def keptC (B : Book) : Chs := B.chains.map fun p => (p.1, keptB B p.1 p.2)
def calledB (B : Book) : List Str := "main" :: (keptC B).flatMap fun p => callsR p.2
def shortC (B : Book) : Chs := (keptC B).filter fun p => decide (p.1 ∈ calledB B)
def shortB (B : Book) : Book := ⟨B.dflt, shortC B, (lenC 2 (shortC B) "main" : Nat)⟩
/-! ways are short -/
def Go.left (l : Nat) : Go → Nat
  | .row n => l - n
  | .word _ => 0
theorem Go.ahead_left {l n : Nat} (h : n < l) (g : Go) : (g.ahead n).left l + 1 ≤ l - n := by
  cases g <;> simp [Go.ahead, Go.left] <;> omega
theorem look_way {rows : List Row} {dflt : Str} (here : Box) (g : Go) (way : Way) : ∀ l ∈ look rows dflt here g way, l.way.length ≤ way.length + g.left rows.length ∧ ∀ e ∈ l.way, e ∈ way ∨ e.1 < rows.length := by
  induction here, g, way using look.induct rows with
  | case1 here way w =>
    intro l h
    unfold look at h
    simp at h
    subst h
    exact ⟨Nat.le_add_right _ _, fun e he => .inl he⟩
  | case2 here way n h ih1 ih2 =>
    intro l hm
    unfold look at hm
    simp only [h, dite_true] at hm
    rcases List.mem_append.mp hm with hm | hm
    · cases hc : common here rows[n].box with
      | none => rw [hc] at hm; cases hm
      | some both =>
        rw [hc] at hm
        obtain ⟨h1, h2⟩ := ih1 both l hm
        have h3 := Go.ahead_left h rows[n].yes
        rw [List.length_append] at h1
        rw [List.length_singleton] at h1
        refine ⟨by show _ ≤ way.length + (rows.length - n); omega, fun e he => ?_⟩
        rcases h2 e he with h4 | h4
        · rcases List.mem_append.mp h4 with h4 | h4
          · exact .inl h4
          · rw [List.mem_singleton.mp h4]
            exact .inr h
        · exact .inr h4
    · obtain ⟨one, _, hm⟩ := List.mem_flatMap.mp hm
      obtain ⟨h1, h2⟩ := ih2 one l hm
      have h3 := Go.ahead_left h (.row rows[n].no)
      rw [List.length_append] at h1
      rw [List.length_singleton] at h1
      refine ⟨by show _ ≤ way.length + (rows.length - n); omega, fun e he => ?_⟩
      rcases h2 e he with h4 | h4
      · rcases List.mem_append.mp h4 with h4 | h4
        · exact .inl h4
        · rw [List.mem_singleton.mp h4]
          exact .inr h
      · exact .inr h4
  | case3 here way n h =>
    intro l hm
    unfold look at hm
    simp [h] at hm
    subst hm
    exact ⟨Nat.le_add_right _ _, fun e he => .inl he⟩
theorem firstW_len (rows : List Row) (c : List Int) : ∀ (way : Way) (acc : Firsts), (firstW rows c way acc).length ≤ acc.length + way.length
  | [], acc => Nat.le_refl _
  | (i, fits) :: way, acc => by
    unfold firstW
    split
    · have := firstW_len rows c way (acc ++ [(placeOf rows i, c)])
      rw [List.length_append, List.length_singleton] at this
      rw [List.length_cons]
      omega
    · have := firstW_len rows c way acc
      rw [List.length_cons]
      omega
end
section
open PySem PySem.Spec PyProof.Rows L2
section
variable {P : Program} {w : World} {K : PySem.W.Frag} {mg : Str → Option Value} {base : Heap}
abbrev eFs (p : Place × List Int) : Place × D := (p.1, eInts p.2)
theorem look_map {α : Type} {β γ : Type} [DecidableEq α] (f : β → γ) (l : List (α × β)) (a : α) : lookD (l.map fun p => (p.1, f p.2)) a = (lookD l a).map f := by
  unfold lookD
  induction l with
  | nil => rfl
  | cons p l ih =>
    rw [List.map_cons, List.find?_cons, List.find?_cons]
    by_cases h : p.1 = a
    · simp [h]
    · simp only [h, decide_false]
      exact ih
theorem look_eFs (l : Firsts) (a : Place) : lookD (l.map eFs) a = (lookD l a).map eInts := look_map eInts l a
def eOI : Option (List Int) → D
  | none => .non
  | some p => eInts p
abbrev eRch (r : Str × Nat × Option (List Int)) : D := .tup [.str r.1, .int (r.2.1 : Nat), eOI r.2.2]
theorem firstL_app (rows : List Row) (a b : List Leaf) (acc : Firsts) : firstL rows (a ++ b) acc = firstL rows b (firstL rows a acc) := by
  induction a generalizing acc with
  | nil => rfl
  | cons l a ih => exact ih _
theorem firstW_app (rows : List Row) (c : List Int) (a b : Way) (acc : Firsts) : firstW rows c (a ++ b) acc = firstW rows c b (firstW rows c a acc) := by
  induction a generalizing acc with
  | nil => rfl
  | cons e a ih =>
    obtain ⟨i, f⟩ := e
    exact ih _
def sp_reached (K : PySem.W.Frag) : Sp := Sp1 fun x H Q => ∃ (B : Book), BookOk B ∧ Dt K H x (.bok B) ∧ ∀ v H', Same H H' → Dt K H' v (.lst ((reachB B).map eRch)) → Q v H'
def sN_reached : List Str := ["book", "rows", "first", "box", "way", "word", "at", "fits", "place", "told", "name", "index"]
theorem sc_reached : FnScope sN_reached ["book"] (defScope s_reached) := ⟨rfl, rfl, rfl, by decide +kernel, rfl, by decide +kernel, by decide +kernel⟩

theorem ok_reached (T : Tx K mg) : Fd P w K mg base 7 (He.ga K "reached") ["book"] (sp_reached K) := by
  have F_unfolded := ok_unfolded (P := P) (w := w) (base := base) T
  have F_looked := ok_looked (P := P) (w := w) (base := base) T
  have F_every := ok_every (P := P) (w := w) (base := base) T
  have F_corner := ok_corner (P := P) (w := w) (base := base) T
  have F_Book_chain_names := ok_Book_chain_names (P := P) (w := w) (base := base) T
  have F_Book_chain := ok_Book_chain (P := P) (w := w) (base := base) T
  refine mkFd T.d_reached sc_reached (fun _ _ _ _ _ _ us hl => match us, hl with | [_], _ => rfl) (fun vs H Q E h => Sp1.len h) (fun cdv A outer s H vs Q E hr h => ?_)
  obtain ⟨x, rfl, B, hB, hx, k⟩ := h
  refine ⟨_, (pss_cons (ps_set (i := 1) sc_reached.nd rfl (.inl rfl) (pe_f F_unfolded (hr.mono (by omega)) (by rfl) T.g_unfolded (pa_cons (pv 0) pa_nil)))
      (pss_cons (ps_set (i := 2) sc_reached.nd rfl (.inl rfl) pe_dnewT)
      (pss_cons (ps_for PassesOwn.never rfl (pi_list (pe_f F_looked (hr.mono (by omega)) (by rfl) T.g_looked (pa_cons (pv 1) (pa_cons (pe_fld (pv 0) rfl) (pa_cons (pe_f0 F_every (hr.mono (by omega)) (by rfl) T.g_every) pa_nil))))) (pg_tup rfl (pgs_cons (pg_name (i := 3) sc_reached.nd rfl (.inl rfl)) (pgs_cons (pg_name (i := 4) sc_reached.nd rfl (.inl rfl)) (pgs_cons (pg_name (i := 5) sc_reached.nd rfl (.inl rfl)) pgs_nil)))) (pss_cons (ps_for PassesOwn.never rfl (pi_list (pv 4)) (pg_tup rfl (pgs_cons (pg_name (i := 6) sc_reached.nd rfl (.inl rfl)) (pgs_cons (pg_name (i := 7) sc_reached.nd rfl (.inl rfl)) pgs_nil))) (pss_cons (ps_set (i := 8) sc_reached.nd rfl (.inl rfl) (pe_tup (pa_cons (pe_ix ix_tup (pe_ix ix_list (pv 1) (pv 6) (fun _ _ => rfl)) pe_int (fun _ _ => rfl)) (pa_cons (pe_ix ix_tup (pe_ix ix_list (pv 1) (pv 6) (fun _ _ => rfl)) pe_int (fun _ _ => rfl)) pa_nil))))
      (pss_cons (ps_if (PW.pt (pw_and (pt_val (pv 7)) (pw_and1 (pt_cmp (pc_dnotin (hu_of hr) (pv 8) (pv 2)))))) (pss_cons (ps_dput (hu_of hr) (pv 2) (pv 8) (pe_f F_corner (hr.mono (by omega)) (by rfl) T.g_corner (pa_cons (pv 3) pa_nil)) rfl)
      pss_nil) pss_nil)
      pss_nil)))
      pss_nil))
      (pss_cons (ps_set (i := 9) sc_reached.nd rfl (.inl rfl) (pe_lst pa_nil))
      (pss_cons (ps_for PassesOwn.never rfl (pi_list (pe_m0 (pv 0) T.c_Book T.m_Book_chain_names F_Book_chain_names (hr.mono (by omega)))) (pg_name (i := 10) sc_reached.nd rfl (.inl rfl)) (pss_cons (ps_for PassesOwn.never rfl (pi_range1 (by rfl) T.b_range (pa_cons (pe_callB cl_lenQ (by rfl) T.b_len PySem.boot_len (pa_cons (pe_m (pv 0) T.c_Book T.m_Book_chain F_Book_chain (hr.mono (by omega)) (pa_cons (pv 10) pa_nil)) pa_nil)) pa_nil)) (pg_name (i := 11) sc_reached.nd rfl (.inl rfl)) (pss_cons (ps_expr (pe_bm PySem.F.plainAttrs_list PySem.F.slot_list_append PySem.F.type_list_append mt_append (pv 9) (pa_cons (pe_tup (pa_cons (pv 10) (pa_cons (pv 11) (pa_cons (pe_dget1 (hu_of hr) (pv 2) (pe_tup (pa_cons (pv 10) (pa_cons (pv 11) pa_nil))) ⟨rfl, rfl, rfl, rfl⟩) pa_nil)))) pa_nil)))
      pss_nil))
      pss_nil))
      (pss_cons (ps_ret (pe_fz (pv 9)))
      pss_nil)))))), ?_⟩
  try dsimp only [cxOf, Cx.nox, Cx.wish]
  repeat walk_at "w"
  refine Sp1.mk ⟨B, hB.deep, hB.len, hx, fun v1 H1 s1 hv1 => ?_⟩
  repeat walk_at "w"
  refine w_dnewT (K := K) fun q H2 nq s2 o2 => ?_
  repeat walk_at "w"
  refine fl_dflt T (hx.up (by walk_at "ext")) ?_
  repeat walk_at "w"
  refine Sp0.mk fun v3 H3 s3 hv3 => ?_
  repeat walk_at "w"
  have hlB : (lookB B every).length ≤ 2025 := hB.cap _ every_in
  have hrl : (rowsB B).length ≤ 1000 := by rw [hB.rowsLen]; exact hB.len
  refine Sp3.mk ⟨rowsB B, B.dflt, every, hB.rows, hrl, rfl, Nat.le_trans hlB (by decide), hv1.up (by walk_at "ext"), rfl, hv3, fun v4 H4 s4 hv4 => ?_⟩
  repeat walk_at "w"
  refine i_list hv4 (Ext.refl _) fun J it => ?_
  have nq0 : H q = none := s1.free nq
  refine f_for it (fun i σ H' => ∃ e3 e4 e5 e6 e7 e8, σ = [some x, some v1, some (.ref q), e3, e4, e5, e6, e7, e8, none, none, none] ∧ Same H1 H' ∧ Ext H4 H' ∧ OdP K H' q ((firstL (rowsB B) ((lookB B every).take i) []).map eFs) ∧ (firstL (rowsB B) ((lookB B every).take i) []).length ≤ i * 1000) ⟨_, _, _, _, _, _, rfl, (by walk_at "same"), Ext.refl _, o2.up (by walk_at "same"), Nat.zero_le _⟩ (fun i σ H' ⟨_, _, _, _, _, _, _, _, s, _⟩ => s) ?_ ?_
  · rintro i d u σ H' H5 e1 ⟨_, _, _, _, _, _, rfl, s5, x5, o5, hl5⟩ s6 hu
    rw [List.getElem?_map, Option.map_eq_some_iff] at e1
    obtain ⟨l, e1, rfl⟩ := e1
    have e1 : (lookB B every)[i]? = some l := e1
    have hlm := List.mem_of_getElem? e1
    have hle := hB.leaf every_in hlm
    have hi := (List.getElem?_eq_some_iff.mp e1).1
    obtain ⟨hwl, hwm⟩ := look_way (dflt := B.dflt) every (.row 0) [] l hlm
    have hwl : l.way.length ≤ 1000 := by
      simp only [Go.left, List.length_nil] at hwl
      omega
    have hu : Dt K H5 u (.tup [eBox l.box, eWay l.way, .str l.word]) := hu
    have htk : firstL (rowsB B) ((lookB B every).take (i + 1)) [] = firstW (rowsB B) (corner l.box) l.way (firstL (rowsB B) ((lookB B every).take i) []) := by
      rw [List.take_succ, e1]
      exact firstL_app _ _ [l] _
    rw [htk]
    generalize firstL (rowsB B) ((lookB B every).take i) [] = acc at *
    repeat walk_at "w"
    refine i_list hu_ (Ext.refl _) fun J2 it2 => ?_
    refine f_for it2 (fun j σ H' => ∃ e6 e7 e8, σ = [some x, some v1, some (.ref q), _, _, _, e6, e7, e8, none, none, none] ∧ Same H1 H' ∧ Ext H5 H' ∧ OdP K H' q ((firstW (rowsB B) (corner l.box) (l.way.take j) acc).map eFs)) ⟨_, _, _, rfl, (by walk_at "same"), Ext.refl _, o5.up s6⟩ (fun i σ H' h => ?_) ?_ ?_
    · obtain ⟨_, _, _, _, _, s, _⟩ := h
      exact s
    · rintro j d u2 σ' H' H6 e2 ⟨_, _, _, rfl, s7, x7, o7⟩ s8 hu2
      rw [List.getElem?_map, Option.map_eq_some_iff] at e2
      obtain ⟨⟨at_, fits⟩, e2, rfl⟩ := e2
      have hjl := (List.getElem?_eq_some_iff.mp e2).1
      have hat : at_ < (rowsB B).length := by
        rcases hwm _ (List.mem_of_getElem? e2) with h | h
        · cases h
        · exact h
      have hr1 : (rowsB B)[at_]? = some (rowsB B)[at_] := by simp [hat]
      generalize (rowsB B)[at_] = r at hr1
      have hr2 : ((rowsB B).map eRw)[at_]? = some (eRw r) := by rw [List.getElem?_map, hr1]; rfl
      have hpl : placeOf (rowsB B) at_ = (r.name, ((r.idx : Nat) : Int)) := by
        unfold placeOf
        rw [hr1]
      have hv1' : Dt K H6 v1 (.lst ((rowsB B).map eRw)) := hv1.up (by walk_at "ext")
      have o8 := o7.up s8
      have etk : l.way.take (j + 1) = l.way.take j ++ [(at_, fits)] := by
        rw [List.take_succ, e2]
        rfl
      have hst : firstW (rowsB B) (corner l.box) (l.way.take (j + 1)) acc = (if (fits && !(lookD (firstW (rowsB B) (corner l.box) (l.way.take j) acc) (placeOf (rowsB B) at_)).isSome) = true then firstW (rowsB B) (corner l.box) (l.way.take j) acc ++ [(placeOf (rowsB B) at_, corner l.box)] else firstW (rowsB B) (corner l.box) (l.way.take j) acc) := by
        rw [etk, firstW_app]
        rfl
      have hal : (firstW (rowsB B) (corner l.box) (l.way.take j) acc).length ≤ 16000 * 1000 - 1 := by
        have h1 := firstW_len (rowsB B) (corner l.box) (l.way.take j) acc
        rw [List.length_take] at h1
        have h2 : i * 1000 ≤ 2025 * 1000 := Nat.mul_le_mul_right _ (by omega)
        omega
      rw [hst]
      generalize firstW (rowsB B) (corner l.box) (l.way.take j) acc = acc2 at *
      repeat walk_at "w"
      refine w_newPk (K := K) (k := (r.name, ((r.idx : Nat) : Int))) fun u3 H7 s9 pk hu3 => ?_
      have o9 := o8.up s9
      repeat walk_at "w"
      cases fits with
      | false =>
        repeat walk_at "w"
        exact ⟨_, _, _, rfl, (by walk_at "same"), (by walk_at "ext"), by simpa using o9⟩
      | true =>
        repeat walk_at "w"
        refine dP_nin o9 pk ?_
        rw [look_eFs, Option.isSome_map, hpl]
        repeat walk_at "w"
        cases hin : (lookD acc2 (r.name, ((r.idx : Nat) : Int))).isSome with
        | true =>
          repeat walk_at "w"
          exact ⟨_, _, _, rfl, (by walk_at "same"), (by walk_at "ext"), by simpa using o9⟩
        | false =>
          repeat walk_at "w"
          refine Sp1.mk ⟨l.box, by rw [hle.len]; decide, (by walk_at "dt"), fun v9 H8 s10 hv9 => ?_⟩
          repeat walk_at "w"
          refine dP_put (o9.up s10) (pk.up s10.ext) hv9 (by rw [List.length_map]; omega) fun H9 b9 x9 o10 => ?_
          rw [putD_new (by
            rw [look_eFs]
            cases h : lookD acc2 (r.name, ((r.idx : Nat) : Int)) with
            | none => rfl
            | some z => rw [h] at hin; cases hin)] at o10
          repeat walk_at "w"
          exact ⟨_, _, _, rfl, b9.same (by walk_at "same") nq, (by walk_at "ext"), by simpa using o10⟩
    · rintro σ' H' ⟨_, _, _, rfl, s7, x7, o7⟩
      rw [List.length_map, List.take_length] at o7
      repeat walk_at "w"
      refine ⟨_, _, _, _, _, _, rfl, s7, (by walk_at "ext"), o7, ?_⟩
      have h1 := firstW_len (rowsB B) (corner l.box) l.way acc
      rw [Nat.succ_mul]
      omega
  · rintro σ' H' ⟨_, _, _, _, _, _, rfl, s5, x5, o5, hl5⟩
    rw [List.length_map, show (look (rowsB B) B.dflt every (.row 0) []).length = (lookB B every).length from rfl, List.take_length] at o5
    repeat walk_at "w"
    walk_at "newO"
    intro p H6 np s6 o6
    have np0 : H p = none := Same.free (by walk_at "same") np
    have nqp : q ≠ p := o5.ne np
    have o7 := o5.up s6
    repeat walk_at "w"
    refine m_bok (hx.up (by walk_at "ext")) ?_
    repeat walk_at "w"
    refine Sp1.mk ⟨B.chains, Dt.bkc (hx.up (by walk_at "ext")), fun v7 H7 s7 hv7 => ?_⟩
    repeat walk_at "w"
    refine i_list hv7 (Ext.refl _) fun J2 it2 => ?_
    have hnm := hB.ok.small
    refine f_for it2 (fun i σ H' => ∃ e10 e11, σ = [some x, some v1, some (.ref q), _, _, _, _, _, _, some (.ref p), e10, e11] ∧ Same H H' ∧ Ext H7 H' ∧ OdP K H' q ((firstB B).map eFs) ∧ Ow K H' p (((B.chains.take i).flatMap fun p => reachN B p.1 p.2.length).map eRch) ∧ ((B.chains.take i).flatMap fun p => reachN B p.1 p.2.length).length ≤ i * 1000) ⟨_, _, rfl, (by walk_at "same"), Ext.refl _, o7.up s7, o6.up s7, Nat.zero_le _⟩ (fun i σ H' h => ?_) ?_ ?_
    · obtain ⟨_, _, _, _, s, _⟩ := h
      exact s
    · rintro i d u σ'' H'' H8 e1 ⟨_, _, rfl, s8, x8, o8, o9, hl9⟩ s9 hu
      rw [List.getElem?_map, Option.map_eq_some_iff] at e1
      obtain ⟨n, e1, rfl⟩ := e1
      rw [List.getElem?_map, Option.map_eq_some_iff] at e1
      obtain ⟨⟨n, rs⟩, e1, rfl⟩ := e1
      have hmem := List.mem_of_getElem? e1
      have hi := (List.getElem?_eq_some_iff.mp e1).1
      have hrz : rs.length ≤ 1000 := hB.ok.smalls _ hmem
      have htk : (B.chains.take (i + 1)).flatMap (fun p => reachN B p.1 p.2.length) = (B.chains.take i).flatMap (fun p => reachN B p.1 p.2.length) ++ reachN B n rs.length := by
        rw [List.take_succ, e1, List.flatMap_append]
        simp
      rw [htk]
      generalize (B.chains.take i).flatMap (fun p => reachN B p.1 p.2.length) = acc at *
      cases hu
      have h1000 : i * 1000 ≤ 100 * 1000 := Nat.mul_le_mul_right _ (by omega)
      repeat walk_at "w"
      refine m_bok (hx.up (by walk_at "ext")) ?_
      repeat walk_at "w"
      refine Sp2.mk ⟨B, n, rs, hx.up (by walk_at "ext"), rfl, lookD_of hB.ok.nodup hmem, fun v10 H10 s10 hv10 => ?_⟩
      repeat walk_at "w"
      refine w_lenL hv10 ?_
      repeat walk_at "w"
      refine i_rng (K := K) rs.length (by simp) (by omega) fun J3 it3 => ?_
      refine f_for it3 (fun j σ H' => ∃ e11, σ = [some x, some v1, some (.ref q), _, _, _, _, _, _, some (.ref p), _, e11] ∧ Same H H' ∧ Ext H10 H' ∧ OdP K H' q ((firstB B).map eFs) ∧ Ow K H' p ((acc ++ reachN B n j).map eRch)) ⟨_, rfl, (by walk_at "same"), Ext.refl _, (o8.up s9).up s10, by simpa [reachN] using (o9.up s9).up s10⟩ (fun _ _ _ _ => trivial) ?_ ?_
      · rintro j d u2 σ' H' H11 e2 ⟨_, rfl, s11, x11, o11, o12⟩ s12 hu2
        obtain ⟨hj, rfl⟩ := numD_get e2
        cases hu2
        repeat walk_at "w"
        refine w_tyO (o12.up s12) ?_
        repeat walk_at "w"
        refine ⟨q, rfl, (o11.up s12).isD, ?_⟩
        repeat walk_at "w"
        refine w_newPk (K := K) (k := (n, ((j : Nat) : Int))) fun u3 H12 s13 pk hu3 => ?_
        refine dP_get1 ((o11.up s12).up s13) pk fun u4 hu4 => ?_
        rw [look_eFs] at hu4
        repeat walk_at "w"
        walk_at "newT"
        intro u5 H13 s14 hu5
        repeat walk_at "w"
        refine w_appS (d := eRch (n, j, lookD (firstB B) (n, ((j : Nat) : Int)))) ((o12.up s12).up (by walk_at "same")) ?_ (by simp [reachN]; omega) (Hb := H) (by walk_at "same") np0 fun H14 b14 x14 s15 o15 => ?_
        · cases h : lookD (firstB B) (n, ((j : Nat) : Int)) <;> (rw [h] at hu5; exact hu5)
        repeat walk_at "w"
        refine ⟨_, rfl, s15, (by walk_at "ext"), ((o11.up s12).up (by walk_at "same")).but b14 x14 nqp, ?_⟩
        · have er : reachN B n (j + 1) = reachN B n j ++ [(n, j, lookD (firstB B) (n, ((j : Nat) : Int)))] := by
            unfold reachN
            rw [List.range_succ, List.map_append]
            rfl
          rw [er]
          simpa using o15
      · rintro σ' H' ⟨_, rfl, s11, x11, o11, o12⟩
        rw [numD_len] at o12
        repeat walk_at "w"
        refine ⟨_, _, rfl, s11, (by walk_at "ext"), o11, o12, ?_⟩
        rw [List.length_append, Nat.succ_mul, show (reachN B n rs.length).length = rs.length by simp [reachN]]
        omega
    · rintro σ'' H'' ⟨_, _, rfl, s8, x8, o8, o9, hl9⟩
      rw [List.length_map, List.length_map, List.take_length] at o9
      repeat walk_at "w"
      refine w_outS o9 s8 np0 fun H9 s9 hr => ?_
      exact k _ _ s9 hr
end
end
section
open PySem PySem.Spec PyProof.Rows L2
theorem lookD_put {α β : Type} [DecidableEq α] {l : List (α × β)} {a b : α} {d : β} : lookD (putD l a d) b = if a = b then some d else lookD l b := by
  unfold putD
  split
  · rename_i h
    induction l with
    | nil => simp at h
    | cons p l ih =>
      rw [List.map_cons]
      unfold lookD at ih ⊢
      rw [List.find?_cons, List.find?_cons]
      by_cases h1 : p.1 = a
      · rw [if_pos h1]
        by_cases h2 : a = b
        · simp [h1, h2]
        · rw [if_neg h2]
          have h3 : ¬ p.1 = b := fun z => h2 (h1.symm.trans z)
          simp only [h3, decide_false]
          by_cases h4 : (l.any fun p => decide (p.1 = a)) = true
          · rw [ih h4, if_neg h2]
          · have : l.map (fun p => if p.1 = a then (p.1, d) else p) = l := by
              refine (List.map_congr_left (g := id) fun p hp => ?_).trans (List.map_id l)
              have : ¬ p.1 = a := fun z => h4 (List.any_eq_true.mpr ⟨p, hp, decide_eq_true z⟩)
              simp [this]
            rw [this]
      · rw [if_neg h1]
        have h4 : (l.any fun p => decide (p.1 = a)) = true := by
          rw [List.any_cons, decide_eq_false h1, Bool.false_or] at h
          exact h
        by_cases h2 : p.1 = b
        · have h3 : ¬ a = b := fun z => h1 (h2.trans z.symm)
          simp [h2, h3]
        · simp only [h2, decide_false]
          exact ih h4
  · rename_i h
    rw [lookD_app]
    cases h1 : lookD l b with
    | none => rfl
    | some c =>
      have h3 : ¬ a = b := by
        intro z
        subst z
        exact h (lookD_any h1)
      show some c = _
      rw [if_neg h3]
theorem putD_len {α β : Type} [DecidableEq α] (l : List (α × β)) (a : α) (d : β) : (putD l a d).length ≤ l.length + 1 := by
  unfold putD
  split <;> simp
theorem reachN_mem {B : Book} {n m : Str} {k i : Nat} {o : Option (List Int)} : (m, i, o) ∈ reachN B n k ↔ m = n ∧ i < k ∧ o = lookD (firstB B) (n, (i : Int)) := by
  unfold reachN
  rw [List.mem_map]
  constructor
  · rintro ⟨j, h1, h2⟩
    cases h2
    exact ⟨rfl, List.mem_range.mp h1, rfl⟩
  · rintro ⟨rfl, h1, rfl⟩
    exact ⟨i, List.mem_range.mpr h1, rfl⟩
theorem reachB_mem {B : Book} {n : Str} {i : Nat} {o : Option (List Int)} : (n, i, o) ∈ reachB B ↔ ∃ rs, (n, rs) ∈ B.chains ∧ i < rs.length ∧ o = lookD (firstB B) (n, (i : Int)) := by
  unfold reachB
  rw [List.mem_flatMap]
  constructor
  · rintro ⟨⟨m, rs⟩, h1, h2⟩
    obtain ⟨rfl, h3, h4⟩ := reachN_mem.mp h2
    exact ⟨rs, h1, h3, h4⟩
  · rintro ⟨rs, h1, h2, h3⟩
    exact ⟨(n, rs), h1, reachN_mem.mpr ⟨rfl, h2, h3⟩⟩
theorem reachB_len {B : Book} (h : BookOk B) : (reachB B).length ≤ 100000 := by
  have h1 := flat_len (fun p : Str × List Rule => reachN B p.1 p.2.length) 1000 B.chains fun p hp => by
    have := h.ok.smalls p hp
    simpa [reachN] using this
  have h2 := h.ok.small
  have h3 : B.chains.length * 1000 ≤ 100 * 1000 := Nat.mul_le_mul_right _ h2
  exact Nat.le_trans h1 h3
/-- what lives among the first k of the told -/
def LiveTo (l : List ((Str × Int) × D)) (t : List (Str × Nat × Option (List Int))) : Prop := ∀ (n : Str) (i : Nat), (lookD l (n, (i : Int))).isSome = true ↔ ∃ o, (n, i, some o) ∈ t
theorem LiveTo.all {B : Book} {l : List ((Str × Int) × D)} (hB : BookOk B) (h : LiveTo l (reachB B)) {n : Str} {rs : List Rule} (hm : (n, rs) ∈ B.chains) {i : Nat} (hi : i < rs.length) : (lookD l (n, (i : Int))).isSome = liveB B n i := by
  rw [Bool.eq_iff_iff, h n i]
  unfold liveB
  rw [Option.isSome_iff_exists]
  constructor
  · rintro ⟨o, ho⟩
    obtain ⟨_, _, _, h3⟩ := reachB_mem.mp ho
    exact ⟨o, h3.symm⟩
  · rintro ⟨o, ho⟩
    exact ⟨o, reachB_mem.mpr ⟨rs, hm, hi, ho.symm⟩⟩
theorem callsR_app (a b : List Rule) : callsR (a ++ b) = callsR a ++ callsR b := List.filterMap_append ..
def keptTo (B : Book) (n : Str) (rs : List Rule) (j : Nat) : List Rule := (((rs.zipIdx).take j).filter fun p => liveB B n p.2).map (·.1)
theorem keptTo_succ {B : Book} {n : Str} {rs : List Rule} {j : Nat} {r : Rule} (h : rs[j]? = some r) : keptTo B n rs (j + 1) = keptTo B n rs j ++ (if liveB B n j = true then [r] else []) := by
  unfold keptTo
  have e : rs.zipIdx[j]? = some (r, j) := by
    rw [List.getElem?_zipIdx, h]
    simp
  rw [List.take_succ, e, List.filter_append, List.map_append]
  congr 1
  by_cases hl : liveB B n j = true
  · simp [hl]
  · simp [hl]
theorem keptTo_all (B : Book) (n : Str) (rs : List Rule) : keptTo B n rs rs.length = keptB B n rs := by
  unfold keptTo keptB
  rw [List.take_of_length_le (by simp)]
theorem keptTo_len (B : Book) (n : Str) (rs : List Rule) (j : Nat) : (keptTo B n rs j).length ≤ rs.length := by
  unfold keptTo
  rw [List.length_map]
  refine Nat.le_trans (List.length_filter_le _ _) ?_
  simp
  omega
section
variable {P : Program} {w : World} {K : PySem.W.Frag} {mg : Str → Option Value} {base : Heap}
def sp_shorter (K : PySem.W.Frag) : Sp := Sp1 fun x H Q => ∃ (B : Book), BookOk B ∧ BkOk (shortC B) ∧ Dt K H x (.bok B) ∧ ∀ v H', Same H H' → Dt K H' v (.bok (shortB B)) → Q v H'
def sN_shorter : List Str := ["book", "live", "name", "index", "parcel", "called", "chains", "rules", "kept", "rule", "chain"]
theorem sc_shorter : FnScope sN_shorter ["book"] (defScope s_shorter) := ⟨rfl, rfl, rfl, by decide +kernel, rfl, by decide +kernel, by decide +kernel⟩

theorem ok_shorter (T : Tx K mg) : Fd P w K mg base 8 (He.ga K "shorter") ["book"] (sp_shorter K) := by
  have F_reached := ok_reached (P := P) (w := w) (base := base) T
  have F_Book_told := ok_Book_told (P := P) (w := w) (base := base) T
  have F_Book_init := ok_Book_init (P := P) (w := w) (base := base) T
  refine mkFd T.d_shorter sc_shorter (fun _ _ _ _ _ _ us hl => match us, hl with | [_], _ => rfl) (fun vs H Q E h => Sp1.len h) (fun cdv A outer s H vs Q E hr h => ?_)
  obtain ⟨x, rfl, B, hB, hS, hx, k⟩ := h
  refine ⟨_, (pss_cons (ps_set (i := 1) sc_shorter.nd rfl (.inl rfl) pe_dnewT)
      (pss_cons (ps_for PassesOwn.never rfl (pi_list (pe_f F_reached (hr.mono (by omega)) (by rfl) T.g_reached (pa_cons (pv 0) pa_nil))) (pg_tup rfl (pgs_cons (pg_name (i := 2) sc_shorter.nd rfl (.inl rfl)) (pgs_cons (pg_name (i := 3) sc_shorter.nd rfl (.inl rfl)) (pgs_cons (pg_name (i := 4) sc_shorter.nd rfl (.inl rfl)) pgs_nil)))) (pss_cons (ps_if (pt_cmpR op_notN1 (pv 4) pe_non (nomark _)) (pss_cons (ps_dput (hu_of hr) (pv 1) (pe_tup (pa_cons (pv 2) (pa_cons (pv 3) pa_nil))) pe_bl rfl)
      pss_nil) pss_nil)
      pss_nil))
      (pss_cons (ps_set (i := 5) sc_shorter.nd rfl (.inr rfl) (pe_lst (pa_cons pe_str pa_nil)))
      (pss_cons (ps_set (i := 6) sc_shorter.nd rfl (.inl rfl) (pe_lst pa_nil))
      (pss_cons (ps_for PassesOwn.never rfl (pi_list (pe_ix ix_tup (pe_m0 (pv 0) T.c_Book T.m_Book_told F_Book_told (hr.mono (by omega))) pe_int (fun _ _ => rfl))) (pg_tup rfl (pgs_cons (pg_name (i := 2) sc_shorter.nd rfl (.inl rfl)) (pgs_cons (pg_name (i := 7) sc_shorter.nd rfl (.inl rfl)) pgs_nil))) (pss_cons (ps_set (i := 8) sc_shorter.nd rfl (.inl rfl) (pe_lst pa_nil))
      (pss_cons (ps_for PassesOwn.never rfl (pi_enum (by rfl) T.b_enumerate (pa_cons (pv 7) pa_nil)) (pg_tup rfl (pgs_cons (pg_name (i := 3) sc_shorter.nd rfl (.inl rfl)) (pgs_cons (pg_name (i := 9) sc_shorter.nd rfl (.inl rfl)) pgs_nil))) (pss_cons (ps_if (pt_cmp (pc_din (hu_of hr) (pe_tup (pa_cons (pv 2) (pa_cons (pv 3) pa_nil))) (pv 1))) (pss_cons (ps_expr (pe_bm PySem.F.plainAttrs_list PySem.F.slot_list_append PySem.F.type_list_append mt_append (pv 8) (pa_cons (pv 9) pa_nil)))
      (pss_cons (ps_if (pt_cmpR op_eq (pe_ix ix_tup (pv 9) pe_int (fun _ _ => rfl)) pe_str (nomark _)) (pss_cons (ps_expr (pe_bm PySem.F.plainAttrs_list PySem.F.slot_list_append PySem.F.type_list_append mt_append (pv 5) (pa_cons (pe_ix ix_tup (pv 9) pe_int (fun _ _ => rfl)) pa_nil)))
      pss_nil) pss_nil)
      pss_nil)) pss_nil)
      pss_nil))
      (pss_cons (ps_expr (pe_bm PySem.F.plainAttrs_list PySem.F.slot_list_append PySem.F.type_list_append mt_append (pv 6) (pa_cons (pe_tup (pa_cons (pv 2) (pa_cons (pe_fz (pv 8)) pa_nil))) pa_nil)))
      pss_nil))))
      (pss_cons (ps_ret (pe_k T.mk_Book F_Book_init (hr.mono (by omega)) (by rfl) T.g_Book (pa_cons (pe_fld (pv 0) rfl) (pa_cons (pe_fz (pe_lc (own := [("chain", 10)]) rfl sc_shorter.nd (pi_list (pv 6)) (blkOk_by (own := [("chain", 10)]) (N := sN_shorter) (sc := defScope s_shorter) (by decide +kernel)) (fun _ _ _ _ _ => (pg_name (i := 10) sc_shorter.nd rfl (.inl rfl))) (fun _ _ _ _ _ => (pts_one (pt_cmpR (show OpR _ _ (rIn K false) from op_in_seq) (pe_ix (show IxR _ (rIxT K) from ix_tup) (pv 10) pe_int (fun _ _ => rfl)) (pv 5) (by rfl)))) (fun _ _ _ _ _ => (pv 10)))) pa_nil))))
      pss_nil)))))), ?_⟩
  try dsimp only [cxOf, Cx.nox, Cx.wish]
  repeat walk_at "w"
  refine w_dnewT (K := K) fun q H1 nq s1 o1 => ?_
  repeat walk_at "w"
  refine Sp1.mk ⟨B, hB, hx.up (by walk_at "ext"), fun v2 H2 s2 hv2 => ?_⟩
  repeat walk_at "w"
  refine i_list hv2 (Ext.refl _) fun J it => ?_
  have hrl := reachB_len hB
  refine f_for it (fun i σ H' => ∃ e2 e3 e4 L, σ = [some x, some (.ref q), e2, e3, e4, none, none, none, none, none, none] ∧ Same H H' ∧ Ext H2 H' ∧ OdP K H' q L ∧ L.length ≤ i ∧ LiveTo L ((reachB B).take i)) ⟨_, _, _, [], rfl, (by walk_at "same"), Ext.refl _, o1.up s2, Nat.le_refl _, fun n i => by simp [lookD]⟩ (fun i σ H' ⟨_, _, _, _, _, _, s, _⟩ => s) ?_ ?_
  · rintro i d u σ H' H3 e1 ⟨_, _, _, L, rfl, s3, x3, o3, hL, hlv⟩ s4 hu
    rw [List.getElem?_map, Option.map_eq_some_iff] at e1
    obtain ⟨⟨n, j, o⟩, e1, rfl⟩ := e1
    have hi := (List.getElem?_eq_some_iff.mp e1).1
    have hu : Dt K H3 u (.tup [.str n, .int (j : Nat), eOI o]) := hu
    have htk : (reachB B).take (i + 1) = (reachB B).take i ++ [(n, j, o)] := by
      rw [List.take_succ, e1]
      rfl
    repeat walk_at "w"
    cases o with
    | none =>
      cases hu_
      repeat walk_at "w"
      refine ⟨_, _, _, L, rfl, (by walk_at "same"), (by walk_at "ext"), o3.up s4, by omega, fun n' i' => ?_⟩
      rw [hlv n' i', htk]
      simp
    | some pt =>
      obtain ⟨a, vs, rfl, z4, z5⟩ := Dt.tupI hu_
      repeat walk_at "w"
      refine w_newPk (K := K) (k := (n, ((j : Nat) : Int))) fun u3 H4 s5 pk hu3 => ?_
      refine dP_put (d := .bl true) ((o3.up s4).up s5) pk (.bl _) (by omega) fun H5 b5 x5 o5 => ?_
      repeat walk_at "w"
      refine ⟨_, _, _, _, rfl, b5.same (by walk_at "same") nq, (by walk_at "ext"), o5, Nat.le_trans (putD_len _ _ _) (by omega), fun n' i' => ?_⟩
      rw [lookD_put, htk]
      by_cases he : ((n, ((j : Nat) : Int)) : Str × Int) = (n', ((i' : Nat) : Int))
      · have h1 := congrArg Prod.fst he
        have h2 := congrArg Prod.snd he
        simp only at h1 h2
        subst h1
        have h2 : j = i' := by omega
        subst h2
        rw [if_pos rfl]
        simp
      · rw [if_neg he, hlv n' i']
        have he2 : ¬ (n' = n ∧ i' = j) := fun z => he (by rw [z.1, z.2])
        simp
        constructor
        · rintro ⟨o, h⟩
          exact ⟨o, .inl h⟩
        · rintro ⟨o, h | h⟩
          · exact ⟨o, h⟩
          · exact (he2 ⟨h.1, h.2.1⟩).elim
  · rintro σ H' ⟨_, _, _, L, rfl, s3, x3, o3, hL, hlv⟩
    rw [List.length_map, List.take_length] at hlv
    repeat walk_at "w"
    walk_at "newO"
    intro c H4 nc s4 o4
    have nqc : q ≠ c := o3.ne nc
    have nc0 : H c = none := Same.free (by walk_at "same") nc
    repeat walk_at "w"
    walk_at "newO"
    intro r H5 nr s5 o5
    have nqr : q ≠ r := (o3.up s4).ne nr
    have ncr : c ≠ r := o4.ne nr
    have nr0 : H r = none := Same.free (by walk_at "same") nr
    repeat walk_at "w"
    refine m_bok (hx.up (by walk_at "ext")) ?_
    repeat walk_at "w"
    refine Sp1.mk ⟨B, Nat.le_trans hB.ok.small (by decide), hB.ok.smalls, hx.up (by walk_at "ext"), fun v6 H6 s6 hv6 => ?_⟩
    repeat walk_at "w"
    have hsm := hB.ok.small
    refine i_list hu_ (Ext.refl _) fun J2 it2 => ?_
    have hkC : ∀ i p, B.chains[i]? = some p → (B.chains.take (i + 1)).map (fun p => (p.1, keptB B p.1 p.2)) = (B.chains.take i).map (fun p => (p.1, keptB B p.1 p.2)) ++ [(p.1, keptB B p.1 p.2)] := fun i p e => by
      rw [List.take_succ, e]
      simp
    refine f_for it2 (fun i σ H' => ∃ e2 e3 e7 e8 e9, σ = [some x, some (.ref q), e2, e3, _, some (.ref c), some (.ref r), e7, e8, e9, none] ∧ Same H H' ∧ Ext H6 H' ∧ OdP K H' q L ∧ Ow K H' c ((("main" : Str) :: ((B.chains.take i).map fun p => (p.1, keptB B p.1 p.2)).flatMap fun p => callsR p.2).map D.str) ∧
      Ow K H' r (((B.chains.take i).map fun p => (p.1, keptB B p.1 p.2)).map eChT) ∧ (((B.chains.take i).map fun p => (p.1, keptB B p.1 p.2)).flatMap fun p => callsR p.2).length ≤ i * 1000) ⟨_, _, _, _, _, rfl, (by walk_at "same"), Ext.refl _, (by walk_at "ow"), (by walk_at "ow"), o5.up s6, Nat.zero_le _⟩ (fun i σ H' h => ?_) ?_ ?_
    · obtain ⟨_, _, _, _, _, _, _, s, _⟩ := h
      exact s
    · rintro i d u σ' H' H7 e1 ⟨_, _, _, _, _, rfl, s7, x7, o7, o8, o9, hcl⟩ s8 hu
      rw [List.getElem?_map, Option.map_eq_some_iff] at e1
      obtain ⟨⟨n, rs⟩, e1, rfl⟩ := e1
      have hmem := List.mem_of_getElem? e1
      have hi := (List.getElem?_eq_some_iff.mp e1).1
      have hrz : rs.length ≤ 1000 := hB.ok.smalls _ hmem
      have hu : Dt K H7 u (.tup [.str n, .lst (rs.map eRule)]) := hu
      have hkk := hkC i _ e1
      rw [hkk]
      have hil : (B.chains.take i).length ≤ 100 := by rw [List.length_take]; omega
      generalize hacc : (B.chains.take i).map (fun p => (p.1, keptB B p.1 p.2)) = acc at *
      have hal : acc.length ≤ 100 := by rw [← hacc, List.length_map]; exact hil
      have h100 : i * 1000 ≤ 100 * 1000 := Nat.mul_le_mul_right _ (by omega)
      repeat walk_at "w"
      walk_at "newO"
      intro t H8 nt s9 o10
      have nqt : q ≠ t := (o7.up s8).ne nt
      have nct : c ≠ t := (o8.up s8).ne nt
      have nrt : r ≠ t := (o9.up s8).ne nt
      have nt0 : H t = none := Same.free (by walk_at "same") nt
      repeat walk_at "w"
      refine i_enum (hu_.up s9.ext) (Ext.refl _) fun J3 it3 => ?_
      refine f_for it3 (fun j σ H' => ∃ e3 e9, σ = [some x, some (.ref q), _, e3, _, some (.ref c), some (.ref r), _, some (.ref t), e9, none] ∧ Same H H' ∧ Ext H8 H' ∧ OdP K H' q L ∧ Ow K H' c ((("main" : Str) :: (acc.flatMap (fun p => callsR p.2) ++ callsR (keptTo B n rs j))).map D.str) ∧ Ow K H' r (acc.map eChT) ∧ Ow K H' t ((keptTo B n rs j).map eRule)) ⟨_, _, rfl, (by walk_at "same"), Ext.refl _, (o7.up s8).up s9, ?_, (o9.up s8).up s9, o10⟩ (fun i σ H' h => ?_) ?_ ?_
      · simpa [keptTo, callsR] using (o8.up s8).up s9
      · obtain ⟨_, _, _, _, s, _⟩ := h
        exact s
      · rintro j d u2 σ'' H'' H9 e2 ⟨_, _, rfl, s10, x10, o11, o12, o13, o14⟩ s11 hu2
        obtain ⟨d, e0, rfl⟩ := enumD_get e2
        rw [List.getElem?_map, Option.map_eq_some_iff] at e0
        obtain ⟨rl, e0, rfl⟩ := e0
        have hj := (List.getElem?_eq_some_iff.mp e0).1
        have hks := keptTo_succ (B := B) (n := n) e0
        have hkl := keptTo_len B n rs j
        have hlive := hlv.all hB hmem hj
        rw [hks]
        have hcl2 : (callsR (keptTo B n rs j)).length ≤ 1000 := Nat.le_trans (List.length_filterMap_le _ _) (by omega)
        generalize keptTo B n rs j = kp at *
        repeat walk_at "w"
        refine w_newPk (K := K) (k := (n, ((j : Nat) : Int))) fun u3 H10 s12 pk hu3 => ?_
        repeat walk_at "w"
        refine dP_in ((o11.up s11).up s12) pk ?_
        rw [hlive]
        repeat walk_at "w"
        cases hl : liveB B n j with
        | false =>
          repeat walk_at "w"
          refine ⟨_, _, rfl, (by walk_at "same"), (by walk_at "ext"), (o11.up s11).up s12, ?_, (by walk_at "ow"), ?_⟩
          · simpa using (o12.up s11).up s12
          · simpa using (o14.up s11).up s12
        | true =>
          have hu_' := hu_.up s12.ext
          repeat walk_at "w"
          refine w_tyO ((o14.up s11).up s12) ?_
          repeat walk_at "w"
          refine w_appO ((o14.up s11).up s12) hu_' (by rw [List.length_map]; omega) fun H11 b11 x11 o15 => ?_
          have s13 : Same H H11 := b11.same (by walk_at "same") nt0
          have x13 : Ext H8 H11 := (by walk_at "ext")
          have o16 := ((o11.up s11).up s12).but b11 x11 nqt
          have o17 := ((o12.up s11).up s12).but b11 x11 nct
          have o18 := ((o13.up s11).up s12).but b11 x11 nrt
          have hu_2 := hu_'.up x11
          have ek : kp ++ (if true = true then [rl] else []) = kp ++ [rl] := rfl
          rw [ek]
          repeat walk_at "w"
          cases rl with
          | word b wd =>
            have hwo : wd ≠ "call" := (hB.ok.words _ hmem _ (List.mem_of_getElem? e0)).1
            have hu_2 : Dt K H11 u_ (.tup [.str wd, eBox b]) := hu_2
            repeat walk_at "w"
            rw [decide_eq_false hwo]
            repeat walk_at "w"
            refine ⟨_, _, rfl, s13, x13, o16, ?_, o18, by simpa using o15⟩
            rw [callsR_app, show callsR [Rule.word b wd] = [] from rfl, List.append_nil]
            exact o17
          | back b =>
            have hu_2 : Dt K H11 u_ (.tup [.str "back", eBox b]) := hu_2
            repeat walk_at "w"
            rw [show decide (("back" : Str) = "call") = false by decide]
            repeat walk_at "w"
            refine ⟨_, _, rfl, s13, x13, o16, ?_, o18, by simpa using o15⟩
            rw [callsR_app, show callsR [Rule.back b] = [] from rfl, List.append_nil]
            exact o17
          | call b m =>
            have hu_2 : Dt K H11 u_ (.tup [.str "call", eBox b, .str m]) := hu_2
            repeat walk_at "w"
            rw [show decide (("call" : Str) = "call") = true by decide]
            repeat walk_at "w"
            refine w_tyO o17 ?_
            repeat walk_at "w"
            refine w_appO o17 (d := .str m) (.str m) (by rw [List.length_map, List.length_cons, List.length_append]; omega) fun H12 b12 x12 o19 => ?_
            repeat walk_at "w"
            refine ⟨_, _, rfl, b12.same s13 nc0, (by walk_at "ext"), o16.but b12 x12 nqc, ?_, o18.but b12 x12 (Ne.symm ncr), by simpa using o15.but b12 x12 (Ne.symm nct)⟩
            rw [callsR_app, show callsR [Rule.call b m] = [m] from rfl, show ((("main" : Str) :: (acc.flatMap (fun p => callsR p.2) ++ (callsR kp ++ [m]))).map D.str) = (("main" : Str) :: (acc.flatMap (fun p => callsR p.2) ++ callsR kp)).map D.str ++ [D.str m] by simp]
            exact o19
      · rintro σ'' H'' ⟨_, _, rfl, s10, x10, o11, o12, o13, o14⟩
        rw [enumD_len, List.length_map, keptTo_all] at o14 o12
        repeat walk_at "w"
        refine w_tyO o13 ?_
        repeat walk_at "w"
        refine w_outO o14 fun H9 b9 x9 hr => ?_
        repeat walk_at "w"
        walk_at "newT"
        intro u5 H10 s12 hu5
        repeat walk_at "w"
        have s11 : Same H H9 := b9.same s10 nt0
        refine w_appO (d := eChT (n, keptB B n rs)) ((o13.but b9 x9 nrt).up s12) hu5 (by rw [List.length_map]; omega) fun H11 b11 x11 o15 => ?_
        repeat walk_at "w"
        have hkb : (keptB B n rs).length ≤ 1000 := by
          rw [← keptTo_all]
          exact Nat.le_trans (keptTo_len _ _ _ _) hrz
        refine ⟨_, _, _, _, _, rfl, b11.same (by walk_at "same") nr0, (by walk_at "ext"), ((o11.but b9 x9 nqt).up s12).but b11 x11 nqr, ?_, by simpa using o15, ?_⟩
        · simpa using ((o12.but b9 x9 nct).up s12).but b11 x11 ncr
        · have h3 : (callsR (keptB B n rs)).length ≤ 1000 := Nat.le_trans (List.length_filterMap_le _ _) hkb
          rw [List.flatMap_append, List.length_append, Nat.succ_mul]
          simp only [List.flatMap_cons, List.flatMap_nil, List.append_nil]
          omega
    · rintro σ' H' ⟨_, _, _, _, _, rfl, s7, x7, o7, o8, o9, hcl⟩
      rw [List.length_map, List.take_length] at o8 o9
      have o8 : Ow K H' c ((calledB B).map D.str) := o8
      have o9 : Ow K H' r ((keptC B).map eChT) := o9
      repeat walk_at "w"
      refine fl_dflt T (hx.up s7.ext) ?_
      repeat walk_at "w"
      refine i_listO o9 fun J3 it3 => ?_
      have hkl : (keptC B).length ≤ 100 := by unfold keptC; rw [List.length_map]; exact hsm
      refine f_lc it3 (fun p => if p.1 ∈ calledB B then some (eChT p) else none) (by omega) (fun H' s => o9.up s) (fun i p u H' Y N e s8 hu hY hN => ?_) fun p2 H8 xs np2 s8 hp8 r8 => ?_
      · obtain ⟨n, rs⟩ := p
        have hu : Dt K H' u (.tup [.str n, .lst (rs.map eRule)]) := hu
        repeat walk_at "w"
        refine ⟨rfl, ?_⟩
        repeat walk_at "w"
        refine in_L (ss := calledB B) (o8.up s8).ls ?_
        rw [if_neg Bool.false_ne_true]
        repeat walk_at "w"
        by_cases hc : n ∈ calledB B
        · rw [decide_eq_true hc]
          repeat walk_at "w"
          exact hY _ _ _ (if_pos hc) (Same.refl _) hu
        · rw [decide_eq_false hc]
          repeat walk_at "w"
          exact hN _ (if_neg hc) (Same.refl _)
      · refine lcF np2 s8 hp8 r8 fun u2 H9 s9 hu2 => ?_
        have hfm : (keptC B).filterMap (fun p => if p.1 ∈ calledB B then some (eChT p) else none) = (shortC B).map eChT := by
          unfold shortC
          induction keptC B with
          | nil => rfl
          | cons p l ih =>
            rw [List.filterMap_cons, List.filter_cons]
            by_cases hc : p.1 ∈ calledB B
            · rw [if_pos hc, decide_eq_true hc, if_pos rfl, List.map_cons, ih]
            · rw [if_neg hc, decide_eq_false hc, if_neg Bool.false_ne_true, ih]
        rw [hfm] at hu2
        repeat walk_at "w"
        refine make_i fun a dx H10 na s10 ha => ?_
        refine Sp3.mk ⟨a, dx, H9, B.dflt, shortC B, hS, rfl, na, s10, ha, rfl, hu2, fun H11 s11 hb => ⟨rfl, ?_⟩⟩
        exact k _ _ (by walk_at "same") hb
end
end
section
open PySem L2 TL
/-! ### texts of numbers and addresses, in plain Lean -/
abbrev numS (i : Int) : Str := Str.ofString (toString i)
structure NumOk (z : Str) (n : Int) : Prop where
  ne : tl z ≠ []
  len : z.length ≤ 10
  lead : (tl z)[0]? = some 48 → z.length ≤ 1
  dig : ∀ c ∈ tl z, 48 ≤ c ∧ c ≤ 57
  val : intText? z = some n
  nn : 0 ≤ n
theorem numL_head : ∀ (k n : Nat), n < 10 ^ k → 0 < n → (numL n)[0]? ≠ some 48
  | 0, n, h, h0 => by omega
  | k + 1, n, h, h0 => by
    by_cases h10 : n < 10
    · rw [numL_lt h10]
      simp
      omega
    · rw [numL_step (by omega)]
      have e : 10 ^ (k + 1) = 10 ^ k * 10 := Nat.pow_succ ..
      have ih := numL_head k (n / 10) (by omega) (by omega)
      have ne := numL_ne (n / 10)
      cases h2 : numL (n / 10) with
      | nil => exact (ne h2).elim
      | cons c r =>
        rw [h2] at ih
        simpa using ih
theorem tl_numS (n : Nat) : tl (numS (n : Nat)) = numL n := tl_num n
theorem numOk_num {n : Int} (h0 : 0 ≤ n) (h : n < 10000000000) : NumOk (numS n) n := by
  obtain ⟨m, rfl⟩ : ∃ m : Nat, n = m := ⟨n.toNat, by omega⟩
  have hl : (numL m).length ≤ 10 := numL_len (by decide) (by omega)
  refine ⟨by rw [tl_numS]; exact numL_ne m, by rw [len_tl, tl_numS]; exact hl, fun e => ?_, fun c hc => ?_, int_num (by omega), h0⟩
  · rw [tl_numS] at e
    rw [len_tl, tl_numS]
    by_cases hz : m = 0
    · subst hz
      decide
    · exact (numL_head 10 m (by omega) (by omega) e).elim
  · rw [tl_numS] at hc
    exact numL_digits m c hc
theorem numS_len {n : Int} (h0 : 0 ≤ n) (h : n < 10000000000) : (numS n).length ≤ 10 := (numOk_num h0 h).len
theorem numS_free {n : Int} (h0 : 0 ≤ n) {s : Nat} (h : s < 48 ∨ 57 < s) : s ∉ tl (numS n) := by
  obtain ⟨m, rfl⟩ : ∃ m : Nat, n = m := ⟨n.toNat, by omega⟩
  rw [tl_numS]
  exact numL_free h
/-- an address in four parts -/
def parts4 (a : Int) : List Int := [a / 16777216 % 256, a / 65536 % 256, a / 256 % 256, a % 256]
def dotS (a : Int) : Str := Txt.join "." ((parts4 a).map numS)
theorem parts4_in {a n : Int} (h : n ∈ parts4 a) : 0 ≤ n ∧ n ≤ 255 := by
  simp [parts4] at h
  rcases h with rfl | rfl | rfl | rfl <;> omega
theorem split_dot (a : Int) : Txt.split (dotS a) "." = (parts4 a).map numS := by
  unfold dotS
  refine split_join (s := 46) (S := []) rfl (by decide +kernel) (by simp [parts4]) fun p hp => ?_
  obtain ⟨n, h1, rfl⟩ := List.mem_map.mp hp
  exact numS_free (parts4_in h1).1 (.inl (by decide))
def maskI (b : Int) : Int := Builtin.bitAnd (4294967295 * 2 ^ (32 - b).toNat) 4294967295
def beginI (a b : Int) : Int × Int := (Builtin.bitAnd a (maskI b), Builtin.bitOr a (Builtin.bitXor (maskI b) 4294967295))
def sharedI (l h : Int) : Int := 32 - ((Builtin.Int.intBits (Builtin.bitXor l h) : Nat) : Int)
def bitsOf (l h : Int) : Option Int := if beginI l (sharedI l h) = (l, h) then some (sharedI l h) else none
def AdOk (a : Int) : Prop := 0 ≤ a ∧ a < 4294967296
theorem shared_in {l h : Int} (hl : AdOk l) (hh : AdOk h) : 0 ≤ sharedI l h ∧ sharedI l h ≤ 32 := by
  have e := Bits.bitXor_pp hl.1 hh.1
  have h1 : l.toNat < 2 ^ 32 := by have := hl.2; have := hl.1; omega
  have h2 : h.toNat < 2 ^ 32 := by have := hh.2; have := hh.1; omega
  have h3 : l.toNat ^^^ h.toNat < 2 ^ 32 := Nat.xor_lt_two_pow h1 h2
  have h4 : Builtin.Int.intBits (Builtin.bitXor l h) ≤ 32 := by
    rw [e]
    exact PyProof.Rows.intBits_le (by simpa using h3)
  unfold sharedI
  omega
def showA (l h : Int) : Str := if l = h then dotS l else match bitsOf l h with
  | some b => dotS l ++ "/" ++ numS b
  | none => dotS l ++ "-" ++ dotS h
def showN (l h : Int) : Str := if l = h then numS l else numS l ++ "-" ++ numS h
theorem dotS_free {a : Int} {s : Nat} (h : (s < 48 ∨ 57 < s) ∧ s ≠ 46) : s ∉ tl (dotS a) := by
  unfold dotS
  rw [join_eq, tl_join]
  simp only [parts4, List.map_cons, List.map_nil]
  intro hm
  have f : ∀ n ∈ parts4 a, s ∉ tl (numS n) := fun n hn => numS_free (parts4_in hn).1 h.1
  have f1 := f (a / 16777216 % 256) (by simp [parts4])
  have f2 := f (a / 65536 % 256) (by simp [parts4])
  have f3 := f (a / 256 % 256) (by simp [parts4])
  have f4 := f (a % 256) (by simp [parts4])
  simp only [joinL, List.mem_append] at hm
  have hd : s ∉ tl ("." : Str) := by
    rw [show tl ("." : Str) = [46] from rfl]
    simp
    exact h.2
  simp [f1, f2, f3, f4, hd] at hm
theorem sum_le {k : Nat} : ∀ {ss : List Str}, (∀ s ∈ ss, s.length ≤ k) → (ss.map (·.length)).sum ≤ ss.length * k
  | [], _ => by simp
  | s :: ss, h => by
    have h1 := sum_le (ss := ss) fun t ht => h t (List.mem_cons_of_mem _ ht)
    have h2 := h s (List.mem_cons_self ..)
    rw [List.map_cons, List.sum_cons, List.length_cons, Nat.succ_mul]
    omega
theorem len_app (x y : Str) : (x ++ y).length = x.length + y.length := by
  rw [len_tl, tl_append, List.length_append, ← len_tl, ← len_tl]
theorem len_joinL (y : List Nat) : ∀ ps : List (List Nat), (joinL y ps).length ≤ (ps.map List.length).sum + ps.length * y.length
  | [] => by simp [joinL]
  | [p] => by simp [joinL]
  | p :: q :: ps => by
    have := len_joinL y (q :: ps)
    simp only [joinL, List.length_append, List.map_cons, List.sum_cons, List.length_cons] at this ⊢
    rw [Nat.succ_mul]
    omega
theorem len_join {k : Nat} (y : Str) (ps : List Str) (h : ∀ s ∈ ps, s.length ≤ k) : (Txt.join y ps).length ≤ ps.length * k + ps.length * y.length := by
  rw [join_eq, len_tl, tl_join]
  have h1 := len_joinL (tl y) (ps.map tl)
  have h2 := sum_le h
  rw [List.map_map, List.length_map, show (List.length ∘ tl) = fun s : Str => s.length from funext fun s => (len_tl s).symm, ← len_tl] at h1
  omega
theorem dotS_len (a : Int) : (dotS a).length ≤ 44 := by
  have := len_join (k := 10) "." ((parts4 a).map numS) fun s hs => by
    obtain ⟨n, h1, rfl⟩ := List.mem_map.mp hs
    have := parts4_in h1
    exact numS_len this.1 (by omega)
  have h2 : ((parts4 a).map numS).length = 4 := rfl
  have h3 : ("." : Str).length = 1 := rfl
  rw [h2, h3] at this
  unfold dotS
  omega
def AdText (z : Str) (l h : Int) : Prop := (z = dotS l ∧ l = h) ∨ (z = dotS l ++ "-" ++ dotS h ∧ l ≤ h) ∨ ∃ b, z = dotS l ++ "/" ++ numS b ∧ 0 ≤ b ∧ b ≤ 32 ∧ beginI l b = (l, h)
theorem showA_ok {l h : Int} (hl : AdOk l) (hh : AdOk h) (hle : l ≤ h) : AdText (showA l h) l h := by
  unfold showA
  by_cases e : l = h
  · rw [if_pos e]
    exact .inl ⟨rfl, e⟩
  · rw [if_neg e]
    have hs := shared_in hl hh
    unfold bitsOf
    by_cases hb : beginI l (sharedI l h) = (l, h)
    · rw [if_pos hb]
      exact .inr (.inr ⟨_, rfl, hs.1, hs.2, hb⟩)
    · rw [if_neg hb]
      exact .inr (.inl ⟨rfl, hle⟩)
theorem empty_app (x : Str) : Str.empty ++ x = x := ext_tl (by rw [tl_append]; rfl)
def wordsS (row : Str) : List Str := (Txt.split row " ").filter fun w => !decide (w = "")
def letters : List Nat := ("abcdefghijklmnopqrstuvwxyz" : Str).cps.toList
def isName (z : Str) : Bool := decide (1 ≤ z.length) && decide (z.length ≤ 12) && z.cps.toList.all fun c => decide (c ∈ letters)
end
section
open PySem L2 TL
/-! ### rules as words, in plain Lean -/
def pairN : List Str := ["turn", "kind", "from", "fromdoor", "to", "todoor"]
def tops : List Int := [3, 255, 4294967295, 65535, 4294967295, 65535]
structure Nar where
  d : Nat
  val : Str
  st : Int × Int
def isAd (d : Nat) : Prop := d = 2 ∨ d = 4
instance (d : Nat) : Decidable (isAd d) := inferInstanceAs (Decidable (_ ∨ _))
def topN (d : Nat) : Int := tops.getD d 0
def nameN (d : Nat) : Str := pairN.getD d ""
structure NarOk (p : Nar) : Prop where
  d : p.d < 6
  le : 0 ≤ p.st.1 ∧ p.st.1 ≤ p.st.2 ∧ p.st.2 ≤ topN p.d
  ad : isAd p.d → AdText p.val p.st.1 p.st.2
  nu : ¬ isAd p.d → p.val = showN p.st.1 p.st.2
def narWords (ps : List Nar) : List Str := ps.flatMap fun p => [nameN p.d, p.val]
def narSt (ps : List Nar) (d : Nat) : Int × Int := (lookD (ps.map fun p => (p.d, p.st)) d).getD (0, topN d)
def boxOf (ps : List Nar) : Box := (List.range 6).map (narSt ps)
theorem narWords_len : ∀ ps : List Nar, (narWords ps).length = ps.length * 2
  | [] => rfl
  | p :: ps => by
    have := narWords_len ps
    simp only [narWords, List.flatMap_cons, List.length_append, List.length_cons, List.length_nil] at this ⊢
    omega
theorem narWords_get : ∀ {ps : List Nar} {i : Nat} {p : Nar}, ps[i]? = some p → (narWords ps)[i * 2]? = some (nameN p.d) ∧ (narWords ps)[i * 2 + 1]? = some p.val
  | [], _, _, h => by simp at h
  | q :: ps, 0, p, h => by
    simp at h
    subst h
    exact ⟨rfl, rfl⟩
  | q :: ps, i + 1, p, h => by
    have := narWords_get (ps := ps) (i := i) (p := p) (by simpa using h)
    have e1 : (i + 1) * 2 = i * 2 + 2 := by omega
    have e2 : (i + 1) * 2 + 1 = i * 2 + 1 + 2 := by omega
    rw [e2, e1]
    exact this
theorem nameN_inj {a b : Nat} (ha : a < 6) (hb : b < 6) (h : nameN a = nameN b) : a = b := by
  revert a b
  have : ∀ a : Fin 6, ∀ b : Fin 6, nameN a.1 = nameN b.1 → a.1 = b.1 := by decide +kernel
  intro a b ha hb h
  exact this ⟨a, ha⟩ ⟨b, hb⟩ h
theorem nameN_mem {a : Nat} (ha : a < 6) : nameN a ∈ pairN := by
  have : ∀ a : Fin 6, nameN a.1 ∈ pairN := by decide +kernel
  exact this ⟨a, ha⟩
theorem nameN_from {a : Nat} (ha : a < 6) : decide (nameN a = "from") = decide (a = 2) := by
  have : ∀ a : Fin 6, decide (nameN a.1 = "from") = decide (a.1 = 2) := by decide +kernel
  exact this ⟨a, ha⟩
theorem nameN_to {a : Nat} (ha : a < 6) : decide (nameN a = "to") = decide (a = 4) := by
  have : ∀ a : Fin 6, decide (nameN a.1 = "to") = decide (a.1 = 4) := by decide +kernel
  exact this ⟨a, ha⟩
theorem pairN_get {a : Nat} (ha : a < 6) : pairN[a]? = some (nameN a) := by
  have : ∀ a : Fin 6, pairN[a.1]? = some (nameN a.1) := by decide +kernel
  exact this ⟨a, ha⟩
theorem pairN_first {a m : Nat} (ha : a < 6) (h : m < a) : pairN[m]? ≠ some (nameN a) := by
  intro e
  rw [pairN_get (by omega)] at e
  have := nameN_inj (by omega) ha (Option.some.inj e)
  omega
theorem every_get {a : Nat} (ha : a < 6) : every[a]? = some (0, topN a) := by
  have : ∀ a : Fin 6, every[a.1]? = some (0, topN a.1) := by decide +kernel
  exact this ⟨a, ha⟩
theorem topN_le {a : Nat} (ha : a < 6) : 0 ≤ topN a ∧ topN a ≤ 4294967295 := by
  have : ∀ a : Fin 6, 0 ≤ topN a.1 ∧ topN a.1 ≤ 4294967295 := by decide +kernel
  exact this ⟨a, ha⟩
/-- the words of a rule -/
def headW : Rule → List Str
  | .word _ w => [w]
  | .back _ => ["back"]
  | .call _ n => [("call" : Str), n]
def HeadOk : Rule → Prop
  | .word _ w => w = "pass" ∨ w = "stop"
  | .back _ => True
  | .call _ n => isName n = true
structure RuleText (ws : List Str) (r : Rule) : Prop where
  ex : ∃ ps : List Nar, ws = headW r ++ narWords ps ∧ r.box = boxOf ps ∧ (ps.map (·.d)).Nodup ∧ (∀ p ∈ ps, NarOk p) ∧ ps.length ≤ 6
  head : HeadOk r
inductive Item where
  | rule (r : Rule)
  | chain (n : Str)
def ItemText (ws : List Str) : Item → Prop
  | .rule r => RuleText ws r
  | .chain n => ws = [("chain" : Str), n] ∧ isName n = true
def addItem (chs : Chs) : Item → Chs
  | .chain n => chs ++ [(n, [])]
  | .rule r => match chs.getLast? with
    | some (n, rs) => chs.dropLast ++ [(n, rs ++ [r])]
    | none => chs
def itemsC (items : List Item) : Chs := items.foldl addItem [(("main" : Str), [])]
/-! texts of rules and books -/
def shP (d : Nat) (st : Int × Int) : Str := if isAd d then showA st.1 st.2 else showN st.1 st.2
def dotN (l h : Int) : Str := if l = h then dotS l else dotS l ++ "-" ++ dotS h
def shL (d : Nat) (st : Int × Int) : Str := if isAd d then dotN st.1 st.2 else showN st.1 st.2
def narAt (sh : Nat → Int × Int → Str) (b : Box) (d : Nat) : Option Nar := if b.getD d (0, topN d) = (0, topN d) then none else some ⟨d, sh d (b.getD d (0, topN d)), b.getD d (0, topN d)⟩
def narOf (sh : Nat → Int × Int → Str) (b : Box) : List Nar := (List.range 6).filterMap (narAt sh b)
def rowS (sh : Nat → Int × Int → Str) (r : Rule) : Str := Txt.join " " (headW r ++ narWords (narOf sh r.box))
def chRows (sh : Nat → Int × Int → Str) (p : Str × List Rule) : List Str := (if p.1 = "main" then [] else ["chain " ++ p.1]) ++ p.2.map (rowS sh)
def bookRows (sh : Nat → Int × Int → Str) (d : Str) (chs : Chs) : List Str := ("default " ++ d) :: chs.flatMap (chRows sh)
def bookS (sh : Nat → Int × Int → Str) (d : Str) (chs : Chs) : Str := Txt.join "\n" (bookRows sh d chs)
def headS : Rule → Str
  | .word _ w => w
  | .back _ => "back"
  | .call _ n => "call " ++ n
theorem narTo_succ (sh : Nat → Int × Int → Str) (b : Box) (i : Nat) : (List.range (i + 1)).filterMap (narAt sh b) = (List.range i).filterMap (narAt sh b) ++ (narAt sh b i).toList := by
  rw [List.range_succ, List.filterMap_append]
  cases h : narAt sh b i <;> simp [h]
theorem narWords_app (a b : List Nar) : narWords (a ++ b) = narWords a ++ narWords b := List.flatMap_append ..
theorem join_head (r : Rule) (ws : List Str) : Txt.join " " (headS r :: ws) = Txt.join " " (headW r ++ ws) := by
  cases r with
  | word b w => rfl
  | back b => rfl
  | call b n =>
    rw [join_eq, join_eq]
    refine ext_tl ?_
    rw [tl_join, tl_join]
    cases ws with
    | nil => simp [headS, headW, joinL, tl_append, show tl ("call " : Str) = tl ("call" : Str) ++ tl (" " : Str) from rfl]
    | cons a ws => simp [headS, headW, joinL, tl_append, show tl ("call " : Str) = tl ("call" : Str) ++ tl (" " : Str) from rfl]
theorem box_get {b : Box} (h : BoxIn b every) {d : Nat} (hd : d < 6) : b[d]? = some (b.getD d (0, topN d)) ∧ 0 ≤ (b.getD d (0, topN d)).1 ∧ (b.getD d (0, topN d)).1 ≤ (b.getD d (0, topN d)).2 ∧ (b.getD d (0, topN d)).2 ≤ topN d := by
  match b, h with
  | [a0, a1, a2, a3, a4, a5], h =>
    obtain ⟨h0, h1, h2, h3, h4, h5, _⟩ := h
    match d, hd with
    | 0, _ => exact ⟨rfl, h0⟩
    | 1, _ => exact ⟨rfl, h1⟩
    | 2, _ => exact ⟨rfl, h2⟩
    | 3, _ => exact ⟨rfl, h3⟩
    | 4, _ => exact ⟨rfl, h4⟩
    | 5, _ => exact ⟨rfl, h5⟩
/-! parcels as texts -/
structure PtOk (pt : List Int) : Prop where
  ex : ∃ a b c d e f, pt = [a, b, c, d, e, f] ∧ (0 ≤ a ∧ a ≤ 3) ∧ (0 ≤ b ∧ b ≤ 255) ∧ AdOk c ∧ (0 ≤ d ∧ d ≤ 65535) ∧ AdOk e ∧ (0 ≤ f ∧ f ≤ 65535)
def parW : List Int → List Str
  | [a, b, c, d, e, f] => [numS a, numS b, dotS c, numS d, dotS e, numS f]
  | _ => []
def parS (pt : List Int) : Str := Txt.join " " (parW pt)
theorem pt_of {pt : List Int} (h6 : pt.length = 6) (h : hasB every pt = true) : PtOk pt := by
  match pt, h6 with
  | [a, b, c, d, e, f], _ =>
    simp [hasB, every, holdsB] at h
    exact ⟨a, b, c, d, e, f, rfl, by omega, by omega, ⟨by omega, by omega⟩, by omega, ⟨by omega, by omega⟩, by omega⟩
inductive Ord where
  | one (w n : Str)
  | two (w n m : Str)
  | word (n : Str) (pt : List Int)
def eInt6 (l : List Int) : D := .tup (l.map D.int)
def eOrd : Ord → D
  | .one w n => .tup [.str w, .str n]
  | .two w n m => .tup [.str w, .str n, .str m]
  | .word n pt => .tup [.str "word", .str n, .tup (pt.map D.int)]
def ordW : Ord → List Str
  | .one w n => [w, n]
  | .two w n m => [w, n, m]
  | .word n pt => "word" :: n :: parW pt
def OrdOk : Ord → Prop
  | .one w n => (w = "book" ∨ w = "show" ∨ w = "boxes" ∨ w = "never") ∧ isName n = true
  | .two w n m => (w = "alike" ∨ w = "shorter") ∧ isName n = true ∧ isName m = true
  | .word n pt => isName n = true ∧ PtOk pt
end
section
open PySem PySem.Spec PyProof.Rows L2 TL
theorem tl_get {z : Str} {i : Nat} {c : Nat} (h : (tl z)[i]? = some c) : L2.atI z.cps.toList ((i : Nat) : Int) = some c := atI_nat h
theorem sign_zero {c : Nat} : decide ((⟨#[c]⟩ : Str) = "0") = decide (c = 48) := by
  have e : ("0" : Str) = ⟨#[48]⟩ := rfl
  rw [e]
  by_cases h : c = 48
  · subst h; simp
  · rw [decide_eq_false h]
    refine decide_eq_false fun z => h ?_
    have := congrArg tl z
    simpa [tl] using this
theorem le_zero {c : Nat} (h : 48 ≤ c) : (!decide ((⟨#[c]⟩ : Str).cps.toList < ("0" : Str).cps.toList)) = true := by
  have e : ("0" : Str) = ⟨#[48]⟩ := rfl
  rw [e]
  simp [List.cons_lt_cons_iff]
  omega
theorem le_nine {c : Nat} (h : c ≤ 57) : (!decide (("9" : Str).cps.toList < (⟨#[c]⟩ : Str).cps.toList)) = true := by
  have e : ("9" : Str) = ⟨#[57]⟩ := rfl
  rw [e]
  simp [List.cons_lt_cons_iff]
  omega
theorem in_figs {c : Nat} (h : 48 ≤ c ∧ c ≤ 57) : decide (c ∈ ("0123456789" : Str).cps.toList) = true := by
  have e : ("0123456789" : Str).cps.toList = [48, 49, 50, 51, 52, 53, 54, 55, 56, 57] := rfl
  rw [e]
  simp
  omega
theorem NumOk.head {z : Str} {n : Int} (h : NumOk z n) : ∃ c, (tl z)[0]? = some c ∧ (c = 48 → z.length ≤ 1) := by
  cases hz : tl z with
  | nil => exact (h.ne hz).elim
  | cons c r =>
    refine ⟨c, rfl, fun e => h.lead ?_⟩
    rw [hz, e]
    rfl
theorem NumOk.pos {z : Str} {n : Int} (h : NumOk z n) : 1 ≤ z.length := by
  rw [len_tl]
  have := h.ne
  cases hz : tl z with
  | nil => exact (this hz).elim
  | cons c r => simp
section
variable {P : Program} {w : World} {K : PySem.W.Frag} {mg : Str → Option Value} {base : Heap}
def sp_number_by (K : PySem.W.Frag) : Sp := Sp2 fun x y H Q => ∃ (z : Str) (n most : Int), NumOk z n ∧ n ≤ most ∧ x = .str z ∧ y = .int most ∧ ∀ H', Same H H' → Q (.int n) H'
def sN_number_by : List Str := ["word", "most", "sign", "number"]
theorem sc_number_by : FnScope sN_number_by ["word", "most"] (defScope s_number_by) := ⟨rfl, rfl, rfl, by decide +kernel, rfl, by decide +kernel, by decide +kernel⟩

theorem ok_number_by (T : Tx K mg) : Fd P w K mg base 1 (He.ga K "number_by") ["word", "most"] (sp_number_by K) := by
  refine mkFd T.d_number_by sc_number_by (fun _ _ _ _ _ _ us hl => match us, hl with | [_, _], _ => rfl) (fun vs H Q E h => Sp2.len h) (fun cdv A outer s H vs Q E hr h => ?_)
  obtain ⟨x, y, rfl, z, n, most, hn, hm, rfl, rfl, k⟩ := h
  refine ⟨_, (pss_cons (ps_if (PW.pt (pw_or (pt_not (pt_chain op_le op_le pe_int (pe_callB cl_lenS (by rfl) T.b_len PySem.boot_len (pa_cons (pv 0) pa_nil)) pe_int)) (pw_or1 (PW.pt (pw_and (pt_cmpR op_eq (pe_ix ix_str (pv 0) pe_int (fun _ _ => rfl)) pe_str (nomark _)) (pw_and1 (pt_cmpR op_gt (pe_callB cl_lenS (by rfl) T.b_len PySem.boot_len (pa_cons (pv 0) pa_nil)) pe_int (nomark _)))))))) (pss_cons ps_never
      pss_nil) pss_nil)
      (pss_cons (ps_for PassesOwn.never rfl (pi_str (pv 0)) (pg_name (i := 2) sc_number_by.nd rfl (.inl rfl)) (pss_cons (ps_if (pt_not (pt_chain op_leS op_leS pe_str (pv 2) pe_str)) (pss_cons ps_never
      pss_nil) pss_nil)
      pss_nil))
      (pss_cons (ps_set (i := 3) sc_number_by.nd rfl (.inl rfl) (pe_callTy cl_intS (by rfl) T.b_int (by decide +kernel) (pa_cons (pv 0) pa_nil)))
      (pss_cons (ps_if (pt_cmpR op_gt (pv 3) (pv 1) (nomark _)) (pss_cons ps_never
      pss_nil) pss_nil)
      (pss_cons (ps_ret (pv 3))
      pss_nil))))), ?_⟩
  have hl := hn.len
  have hp := hn.pos
  obtain ⟨c, hc, hc1⟩ := hn.head
  try dsimp only [cxOf, Cx.nox, Cx.wish]
  repeat walk_at "w"
  walk_at "yes"
  repeat walk_at "w"
  rw [decide_eq_true (show ((z.length : Nat) : Int) ≤ 10 by omega)]
  repeat walk_at "w"
  refine w_ixS (szN (by omega)) (tl_get hc) ?_
  repeat walk_at "w"
  rw [sign_zero]
  refine iteAB (fun h hB => ?_) ?_
  · have h := hc1 (of_decide_eq_true h)
    repeat walk_at "w"
    rw [decide_eq_false (show ¬ ((z.length : Nat) : Int) > 1 by omega)]
    exact hB
  · repeat walk_at "w"
    refine i_str (K := K) fun J it => ?_
    refine f_for it (fun i σ H' => ∃ e, σ = [some (.str z), some (.int most), e, none] ∧ Same H H') ⟨_, rfl, Same.refl _⟩ (fun _ _ _ _ => trivial) ?_ ?_
    · rintro i d u σ H' H2 e1 ⟨_, rfl, s2⟩ s3 hu
      rw [List.getElem?_map, Option.map_eq_some_iff] at e1
      obtain ⟨c2, e1, rfl⟩ := e1
      cases hu
      have hd := hn.dig c2 (List.mem_of_getElem? e1)
      repeat walk_at "w"
      rw [le_zero hd.1]
      repeat walk_at "w"
      rw [le_nine hd.2]
      repeat walk_at "w"
      exact ⟨_, rfl, (by walk_at "same")⟩
    · rintro σ H' ⟨_, rfl, s2⟩
      repeat walk_at "w"
      refine w_intS hn.val (by omega) ?_
      repeat walk_at "w"
      walk_at "no"
      repeat walk_at "w"
      exact k H' s2
def sp_part_of (K : PySem.W.Frag) : Sp := Sp1 fun x H Q => ∃ (z : Str) (n : Int), NumOk z n ∧ n ≤ 255 ∧ z.length ≤ 3 ∧ x = .str z ∧ ∀ H', Same H H' → Q (.int n) H'
def sN_part_of : List Str := ["word", "sign"]
theorem sc_part_of : FnScope sN_part_of ["word"] (defScope s_part_of) := ⟨rfl, rfl, rfl, by decide +kernel, rfl, by decide +kernel, by decide +kernel⟩

theorem ok_part_of (T : Tx K mg) : Fd P w K mg base 1 (He.ga K "part_of") ["word"] (sp_part_of K) := by
  refine mkFd T.d_part_of sc_part_of (fun _ _ _ _ _ _ us hl => match us, hl with | [_], _ => rfl) (fun vs H Q E h => Sp1.len h) (fun cdv A outer s H vs Q E hr h => ?_)
  obtain ⟨x, rfl, z, n, hn, hm, hl3, rfl, k⟩ := h
  refine ⟨_, (pss_cons (ps_if (PW.pt (pw_or (pt_cmpR op_eq (pv 0) pe_str (nomark _)) (pw_or (pt_cmpR op_gt (pe_callB cl_lenS (by rfl) T.b_len PySem.boot_len (pa_cons (pv 0) pa_nil)) pe_int (nomark _)) (pw_or1 (PW.pt (pw_and (pt_cmpR op_eq (pe_ix ix_str (pv 0) pe_int (fun _ _ => rfl)) pe_str (nomark _)) (pw_and1 (pt_cmpR op_gt (pe_callB cl_lenS (by rfl) T.b_len PySem.boot_len (pa_cons (pv 0) pa_nil)) pe_int (nomark _))))))))) (pss_cons ps_never
      pss_nil) pss_nil)
      (pss_cons (ps_for PassesOwn.never rfl (pi_str (pv 0)) (pg_name (i := 1) sc_part_of.nd rfl (.inl rfl)) (pss_cons (ps_if (pt_cmpR op_notInS (pv 1) (C8.pe_gc (by rfl) T.t_FIGURES) (by rfl)) (pss_cons ps_never
      pss_nil) pss_nil)
      pss_nil))
      (pss_cons (ps_if (pt_cmpR op_gt (pe_callTy cl_intS (by rfl) T.b_int (by decide +kernel) (pa_cons (pv 0) pa_nil)) pe_int (nomark _)) (pss_cons ps_never
      pss_nil) pss_nil)
      (pss_cons (ps_ret (pe_callTy cl_intS (by rfl) T.b_int (by decide +kernel) (pa_cons (pv 0) pa_nil)))
      pss_nil)))), ?_⟩
  have hl := hn.len
  have hp := hn.pos
  obtain ⟨c, hc, hc1⟩ := hn.head
  have hne : z ≠ "" := fun e => hn.ne (by rw [e]; rfl)
  try dsimp only [cxOf, Cx.nox, Cx.wish]
  repeat walk_at "w"
  rw [decide_eq_false hne]
  repeat walk_at "w"
  rw [decide_eq_false (show ¬ ((z.length : Nat) : Int) > 3 by omega)]
  repeat walk_at "w"
  refine w_ixS (szN (by omega)) (tl_get hc) ?_
  repeat walk_at "w"
  rw [sign_zero]
  refine iteAB (fun h hB => ?_) ?_
  · have h := hc1 (of_decide_eq_true h)
    repeat walk_at "w"
    rw [decide_eq_false (show ¬ ((z.length : Nat) : Int) > 1 by omega)]
    exact hB
  · repeat walk_at "w"
    refine i_str (K := K) fun J it => ?_
    refine f_for it (fun i σ H' => ∃ e, σ = [some (.str z), e] ∧ Same H H') ⟨_, rfl, Same.refl _⟩ (fun _ _ _ _ => trivial) ?_ ?_
    · rintro i d u σ H' H2 e1 ⟨_, rfl, s2⟩ s3 hu
      rw [List.getElem?_map, Option.map_eq_some_iff] at e1
      obtain ⟨c2, e1, rfl⟩ := e1
      cases hu
      have hd := hn.dig c2 (List.mem_of_getElem? e1)
      repeat walk_at "w"
      rw [in_figs hd]
      repeat walk_at "w"
      exact ⟨_, rfl, (by walk_at "same")⟩
    · rintro σ H' ⟨_, rfl, s2⟩
      repeat walk_at "w"
      refine w_intS hn.val (by omega) ?_
      repeat walk_at "w"
      walk_at "no"
      repeat walk_at "w"
      refine w_intS hn.val (by omega) ?_
      exact k H' s2
def sp_read_address (K : PySem.W.Frag) : Sp := Sp1 fun x H Q => ∃ (a : Int), AdOk a ∧ x = .str (dotS a) ∧ ∀ H', Same H H' → Q (.int a) H'
def accs (a : Int) (i : Nat) : Int := a / 256 ^ (4 - i)
theorem acc_step {a n : Int} (h : AdOk a) {i : Nat} (e : (parts4 a)[i]? = some n) : accs a i * 256 + n = accs a (i + 1) ∧ 0 ≤ accs a i ∧ accs a i < 4294967296 ∧ 0 ≤ n ∧ n ≤ 255 := by
  obtain ⟨h0, h1⟩ := h
  have hn := parts4_in (List.mem_of_getElem? e)
  match i, e with
  | 0, e =>
    simp [parts4] at e
    simp [accs]
    omega
  | 1, e =>
    simp [parts4] at e
    simp [accs]
    omega
  | 2, e =>
    simp [parts4] at e
    simp [accs]
    omega
  | 3, e =>
    simp [parts4] at e
    simp [accs]
    omega
  | i + 4, e => simp [parts4] at e
def sN_read_address : List Str := ["text", "words", "address", "word"]
theorem sc_read_address : FnScope sN_read_address ["text"] (defScope s_read_address) := ⟨rfl, rfl, rfl, by decide +kernel, rfl, by decide +kernel, by decide +kernel⟩

theorem ok_read_address (T : Tx K mg) : Fd P w K mg base 2 (He.ga K "read_address") ["text"] (sp_read_address K) := by
  have F_part_of := ok_part_of (P := P) (w := w) (base := base) T
  refine mkFd T.d_read_address sc_read_address (fun _ _ _ _ _ _ us hl => match us, hl with | [_], _ => rfl) (fun vs H Q E h => Sp1.len h) (fun cdv A outer s H vs Q E hr h => ?_)
  obtain ⟨x, rfl, a, ha, rfl, k⟩ := h
  refine ⟨_, (pss_cons (ps_set (i := 1) sc_read_address.nd rfl (.inl rfl) (pe_fz (pe_splitR (pv 0) pe_str)))
      (pss_cons (ps_if (pt_cmpR op_ne (pe_callB cl_lenQ (by rfl) T.b_len PySem.boot_len (pa_cons (pv 1) pa_nil)) pe_int (nomark _)) (pss_cons ps_never
      pss_nil) pss_nil)
      (pss_cons (ps_set (i := 2) sc_read_address.nd rfl (.inl rfl) pe_int)
      (pss_cons (ps_for PassesOwn.never rfl (pi_list (pv 1)) (pg_name (i := 3) sc_read_address.nd rfl (.inl rfl)) (pss_cons (ps_set (i := 2) sc_read_address.nd rfl (.inl rfl) (pe_op op_or (pe_op op_shl (pv 2) pe_int) (pe_f F_part_of (hr.mono (by omega)) (by rfl) T.g_part_of (pa_cons (pv 3) pa_nil))))
      pss_nil))
      (pss_cons (ps_ret (pv 2))
      pss_nil))))), ?_⟩
  have hl := dotS_len a
  try dsimp only [cxOf, Cx.nox, Cx.wish]
  repeat walk_at "w"
  refine s_split (K := K) rfl (by omega) fun u H1 s1 hu => ?_
  rw [split_dot] at hu
  repeat walk_at "w"
  refine w_lenL hu ?_
  repeat walk_at "w"
  rw [show ((((parts4 a).map numS).map D.str).length : Nat) = 4 from rfl, decide_eq_true (show ((4 : Nat) : Int) = 4 from rfl)]
  repeat walk_at "w"
  refine i_list hu (Ext.refl _) fun J it => ?_
  refine f_for it (fun i σ H' => ∃ e, σ = [some (.str (dotS a)), some u, some (.int (accs a i)), e] ∧ Same H1 H') ⟨_, by rw [show accs a 0 = 0 by unfold accs; have := ha.1; have := ha.2; simp; omega]; rfl, Same.refl _⟩ (fun i σ H' ⟨_, _, s⟩ => s.ext) ?_ ?_
  · rintro i d u2 σ H' H2 e1 ⟨_, rfl, s2⟩ s3 hu2
    rw [List.map_map, List.getElem?_map, Option.map_eq_some_iff] at e1
    obtain ⟨n, e1, rfl⟩ := e1
    cases hu2
    obtain ⟨q1, q2, q3, q4, q5⟩ := acc_step ha e1
    have hok : NumOk (numS n) n := numOk_num q4 (by omega)
    repeat walk_at "w"
    refine w_I ⟨by decide, by decide, by omega⟩ ?_
    repeat walk_at "w"
    refine Sp1.mk ⟨numS n, n, hok, q5, ?_, rfl, fun H3 s4 => ?_⟩
    · obtain ⟨m, rfl⟩ : ∃ m : Nat, n = m := ⟨n.toNat, by omega⟩
      rw [len_tl, tl_numS]
      exact numL_len (by decide) (by omega)
    repeat walk_at "w"
    refine ⟨some (.str (numS n)), ?_, (by walk_at "same")⟩
    have e3 : Builtin.bitOr (accs a i * 2 ^ (8 : Int).toNat) n = accs a (i + 1) := by
      rw [show (8 : Int).toNat = 8 from rfl, Bits.bitOr_join' q4 (by omega) q2, ← q1]
      omega
    rw [e3]
    rfl
  · rintro σ H' ⟨_, rfl, s2⟩
    repeat walk_at "w"
    have e : accs a (((parts4 a).map numS).map D.str).length = a := by
      show accs a 4 = a
      simp [accs]
    rw [e]
    exact k H' (by walk_at "same")
def sp_show_address (K : PySem.W.Frag) : Sp := Sp1 fun x H Q => ∃ (a : Int), 0 ≤ a ∧ x = .int a ∧ ∀ H', Same H H' → Q (.str (dotS a)) H'
def sN_show_address : List Str := ["address", "words", "shift"]
theorem sc_show_address : FnScope sN_show_address ["address"] (defScope s_show_address) := ⟨rfl, rfl, rfl, by decide +kernel, rfl, by decide +kernel, by decide +kernel⟩

theorem shift_part {a n : Int} (h : 0 ≤ a) {i : Nat} (e : ([24, 16, 8, 0] : List Int)[i]? = some n) : 0 ≤ n ∧ (parts4 a)[i]? = some (Builtin.bitAnd (a / 2 ^ n.toNat) 255) := by
  have key : ∀ k : Nat, Builtin.bitAnd (a / 2 ^ k) 255 = a / 2 ^ k % 256 := fun k => by
    have := Bits.bitAnd_mask (x := a / 2 ^ k) 8 (Int.ediv_nonneg h (by exact Int.pow_nonneg (by decide)))
    simpa using this
  match i, e with
  | 0, e =>
    simp at e
    subst e
    rw [show (24 : Int).toNat = 24 from rfl, key]
    simp [parts4]
  | 1, e =>
    simp at e
    subst e
    rw [show (16 : Int).toNat = 16 from rfl, key]
    simp [parts4]
  | 2, e =>
    simp at e
    subst e
    rw [show (8 : Int).toNat = 8 from rfl, key]
    simp [parts4]
  | 3, e =>
    simp at e
    subst e
    rw [show (0 : Int).toNat = 0 from rfl, key]
    simp [parts4]
  | i + 4, e => simp at e
theorem log_small {n : Int} (h : 0 ≤ n) (h2 : n < 2 ^ 64) : n.natAbs.log2 < 1920 := by
  have h3 : n.natAbs < 2 ^ 64 := by omega
  by_cases hz : n.natAbs = 0
  · rw [hz]
    decide
  · have := (Nat.log2_lt hz).mpr h3
    omega
theorem ok_show_address (T : Tx K mg) : Fd P w K mg base 1 (He.ga K "show_address") ["address"] (sp_show_address K) := by
  refine mkFd T.d_show_address sc_show_address (fun _ _ _ _ _ _ us hl => match us, hl with | [_], _ => rfl) (fun vs H Q E h => Sp1.len h) (fun cdv A outer s H vs Q E hr h => ?_)
  obtain ⟨x, rfl, a, ha, rfl, k⟩ := h
  refine ⟨_, (pss_cons (ps_set (i := 1) sc_show_address.nd rfl (.inl rfl) (pe_lst pa_nil))
      (pss_cons (ps_for PassesOwn.never rfl (pi_list (pe_fz (pe_lst (pa_cons pe_int (pa_cons pe_int (pa_cons pe_int (pa_cons pe_int pa_nil))))))) (pg_name (i := 2) sc_show_address.nd rfl (.inl rfl)) (pss_cons (ps_expr (pe_bm PySem.F.plainAttrs_list PySem.F.slot_list_append PySem.F.type_list_append mt_append (pv 1) (pa_cons (pe_callTy cl_strI (by rfl) T.b_str (by decide +kernel) (pa_cons (pe_op op_and (pe_op op_shr (pv 0) (pv 2)) pe_int) pa_nil)) pa_nil)))
      pss_nil))
      (pss_cons (ps_ret (pe_joinR pe_str (pv 1)))
      pss_nil))), ?_⟩
  try dsimp only [cxOf, Cx.nox, Cx.wish]
  repeat walk_at "w"
  walk_at "newO"
  intro p H1 np s1 o1
  repeat walk_at "w"
  walk_at "newF"
  intro u H2 s2 hu
  refine i_list (ds := ([24, 16, 8, 0] : List Int).map D.int) hu (Ext.refl _) fun J it => ?_
  refine f_for it (fun i σ H' => ∃ e, σ = [some (.int a), some (.ref p), e] ∧ Same H H' ∧ Ext H2 H' ∧ Ow K H' p ((((parts4 a).take i).map numS).map D.str)) ⟨_, rfl, (by walk_at "same"), Ext.refl _, o1.up s2⟩ (fun i σ H' ⟨_, _, _, s, _⟩ => s) ?_ ?_
  · rintro i d u2 σ H' H3 e1 ⟨_, rfl, s3, x3, o3⟩ s4 hu2
    rw [List.getElem?_map, Option.map_eq_some_iff] at e1
    obtain ⟨n, e1, rfl⟩ := e1
    cases hu2
    obtain ⟨q1, q2⟩ := shift_part ha e1
    have q3 := parts4_in (List.mem_of_getElem? q2)
    have q4 := (List.getElem?_eq_some_iff.mp q2).1
    have q5 : (parts4 a).length = 4 := rfl
    repeat walk_at "w"
    refine w_tyO (o3.up s4) ?_
    repeat walk_at "w"
    refine w_I q1 ?_
    repeat walk_at "w"
    refine w_strI (log_small q3.1 (by omega)) ?_
    repeat walk_at "w"
    refine w_appS (d := .str (numS (Builtin.bitAnd (a / 2 ^ n.toNat) 255))) (o3.up s4) (.str _) (by rw [List.length_map, List.length_map, List.length_take]; omega) (Hb := H) (by walk_at "same") np fun H4 b4 x4 s5 o5 => ?_
    repeat walk_at "w"
    refine ⟨_, rfl, s5, (by walk_at "ext"), ?_⟩
    rw [List.take_succ, q2]
    simpa using o5
  · rintro σ H' ⟨_, rfl, s3, x3, o3⟩
    repeat walk_at "w"
    rw [show (parts4 a).take (([24, 16, 8, 0] : List Int).map D.int).length = parts4 a from rfl] at o3
    refine s_join o3.ls ?_ (k H' s3)
    have h1 := sum_le (k := 10) (ss := (parts4 a).map numS) fun s hs => by
      obtain ⟨n, h1, rfl⟩ := List.mem_map.mp hs
      have := parts4_in h1
      exact numS_len this.1 (by omega)
    have h2 : ((parts4 a).map numS).length = 4 := rfl
    have h3 : ("." : Str).length = 1 := rfl
    rw [h2] at h1
    rw [h2, h3]
    omega
def sp_mask (K : PySem.W.Frag) : Sp := Sp1 fun x H Q => ∃ (b : Int), 0 ≤ b ∧ b ≤ 32 ∧ x = .int b ∧ Q (.int (maskI b)) H
def sN_mask : List Str := ["bits"]
theorem sc_mask : FnScope sN_mask ["bits"] (defScope s_mask) := ⟨rfl, rfl, rfl, by decide +kernel, rfl, by decide +kernel, by decide +kernel⟩

theorem ok_mask (T : Tx K mg) : Fd P w K mg base 1 (He.ga K "mask") ["bits"] (sp_mask K) := by
  refine mkFd T.d_mask sc_mask (fun _ _ _ _ _ _ us hl => match us, hl with | [_], _ => rfl) (fun vs H Q E h => Sp1.len h) (fun cdv A outer s H vs Q E hr h => ?_)
  obtain ⟨x, rfl, b, h0, h1, rfl, k⟩ := h
  refine ⟨_, (pss_cons (ps_ret (pe_op op_and (pe_op op_shl (C8.pe_gc (by rfl) T.i_ALL) (pe_op op_sub pe_int (pv 0))) (C8.pe_gc (by rfl) T.i_ALL)))
      pss_nil), ?_⟩
  try dsimp only [cxOf, Cx.nox, Cx.wish]
  repeat walk_at "w"
  refine w_I ⟨by omega, by omega, by decide⟩ ?_
  repeat walk_at "w"
  exact k
def sp_beginning (K : PySem.W.Frag) : Sp := Sp2 fun x y H Q => ∃ (a b : Int), 0 ≤ b ∧ b ≤ 32 ∧ x = .int a ∧ y = .int b ∧ ∀ v H', Same H H' → Dt K H' v (eSt (beginI a b)) → Q v H'
def sN_beginning : List Str := ["address", "bits", "ones"]
theorem sc_beginning : FnScope sN_beginning ["address", "bits"] (defScope s_beginning) := ⟨rfl, rfl, rfl, by decide +kernel, rfl, by decide +kernel, by decide +kernel⟩

theorem ok_beginning (T : Tx K mg) : Fd P w K mg base 2 (He.ga K "beginning") ["address", "bits"] (sp_beginning K) := by
  have F_mask := ok_mask (P := P) (w := w) (base := base) T
  refine mkFd T.d_beginning sc_beginning (fun _ _ _ _ _ _ us hl => match us, hl with | [_, _], _ => rfl) (fun vs H Q E h => Sp2.len h) (fun cdv A outer s H vs Q E hr h => ?_)
  obtain ⟨x, y, rfl, a, b, h0, h1, rfl, rfl, k⟩ := h
  refine ⟨_, (pss_cons (ps_set (i := 2) sc_beginning.nd rfl (.inl rfl) (pe_f F_mask (hr.mono (by omega)) (by rfl) T.g_mask (pa_cons (pv 1) pa_nil)))
      (pss_cons (ps_ret (pe_tup (pa_cons (pe_op op_and (pv 0) (pv 2)) (pa_cons (pe_op op_or (pv 0) (pe_op op_xor (pv 2) (C8.pe_gc (by rfl) T.i_ALL))) pa_nil))))
      pss_nil)), ?_⟩
  try dsimp only [cxOf, Cx.nox, Cx.wish]
  repeat walk_at "w"
  refine Sp1.mk ⟨b, h0, h1, rfl, ?_⟩
  repeat walk_at "w"
  walk_at "newT"
  intro u H2 s2 hu
  exact k _ _ s2 hu
def sp_shared (K : PySem.W.Frag) : Sp := Sp2 fun x y H Q => ∃ (l h : Int), x = .int l ∧ y = .int h ∧ Q (.int (sharedI l h)) H
def sN_shared : List Str := ["one", "other"]
theorem sc_shared : FnScope sN_shared ["one", "other"] (defScope s_shared) := ⟨rfl, rfl, rfl, by decide +kernel, rfl, by decide +kernel, by decide +kernel⟩

theorem ok_shared (T : Tx K mg) : Fd P w K mg base 1 (He.ga K "shared") ["one", "other"] (sp_shared K) := by
  refine mkFd T.d_shared sc_shared (fun _ _ _ _ _ _ us hl => match us, hl with | [_, _], _ => rfl) (fun vs H Q E h => Sp2.len h) (fun cdv A outer s H vs Q E hr h => ?_)
  obtain ⟨x, y, rfl, l, hh, rfl, rfl, k⟩ := h
  refine ⟨_, (pss_cons (ps_ret (pe_op op_sub pe_int (pe_bits (pe_op op_xor (pv 0) (pv 1)))))
      pss_nil), ?_⟩
  try dsimp only [cxOf, Cx.nox, Cx.wish]
  repeat walk_at "w"
  exact k
def eOInt : Option Int → D
  | none => .non
  | some b => .int b
def sp_bits_of (K : PySem.W.Frag) : Sp := Sp2 fun x y H Q => ∃ (l h : Int), AdOk l ∧ AdOk h ∧ x = .int l ∧ y = .int h ∧ ∀ v H', Same H H' → Dt K H' v (eOInt (bitsOf l h)) → Q v H'
def sN_bits_of : List Str := ["low", "high", "bits"]
theorem sc_bits_of : FnScope sN_bits_of ["low", "high"] (defScope s_bits_of) := ⟨rfl, rfl, rfl, by decide +kernel, rfl, by decide +kernel, by decide +kernel⟩

theorem ok_bits_of (T : Tx K mg) : Fd P w K mg base 3 (He.ga K "bits_of") ["low", "high"] (sp_bits_of K) := by
  have F_shared := ok_shared (P := P) (w := w) (base := base) T
  have F_beginning := ok_beginning (P := P) (w := w) (base := base) T
  refine mkFd T.d_bits_of sc_bits_of (fun _ _ _ _ _ _ us hl => match us, hl with | [_, _], _ => rfl) (fun vs H Q E h => Sp2.len h) (fun cdv A outer s H vs Q E hr h => ?_)
  obtain ⟨x, y, rfl, l, hh, hl, hr2, rfl, rfl, k⟩ := h
  have hs := shared_in hl hr2
  refine ⟨_, (pss_cons (ps_set (i := 2) sc_bits_of.nd rfl (.inl rfl) (pe_f F_shared (hr.mono (by omega)) (by rfl) T.g_shared (pa_cons (pv 0) (pa_cons (pv 1) pa_nil))))
      (pss_cons (ps_if (pt_cmpR (op_eqG hr.units) (pe_f F_beginning (hr.mono (by omega)) (by rfl) T.g_beginning (pa_cons (pv 0) (pa_cons (pv 2) pa_nil))) (pe_tup (pa_cons (pv 0) (pa_cons (pv 1) pa_nil))) (nomark _)) (pss_cons (ps_ret (pv 2))
      pss_nil) pss_nil)
      (pss_cons (ps_ret pe_non)
      pss_nil))), ?_⟩
  try dsimp only [cxOf, Cx.nox, Cx.wish]
  repeat walk_at "w"
  refine Sp2.mk ⟨l, hh, rfl, rfl, ?_⟩
  repeat walk_at "w"
  refine Sp2.mk ⟨l, sharedI l hh, hs.1, hs.2, rfl, rfl, fun v H1 s1 hv => ?_⟩
  repeat walk_at "w"
  walk_at "newT"
  intro u H2 s2 hu
  refine w_eqG (α := Int × Int) (a := beginI l (sharedI l hh)) (b := (l, hh)) (hv.up s2.ext) hu (by decide) ?_
  repeat walk_at "w"
  unfold bitsOf at k
  by_cases hb : beginI l (sharedI l hh) = (l, hh)
  · rw [if_pos hb] at k
    walk_at "yes"
    repeat walk_at "w"
    exact k _ _ (by walk_at "same") (.int _)
  · rw [if_neg hb] at k
    walk_at "no"
    repeat walk_at "w"
    exact k _ _ (by walk_at "same") .non
end
end
section
open PySem PySem.Spec PyProof.Rows L2 TL
section
variable {P : Program} {w : World} {K : PySem.W.Frag} {mg : Str → Option Value} {base : Heap}
abbrev sp_address_by (K : PySem.W.Frag) : Sp := sp_read_address K
def sN_address_by : List Str := ["word"]
theorem sc_address_by : FnScope sN_address_by ["word"] (defScope s_address_by) := ⟨rfl, rfl, rfl, by decide +kernel, rfl, by decide +kernel, by decide +kernel⟩

theorem ok_address_by (T : Tx K mg) : Fd P w K mg base 3 (He.ga K "address_by") ["word"] (sp_address_by K) := by
  have F_read_address := ok_read_address (P := P) (w := w) (base := base) T
  refine mkFd T.d_address_by sc_address_by (fun _ _ _ _ _ _ us hl => match us, hl with | [_], _ => rfl) (fun vs H Q E h => Sp1.len h) (fun cdv A outer s H vs Q E hr h => ?_)
  obtain ⟨x, rfl, a, ha, rfl, k⟩ := h
  refine ⟨_, (pss_cons (ps_try_thru0 (pss_cons (ps_ret (pe_f F_read_address (hr.mono (by omega)) (by rfl) T.g_read_address (pa_cons (pv 0) pa_nil)))
      pss_nil))
      pss_nil), ?_⟩
  try dsimp only [cxOf, Cx.nox, Cx.wish]
  repeat walk_at "w"
  exact Sp1.mk ⟨a, ha, rfl, k⟩
def sp_numbers_by (K : PySem.W.Frag) : Sp := Sp2 fun x y H Q => ∃ (l h most : Int), 0 ≤ l ∧ l ≤ h ∧ h ≤ most ∧ most ≤ 4294967295 ∧ x = .str (showN l h) ∧ y = .int most ∧ ∀ v H', Same H H' → Dt K H' v (eSt (l, h)) → Q v H'
def sN_numbers_by : List Str := ["word", "most", "first", "dash", "last", "low", "high"]
theorem sc_numbers_by : FnScope sN_numbers_by ["word", "most"] (defScope s_numbers_by) := ⟨rfl, rfl, rfl, by decide +kernel, rfl, by decide +kernel, by decide +kernel⟩

theorem numS_len10 {n : Int} (h : 0 ≤ n) (h2 : n ≤ 4294967295) : (numS n).length ≤ 10 := numS_len h (by omega)
theorem ok_numbers_by (T : Tx K mg) : Fd P w K mg base 2 (He.ga K "numbers_by") ["word", "most"] (sp_numbers_by K) := by
  have F_number_by := ok_number_by (P := P) (w := w) (base := base) T
  refine mkFd T.d_numbers_by sc_numbers_by (fun _ _ _ _ _ _ us hl => match us, hl with | [_, _], _ => rfl) (fun vs H Q E h => Sp2.len h) (fun cdv A outer s H vs Q E hr h => ?_)
  obtain ⟨x, y, rfl, l, hh, most, h0, h1, h2, h3, rfl, rfl, k⟩ := h
  have hl := numS_len10 h0 (by omega)
  have hl2 := numS_len10 (n := hh) (by omega) (by omega)
  have nl := numOk_num h0 (by omega)
  have nh := numOk_num (n := hh) (by omega) (by omega)
  refine ⟨_, (pss_cons (ps_asg (pe_partR (pv 0) pe_str) (pg_tup rfl (pgs_cons (pg_name (i := 2) sc_numbers_by.nd rfl (.inl rfl)) (pgs_cons (pg_name (i := 3) sc_numbers_by.nd rfl (.inl rfl)) (pgs_cons (pg_name (i := 4) sc_numbers_by.nd rfl (.inl rfl)) pgs_nil)))))
      (pss_cons (ps_set (i := 5) sc_numbers_by.nd rfl (.inl rfl) (pe_f F_number_by (hr.mono (by omega)) (by rfl) T.g_number_by (pa_cons (pv 2) (pa_cons (pv 1) pa_nil))))
      (pss_cons (ps_set (i := 6) sc_numbers_by.nd rfl (.inl rfl) (pv 5))
      (pss_cons (ps_if (pt_cmpR op_eq (pv 3) pe_str (nomark _)) (pss_cons (ps_set (i := 6) sc_numbers_by.nd rfl (.inl rfl) (pe_f F_number_by (hr.mono (by omega)) (by rfl) T.g_number_by (pa_cons (pv 4) (pa_cons (pv 1) pa_nil))))
      pss_nil) pss_nil)
      (pss_cons (ps_if (pt_cmpR op_gt (pv 5) (pv 6) (nomark _)) (pss_cons ps_never
      pss_nil) pss_nil)
      (pss_cons (ps_ret (pe_tup (pa_cons (pv 5) (pa_cons (pv 6) pa_nil))))
      pss_nil)))))), ?_⟩
  try dsimp only [cxOf, Cx.nox, Cx.wish]
  repeat walk_at "w"
  by_cases e : l = hh
  · subst e
    rw [show showN l l = numS l from if_pos rfl]
    refine s_part (K := K) rfl (by omega) fun u H1 s1 hu => ?_
    rw [partition_none (s := 45) (S := []) rfl (numS_free h0 (.inl (by decide)))] at hu
    repeat walk_at "w"
    refine Sp2.mk ⟨numS l, l, most, nl, h2, rfl, rfl, fun H2 s2 => ?_⟩
    repeat walk_at "w"
    rw [show decide (Str.empty = ("-" : Str)) = false by decide +kernel]
    repeat walk_at "w"
    walk_at "no"
    repeat walk_at "w"
    walk_at "newT"
    intro u3 H3 s3 hu3
    exact k _ _ (by walk_at "same") hu3
  · rw [show showN l hh = numS l ++ "-" ++ numS hh from if_neg e]
    refine s_part (K := K) rfl ?_ fun u H1 s1 hu => ?_
    · rw [len_app, len_app, show ("-" : Str).length = 1 from rfl]
      omega
    rw [partition_app (s := 45) (S := []) rfl (numS_free h0 (.inl (by decide)))] at hu
    repeat walk_at "w"
    refine Sp2.mk ⟨numS l, l, most, nl, by omega, rfl, rfl, fun H2 s2 => ?_⟩
    repeat walk_at "w"
    rw [show decide (("-" : Str) = ("-" : Str)) = true by decide +kernel]
    repeat walk_at "w"
    refine Sp2.mk ⟨numS hh, hh, most, nh, by omega, rfl, rfl, fun H3 s3 => ?_⟩
    repeat walk_at "w"
    walk_at "no"
    repeat walk_at "w"
    walk_at "newT"
    intro u3 H3 s3 hu3
    exact k _ _ (by walk_at "same") hu3
def sp_addresses_by (K : PySem.W.Frag) : Sp := Sp1 fun x H Q => ∃ (z : Str) (l h : Int), AdOk l ∧ AdOk h ∧ AdText z l h ∧ x = .str z ∧ ∀ v H', Same H H' → Dt K H' v (eSt (l, h)) → Q v H'
def sN_addresses_by : List Str := ["word", "head", "slash", "bits", "first", "dash", "last", "low", "high"]
theorem sc_addresses_by : FnScope sN_addresses_by ["word"] (defScope s_addresses_by) := ⟨rfl, rfl, rfl, by decide +kernel, rfl, by decide +kernel, by decide +kernel⟩

theorem ok_addresses_by (T : Tx K mg) : Fd P w K mg base 4 (He.ga K "addresses_by") ["word"] (sp_addresses_by K) := by
  have F_beginning := ok_beginning (P := P) (w := w) (base := base) T
  have F_address_by := ok_address_by (P := P) (w := w) (base := base) T
  have F_number_by := ok_number_by (P := P) (w := w) (base := base) T
  refine mkFd T.d_addresses_by sc_addresses_by (fun _ _ _ _ _ _ us hl => match us, hl with | [_], _ => rfl) (fun vs H Q E h => Sp1.len h) (fun cdv A outer s H vs Q E hr h => ?_)
  obtain ⟨x, rfl, z, l, hh, hl, hr2, hz, rfl, k⟩ := h
  have dl := dotS_len l
  have dh := dotS_len hh
  refine ⟨_, (pss_cons (ps_asg (pe_partR (pv 0) pe_str) (pg_tup rfl (pgs_cons (pg_name (i := 1) sc_addresses_by.nd rfl (.inl rfl)) (pgs_cons (pg_name (i := 2) sc_addresses_by.nd rfl (.inl rfl)) (pgs_cons (pg_name (i := 3) sc_addresses_by.nd rfl (.inl rfl)) pgs_nil)))))
      (pss_cons (ps_if (pt_cmpR op_eq (pv 2) pe_str (nomark _)) (pss_cons (ps_ret (pe_f F_beginning (hr.mono (by omega)) (by rfl) T.g_beginning (pa_cons (pe_f F_address_by (hr.mono (by omega)) (by rfl) T.g_address_by (pa_cons (pv 1) pa_nil)) (pa_cons (pe_f F_number_by (hr.mono (by omega)) (by rfl) T.g_number_by (pa_cons (pv 3) (pa_cons pe_int pa_nil))) pa_nil))))
      pss_nil) pss_nil)
      (pss_cons (ps_asg (pe_partR (pv 0) pe_str) (pg_tup rfl (pgs_cons (pg_name (i := 4) sc_addresses_by.nd rfl (.inl rfl)) (pgs_cons (pg_name (i := 5) sc_addresses_by.nd rfl (.inl rfl)) (pgs_cons (pg_name (i := 6) sc_addresses_by.nd rfl (.inl rfl)) pgs_nil)))))
      (pss_cons (ps_set (i := 7) sc_addresses_by.nd rfl (.inl rfl) (pe_f F_address_by (hr.mono (by omega)) (by rfl) T.g_address_by (pa_cons (pv 4) pa_nil)))
      (pss_cons (ps_set (i := 8) sc_addresses_by.nd rfl (.inl rfl) (pv 7))
      (pss_cons (ps_if (pt_cmpR op_eq (pv 5) pe_str (nomark _)) (pss_cons (ps_set (i := 8) sc_addresses_by.nd rfl (.inl rfl) (pe_f F_address_by (hr.mono (by omega)) (by rfl) T.g_address_by (pa_cons (pv 6) pa_nil)))
      pss_nil) pss_nil)
      (pss_cons (ps_if (pt_cmpR op_gt (pv 7) (pv 8) (nomark _)) (pss_cons ps_never
      pss_nil) pss_nil)
      (pss_cons (ps_ret (pe_tup (pa_cons (pv 7) (pa_cons (pv 8) pa_nil))))
      pss_nil)))))))), ?_⟩
  try dsimp only [cxOf, Cx.nox, Cx.wish]
  repeat walk_at "w"
  have noSl : ∀ a, 47 ∉ tl (dotS a) := fun a => dotS_free ⟨.inl (by decide), by decide⟩
  have noDa : ∀ a, 45 ∉ tl (dotS a) := fun a => dotS_free ⟨.inl (by decide), by decide⟩
  rcases hz with ⟨rfl, e⟩ | ⟨rfl, hle⟩ | ⟨b, rfl, b0, b1, hb⟩
  · subst e
    refine s_part (K := K) rfl (by omega) fun u H1 s1 hu => ?_
    rw [partition_none (s := 47) (S := []) rfl (noSl l)] at hu
    repeat walk_at "w"
    rw [show decide (Str.empty = ("/" : Str)) = false by decide +kernel]
    repeat walk_at "w"
    refine s_part (K := K) rfl (by omega) fun u2 H2 s2 hu2 => ?_
    rw [partition_none (s := 45) (S := []) rfl (noDa l)] at hu2
    repeat walk_at "w"
    refine Sp1.mk ⟨l, hl, rfl, fun H3 s3 => ?_⟩
    repeat walk_at "w"
    rw [show decide (Str.empty = ("-" : Str)) = false by decide +kernel]
    repeat walk_at "w"
    walk_at "no"
    repeat walk_at "w"
    walk_at "newT"
    intro u3 H3 s3 hu3
    exact k _ _ (by walk_at "same") hu3
  · have hlen : (dotS l ++ "-" ++ dotS hh).length ≤ 100 := by
      rw [len_app, len_app, show ("-" : Str).length = 1 from rfl]
      omega
    refine s_part (K := K) rfl (by omega) fun u H1 s1 hu => ?_
    rw [partition_none (s := 47) (S := []) rfl (by
      rw [tl_append, tl_append]
      simp only [List.mem_append, not_or]
      exact ⟨⟨noSl l, by rw [show tl ("-" : Str) = [45] from rfl]; decide⟩, noSl hh⟩)] at hu
    dsimp only at hu
    repeat walk_at "w"
    rw [show decide (Str.empty = ("/" : Str)) = false by decide +kernel]
    repeat walk_at "w"
    refine s_part (K := K) rfl (by omega) fun u2 H2 s2 hu2 => ?_
    rw [partition_app (s := 45) (S := []) rfl (noDa l)] at hu2
    repeat walk_at "w"
    refine Sp1.mk ⟨l, hl, rfl, fun H3 s3 => ?_⟩
    repeat walk_at "w"
    rw [show decide (("-" : Str) = ("-" : Str)) = true by decide +kernel]
    repeat walk_at "w"
    refine Sp1.mk ⟨hh, hr2, rfl, fun H4 s4 => ?_⟩
    repeat walk_at "w"
    walk_at "no"
    repeat walk_at "w"
    walk_at "newT"
    intro u3 H3 s3 hu3
    exact k _ _ (by walk_at "same") hu3
  · have hlen : (dotS l ++ "/" ++ numS b).length ≤ 100 := by
      have := numS_len10 b0 (by omega)
      rw [len_app, len_app, show ("/" : Str).length = 1 from rfl]
      omega
    refine s_part (K := K) rfl (by omega) fun u H1 s1 hu => ?_
    rw [partition_app (s := 47) (S := []) rfl (noSl l)] at hu
    repeat walk_at "w"
    rw [show decide (("/" : Str) = ("/" : Str)) = true by decide +kernel]
    repeat walk_at "w"
    refine Sp1.mk ⟨l, hl, rfl, fun H3 s3 => ?_⟩
    repeat walk_at "w"
    refine Sp2.mk ⟨numS b, b, 32, numOk_num b0 (by omega), b1, rfl, rfl, fun H4 s4 => ?_⟩
    repeat walk_at "w"
    refine Sp2.mk ⟨l, b, b0, b1, rfl, rfl, fun v H5 s5 hv => ?_⟩
    rw [hb] at hv
    exact k _ _ (by walk_at "same") hv
def sp_words_of (K : PySem.W.Frag) : Sp := Sp1 fun x H Q => ∃ (z : Str), z.length ≤ 1000000 ∧ 35 ∉ tl z ∧ x = .str z ∧ (Txt.split z " ").length ≤ 1000000 ∧ ∀ v H', Same H H' → Dt K H' v (.lst ((wordsS z).map D.str)) → Q v H'
def sN_words_of : List Str := ["row", "word"]
theorem sc_words_of : FnScope sN_words_of ["row"] (defScope s_words_of) := ⟨rfl, rfl, rfl, by decide +kernel, rfl, by decide +kernel, by decide +kernel⟩

theorem ok_words_of (T : Tx K mg) : Fd P w K mg base 1 (He.ga K "words_of") ["row"] (sp_words_of K) := by
  refine mkFd T.d_words_of sc_words_of (fun _ _ _ _ _ _ us hl => match us, hl with | [_], _ => rfl) (fun vs H Q E h => Sp1.len h) (fun cdv A outer s H vs Q E hr h => ?_)
  obtain ⟨x, rfl, z, hz, hno, rfl, hsl, k⟩ := h
  refine ⟨_, (pss_cons (ps_ret (pe_fz (pe_lc (own := [("word", 1)]) rfl sc_words_of.nd (pi_list (pe_fz (pe_splitR (pe_ix ix_tup (pe_partR (pv 0) pe_str) pe_int (fun _ _ => rfl)) pe_str))) (blkOk_by (own := [("word", 1)]) (N := sN_words_of) (sc := defScope s_words_of) (by decide +kernel)) (fun _ _ _ _ _ => (pg_name (i := 1) sc_words_of.nd rfl (.inl rfl))) (fun _ _ _ _ _ => (pts_one (pt_cmpR op_ne (pv 1) pe_str (nomark _)))) (fun _ _ _ _ _ => (pv 1)))))
      pss_nil), ?_⟩
  try dsimp only [cxOf, Cx.nox, Cx.wish]
  repeat walk_at "w"
  refine s_part (K := K) rfl (by omega) fun u H1 s1 hu => ?_
  rw [partition_none (s := 35) (S := []) rfl hno] at hu
  dsimp only at hu
  repeat walk_at "w"
  refine s_split (K := K) rfl (by omega) fun u2 H2 s2 hu2 => ?_
  refine i_list hu2 (Ext.refl _) fun J it => ?_
  refine f_lc it (fun (s : Str) => if s = "" then none else some (.str s)) (by omega) (fun H' s => s.ext) (fun i s u H' Y N e s3 hu hY hN => ?_) fun p H' xs np s3 hp r => ?_
  · cases hu
    repeat walk_at "w"
    refine ⟨rfl, ?_⟩
    repeat walk_at "w"
    by_cases he : s = ""
    · rw [decide_eq_true he]
      repeat walk_at "w"
      exact hN _ (if_pos he) (Same.refl _)
    · rw [decide_eq_false he]
      repeat walk_at "w"
      exact hY _ _ _ (if_neg he) (Same.refl _) (.str _)
  · refine lcF np s3 hp r fun u3 H4 s4 hu3 => ?_
    refine k _ _ (by walk_at "same") ?_
    have e : (Txt.split z " ").filterMap (fun (s : Str) => if s = "" then none else some (D.str s)) = (wordsS z).map D.str := by
      unfold wordsS
      generalize Txt.split z " " = l
      induction l with
      | nil => rfl
      | cons s l ih =>
        rw [List.filterMap_cons, List.filter_cons]
        by_cases hc : s = ""
        · rw [if_pos hc, decide_eq_true hc, ih]
          rfl
        · rw [if_neg hc, decide_eq_false hc, ih]
          rfl
    rw [e] at hu3
    exact hu3
def sp_is_name (K : PySem.W.Frag) : Sp := Sp1 fun x H Q => ∃ (z : Str), z.length ≤ 1000000 ∧ x = .str z ∧ ∀ H', Same H H' → Q (.bl (isName z)) H'
def sN_is_name : List Str := ["word", "letter"]
theorem sc_is_name : FnScope sN_is_name ["word"] (defScope s_is_name) := ⟨rfl, rfl, rfl, by decide +kernel, rfl, by decide +kernel, by decide +kernel⟩

theorem ok_is_name (T : Tx K mg) : Fd P w K mg base 1 (He.ga K "is_name") ["word"] (sp_is_name K) := by
  refine mkFd T.d_is_name sc_is_name (fun _ _ _ _ _ _ us hl => match us, hl with | [_], _ => rfl) (fun vs H Q E h => Sp1.len h) (fun cdv A outer s H vs Q E hr h => ?_)
  obtain ⟨x, rfl, z, hz, rfl, k⟩ := h
  have hl : z.cps.toList.length ≤ 1000000 := by rw [show z.cps.toList.length = z.length from (len_tl z).symm]; exact hz
  refine ⟨_, (pss_cons (ps_ret (pe_and (pe_chain op_le op_le pe_int (pe_callB cl_lenS (by rfl) T.b_len PySem.boot_len (pa_cons (pv 0) pa_nil)) pe_int) (pe_one (pe_callB (cr_all rfl) (by rfl) T.b_all (by decide +kernel) (pa_cons (pe_fz (pe_lc (own := [("letter", 1)]) rfl sc_is_name.nd (pi_str (pv 0)) (blkOk_by (own := [("letter", 1)]) (N := sN_is_name) (sc := defScope s_is_name) (by decide +kernel)) (fun _ _ _ _ _ => (pg_name (i := 1) sc_is_name.nd rfl (.inl rfl))) (fun _ _ _ _ _ => pts_nil) (fun _ _ _ _ _ => (pe_cmpR op_inS (pv 1) (C8.pe_gc (by rfl) T.t_LETTERS) (by rfl))))) pa_nil)))))
      pss_nil), ?_⟩
  try dsimp only [cxOf, Cx.nox, Cx.wish]
  unfold isName at k
  repeat walk_at "w"
  by_cases h1 : 1 ≤ z.length
  · rw [decide_eq_true h1] at k
    rw [decide_eq_true (show (1 : Int) ≤ ((z.length : Nat) : Int) by omega)]
    repeat walk_at "w"
    by_cases h2 : z.length ≤ 12
    · rw [decide_eq_true h2] at k
      rw [decide_eq_true (show ((z.length : Nat) : Int) ≤ 12 by omega)]
      repeat walk_at "w"
      refine i_str (K := K) fun J it => ?_
      refine f_lc it (fun c => some (.bl (decide (c ∈ letters)))) (by omega) (fun _ _ => trivial) (fun i s u H' Y N e s3 hu hY hN => ?_) fun p H' xs np s3 hp r => ?_
      · cases hu
        repeat walk_at "w"
        refine ⟨rfl, ?_⟩
        repeat walk_at "w"
        exact hY _ _ _ rfl (Same.refl _) (.bl _)
      · refine lcF np s3 hp r fun u3 H4 s4 hu3 => ?_
        rw [show z.cps.toList.filterMap (fun c => some (D.bl (decide (c ∈ letters)))) = (z.cps.toList.map fun c => decide (c ∈ letters)).map D.bl by simp] at hu3
        repeat walk_at "w"
        refine w_all hu3 ?_
        have := k H4 s4
        simpa [List.all_map] using this
    · rw [decide_eq_false h2] at k
      rw [decide_eq_false (show ¬ ((z.length : Nat) : Int) ≤ 12 by omega)]
      repeat walk_at "w"
      exact k H (Same.refl _)
  · rw [decide_eq_false h1] at k
    rw [decide_eq_false (show ¬ (1 : Int) ≤ ((z.length : Nat) : Int) by omega)]
    repeat walk_at "w"
    exact k H (Same.refl _)
def sp_show_numbers (K : PySem.W.Frag) : Sp := Sp2 fun x y H Q => ∃ (l h : Int), 0 ≤ l ∧ 0 ≤ h ∧ l ≤ 4294967295 ∧ h ≤ 4294967295 ∧ x = .int l ∧ y = .int h ∧ Q (.str (showN l h)) H
def sN_show_numbers : List Str := ["low", "high"]
theorem sc_show_numbers : FnScope sN_show_numbers ["low", "high"] (defScope s_show_numbers) := ⟨rfl, rfl, rfl, by decide +kernel, rfl, by decide +kernel, by decide +kernel⟩

theorem ok_show_numbers (T : Tx K mg) : Fd P w K mg base 1 (He.ga K "show_numbers") ["low", "high"] (sp_show_numbers K) := by
  refine mkFd T.d_show_numbers sc_show_numbers (fun _ _ _ _ _ _ us hl => match us, hl with | [_, _], _ => rfl) (fun vs H Q E h => Sp2.len h) (fun cdv A outer s H vs Q E hr h => ?_)
  obtain ⟨x, y, rfl, l, hh, h0, h1, h2, h3, rfl, rfl, k⟩ := h
  have hl : (Str.ofString (toString l)).length ≤ 10 := numS_len10 h0 h2
  have hl2 : (Str.ofString (toString hh)).length ≤ 10 := numS_len10 h1 h3
  refine ⟨_, (pss_cons (ps_if (pt_cmpR op_eq (pv 0) (pv 1) (nomark _)) (pss_cons (ps_ret (pe_callTy cl_strI (by rfl) T.b_str (by decide +kernel) (pa_cons (pv 0) pa_nil)))
      pss_nil) pss_nil)
      (pss_cons (ps_ret (pe_jn (.cons (pe_fmt (pv 0)) (.cons pe_str (.cons (pe_fmt (pv 1)) .nil)))))
      pss_nil)), ?_⟩
  try dsimp only [cxOf, Cx.nox, Cx.wish]
  repeat walk_at "w"
  unfold showN at k
  by_cases e : l = hh
  · rw [if_pos e] at k
    walk_at "yes"
    repeat walk_at "w"
    exact w_strI (log_small h0 (by omega)) k
  · rw [if_neg e] at k
    walk_at "no"
    repeat walk_at "w"
    refine fmtI (log_small h0 (by omega)) ?_
    refine w_j1 (by rw [empty_app]; omega) ?_
    rw [empty_app]
    repeat walk_at "w"
    refine w_j1 (by rw [len_app, show ("-" : Str).length = 1 from rfl]; omega) ?_
    repeat walk_at "w"
    refine fmtI (log_small h1 (by omega)) ?_
    refine w_j1 (by rw [len_app, len_app, show ("-" : Str).length = 1 from rfl]; omega) ?_
    repeat walk_at "w"
    exact k
def sp_show_addresses (K : PySem.W.Frag) : Sp := Sp2 fun x y H Q => ∃ (l h : Int), AdOk l ∧ AdOk h ∧ x = .int l ∧ y = .int h ∧ ∀ H', Same H H' → Q (.str (showA l h)) H'
def sN_show_addresses : List Str := ["low", "high", "first", "bits", "last"]
theorem sc_show_addresses : FnScope sN_show_addresses ["low", "high"] (defScope s_show_addresses) := ⟨rfl, rfl, rfl, by decide +kernel, rfl, by decide +kernel, by decide +kernel⟩

theorem ok_show_addresses (T : Tx K mg) : Fd P w K mg base 4 (He.ga K "show_addresses") ["low", "high"] (sp_show_addresses K) := by
  have F_show_address := ok_show_address (P := P) (w := w) (base := base) T
  have F_bits_of := ok_bits_of (P := P) (w := w) (base := base) T
  refine mkFd T.d_show_addresses sc_show_addresses (fun _ _ _ _ _ _ us hl => match us, hl with | [_, _], _ => rfl) (fun vs H Q E h => Sp2.len h) (fun cdv A outer s H vs Q E hr h => ?_)
  obtain ⟨x, y, rfl, l, hh, hl, hr2, rfl, rfl, k⟩ := h
  have hs := shared_in hl hr2
  have dl := dotS_len l
  have dh := dotS_len hh
  refine ⟨_, (pss_cons (ps_set (i := 2) sc_show_addresses.nd rfl (.inl rfl) (pe_f F_show_address (hr.mono (by omega)) (by rfl) T.g_show_address (pa_cons (pv 0) pa_nil)))
      (pss_cons (ps_if (pt_cmpR op_eq (pv 0) (pv 1) (nomark _)) (pss_cons (ps_ret (pv 2))
      pss_nil) pss_nil)
      (pss_cons (ps_set (i := 3) sc_show_addresses.nd rfl (.inl rfl) (pe_f F_bits_of (hr.mono (by omega)) (by rfl) T.g_bits_of (pa_cons (pv 0) (pa_cons (pv 1) pa_nil))))
      (pss_cons (ps_if (pt_cmpR op_notN1 (pv 3) pe_non (nomark _)) (pss_cons (ps_ret (pe_jn (.cons (pe_fmt (pv 2)) (.cons pe_str (.cons (pe_fmt (pv 3)) .nil)))))
      pss_nil) pss_nil)
      (pss_cons (ps_set (i := 4) sc_show_addresses.nd rfl (.inl rfl) (pe_f F_show_address (hr.mono (by omega)) (by rfl) T.g_show_address (pa_cons (pv 1) pa_nil)))
      (pss_cons (ps_ret (pe_jn (.cons (pe_fmt (pv 2)) (.cons pe_str (.cons (pe_fmt (pv 4)) .nil)))))
      pss_nil)))))), ?_⟩
  try dsimp only [cxOf, Cx.nox, Cx.wish]
  repeat walk_at "w"
  refine Sp1.mk ⟨l, hl.1, rfl, fun H1 s1 => ?_⟩
  repeat walk_at "w"
  unfold showA at k
  by_cases e : l = hh
  · rw [if_pos e] at k
    walk_at "yes"
    repeat walk_at "w"
    exact k _ s1
  · rw [if_neg e] at k
    walk_at "no"
    repeat walk_at "w"
    refine Sp2.mk ⟨l, hh, hl, hr2, rfl, rfl, fun v H2 s2 hv => ?_⟩
    repeat walk_at "w"
    cases hb : bitsOf l hh with
    | some b =>
      rw [hb] at hv k
      have hb2 : 0 ≤ b ∧ b ≤ 32 := by
        unfold bitsOf at hb
        split at hb
        · cases hb
          exact hs
        · cases hb
      have hn : (Str.ofString (toString b)).length ≤ 10 := numS_len10 hb2.1 (by omega)
      cases hv
      repeat walk_at "w"
      refine w_notN ?_
      rw [show (!decide (V.int b = V.non)) = true by simp]
      repeat walk_at "w"
      refine fmtS (by omega) ?_
      refine w_j1 (by rw [empty_app]; omega) ?_
      rw [empty_app]
      repeat walk_at "w"
      refine w_j1 (by rw [len_app, show ("/" : Str).length = 1 from rfl]; omega) ?_
      repeat walk_at "w"
      refine fmtI (log_small hb2.1 (by omega)) ?_
      refine w_j1 (by rw [len_app, len_app, show ("/" : Str).length = 1 from rfl]; omega) ?_
      repeat walk_at "w"
      exact k _ (by walk_at "same")
    | none =>
      rw [hb] at hv k
      cases hv
      repeat walk_at "w"
      refine Sp1.mk ⟨hh, hr2.1, rfl, fun H3 s3 => ?_⟩
      repeat walk_at "w"
      refine fmtS (by omega) ?_
      refine w_j1 (by rw [empty_app]; omega) ?_
      rw [empty_app]
      repeat walk_at "w"
      refine w_j1 (by rw [len_app, show ("-" : Str).length = 1 from rfl]; omega) ?_
      repeat walk_at "w"
      refine fmtS (by omega) ?_
      refine w_j1 (by rw [len_app, len_app, show ("-" : Str).length = 1 from rfl]; omega) ?_
      repeat walk_at "w"
      exact k _ (by walk_at "same")
end
end
section
open PySem PySem.Spec PyProof.Rows L2 TL
section
variable {P : Program} {w : World} {K : PySem.W.Frag} {mg : Str → Option Value} {base : Heap}
theorem dt_PAIRS (T : Tx K mg) {H : Hp} : Dt K H (.ref (He.ga K "PAIRS")) (.tup (pairN.map D.str)) :=
  .tup (He.tupB_ok T.x_PAIRS H) (DtAll.ofStrs pairN)
theorem rgc2 (k : Nat) (h : k ≤ 100) : RgC 0 ((k * 2 : Nat) : Int) 2 k := by
  have : ∀ k : Fin 101, RgC 0 ((k.1 * 2 : Nat) : Int) 2 k.1 := by
    intro k
    refine ⟨by decide, by decide, ?_, ?_⟩
    · revert k
      decide +kernel
    · revert k
      decide +kernel
  exact this ⟨k, by omega⟩
theorem eqS_comm (a b : Str) : decide (a = b) = decide (b = a) := by
  by_cases h : a = b
  · subst h; rfl
  · rw [decide_eq_false h, decide_eq_false fun z => h z.symm]
theorem enum_pairs : enumD (pairN.map D.str) = (List.range 6).map (fun i => D.tup [.int (i : Nat), .str (nameN i)]) := by rfl
def sp_box_by (K : PySem.W.Frag) : Sp := Sp1 fun x H Q => ∃ (ps : List Nar), ps.length ≤ 6 ∧ (ps.map (·.d)).Nodup ∧ (∀ p ∈ ps, NarOk p) ∧ Dt K H x (.lst ((narWords ps).map D.str)) ∧ ∀ v H', Same H H' → Dt K H' v (eBox (boxOf ps)) → Q v H'
def foundL (ps : List Nar) : List (Str × D) := ps.map fun p => (nameN p.d, eSt p.st)
theorem found_none {ps : List Nar} {d : Nat} (hd : d < 6) (h : ∀ p ∈ ps, p.d < 6) (hn : d ∉ ps.map (·.d)) : lookD (foundL ps) (nameN d) = none := by
  refine lookD_none fun hin => ?_
  unfold foundL at hin
  rw [List.map_map] at hin
  obtain ⟨p, h1, h2⟩ := List.mem_map.mp hin
  have := nameN_inj (h p h1) hd h2
  exact hn (List.mem_map.mpr ⟨p, h1, this⟩)
theorem found_get {ps : List Nar} {d : Nat} (hd : d < 6) (h : ∀ p ∈ ps, p.d < 6) : (lookD (foundL ps) (nameN d)).getD (eSt (0, topN d)) = eSt (narSt ps d) := by
  unfold narSt foundL
  induction ps with
  | nil => rfl
  | cons p ps ih =>
    have ih := ih fun q hq => h q (List.mem_cons_of_mem _ hq)
    have hp := h p (List.mem_cons_self ..)
    unfold lookD at ih ⊢
    rw [List.map_cons, List.map_cons, List.find?_cons, List.find?_cons]
    by_cases e : p.d = d
    · simp [e]
    · have e2 : ¬ nameN p.d = nameN d := fun z => e (nameN_inj hp hd z)
      simp only [e, e2, decide_false]
      exact ih
def sN_box_by : List Str := ["words", "whole", "found", "at", "key"]
theorem sc_box_by : FnScope sN_box_by ["words"] (defScope s_box_by) := ⟨rfl, rfl, rfl, by decide +kernel, rfl, by decide +kernel, by decide +kernel⟩

theorem ok_box_by (T : Tx K mg) : Fd P w K mg base 5 (He.ga K "box_by") ["words"] (sp_box_by K) := by
  have F_every := ok_every (P := P) (w := w) (base := base) T
  have F_addresses_by := ok_addresses_by (P := P) (w := w) (base := base) T
  have F_numbers_by := ok_numbers_by (P := P) (w := w) (base := base) T
  refine mkFd T.d_box_by sc_box_by (fun _ _ _ _ _ _ us hl => match us, hl with | [_], _ => rfl) (fun vs H Q E h => Sp1.len h) (fun cdv A outer s H vs Q E hr h => ?_)
  obtain ⟨x, rfl, ps, hz, hnd, hok, hx, k⟩ := h
  have h6 : ∀ p ∈ ps, p.d < 6 := fun p hp => (hok p hp).d
  refine ⟨_, (pss_cons (ps_set (i := 1) sc_box_by.nd rfl (.inr rfl) (pe_f0 F_every (hr.mono (by omega)) (by rfl) T.g_every))
      (pss_cons (ps_set (i := 2) sc_box_by.nd rfl (.inr rfl) pe_dnewK)
      (pss_cons (ps_if (pt_cmpR op_eq (pe_op op_mod (pe_callB cl_lenQ (by rfl) T.b_len PySem.boot_len (pa_cons (pv 0) pa_nil)) pe_int) pe_int (nomark _)) (pss_cons ps_never
      pss_nil) pss_nil)
      (pss_cons (ps_for PassesOwn.never rfl (pi_range3 (by rfl) T.b_range (pa_cons pe_int (pa_cons (pe_callB cl_lenQ (by rfl) T.b_len PySem.boot_len (pa_cons (pv 0) pa_nil)) (pa_cons pe_int pa_nil)))) (pg_name (i := 3) sc_box_by.nd rfl (.inl rfl)) (pss_cons (ps_set (i := 4) sc_box_by.nd rfl (.inl rfl) (pe_ix ix_list (pv 0) (pv 3) (fun _ _ => rfl)))
      (pss_cons (ps_if (PW.pt (pw_or (pt_cmpR op_notIn_seq (pv 4) (pe_glob (v := .ref _) (by rfl) T.g_PAIRS rfl) (by rfl)) (pw_or1 (pt_cmp (pc_din (hu_of hr) (pv 4) (pv 2)))))) (pss_cons ps_never
      pss_nil) pss_nil)
      (pss_cons (ps_if (PW.pt (pw_or (pt_cmpR op_eq (pv 4) pe_str (nomark _)) (pw_or1 (pt_cmpR op_eq (pv 4) pe_str (nomark _))))) (pss_cons (ps_dput (hu_of hr) (pv 2) (pv 4) (pe_f F_addresses_by (hr.mono (by omega)) (by rfl) T.g_addresses_by (pa_cons (pe_ix ix_list (pv 0) (pe_op op_add (pv 3) pe_int) (fun _ _ => rfl)) pa_nil)) rfl)
      pss_nil) (pss_cons (ps_dput (hu_of hr) (pv 2) (pv 4) (pe_f F_numbers_by (hr.mono (by omega)) (by rfl) T.g_numbers_by (pa_cons (pe_ix ix_list (pv 0) (pe_op op_add (pv 3) pe_int) (fun _ _ => rfl)) (pa_cons (pe_ix ix_tup (pe_ix ix_tup (pv 1) (pe_bm PySem.F.plainAttrs_tuple PySem.F.slot_tuple_index PySem.F.type_tuple_index cm_tx (pe_glob (v := .ref _) (by rfl) T.g_PAIRS rfl) (pa_cons (pv 4) pa_nil)) (fun _ _ => rfl)) pe_int (fun _ _ => rfl)) pa_nil))) rfl)
      pss_nil))
      pss_nil))))
      (pss_cons (ps_ret (pe_callTy cl_tupOf (by rfl) T.b_tuple (by decide +kernel) (pa_cons (pe_fz (pe_lc (own := [("at", 3), ("key", 4)]) rfl sc_box_by.nd (pi_enumT (by rfl) T.b_enumerate (pa_cons (pe_glob (v := .ref _) (by rfl) T.g_PAIRS rfl) pa_nil)) (blkOk_by (own := [("at", 3), ("key", 4)]) (N := sN_box_by) (sc := defScope s_box_by) (by decide +kernel)) (fun _ _ _ _ _ => (show PG _ _ (gTup K 2 _) from pg_tup rfl (pgs_cons (pg_name (i := 3) sc_box_by.nd rfl (.inl rfl)) (pgs_cons (pg_name (i := 4) sc_box_by.nd rfl (.inl rfl)) pgs_nil)))) (fun _ _ _ _ _ => pts_nil) (fun _ _ _ _ _ => (pe_dget2 (hu_of hr) (pv 2) (pv 4) (pe_ix (show IxR _ (rIxT K) from ix_tup) (pv 1) (pv 3) (fun _ _ => rfl)) ⟨rfl, rfl, rfl, rfl⟩)))) pa_nil)))
      pss_nil))))), ?_⟩
  try dsimp only [cxOf, Cx.nox, Cx.wish]
  repeat walk_at "w"
  refine Sp0.mk fun v1 H1 s1 hv1 => ?_
  repeat walk_at "w"
  refine w_dnewK (K := K) fun q H2 nq s2 o2 => ?_
  repeat walk_at "w"
  refine w_lenL (hx.up (by walk_at "ext")) ?_
  repeat walk_at "w"
  have hwl : (((narWords ps).map D.str).length : Nat) = ps.length * 2 := by rw [List.length_map, narWords_len]
  rw [hwl]
  refine w_I (by decide) ?_
  repeat walk_at "w"
  rw [decide_eq_false (show ¬ (((ps.length * 2 : Nat) : Int) % 2 = 1) by omega)]
  repeat walk_at "w"
  refine w_lenL (hx.up (by walk_at "ext")) ?_
  rw [hwl]
  repeat walk_at "w"
  refine i_rng3 (K := K) ps.length (rgc2 _ (by omega)) fun J it => ?_
  have nq0 : H q = none := s1.free nq
  refine f_for it (fun i σ H' => ∃ e3 e4, σ = [some x, some v1, some (.ref q), e3, e4] ∧ Same H1 H' ∧ OdS K H' q (foundL (ps.take i))) ⟨_, _, rfl, s2, o2⟩ (fun _ _ _ _ => trivial) ?_ ?_
  · rintro i d u σ H' H3 e1 ⟨_, _, rfl, s3, o3⟩ s4 hu
    rw [List.getElem?_map, Option.map_eq_some_iff] at e1
    obtain ⟨i2, e1, rfl⟩ := e1
    have hi : i < ps.length := by
      have := (List.getElem?_eq_some_iff.mp e1).1
      simpa using this
    have hi2 : i2 = i := by
      have := (List.getElem?_eq_some_iff.mp e1).2
      simp at this
      exact this.symm
    subst hi2
    cases hu
    have q1 : ps[i2]? = some ps[i2] := by simp [hi]
    generalize ps[i2] = p at q1
    have hp := hok p (List.mem_of_getElem? q1)
    obtain ⟨g1, g2⟩ := narWords_get q1
    have g3 : ((narWords ps).map D.str)[i2 * 2]? = some (.str (nameN p.d)) := by rw [List.getElem?_map, g1]; rfl
    have g4 : ((narWords ps).map D.str)[i2 * 2 + 1]? = some (.str p.val) := by rw [List.getElem?_map, g2]; rfl
    have hnew : lookD (foundL (ps.take i2)) (nameN p.d) = none := by
      refine found_none hp.d (fun r hr => h6 r (List.mem_of_mem_take hr)) fun hin => ?_
      obtain ⟨r, h1, h2⟩ := List.mem_map.mp hin
      obtain ⟨j, hj⟩ := List.getElem?_of_mem h1
      rw [List.getElem?_take] at hj
      split at hj
      · rename_i hlt
        have r1 : (ps.map (·.d))[j]? = some r.d := by rw [List.getElem?_map, hj]; rfl
        have r2 : (ps.map (·.d))[i2]? = some p.d := by rw [List.getElem?_map, q1]; rfl
        rw [h2] at r1
        have := (List.getElem?_inj (List.getElem?_eq_some_iff.mp r1).1 hnd).mp (r1.trans r2.symm)
        omega
      · cases hj
    have htk : foundL (ps.take (i2 + 1)) = foundL (ps.take i2) ++ [(nameN p.d, eSt p.st)] := by
      unfold foundL
      rw [List.take_succ, q1]
      simp
    rw [htk]
    have hlt : (foundL (ps.take i2)).length ≤ 6 := by unfold foundL; rw [List.length_map, List.length_take]; omega
    have o4 := o3.up s4
    have htp := topN_le hp.d
    repeat walk_at "w"
    refine w_ixL (hx.up (by walk_at "ext")) (i := 0 + (i2 : Int) * 2) (d := .str (nameN p.d)) ?_ ?_
    · rw [show (0 + (i2 : Int) * 2) = ((i2 * 2 : Nat) : Int) by omega]
      exact atI_nat g3
    repeat walk_at "w"
    refine in_T (dt_PAIRS T) ?_
    rw [if_pos rfl, decide_eq_true (nameN_mem hp.d)]
    repeat walk_at "w"
    refine dS_in o4.di ?_
    rw [hnew, isS0]
    repeat walk_at "w"
    rw [nameN_from hp.d]
    by_cases h2 : p.d = 2
    · have had : isAd p.d := .inl h2
      rw [decide_eq_true h2]
      repeat walk_at "w"
      refine w_ixL (hx.up (by walk_at "ext")) (i := 0 + (i2 : Int) * 2 + 1) (d := .str p.val) ?_ ?_
      · rw [show (0 + (i2 : Int) * 2 + 1) = ((i2 * 2 + 1 : Nat) : Int) by omega]
        exact atI_nat g4
      repeat walk_at "w"
      refine Sp1.mk ⟨p.val, p.st.1, p.st.2, ⟨hp.le.1, by have := hp.le; omega⟩, ⟨by have := hp.le; omega, by have := hp.le; omega⟩, hp.ad had, rfl, fun v5 H5 s5 hv5 => ?_⟩
      repeat walk_at "w"
      refine dS_put (o4.up s5) hv5 (by omega) fun H6 b6 x6 o6 => ?_
      rw [putD_new hnew] at o6
      repeat walk_at "w"
      exact ⟨_, _, rfl, b6.same (by walk_at "same") nq, o6⟩
    · rw [decide_eq_false h2]
      repeat walk_at "w"
      rw [nameN_to hp.d]
      by_cases h4 : p.d = 4
      · have had : isAd p.d := .inr h4
        rw [decide_eq_true h4]
        repeat walk_at "w"
        refine w_ixL (hx.up (by walk_at "ext")) (i := 0 + (i2 : Int) * 2 + 1) (d := .str p.val) ?_ ?_
        · rw [show (0 + (i2 : Int) * 2 + 1) = ((i2 * 2 + 1 : Nat) : Int) by omega]
          exact atI_nat g4
        repeat walk_at "w"
        refine Sp1.mk ⟨p.val, p.st.1, p.st.2, ⟨hp.le.1, by have := hp.le; omega⟩, ⟨by have := hp.le; omega, by have := hp.le; omega⟩, hp.ad had, rfl, fun v5 H5 s5 hv5 => ?_⟩
        repeat walk_at "w"
        refine dS_put (o4.up s5) hv5 (by omega) fun H6 b6 x6 o6 => ?_
        rw [putD_new hnew] at o6
        repeat walk_at "w"
        exact ⟨_, _, rfl, b6.same (by walk_at "same") nq, o6⟩
      · have had : ¬ isAd p.d := fun z => z.elim h2 h4
        rw [decide_eq_false h4]
        repeat walk_at "w"
        refine w_ixL (hx.up (by walk_at "ext")) (i := 0 + (i2 : Int) * 2 + 1) (d := .str p.val) ?_ ?_
        · rw [show (0 + (i2 : Int) * 2 + 1) = ((i2 * 2 + 1 : Nat) : Int) by omega]
          exact atI_nat g4
        repeat walk_at "w"
        have hev : (every.map eSt)[p.d]? = some (eSt (0, topN p.d)) := by rw [List.getElem?_map, every_get hp.d]; rfl
        refine ⟨T.x_PT, ?_⟩
        repeat walk_at "w"
        refine w_tx (ys := pairN) (j := p.d) (dt_PAIRS T) (pairN_get hp.d) (fun m hm => pairN_first hp.d hm) ?_
        refine w_ixT (hv1.up (by walk_at "ext")) (atI_nat hev) ?_
        repeat walk_at "w"
        refine Sp2.mk ⟨p.st.1, p.st.2, topN p.d, hp.le.1, hp.le.2.1, hp.le.2.2, htp.2, by rw [hp.nu had], rfl, fun v5 H5 s5 hv5 => ?_⟩
        repeat walk_at "w"
        refine dS_put (o4.up s5) hv5 (by omega) fun H6 b6 x6 o6 => ?_
        rw [putD_new hnew] at o6
        repeat walk_at "w"
        exact ⟨_, _, rfl, b6.same (by walk_at "same") nq, o6⟩
  · rintro σ H' ⟨_, _, rfl, s3, o3⟩
    rw [List.length_map, List.length_range, List.take_length] at o3
    repeat walk_at "w"
    refine i_enumT (dt_PAIRS T (H := H')) (Ext.refl _) fun J2 it2 => ?_
    rw [enum_pairs] at it2
    refine f_lc it2 (fun i => some (eSt (narSt ps i))) (by simp) (fun H' s => s.ext) (fun i d u H' Y N e s4 hu hY hN => ?_) fun p2 H4 xs np2 s4 hp4 r4 => ?_
    · have hd6 : d < 6 := by
        have := List.mem_of_getElem? e
        simpa using this
      repeat walk_at "w"
      refine ⟨rfl, ?_⟩
      repeat walk_at "w"
      refine ⟨q, rfl, (o3.up s4).isD, ?_⟩
      have hev : (every.map eSt)[d]? = some (eSt (0, topN d)) := by rw [List.getElem?_map, every_get hd6]; rfl
      repeat walk_at "w"
      refine dS_get2 (o3.up s4) hu_ fun u5 hu5 => ?_
      rw [found_get hd6 h6] at hu5
      exact hY _ _ _ rfl (Same.refl _) hu5
    · refine lcF np2 s4 hp4 r4 fun u6 H6 s6 hu6 => ?_
      repeat walk_at "w"
      refine w_tupOf hu6 fun u7 H7 s7 hu7 => ?_
      repeat walk_at "w"
      refine k _ _ (by walk_at "same") ?_
      rw [show (List.range 6).filterMap (fun i => some (eSt (narSt ps i))) = (boxOf ps).map eSt by unfold boxOf; rw [List.map_map]; simp [Function.comp_def]] at hu7
      exact hu7
theorem isName_len {n : Str} (h : isName n = true) : n.length ≤ 12 := by
  unfold isName at h
  simp only [Bool.and_eq_true, decide_eq_true_eq] at h
  exact h.1.2
def sp_rule_by (K : PySem.W.Frag) : Sp := Sp1 fun x H Q => ∃ (ws : List Str) (r : Rule), RuleText ws r ∧ Dt K H x (.lst (ws.map D.str)) ∧ ∀ v H', Same H H' → Dt K H' v (eRule r) → Q v H'
def sN_rule_by : List Str := ["words"]
theorem sc_rule_by : FnScope sN_rule_by ["words"] (defScope s_rule_by) := ⟨rfl, rfl, rfl, by decide +kernel, rfl, by decide +kernel, by decide +kernel⟩

theorem ok_rule_by (T : Tx K mg) : Fd P w K mg base 6 (He.ga K "rule_by") ["words"] (sp_rule_by K) := by
  have F_is_name := ok_is_name (P := P) (w := w) (base := base) T
  have F_box_by := ok_box_by (P := P) (w := w) (base := base) T
  refine mkFd T.d_rule_by sc_rule_by (fun _ _ _ _ _ _ us hl => match us, hl with | [_], _ => rfl) (fun vs H Q E h => Sp1.len h) (fun cdv A outer s H vs Q E hr h => ?_)
  obtain ⟨x, rfl, ws, r, ⟨⟨ps, rfl, hbox, hnd, hok, hz⟩, hhead⟩, hx, k⟩ := h
  refine ⟨_, (pss_cons (ps_if (pt_cmpR (op_eqG hr.units) (pv 0) (pe_fz (pe_lst pa_nil)) (nomark _)) (pss_cons ps_never
      pss_nil) pss_nil)
      (pss_cons (ps_if (pt_cmpR op_eq (pe_ix ix_list (pv 0) pe_int (fun _ _ => rfl)) pe_str (nomark _)) (pss_cons (ps_if (PW.pt (pw_or (pt_cmpR op_eq (pe_callB cl_lenQ (by rfl) T.b_len PySem.boot_len (pa_cons (pv 0) pa_nil)) pe_int (nomark _)) (pw_or1 (pt_not (pt_val (pe_f F_is_name (hr.mono (by omega)) (by rfl) T.g_is_name (pa_cons (pe_ix ix_list (pv 0) pe_int (fun _ _ => rfl)) pa_nil))))))) (pss_cons ps_never
      pss_nil) pss_nil)
      (pss_cons (ps_ret (pe_tup (pa_cons pe_str (pa_cons (pe_f F_box_by (hr.mono (by omega)) (by rfl) T.g_box_by (pa_cons (pe_fz (pe_slice sl_list (pv 0) (po_some pe_int) po_none)) pa_nil)) (pa_cons (pe_ix ix_list (pv 0) pe_int (fun _ _ => rfl)) pa_nil)))))
      pss_nil)) pss_nil)
      (pss_cons (ps_if (pt_cmpR op_notIn_seq (pe_ix ix_list (pv 0) pe_int (fun _ _ => rfl)) (pe_tup (pa_cons pe_str (pa_cons pe_str (pa_cons pe_str pa_nil)))) (by rfl)) (pss_cons ps_never
      pss_nil) pss_nil)
      (pss_cons (ps_ret (pe_tup (pa_cons (pe_ix ix_list (pv 0) pe_int (fun _ _ => rfl)) (pa_cons (pe_f F_box_by (hr.mono (by omega)) (by rfl) T.g_box_by (pa_cons (pe_fz (pe_slice sl_list (pv 0) (po_some pe_int) po_none)) pa_nil)) pa_nil))))
      pss_nil)))), ?_⟩
  try dsimp only [cxOf, Cx.nox, Cx.wish]
  repeat walk_at "w"
  walk_at "newF"
  intro u0 H0 s0 hu0
  refine w_eqG (α := List Str) (a := headW r ++ narWords ps) (b := []) (hx.up s0.ext) hu0 (by decide) ?_
  rw [decide_eq_false (by cases r <;> simp [headW])]
  repeat walk_at "w"
  cases r with
  | word b wd =>
    have hb : b = boxOf ps := hbox
    subst hb
    have hx : Dt K H x (.lst (.str wd :: (narWords ps).map D.str)) := hx
    have hwd : wd ≠ "call" := by
      rcases hhead with rfl | rfl <;> decide
    repeat walk_at "w"
    rw [decide_eq_false hwd]
    repeat walk_at "w"
    walk_at "newT"
    intro u1 H1 s1 hu1
    refine in_T (ss := ["pass", "stop", "back"]) hu1 ?_
    rw [if_pos rfl, decide_eq_true (show wd ∈ (["pass", "stop", "back"] : List Str) by rcases hhead with rfl | rfl <;> simp)]
    repeat walk_at "w"
    refine sl_F (H := H1) (ds := .str wd :: (narWords ps).map D.str) (hx.up (by walk_at "ext")) fun u2 H2 s2 hu2 => ?_
    rw [show (1 : Int) = ((1 : Nat) : Int) from rfl, cutL_from] at hu2
    repeat walk_at "w"
    refine Sp1.mk ⟨ps, hz, hnd, hok, hu2, fun v H3 s3 hv => ?_⟩
    repeat walk_at "w"
    walk_at "newT"
    intro u4 H4 s4 hu4
    exact k _ _ (by walk_at "same") hu4
  | back b =>
    have hb : b = boxOf ps := hbox
    subst hb
    have hx : Dt K H x (.lst (.str "back" :: (narWords ps).map D.str)) := hx
    repeat walk_at "w"
    rw [show decide (("back" : Str) = "call") = false by decide]
    repeat walk_at "w"
    walk_at "newT"
    intro u1 H1 s1 hu1
    refine in_T (ss := ["pass", "stop", "back"]) hu1 ?_
    rw [if_pos rfl, decide_eq_true (show ("back" : Str) ∈ (["pass", "stop", "back"] : List Str) by simp)]
    repeat walk_at "w"
    refine sl_F (H := H1) (ds := .str "back" :: (narWords ps).map D.str) (hx.up (by walk_at "ext")) fun u2 H2 s2 hu2 => ?_
    rw [show (1 : Int) = ((1 : Nat) : Int) from rfl, cutL_from] at hu2
    repeat walk_at "w"
    refine Sp1.mk ⟨ps, hz, hnd, hok, hu2, fun v H3 s3 hv => ?_⟩
    repeat walk_at "w"
    walk_at "newT"
    intro u4 H4 s4 hu4
    exact k _ _ (by walk_at "same") hu4
  | call b n =>
    have hb : b = boxOf ps := hbox
    subst hb
    have hx : Dt K H x (.lst (.str "call" :: .str n :: (narWords ps).map D.str)) := hx
    have hnl := isName_len hhead
    repeat walk_at "w"
    rw [show decide (("call" : Str) = "call") = true by decide]
    repeat walk_at "w"
    refine w_lenL (hx.up s0.ext) ?_
    repeat walk_at "w"
    rw [decide_eq_false (by simp only [List.length_cons]; omega)]
    repeat walk_at "w"
    refine Sp1.mk ⟨n, by omega, rfl, fun H1 s1 => ?_⟩
    rw [show isName n = true from hhead]
    repeat walk_at "w"
    refine sl_F (H := H1) (ds := .str "call" :: .str n :: (narWords ps).map D.str) (hx.up (by walk_at "ext")) fun u2 H2 s2 hu2 => ?_
    rw [show (2 : Int) = ((2 : Nat) : Int) from rfl, cutL_from] at hu2
    repeat walk_at "w"
    refine Sp1.mk ⟨ps, hz, hnd, hok, hu2, fun v H3 s3 hv => ?_⟩
    repeat walk_at "w"
    walk_at "newT"
    intro u4 H4 s4 hu4
    exact k _ _ (by walk_at "same") hu4
def sp_rule_at (K : PySem.W.Frag) : Sp := Sp2 fun x y H Q => ∃ (ws : List Str) (r : Rule), RuleText ws r ∧ Dt K H x (.lst (ws.map D.str)) ∧ ∀ v H', Same H H' → Dt K H' v (eRule r) → Q v H'
def sN_rule_at : List Str := ["words", "number"]
theorem sc_rule_at : FnScope sN_rule_at ["words", "number"] (defScope s_rule_at) := ⟨rfl, rfl, rfl, by decide +kernel, rfl, by decide +kernel, by decide +kernel⟩

theorem ok_rule_at (T : Tx K mg) : Fd P w K mg base 7 (He.ga K "rule_at") ["words", "number"] (sp_rule_at K) := by
  have F_rule_by := ok_rule_by (P := P) (w := w) (base := base) T
  refine mkFd T.d_rule_at sc_rule_at (fun _ _ _ _ _ _ us hl => match us, hl with | [_, _], _ => rfl) (fun vs H Q E h => Sp2.len h) (fun cdv A outer s H vs Q E hr h => ?_)
  obtain ⟨x, y, rfl, ws, r, ht, hx, k⟩ := h
  refine ⟨_, (pss_cons (ps_try_thru0 (pss_cons (ps_ret (pe_f F_rule_by (hr.mono (by omega)) (by rfl) T.g_rule_by (pa_cons (pv 0) pa_nil)))
      pss_nil))
      pss_nil), ?_⟩
  try dsimp only [cxOf, Cx.nox, Cx.wish]
  repeat walk_at "w"
  exact Sp1.mk ⟨ws, r, ht, hx, k⟩
def sp_default_by (K : PySem.W.Frag) : Sp := Sp2 fun x y H Q => ∃ (d : Str), (d = "pass" ∨ d = "stop") ∧ Dt K H x (.lst [.str "default", .str d]) ∧ ∀ H', Same H H' → Q (.str d) H'
def sN_default_by : List Str := ["words", "number"]
theorem sc_default_by : FnScope sN_default_by ["words", "number"] (defScope s_default_by) := ⟨rfl, rfl, rfl, by decide +kernel, rfl, by decide +kernel, by decide +kernel⟩

theorem ok_default_by (T : Tx K mg) : Fd P w K mg base 1 (He.ga K "default_by") ["words", "number"] (sp_default_by K) := by
  refine mkFd T.d_default_by sc_default_by (fun _ _ _ _ _ _ us hl => match us, hl with | [_, _], _ => rfl) (fun vs H Q E h => Sp2.len h) (fun cdv A outer s H vs Q E hr h => ?_)
  obtain ⟨x, y, rfl, d, hd, hx, k⟩ := h
  refine ⟨_, (pss_cons (ps_if (PW.pt (pw_or (pt_cmpR op_ne (pe_callB cl_lenQ (by rfl) T.b_len PySem.boot_len (pa_cons (pv 0) pa_nil)) pe_int (nomark _)) (pw_or (pt_cmpR op_ne (pe_ix ix_list (pv 0) pe_int (fun _ _ => rfl)) pe_str (nomark _)) (pw_or1 (pt_cmpR op_notIn_seq (pe_ix ix_list (pv 0) pe_int (fun _ _ => rfl)) (pe_tup (pa_cons pe_str (pa_cons pe_str pa_nil))) (by rfl)))))) (pss_cons ps_never
      pss_nil) pss_nil)
      (pss_cons (ps_ret (pe_ix ix_list (pv 0) pe_int (fun _ _ => rfl)))
      pss_nil)), ?_⟩
  try dsimp only [cxOf, Cx.nox, Cx.wish]
  repeat walk_at "w"
  refine w_lenL hx ?_
  repeat walk_at "w"
  rw [decide_eq_true (show ((([D.str "default", D.str d] : List D).length : Nat) : Int) = 2 from rfl)]
  repeat walk_at "w"
  rw [show decide (("default" : Str) = "default") = true by decide]
  repeat walk_at "w"
  walk_at "newT"
  intro u1 H1 s1 hu1
  refine in_T (ss := ["pass", "stop"]) hu1 ?_
  rw [if_pos rfl, decide_eq_true (show d ∈ (["pass", "stop"] : List Str) by rcases hd with rfl | rfl <;> simp)]
  repeat walk_at "w"
  exact k _ s1
def sp_name_by (K : PySem.W.Frag) : Sp := Sp2 fun x y H Q => ∃ (n : Str), isName n = true ∧ Dt K H x (.lst [.str "chain", .str n]) ∧ ∀ H', Same H H' → Q (.str n) H'
def sN_name_by : List Str := ["words", "number"]
theorem sc_name_by : FnScope sN_name_by ["words", "number"] (defScope s_name_by) := ⟨rfl, rfl, rfl, by decide +kernel, rfl, by decide +kernel, by decide +kernel⟩

theorem ok_name_by (T : Tx K mg) : Fd P w K mg base 2 (He.ga K "name_by") ["words", "number"] (sp_name_by K) := by
  have F_is_name := ok_is_name (P := P) (w := w) (base := base) T
  refine mkFd T.d_name_by sc_name_by (fun _ _ _ _ _ _ us hl => match us, hl with | [_, _], _ => rfl) (fun vs H Q E h => Sp2.len h) (fun cdv A outer s H vs Q E hr h => ?_)
  obtain ⟨x, y, rfl, n, hn, hx, k⟩ := h
  have hnl := isName_len hn
  refine ⟨_, (pss_cons (ps_if (PW.pt (pw_or (pt_cmpR op_ne (pe_callB cl_lenQ (by rfl) T.b_len PySem.boot_len (pa_cons (pv 0) pa_nil)) pe_int (nomark _)) (pw_or1 (pt_not (pt_val (pe_f F_is_name (hr.mono (by omega)) (by rfl) T.g_is_name (pa_cons (pe_ix ix_list (pv 0) pe_int (fun _ _ => rfl)) pa_nil))))))) (pss_cons ps_never
      pss_nil) pss_nil)
      (pss_cons (ps_ret (pe_ix ix_list (pv 0) pe_int (fun _ _ => rfl)))
      pss_nil)), ?_⟩
  try dsimp only [cxOf, Cx.nox, Cx.wish]
  repeat walk_at "w"
  refine w_lenL hx ?_
  repeat walk_at "w"
  rw [decide_eq_true (show ((([D.str "chain", D.str n] : List D).length : Nat) : Int) = 2 from rfl)]
  repeat walk_at "w"
  refine Sp1.mk ⟨n, by omega, rfl, fun H1 s1 => ?_⟩
  rw [hn]
  repeat walk_at "w"
  exact k _ s1
end
end
section
open PySem PySem.Spec PyProof.Rows L2 TL
structure LineOk (z : Str) : Prop where
  len : z.length ≤ 1000000
  no : 35 ∉ tl z
  cut : (Txt.split z " ").length ≤ 1000000
structure BookText (text : Str) (d : Str) (items : List Item) : Prop where
  ex : ∃ (l0 : Str) (ls : List Str), Txt.split text "\n" = l0 :: ls ∧ LineOk l0 ∧ wordsS l0 = [("default" : Str), d] ∧ ls.length = items.length ∧ ∀ (i : Nat) (l : Str) (it : Item), ls[i]? = some l → items[i]? = some it → LineOk l ∧ ItemText (wordsS l) it
  d : d = "pass" ∨ d = "stop"
  len : text.length ≤ 1000000
  few : items.length ≤ 1000
theorem add_rule {done : Chs} {n : Str} {rs : List Rule} {r : Rule} : addItem (done ++ [(n, rs)]) (.rule r) = done ++ [(n, rs ++ [r])] := by
  simp [addItem]
theorem at_last {α : Type} {vs : List α} {x : α} : L2.atI (vs ++ [x]) (-1) = some x := by
  unfold L2.atI ixN
  rw [if_neg (by decide), if_pos (by rw [List.length_append, List.length_singleton]; omega)]
  rw [List.length_append, List.length_singleton]
  have e : (-1 + ((vs.length + 1 : Nat) : Int)).toNat = vs.length := by omega
  simp only [Option.bind_some]
  rw [e]
  simp
section
variable {P : Program} {w : World} {K : PySem.W.Frag} {mg : Str → Option Value} {base : Heap}
/-- the chains as they grow: the last one is open -/
structure Grow (K : PySem.W.Frag) (H : Hp) (p q : Addr) (chs : Chs) (k : Nat) : Prop where
  ex : ∃ vs t done n rs, H p = some (.lst (vs ++ [.ref t])) ∧ DtAll K H vs (done.map eChT) ∧ H t = some (.tup [.str n, .ref q]) ∧ Ow K H q (rs.map eRule) ∧ chs = done ++ [(n, rs)] ∧ done.length ≤ k ∧ rs.length ≤ k
theorem Grow.up {H H' : Hp} {p q : Addr} {chs : Chs} {k : Nat} (s : Same H H') (h : Grow K H p q chs k) : Grow K H' p q chs k := by
  obtain ⟨vs, t, done, n, rs, h1, h2, h3, h4, h5⟩ := h.ex
  exact ⟨vs, t, done, n, rs, s _ _ h1, h2.up s.ext, s _ _ h3, h4.up s, h5⟩
def sp_read_book (K : PySem.W.Frag) : Sp := Sp1 fun x H Q => ∃ (text d : Str) (items : List Item), BookText text d items ∧ BkOk (itemsC items) ∧ x = .str text ∧ ∀ v H', Same H H' → Dt K H' v (.bok ⟨d, itemsC items, (lenC 2 (itemsC items) "main" : Nat)⟩) → Q v H'
def sN_read_book : List Str := ["text", "default", "chains", "at", "row", "words"]
theorem sc_read_book : FnScope sN_read_book ["text"] (defScope s_read_book) := ⟨rfl, rfl, rfl, by decide +kernel, rfl, by decide +kernel, by decide +kernel⟩

theorem ok_read_book (T : Tx K mg) : Fd P w K mg base 8 (He.ga K "read_book") ["text"] (sp_read_book K) := by
  have F_words_of := ok_words_of (P := P) (w := w) (base := base) T
  have F_default_by := ok_default_by (P := P) (w := w) (base := base) T
  have F_name_by := ok_name_by (P := P) (w := w) (base := base) T
  have F_rule_at := ok_rule_at (P := P) (w := w) (base := base) T
  have F_Book_init := ok_Book_init (P := P) (w := w) (base := base) T
  refine mkFd T.d_read_book sc_read_book (fun _ _ _ _ _ _ us hl => match us, hl with | [_], _ => rfl) (fun vs H Q E h => Sp1.len h) (fun cdv A outer s H vs Q E hr h => ?_)
  obtain ⟨x, rfl, text, d, items, ht, hbk, rfl, k⟩ := h
  obtain ⟨l0, ls, hsp, hl0, hw0, hll, hls⟩ := ht.ex
  have hd := ht.d
  have hlen := ht.len
  have hfew := ht.few
  refine ⟨_, (pss_cons (ps_set (i := 1) sc_read_book.nd rfl (.inl rfl) pe_non)
      (pss_cons (ps_set (i := 2) sc_read_book.nd rfl (.inl rfl) (pe_lst (pa_cons (pe_tup (pa_cons pe_str (pa_cons (pe_lst pa_nil) pa_nil))) pa_nil)))
      (pss_cons (ps_for PassesOwn.never rfl (pi_enum (by rfl) T.b_enumerate (pa_cons (pe_fz (pe_splitR (pv 0) pe_str)) pa_nil)) (pg_tup rfl (pgs_cons (pg_name (i := 3) sc_read_book.nd rfl (.inl rfl)) (pgs_cons (pg_name (i := 4) sc_read_book.nd rfl (.inl rfl)) pgs_nil))) (pss_cons (ps_set (i := 5) sc_read_book.nd rfl (.inl rfl) (pe_f F_words_of (hr.mono (by omega)) (by rfl) T.g_words_of (pa_cons (pv 4) pa_nil)))
      (pss_cons (ps_if (pt_cmpR (op_eqG hr.units) (pv 5) (pe_fz (pe_lst pa_nil)) (nomark _)) (pss_cons ps_continue
      pss_nil) pss_nil)
      (pss_cons (ps_if (pt_cmpR op_isN1 (pv 1) pe_non (nomark _)) (pss_cons (ps_set (i := 1) sc_read_book.nd rfl (.inl rfl) (pe_f F_default_by (hr.mono (by omega)) (by rfl) T.g_default_by (pa_cons (pv 5) (pa_cons (pe_op op_add (pv 3) pe_int) pa_nil))))
      pss_nil) (pss_cons (ps_if (pt_cmpR op_eq (pe_ix ix_list (pv 5) pe_int (fun _ _ => rfl)) pe_str (nomark _)) (pss_cons (ps_pre (ps_expr (pe_bm PySem.F.plainAttrs_list PySem.F.slot_list_append PySem.F.type_list_append mt_append (pv 2) (pa_cons (pe_tup (pa_cons (pe_f F_name_by (hr.mono (by omega)) (by rfl) T.g_name_by (pa_cons (pv 5) (pa_cons (pe_op op_add (pv 3) pe_int) pa_nil))) (pa_cons (pe_lst pa_nil) pa_nil))) pa_nil))))
      pss_nil) (pss_cons (ps_expr (pe_bm PySem.F.plainAttrs_list PySem.F.slot_list_append PySem.F.type_list_append mt_append (pe_ix ix_tup (pe_ix ix_list (pv 2) (pe_un un_neg pe_int) (fun _ _ => rfl)) pe_int (fun _ _ => rfl)) (pa_cons (pe_f F_rule_at (hr.mono (by omega)) (by rfl) T.g_rule_at (pa_cons (pv 5) (pa_cons (pe_op op_add (pv 3) pe_int) pa_nil))) pa_nil)))
      pss_nil))
      pss_nil))
      pss_nil))))
      (pss_cons (ps_if (pt_cmpR op_isN1 (pv 1) pe_non (nomark _)) (pss_cons ps_never
      pss_nil) pss_nil)
      (pss_cons (ps_pre (ps_ret (pe_k T.mk_Book F_Book_init (hr.mono (by omega)) (by rfl) T.g_Book (pa_cons (pv 1) (pa_cons (pe_fz (pv 2)) pa_nil)))))
      pss_nil))))), ?_⟩
  try dsimp only [cxOf, Cx.nox, Cx.wish]
  repeat walk_at "w"
  refine ⟨szN (by simp), fun q nq => ?_⟩
  generalize hH1 : upd H q (.lst []) = H1
  have s1 : Same H H1 := by rw [← hH1]; exact Same.new nq
  have hq1 : H1 q = some (.lst []) := by rw [← hH1]; exact upd_same
  repeat walk_at "w"
  refine ⟨szN (by simp), fun t nt => ?_⟩
  generalize hH2 : upd H1 t (.tup [.str "main", .ref q]) = H2
  have s2 : Same H1 H2 := by rw [← hH2]; exact Same.new nt
  have ht2 : H2 t = some (.tup [.str "main", .ref q]) := by rw [← hH2]; exact upd_same
  repeat walk_at "w"
  refine w_newM (szN (by simp)) fun p H3 np s3 hp3 => ?_
  have np0 : H p = none := Same.free (by walk_at "same") np
  have npq : p ≠ q := fun e => by
    rw [e, s2 _ _ hq1] at np
    cases np
  have g3 : Grow K H3 p q [(("main" : Str), [])] 0 := ⟨[], t, [], "main", [], hp3, .nil, s3 _ _ ht2, ⟨[], (s3 _ _ (s2 _ _ hq1)), .nil⟩, rfl, Nat.le_refl _, Nat.le_refl _⟩
  repeat walk_at "w"
  refine s_split (K := K) rfl (by omega) fun u H4 s4 hu => ?_
  rw [hsp] at hu
  repeat walk_at "w"
  refine i_enum hu (Ext.refl _) fun J it => ?_
  refine f_for it (fun i σ H' => ∃ dv q' e3 e4 e5, σ = [some (.str text), some dv, some (.ref p), e3, e4, e5] ∧ Same H H' ∧ Ext H4 H' ∧ H q' = none ∧ p ≠ q' ∧ Grow K H' p q' ((items.take (i - 1)).foldl addItem [(("main" : Str), [])]) i ∧ (i = 0 → dv = .non) ∧ (i ≠ 0 → dv = .str d)) ⟨.non, q, _, _, _, rfl, (by walk_at "same"), Ext.refl _, nq, npq, g3.up s4, fun _ => rfl, fun h => (h rfl).elim⟩ (fun i σ H' ⟨_, _, _, _, _, _, _, x, _⟩ => x) ?_ ?_
  · rintro i dd u2 σ H' H5 e1 ⟨dv, q', _, _, _, rfl, s5, x5, nq', npq', g5, hi0, hi1⟩ s6 hu2
    obtain ⟨dd, e0, rfl⟩ := enumD_get e1
    rw [List.getElem?_map, Option.map_eq_some_iff] at e0
    obtain ⟨l, e0, rfl⟩ := e0
    have g6 := g5.up s6
    repeat walk_at "w"
    cases i with
    | zero =>
      simp at e0
      subst e0
      rw [hi0 rfl]
      refine Sp1.mk ⟨l0, hl0.len, hl0.no, rfl, hl0.cut, fun v H6 s7 hv => ?_⟩
      rw [hw0] at hv
      repeat walk_at "w"
      walk_at "newF"
      intro u3 H7 s8 hu3
      refine w_eqG (α := List Str) (a := [("default" : Str), d]) (b := []) (hv.up s8.ext) hu3 (by decide) ?_
      rw [decide_eq_false (by simp)]
      repeat walk_at "w"
      refine Sp2.mk ⟨d, hd, hv.up s8.ext, fun H8 s9 => ?_⟩
      repeat walk_at "w"
      obtain ⟨vs, t', done, n, rs, h1, h2, h3, h4, h5, h6, h7⟩ := (g6.up (H' := H8) (by walk_at "same")).ex
      exact ⟨.str d, q', _, _, _, rfl, (by walk_at "same"), (by walk_at "ext"), nq', npq', ⟨vs, t', done, n, rs, h1, h2, h3, h4, h5, by omega, by omega⟩, fun h => (by cases h), fun _ => rfl⟩
    | succ i =>
      have e0 : ls[i]? = some l := by simpa using e0
      have hit : ∃ it, items[i]? = some it := by
        have := (List.getElem?_eq_some_iff.mp e0).1
        exact ⟨items[i]'(by omega), by simp⟩
      obtain ⟨it, e2⟩ := hit
      obtain ⟨hlo, hiw⟩ := hls i l it e0 e2
      have hile := (List.getElem?_eq_some_iff.mp e2).1
      rw [hi1 (by omega)]
      rw [show i + 1 - 1 = i from rfl] at g6
      have htk : (items.take (i + 1 + 1 - 1)).foldl addItem [(("main" : Str), [])] = addItem ((items.take i).foldl addItem [(("main" : Str), [])]) it := by
        rw [show i + 1 + 1 - 1 = i + 1 from rfl, List.take_succ, e2, List.foldl_append]
        rfl
      rw [htk]
      generalize (items.take i).foldl addItem [(("main" : Str), [])] = chs at *
      refine Sp1.mk ⟨l, hlo.len, hlo.no, rfl, hlo.cut, fun v H6 s7 hv => ?_⟩
      repeat walk_at "w"
      walk_at "newF"
      intro u3 H7 s8 hu3
      have g7 := g6.up (H' := H7) (by walk_at "same")
      have hv7 := hv.up s8.ext
      have hne : wordsS l ≠ [] := by
        cases it with
        | chain n => rw [hiw.1]; simp
        | rule r =>
          obtain ⟨⟨ps, e, _⟩, _⟩ := hiw
          rw [e]
          cases r <;> simp [headW]
      refine w_eqG (α := List Str) (a := wordsS l) (b := []) hv7 hu3 (by decide) ?_
      rw [decide_eq_false hne]
      repeat walk_at "w"
      obtain ⟨vs, t', done, n, rs, h1, h2, h3, h4, h5, h6, h7⟩ := g7.ex
      subst h5
      cases it with
      | chain m =>
        rw [hiw.1] at hv7
        have hv7 : Dt K H7 v (.lst [.str "chain", .str m]) := hv7
        repeat walk_at "w"
        rw [show decide (("chain" : Str) = "chain") = true by decide]
        repeat walk_at "w"
        obtain ⟨xs, hxs, hxr⟩ := h4.ex
        refine ⟨q', _, hxs, trivial, fun od => ?_⟩
        have xq : Ext H7 (upd H7 q' (.frz od (.lst xs))) := Ext.mut hxs rfl
        have bq := But.upd q' H7 (.frz od (.lst xs))
        have hq8 : (upd H7 q' (.frz od (.lst xs))) q' = some (.frz od (.lst xs)) := upd_same
        generalize upd H7 q' (.frz od (.lst xs)) = H8 at *
        have s8' : Same H H8 := bq.same (by walk_at "same") nq'
        have hp8 := bq _ _ npq' h1
        have ht8 := xq _ _ h3 rfl
        have hdt : Dt K H8 (.ref t') (eChT (n, rs)) := .tup (SqT.of ht8) (.cons (.str _) (.cons (.lst od hq8 (hxr.up xq)) .nil))
        repeat walk_at "w"
        refine w_tyL (K := K) hp8 ?_
        repeat walk_at "w"
        refine Sp2.mk ⟨m, hiw.2, hv7.up xq, fun H9 s9 => ?_⟩
        repeat walk_at "w"
        refine ⟨szN (by simp), fun q2 nq2 => ?_⟩
        generalize hH10 : upd H9 q2 (.lst []) = H10
        have s10 : Same H9 H10 := by rw [← hH10]; exact Same.new nq2
        have hq10 : H10 q2 = some (.lst []) := by rw [← hH10]; exact upd_same
        repeat walk_at "w"
        refine ⟨szN (by simp), fun t2 nt2 => ?_⟩
        generalize hH11 : upd H10 t2 (.tup [.str m, .ref q2]) = H11
        have s11 : Same H10 H11 := by rw [← hH11]; exact Same.new nt2
        have ht11 : H11 t2 = some (.tup [.str m, .ref q2]) := by rw [← hH11]; exact upd_same
        have npq2 : p ≠ q2 := ne_of_none (s9 _ _ hp8) nq2
        have nq20 : H q2 = none := Same.free (by walk_at "same") nq2
        have hp11 := s11 _ _ (s10 _ _ (s9 _ _ hp8))
        repeat walk_at "w"
        refine w_append hp11 (szlN (by rw [List.length_append, h2.length, List.length_map, List.length_singleton]; omega)) fun H12 b12 x12 hp12 => ?_
        repeat walk_at "w"
        have s12 : Same H H12 := b12.same (by walk_at "same") np0
        refine ⟨.str d, q2, _, _, _, rfl, s12, (by walk_at "ext"), nq20, npq2, ⟨vs ++ [.ref t'], t2, done ++ [(n, rs)], m, [], by simpa using hp12, ?_, x12 _ _ ht11 rfl, ?_, rfl, by simp; omega, Nat.zero_le _⟩, fun h => (by cases h), fun _ => rfl⟩
        · rw [List.map_append]
          exact ((h2.up xq).snoc hdt).up (by walk_at "ext")
        · exact ⟨[], b12 _ _ (Ne.symm npq2) (s11 _ _ hq10), .nil⟩
      | rule r =>
        have hchain : ∃ a tl', (wordsS l).map D.str = .str a :: tl' ∧ a ≠ "chain" := by
          obtain ⟨⟨ps, e, _⟩, hh⟩ := hiw
          rw [e]
          cases r with
          | word b wd => exact ⟨wd, _, rfl, by rcases hh with rfl | rfl <;> decide⟩
          | back b => exact ⟨"back", _, rfl, by decide⟩
          | call b n => exact ⟨"call", _, rfl, by decide⟩
        obtain ⟨a, tl', ha, hac⟩ := hchain
        have hv8 : Dt K H7 v (.lst (.str a :: tl')) := by rw [← ha]; exact hv7
        repeat walk_at "w"
        rw [decide_eq_false hac]
        repeat walk_at "w"
        refine ⟨p, _, -1, _, rfl, rfl, SqL.of h1, at_last, ?_⟩
        repeat walk_at "w"
        refine ⟨t', [.str n, .ref q'], 1, .ref q', rfl, rfl, SqT.of h3, rfl, ?_⟩
        refine w_tyO h4 ?_
        repeat walk_at "w"
        refine Sp2.mk ⟨wordsS l, r, hiw, hv7, fun v2 H8 s9 hv2 => ?_⟩
        repeat walk_at "w"
        refine w_appO (h4.up s9) hv2 (by rw [List.length_map]; omega) fun H9 b9 x9 o9 => ?_
        repeat walk_at "w"
        have s10 : Same H H9 := b9.same (by walk_at "same") nq'
        refine ⟨.str d, q', _, _, _, rfl, s10, (by walk_at "ext"), nq', npq', ⟨vs, t', done, n, rs ++ [r], b9 _ _ npq' (s9 _ _ h1), h2.up (by walk_at "ext"), x9 _ _ (s9 _ _ h3) rfl, by simpa using o9, add_rule, by omega, by simp; omega⟩, fun h => (by cases h), fun _ => rfl⟩
  · rintro σ H' ⟨dv, q', _, _, _, rfl, s5, x5, nq', npq', g5, hi0, hi1⟩
    rw [enumD_len, List.length_map] at g5 hi1
    rw [hi1 (by simp)]
    rw [List.length_cons, Nat.add_sub_cancel, hll, List.take_length] at g5
    have g5 : Grow K H' p q' (itemsC items) (items.length + 1) := g5
    repeat walk_at "w"
    obtain ⟨vs, t', done, n, rs, h1, h2, h3, h4, h5, h6, h7⟩ := g5.ex
    obtain ⟨xs, hxs, hxr⟩ := h4.ex
    refine ⟨q', _, hxs, trivial, fun od => ?_⟩
    have xq : Ext H' (upd H' q' (.frz od (.lst xs))) := Ext.mut hxs rfl
    have bq := But.upd q' H' (.frz od (.lst xs))
    have hq8 : (upd H' q' (.frz od (.lst xs))) q' = some (.frz od (.lst xs)) := upd_same
    generalize upd H' q' (.frz od (.lst xs)) = H8 at *
    have s8 : Same H H8 := bq.same s5 nq'
    have hp8 := bq _ _ npq' h1
    have ht8 := xq _ _ h3 rfl
    have hdt : Dt K H8 (.ref t') (eChT (n, rs)) := .tup (SqT.of ht8) (.cons (.str _) (.cons (.lst od hq8 (hxr.up xq)) .nil))
    have o8 : Ow K H8 p ((itemsC items).map eChT) := ⟨_, hp8, by rw [h5, List.map_append]; exact (h2.up xq).snoc hdt⟩
    repeat walk_at "w"
    refine w_outO o8 fun H9 b9 x9 hr9 => ?_
    have s9 : Same H H9 := b9.same s8 np0
    repeat walk_at "w"
    refine make_i fun a dx H10 na s10 ha => ?_
    refine Sp3.mk ⟨a, dx, H9, d, itemsC items, hbk, rfl, na, s10, ha, rfl, hr9, fun H11 s11 hb => ⟨rfl, ?_⟩⟩
    exact k _ _ (by walk_at "same") hb
end
end
section
open PySem PySem.Spec PyProof.Rows L2 TL
section
variable {P : Program} {w : World} {K : PySem.W.Frag} {mg : Str → Option Value} {base : Heap}
theorem HeadOk.word {r : Rule} (h : HeadOk r) : r.wordOk := by
  cases r with
  | word b w => rcases h with rfl | rfl <;> exact ⟨by decide, by decide⟩
  | back b => trivial
  | call b n => trivial
theorem narAt_len {b : Box} (h : BoxIn b every) {d : Nat} (hd : d < 6) : (shP d (b.getD d (0, topN d))).length ≤ 100 := by
  obtain ⟨_, h0, h1, h2⟩ := box_get h hd
  have ht := topN_le hd
  generalize b.getD d (0, topN d) = st at *
  have l1 := dotS_len st.1
  have l2 := dotS_len st.2
  have n1 := numS_len10 h0 (by omega)
  have n2 := numS_len10 (n := st.2) (by omega) (by omega)
  unfold shP
  split
  · unfold showA
    split
    · omega
    · split
      · rename_i b hb
        have hs := shared_in (l := st.1) (h := st.2) ⟨h0, by omega⟩ ⟨by omega, by omega⟩
        have hb2 : 0 ≤ b ∧ b ≤ 32 := by
          unfold bitsOf at hb
          split at hb
          · cases hb
            exact hs
          · cases hb
        have n3 := numS_len10 hb2.1 (by omega)
        rw [len_app, len_app, show ("/" : Str).length = 1 from rfl]
        omega
      · rw [len_app, len_app, show ("-" : Str).length = 1 from rfl]
        omega
  · unfold showN
    split
    · omega
    · rw [len_app, len_app, show ("-" : Str).length = 1 from rfl]
      omega
theorem nameN_len {d : Nat} (hd : d < 6) : (nameN d).length ≤ 8 := by
  have : ∀ a : Fin 6, (nameN a.1).length ≤ 8 := by decide +kernel
  exact this ⟨d, hd⟩
theorem headS_len {r : Rule} (h : HeadOk r) : (headS r).length ≤ 17 := by
  cases r with
  | word b w =>
    rcases h with rfl | rfl
    · exact (by decide : ("pass" : Str).length ≤ 17)
    · exact (by decide : ("stop" : Str).length ≤ 17)
  | back b => exact (by decide : ("back" : Str).length ≤ 17)
  | call b n =>
    have := isName_len h
    unfold headS
    rw [len_app, show ("call " : Str).length = 5 from rfl]
    omega
theorem narW_mem {ps : List Nar} {s : Str} (h : s ∈ narWords ps) : ∃ p ∈ ps, s = nameN p.d ∨ s = p.val := by
  obtain ⟨p, h1, h2⟩ := List.mem_flatMap.mp h
  simp at h2
  exact ⟨p, h1, h2⟩
theorem narTo_mem {sh : Nat → Int × Int → Str} {b : Box} {i : Nat} {p : Nar} (h : p ∈ (List.range i).filterMap (narAt sh b)) : p.d < i ∧ p.val = sh p.d (b.getD p.d (0, topN p.d)) ∧ p.st = b.getD p.d (0, topN p.d) ∧ p.st ≠ (0, topN p.d) := by
  obtain ⟨d, h1, h2⟩ := List.mem_filterMap.mp h
  unfold narAt at h2
  split at h2
  · cases h2
  · rename_i hne
    cases h2
    exact ⟨List.mem_range.mp h1, rfl, rfl, hne⟩
def sp_show_rule (K : PySem.W.Frag) : Sp := Sp1 fun x H Q => ∃ (r : Rule), BoxIn r.box every ∧ HeadOk r ∧ Dt K H x (eRule r) ∧ ∀ H', Same H H' → Q (.str (rowS shP r)) H'
def sN_show_rule : List Str := ["row", "words", "whole", "at", "key", "low", "high"]
theorem sc_show_rule : FnScope sN_show_rule ["row"] (defScope s_show_rule) := ⟨rfl, rfl, rfl, by decide +kernel, rfl, by decide +kernel, by decide +kernel⟩

theorem eRule_box {K : PySem.W.Frag} {H : Hp} {x : V} {r : Rule} (h : Dt K H x (eRule r)) : ∃ ds, Dt K H x (.tup ds) ∧ L2.atI ds 1 = some (eBox r.box) := by
  cases r with
  | word b w => exact ⟨_, h, rfl⟩
  | back b => exact ⟨_, h, rfl⟩
  | call b n => exact ⟨_, h, rfl⟩
theorem w_headR {σ : L2.St} {H : Hp} {Q : VK} {i : Nat} {x : V} {r : Rule} (hs : σ[i]? = some (some x)) (hx : Dt K H x (eRule r)) (hh : HeadOk r) (k : ∀ H1, Same H H1 → Q (.str (headS r)) H1) :
    tOrE (tMeth (cWord K) "head" (sp_Word_head K) [] E0 (tCall (sp_rule_of K) [] E0 (tCons (tVar i) tNil)) tNil) (tOrE (tMeth (cBack K) "head" (sp_Back_head K) [] E0 (tCall (sp_rule_of K) [] E0 (tCons (tVar i) tNil)) tNil)
      (tMeth (cCall K) "head" (sp_Call_head K) [] E0 (tCall (sp_rule_of K) [] E0 (tCons (tVar i) tNil)) tNil)) σ H Q := by
  have hw := HeadOk.word hh
  cases r with
  | word b w =>
    refine .inl (w_meth (w_call (w_cons (w_var hs (w_nil ?_)))))
    refine Sp1.mk ⟨_, hw, hx, fun v H1 s1 hv => m_word hv (w_nil ?_)⟩
    exact Sp1.mk ⟨b, w, hv, k _ s1⟩
  | back b =>
    refine .inr (.inl (w_meth (w_call (w_cons (w_var hs (w_nil ?_))))))
    refine Sp1.mk ⟨_, hw, hx, fun v H1 s1 hv => m_back hv (w_nil ?_)⟩
    exact Sp1.mk (k _ s1)
  | call b n =>
    refine .inr (.inr (w_meth (w_call (w_cons (w_var hs (w_nil ?_))))))
    refine Sp1.mk ⟨_, hw, hx, fun v H1 s1 hv => m_call hv (w_nil ?_)⟩
    have := isName_len hh
    exact Sp1.mk ⟨b, n, by omega, hv, k _ s1⟩
theorem sum_bound {ss : List Str} {k n : Nat} (h : ∀ s ∈ ss, s.length ≤ k) (hn : ss.length ≤ n) (y : Str) (hy : y.length = 1) (hk : n * k + n ≤ 16777216) : (ss.map (·.length)).sum + ss.length * y.length ≤ 16777216 := by
  have h1 := sum_le h
  have h2 : ss.length * k ≤ n * k := Nat.mul_le_mul_right _ hn
  rw [hy]
  omega
theorem ok_show_rule (T : Tx K mg) : Fd P w K mg base 6 (He.ga K "show_rule") ["row"] (sp_show_rule K) := by
  have F_rule_of := ok_rule_of (P := P) (w := w) (base := base) T
  have F_Word_head := ok_Word_head (P := P) (w := w) (base := base) T
  have F_Back_head := ok_Back_head (P := P) (w := w) (base := base) T
  have F_Call_head := ok_Call_head (P := P) (w := w) (base := base) T
  have F_every := ok_every (P := P) (w := w) (base := base) T
  have F_show_addresses := ok_show_addresses (P := P) (w := w) (base := base) T
  have F_show_numbers := ok_show_numbers (P := P) (w := w) (base := base) T
  refine mkFd T.d_show_rule sc_show_rule (fun _ _ _ _ _ _ us hl => match us, hl with | [_], _ => rfl) (fun vs H Q E h => Sp1.len h) (fun cdv A outer s H vs Q E hr h => ?_)
  obtain ⟨x, rfl, r, hb, hh, hx, k⟩ := h
  have hhl := headS_len hh
  refine ⟨_, (pss_cons (ps_set (i := 1) sc_show_rule.nd rfl (.inl rfl) (pe_lst (pa_cons (PE.or (pe_m0 (pe_f F_rule_of (hr.mono (by omega)) (by rfl) T.g_rule_of (pa_cons (pv 0) pa_nil)) T.c_Word T.m_Word_head F_Word_head (hr.mono (by omega))) (PE.or (pe_m0 (pe_f F_rule_of (hr.mono (by omega)) (by rfl) T.g_rule_of (pa_cons (pv 0) pa_nil)) T.c_Back T.m_Back_head F_Back_head (hr.mono (by omega))) (pe_m0 (pe_f F_rule_of (hr.mono (by omega)) (by rfl) T.g_rule_of (pa_cons (pv 0) pa_nil)) T.c_Call T.m_Call_head F_Call_head (hr.mono (by omega))))) pa_nil)))
      (pss_cons (ps_set (i := 2) sc_show_rule.nd rfl (.inl rfl) (pe_f0 F_every (hr.mono (by omega)) (by rfl) T.g_every))
      (pss_cons (ps_for PassesOwn.never rfl (pi_enumT (by rfl) T.b_enumerate (pa_cons (pe_glob (v := .ref _) (by rfl) T.g_PAIRS rfl) pa_nil)) (pg_tup rfl (pgs_cons (pg_name (i := 3) sc_show_rule.nd rfl (.inl rfl)) (pgs_cons (pg_name (i := 4) sc_show_rule.nd rfl (.inl rfl)) pgs_nil))) (pss_cons (ps_asg (pe_ix ix_tup (pe_ix ix_tup (pv 0) pe_int (fun _ _ => rfl)) (pv 3) (fun _ _ => rfl)) (pg_tup rfl (pgs_cons (pg_name (i := 5) sc_show_rule.nd rfl (.inl rfl)) (pgs_cons (pg_name (i := 6) sc_show_rule.nd rfl (.inl rfl)) pgs_nil))))
      (pss_cons (ps_if (pt_cmpR (op_neG hr.units) (pe_tup (pa_cons (pv 5) (pa_cons (pv 6) pa_nil))) (pe_ix ix_tup (pv 2) (pv 3) (fun _ _ => rfl)) (nomark _)) (pss_cons (ps_expr (pe_bm PySem.F.plainAttrs_list PySem.F.slot_list_append PySem.F.type_list_append mt_append (pv 1) (pa_cons (pv 4) pa_nil)))
      (pss_cons (ps_if (PW.pt (pw_or (pt_cmpR op_eq (pv 4) pe_str (nomark _)) (pw_or1 (pt_cmpR op_eq (pv 4) pe_str (nomark _))))) (pss_cons (ps_expr (pe_bm PySem.F.plainAttrs_list PySem.F.slot_list_append PySem.F.type_list_append mt_append (pv 1) (pa_cons (pe_f F_show_addresses (hr.mono (by omega)) (by rfl) T.g_show_addresses (pa_cons (pv 5) (pa_cons (pv 6) pa_nil))) pa_nil)))
      pss_nil) (pss_cons (ps_expr (pe_bm PySem.F.plainAttrs_list PySem.F.slot_list_append PySem.F.type_list_append mt_append (pv 1) (pa_cons (pe_f F_show_numbers (hr.mono (by omega)) (by rfl) T.g_show_numbers (pa_cons (pv 5) (pa_cons (pv 6) pa_nil))) pa_nil)))
      pss_nil))
      pss_nil)) pss_nil)
      pss_nil)))
      (pss_cons (ps_ret (pe_joinR pe_str (pv 1)))
      pss_nil)))), ?_⟩
  try dsimp only [cxOf, Cx.nox, Cx.wish]
  repeat walk_at "w"
  refine w_headR rfl hx hh fun H1 s1 => ?_
  repeat walk_at "w"
  walk_at "newO"
  intro p H2 np s2 o2
  repeat walk_at "w"
  refine Sp0.mk fun v3 H3 s3 hv3 => ?_
  repeat walk_at "w"
  refine i_enumT (dt_PAIRS T (H := H3)) (Ext.refl _) fun J it => ?_
  rw [enum_pairs] at it
  have np0 : H p = none := s1.free np
  have hml : ∀ i, i ≤ 6 → (narWords ((List.range i).filterMap (narAt shP r.box))).length ≤ 12 := fun i hi => by
    rw [narWords_len]
    have := List.length_filterMap_le (narAt shP r.box) (List.range i)
    rw [List.length_range] at this
    omega
  refine f_for it (fun i σ H' => ∃ e3 e4 e5 e6, σ = [some x, some (.ref p), some v3, e3, e4, e5, e6] ∧ Same H H' ∧ Ext H3 H' ∧ Ow K H' p ((headS r :: narWords ((List.range i).filterMap (narAt shP r.box))).map D.str)) ⟨_, _, _, _, rfl, (by walk_at "same"), Ext.refl _, o2.up s3⟩ (fun i σ H' ⟨_, _, _, _, _, _, x, _⟩ => x) ?_ ?_
  · rintro i d u σ H' H4 e1 ⟨_, _, _, _, rfl, s4, x4, o4⟩ s5 hu
    rw [List.getElem?_map, Option.map_eq_some_iff] at e1
    obtain ⟨i2, e1, rfl⟩ := e1
    have hi : i < 6 := by
      have := (List.getElem?_eq_some_iff.mp e1).1
      simpa using this
    have hi2 : i2 = i := by
      have := (List.getElem?_eq_some_iff.mp e1).2
      simp at this
      exact this.symm
    subst hi2
    obtain ⟨g0, g1, g2, g3⟩ := box_get hb hi
    have hml2 := hml i2 (by omega)
    have htp := topN_le hi
    have hst : (List.range (i2 + 1)).filterMap (narAt shP r.box) = (List.range i2).filterMap (narAt shP r.box) ++ (if r.box.getD i2 (0, topN i2) = (0, topN i2) then [] else [⟨i2, shP i2 (r.box.getD i2 (0, topN i2)), r.box.getD i2 (0, topN i2)⟩]) := by
      rw [narTo_succ]
      unfold narAt
      split <;> rfl
    rw [hst, narWords_app]
    generalize narWords ((List.range i2).filterMap (narAt shP r.box)) = acc at *
    have hget : (r.box.map eSt)[i2]? = some (eSt (r.box.getD i2 (0, topN i2))) := by rw [List.getElem?_map, g0]; rfl
    have hev : (every.map eSt)[i2]? = some (eSt (0, topN i2)) := by rw [List.getElem?_map, every_get hi]; rfl
    generalize r.box.getD i2 (0, topN i2) = st at *
    obtain ⟨ds, hds, hd1⟩ := eRule_box (hx.up (H' := H4) (by walk_at "ext"))
    have o5 := o4.up s5
    repeat walk_at "w"
    refine w_ixT hds hd1 ?_
    refine At.of fun ub hub => ?_
    repeat walk_at "w"
    walk_at "newT"
    intro u6 H5 s6 hu6
    have hv3' := hv3.up (H' := H5) (by walk_at "ext")
    repeat walk_at "w"
    refine w_neG (α := Int × Int) (a := (st.1, st.2)) (b := (0, topN i2)) hu6 hu_ (by decide) ?_
    by_cases hw : st = (0, topN i2)
    · rw [if_pos hw, decide_eq_true (show (st.1, st.2) = (0, topN i2) from hw)]
      repeat walk_at "w"
      exact ⟨_, _, _, _, rfl, (by walk_at "same"), (by walk_at "ext"), by simpa [narWords] using o5.up s6⟩
    · rw [if_neg hw, decide_eq_false (show ¬ (st.1, st.2) = (0, topN i2) from hw)]
      repeat walk_at "w"
      refine w_tyO (o5.up s6) ?_
      repeat walk_at "w"
      refine w_appS (d := .str (nameN i2)) (o5.up s6) (.str _) (by simp; omega) (Hb := H) (by walk_at "same") np0 fun H6 b6 x6 s7 o6 => ?_
      have hfin : ∀ (z : Str) H7, Ext H6 H7 → Same H H7 → z = shP i2 st → Ow K H7 p (((headS r :: acc).map D.str ++ [D.str (nameN i2)]) ++ [.str z]) → Ow K H7 p ((headS r :: (acc ++ narWords [⟨i2, shP i2 st, st⟩])).map D.str) := fun z H7 _ _ e o => by
        subst e
        simpa [narWords] using o
      repeat walk_at "w"
      rw [nameN_from hi]
      by_cases h2 : i2 = 2
      · have had : isAd i2 := .inl h2
        rw [decide_eq_true h2]
        repeat walk_at "w"
        refine w_tyO o6 ?_
        repeat walk_at "w"
        refine Sp2.mk ⟨st.1, st.2, ⟨g1, by omega⟩, ⟨by omega, by omega⟩, rfl, rfl, fun H7 s8 => ?_⟩
        repeat walk_at "w"
        refine w_appS (d := .str (showA st.1 st.2)) (o6.up s8) (.str _) (by simp; omega) (Hb := H) (by walk_at "same") np0 fun H8 b8 x8 s9 o8 => ?_
        repeat walk_at "w"
        exact ⟨_, _, _, _, rfl, s9, (by walk_at "ext"), hfin _ _ (by walk_at "ext") s9 (by unfold shP; rw [if_pos had]) o8⟩
      · rw [decide_eq_false h2]
        repeat walk_at "w"
        rw [nameN_to hi]
        by_cases h4 : i2 = 4
        · have had : isAd i2 := .inr h4
          rw [decide_eq_true h4]
          repeat walk_at "w"
          refine w_tyO o6 ?_
          repeat walk_at "w"
          refine Sp2.mk ⟨st.1, st.2, ⟨g1, by omega⟩, ⟨by omega, by omega⟩, rfl, rfl, fun H7 s8 => ?_⟩
          repeat walk_at "w"
          refine w_appS (d := .str (showA st.1 st.2)) (o6.up s8) (.str _) (by simp; omega) (Hb := H) (by walk_at "same") np0 fun H8 b8 x8 s9 o8 => ?_
          repeat walk_at "w"
          exact ⟨_, _, _, _, rfl, s9, (by walk_at "ext"), hfin _ _ (by walk_at "ext") s9 (by unfold shP; rw [if_pos had]) o8⟩
        · have had : ¬ isAd i2 := fun z => z.elim h2 h4
          rw [decide_eq_false h4]
          repeat walk_at "w"
          refine w_tyO o6 ?_
          repeat walk_at "w"
          refine Sp2.mk ⟨st.1, st.2, g1, by omega, by omega, by omega, rfl, rfl, ?_⟩
          repeat walk_at "w"
          refine w_appS (d := .str (showN st.1 st.2)) o6 (.str _) (by simp; omega) (Hb := H) s7 np0 fun H8 b8 x8 s9 o8 => ?_
          repeat walk_at "w"
          exact ⟨_, _, _, _, rfl, s9, (by walk_at "ext"), hfin _ _ (by walk_at "ext") s9 (by unfold shP; rw [if_neg had]) o8⟩
  · rintro σ H' ⟨_, _, _, _, rfl, s4, x4, o4⟩
    rw [List.length_map, List.length_range] at o4
    repeat walk_at "w"
    have hk := k H' s4
    have e : rowS shP r = Txt.join " " (headS r :: narWords (narOf shP r.box)) := (join_head r _).symm
    rw [e] at hk
    refine s_join o4.ls (sum_bound (k := 100) (n := 13) (fun s hs => ?_) ?_ _ rfl (by decide)) hk
    · rcases List.mem_cons.mp hs with rfl | hs
      · omega
      · obtain ⟨q, h1, h2⟩ := narW_mem hs
        obtain ⟨h3, h4, _⟩ := narTo_mem h1
        rcases h2 with rfl | rfl
        · have := nameN_len h3
          omega
        · rw [h4]
          exact narAt_len hb h3
    · have := hml 6 (by omega)
      rw [List.length_cons]
      omega
end
end
section
open PySem PySem.Spec PyProof.Rows L2 TL
theorem rowS_len {r : Rule} (hb : BoxIn r.box every) (hh : HeadOk r) : (rowS shP r).length ≤ 1313 := by
  rw [show rowS shP r = Txt.join " " (headS r :: narWords (narOf shP r.box)) from (join_head r _).symm]
  have h1 := len_join (k := 100) " " (headS r :: narWords (narOf shP r.box)) fun s hs => by
    rcases List.mem_cons.mp hs with rfl | hs
    · have := headS_len hh
      omega
    · obtain ⟨q, h1, h2⟩ := narW_mem hs
      obtain ⟨h3, h4, _⟩ := narTo_mem h1
      rcases h2 with rfl | rfl
      · have := nameN_len h3
        omega
      · rw [h4]
        exact narAt_len hb h3
  have h2 : (headS r :: narWords (narOf shP r.box)).length ≤ 13 := by
    rw [List.length_cons, narWords_len]
    have := List.length_filterMap_le (narAt shP r.box) (List.range 6)
    rw [List.length_range] at this
    unfold narOf
    omega
  rw [show (" " : Str).length = 1 from rfl] at h1
  have h3 := Nat.mul_le_mul_right 100 h2
  omega
structure BookTx (B : Book) : Prop where
  box : ∀ p ∈ B.chains, ∀ r ∈ p.2, BoxIn r.box every
  head : ∀ p ∈ B.chains, ∀ r ∈ p.2, HeadOk r
  name : ∀ p ∈ B.chains, p.1.length ≤ 12
  d : B.dflt.length ≤ 4
  rows : (bookRows shP B.dflt B.chains).length ≤ 1000
  few : B.chains.length ≤ 1000
  fews : ∀ p ∈ B.chains, p.2.length ≤ 1000
section
variable {P : Program} {w : World} {K : PySem.W.Frag} {mg : Str → Option Value} {base : Heap}
def sp_show_book (K : PySem.W.Frag) : Sp := Sp1 fun x H Q => ∃ (B : Book), BookTx B ∧ Dt K H x (.bok B) ∧ ∀ H', Same H H' → Q (.str (bookS shP B.dflt B.chains)) H'
def sN_show_book : List Str := ["book", "default", "chains", "rows", "name", "rules", "rule"]
theorem sc_show_book : FnScope sN_show_book ["book"] (defScope s_show_book) := ⟨rfl, rfl, rfl, by decide +kernel, rfl, by decide +kernel, by decide +kernel⟩

theorem ok_show_book (T : Tx K mg) : Fd P w K mg base 7 (He.ga K "show_book") ["book"] (sp_show_book K) := by
  have F_Book_told := ok_Book_told (P := P) (w := w) (base := base) T
  have F_show_rule := ok_show_rule (P := P) (w := w) (base := base) T
  refine mkFd T.d_show_book sc_show_book (fun _ _ _ _ _ _ us hl => match us, hl with | [_], _ => rfl) (fun vs H Q E h => Sp1.len h) (fun cdv A outer s H vs Q E hr h => ?_)
  obtain ⟨x, rfl, B, hB, hx, k⟩ := h
  have hd := hB.d
  have hrw := hB.rows
  refine ⟨_, (pss_cons (ps_asg (pe_m0 (pv 0) T.c_Book T.m_Book_told F_Book_told (hr.mono (by omega))) (pg_tup rfl (pgs_cons (pg_name (i := 1) sc_show_book.nd rfl (.inl rfl)) (pgs_cons (pg_name (i := 2) sc_show_book.nd rfl (.inl rfl)) pgs_nil))))
      (pss_cons (ps_set (i := 3) sc_show_book.nd rfl (.inl rfl) (pe_lst (pa_cons (pe_jn (.cons pe_str (.cons (pe_fmt (pv 1)) .nil))) pa_nil)))
      (pss_cons (ps_for PassesOwn.never rfl (pi_list (pv 2)) (pg_tup rfl (pgs_cons (pg_name (i := 4) sc_show_book.nd rfl (.inl rfl)) (pgs_cons (pg_name (i := 5) sc_show_book.nd rfl (.inl rfl)) pgs_nil))) (pss_cons (ps_if (pt_cmpR op_ne (pv 4) pe_str (nomark _)) (pss_cons (ps_expr (pe_bm PySem.F.plainAttrs_list PySem.F.slot_list_append PySem.F.type_list_append mt_append (pv 3) (pa_cons (pe_jn (.cons pe_str (.cons (pe_fmt (pv 4)) .nil))) pa_nil)))
      pss_nil) pss_nil)
      (pss_cons (ps_for PassesOwn.never rfl (pi_list (pv 5)) (pg_name (i := 6) sc_show_book.nd rfl (.inl rfl)) (pss_cons (ps_expr (pe_bm PySem.F.plainAttrs_list PySem.F.slot_list_append PySem.F.type_list_append mt_append (pv 3) (pa_cons (pe_f F_show_rule (hr.mono (by omega)) (by rfl) T.g_show_rule (pa_cons (pv 6) pa_nil)) pa_nil)))
      pss_nil))
      pss_nil)))
      (pss_cons (ps_ret (pe_joinR pe_str (pv 3)))
      pss_nil)))), ?_⟩
  try dsimp only [cxOf, Cx.nox, Cx.wish]
  repeat walk_at "w"
  refine m_bok hx ?_
  repeat walk_at "w"
  refine Sp1.mk ⟨B, hB.few, hB.fews, hx, fun v1 H1 s1 hv1 => ?_⟩
  repeat walk_at "w"
  have hcs := hu_
  generalize u_ = uc at *
  clear hu_
  refine w_j1 (by rw [empty_app, show ("default " : Str).length = 8 from rfl]; omega) ?_
  rw [empty_app]
  repeat walk_at "w"
  refine fmtS (by omega) ?_
  refine w_j1 (by rw [len_app, show ("default " : Str).length = 8 from rfl]; omega) ?_
  repeat walk_at "w"
  walk_at "newO"
  intro p H2 np s2 o2
  have np0 : H p = none := s1.free np
  repeat walk_at "w"
  refine i_list hcs s2.ext fun J it => ?_
  refine f_for it (fun i σ H' => ∃ e4 e5 e6, σ = [some x, some (.str B.dflt), some uc, some (.ref p), e4, e5, e6] ∧ Same H H' ∧ Ext H1 H' ∧ Ow K H' p ((("default " ++ B.dflt) :: (B.chains.take i).flatMap (chRows shP)).map D.str)) ⟨_, _, _, rfl, (by walk_at "same"), (by walk_at "ext"), o2⟩ (fun i σ H' ⟨_, _, _, _, _, x, _⟩ => x) ?_ ?_
  · rintro i d u σ H' H3 e1 ⟨_, _, _, rfl, s3, x3, o3⟩ s4 hu
    rw [List.getElem?_map, Option.map_eq_some_iff] at e1
    obtain ⟨⟨n, rs⟩, e1, rfl⟩ := e1
    have hmem := List.mem_of_getElem? e1
    have hnl := hB.name _ hmem
    have htk : (B.chains.take (i + 1)).flatMap (chRows shP) = (B.chains.take i).flatMap (chRows shP) ++ chRows shP (n, rs) := by
      rw [List.take_succ, e1, List.flatMap_append]
      simp
    have hbd : ((B.chains.take i).flatMap (chRows shP)).length + (chRows shP (n, rs)).length ≤ 1000 := by
      have e2 : B.chains.flatMap (chRows shP) = (B.chains.take (i + 1) ++ B.chains.drop (i + 1)).flatMap (chRows shP) := by rw [List.take_append_drop]
      unfold bookRows at hrw
      rw [List.length_cons, e2, List.flatMap_append, htk, List.length_append, List.length_append] at hrw
      omega
    rw [htk]
    generalize (B.chains.take i).flatMap (chRows shP) = acc at *
    have o4 := o3.up s4
    have hcr : (chRows shP (n, rs)).length = (if n = "main" then 0 else 1) + rs.length := by
      unfold chRows
      rw [List.length_append, List.length_map]
      split <;> rfl
    repeat walk_at "w"
    have hrl := hu_
    generalize u_ = ur at *
    clear hu_
    generalize eN : tSeq (tFor _ _ _) tNext _ = NX
    have key : ∀ H4, Same H H4 → Ext H3 H4 → Ow K H4 p (((("default " ++ B.dflt) :: acc) ++ (if n = "main" then [] else ["chain " ++ n])).map D.str) → ∀ e6, NX [some x, some (.str B.dflt), some uc, some (.ref p), some (.str n), some ur, e6] H4 := by
      intro H4 s5 x5 o5 e6
      rw [← eN]
      repeat walk_at "w"
      refine i_list (hrl.up x5) (Ext.refl _) fun J2 it2 => ?_
      refine f_for it2 (fun j σ H' => ∃ e6, σ = [some x, some (.str B.dflt), some uc, some (.ref p), some (.str n), some ur, e6] ∧ Same H H' ∧ Ext H4 H' ∧ Ow K H' p (((("default " ++ B.dflt) :: acc) ++ ((if n = "main" then [] else ["chain " ++ n]) ++ (rs.take j).map (rowS shP))).map D.str)) ⟨_, rfl, s5, Ext.refl _, by simpa using o5⟩ (fun i σ H' ⟨_, _, _, x, _⟩ => x) ?_ ?_
      · rintro j d u σ H' H5 e2 ⟨_, rfl, s6, x6, o6⟩ s7 hu
        rw [List.getElem?_map, Option.map_eq_some_iff] at e2
        obtain ⟨r, e2, rfl⟩ := e2
        have hj := (List.getElem?_eq_some_iff.mp e2).1
        have hrm := List.mem_of_getElem? e2
        repeat walk_at "w"
        refine w_tyO (o6.up s7) ?_
        repeat walk_at "w"
        refine Sp1.mk ⟨r, hB.box _ hmem r hrm, hB.head _ hmem r hrm, hu, fun H6 s8 => ?_⟩
        repeat walk_at "w"
        refine w_appS (d := .str (rowS shP r)) ((o6.up s7).up s8) (.str _) ?_ (Hb := H) (by walk_at "same") np0 fun H7 b7 x7 s9 o7 => ?_
        · rw [List.length_map, List.length_append, List.length_append, List.length_map, List.length_take, List.length_cons]
          have : (if n = "main" then ([] : List Str) else ["chain " ++ n]).length ≤ 1 := by split <;> simp
          omega
        repeat walk_at "w"
        refine ⟨_, rfl, s9, (by walk_at "ext"), ?_⟩
        rw [List.take_succ, e2]
        simpa using o7
      · rintro σ H' ⟨_, rfl, s6, x6, o6⟩
        rw [List.length_map, List.take_length] at o6
        repeat walk_at "w"
        exact ⟨_, _, _, rfl, s6, (by walk_at "ext"), by simpa [chRows] using o6⟩
    by_cases hn : n = "main"
    · rw [decide_eq_true hn]
      rw [if_pos hn] at key
      repeat walk_at "w"
      exact key H3 (by walk_at "same") (Ext.refl _) (by simpa using o4) _
    · rw [decide_eq_false hn]
      rw [if_neg hn] at key
      repeat walk_at "w"
      refine w_tyO o4 ?_
      repeat walk_at "w"
      refine w_j1 (by rw [empty_app, show ("chain " : Str).length = 6 from rfl]; omega) ?_
      rw [empty_app]
      repeat walk_at "w"
      refine fmtS (by omega) ?_
      refine w_j1 (by rw [len_app, show ("chain " : Str).length = 6 from rfl]; omega) ?_
      repeat walk_at "w"
      refine w_appS (d := .str ("chain " ++ n)) o4 (.str _) (by rw [List.length_map, List.length_cons]; omega) (Hb := H) (by walk_at "same") np0 fun H7 b7 x7 s9 o7 => ?_
      repeat walk_at "w"
      exact key H7 s9 (by walk_at "ext") (by simpa using o7) _
  · rintro σ H' ⟨_, _, _, rfl, s3, x3, o3⟩
    rw [List.length_map, List.take_length] at o3
    repeat walk_at "w"
    refine s_join (ss := bookRows shP B.dflt B.chains) o3.ls (sum_bound (k := 1400) (n := 1000) (fun s hs => ?_) hrw _ rfl (by decide)) (k H' s3)
    unfold bookRows at hs
    rcases List.mem_cons.mp hs with rfl | hs
    · rw [len_app, show ("default " : Str).length = 8 from rfl]
      omega
    · obtain ⟨p2, h1, h2⟩ := List.mem_flatMap.mp hs
      unfold chRows at h2
      rcases List.mem_append.mp h2 with h2 | h2
      · split at h2
        · cases h2
        · rw [List.mem_singleton.mp h2, len_app, show ("chain " : Str).length = 6 from rfl]
          have := hB.name _ h1
          omega
      · obtain ⟨r, h3, rfl⟩ := List.mem_map.mp h2
        have := rowS_len (hB.box _ h1 r h3) (hB.head _ h1 r h3)
        omega
end
end
section
open PySem PySem.Spec PyProof.Rows L2 TL
section
variable {P : Program} {w : World} {K : PySem.W.Frag} {mg : Str → Option Value} {base : Heap}
def sp_book_by (K : PySem.W.Frag) : Sp := Sp1 fun x H Q => ∃ (rows : List Str) (d : Str) (items : List Item), BookText (Txt.join "\n" rows) d items ∧ BkOk (itemsC items) ∧ (rows.map (·.length)).sum + rows.length ≤ 16777216 ∧ Dt K H x (.lst (rows.map D.str)) ∧ ∀ v H', Same H H' → Dt K H' v (.bok ⟨d, itemsC items, (lenC 2 (itemsC items) "main" : Nat)⟩) → Q v H'
def sN_book_by : List Str := ["rows", "e"]
theorem sc_book_by : FnScope sN_book_by ["rows"] (defScope s_book_by) := ⟨rfl, rfl, rfl, by decide +kernel, rfl, by decide +kernel, by decide +kernel⟩

theorem ok_book_by (T : Tx K mg) : Fd P w K mg base 9 (He.ga K "book_by") ["rows"] (sp_book_by K) := by
  have F_read_book := ok_read_book (P := P) (w := w) (base := base) T
  refine mkFd T.d_book_by sc_book_by (fun _ _ _ _ _ _ us hl => match us, hl with | [_], _ => rfl) (fun vs H Q E h => Sp1.len h) (fun cdv A outer s H vs Q E hr h => ?_)
  obtain ⟨x, rfl, rows, d, items, ht, hbk, hz, hx, k⟩ := h
  refine ⟨_, (pss_cons (ps_try_thru0 (pss_cons (ps_ret (pe_f F_read_book (hr.mono (by omega)) (by rfl) T.g_read_book (pa_cons (pe_joinR pe_str (pv 0)) pa_nil)))
      pss_nil))
      pss_nil), ?_⟩
  try dsimp only [cxOf, Cx.nox, Cx.wish]
  repeat walk_at "w"
  refine s_join hx.ls (by rw [show ("\n" : Str).length = 1 from rfl]; omega) ?_
  repeat walk_at "w"
  exact Sp1.mk ⟨_, d, items, ht, hbk, rfl, k⟩
def sp_need_no_rows (K : PySem.W.Frag) : Sp := Sp1 fun x H Q => Dt K H x (.lst []) ∧ ∀ H', Same H H' → Q .non H'
def sN_need_no_rows : List Str := ["rows", "at", "row"]
theorem sc_need_no_rows : FnScope sN_need_no_rows ["rows"] (defScope s_need_no_rows) := ⟨rfl, rfl, rfl, by decide +kernel, rfl, by decide +kernel, by decide +kernel⟩

theorem ok_need_no_rows (T : Tx K mg) : Fd P w K mg base 2 (He.ga K "need_no_rows") ["rows"] (sp_need_no_rows K) := by
  have F_words_of := ok_words_of (P := P) (w := w) (base := base) T
  refine mkFd T.d_need_no_rows sc_need_no_rows (fun _ _ _ _ _ _ us hl => match us, hl with | [_], _ => rfl) (fun vs H Q E h => Sp1.len h) (fun cdv A outer s H vs Q E hr h => ?_)
  obtain ⟨x, rfl, hx, k⟩ := h
  refine ⟨_, (pss_cons (ps_for PassesOwn.never rfl (pi_enum (by rfl) T.b_enumerate (pa_cons (pv 0) pa_nil)) (pg_tup rfl (pgs_cons (pg_name (i := 1) sc_need_no_rows.nd rfl (.inl rfl)) (pgs_cons (pg_name (i := 2) sc_need_no_rows.nd rfl (.inl rfl)) pgs_nil))) (pss_cons (ps_if (pt_cmpR (op_neG hr.units) (pe_f F_words_of (hr.mono (by omega)) (by rfl) T.g_words_of (pa_cons (pv 2) pa_nil)) (pe_fz (pe_lst pa_nil)) (nomark _)) (pss_cons ps_never
      pss_nil) pss_nil)
      pss_nil))
      pss_nil), ?_⟩
  try dsimp only [cxOf, Cx.nox, Cx.wish]
  repeat walk_at "w"
  refine i_enum hx (Ext.refl _) fun J it => ?_
  refine f_for it (fun i σ H' => ∃ e1 e2, σ = [some x, e1, e2] ∧ Same H H') ⟨_, _, rfl, Same.refl _⟩ (fun i σ H' ⟨_, _, _, s⟩ => s.ext) ?_ ?_
  · rintro i d u σ H' H2 e1
    simp [enumD] at e1
  · rintro σ H' ⟨_, _, rfl, s⟩
    repeat walk_at "w"
    exact k H' s
def sp_show_label (K : PySem.W.Frag) : Sp := Sp1 fun x H Q => ∃ (b c d e f : Int), (0 ≤ b ∧ b ≤ 255) ∧ AdOk c ∧ (0 ≤ d ∧ d ≤ 65535) ∧ AdOk e ∧ (0 ≤ f ∧ f ≤ 65535) ∧ Dt K H x (.tup [.int b, .int c, .int d, .int e, .int f]) ∧ ∀ H', Same H H' → Q (.str (Txt.join " " [numS b, dotS c, numS d, dotS e, numS f])) H'
def sN_show_label : List Str := ["label", "words"]
theorem sc_show_label : FnScope sN_show_label ["label"] (defScope s_show_label) := ⟨rfl, rfl, rfl, by decide +kernel, rfl, by decide +kernel, by decide +kernel⟩

theorem ok_show_label (T : Tx K mg) : Fd P w K mg base 2 (He.ga K "show_label") ["label"] (sp_show_label K) := by
  have F_show_address := ok_show_address (P := P) (w := w) (base := base) T
  refine mkFd T.d_show_label sc_show_label (fun _ _ _ _ _ _ us hl => match us, hl with | [_], _ => rfl) (fun vs H Q E h => Sp1.len h) (fun cdv A outer s H vs Q E hr h => ?_)
  obtain ⟨x, rfl, b, c, d, e, f, hb, hc, hd, he, hf, hx, k⟩ := h
  refine ⟨_, (pss_cons (ps_set (i := 1) sc_show_label.nd rfl (.inl rfl) (pe_fz (pe_lst (pa_cons (pe_callTy cl_strI (by rfl) T.b_str (by decide +kernel) (pa_cons (pe_ix ix_tup (pv 0) pe_int (fun _ _ => rfl)) pa_nil)) (pa_cons (pe_f F_show_address (hr.mono (by omega)) (by rfl) T.g_show_address (pa_cons (pe_ix ix_tup (pv 0) pe_int (fun _ _ => rfl)) pa_nil)) (pa_cons (pe_callTy cl_strI (by rfl) T.b_str (by decide +kernel) (pa_cons (pe_ix ix_tup (pv 0) pe_int (fun _ _ => rfl)) pa_nil)) (pa_cons (pe_f F_show_address (hr.mono (by omega)) (by rfl) T.g_show_address (pa_cons (pe_ix ix_tup (pv 0) pe_int (fun _ _ => rfl)) pa_nil)) (pa_cons (pe_callTy cl_strI (by rfl) T.b_str (by decide +kernel) (pa_cons (pe_ix ix_tup (pv 0) pe_int (fun _ _ => rfl)) pa_nil)) pa_nil))))))))
      (pss_cons (ps_ret (pe_joinR pe_str (pv 1)))
      pss_nil)), ?_⟩
  try dsimp only [cxOf, Cx.nox, Cx.wish]
  repeat walk_at "w"
  refine w_strI (log_small hb.1 (by omega)) ?_
  repeat walk_at "w"
  refine Sp1.mk ⟨c, hc.1, rfl, fun H1 s1 => ?_⟩
  repeat walk_at "w"
  refine w_strI (log_small hd.1 (by omega)) ?_
  repeat walk_at "w"
  refine Sp1.mk ⟨e, he.1, rfl, fun H2 s2 => ?_⟩
  repeat walk_at "w"
  refine w_strI (log_small hf.1 (by omega)) ?_
  repeat walk_at "w"
  walk_at "newF"
  intro u H3 s3 hu
  repeat walk_at "w"
  refine s_join (ss := [numS b, dotS c, numS d, dotS e, numS f]) (Dt.ls hu) (sum_bound (k := 100) (n := 5) (fun s hs => ?_) (Nat.le_refl _) _ rfl (by decide)) (k H3 (by walk_at "same"))
  have h1 := numS_len10 hb.1 (by omega)
  have h2 := numS_len10 hd.1 (by omega)
  have h3 := numS_len10 hf.1 (by omega)
  have h4 := dotS_len c
  have h5 := dotS_len e
  simp at hs
  rcases hs with rfl | rfl | rfl | rfl | rfl <;> omega
def sp_show_parcel (K : PySem.W.Frag) : Sp := Sp1 fun x H Q => ∃ (pt : List Int), PtOk pt ∧ Dt K H x (eInts pt) ∧ ∀ H', Same H H' → Q (.str (parS pt)) H'
def sN_show_parcel : List Str := ["parcel"]
theorem sc_show_parcel : FnScope sN_show_parcel ["parcel"] (defScope s_show_parcel) := ⟨rfl, rfl, rfl, by decide +kernel, rfl, by decide +kernel, by decide +kernel⟩

theorem par_join (a : Str) (l : List Str) (h : l ≠ []) : a ++ " " ++ Txt.join " " l = Txt.join " " (a :: l) := by
  rw [join_eq, join_eq]
  refine ext_tl ?_
  rw [tl_join, tl_append, tl_append, tl_join]
  cases l with
  | nil => exact (h rfl).elim
  | cons b l => simp [joinL]
theorem ok_show_parcel (T : Tx K mg) : Fd P w K mg base 3 (He.ga K "show_parcel") ["parcel"] (sp_show_parcel K) := by
  have F_show_label := ok_show_label (P := P) (w := w) (base := base) T
  refine mkFd T.d_show_parcel sc_show_parcel (fun _ _ _ _ _ _ us hl => match us, hl with | [_], _ => rfl) (fun vs H Q E h => Sp1.len h) (fun cdv A outer s H vs Q E hr h => ?_)
  obtain ⟨x, rfl, pt, ⟨a, b, c, d, e, f, rfl, ha, hb, hc, hd, he, hf⟩, hx, k⟩ := h
  refine ⟨_, (pss_cons (ps_ret (pe_op op_addS (pe_op op_addS (pe_callTy cl_strI (by rfl) T.b_str (by decide +kernel) (pa_cons (pe_ix ix_tup (pv 0) pe_int (fun _ _ => rfl)) pa_nil)) pe_str) (pe_f F_show_label (hr.mono (by omega)) (by rfl) T.g_show_label (pa_cons (pe_slice sl_tupA (pv 0) (po_some pe_int) po_none) pa_nil))))
      pss_nil), ?_⟩
  have hx : Dt K H x (.tup [.int a, .int b, .int c, .int d, .int e, .int f]) := hx
  have h1 : (Str.ofString (toString a)).length ≤ 10 := numS_len10 ha.1 (by omega)
  try dsimp only [cxOf, Cx.nox, Cx.wish]
  repeat walk_at "w"
  refine w_strI (log_small ha.1 (by omega)) ?_
  repeat walk_at "w"
  refine w_addS (by rw [show (" " : Str).length = 1 from rfl]; omega) ?_
  repeat walk_at "w"
  refine sl_T hx fun u H1 s1 hu => ?_
  rw [show (1 : Int) = ((1 : Nat) : Int) from rfl, cutL_from] at hu
  repeat walk_at "w"
  refine Sp1.mk ⟨b, c, d, e, f, hb, hc, hd, he, hf, hu, fun H2 s2 => ?_⟩
  refine w_addS ?_ ?_
  · have h2 := len_join (k := 44) " " [numS b, dotS c, numS d, dotS e, numS f] fun s hs => by
      have h1 := numS_len10 hb.1 (by omega)
      have h2 := numS_len10 hd.1 (by omega)
      have h3 := numS_len10 hf.1 (by omega)
      have h4 := dotS_len c
      have h5 := dotS_len e
      simp at hs
      rcases hs with rfl | rfl | rfl | rfl | rfl <;> omega
    rw [show (" " : Str).length = 1 from rfl] at h2
    rw [len_app, show (" " : Str).length = 1 from rfl]
    simp only [List.length_cons, List.length_nil] at h2
    omega
  · have hk := k H2 (by walk_at "same")
    unfold parS parW at hk
    rw [← par_join _ _ (by simp)] at hk
    exact hk
def sp_read_label (K : PySem.W.Frag) : Sp := Sp1 fun x H Q => ∃ (b c d e f : Int), (0 ≤ b ∧ b ≤ 255) ∧ AdOk c ∧ (0 ≤ d ∧ d ≤ 65535) ∧ AdOk e ∧ (0 ≤ f ∧ f ≤ 65535) ∧ Dt K H x (.lst [.str (numS b), .str (dotS c), .str (numS d), .str (dotS e), .str (numS f)]) ∧ ∀ v H', Same H H' → Dt K H' v (.tup [.int b, .int c, .int d, .int e, .int f]) → Q v H'
def sN_read_label : List Str := ["words", "sender", "receiver"]
theorem sc_read_label : FnScope sN_read_label ["words"] (defScope s_read_label) := ⟨rfl, rfl, rfl, by decide +kernel, rfl, by decide +kernel, by decide +kernel⟩

theorem ok_read_label (T : Tx K mg) : Fd P w K mg base 4 (He.ga K "read_label") ["words"] (sp_read_label K) := by
  have F_address_by := ok_address_by (P := P) (w := w) (base := base) T
  have F_number_by := ok_number_by (P := P) (w := w) (base := base) T
  refine mkFd T.d_read_label sc_read_label (fun _ _ _ _ _ _ us hl => match us, hl with | [_], _ => rfl) (fun vs H Q E h => Sp1.len h) (fun cdv A outer s H vs Q E hr h => ?_)
  obtain ⟨x, rfl, b, c, d, e, f, hb, hc, hd, he, hf, hx, k⟩ := h
  refine ⟨_, (pss_cons (ps_if (pt_cmpR op_ne (pe_callB cl_lenQ (by rfl) T.b_len PySem.boot_len (pa_cons (pv 0) pa_nil)) pe_int (nomark _)) (pss_cons ps_never
      pss_nil) pss_nil)
      (pss_cons (ps_set (i := 1) sc_read_label.nd rfl (.inl rfl) (pe_tup (pa_cons (pe_f F_address_by (hr.mono (by omega)) (by rfl) T.g_address_by (pa_cons (pe_ix ix_list (pv 0) pe_int (fun _ _ => rfl)) pa_nil)) (pa_cons (pe_f F_number_by (hr.mono (by omega)) (by rfl) T.g_number_by (pa_cons (pe_ix ix_list (pv 0) pe_int (fun _ _ => rfl)) (pa_cons pe_int pa_nil))) pa_nil))))
      (pss_cons (ps_set (i := 2) sc_read_label.nd rfl (.inl rfl) (pe_tup (pa_cons (pe_f F_address_by (hr.mono (by omega)) (by rfl) T.g_address_by (pa_cons (pe_ix ix_list (pv 0) pe_int (fun _ _ => rfl)) pa_nil)) (pa_cons (pe_f F_number_by (hr.mono (by omega)) (by rfl) T.g_number_by (pa_cons (pe_ix ix_list (pv 0) pe_int (fun _ _ => rfl)) (pa_cons pe_int pa_nil))) pa_nil))))
      (pss_cons (ps_ret (pe_op op_catA (pe_op op_catA (pe_tup (pa_cons (pe_f F_number_by (hr.mono (by omega)) (by rfl) T.g_number_by (pa_cons (pe_ix ix_list (pv 0) pe_int (fun _ _ => rfl)) (pa_cons pe_int pa_nil))) pa_nil)) (pv 1)) (pv 2)))
      pss_nil)))), ?_⟩
  try dsimp only [cxOf, Cx.nox, Cx.wish]
  repeat walk_at "w"
  refine w_lenL hx ?_
  repeat walk_at "w"
  rw [decide_eq_true (show ((([D.str (numS b), D.str (dotS c), D.str (numS d), D.str (dotS e), D.str (numS f)] : List D).length : Nat) : Int) = 5 from rfl)]
  repeat walk_at "w"
  refine Sp1.mk ⟨c, hc, rfl, fun H1 s1 => ?_⟩
  repeat walk_at "w"
  refine Sp2.mk ⟨_, d, 65535, numOk_num hd.1 (by omega), hd.2, rfl, rfl, fun H2 s2 => ?_⟩
  repeat walk_at "w"
  walk_at "newT"
  intro u3 H3 s3 hu3
  repeat walk_at "w"
  refine Sp1.mk ⟨e, he, rfl, fun H4 s4 => ?_⟩
  repeat walk_at "w"
  refine Sp2.mk ⟨_, f, 65535, numOk_num hf.1 (by omega), hf.2, rfl, rfl, fun H5 s5 => ?_⟩
  repeat walk_at "w"
  walk_at "newT"
  intro u6 H6 s6 hu6
  repeat walk_at "w"
  refine Sp2.mk ⟨_, b, 255, numOk_num hb.1 (by omega), hb.2, rfl, rfl, fun H7 s7 => ?_⟩
  repeat walk_at "w"
  walk_at "newT"
  intro u8 H8 s8 hu8
  repeat walk_at "w"
  refine catA hu8 (hu3.up (by walk_at "ext")) (by simp) fun u9 H9 s9 hu9 => ?_
  repeat walk_at "w"
  refine catA hu9 (hu6.up (by walk_at "ext")) (by simp) fun u10 H10 s10 hu10 => ?_
  exact k _ _ (by walk_at "same") hu10
def sp_read_parcel (K : PySem.W.Frag) : Sp := Sp1 fun x H Q => ∃ (pt : List Int), PtOk pt ∧ Dt K H x (.lst ((parW pt).map D.str)) ∧ ∀ v H', Same H H' → Dt K H' v (eInts pt) → Q v H'
def sN_read_parcel : List Str := ["words"]
theorem sc_read_parcel : FnScope sN_read_parcel ["words"] (defScope s_read_parcel) := ⟨rfl, rfl, rfl, by decide +kernel, rfl, by decide +kernel, by decide +kernel⟩

theorem ok_read_parcel (T : Tx K mg) : Fd P w K mg base 5 (He.ga K "read_parcel") ["words"] (sp_read_parcel K) := by
  have F_number_by := ok_number_by (P := P) (w := w) (base := base) T
  have F_read_label := ok_read_label (P := P) (w := w) (base := base) T
  refine mkFd T.d_read_parcel sc_read_parcel (fun _ _ _ _ _ _ us hl => match us, hl with | [_], _ => rfl) (fun vs H Q E h => Sp1.len h) (fun cdv A outer s H vs Q E hr h => ?_)
  obtain ⟨x, rfl, pt, ⟨a, b, c, d, e, f, rfl, ha, hb, hc, hd, he, hf⟩, hx, k⟩ := h
  refine ⟨_, (pss_cons (ps_if (pt_cmpR op_ne (pe_callB cl_lenQ (by rfl) T.b_len PySem.boot_len (pa_cons (pv 0) pa_nil)) pe_int (nomark _)) (pss_cons ps_never
      pss_nil) pss_nil)
      (pss_cons (ps_ret (pe_op op_catA (pe_tup (pa_cons (pe_f F_number_by (hr.mono (by omega)) (by rfl) T.g_number_by (pa_cons (pe_ix ix_list (pv 0) pe_int (fun _ _ => rfl)) (pa_cons pe_int pa_nil))) pa_nil)) (pe_f F_read_label (hr.mono (by omega)) (by rfl) T.g_read_label (pa_cons (pe_fz (pe_slice sl_list (pv 0) (po_some pe_int) po_none)) pa_nil))))
      pss_nil)), ?_⟩
  have hx : Dt K H x (.lst [.str (numS a), .str (numS b), .str (dotS c), .str (numS d), .str (dotS e), .str (numS f)]) := hx
  try dsimp only [cxOf, Cx.nox, Cx.wish]
  repeat walk_at "w"
  refine w_lenL hx ?_
  repeat walk_at "w"
  rw [decide_eq_true (show ((([D.str (numS a), D.str (numS b), D.str (dotS c), D.str (numS d), D.str (dotS e), D.str (numS f)] : List D).length : Nat) : Int) = 6 from rfl)]
  repeat walk_at "w"
  refine Sp2.mk ⟨_, a, 3, numOk_num ha.1 (by omega), ha.2, rfl, rfl, fun H1 s1 => ?_⟩
  repeat walk_at "w"
  walk_at "newT"
  intro u2 H2 s2 hu2
  repeat walk_at "w"
  refine sl_F (H := H2) (hx.up (by walk_at "ext")) fun u3 H3 s3 hu3 => ?_
  rw [show (1 : Int) = ((1 : Nat) : Int) from rfl, cutL_from] at hu3
  repeat walk_at "w"
  refine Sp1.mk ⟨b, c, d, e, f, hb, hc, hd, he, hf, hu3, fun v4 H4 s4 hv4 => ?_⟩
  refine catA (hu2.up (by walk_at "ext")) hv4 (by simp) fun u5 H5 s5 hu5 => ?_
  exact k _ _ (by walk_at "same") hu5
def sp_read_order (K : PySem.W.Frag) : Sp := Sp1 fun x H Q => ∃ (o : Ord), OrdOk o ∧ Dt K H x (.lst ((ordW o).map D.str)) ∧ ∀ v H', Same H H' → Dt K H' v (eOrd o) → Q v H'
def sN_read_order : List Str := ["words", "many", "times"]
theorem sc_read_order : FnScope sN_read_order ["words"] (defScope s_read_order) := ⟨rfl, rfl, rfl, by decide +kernel, rfl, by decide +kernel, by decide +kernel⟩

theorem ok_read_order (T : Tx K mg) : Fd P w K mg base 6 (He.ga K "read_order") ["words"] (sp_read_order K) := by
  have F_is_name := ok_is_name (P := P) (w := w) (base := base) T
  have F_read_parcel := ok_read_parcel (P := P) (w := w) (base := base) T
  refine mkFd T.d_read_order sc_read_order (fun _ _ _ _ _ _ us hl => match us, hl with | [_], _ => rfl) (fun vs H Q E h => Sp1.len h) (fun cdv A outer s H vs Q E hr h => ?_)
  obtain ⟨x, rfl, o, ho, hx, k⟩ := h
  refine ⟨_, (pss_cons (ps_set (i := 1) sc_read_order.nd rfl (.inl rfl) (pe_op op_sub (pe_callB cl_lenQ (by rfl) T.b_len PySem.boot_len (pa_cons (pv 0) pa_nil)) pe_int))
      (pss_cons (ps_if (PW.pt (pw_or (pt_cmpR op_lt (pv 1) pe_int (nomark _)) (pw_or1 (pt_not (pt_val (pe_f F_is_name (hr.mono (by omega)) (by rfl) T.g_is_name (pa_cons (pe_ix ix_list (pv 0) pe_int (fun _ _ => rfl)) pa_nil))))))) (pss_cons ps_never
      pss_nil) pss_nil)
      (pss_cons (ps_if (PW.pt (pw_and (pt_cmpR op_in_seq (pe_ix ix_list (pv 0) pe_int (fun _ _ => rfl)) (pe_tup (pa_cons pe_str (pa_cons pe_str (pa_cons pe_str (pa_cons pe_str (pa_cons pe_str pa_nil)))))) (by rfl)) (pw_and1 (pt_cmpR op_eq (pv 1) pe_int (nomark _))))) (pss_cons (ps_ret (pe_tup (pa_cons (pe_ix ix_list (pv 0) pe_int (fun _ _ => rfl)) (pa_cons (pe_ix ix_list (pv 0) pe_int (fun _ _ => rfl)) pa_nil))))
      pss_nil) pss_nil)
      (pss_cons (ps_if (PW.pt (pw_and (pt_cmpR op_in_seq (pe_ix ix_list (pv 0) pe_int (fun _ _ => rfl)) (pe_tup (pa_cons pe_str (pa_cons pe_str pa_nil))) (by rfl)) (pw_and (pt_cmpR op_eq (pv 1) pe_int (nomark _)) (pw_and1 (pt_val (pe_f F_is_name (hr.mono (by omega)) (by rfl) T.g_is_name (pa_cons (pe_ix ix_list (pv 0) pe_int (fun _ _ => rfl)) pa_nil))))))) (pss_cons (ps_ret (pe_tup (pa_cons (pe_ix ix_list (pv 0) pe_int (fun _ _ => rfl)) (pa_cons (pe_ix ix_list (pv 0) pe_int (fun _ _ => rfl)) (pa_cons (pe_ix ix_list (pv 0) pe_int (fun _ _ => rfl)) pa_nil)))))
      pss_nil) pss_nil)
      (pss_cons (ps_if (pt_cmpR op_in_seq (pe_ix ix_list (pv 0) pe_int (fun _ _ => rfl)) (pe_tup (pa_cons pe_str (pa_cons pe_str pa_nil))) (by rfl)) (pss_cons (ps_ret (pe_tup (pa_cons (pe_ix ix_list (pv 0) pe_int (fun _ _ => rfl)) (pa_cons (pe_ix ix_list (pv 0) pe_int (fun _ _ => rfl)) (pa_cons (pe_f F_read_parcel (hr.mono (by omega)) (by rfl) T.g_read_parcel (pa_cons (pe_fz (pe_slice sl_list (pv 0) (po_some pe_int) po_none)) pa_nil)) pa_nil)))))
      pss_nil) pss_nil)
      (pss_cons (ps_if (PW.pt (pw_and (pt_cmpR op_eq (pe_ix ix_list (pv 0) pe_int (fun _ _ => rfl)) pe_str (nomark _)) (pw_and1 (pt_cmpR op_eq (pv 1) pe_int (nomark _))))) (pss_cons ps_never
      (pss_cons ps_never
      pss_nil)) pss_nil)
      (pss_cons (ps_if (PW.pt (pw_and (pt_cmpR op_eq (pe_ix ix_list (pv 0) pe_int (fun _ _ => rfl)) pe_str (nomark _)) (pw_and1 (pt_cmpR op_gt (pv 1) pe_int (nomark _))))) (pss_cons ps_never
      pss_nil) pss_nil)
      (pss_cons ps_never
      pss_nil)))))))), ?_⟩
  cases o with
  | one wd n =>
    obtain ⟨hw, hn⟩ := ho
    have hnl := isName_len hn
    have hx : Dt K H x (.lst [.str wd, .str n]) := hx
    try dsimp only [cxOf, Cx.nox, Cx.wish]
    repeat walk_at "w"
    refine w_lenL hx ?_
    repeat walk_at "w"
    rw [show ((([D.str wd, D.str n] : List D).length : Nat) : Int) - 1 = 1 from rfl]
    repeat walk_at "w"
    rw [decide_eq_false (show ¬ ((1 : Int) < 1) by decide)]
    repeat walk_at "w"
    refine Sp1.mk ⟨n, by omega, rfl, fun H1 s1 => ?_⟩
    rw [hn]
    repeat walk_at "w"
    walk_at "newT"
    intro u2 H2 s2 hu2
    refine in_T (ss := ["book", "show", "boxes", "never", "talks"]) hu2 ?_
    rw [if_neg Bool.false_ne_true, decide_eq_true (show wd ∈ (["book", "show", "boxes", "never", "talks"] : List Str) by rcases hw with rfl | rfl | rfl | rfl <;> simp)]
    repeat walk_at "w"
    rw [decide_eq_true (show (1 : Int) = 1 from rfl)]
    repeat walk_at "w"
    walk_at "newT"
    intro u3 H3 s3 hu3
    exact k _ _ (by walk_at "same") hu3
  | two wd n m =>
    obtain ⟨hw, hn, hm⟩ := ho
    have hnl := isName_len hn
    have hml := isName_len hm
    have hx : Dt K H x (.lst [.str wd, .str n, .str m]) := hx
    try dsimp only [cxOf, Cx.nox, Cx.wish]
    repeat walk_at "w"
    refine w_lenL hx ?_
    repeat walk_at "w"
    rw [show ((([D.str wd, D.str n, D.str m] : List D).length : Nat) : Int) - 1 = 2 from rfl]
    repeat walk_at "w"
    rw [decide_eq_false (show ¬ ((2 : Int) < 1) by decide)]
    repeat walk_at "w"
    refine Sp1.mk ⟨n, by omega, rfl, fun H1 s1 => ?_⟩
    rw [hn]
    repeat walk_at "w"
    walk_at "newT"
    intro u2 H2 s2 hu2
    refine in_T (ss := ["book", "show", "boxes", "never", "talks"]) hu2 ?_
    rw [if_neg Bool.false_ne_true, decide_eq_false (show ¬ wd ∈ (["book", "show", "boxes", "never", "talks"] : List Str) by rcases hw with rfl | rfl <;> decide +kernel)]
    repeat walk_at "w"
    walk_at "newT"
    intro u3 H3 s3 hu3
    refine in_T (ss := ["alike", "shorter"]) hu3 ?_
    rw [if_neg Bool.false_ne_true, decide_eq_true (show wd ∈ (["alike", "shorter"] : List Str) by rcases hw with rfl | rfl <;> simp)]
    repeat walk_at "w"
    rw [decide_eq_true (show (2 : Int) = 2 from rfl)]
    repeat walk_at "w"
    refine Sp1.mk ⟨m, by omega, rfl, fun H4 s4 => ?_⟩
    rw [hm]
    repeat walk_at "w"
    walk_at "newT"
    intro u5 H5 s5 hu5
    exact k _ _ (by walk_at "same") hu5
  | word n pt =>
    obtain ⟨hn, hpt⟩ := ho
    have hnl := isName_len hn
    have hx : Dt K H x (.lst (.str "word" :: .str n :: (parW pt).map D.str)) := hx
    have h6 : (parW pt).length = 6 := by
      obtain ⟨a, b, c, d, e, f, rfl, _⟩ := hpt.ex
      rfl
    try dsimp only [cxOf, Cx.nox, Cx.wish]
    repeat walk_at "w"
    refine w_lenL hx ?_
    repeat walk_at "w"
    rw [show ((((.str "word" :: .str n :: (parW pt).map D.str) : List D).length : Nat) : Int) - 1 = 7 by simp [h6]]
    repeat walk_at "w"
    rw [decide_eq_false (show ¬ ((7 : Int) < 1) by decide)]
    repeat walk_at "w"
    refine Sp1.mk ⟨n, by omega, rfl, fun H1 s1 => ?_⟩
    rw [hn]
    repeat walk_at "w"
    walk_at "newT"
    intro u2 H2 s2 hu2
    refine in_T (ss := ["book", "show", "boxes", "never", "talks"]) hu2 ?_
    rw [if_neg Bool.false_ne_true, decide_eq_false (show ¬ ("word" : Str) ∈ (["book", "show", "boxes", "never", "talks"] : List Str) by decide +kernel)]
    repeat walk_at "w"
    walk_at "newT"
    intro u3 H3 s3 hu3
    refine in_T (ss := ["alike", "shorter"]) hu3 ?_
    rw [if_neg Bool.false_ne_true, decide_eq_false (show ¬ ("word" : Str) ∈ (["alike", "shorter"] : List Str) by decide +kernel)]
    repeat walk_at "w"
    walk_at "newT"
    intro u4 H4 s4 hu4
    refine in_T (ss := ["word", "path"]) hu4 ?_
    rw [if_neg Bool.false_ne_true, decide_eq_true (show ("word" : Str) ∈ (["word", "path"] : List Str) by simp)]
    repeat walk_at "w"
    refine sl_F (H := H4) (hx.up (by walk_at "ext")) fun u5 H5 s5 hu5 => ?_
    rw [show (2 : Int) = ((2 : Nat) : Int) from rfl, cutL_from] at hu5
    repeat walk_at "w"
    refine Sp1.mk ⟨pt, hpt, hu5, fun v6 H6 s6 hv6 => ?_⟩
    repeat walk_at "w"
    walk_at "newT"
    intro u7 H7 s7 hu7
    exact k _ _ (by walk_at "same") hu7
end
end
section
open PySem PySem.Spec PyProof.Rows L2 TL
def nevW (B : Book) : List Str := ((reachB B).filter fun r => r.2.2.isNone).map fun r => r.1 ++ " " ++ numS (r.2.1 : Nat)
def neverS (B : Book) : Str := if nevW B = [] then "none" else Txt.join " " (nevW B)
def alikeS (B C : Book) : Str := match partB B C with
  | none => "alike"
  | some p => parS p
theorem corner_ok {b : Box} (h : BoxIn b every) : PtOk (corner b) := by
  have h6 : b.length = 6 := h.len
  match b, h with
  | [a0, a1, a2, a3, a4, a5], h =>
    obtain ⟨h0, h1, h2, h3, h4, h5, _⟩ := h
    unfold StIn at *
    simp at h0 h1 h2 h3 h4 h5
    exact ⟨a0.1, a1.1, a2.1, a3.1, a4.1, a5.1, rfl, by omega, by omega, ⟨by omega, by omega⟩, by omega, ⟨by omega, by omega⟩, by omega⟩
theorem part_ok {B C : Book} (hB : BookOk B) (hC : BookOk C) {p : List Int} (h : partB B C = some p) : PtOk p := by
  unfold partB at h
  rw [Option.map_eq_some_iff] at h
  obtain ⟨j, h1, rfl⟩ := h
  exact corner_ok (jo_in hB hC (List.mem_of_find?_eq_some h1))
section
variable {P : Program} {w : World} {K : PySem.W.Frag} {mg : Str → Option Value} {base : Heap}
def sp_never_of (K : PySem.W.Frag) : Sp := Sp1 fun x H Q => ∃ (B : Book), BookOk B ∧ (∀ p ∈ B.chains, p.1.length ≤ 12) ∧ Dt K H x (.bok B) ∧ ∀ H', Same H H' → Q (.str (neverS B)) H'
def sN_never_of : List Str := ["book", "words", "name", "index", "parcel"]
theorem sc_never_of : FnScope sN_never_of ["book"] (defScope s_never_of) := ⟨rfl, rfl, rfl, by decide +kernel, rfl, by decide +kernel, by decide +kernel⟩

theorem ok_never_of (T : Tx K mg) : Fd P w K mg base 8 (He.ga K "never_of") ["book"] (sp_never_of K) := by
  have F_reached := ok_reached (P := P) (w := w) (base := base) T
  refine mkFd T.d_never_of sc_never_of (fun _ _ _ _ _ _ us hl => match us, hl with | [_], _ => rfl) (fun vs H Q E h => Sp1.len h) (fun cdv A outer s H vs Q E hr h => ?_)
  obtain ⟨x, rfl, B, hB, hnm, hx, k⟩ := h
  have hrl := reachB_len hB
  refine ⟨_, (pss_cons (ps_set (i := 1) sc_never_of.nd rfl (.inl rfl) (pe_lst pa_nil))
      (pss_cons (ps_for PassesOwn.never rfl (pi_list (pe_f F_reached (hr.mono (by omega)) (by rfl) T.g_reached (pa_cons (pv 0) pa_nil))) (pg_tup rfl (pgs_cons (pg_name (i := 2) sc_never_of.nd rfl (.inl rfl)) (pgs_cons (pg_name (i := 3) sc_never_of.nd rfl (.inl rfl)) (pgs_cons (pg_name (i := 4) sc_never_of.nd rfl (.inl rfl)) pgs_nil)))) (pss_cons (ps_if (pt_cmpR op_isN1 (pv 4) pe_non (nomark _)) (pss_cons (ps_expr (pe_bm PySem.F.plainAttrs_list PySem.F.slot_list_append PySem.F.type_list_append mt_append (pv 1) (pa_cons (pe_jn (.cons (pe_fmt (pv 2)) (.cons pe_str (.cons (pe_fmt (pv 3)) .nil)))) pa_nil)))
      pss_nil) pss_nil)
      pss_nil))
      (pss_cons (ps_if (pt_cmpR (op_eqG hr.units) (pv 1) (pe_fz (pe_lst pa_nil)) (nomark _)) (pss_cons (ps_ret pe_str)
      pss_nil) pss_nil)
      (pss_cons (ps_ret (pe_joinR pe_str (pv 1)))
      pss_nil)))), ?_⟩
  try dsimp only [cxOf, Cx.nox, Cx.wish]
  repeat walk_at "w"
  walk_at "newO"
  intro p H1 np s1 o1
  repeat walk_at "w"
  refine Sp1.mk ⟨B, hB, hx.up (by walk_at "ext"), fun v2 H2 s2 hv2 => ?_⟩
  repeat walk_at "w"
  refine i_list hv2 (Ext.refl _) fun J it => ?_
  have hel : ∀ (r : Str × Nat × Option (List Int)), r ∈ reachB B → r.1.length ≤ 12 ∧ r.2.1 ≤ 1000 := by
    rintro ⟨n, i, o⟩ hr
    obtain ⟨rs, h1, h2, _⟩ := reachB_mem.mp hr
    have := hB.ok.smalls _ h1
    exact ⟨hnm _ h1, by simp only at h2 this ⊢; omega⟩
  refine f_for it (fun i σ H' => ∃ e2 e3 e4, σ = [some x, some (.ref p), e2, e3, e4] ∧ Same H H' ∧ Ext H2 H' ∧ Ow K H' p (((((reachB B).take i).filter fun r => r.2.2.isNone).map fun r => r.1 ++ " " ++ numS (r.2.1 : Nat)).map D.str)) ⟨_, _, _, rfl, (by walk_at "same"), Ext.refl _, o1.up s2⟩ (fun i σ H' ⟨_, _, _, _, _, x, _⟩ => x) ?_ ?_
  · rintro i d u σ H' H3 e1 ⟨_, _, _, rfl, s3, x3, o3⟩ s4 hu
    rw [List.getElem?_map, Option.map_eq_some_iff] at e1
    obtain ⟨⟨n, j, o⟩, e1, rfl⟩ := e1
    have hi := (List.getElem?_eq_some_iff.mp e1).1
    obtain ⟨hnl, hjl⟩ := hel _ (List.mem_of_getElem? e1)
    simp only at hnl hjl
    have hu : Dt K H3 u (.tup [.str n, .int (j : Nat), eOI o]) := hu
    have htk : (reachB B).take (i + 1) = (reachB B).take i ++ [(n, j, o)] := by
      rw [List.take_succ, e1]
      rfl
    rw [htk, List.filter_append, List.map_append]
    have hal : (((reachB B).take i).filter fun r => r.2.2.isNone).length ≤ 100000 := by
      refine Nat.le_trans (List.length_filter_le _ _) ?_
      rw [List.length_take]
      omega
    have hjn : (Str.ofString (toString ((j : Nat) : Int))).length ≤ 10 := numS_len10 (by omega) (by omega)
    repeat walk_at "w"
    cases o with
    | some pt =>
      obtain ⟨a, vs, rfl, z4, z5⟩ := Dt.tupI hu_
      repeat walk_at "w"
      exact ⟨_, _, _, rfl, (by walk_at "same"), (by walk_at "ext"), by simpa using o3.up s4⟩
    | none =>
      cases hu_
      repeat walk_at "w"
      refine w_tyO (o3.up s4) ?_
      repeat walk_at "w"
      refine fmtS (by omega) ?_
      refine w_j1 (by rw [empty_app]; omega) ?_
      rw [empty_app]
      repeat walk_at "w"
      refine w_j1 (by rw [len_app, show (" " : Str).length = 1 from rfl]; omega) ?_
      repeat walk_at "w"
      refine fmtI (log_small (by omega) (by omega)) ?_
      refine w_j1 (by rw [len_app, len_app, show (" " : Str).length = 1 from rfl]; omega) ?_
      repeat walk_at "w"
      refine w_appS (d := .str (n ++ " " ++ numS (j : Nat))) (o3.up s4) (.str _) (by rw [List.length_map, List.length_map]; omega) (Hb := H) (by walk_at "same") np fun H4 b4 x4 s5 o5 => ?_
      repeat walk_at "w"
      exact ⟨_, _, _, rfl, s5, (by walk_at "ext"), by simpa using o5⟩
  · rintro σ H' ⟨_, _, _, rfl, s3, x3, o3⟩
    rw [List.length_map, List.take_length] at o3
    have o3 : Ow K H' p ((nevW B).map D.str) := o3
    have kk := fun H' => k H'
    unfold neverS at kk
    repeat walk_at "w"
    walk_at "newF"
    intro u4 H4 s4 hu4
    refine w_eqGO (l := nevW B) (b := []) (o3.up s4) hu4 (by decide) ?_
    by_cases hw : nevW B = []
    · rw [if_pos hw] at kk
      rw [decide_eq_true hw]
      repeat walk_at "w"
      exact kk H4 (by walk_at "same")
    · rw [if_neg hw] at kk
      rw [decide_eq_false hw]
      repeat walk_at "w"
      refine s_join (o3.up s4).ls (sum_bound (k := 40) (n := 100000) (fun s hs => ?_) ?_ _ rfl (by decide)) (kk H4 (by walk_at "same"))
      · obtain ⟨r, h1, rfl⟩ := List.mem_map.mp hs
        obtain ⟨h2, h3⟩ := hel r (List.mem_filter.mp h1).1
        have h4 := numS_len10 (n := (r.2.1 : Nat)) (by omega) (by omega)
        rw [len_app, len_app, show (" " : Str).length = 1 from rfl]
        omega
      · unfold nevW
        rw [List.length_map]
        exact Nat.le_trans (List.length_filter_le _ _) hrl
def sp_alike_of (K : PySem.W.Frag) : Sp := Sp2 fun x y H Q => ∃ (B C : Book), BookOk B ∧ BookOk C ∧ Dt K H x (.bok B) ∧ Dt K H y (.bok C) ∧ ∀ H', Same H H' → Q (.str (alikeS B C)) H'
def sN_alike_of : List Str := ["one", "other", "parcel"]
theorem sc_alike_of : FnScope sN_alike_of ["one", "other"] (defScope s_alike_of) := ⟨rfl, rfl, rfl, by decide +kernel, rfl, by decide +kernel, by decide +kernel⟩

theorem ok_alike_of (T : Tx K mg) : Fd P w K mg base 9 (He.ga K "alike_of") ["one", "other"] (sp_alike_of K) := by
  have F_parting := ok_parting (P := P) (w := w) (base := base) T
  have F_show_parcel := ok_show_parcel (P := P) (w := w) (base := base) T
  refine mkFd T.d_alike_of sc_alike_of (fun _ _ _ _ _ _ us hl => match us, hl with | [_, _], _ => rfl) (fun vs H Q E h => Sp2.len h) (fun cdv A outer s H vs Q E hr h => ?_)
  obtain ⟨x, y, rfl, B, C, hB, hC, hx, hy, k⟩ := h
  refine ⟨_, (pss_cons (ps_set (i := 2) sc_alike_of.nd rfl (.inl rfl) (pe_f F_parting (hr.mono (by omega)) (by rfl) T.g_parting (pa_cons (pv 0) (pa_cons (pv 1) pa_nil))))
      (pss_cons (ps_if (pt_cmpR op_isN1 (pv 2) pe_non (nomark _)) (pss_cons (ps_ret pe_str)
      pss_nil) pss_nil)
      (pss_cons (ps_ret (pe_f F_show_parcel (hr.mono (by omega)) (by rfl) T.g_show_parcel (pa_cons (pv 2) pa_nil)))
      pss_nil))), ?_⟩
  try dsimp only [cxOf, Cx.nox, Cx.wish]
  repeat walk_at "w"
  refine Sp2.mk ⟨B, C, hB, hC, hx, hy, fun v1 H1 s1 hv1 => ?_⟩
  unfold alikeS at k
  repeat walk_at "w"
  cases hp : partB B C with
  | none =>
    rw [hp] at hv1 k
    cases hv1
    repeat walk_at "w"
    exact k _ s1
  | some pt =>
    rw [hp] at hv1 k
    obtain ⟨a, vs, rfl, z4, z5⟩ := Dt.tupI hv1
    repeat walk_at "w"
    refine Sp1.mk ⟨pt, part_ok hB hC hp, hv1, fun H2 s2 => ?_⟩
    exact k _ (by walk_at "same")
end
end
section
open PySem PySem.Spec PyProof.Rows L2 TL
abbrev eBk (p : Str × Book) : Str × D := (p.1, .bok p.2)
abbrev Bks := List (Str × Book)
structure DeskAt (K : PySem.W.Frag) (H : Hp) (x : V) (a bd : Addr) (bks : Bks) : Prop where
  x : x = .ref a
  at_ : ∃ dx gd, H a = some (.ins (cDesk K) dx [("books", .ref bd), ("gates", .ref gd)])
  bks : OdS K H bd (bks.map eBk)
theorem DeskAt.up {K : PySem.W.Frag} {H H' : Hp} {x : V} {a bd : Addr} {bks : Bks} (s : Same H H') (h : DeskAt K H x a bd bks) : DeskAt K H' x a bd bks :=
  ⟨h.x, let ⟨dx, gd, e⟩ := h.at_; ⟨dx, gd, s _ _ e⟩, h.bks.up s⟩
theorem look_eBk (bks : Bks) (n : Str) : lookD (bks.map eBk) n = (lookD bks n).map D.bok := look_map D.bok bks n
theorem put_eBk (bks : Bks) (n : Str) (B : Book) : putD (bks.map eBk) n (.bok B) = (putD bks n B).map eBk := by
  unfold putD
  have e : (bks.map eBk).any (fun p => decide (p.1 = n)) = bks.any fun p => decide (p.1 = n) := by
    rw [List.any_map]
    rfl
  rw [e]
  split
  · rw [List.map_map, List.map_map]
    refine List.map_congr_left fun p _ => ?_
    simp only [Function.comp]
    split <;> rfl
  · rw [List.map_append]
    rfl
inductive AskOk (bks : Bks) : Ord → Str → Prop where
  | show {n : Str} {B : Book} : lookD bks n = some B → BookTx B → AskOk bks (.one "show" n) (bookS shP B.dflt B.chains)
  | boxes {n : Str} {B : Book} : lookD bks n = some B → BookOk B → AskOk bks (.one "boxes" n) (numS ((lookB B every).length : Nat))
  | never {n : Str} {B : Book} : lookD bks n = some B → BookOk B → (∀ p ∈ B.chains, p.1.length ≤ 12) → AskOk bks (.one "never" n) (neverS B)
  | alike {n m : Str} {B C : Book} : lookD bks n = some B → lookD bks m = some C → BookOk B → BookOk C → AskOk bks (.two "alike" n m) (alikeS B C)
  | word {n : Str} {B : Book} {pt : List Int} : lookD bks n = some B → BookOk B → PtOk pt → AskOk bks (.word n pt) (wordB 2 B pt)
theorem But.trans' {p : Addr} {H H1 H2 : Hp} (b : But p H1 H2) (a : Same H H1) : But p H H2 := fun c o n e => b c o n (a c o e)
section
variable {P : Program} {w : World} {K : PySem.W.Frag} {mg : Str → Option Value} {base : Heap}
theorem m_desk {H : Hp} {x : V} {a bd : Addr} {bks : Bks} {σ : L2.St} {tr : TA} {sp : Sp} {Q : VK} {E : XK} {m : Str} (h : DeskAt K H x a bd bks) (k : tr σ H fun vs H2 => sp (x :: vs) H2 Q E) (hm : m ≠ "books" ∧ m ≠ "gates" := by decide) : rMeth (cDesk K) m sp E tr σ Q x H := by
  obtain ⟨rfl, ⟨dx, gd, e⟩, _⟩ := h
  exact ⟨_, _, _, rfl, e, by simp only [List.lookup, beq_eq_false_iff_ne.mpr hm.1, beq_eq_false_iff_ne.mpr hm.2], by rw [app_nil]; exact k⟩
theorem fl_books (T : Tx K mg) {H : Hp} {x : V} {a bd : Addr} {bks : Bks} {Q : VK} (h : DeskAt K H x a bd bks) (k : Q (.ref bd) H) : rFld K "books" x H Q := by
  obtain ⟨rfl, ⟨dx, gd, e⟩, _⟩ := h
  exact ⟨_, _, _, _, _, rfl, e, T.c_Desk, T.n_Desk_books, rfl, k⟩
def sp_Desk_init (K : PySem.W.Frag) : Sp := Sp1 fun x H Q => ∃ (a dx : Addr) (H0 : Hp), x = .ref a ∧ H0 a = none ∧ Same H0 H ∧ H a = some (.ins (cDesk K) dx []) ∧ ∀ H' bd, Same H0 H' → H0 bd = none → DeskAt K H' (.ref a) a bd [] → Q .non H'
def sN_Desk_init : List Str := ["self"]
theorem sc_Desk_init : FnScope sN_Desk_init ["self"] (defScope s_Desk_init) := ⟨rfl, rfl, rfl, by decide +kernel, rfl, by decide +kernel, by decide +kernel⟩

theorem ok_Desk_init (T : Tx K mg) : Fd P w K mg base 1 (He.ma K (He.ga K "Desk") "__init__") ["self"] (sp_Desk_init K) := by
  refine mkFd T.d_Desk_init sc_Desk_init (fun _ _ _ _ _ _ us hl => match us, hl with | [_], _ => rfl) (fun vs H Q E h => Sp1.len h) (fun cdv A outer s H vs Q E hr h => ?_)
  obtain ⟨x, rfl, a, dx, H0, rfl, na, s0, ha, k⟩ := h
  refine ⟨_, (pss_cons (ps_fld (pv 0) pe_dnewK rfl)
      (pss_cons (ps_fld (pv 0) pe_dnewK rfl)
      pss_nil)), ?_⟩
  try dsimp only [cxOf, Cx.nox, Cx.wish]
  repeat walk_at "w"
  refine w_dnewK (K := K) fun c H1 nc s1 o1 => ?_
  have nc0 : H0 c = none := s0.free nc
  have hca : c ≠ a := fun e => by rw [e, ha] at nc; cases nc
  repeat walk_at "w"
  refine ⟨a, _, dx, _, rfl, s1 _ _ ha, T.c_Desk, T.n_Desk_books, by simp, ?_⟩
  generalize hH2 : upd H1 a (.ins (cDesk K) dx (putF "books" (.ref c) [])) = H2
  have s2 : Same H0 H2 := by rw [← hH2]; exact (But.upd a H1 _).same (s1.tr s0) na
  have ha2 : H2 a = some (.ins (cDesk K) dx [("books", .ref c)]) := by rw [← hH2]; exact upd_same
  have o2 : OdS K H2 c [] := by
    obtain ⟨kvs, e1, e2⟩ := o1.ex
    cases e2
    exact ⟨[], by rw [← hH2, upd_ne hca]; exact e1, .nil⟩
  repeat walk_at "w"
  refine w_dnewK (K := K) fun c2 H3 nc2 s3 o3 => ?_
  repeat walk_at "w"
  refine ⟨a, _, dx, _, rfl, s3 _ _ ha2, T.c_Desk, T.n_Desk_gates, by simp, ?_⟩
  generalize hH4 : upd H3 a (.ins (cDesk K) dx (putF "gates" (.ref c2) [("books", .ref c)])) = H4
  have s4 : Same H0 H4 := by rw [← hH4]; exact (But.upd a H3 _).same (s3.tr s2) na
  have ha4 : H4 a = some (.ins (cDesk K) dx [("books", .ref c), ("gates", .ref c2)]) := by rw [← hH4]; exact upd_same
  have o4 : OdS K H4 c [] := by
    obtain ⟨kvs, e1, e2⟩ := (o2.up s3).ex
    cases e2
    exact ⟨[], by rw [← hH4, upd_ne hca]; exact e1, .nil⟩
  repeat walk_at "w"
  exact k H4 c s4 nc0 ⟨rfl, ⟨dx, c2, ha4⟩, o4⟩
def sp_Desk_book_of (K : PySem.W.Frag) : Sp := Sp2 fun x y H Q => ∃ (a bd : Addr) (bks : Bks) (n : Str) (B : Book), DeskAt K H x a bd bks ∧ y = .str n ∧ lookD bks n = some B ∧ ∀ u, Dt K H u (.bok B) → Q u H
def sN_Desk_book_of : List Str := ["self", "name"]
theorem sc_Desk_book_of : FnScope sN_Desk_book_of ["self", "name"] (defScope s_Desk_book_of) := ⟨rfl, rfl, rfl, by decide +kernel, rfl, by decide +kernel, by decide +kernel⟩

theorem ok_Desk_book_of (T : Tx K mg) : Fd P w K mg base 1 (He.ma K (He.ga K "Desk") "book_of") ["self", "name"] (sp_Desk_book_of K) := by
  refine mkFd T.d_Desk_book_of sc_Desk_book_of (fun _ _ _ _ _ _ us hl => match us, hl with | [_, _], _ => rfl) (fun vs H Q E h => Sp2.len h) (fun cdv A outer s H vs Q E hr h => ?_)
  obtain ⟨x, y, rfl, a, bd, bks, n, B, hd, rfl, hl, k⟩ := h
  have hl2 : lookD (bks.map eBk) n = some (.bok B) := by rw [look_eBk, hl]; rfl
  refine ⟨_, (pss_cons (ps_if (pt_cmp (pc_dnotin (hu_of hr) (pv 1) (pe_fld (pv 0) rfl))) (pss_cons ps_never
      pss_nil) pss_nil)
      (pss_cons (ps_ret (pe_dget (hu_of hr) (pe_fld (pv 0) rfl) (pv 1) (fun _ _ => rfl)))
      pss_nil)), ?_⟩
  try dsimp only [cxOf, Cx.nox, Cx.wish]
  repeat walk_at "w"
  refine fl_books T hd ?_
  refine dS_nin hd.bks.di ?_
  rw [hl2, isS1]
  repeat walk_at "w"
  refine fl_books T hd ?_
  repeat walk_at "w"
  refine dS_get hd.bks.di hl2 ?_
  exact At.of fun u hu => k u hu
def sp_Desk_keep (K : PySem.W.Frag) : Sp := Sp3 fun x y z H Q => ∃ (a bd : Addr) (bks : Bks) (n : Str) (B : Book), DeskAt K H x a bd bks ∧ y = .str n ∧ Dt K H z (.bok B) ∧ (0 ≤ B.total ∧ B.total ≤ 1000) ∧ bks.length ≤ 1000 ∧ ∀ H', But bd H H' → Ext H H' → DeskAt K H' x a bd (putD bks n B) → Q (.str ("ok " ++ numS B.total)) H'
def sN_Desk_keep : List Str := ["self", "name", "book"]
theorem sc_Desk_keep : FnScope sN_Desk_keep ["self", "name", "book"] (defScope s_Desk_keep) := ⟨rfl, rfl, rfl, by decide +kernel, rfl, by decide +kernel, by decide +kernel⟩

theorem ok_Desk_keep (T : Tx K mg) : Fd P w K mg base 2 (He.ma K (He.ga K "Desk") "keep") ["self", "name", "book"] (sp_Desk_keep K) := by
  have F_Book_length := ok_Book_length (P := P) (w := w) (base := base) T
  refine mkFd T.d_Desk_keep sc_Desk_keep (fun _ _ _ _ _ _ us hl => match us, hl with | [_, _, _], _ => rfl) (fun vs H Q E h => Sp3.len h) (fun cdv A outer s H vs Q E hr h => ?_)
  obtain ⟨x, y, z, rfl, a, bd, bks, n, B, hd, rfl, hz, ht, hl, k⟩ := h
  refine ⟨_, (pss_cons (ps_dput (hu_of hr) (pe_fld (pv 0) rfl) (pv 1) (pv 2) rfl)
      (pss_cons (ps_ret (pe_op op_addS pe_str (pe_callTy cl_strI (by rfl) T.b_str (by decide +kernel) (pa_cons (pe_m0 (pv 2) T.c_Book T.m_Book_length F_Book_length (hr.mono (by omega))) pa_nil))))
      pss_nil)), ?_⟩
  try dsimp only [cxOf, Cx.nox, Cx.wish]
  repeat walk_at "w"
  refine fl_books T hd ?_
  repeat walk_at "w"
  refine dS_put hd.bks hz (by rw [List.length_map]; omega) fun H1 b1 x1 o1 => ?_
  rw [put_eBk] at o1
  have hne : a ≠ bd := fun e => by
    obtain ⟨dx, gd, h1⟩ := hd.at_
    obtain ⟨kvs, h2, _⟩ := hd.bks.ex
    rw [e, h2] at h1
    cases h1
  have hd1 : DeskAt K H1 x a bd (putD bks n B) := ⟨hd.x, let ⟨dx, gd, e⟩ := hd.at_; ⟨dx, gd, b1 _ _ hne e⟩, o1⟩
  repeat walk_at "w"
  refine m_bok (hz.up x1) ?_
  repeat walk_at "w"
  refine Sp1.mk ⟨B, hz.up x1, ?_⟩
  repeat walk_at "w"
  refine w_strI (log_small ht.1 (by omega)) ?_
  have hn : (Str.ofString (toString B.total)).length ≤ 10 := numS_len10 ht.1 (by omega)
  refine w_addS (by rw [show ("ok " : Str).length = 3 from rfl]; omega) ?_
  exact k H1 b1 x1 hd1
theorem bookOk_chOk {B : Book} (h : BookOk B) : ChOk 6 B.chains := fun n rs e r hr => h.box6 n rs e r hr
def sp_Desk_asked (K : PySem.W.Frag) : Sp := Sp2 fun x y H Q => ∃ (a bd : Addr) (bks : Bks) (o : Ord) (z : Str), DeskAt K H x a bd bks ∧ AskOk bks o z ∧ Dt K H y (eOrd o) ∧ ∀ H', Same H H' → Q (.str z) H'
def sN_Desk_asked : List Str := ["self", "order", "book"]
theorem sc_Desk_asked : FnScope sN_Desk_asked ["self", "order"] (defScope s_Desk_asked) := ⟨rfl, rfl, rfl, by decide +kernel, rfl, by decide +kernel, by decide +kernel⟩

theorem ok_Desk_asked (T : Tx K mg) : Fd P w K mg base 10 (He.ma K (He.ga K "Desk") "asked") ["self", "order"] (sp_Desk_asked K) := by
  have F_Desk_book_of := ok_Desk_book_of (P := P) (w := w) (base := base) T
  have F_show_book := ok_show_book (P := P) (w := w) (base := base) T
  have F_looked := ok_looked (P := P) (w := w) (base := base) T
  have F_unfolded := ok_unfolded (P := P) (w := w) (base := base) T
  have F_every := ok_every (P := P) (w := w) (base := base) T
  have F_word_of := ok_word_of (P := P) (w := w) (base := base) T
  have F_alike_of := ok_alike_of (P := P) (w := w) (base := base) T
  have F_never_of := ok_never_of (P := P) (w := w) (base := base) T
  refine mkFd T.d_Desk_asked sc_Desk_asked (fun _ _ _ _ _ _ us hl => match us, hl with | [_, _], _ => rfl) (fun vs H Q E h => Sp2.len h) (fun cdv A outer s H vs Q E hr h => ?_)
  obtain ⟨x, y, rfl, a, bd, bks, o, z, hd, ha, hy, k⟩ := h
  refine ⟨_, (pss_cons (ps_set (i := 2) sc_Desk_asked.nd rfl (.inl rfl) (pe_m (pv 0) T.c_Desk T.m_Desk_book_of F_Desk_book_of (hr.mono (by omega)) (pa_cons (pe_ix ix_tup (pv 1) pe_int (fun _ _ => rfl)) pa_nil)))
      (pss_cons (ps_if (pt_cmpR op_eq (pe_ix ix_tup (pv 1) pe_int (fun _ _ => rfl)) pe_str (nomark _)) (pss_cons (ps_ret (pe_f F_show_book (hr.mono (by omega)) (by rfl) T.g_show_book (pa_cons (pv 2) pa_nil)))
      pss_nil) pss_nil)
      (pss_cons (ps_if (pt_cmpR op_eq (pe_ix ix_tup (pv 1) pe_int (fun _ _ => rfl)) pe_str (nomark _)) (pss_cons (ps_ret (pe_callTy cl_strI (by rfl) T.b_str (by decide +kernel) (pa_cons (pe_callB cl_lenQ (by rfl) T.b_len PySem.boot_len (pa_cons (pe_f F_looked (hr.mono (by omega)) (by rfl) T.g_looked (pa_cons (pe_f F_unfolded (hr.mono (by omega)) (by rfl) T.g_unfolded (pa_cons (pv 2) pa_nil)) (pa_cons (pe_fld (pv 2) rfl) (pa_cons (pe_f0 F_every (hr.mono (by omega)) (by rfl) T.g_every) pa_nil)))) pa_nil)) pa_nil)))
      pss_nil) pss_nil)
      (pss_cons (ps_if (pt_cmpR op_eq (pe_ix ix_tup (pv 1) pe_int (fun _ _ => rfl)) pe_str (nomark _)) (pss_cons (ps_ret (pe_f F_word_of (hr.mono (by omega)) (by rfl) T.g_word_of (pa_cons (pv 2) (pa_cons (pe_ix ix_tup (pv 1) pe_int (fun _ _ => rfl)) pa_nil))))
      pss_nil) pss_nil)
      (pss_cons (ps_if (pt_cmpR op_eq (pe_ix ix_tup (pv 1) pe_int (fun _ _ => rfl)) pe_str (nomark _)) (pss_cons ps_never
      pss_nil) pss_nil)
      (pss_cons (ps_if (pt_cmpR op_eq (pe_ix ix_tup (pv 1) pe_int (fun _ _ => rfl)) pe_str (nomark _)) (pss_cons (ps_ret (pe_f F_alike_of (hr.mono (by omega)) (by rfl) T.g_alike_of (pa_cons (pv 2) (pa_cons (pe_m (pv 0) T.c_Desk T.m_Desk_book_of F_Desk_book_of (hr.mono (by omega)) (pa_cons (pe_ix ix_tup (pv 1) pe_int (fun _ _ => rfl)) pa_nil)) pa_nil))))
      pss_nil) pss_nil)
      (pss_cons (ps_ret (pe_f F_never_of (hr.mono (by omega)) (by rfl) T.g_never_of (pa_cons (pv 2) pa_nil)))
      pss_nil))))))), ?_⟩
  cases ha with
  | @«show» n B hl hB =>
    have hy : Dt K H y (.tup [.str "show", .str n]) := hy
    try dsimp only [cxOf, Cx.nox, Cx.wish]
    repeat walk_at "w"
    refine m_desk hd ?_
    repeat walk_at "w"
    refine Sp2.mk ⟨a, bd, bks, n, B, hd, rfl, hl, fun u hu => ?_⟩
    repeat walk_at "w"
    rw [show decide (("show" : Str) = "show") = true by decide]
    repeat walk_at "w"
    exact Sp1.mk ⟨B, hB, hu, k⟩
  | @boxes n B hl hB =>
    have hy : Dt K H y (.tup [.str "boxes", .str n]) := hy
    try dsimp only [cxOf, Cx.nox, Cx.wish]
    repeat walk_at "w"
    refine m_desk hd ?_
    repeat walk_at "w"
    refine Sp2.mk ⟨a, bd, bks, n, B, hd, rfl, hl, fun u hu => ?_⟩
    repeat walk_at "w"
    rw [show decide (("boxes" : Str) = "show") = false by decide]
    repeat walk_at "w"
    rw [show decide (("boxes" : Str) = "boxes") = true by decide]
    repeat walk_at "w"
    refine Sp1.mk ⟨B, hB.deep, hB.len, hu, fun v1 H1 s1 hv1 => ?_⟩
    repeat walk_at "w"
    refine fl_dflt T (hu.up s1.ext) ?_
    repeat walk_at "w"
    refine Sp0.mk fun v2 H2 s2 hv2 => ?_
    repeat walk_at "w"
    have hlB : (lookB B every).length ≤ 2025 := hB.cap _ every_in
    refine Sp3.mk ⟨rowsB B, B.dflt, every, hB.rows, by rw [hB.rowsLen]; exact hB.len, rfl, Nat.le_trans hlB (by decide), hv1.up s2.ext, rfl, hv2, fun v3 H3 s3 hv3 => ?_⟩
    repeat walk_at "w"
    refine w_lenL hv3 ?_
    rw [List.length_map, show (look (rowsB B) B.dflt every (.row 0) []).length = (lookB B every).length from rfl]
    repeat walk_at "w"
    refine w_strI (log_small (by omega) (by omega)) ?_
    exact k _ (by walk_at "same")
  | @never n B hl hB hnm =>
    have hy : Dt K H y (.tup [.str "never", .str n]) := hy
    try dsimp only [cxOf, Cx.nox, Cx.wish]
    repeat walk_at "w"
    refine m_desk hd ?_
    repeat walk_at "w"
    refine Sp2.mk ⟨a, bd, bks, n, B, hd, rfl, hl, fun u hu => ?_⟩
    repeat walk_at "w"
    rw [show decide (("never" : Str) = "show") = false by decide]
    repeat walk_at "w"
    rw [show decide (("never" : Str) = "boxes") = false by decide]
    repeat walk_at "w"
    rw [show decide (("never" : Str) = "word") = false by decide]
    repeat walk_at "w"
    rw [show decide (("never" : Str) = "path") = false by decide]
    repeat walk_at "w"
    rw [show decide (("never" : Str) = "alike") = false by decide]
    repeat walk_at "w"
    exact Sp1.mk ⟨B, hB, hnm, hu, k⟩
  | @alike n m B C hl hl2 hB hC =>
    have hy : Dt K H y (.tup [.str "alike", .str n, .str m]) := hy
    try dsimp only [cxOf, Cx.nox, Cx.wish]
    repeat walk_at "w"
    refine m_desk hd ?_
    repeat walk_at "w"
    refine Sp2.mk ⟨a, bd, bks, n, B, hd, rfl, hl, fun u hu => ?_⟩
    repeat walk_at "w"
    rw [show decide (("alike" : Str) = "show") = false by decide]
    repeat walk_at "w"
    rw [show decide (("alike" : Str) = "boxes") = false by decide]
    repeat walk_at "w"
    rw [show decide (("alike" : Str) = "word") = false by decide]
    repeat walk_at "w"
    rw [show decide (("alike" : Str) = "path") = false by decide]
    repeat walk_at "w"
    rw [show decide (("alike" : Str) = "alike") = true by decide]
    repeat walk_at "w"
    refine m_desk hd ?_
    repeat walk_at "w"
    refine Sp2.mk ⟨a, bd, bks, m, C, hd, rfl, hl2, fun u2 hu2 => ?_⟩
    repeat walk_at "w"
    exact Sp2.mk ⟨B, C, hB, hC, hu, hu2, k⟩
  | @word n B pt hl hB hpt =>
    have hy : Dt K H y (.tup [.str "word", .str n, .tup (pt.map D.int)]) := hy
    try dsimp only [cxOf, Cx.nox, Cx.wish]
    repeat walk_at "w"
    refine m_desk hd ?_
    repeat walk_at "w"
    refine Sp2.mk ⟨a, bd, bks, n, B, hd, rfl, hl, fun u hu => ?_⟩
    repeat walk_at "w"
    rw [show decide (("word" : Str) = "show") = false by decide]
    repeat walk_at "w"
    rw [show decide (("word" : Str) = "boxes") = false by decide]
    repeat walk_at "w"
    rw [show decide (("word" : Str) = "word") = true by decide]
    repeat walk_at "w"
    have h6 : pt.length = 6 := by
      obtain ⟨_, _, _, _, _, _, rfl, _⟩ := hpt.ex
      rfl
    exact Sp2.mk ⟨B, pt, hB.deep, hB.len, by rw [h6]; exact bookOk_chOk hB, hu, hu_, k⟩
/-- what is said to the desk, and what it answers -/
inductive SayOk (bks : Bks) : Str → Str → Bks → Prop where
  | book {text l0 : Str} {rows : List Str} {n d : Str} {items : List Item} : text.length ≤ 1000000 → Txt.split text "\n" = l0 :: rows → LineOk l0 → wordsS l0 = [("book" : Str), n] → isName n = true → BookText (Txt.join "\n" rows) d items → BkOk (itemsC items) → (rows.map (·.length)).sum + rows.length ≤ 16777216 →
      SayOk bks text ("ok " ++ numS (lenC 2 (itemsC items) "main" : Nat)) (putD bks n ⟨d, itemsC items, (lenC 2 (itemsC items) "main" : Nat)⟩)
  | ask {text : Str} {o : Ord} {z : Str} : text.length ≤ 1000000 → Txt.split text "\n" = [text] → LineOk text → wordsS text = ordW o → OrdOk o → AskOk bks o z → SayOk bks text z bks
  | short {text n m : Str} {B : Book} : text.length ≤ 1000000 → Txt.split text "\n" = [text] → LineOk text → wordsS text = [("shorter" : Str), n, m] → isName n = true → isName m = true → lookD bks m = some B → BookOk B → BkOk (shortC B) →
      SayOk bks text ("ok " ++ numS (shortB B).total) (putD bks n (shortB B))
def sp_Desk_say (K : PySem.W.Frag) : Sp := Sp2 fun x y H Q => ∃ (a bd : Addr) (bks bks' : Bks) (text z : Str), DeskAt K H x a bd bks ∧ y = .str text ∧ SayOk bks text z bks' ∧ bks.length ≤ 1000 ∧ ∀ H', But bd H H' → Ext H H' → DeskAt K H' x a bd bks' → Q (.str z) H'
def sN_Desk_say : List Str := ["self", "text", "rows", "order"]
theorem sc_Desk_say : FnScope sN_Desk_say ["self", "text"] (defScope s_Desk_say) := ⟨rfl, rfl, rfl, by decide +kernel, rfl, by decide +kernel, by decide +kernel⟩

theorem ok_Desk_say (T : Tx K mg) : Fd P w K mg base 11 (He.ma K (He.ga K "Desk") "say") ["self", "text"] (sp_Desk_say K) := by
  have F_read_order := ok_read_order (P := P) (w := w) (base := base) T
  have F_words_of := ok_words_of (P := P) (w := w) (base := base) T
  have F_Desk_keep := ok_Desk_keep (P := P) (w := w) (base := base) T
  have F_book_by := ok_book_by (P := P) (w := w) (base := base) T
  have F_need_no_rows := ok_need_no_rows (P := P) (w := w) (base := base) T
  have F_shorter := ok_shorter (P := P) (w := w) (base := base) T
  have F_Desk_book_of := ok_Desk_book_of (P := P) (w := w) (base := base) T
  have F_Desk_asked := ok_Desk_asked (P := P) (w := w) (base := base) T
  refine mkFd T.d_Desk_say sc_Desk_say (fun _ _ _ _ _ _ us hl => match us, hl with | [_, _], _ => rfl) (fun vs H Q E h => Sp2.len h) (fun cdv A outer s H vs Q E hr h => ?_)
  obtain ⟨x, y, rfl, a, bd, bks, bks', text, z, hd, rfl, hs, hbl, k⟩ := h
  refine ⟨_, (pss_cons (ps_set (i := 2) sc_Desk_say.nd rfl (.inl rfl) (pe_fz (pe_splitR (pv 1) pe_str)))
      (pss_cons (ps_set (i := 3) sc_Desk_say.nd rfl (.inl rfl) (pe_f F_read_order (hr.mono (by omega)) (by rfl) T.g_read_order (pa_cons (pe_f F_words_of (hr.mono (by omega)) (by rfl) T.g_words_of (pa_cons (pe_ix ix_list (pv 2) pe_int (fun _ _ => rfl)) pa_nil)) pa_nil)))
      (pss_cons (ps_if (pt_cmpR op_eq (pe_ix ix_tup (pv 3) pe_int (fun _ _ => rfl)) pe_str (nomark _)) (pss_cons (ps_ret (pe_m (pv 0) T.c_Desk T.m_Desk_keep F_Desk_keep (hr.mono (by omega)) (pa_cons (pe_ix ix_tup (pv 3) pe_int (fun _ _ => rfl)) (pa_cons (pe_f F_book_by (hr.mono (by omega)) (by rfl) T.g_book_by (pa_cons (pe_fz (pe_slice sl_list (pv 2) (po_some pe_int) po_none)) pa_nil)) pa_nil))))
      pss_nil) pss_nil)
      (pss_cons (ps_if (pt_cmpR op_eq (pe_ix ix_tup (pv 3) pe_int (fun _ _ => rfl)) pe_str (nomark _)) (pss_cons ps_never
      pss_nil) pss_nil)
      (pss_cons (ps_expr (pe_f F_need_no_rows (hr.mono (by omega)) (by rfl) T.g_need_no_rows (pa_cons (pe_fz (pe_slice sl_list (pv 2) (po_some pe_int) po_none)) pa_nil)))
      (pss_cons (ps_if (pt_cmpR op_eq (pe_ix ix_tup (pv 3) pe_int (fun _ _ => rfl)) pe_str (nomark _)) (pss_cons (ps_ret (pe_m (pv 0) T.c_Desk T.m_Desk_keep F_Desk_keep (hr.mono (by omega)) (pa_cons (pe_ix ix_tup (pv 3) pe_int (fun _ _ => rfl)) (pa_cons (pe_f F_shorter (hr.mono (by omega)) (by rfl) T.g_shorter (pa_cons (pe_m (pv 0) T.c_Desk T.m_Desk_book_of F_Desk_book_of (hr.mono (by omega)) (pa_cons (pe_ix ix_tup (pv 3) pe_int (fun _ _ => rfl)) pa_nil)) pa_nil)) pa_nil))))
      pss_nil) pss_nil)
      (pss_cons (ps_if (pt_cmpR op_eq (pe_ix ix_tup (pv 3) pe_int (fun _ _ => rfl)) pe_str (nomark _)) (pss_cons ps_never
      pss_nil) pss_nil)
      (pss_cons (ps_if (pt_cmpR op_eq (pe_ix ix_tup (pv 3) pe_int (fun _ _ => rfl)) pe_str (nomark _)) (pss_cons ps_never
      pss_nil) pss_nil)
      (pss_cons (ps_ret (pe_m (pv 0) T.c_Desk T.m_Desk_asked F_Desk_asked (hr.mono (by omega)) (pa_cons (pv 3) pa_nil)))
      pss_nil))))))))), ?_⟩
  cases hs with
  | @book l0 rows n d items hz hsp hlo hw hn ht hbk hsum =>
    try dsimp only [cxOf, Cx.nox, Cx.wish]
    repeat walk_at "w"
    refine s_split (K := K) rfl (by omega) fun u H1 s1 hu => ?_
    rw [hsp] at hu
    have hu : Dt K H1 u (.lst (.str l0 :: rows.map D.str)) := hu
    repeat walk_at "w"
    refine Sp1.mk ⟨l0, hlo.len, hlo.no, rfl, hlo.cut, fun v H2 s2 hv => ?_⟩
    rw [hw] at hv
    repeat walk_at "w"
    refine Sp1.mk ⟨.one "book" n, ⟨.inl rfl, hn⟩, hv, fun v3 H3 s3 hv3 => ?_⟩
    have hv3 : Dt K H3 v3 (.tup [.str "book", .str n]) := hv3
    repeat walk_at "w"
    rw [show decide (("book" : Str) = "book") = true by decide]
    repeat walk_at "w"
    refine m_desk (hd.up (H' := H3) (by walk_at "same")) ?_
    repeat walk_at "w"
    refine sl_F (H := H3) (hu.up (by walk_at "ext")) fun u4 H4 s4 hu4 => ?_
    rw [show (1 : Int) = ((1 : Nat) : Int) from rfl, cutL_from] at hu4
    repeat walk_at "w"
    refine Sp1.mk ⟨rows, d, items, ht, hbk, hsum, hu4, fun v5 H5 s5 hv5 => ?_⟩
    repeat walk_at "w"
    have hlen := hbk.len
    refine Sp3.mk ⟨a, bd, bks, n, _, hd.up (by walk_at "same"), rfl, hv5, ⟨by simp only; omega, by simp only; omega⟩, hbl, fun H6 b6 x6 hd6 => ?_⟩
    exact k H6 (b6.trans' (by walk_at "same")) (by walk_at "ext") hd6
  | @ask o _ hz hsp hlo hw ho ha =>
    try dsimp only [cxOf, Cx.nox, Cx.wish]
    repeat walk_at "w"
    refine s_split (K := K) rfl (by omega) fun u H1 s1 hu => ?_
    rw [hsp] at hu
    have hu : Dt K H1 u (.lst [.str text]) := hu
    repeat walk_at "w"
    refine Sp1.mk ⟨text, hlo.len, hlo.no, rfl, hlo.cut, fun v H2 s2 hv => ?_⟩
    rw [hw] at hv
    repeat walk_at "w"
    refine Sp1.mk ⟨o, ho, hv, fun v3 H3 s3 hv3 => ?_⟩
    repeat walk_at "w"
    have hw0 : ∃ ds wd, eOrd o = .tup ds ∧ L2.atI ds 0 = some (.str wd) ∧ wd ≠ "book" ∧ wd ≠ "gate" ∧ wd ≠ "shorter" ∧ wd ≠ "take" ∧ wd ≠ "talks" := by
      cases ha with
      | «show» => exact ⟨_, "show", rfl, rfl, by decide, by decide, by decide, by decide, by decide⟩
      | boxes => exact ⟨_, "boxes", rfl, rfl, by decide, by decide, by decide, by decide, by decide⟩
      | never => exact ⟨_, "never", rfl, rfl, by decide, by decide, by decide, by decide, by decide⟩
      | alike => exact ⟨_, "alike", rfl, rfl, by decide, by decide, by decide, by decide, by decide⟩
      | word => exact ⟨_, "word", rfl, rfl, by decide, by decide, by decide, by decide, by decide⟩
    obtain ⟨ds, wd, he, hat, n1, n2, n3, n4, n5⟩ := hw0
    have hv4 := hv3
    rw [he] at hv4
    refine w_ixT hv4 hat ?_
    repeat walk_at "w"
    rw [decide_eq_false n1]
    repeat walk_at "w"
    refine w_ixT hv4 hat ?_
    repeat walk_at "w"
    rw [decide_eq_false n2]
    repeat walk_at "w"
    refine sl_F (H := H3) (hu.up (by walk_at "ext")) fun u4 H4 s4 hu4 => ?_
    rw [show (1 : Int) = ((1 : Nat) : Int) from rfl, cutL_from] at hu4
    repeat walk_at "w"
    refine Sp1.mk ⟨hu4, fun H5 s5 => ?_⟩
    repeat walk_at "w"
    refine w_ixT (hv4.up (by walk_at "ext")) hat ?_
    repeat walk_at "w"
    rw [decide_eq_false n3]
    repeat walk_at "w"
    refine w_ixT (hv4.up (by walk_at "ext")) hat ?_
    repeat walk_at "w"
    rw [decide_eq_false n4]
    repeat walk_at "w"
    refine w_ixT (hv4.up (by walk_at "ext")) hat ?_
    repeat walk_at "w"
    rw [decide_eq_false n5]
    repeat walk_at "w"
    refine m_desk (hd.up (H' := H5) (by walk_at "same")) ?_
    repeat walk_at "w"
    refine Sp2.mk ⟨a, bd, bks, o, z, hd.up (by walk_at "same"), ha, hv3.up (by walk_at "ext"), fun H6 s6 => ?_⟩
    exact k H6 (But.of (by walk_at "same")) (Same.ext (by walk_at "same")) (hd.up (by walk_at "same"))
  | @short n m B hz hsp hlo hw hn hm hl hB hbs =>
    try dsimp only [cxOf, Cx.nox, Cx.wish]
    repeat walk_at "w"
    refine s_split (K := K) rfl (by omega) fun u H1 s1 hu => ?_
    rw [hsp] at hu
    have hu : Dt K H1 u (.lst [.str text]) := hu
    repeat walk_at "w"
    refine Sp1.mk ⟨text, hlo.len, hlo.no, rfl, hlo.cut, fun v H2 s2 hv => ?_⟩
    rw [hw] at hv
    repeat walk_at "w"
    refine Sp1.mk ⟨.two "shorter" n m, ⟨.inr rfl, hn, hm⟩, hv, fun v3 H3 s3 hv3 => ?_⟩
    have hv3 : Dt K H3 v3 (.tup [.str "shorter", .str n, .str m]) := hv3
    repeat walk_at "w"
    rw [show decide (("shorter" : Str) = "book") = false by decide]
    repeat walk_at "w"
    rw [show decide (("shorter" : Str) = "gate") = false by decide]
    repeat walk_at "w"
    refine sl_F (H := H3) (hu.up (by walk_at "ext")) fun u4 H4 s4 hu4 => ?_
    rw [show (1 : Int) = ((1 : Nat) : Int) from rfl, cutL_from] at hu4
    repeat walk_at "w"
    refine Sp1.mk ⟨hu4, fun H5 s5 => ?_⟩
    have hv5 := hv3.up (H' := H5) (by walk_at "ext")
    repeat walk_at "w"
    rw [show decide (("shorter" : Str) = "shorter") = true by decide]
    repeat walk_at "w"
    refine m_desk (hd.up (H' := H5) (by walk_at "same")) ?_
    repeat walk_at "w"
    refine m_desk (hd.up (H' := H5) (by walk_at "same")) ?_
    repeat walk_at "w"
    refine Sp2.mk ⟨a, bd, bks, m, B, hd.up (by walk_at "same"), rfl, hl, fun u6 hu6 => ?_⟩
    repeat walk_at "w"
    refine Sp1.mk ⟨B, hB, hbs, hu6, fun v7 H7 s7 hv7 => ?_⟩
    repeat walk_at "w"
    have hlen := hbs.len
    refine Sp3.mk ⟨a, bd, bks, n, _, hd.up (by walk_at "same"), rfl, hv7, ⟨by unfold shortB; simp only; omega, by unfold shortB; simp only; omega⟩, hbl, fun H8 b8 x8 hd8 => ?_⟩
    exact k H8 (b8.trans' (by walk_at "same")) (by walk_at "ext") hd8
end
end
section
open PySem PySem.Spec PyProof.Rows L2 TL
def cellAt (s : List Int) (k : Int) : Int := if k < s.length then s.getD k.toNat 0 else 0
def marksL (s : List Int) : List Int := (List.range 6).map fun (d : Nat) => cellAt s (1 + (d : Int)) % (topN d + 1)
theorem marks_in {s : List Int} {d : Nat} (h : d < 6) : ∃ m, (marksL s)[d]? = some m ∧ 0 ≤ m ∧ m ≤ topN d := by
  have ht := topN_le h
  refine ⟨cellAt s (1 + (d : Int)) % (topN d + 1), by simp [marksL, h], Int.emod_nonneg _ (by omega), ?_⟩
  have := Int.emod_lt_of_pos (cellAt s (1 + (d : Int))) (show 0 < topN d + 1 by omega)
  omega
/-- the script: a list that stays as it is -/
structure ScL (K : PySem.W.Frag) (H : Hp) (x : V) (s : List Int) : Prop where
  ex : ∃ a, x = .ref a ∧ ∀ H', Ext H H' → SqL K H' a (s.map V.int)
theorem ScL.up {K : PySem.W.Frag} {H H' : Hp} {x : V} {s : List Int} (h : ScL K H x s) (e : Ext H H') : ScL K H' x s := by
  obtain ⟨a, h1, h2⟩ := h.ex
  exact ⟨a, h1, fun H2 e2 => h2 H2 (e.trans e2)⟩
theorem ScL.of {K : PySem.W.Frag} {H : Hp} {a : Addr} {s : List Int} (hO : Only H) (h : SqL K H a (s.map V.int)) : ScL K H (.ref a) s := by
  refine ⟨a, rfl, fun H' e => ?_⟩
  rcases h with h | h
  · rcases hO a with h0 | ⟨o, xs, h0⟩
    · rcases h with h | ⟨o, h⟩
      · rw [h0] at h
        cases h
      · rw [h0] at h
        cases h
    · rcases h with h | ⟨o2, h⟩
      · rw [h0] at h
        cases h
      · exact .inl (.inr ⟨o2, e _ _ h rfl⟩)
  · exact .inr h
section
variable {P : Program} {w : World} {K : PySem.W.Frag} {mg : Str → Option Value} {base : Heap}
theorem w_lenSc {H : Hp} {x : V} {s : List Int} {Q : VK} (h : ScL K H x s) (k : Q (.int (s.length : Nat)) H) : rLenQ K [x] H Q := by
  obtain ⟨a, rfl, h2⟩ := h.ex
  exact ⟨a, _, rfl, .inl (h2 H (Ext.refl _)), by rw [List.length_map]; exact k⟩
theorem w_ixSc {H : Hp} {x : V} {s : List Int} {n : Nat} {i : Int} {Q : VK} (h : ScL K H x s) (e : s[n]? = some i) (k : Q (.int i) H) : rIxL K x (.int (n : Nat)) H Q := by
  obtain ⟨a, rfl, h2⟩ := h.ex
  exact ⟨a, _, _, _, rfl, rfl, h2 H (Ext.refl _), atI_nat (by rw [List.getElem?_map, e]; rfl), k⟩
def sp_l_cell_at (K : PySem.W.Frag) : Sp := Sp2 fun x y H Q => ∃ (s : List Int) (k : Int), 0 ≤ k ∧ ScL K H x s ∧ y = .int k ∧ Q (.int (cellAt s k)) H
def sN_l_cell_at : List Str := ["_law_script", "_law_k"]
theorem sc_l_cell_at : FnScope sN_l_cell_at ["_law_script", "_law_k"] (defScope s_l_cell_at) := ⟨rfl, rfl, rfl, by decide +kernel, rfl, by decide +kernel, by decide +kernel⟩

theorem ok_l_cell_at (T : Tx K mg) : Fd P w K mg base 1 (He.ga K "_law_cell_at") ["_law_script", "_law_k"] (sp_l_cell_at K) := by
  refine mkFd T.d_l_cell_at sc_l_cell_at (fun _ _ _ _ _ _ us hl => match us, hl with | [_, _], _ => rfl) (fun vs H Q E h => Sp2.len h) (fun cdv A outer s H vs Q E hr h => ?_)
  obtain ⟨x, y, rfl, s, k0, h0, hx, rfl, k⟩ := h
  obtain ⟨n, rfl⟩ : ∃ n : Nat, k0 = n := ⟨k0.toNat, by omega⟩
  refine ⟨_, (pss_cons (ps_if (pt_cmpR op_lt (pv 1) (pe_callB cl_lenQ (by rfl) T.b_len PySem.boot_len (pa_cons (pv 0) pa_nil)) (nomark _)) (pss_cons (ps_ret (pe_ix ix_list (pv 0) (pv 1) (fun _ _ => rfl)))
      pss_nil) pss_nil)
      (pss_cons (ps_ret pe_int)
      pss_nil)), ?_⟩
  try dsimp only [cxOf, Cx.nox, Cx.wish]
  repeat walk_at "w"
  refine w_lenSc hx ?_
  repeat walk_at "w"
  unfold cellAt at k
  by_cases hn : ((n : Nat) : Int) < (s.length : Nat)
  · rw [if_pos hn] at k
    rw [decide_eq_true hn]
    repeat walk_at "w"
    have hn2 : n < s.length := by omega
    refine w_ixSc hx (show s[n]? = some (s[n]'hn2) by simp [hn2]) ?_
    rw [List.getD_eq_getElem?_getD, Int.toNat_natCast] at k
    simpa [hn2] using k
  · rw [if_neg hn] at k
    rw [decide_eq_false hn]
    repeat walk_at "w"
    exact k
def sp_l_top (K : PySem.W.Frag) : Sp := Sp1 fun x H Q => ∃ (d : Nat), d < 6 ∧ x = .int (d : Nat) ∧ ∀ H', Same H H' → Q (.int (topN d)) H'
def sN_l_top : List Str := ["_law_d"]
theorem sc_l_top : FnScope sN_l_top ["_law_d"] (defScope s_l_top) := ⟨rfl, rfl, rfl, by decide +kernel, rfl, by decide +kernel, by decide +kernel⟩

theorem tops_get {d : Nat} (h : d < 6) : (tops.map D.int)[d]? = some (.int (topN d)) := by
  have : ∀ a : Fin 6, tops[a.1]? = some (topN a.1) := by decide +kernel
  rw [List.getElem?_map, this ⟨d, h⟩]
  rfl
theorem ok_l_top (T : Tx K mg) : Fd P w K mg base 1 (He.ga K "_law_top") ["_law_d"] (sp_l_top K) := by
  refine mkFd T.d_l_top sc_l_top (fun _ _ _ _ _ _ us hl => match us, hl with | [_], _ => rfl) (fun vs H Q E h => Sp1.len h) (fun cdv A outer s H vs Q E hr h => ?_)
  obtain ⟨x, rfl, d, hd, rfl, k⟩ := h
  refine ⟨_, (pss_cons (ps_ret (pe_ix ix_list (pe_fz (pe_lst (pa_cons pe_int (pa_cons pe_int (pa_cons pe_int (pa_cons pe_int (pa_cons pe_int (pa_cons pe_int pa_nil)))))))) (pv 0) (fun _ _ => rfl)))
      pss_nil), ?_⟩
  try dsimp only [cxOf, Cx.nox, Cx.wish]
  repeat walk_at "w"
  walk_at "newF"
  intro u H1 s1 hu
  repeat walk_at "w"
  refine w_ixL (ds := tops.map D.int) hu (atI_nat (tops_get hd)) ?_
  exact At.i (k _ s1)
def sp_l_marks (K : PySem.W.Frag) : Sp := Sp1 fun x H Q => ∃ (s : List Int), ScL K H x s ∧ ∀ v H', Same H H' → Dt K H' v (.lst ((marksL s).map D.int)) → Q v H'
def sN_l_marks : List Str := ["_law_script", "_law_d"]
theorem sc_l_marks : FnScope sN_l_marks ["_law_script"] (defScope s_l_marks) := ⟨rfl, rfl, rfl, by decide +kernel, rfl, by decide +kernel, by decide +kernel⟩

theorem ok_l_marks (T : Tx K mg) : Fd P w K mg base 2 (He.ga K "_law_marks") ["_law_script"] (sp_l_marks K) := by
  have F_l_cell_at := ok_l_cell_at (P := P) (w := w) (base := base) T
  have F_l_top := ok_l_top (P := P) (w := w) (base := base) T
  refine mkFd T.d_l_marks sc_l_marks (fun _ _ _ _ _ _ us hl => match us, hl with | [_], _ => rfl) (fun vs H Q E h => Sp1.len h) (fun cdv A outer s H vs Q E hr h => ?_)
  obtain ⟨x, rfl, s, hx, k⟩ := h
  refine ⟨_, (pss_cons (ps_ret (pe_fz (pe_lc (own := [("_law_d", 1)]) rfl sc_l_marks.nd (pi_range1 (by rfl) T.b_range (pa_cons pe_int pa_nil)) (blkOk_by (own := [("_law_d", 1)]) (N := sN_l_marks) (sc := defScope s_l_marks) (by decide +kernel)) (fun _ _ _ _ _ => (pg_name (i := 1) sc_l_marks.nd rfl (.inl rfl))) (fun _ _ _ _ _ => pts_nil) (fun _ _ _ _ _ => (pe_op op_mod (pe_f F_l_cell_at (hr.mono (by omega)) (by rfl) T.g_l_cell_at (pa_cons (pv 0) (pa_cons (pe_op op_add pe_int (pv 1)) pa_nil))) (pe_op op_add (pe_f F_l_top (hr.mono (by omega)) (by rfl) T.g_l_top (pa_cons (pv 1) pa_nil)) pe_int))))))
      pss_nil), ?_⟩
  try dsimp only [cxOf, Cx.nox, Cx.wish]
  repeat walk_at "w"
  refine i_rng (K := K) 6 rfl (by decide) fun J it => ?_
  refine f_lc (l := List.range 6) (emb := fun (i : Nat) => D.int (i : Nat)) it (fun (d : Nat) => some (.int (cellAt s (1 + (d : Int)) % (topN d + 1)))) (by simp) (fun _ _ => trivial) (fun i d u H' Y N e s1 hu hY hN => ?_) fun p H' xs np s1 hp r => ?_
  · have hd : d < 6 := by
      have := List.mem_of_getElem? e
      simpa using this
    have ht := topN_le hd
    cases hu
    repeat walk_at "w"
    refine ⟨rfl, ?_⟩
    repeat walk_at "w"
    refine Sp2.mk ⟨s, 1 + (d : Int), by omega, hx.up s1.ext, rfl, ?_⟩
    repeat walk_at "w"
    refine Sp1.mk ⟨d, hd, rfl, fun H2 s2 => ?_⟩
    repeat walk_at "w"
    refine w_I (by omega) ?_
    exact hY _ _ _ rfl s2 (.int _)
  · refine lcF np s1 hp r fun u H2 s2 hu => ?_
    refine k _ _ s2 ?_
    rw [show (List.range 6).filterMap (fun (d : Nat) => some (D.int (cellAt s (1 + (d : Int)) % (topN d + 1)))) = (marksL s).map D.int by unfold marksL; rw [List.map_map]; simp [Function.comp_def]] at hu
    exact hu
/-- from here on: only that what comes out is valid -/
def sp_l_stretch (K : PySem.W.Frag) : Sp := Sp3 fun x y z H Q => ∃ (m t c : Int), 0 ≤ m ∧ m ≤ t ∧ t ≤ 4294967295 ∧ x = .int m ∧ y = .int t ∧ z = .int c ∧ ∀ v H' st, Same H H' → StIn st (0, t) → Dt K H' v (eSt st) → Q v H'
def sN_l_stretch : List Str := ["_law_mark", "_law_top_here", "_law_cell", "_law_way", "_law_one", "_law_two"]
theorem sc_l_stretch : FnScope sN_l_stretch ["_law_mark", "_law_top_here", "_law_cell"] (defScope s_l_stretch) := ⟨rfl, rfl, rfl, by decide +kernel, rfl, by decide +kernel, by decide +kernel⟩

theorem ok_l_stretch (T : Tx K mg) : Fd P w K mg base 1 (He.ga K "_law_stretch") ["_law_mark", "_law_top_here", "_law_cell"] (sp_l_stretch K) := by
  refine mkFd T.d_l_stretch sc_l_stretch (fun _ _ _ _ _ _ us hl => match us, hl with | [_, _, _], _ => rfl) (fun vs H Q E h => Sp3.len h) (fun cdv A outer s H vs Q E hr h => ?_)
  obtain ⟨x, y, z, rfl, m, t, c, h0, h1, h2, rfl, rfl, rfl, k⟩ := h
  have fin : ∀ {a b : Int} {H1 : Hp} {v : V}, Same H H1 → 0 ≤ a → a ≤ b → b ≤ t → Dt K H1 v (.tup [.int a, .int b]) → Q v H1 := fun s ha hb hc hv => k _ _ (_, _) s ⟨ha, hb, hc⟩ hv
  refine ⟨_, (pss_cons (ps_set (i := 3) sc_l_stretch.nd rfl (.inl rfl) (pe_op op_mod (pv 2) pe_int))
      (pss_cons (ps_if (pt_cmpR op_eq (pv 3) pe_int (nomark _)) (pss_cons (ps_ret (pe_tup (pa_cons pe_int (pa_cons (pv 0) pa_nil))))
      pss_nil) pss_nil)
      (pss_cons (ps_if (pt_cmpR op_eq (pv 3) pe_int (nomark _)) (pss_cons (ps_ret (pe_tup (pa_cons (pv 0) (pa_cons (pv 1) pa_nil))))
      pss_nil) pss_nil)
      (pss_cons (ps_if (pt_cmpR op_eq (pv 3) pe_int (nomark _)) (pss_cons (ps_ret (pe_tup (pa_cons (pv 0) (pa_cons (pv 0) pa_nil))))
      pss_nil) pss_nil)
      (pss_cons (ps_if (pt_cmpR op_eq (pv 3) pe_int (nomark _)) (pss_cons (ps_ret (pe_tup (pa_cons (pe_callB (cl_min2 rfl) (by rfl) T.b_min (by decide +kernel) (pa_cons (pe_op op_add (pv 0) pe_int) (pa_cons (pv 1) pa_nil))) (pa_cons (pv 1) pa_nil))))
      pss_nil) pss_nil)
      (pss_cons (ps_if (pt_cmpR op_eq (pv 3) pe_int (nomark _)) (pss_cons (ps_ret (pe_tup (pa_cons pe_int (pa_cons (pe_callB (cl_max2 rfl) (by rfl) T.b_max (by decide +kernel) (pa_cons (pe_op op_sub (pv 0) pe_int) (pa_cons pe_int pa_nil))) pa_nil))))
      pss_nil) pss_nil)
      (pss_cons (ps_set (i := 4) sc_l_stretch.nd rfl (.inl rfl) (pe_op op_mod (pe_op op_fdiv (pv 2) pe_int) (pe_op op_add (pv 1) pe_int)))
      (pss_cons (ps_if (pt_cmpR op_eq (pv 3) pe_int (nomark _)) (pss_cons (ps_ret (pe_tup (pa_cons (pe_callB (cl_min2 rfl) (by rfl) T.b_min (by decide +kernel) (pa_cons (pv 4) (pa_cons (pv 0) pa_nil))) (pa_cons (pe_callB (cl_max2 rfl) (by rfl) T.b_max (by decide +kernel) (pa_cons (pv 4) (pa_cons (pv 0) pa_nil))) pa_nil))))
      pss_nil) pss_nil)
      (pss_cons (ps_set (i := 5) sc_l_stretch.nd rfl (.inl rfl) (pe_op op_mod (pe_op op_mod (pe_op op_mul (pe_op op_mod (pv 2) pe_int) pe_int) pe_int) (pe_op op_add (pv 1) pe_int)))
      (pss_cons (ps_ret (pe_tup (pa_cons (pe_callB (cl_min2 rfl) (by rfl) T.b_min (by decide +kernel) (pa_cons (pv 4) (pa_cons (pv 5) pa_nil))) (pa_cons (pe_callB (cl_max2 rfl) (by rfl) T.b_max (by decide +kernel) (pa_cons (pv 4) (pa_cons (pv 5) pa_nil))) pa_nil))))
      pss_nil)))))))))), ?_⟩
  try dsimp only [cxOf, Cx.nox, Cx.wish]
  repeat walk_at "w"
  refine w_I (by decide) ?_
  repeat walk_at "w"
  have one_in : 0 ≤ c / 7 % (t + 1) ∧ c / 7 % (t + 1) ≤ t := ⟨Int.emod_nonneg _ (by omega), by have := Int.emod_lt_of_pos (c / 7) (show 0 < t + 1 by omega); omega⟩
  by_cases e0 : c % 7 = 0
  · rw [decide_eq_true e0]
    repeat walk_at "w"
    walk_at "newT"
    intro u H1 s1 hu
    exact fin s1 (by omega) (by omega) (by omega) hu
  rw [decide_eq_false e0]
  repeat walk_at "w"
  by_cases e1 : c % 7 = 1
  · rw [decide_eq_true e1]
    repeat walk_at "w"
    walk_at "newT"
    intro u H1 s1 hu
    exact fin s1 (by omega) (by omega) (by omega) hu
  rw [decide_eq_false e1]
  repeat walk_at "w"
  by_cases e2 : c % 7 = 2
  · rw [decide_eq_true e2]
    repeat walk_at "w"
    walk_at "newT"
    intro u H1 s1 hu
    exact fin s1 (by omega) (by omega) (by omega) hu
  rw [decide_eq_false e2]
  repeat walk_at "w"
  by_cases e3 : c % 7 = 3
  · rw [decide_eq_true e3]
    repeat walk_at "w"
    rw [min_if]
    walk_at "newT"
    intro u H1 s1 hu
    exact fin s1 (by omega) (by omega) (by omega) hu
  rw [decide_eq_false e3]
  repeat walk_at "w"
  by_cases e4 : c % 7 = 4
  · rw [decide_eq_true e4]
    repeat walk_at "w"
    rw [max_if]
    walk_at "newT"
    intro u H1 s1 hu
    exact fin s1 (by omega) (by omega) (by omega) hu
  rw [decide_eq_false e4]
  repeat walk_at "w"
  refine w_I ⟨by decide, by decide⟩ ?_
  repeat walk_at "w"
  refine w_I (by omega) ?_
  repeat walk_at "w"
  by_cases e5 : c % 7 = 5
  · rw [decide_eq_true e5]
    repeat walk_at "w"
    rw [max_if, min_if]
    walk_at "newT"
    intro u H1 s1 hu
    exact fin s1 (by omega) (by omega) (by omega) hu
  rw [decide_eq_false e5]
  repeat walk_at "w"
  refine w_I (by decide) ?_
  repeat walk_at "w"
  refine w_I (.inr ⟨by decide, by decide⟩) ?_
  repeat walk_at "w"
  refine w_I (by decide) ?_
  repeat walk_at "w"
  refine w_I (by omega) ?_
  repeat walk_at "w"
  rw [max_if, min_if]
  generalize c % 2147483647 * 48271 % 2147483647 = q
  have two_in : 0 ≤ q % (t + 1) ∧ q % (t + 1) ≤ t := ⟨Int.emod_nonneg _ (by omega), by have := Int.emod_lt_of_pos q (show 0 < t + 1 by omega); omega⟩
  generalize q % (t + 1) = b at *
  generalize c / 7 % (t + 1) = a at *
  walk_at "newT"
  intro u H1 s1 hu
  exact fin s1 (by omega) (by omega) (by omega) hu
end
end
section
open PySem PySem.Spec PyProof.Rows L2 TL
section
variable {P : Program} {w : World} {K : PySem.W.Frag} {mg : Str → Option Value} {base : Heap}
theorem every_eq : (List.range 6).filterMap (fun (d : Nat) => some (eSt (0, topN d))) = every.map eSt := rfl
def sp_l_box (K : PySem.W.Frag) : Sp := Sp3 fun x y z H Q => ∃ (s : List Int) (c : Int) (n : Nat), n ≤ 2 ∧ Dt K H x (.lst ((marksL s).map D.int)) ∧ y = .int c ∧ z = .int (n : Nat) ∧ ∀ v H' b, Same H H' → BoxIn b every → narC b ≤ n → Dt K H' v (eBox b) → Q v H'
def sN_l_box : List Str := ["_law_marks_here", "_law_cell", "_law_wish", "_law_box_here", "_law_at", "_law_k", "_law_d"]
theorem sc_l_box : FnScope sN_l_box ["_law_marks_here", "_law_cell", "_law_wish"] (defScope s_l_box) := ⟨rfl, rfl, rfl, by decide +kernel, rfl, by decide +kernel, by decide +kernel⟩

theorem ok_l_box (T : Tx K mg) : Fd P w K mg base 2 (He.ga K "_law_box") ["_law_marks_here", "_law_cell", "_law_wish"] (sp_l_box K) := by
  have F_l_top := ok_l_top (P := P) (w := w) (base := base) T
  have F_l_stretch := ok_l_stretch (P := P) (w := w) (base := base) T
  refine mkFd T.d_l_box sc_l_box (fun _ _ _ _ _ _ us hl => match us, hl with | [_, _, _], _ => rfl) (fun vs H Q E h => Sp3.len h) (fun cdv A outer s H vs Q E hr h => ?_)
  obtain ⟨x, y, z, rfl, s, c, n, hn, hx, rfl, rfl, k⟩ := h
  refine ⟨_, (pss_cons (ps_setLc (i := 3) (own := [("_law_d", 6)]) rfl sc_l_box.nd rfl rfl (sw_true rfl rfl rfl (by decide +kernel)) (pi_range1 (by rfl) T.b_range (pa_cons pe_int pa_nil)) (blkOk_by (own := [("_law_d", 6)]) (N := sN_l_box) (sc := defScope s_l_box) (by decide +kernel)) (fun _ _ _ _ _ => (pg_name (i := 6) sc_l_box.nd rfl (.inl rfl))) (fun _ _ _ _ _ => pts_nil) (fun _ _ _ _ _ => (pe_tup (pa_cons pe_int (pa_cons (pe_f F_l_top (hr.mono (by omega)) (by rfl) T.g_l_top (pa_cons (pv 6) pa_nil)) pa_nil)))))
      (pss_cons (ps_set (i := 4) sc_l_box.nd rfl (.inl rfl) (pe_op op_mod (pv 1) pe_int))
      (pss_cons (ps_for PassesOwn.never rfl (pi_range1 (by rfl) T.b_range (pa_cons (pv 2) pa_nil)) (pg_name (i := 5) sc_l_box.nd rfl (.inl rfl)) (pss_cons (ps_asg (pe_f F_l_stretch (hr.mono (by omega)) (by rfl) T.g_l_stretch (pa_cons (pe_ix ix_list (pv 0) (pv 4) (fun _ _ => rfl)) (pa_cons (pe_f F_l_top (hr.mono (by omega)) (by rfl) T.g_l_top (pa_cons (pv 4) pa_nil)) (pa_cons (pe_op op_fdiv (pe_op op_mod (pe_op op_fdiv (pv 1) pe_int) (pe_op op_pow pe_int pe_int)) (pe_op op_add pe_int (pe_op op_mul pe_int (pv 5)))) pa_nil)))) (pg_sub (pv 3) (pv 4) set_list))
      (pss_cons (ps_set (i := 4) sc_l_box.nd rfl (.inl rfl) (pe_op op_mod (pe_op op_add (pe_op op_add (pv 4) pe_int) (pe_op op_mod (pe_op op_fdiv (pv 1) pe_int) pe_int)) pe_int))
      pss_nil)))
      (pss_cons (ps_ret (pe_callTy cl_tupOf (by rfl) T.b_tuple (by decide +kernel) (pa_cons (pv 3) pa_nil)))
      pss_nil)))), ?_⟩
  try dsimp only [cxOf, Cx.nox, Cx.wish]
  repeat walk_at "w"
  refine i_rng (K := K) 6 rfl (by decide) fun J it => ?_
  refine f_lc (l := List.range 6) (emb := fun (i : Nat) => D.int (i : Nat)) it (fun (d : Nat) => some (eSt (0, topN d))) (by simp) (fun _ _ => trivial) (fun i d u H' Y N e s1 hu hY hN => ?_) fun p H1 xs np s1 hp r => ?_
  · have hd : d < 6 := by
      have := List.mem_of_getElem? e
      simpa using this
    cases hu
    repeat walk_at "w"
    refine ⟨rfl, ?_⟩
    repeat walk_at "w"
    refine Sp1.mk ⟨d, hd, rfl, fun H2 s2 => ?_⟩
    repeat walk_at "w"
    walk_at "newT"
    intro u3 H3 s3 hu3
    exact hY _ _ _ rfl (by walk_at "same") hu3
  · have o1 : Ow K H1 p (every.map eSt) := ⟨xs, hp, by rw [← every_eq]; exact r⟩
    repeat walk_at "w"
    refine w_I (by decide) ?_
    repeat walk_at "w"
    refine i_rng (K := K) n rfl (by omega) fun J2 it2 => ?_
    have hc6 : ∀ q : Int, ∃ a : Nat, a < 6 ∧ q % 6 = (a : Nat) := fun q => ⟨(q % 6).toNat, by omega, by omega⟩
    obtain ⟨a0, ha0, ea0⟩ := hc6 c
    rw [ea0]
    refine f_for it2 (fun i σ H' => ∃ (a : Nat) (e5 : Option V) (b : Box), σ = [some x, some (.int c), some (.int (n : Nat)), some (.ref p), some (.int (a : Nat)), e5, none] ∧ a < 6 ∧ Same H H' ∧ Ow K H' p (b.map eSt) ∧ BoxIn b every ∧ narC b ≤ i) ⟨a0, _, every, rfl, ha0, s1, o1, every_in, by decide⟩ (fun _ _ _ _ => trivial) ?_ ?_
    · rintro i d u σ H' H2 e1 ⟨a, _, b, rfl, ha, s2, o2, hb, hnc⟩ s3 hu
      obtain ⟨hi, rfl⟩ := numD_get e1
      cases hu
      obtain ⟨m, hm, hm0, hm1⟩ := marks_in (s := s) ha
      have htp := topN_le ha
      repeat walk_at "w"
      refine w_ixL (hx.up (by walk_at "ext")) (atI_nat (i := a) (a := .int m) (by rw [List.getElem?_map, hm]; rfl)) ?_
      repeat walk_at "w"
      refine Sp1.mk ⟨a, ha, rfl, fun H3 s4 => ?_⟩
      repeat walk_at "w"
      refine w_I ⟨by decide, by decide⟩ ?_
      repeat walk_at "w"
      refine w_I ⟨by decide, by decide, by decide⟩ ?_
      repeat walk_at "w"
      refine w_I (by decide) ?_
      repeat walk_at "w"
      refine w_I (.inl ⟨by decide, by decide⟩) ?_
      repeat walk_at "w"
      refine w_I ⟨by omega, by omega⟩ ?_
      repeat walk_at "w"
      refine Sp3.mk ⟨m, topN a, _, hm0, hm1, htp.2, rfl, rfl, rfl, fun v4 H4 st s5 hst hv4 => ?_⟩
      repeat walk_at "w"
      have hbl : b.length = 6 := hb.len
      refine w_setO (d := eSt st) (j := a) (o2.up (by walk_at "same")) hv4 (by rw [List.length_map]; omega) fun H5 b5 x5 o5 => ?_
      repeat walk_at "w"
      refine w_I ⟨by decide, by decide⟩ ?_
      repeat walk_at "w"
      refine w_I (by decide) ?_
      repeat walk_at "w"
      refine w_I (by decide) ?_
      repeat walk_at "w"
      obtain ⟨a2, ha2, ea2⟩ := hc6 ((a : Int) + 1 + c / 6 % 5)
      rw [ea2]
      refine ⟨a2, _, b.set a st, rfl, ha2, b5.same (by walk_at "same") np, by rw [List.map_set]; exact o5, hb.set (every_get ha) hst, ?_⟩
      have := narG_set b every a st
      unfold narC at hnc ⊢
      omega
    · rintro σ H' ⟨a, _, b, rfl, ha, s2, o2, hb, hnc⟩
      rw [numD_len] at hnc
      repeat walk_at "w"
      refine w_tupO o2 fun u H2 s3 hu => ?_
      exact k _ _ b (by walk_at "same") hb hnc hu
end
end
section
open PySem PySem.Spec PyProof.Rows L2 TL
def wO : Option Box → Nat
  | none => 1
  | some b => 1 + 2 * narC b
theorem all_some {α : Type} : ∀ {l : List (Option α)}, (∀ j : Nat, l[j]? ≠ some none) → ∃ bs : List α, l = bs.map some
  | [], _ => ⟨[], rfl⟩
  | none :: l, h => (h 0 rfl).elim
  | some a :: l, h => by
    obtain ⟨bs, e⟩ := all_some (l := l) fun j => h (j + 1)
    exact ⟨a :: bs, by rw [e]; rfl⟩
theorem mod_inj {c : Int} {m k k' : Nat} (hk : k < m) (hk' : k' < m) (h : (c + k) % (m : Int) = (c + k') % (m : Int)) : k = k' := by
  have h1 := Int.emod_emod_of_dvd
  have h2 : ((c + k) - (c + k')) % (m : Int) = 0 := Int.emod_eq_zero_of_dvd (Int.dvd_of_emod_eq_zero (by rw [Int.sub_emod, h, Int.sub_self, Int.zero_emod]))
  have h3 : (c + k) - (c + k') = (k : Int) - k' := by omega
  rw [h3] at h2
  obtain ⟨q, hq⟩ := Int.dvd_of_emod_eq_zero h2
  have h4 : -(m : Int) < (k : Int) - k' := by omega
  have h5 : (k : Int) - k' < m := by omega
  have hq0 : q = 0 := by
    rw [hq] at h4 h5
    have hm : (0 : Int) < m := by omega
    by_cases h6 : q ≤ -1
    · have := Int.mul_le_mul_of_nonneg_left h6 (Int.le_of_lt hm)
      omega
    · by_cases h7 : 1 ≤ q
      · have := Int.mul_le_mul_of_nonneg_left h7 (Int.le_of_lt hm)
        omega
      · omega
  rw [hq0, Int.mul_zero] at hq
  omega
section
variable {P : Program} {w : World} {K : PySem.W.Frag} {mg : Str → Option Value} {base : Heap}
theorem w_rep {H : Hp} {Q : VK} {l : Addr} {d : D} {n : Nat} (h : Ow K H l [d]) (hn : n ≤ 1000) (k : ∀ p H', H p = none → Same H H' → Ow K H' p (List.replicate n d) → Q (.ref p) H') : rRep (.ref l) (.int (n : Nat)) H Q := by
  obtain ⟨vs, a, b⟩ := h.ex
  cases b with
  | cons hv r =>
    cases r
    refine ⟨l, (n : Nat), _, rfl, rfl, a, by omega, by omega, by simp; exact szN (by omega), fun p np => k p _ np (Same.new np) ⟨_, upd_same, ?_⟩⟩
    rw [Int.toNat_natCast, List.flatten_replicate_singleton]
    have : ∀ m : Nat, DtAll K H (List.replicate m _) (List.replicate m d) := fun m => by
      induction m with
      | zero => exact .nil
      | succ m ih =>
        rw [List.replicate_succ, List.replicate_succ]
        exact .cons hv ih
    exact (this n).up (Same.new np).ext
theorem wish_get {c : Int} : ∃ n : Nat, n ≤ 2 ∧ ([D.int 0, D.int 1, D.int 1, D.int 2] : List D)[(c % 4).toNat]? = some (.int (n : Nat)) := by
  have h : (c % 4).toNat < 4 := by omega
  generalize (c % 4).toNat = a at h
  match a, h with
  | 0, _ => exact ⟨0, by decide, rfl⟩
  | 1, _ => exact ⟨1, by decide, rfl⟩
  | 2, _ => exact ⟨1, by decide, rfl⟩
  | 3, _ => exact ⟨2, by decide, rfl⟩
def sp_l_boxes (K : PySem.W.Frag) : Sp := Sp3 fun x y z H Q => ∃ (s : List Int) (m : Nat), m ≤ 20 ∧ ScL K H x s ∧ Dt K H y (.lst ((marksL s).map D.int)) ∧ z = .int (m : Nat) ∧ ∀ v H' bs, Same H H' → bs.length = m → (∀ b ∈ bs, BoxIn b every) → piecesL bs ≤ 45 → Dt K H' v (.lst (bs.map eBox)) → Q v H'
def sN_l_boxes : List Str := ["_law_script", "_law_marks_here", "_law_many", "_law_boxes_here", "_law_pieces", "_law_k", "_law_at", "_law_cell", "_law_wish"]
theorem sc_l_boxes : FnScope sN_l_boxes ["_law_script", "_law_marks_here", "_law_many"] (defScope s_l_boxes) := ⟨rfl, rfl, rfl, by decide +kernel, rfl, by decide +kernel, by decide +kernel⟩

theorem ok_l_boxes (T : Tx K mg) : Fd P w K mg base 3 (He.ga K "_law_boxes") ["_law_script", "_law_marks_here", "_law_many"] (sp_l_boxes K) := by
  have F_l_cell_at := ok_l_cell_at (P := P) (w := w) (base := base) T
  have F_l_box := ok_l_box (P := P) (w := w) (base := base) T
  refine mkFd T.d_l_boxes sc_l_boxes (fun _ _ _ _ _ _ us hl => match us, hl with | [_, _, _], _ => rfl) (fun vs H Q E h => Sp3.len h) (fun cdv A outer s H vs Q E hr h => ?_)
  obtain ⟨x, y, z, rfl, s, m, hm, hx, hy, rfl, k⟩ := h
  refine ⟨_, (pss_cons (ps_set (i := 3) sc_l_boxes.nd rfl (.inl rfl) (pe_op op_rep (pe_lst (pa_cons pe_non pa_nil)) (pv 2)))
      (pss_cons (ps_set (i := 4) sc_l_boxes.nd rfl (.inl rfl) pe_int)
      (pss_cons (ps_for PassesOwn.never rfl (pi_range1 (by rfl) T.b_range (pa_cons (pv 2) pa_nil)) (pg_name (i := 5) sc_l_boxes.nd rfl (.inl rfl)) (pss_cons (ps_set (i := 6) sc_l_boxes.nd rfl (.inl rfl) (pe_op op_mod (pe_op op_add (pe_op op_fdiv (pe_f F_l_cell_at (hr.mono (by omega)) (by rfl) T.g_l_cell_at (pa_cons (pv 0) (pa_cons pe_int pa_nil))) pe_int) (pv 5)) (pv 2)))
      (pss_cons (ps_set (i := 7) sc_l_boxes.nd rfl (.inl rfl) (pe_f F_l_cell_at (hr.mono (by omega)) (by rfl) T.g_l_cell_at (pa_cons (pv 0) (pa_cons (pe_op op_add pe_int (pe_op op_mul pe_int (pv 6))) pa_nil))))
      (pss_cons (ps_set (i := 8) sc_l_boxes.nd rfl (.inl rfl) (pe_ix ix_list (pe_fz (pe_lst (pa_cons pe_int (pa_cons pe_int (pa_cons pe_int (pa_cons pe_int pa_nil)))))) (pe_op op_mod (pv 7) pe_int) (fun _ _ => rfl)))
      (pss_cons (ps_if (pt_cmpR op_gt (pe_op op_mul (pv 4) (pe_op op_add pe_int (pe_op op_mul pe_int (pv 8)))) pe_int (nomark _)) (pss_cons (ps_set (i := 8) sc_l_boxes.nd rfl (.inl rfl) pe_int)
      pss_nil) pss_nil)
      (pss_cons (ps_set (i := 4) sc_l_boxes.nd rfl (.inl rfl) (pe_op op_mul (pv 4) (pe_op op_add pe_int (pe_op op_mul pe_int (pv 8)))))
      (pss_cons (ps_asg (pe_f F_l_box (hr.mono (by omega)) (by rfl) T.g_l_box (pa_cons (pv 1) (pa_cons (pe_op op_fdiv (pv 7) pe_int) (pa_cons (pv 8) pa_nil)))) (pg_sub (pv 3) (pv 6) set_list))
      pss_nil)))))))
      (pss_cons (ps_ret (pe_fz (pv 3)))
      pss_nil)))), ?_⟩
  try dsimp only [cxOf, Cx.nox, Cx.wish]
  repeat walk_at "w"
  walk_at "newO"
  intro p0 H1 np0 s1 o1
  repeat walk_at "w"
  refine w_rep (K := K) o1 (by omega) fun p H2 np s2 o2 => ?_
  have npH : H p = none := s1.free np
  repeat walk_at "w"
  refine i_rng (K := K) m rfl (by omega) fun J it => ?_
  refine f_for it (fun i σ H' => ∃ (pc : Nat) (e5 e6 e7 e8 : Option V) (st : List (Option Box)), σ = [some x, some y, some (.int (m : Nat)), some (.ref p), some (.int (pc : Nat)), e5, e6, e7, e8] ∧ Same H H' ∧ Ow K H' p (st.map eOBox) ∧ st.length = m ∧ (∀ b, some b ∈ st → BoxIn b every) ∧ (st.map wO).prod ≤ pc ∧ pc ≤ 45 ∧
    ∀ j : Nat, st[j]? = some none ↔ ∃ k' : Nat, i ≤ k' ∧ k' < m ∧ (j : Int) = (cellAt s 0 / 288 + k') % (m : Int)) ⟨1, _, _, _, _, List.replicate m none, rfl, (by walk_at "same"), by simpa [eOBox] using o2, by simp, fun b hb => by simp at hb, ?_, by decide, fun j => ?_⟩ (fun _ _ _ _ => trivial) ?_ ?_
  · rw [List.map_replicate]
    show (List.replicate m 1).prod ≤ 1
    rw [List.prod_replicate_nat]
    simp
  · rw [List.getElem?_replicate]
    constructor
    · intro h
      split at h
      · rename_i hj
        refine ⟨((j : Int) - cellAt s 0 / 288) % (m : Int) |>.toNat, Nat.zero_le _, ?_, ?_⟩
        · have := Int.emod_nonneg ((j : Int) - cellAt s 0 / 288) (show (m : Int) ≠ 0 by omega)
          have := Int.emod_lt_of_pos ((j : Int) - cellAt s 0 / 288) (show (0 : Int) < m by omega)
          omega
        · have h1 := Int.emod_nonneg ((j : Int) - cellAt s 0 / 288) (show (m : Int) ≠ 0 by omega)
          rw [Int.toNat_of_nonneg h1, Int.add_emod, Int.emod_emod, ← Int.add_emod]
          rw [show cellAt s 0 / 288 + ((j : Int) - cellAt s 0 / 288) = j by omega]
          rw [Int.emod_eq_of_lt (by omega) (by omega)]
      · cases h
    · rintro ⟨k', _, h2, h3⟩
      have := Int.emod_lt_of_pos (cellAt s 0 / 288 + k') (show (0 : Int) < m by omega)
      rw [if_pos (by omega)]
  · rintro i d u σ H' H3 e1 ⟨pc, _, _, _, _, st, rfl, s3, o3, hsl, hbx, hpr, hpc, hun⟩ s4 hu
    obtain ⟨hi, rfl⟩ := numD_get e1
    cases hu
    have o4 := o3.up s4
    have hmp : (0 : Int) < m := by omega
    obtain ⟨a, ha, ea⟩ : ∃ a : Nat, a < m ∧ (cellAt s 0 / 288 + (i : Nat)) % (m : Int) = (a : Nat) := by
      have h1 := Int.emod_nonneg (cellAt s 0 / 288 + (i : Nat)) (show (m : Int) ≠ 0 by omega)
      have h2 := Int.emod_lt_of_pos (cellAt s 0 / 288 + (i : Nat)) hmp
      exact ⟨((cellAt s 0 / 288 + (i : Nat)) % (m : Int)).toNat, by omega, by omega⟩
    have hfree : st[a]? = some none := (hun a).mpr ⟨i, Nat.le_refl _, hi, ea.symm⟩
    obtain ⟨n0, hn0, hg⟩ := wish_get (c := cellAt s (8 + 2 * ((a : Nat) : Int)))
    repeat walk_at "w"
    refine Sp2.mk ⟨s, 0, by omega, hx.up (by walk_at "ext"), rfl, ?_⟩
    repeat walk_at "w"
    refine w_I ⟨by decide, by decide⟩ ?_
    repeat walk_at "w"
    refine w_I hmp ?_
    rw [ea]
    repeat walk_at "w"
    refine w_I (.inl ⟨by decide, by decide⟩) ?_
    repeat walk_at "w"
    refine Sp2.mk ⟨s, 8 + 2 * (a : Nat), by omega, hx.up (by walk_at "ext"), rfl, ?_⟩
    repeat walk_at "w"
    walk_at "newF"
    intro u5 H5 s5 hu5
    repeat walk_at "w"
    refine w_I (by decide) ?_
    have hcm : cellAt s (8 + 2 * ((a : Nat) : Int)) % 4 = ((cellAt s (8 + 2 * ((a : Nat) : Int)) % 4).toNat : Int) := by omega
    rw [hcm]
    refine w_ixL hu5 (atI_nat hg) ?_
    repeat walk_at "w"
    refine w_I (.inl ⟨by decide, by decide⟩) ?_
    repeat walk_at "w"
    refine w_I (.inl ⟨by omega, by omega⟩) ?_
    repeat walk_at "w"
    generalize eN : tSeq (tAsg (tOp _ (tVar 4) _) (gName 4)) _ _ = NX
    have key : ∀ n1 : Nat, n1 ≤ 2 → pc * (1 + 2 * n1) ≤ 45 → NX [some x, some y, some (.int (m : Nat)), some (.ref p), some (.int (pc : Nat)), some (.int (i : Nat)), some (.int (a : Nat)), some (.int (cellAt s (8 + 2 * ((a : Nat) : Int)))), some (.int (n1 : Nat))] H5 := by
      intro n1 hn1 hpc1
      rw [← eN]
      repeat walk_at "w"
      refine w_I (.inl ⟨by decide, by decide⟩) ?_
      repeat walk_at "w"
      refine w_I (.inl ⟨by omega, by omega⟩) ?_
      repeat walk_at "w"
      refine w_I ⟨by decide, by decide⟩ ?_
      repeat walk_at "w"
      refine Sp3.mk ⟨s, _, n1, hn1, hy.up (by walk_at "ext"), rfl, rfl, fun v6 H6 b s6 hb hnc hv6 => ?_⟩
      repeat walk_at "w"
      refine w_setO (d := eOBox (some b)) (j := a) (o4.up (by walk_at "same")) hv6 (by rw [List.length_map]; omega) fun H7 b7 x7 o7 => ?_
      repeat walk_at "w"
      refine ⟨pc * (1 + 2 * n1), some (.int (i : Nat)), some (.int (a : Nat)), some (.int (cellAt s (8 + 2 * ((a : Nat) : Int)))), some (.int (n1 : Nat)), st.set a (some b), by simp, b7.same (by walk_at "same") npH, by rw [List.map_set]; exact o7, by rw [List.length_set]; exact hsl, fun b2 hb2 => ?_, ?_, hpc1, fun j => ?_⟩
      · rcases List.mem_or_eq_of_mem_set hb2 with h | h
        · exact hbx b2 h
        · cases h
          exact hb
      · rw [List.map_set, prod_set _ _ _ (by rw [List.getElem?_map, hfree]; rfl)]
        refine Nat.mul_le_mul hpr ?_
        simp only [wO]
        omega
      · rw [List.getElem?_set]
        by_cases hja : a = j
        · subst hja
          rw [if_pos rfl, if_pos (by omega)]
          constructor
          · intro h
            cases h
          · rintro ⟨k', h1, h2, h3⟩
            rw [← ea] at h3
            have := mod_inj hi h2 h3
            omega
        · rw [if_neg hja, hun j]
          constructor
          · rintro ⟨k', h1, h2, h3⟩
            refine ⟨k', ?_, h2, h3⟩
            by_cases hk : k' = i
            · subst hk
              rw [ea] at h3
              omega
            · omega
          · rintro ⟨k', h1, h2, h3⟩
            exact ⟨k', by omega, h2, h3⟩
    by_cases hbig : (pc : Int) * (1 + 2 * (n0 : Nat)) > 45
    · rw [decide_eq_true hbig]
      repeat walk_at "w"
      have := key 0 (by omega) (by omega)
      exact this
    · rw [decide_eq_false hbig]
      repeat walk_at "w"
      refine key n0 hn0 ?_
      have : ((pc * (1 + 2 * n0) : Nat) : Int) = (pc : Int) * (1 + 2 * (n0 : Nat)) := by push_cast; rfl
      omega
  · rintro σ H' ⟨pc, _, _, _, _, st, rfl, s3, o3, hsl, hbx, hpr, hpc, hun⟩
    rw [numD_len] at hun
    obtain ⟨bs, rfl⟩ := all_some (l := st) fun j h => by
      obtain ⟨k', h1, h2, _⟩ := (hun j).mp h
      omega
    repeat walk_at "w"
    refine w_outS o3 s3 npH fun H2 s4 hr => ?_
    refine k _ _ bs s4 (by simpa using hsl) (fun b hb => hbx b (List.mem_map.mpr ⟨b, hb, rfl⟩)) ?_ ?_
    · have e : ((bs.map some).map wO).prod = piecesL bs := by
        unfold piecesL
        rw [List.map_map]
        rfl
      omega
    · rw [List.map_map] at hr
      exact hr
end
end
section
open PySem PySem.Spec PyProof.Rows L2 TL
theorem mem_letters {c : Nat} : c ∈ letters ↔ 97 ≤ c ∧ c ≤ 122 := by
  have e : letters = [97, 98, 99, 100, 101, 102, 103, 104, 105, 106, 107, 108, 109, 110, 111, 112, 113, 114, 115, 116, 117, 118, 119, 120, 121, 122] := rfl
  rw [e]
  simp
  omega
structure NameOk (n : Str) : Prop where
  nm : isName n = true
  ne : n ≠ "main"
theorem isName_iff {z : Str} : isName z = true ↔ 1 ≤ z.length ∧ z.length ≤ 12 ∧ ∀ c ∈ tl z, 97 ≤ c ∧ c ≤ 122 := by
  unfold isName
  rw [Bool.and_eq_true, Bool.and_eq_true, decide_eq_true_eq, decide_eq_true_eq, List.all_eq_true]
  constructor
  · rintro ⟨⟨h1, h2⟩, h3⟩
    exact ⟨h1, h2, fun c hc => mem_letters.mp (of_decide_eq_true (h3 c hc))⟩
  · rintro ⟨h1, h2, h3⟩
    exact ⟨⟨h1, h2⟩, fun c hc => decide_eq_true (mem_letters.mpr (h3 c hc))⟩
def qS (a : Nat) : Str := ⟨(List.replicate a 113).toArray⟩
theorem tl_qS (a : Nat) : tl (qS a) = List.replicate a 113 := rfl
theorem name_ok {a b x : Nat} (h : a + b + 1 ≤ 12) (hx : 97 ≤ x ∧ x ≤ 112) : NameOk (qS a ++ ⟨#[x]⟩ ++ qS b) := by
  have e : tl (qS a ++ ⟨#[x]⟩ ++ qS b) = List.replicate a 113 ++ [x] ++ List.replicate b 113 := by
    rw [tl_append, tl_append, tl_qS, tl_qS]
  have hl : (qS a ++ ⟨#[x]⟩ ++ qS b).length = a + 1 + b := by
    rw [len_tl, e]
    simp
    omega
  refine ⟨isName_iff.mpr ⟨by omega, by omega, fun c hc => ?_⟩, fun hm => ?_⟩
  · rw [e] at hc
    rcases List.mem_append.mp hc with hc | hc
    · rcases List.mem_append.mp hc with hc | hc
      · rw [List.eq_of_mem_replicate hc]
        decide
      · rw [List.mem_singleton.mp hc]
        omega
    · rw [List.eq_of_mem_replicate hc]
      decide
  · have h1 : a + 1 + b = 4 := by
      rw [← hl, hm]
      rfl
    have h2 : 113 ∈ tl (qS a ++ ⟨#[x]⟩ ++ qS b) := by
      rw [e]
      simp
      omega
    rw [hm, show tl ("main" : Str) = [109, 97, 105, 110] from rfl] at h2
    simp at h2
section
variable {P : Program} {w : World} {K : PySem.W.Frag} {mg : Str → Option Value} {base : Heap}
def sp_l_name (K : PySem.W.Frag) : Sp := Sp1 fun x H Q => ∃ (c : Int), x = .int c ∧ ∀ n, NameOk n → Q (.str n) H
def sN_l_name : List Str := ["_law_cell", "_law_many", "_law_at"]
theorem sc_l_name : FnScope sN_l_name ["_law_cell"] (defScope s_l_name) := ⟨rfl, rfl, rfl, by decide +kernel, rfl, by decide +kernel, by decide +kernel⟩

theorem ok_l_name (T : Tx K mg) : Fd P w K mg base 1 (He.ga K "_law_name") ["_law_cell"] (sp_l_name K) := by
  refine mkFd T.d_l_name sc_l_name (fun _ _ _ _ _ _ us hl => match us, hl with | [_], _ => rfl) (fun vs H Q E h => Sp1.len h) (fun cdv A outer s H vs Q E hr h => ?_)
  obtain ⟨x, rfl, c, rfl, k⟩ := h
  refine ⟨_, (pss_cons (ps_set (i := 1) sc_l_name.nd rfl (.inl rfl) (pe_op op_add pe_int (pe_op op_mod (pv 0) pe_int)))
      (pss_cons (ps_set (i := 2) sc_l_name.nd rfl (.inl rfl) (pe_op op_mod (pe_op op_fdiv (pv 0) pe_int) (pv 1)))
      (pss_cons (ps_ret (pe_op op_addS (pe_op op_addS (pe_op op_mulS pe_str (pv 2)) (pe_ix ix_str pe_str (pe_op op_mod (pe_op op_fdiv (pv 0) pe_int) pe_int) (fun _ _ => rfl))) (pe_op op_mulS pe_str (pe_op op_sub (pe_op op_sub (pv 1) pe_int) (pv 2)))))
      pss_nil))), ?_⟩
  obtain ⟨m, hm, em⟩ : ∃ m : Nat, (1 ≤ m ∧ m ≤ 12) ∧ 1 + c % 12 = (m : Nat) := ⟨(1 + c % 12).toNat, by omega, by omega⟩
  obtain ⟨a, ha, ea⟩ : ∃ a : Nat, a < m ∧ c / 12 % (m : Int) = (a : Nat) := by
    have h1 := Int.emod_nonneg (c / 12) (show (m : Int) ≠ 0 by omega)
    have h2 := Int.emod_lt_of_pos (c / 12) (show (0 : Int) < m by omega)
    exact ⟨(c / 12 % (m : Int)).toNat, by omega, by omega⟩
  obtain ⟨i, hi, ei⟩ : ∃ i : Nat, i < 16 ∧ c / 144 % 16 = (i : Nat) := ⟨(c / 144 % 16).toNat, by omega, by omega⟩
  have hxs : ∃ x, (tl ("abcdefghijklmnop" : Str))[i]? = some x ∧ 97 ≤ x ∧ x ≤ 112 := by
    rw [show tl ("abcdefghijklmnop" : Str) = [97, 98, 99, 100, 101, 102, 103, 104, 105, 106, 107, 108, 109, 110, 111, 112] from rfl]
    have : ∀ j : Fin 16, ∃ x, ([97, 98, 99, 100, 101, 102, 103, 104, 105, 106, 107, 108, 109, 110, 111, 112] : List Nat)[j.1]? = some x ∧ 97 ≤ x ∧ x ≤ 112 := fun j => ⟨97 + j.1, by revert j; decide +kernel, by omega, by omega⟩
    exact this ⟨i, hi⟩
  obtain ⟨xc, hxc, hx1⟩ := hxs
  try dsimp only [cxOf, Cx.nox, Cx.wish]
  repeat walk_at "w"
  refine w_I (by decide) ?_
  repeat walk_at "w"
  rw [em]
  refine w_I ⟨by decide, by decide⟩ ?_
  repeat walk_at "w"
  refine w_I (by omega) ?_
  rw [ea]
  repeat walk_at "w"
  refine w_mulS (c := 113) (k := a) (by omega) ?_
  repeat walk_at "w"
  refine w_I ⟨by decide, by decide⟩ ?_
  repeat walk_at "w"
  refine w_I (by decide) ?_
  rw [ei]
  refine w_ixS (szN (by decide)) (atI_nat hxc) ?_
  have hq : ∀ n : Nat, n ≤ 12 → (⟨(List.replicate n 113).toArray⟩ : Str).length ≤ 12 := fun n hn => by
    rw [len_tl]
    show (List.replicate n 113).length ≤ 12
    simp
    exact hn
  have hq1 := hq a (by omega)
  refine w_addS (by rw [show (⟨#[xc]⟩ : Str).length = 1 from rfl]; omega) ?_
  repeat walk_at "w"
  rw [show ((m : Int) - 1 - (a : Nat)) = ((m - 1 - a : Nat) : Int) by omega]
  refine w_mulS (c := 113) (k := m - 1 - a) (by omega) ?_
  have hq2 := hq (m - 1 - a) (by omega)
  refine w_addS (by rw [len_app, show (⟨#[xc]⟩ : Str).length = 1 from rfl]; omega) ?_
  exact k _ (name_ok (a := a) (b := m - 1 - a) (by omega) hx1)
def sp_l_rule (K : PySem.W.Frag) : Sp := Sp5 fun x y z u w H Q => ∃ (c l k0 : Int) (b : Box) (n : Str), x = .int c ∧ y = .int l ∧ Dt K H z (eBox b) ∧ u = .str n ∧ w = .int k0 ∧ isName n = true ∧
  ∀ v H' r, Same H H' → r.box = b → HeadOk r → (∀ b2 m, r = .call b2 m → m = n ∧ l = 0 ∧ k0 < 2) → Dt K H' v (eRule r) → Q v H'
def sN_l_rule : List Str := ["_law_cell", "_law_level", "_law_box_here", "_law_name_here", "_law_calls", "_law_way"]
theorem sc_l_rule : FnScope sN_l_rule ["_law_cell", "_law_level", "_law_box_here", "_law_name_here", "_law_calls"] (defScope s_l_rule) := ⟨rfl, rfl, rfl, by decide +kernel, rfl, by decide +kernel, by decide +kernel⟩

theorem ok_l_rule (T : Tx K mg) : Fd P w K mg base 1 (He.ga K "_law_rule") ["_law_cell", "_law_level", "_law_box_here", "_law_name_here", "_law_calls"] (sp_l_rule K) := by
  refine mkFd T.d_l_rule sc_l_rule (fun _ _ _ _ _ _ us hl => match us, hl with | [_, _, _, _, _], _ => rfl) (fun vs H Q E h => Sp5.len h) (fun cdv A outer s H vs Q E hr h => ?_)
  obtain ⟨x, y, z, u, w', rfl, c, l, k0, b, n, rfl, rfl, hz, rfl, rfl, hn, k⟩ := h
  refine ⟨_, (pss_cons (ps_set (i := 5) sc_l_rule.nd rfl (.inl rfl) (pe_op op_mod (pv 0) pe_int))
      (pss_cons (ps_if (pt_cmpR op_eq (pv 5) pe_int (nomark _)) (pss_cons (ps_ret (pe_tup (pa_cons pe_str (pa_cons (pv 2) pa_nil))))
      pss_nil) pss_nil)
      (pss_cons (ps_if (PW.pt (pw_and (pt_cmpR op_gt (pv 5) pe_int (nomark _)) (pw_and (pt_cmpR op_eq (pv 1) pe_int (nomark _)) (pw_and1 (pt_cmpR op_lt (pv 4) pe_int (nomark _)))))) (pss_cons (ps_ret (pe_tup (pa_cons pe_str (pa_cons (pv 2) (pa_cons (pv 3) pa_nil)))))
      pss_nil) pss_nil)
      (pss_cons (ps_ret (pe_tup (pa_cons (pe_ix ix_list (pe_fz (pe_lst (pa_cons pe_str (pa_cons pe_str pa_nil)))) (pe_op op_mod (pv 5) pe_int) (fun _ _ => rfl)) (pa_cons (pv 2) pa_nil))))
      pss_nil)))), ?_⟩
  try dsimp only [cxOf, Cx.nox, Cx.wish]
  repeat walk_at "w"
  refine w_I (by decide) ?_
  repeat walk_at "w"
  have hpass : ∀ {H1 : Hp} {v : V} {wd : Str}, Same H H1 → (wd = "pass" ∨ wd = "stop") → Dt K H1 v (.tup [.str wd, eBox b]) → Q v H1 := fun s hw hv => k _ _ (.word b _) s rfl hw (fun b2 m e => by cases e) hv
  by_cases e4 : c % 8 = 4
  · rw [decide_eq_true e4]
    repeat walk_at "w"
    walk_at "newT"
    intro u1 H1 s1 hu1
    exact k _ _ (.back b) s1 rfl trivial (fun b2 m e => by cases e) hu1
  rw [decide_eq_false e4]
  repeat walk_at "w"
  by_cases h5 : c % 8 > 4
  · rw [decide_eq_true h5]
    repeat walk_at "w"
    by_cases h6 : l = 0
    · rw [decide_eq_true h6]
      repeat walk_at "w"
      by_cases h7 : k0 < 2
      · rw [decide_eq_true h7]
        repeat walk_at "w"
        walk_at "newT"
        intro u1 H1 s1 hu1
        exact k _ _ (.call b n) s1 rfl hn (fun b2 m e => by cases e; exact ⟨rfl, h6, h7⟩) hu1
      · rw [decide_eq_false h7]
        repeat walk_at "w"
        walk_at "newF"
        intro u1 H1 s1 hu1
        repeat walk_at "w"
        refine w_I (by decide) ?_
        rcases (show c % 8 % 2 = 0 ∨ c % 8 % 2 = 1 by omega) with e | e
        · rw [e]
          repeat walk_at "w"
          walk_at "newT"
          intro u2 H2 s2 hu2
          exact hpass (by walk_at "same") (.inl rfl) hu2
        · rw [e]
          repeat walk_at "w"
          walk_at "newT"
          intro u2 H2 s2 hu2
          exact hpass (by walk_at "same") (.inr rfl) hu2
    · rw [decide_eq_false h6]
      repeat walk_at "w"
      walk_at "newF"
      intro u1 H1 s1 hu1
      repeat walk_at "w"
      refine w_I (by decide) ?_
      rcases (show c % 8 % 2 = 0 ∨ c % 8 % 2 = 1 by omega) with e | e
      · rw [e]
        repeat walk_at "w"
        walk_at "newT"
        intro u2 H2 s2 hu2
        exact hpass (by walk_at "same") (.inl rfl) hu2
      · rw [e]
        repeat walk_at "w"
        walk_at "newT"
        intro u2 H2 s2 hu2
        exact hpass (by walk_at "same") (.inr rfl) hu2
  · rw [decide_eq_false h5]
    repeat walk_at "w"
    walk_at "newF"
    intro u1 H1 s1 hu1
    repeat walk_at "w"
    refine w_I (by decide) ?_
    rcases (show c % 8 % 2 = 0 ∨ c % 8 % 2 = 1 by omega) with e | e
    · rw [e]
      repeat walk_at "w"
      walk_at "newT"
      intro u2 H2 s2 hu2
      exact hpass (by walk_at "same") (.inl rfl) hu2
    · rw [e]
      repeat walk_at "w"
      walk_at "newT"
      intro u2 H2 s2 hu2
      exact hpass (by walk_at "same") (.inr rfl) hu2
end
end
section
open PySem PySem.Spec PyProof.Rows L2 TL
def isCallB : Rule → Bool
  | .call _ _ => true
  | _ => false
/-- the rules of one chain, as they are drawn -/
structure RGen (n : Str) (lv : Nat) (bx : List Box) (rs : List Rule) : Prop where
  box : rs.map Rule.box = bx
  head : ∀ r ∈ rs, HeadOk r
  calls : ∀ b m, Rule.call b m ∈ rs → m = n ∧ lv = 0
  few : (rs.filter isCallB).length ≤ 2
structure CGen (bs : List Box) (k0 a b : Nat) (chs : Chs) : Prop where
  ex : ∃ n rs rs2, NameOk n ∧ chs = [(("main" : Str), rs), (n, rs2)] ∧ RGen n 0 ((bs.drop k0).take a) rs ∧ RGen n 1 ((bs.drop (k0 + a)).take b) rs2
section
variable {P : Program} {w : World} {K : PySem.W.Frag} {mg : Str → Option Value} {base : Heap}
def sp_l_chains (K : PySem.W.Frag) : Sp := Sp4 fun x y z u H Q => ∃ (s : List Int) (a b k0 : Nat) (bs : List Box), a ≤ 3 ∧ b ≤ 2 ∧ k0 + a + b ≤ bs.length ∧ (∀ c ∈ bs, BoxIn c every) ∧ ScL K H x s ∧ Dt K H y (.lst [.int (a : Nat), .int (b : Nat)]) ∧ Dt K H z (.lst (bs.map eBox)) ∧ u = .int (k0 : Nat) ∧
  ∀ v H' chs, Same H H' → CGen bs k0 a b chs → Dt K H' v (.lst (chs.map eChT)) → Q v H'
def sN_l_chains : List Str := ["_law_script", "_law_sizes", "_law_boxes_here", "_law_at", "_law_name_here", "_law_chains_here", "_law_level", "_law_rules", "_law_calls", "_law_k"]
theorem sc_l_chains : FnScope sN_l_chains ["_law_script", "_law_sizes", "_law_boxes_here", "_law_at"] (defScope s_l_chains) := ⟨rfl, rfl, rfl, by decide +kernel, rfl, by decide +kernel, by decide +kernel⟩

theorem ok_l_chains (T : Tx K mg) : Fd P w K mg base 2 (He.ga K "_law_chains") ["_law_script", "_law_sizes", "_law_boxes_here", "_law_at"] (sp_l_chains K) := by
  have F_l_name := ok_l_name (P := P) (w := w) (base := base) T
  have F_l_cell_at := ok_l_cell_at (P := P) (w := w) (base := base) T
  have F_l_rule := ok_l_rule (P := P) (w := w) (base := base) T
  refine mkFd T.d_l_chains sc_l_chains (fun _ _ _ _ _ _ us hl => match us, hl with | [_, _, _, _], _ => rfl) (fun vs H Q E h => Sp4.len h) (fun cdv A outer s H vs Q E hr h => ?_)
  obtain ⟨x, y, z, u, rfl, s, a, b, k0, bs, ha, hb, hk, hbs, hx, hy, hz, rfl, k⟩ := h
  refine ⟨_, (pss_cons (ps_set (i := 4) sc_l_chains.nd rfl (.inl rfl) (pe_f F_l_name (hr.mono (by omega)) (by rfl) T.g_l_name (pa_cons (pe_op op_add (pe_f F_l_cell_at (hr.mono (by omega)) (by rfl) T.g_l_cell_at (pa_cons (pv 0) (pa_cons pe_int pa_nil))) (pv 3)) pa_nil)))
      (pss_cons (ps_set (i := 5) sc_l_chains.nd rfl (.inl rfl) (pe_lst pa_nil))
      (pss_cons (ps_for PassesOwn.never rfl (pi_range1 (by rfl) T.b_range (pa_cons pe_int pa_nil)) (pg_name (i := 6) sc_l_chains.nd rfl (.inl rfl)) (pss_cons (ps_set (i := 7) sc_l_chains.nd rfl (.inl rfl) (pe_lst pa_nil))
      (pss_cons (ps_set (i := 8) sc_l_chains.nd rfl (.inl rfl) pe_int)
      (pss_cons (ps_for PassesOwn.never rfl (pi_range1 (by rfl) T.b_range (pa_cons (pe_ix ix_list (pv 1) (pv 6) (fun _ _ => rfl)) pa_nil)) (pg_name (i := 9) sc_l_chains.nd rfl (.inl rfl)) (pss_cons (ps_expr (pe_bm PySem.F.plainAttrs_list PySem.F.slot_list_append PySem.F.type_list_append mt_append (pv 7) (pa_cons (pe_f F_l_rule (hr.mono (by omega)) (by rfl) T.g_l_rule (pa_cons (pe_f F_l_cell_at (hr.mono (by omega)) (by rfl) T.g_l_cell_at (pa_cons (pv 0) (pa_cons (pe_op op_add pe_int (pe_op op_mul pe_int (pv 3))) pa_nil))) (pa_cons (pv 6) (pa_cons (pe_ix ix_list (pv 2) (pv 3) (fun _ _ => rfl)) (pa_cons (pv 4) (pa_cons (pv 8) pa_nil)))))) pa_nil)))
      (pss_cons (ps_set (i := 8) sc_l_chains.nd rfl (.inl rfl) (pe_op op_add (pv 8) (pe_callTy cl_intB (by rfl) T.b_int (by decide +kernel) (pa_cons (pe_cmpR op_eq (pe_ix ix_tup (pe_ix ix_list (pv 7) (pe_un un_neg pe_int) (fun _ _ => rfl)) pe_int (fun _ _ => rfl)) pe_str (nomark _)) pa_nil))))
      (pss_cons (ps_set (i := 3) sc_l_chains.nd rfl (.inl rfl) (pe_op op_add (pv 3) pe_int))
      pss_nil))))
      (pss_cons (ps_expr (pe_bm PySem.F.plainAttrs_list PySem.F.slot_list_append PySem.F.type_list_append mt_append (pv 5) (pa_cons (pe_tup (pa_cons (pe_ix ix_list (pe_fz (pe_lst (pa_cons pe_str (pa_cons (pv 4) pa_nil)))) (pv 6) (fun _ _ => rfl)) (pa_cons (pe_fz (pv 7)) pa_nil))) pa_nil)))
      pss_nil)))))
      (pss_cons (ps_ret (pe_fz (pv 5)))
      pss_nil)))), ?_⟩
  try dsimp only [cxOf, Cx.nox, Cx.wish]
  repeat walk_at "w"
  refine Sp2.mk ⟨s, 7, by decide, hx, rfl, ?_⟩
  repeat walk_at "w"
  refine Sp1.mk ⟨_, rfl, fun n hn => ?_⟩
  have hnl := isName_iff.mp hn.nm
  repeat walk_at "w"
  walk_at "newO"
  intro p H1 np s1 o1
  repeat walk_at "w"
  refine i_rng (K := K) 2 rfl (by decide) fun J it => ?_
  have hsz : ∀ lv : Nat, lv < 2 → ([D.int (a : Nat), D.int (b : Nat)] : List D)[lv]? = some (.int ((if lv = 0 then a else b : Nat) : Nat)) := fun lv h => by
    match lv, h with
    | 0, _ => rfl
    | 1, _ => rfl
  refine f_for it (fun lv σ H' => ∃ (at_ : Nat) (e6 e7 e8 e9 : Option V) (chs : Chs), σ = [some x, some y, some z, some (.int (at_ : Nat)), some (.str n), some (.ref p), e6, e7, e8, e9] ∧ Same H H' ∧ Ow K H' p (chs.map eChT) ∧ at_ = k0 + (if lv = 0 then 0 else if lv = 1 then a else a + b) ∧ chs.length = lv ∧
    (∀ j p2, chs[j]? = some p2 → p2.1 = (if j = 0 then ("main" : Str) else n) ∧ RGen n j ((bs.drop (k0 + (if j = 0 then 0 else a))).take (if j = 0 then a else b)) p2.2)) ⟨k0, _, _, _, _, [], rfl, s1, o1, by simp, rfl, fun j p2 h => by simp at h⟩ (fun _ _ _ _ => trivial) ?_ ?_
  · rintro lv d u2 σ H' H2 e1 ⟨at_, _, _, _, _, chs, rfl, s2, o2, hat, hcl, hch⟩ s3 hu
    obtain ⟨hlv, rfl⟩ := numD_get e1
    cases hu
    repeat walk_at "w"
    walk_at "newO"
    intro t H3 nt s4 o3
    have ntp : p ≠ t := (o2.up s3).ne nt
    have nt0 : H t = none := Same.free (by walk_at "same") nt
    repeat walk_at "w"
    refine w_ixL (hy.up (by walk_at "ext")) (atI_nat (hsz lv hlv)) ?_
    generalize hsd : (if lv = 0 then a else b) = zz
    have hszb : zz ≤ 3 := by
      rw [← hsd]
      split <;> omega
    have hatb : at_ + zz ≤ bs.length := by
      rw [hat, ← hsd]
      match lv, hlv with
      | 0, _ => simp; omega
      | 1, _ => simp; omega
    repeat walk_at "w"
    refine i_rng (K := K) zz rfl (by omega) fun J2 it2 => ?_
    refine f_for it2 (fun i σ H' => ∃ (e9 : Option V) (rs : List Rule), σ = [some x, some y, some z, some (.int ((at_ + i : Nat) : Nat)), some (.str n), some (.ref p), some (.int (lv : Nat)), some (.ref t), some (.int (((rs.filter isCallB).length : Nat) : Nat)), e9] ∧ Same H H' ∧ Ow K H' p (chs.map eChT) ∧ Ow K H' t (rs.map eRule) ∧ RGen n lv ((bs.drop at_).take i) rs) ⟨_, [], rfl, (by walk_at "same"), (by walk_at "ow"), o3, ⟨by simp, fun r h => by simp at h, fun b m h => by simp at h, by simp⟩⟩ (fun _ _ _ _ => trivial) ?_ ?_
    · rintro i d u3 σ' H'' H4 e2 ⟨_, rs, rfl, s5, o5, o6, hg⟩ s6 hu3
      obtain ⟨hi, rfl⟩ := numD_get e2
      cases hu3
      have hbi : at_ + i < bs.length := by omega
      have hbg : bs[at_ + i]? = some (bs[at_ + i]'hbi) := by simp
      have hbm := hbs _ (List.getElem_mem hbi)
      generalize bs[at_ + i]'hbi = bx at *
      have hrl : rs.length ≤ 3 := by
        have := congrArg List.length hg.box
        rw [List.length_map, List.length_take] at this
        omega
      repeat walk_at "w"
      refine w_tyO (o6.up s6) ?_
      repeat walk_at "w"
      have hzb : (bs.map eBox)[at_ + i]? = some (eBox bx) := by rw [List.getElem?_map, hbg]; rfl
      refine w_I (.inl ⟨by decide, by decide⟩) ?_
      repeat walk_at "w"
      refine Sp2.mk ⟨s, _, by omega, hx.up (by walk_at "ext"), rfl, ?_⟩
      repeat walk_at "w"
      refine Sp5.mk ⟨_, _, _, bx, n, rfl, rfl, hu_, rfl, rfl, hn.nm, fun v5 H5 r s7 hrb hrh hrc hv5 => ?_⟩
      repeat walk_at "w"
      refine w_appS (d := eRule r) ((o6.up s6).up s7) hv5 (by rw [List.length_map]; omega) (Hb := H) (by walk_at "same") nt0 fun H6 b6 x6 s8 o7 => ?_
      have o8 := (o5.up ((by walk_at "same") : Same H'' H5)).but b6 x6 ntp
      repeat walk_at "w"
      refine w_ixO o7 (at_last (x := eRule r)) ?_
      refine At.of fun ur hur => ?_
      repeat walk_at "w"
      have htk : (bs.drop at_).take (i + 1) = (bs.drop at_).take i ++ [bx] := by
        rw [List.take_succ, List.getElem?_drop, hbg]
        rfl
      have hg2 : RGen n lv ((bs.drop at_).take (i + 1)) (rs ++ [r]) := by
        refine ⟨by rw [List.map_append, hg.box, htk, ← hrb]; rfl, fun r2 h2 => ?_, fun b2 m h2 => ?_, ?_⟩
        · rcases List.mem_append.mp h2 with h2 | h2
          · exact hg.head r2 h2
          · rw [List.mem_singleton.mp h2]
            exact hrh
        · rcases List.mem_append.mp h2 with h2 | h2
          · exact hg.calls b2 m h2
          · obtain ⟨q1, q2, _⟩ := hrc b2 m (List.mem_singleton.mp h2).symm
            exact ⟨q1, by omega⟩
        · rw [List.filter_append, List.length_append]
          cases r with
          | call b2 m =>
            have h3 := (hrc b2 m rfl).2.2
            have e4 : ([Rule.call b2 m].filter isCallB).length = 1 := rfl
            rw [e4]
            omega
          | word b2 w2 =>
            have := hg.few
            simp [isCallB] at this ⊢
            exact this
          | back b2 =>
            have := hg.few
            simp [isCallB] at this ⊢
            exact this
      have o9 : Ow K H6 t ((rs ++ [r]).map eRule) := by rw [List.map_append]; exact o7
      have hcnt : (((rs ++ [r]).filter isCallB).length : Int) = ((rs.filter isCallB).length : Nat) + (if isCallB r then 1 else 0) := by
        rw [List.filter_append, List.length_append]
        have e4 : ((([r].filter isCallB).length : Nat) : Int) = if isCallB r then 1 else 0 := by
          cases r <;> rfl
        rw [← e4]
        push_cast
        rfl
      cases r with
      | call b2 m =>
        have hur : Dt K H6 ur (.tup [.str "call", eBox b2, .str m]) := hur
        repeat walk_at "w"
        rw [show decide (("call" : Str) = "call") = true by decide]
        repeat walk_at "w"
        refine ⟨some (.int (i : Nat)), rs ++ [.call b2 m], ?_, s8, o8, o9, hg2⟩
        rw [hcnt]
        simp [isCallB]
        omega
      | word b2 w2 =>
        have hw2 : w2 ≠ "call" := by rcases hrh with rfl | rfl <;> decide
        have hur : Dt K H6 ur (.tup [.str w2, eBox b2]) := hur
        repeat walk_at "w"
        rw [decide_eq_false hw2]
        repeat walk_at "w"
        refine ⟨some (.int (i : Nat)), rs ++ [.word b2 w2], ?_, s8, o8, o9, hg2⟩
        rw [hcnt]
        simp [isCallB]
        omega
      | back b2 =>
        have hur : Dt K H6 ur (.tup [.str "back", eBox b2]) := hur
        repeat walk_at "w"
        rw [show decide (("back" : Str) = "call") = false by decide]
        repeat walk_at "w"
        refine ⟨some (.int (i : Nat)), rs ++ [.back b2], ?_, s8, o8, o9, hg2⟩
        rw [hcnt]
        simp [isCallB]
        omega
    · rintro σ' H'' ⟨_, rs, rfl, s5, o5, o6, hg⟩
      rw [numD_len] at hg
      repeat walk_at "w"
      refine w_tyO o5 ?_
      repeat walk_at "w"
      walk_at "newF"
      intro u7 H7 s7 hu7
      repeat walk_at "w"
      have hnm : ([D.str "main", D.str n] : List D)[lv]? = some (.str (if lv = 0 then ("main" : Str) else n)) := by
        match lv, hlv with
        | 0, _ => rfl
        | 1, _ => rfl
      refine w_ixL hu7 (atI_nat hnm) ?_
      repeat walk_at "w"
      refine w_outO (o6.up s7) fun H8 b8 x8 hr8 => ?_
      repeat walk_at "w"
      walk_at "newT"
      intro u9 H9 s9 hu9
      repeat walk_at "w"
      have s8 : Same H H8 := b8.same (by walk_at "same") nt0
      refine w_appS (d := eChT (if lv = 0 then ("main" : Str) else n, rs)) (((o5.up s7).but b8 x8 ntp).up s9) hu9 (by rw [List.length_map]; omega) (Hb := H) (by walk_at "same") np fun H10 b10 x10 s10 o10 => ?_
      repeat walk_at "w"
      refine ⟨at_ + (numD zz).length, _, _, _, _, chs ++ [(if lv = 0 then ("main" : Str) else n, rs)], rfl, s10, by rw [List.map_append]; exact o10, ?_, by simp; omega, fun j p2 hj => ?_⟩
      · rw [numD_len, hat, ← hsd]
        match lv, hlv with
        | 0, _ => simp
        | 1, _ => simp; omega
      · by_cases hjl : j < chs.length
        · rw [List.getElem?_append_left hjl] at hj
          exact hch j p2 hj
        · rw [List.getElem?_append_right (by omega)] at hj
          have hj2 : j = lv := by
            have := (List.getElem?_eq_some_iff.mp hj).1
            simp at this
            omega
          subst hj2
          rw [hcl, Nat.sub_self] at hj
          simp at hj
          subst hj
          refine ⟨rfl, ?_⟩
          have e1 : at_ = k0 + (if j = 0 then 0 else a) := by
            rw [hat]
            match j, hlv with
            | 0, _ => rfl
            | 1, _ => rfl
          rw [← e1, hsd]
          exact hg
  · rintro σ H' ⟨at_, _, _, _, _, chs, rfl, s2, o2, hat, hcl, hch⟩
    rw [numD_len] at hcl
    repeat walk_at "w"
    refine w_outS o2 s2 np fun H2 s3 hr => ?_
    match chs, hcl with
    | [p0, p1], _ =>
      obtain ⟨q1, q2⟩ := hch 0 p0 rfl
      obtain ⟨q3, q4⟩ := hch 1 p1 rfl
      obtain ⟨n0, r0⟩ := p0
      obtain ⟨n1, r1⟩ := p1
      have q1 : n0 = "main" := q1
      have q3 : n1 = n := q3
      subst q1 q3
      exact k _ _ _ s3 ⟨_, r0, r1, hn, rfl, by simpa using q2, by simpa using q4⟩ hr
end
end
section
open PySem PySem.Spec PyProof.Rows L2 TL
def turnW (w : Str) : Str := if w = "pass" then "stop" else if w = "stop" then "pass" else w
section
variable {P : Program} {w : World} {K : PySem.W.Frag} {mg : Str → Option Value} {base : Heap}
def sp_l_turned (K : PySem.W.Frag) : Sp := Sp1 fun x H Q => ∃ (z : Str), x = .str z ∧ Q (.str (turnW z)) H
def sN_l_turned : List Str := ["_law_word_here"]
theorem sc_l_turned : FnScope sN_l_turned ["_law_word_here"] (defScope s_l_turned) := ⟨rfl, rfl, rfl, by decide +kernel, rfl, by decide +kernel, by decide +kernel⟩

theorem ok_l_turned (T : Tx K mg) : Fd P w K mg base 1 (He.ga K "_law_turned") ["_law_word_here"] (sp_l_turned K) := by
  refine mkFd T.d_l_turned sc_l_turned (fun _ _ _ _ _ _ us hl => match us, hl with | [_], _ => rfl) (fun vs H Q E h => Sp1.len h) (fun cdv A outer s H vs Q E hr h => ?_)
  obtain ⟨x, rfl, z, rfl, k⟩ := h
  refine ⟨_, (pss_cons (ps_if (pt_cmpR op_eq (pv 0) pe_str (nomark _)) (pss_cons (ps_ret pe_str)
      pss_nil) pss_nil)
      (pss_cons (ps_if (pt_cmpR op_eq (pv 0) pe_str (nomark _)) (pss_cons (ps_ret pe_str)
      pss_nil) pss_nil)
      (pss_cons (ps_ret (pv 0))
      pss_nil))), ?_⟩
  unfold turnW at k
  try dsimp only [cxOf, Cx.nox, Cx.wish]
  repeat walk_at "w"
  by_cases h1 : z = "pass"
  · rw [if_pos h1] at k
    rw [decide_eq_true h1]
    repeat walk_at "w"
    exact k
  rw [if_neg h1] at k
  rw [decide_eq_false h1]
  repeat walk_at "w"
  by_cases h2 : z = "stop"
  · rw [if_pos h2] at k
    rw [decide_eq_true h2]
    repeat walk_at "w"
    exact k
  rw [if_neg h2] at k
  rw [decide_eq_false h2]
  repeat walk_at "w"
  exact k
def sp_l_parcel (K : PySem.W.Frag) : Sp := Sp3 fun x y z H Q => ∃ (s : List Int) (c : Int) (a : Nat), a ≤ 100000 ∧ Dt K H x (.lst ((marksL s).map D.int)) ∧ y = .int c ∧ z = .int (a : Nat) ∧ ∀ v H' pt, Same H H' → pt.length = 6 → hasB every pt = true → Dt K H' v (eInts pt) → Q v H'
theorem hasB_take {pt : List Int} (h : ∀ i n, pt[i]? = some n → 0 ≤ n ∧ n ≤ topN i) (h6 : pt.length = 6) : hasB every pt = true := by
  match pt, h6 with
  | [a, b, c, d, e, f], _ =>
    have h0 := h 0 a rfl
    have h1 := h 1 b rfl
    have h2 := h 2 c rfl
    have h3 := h 3 d rfl
    have h4 := h 4 e rfl
    have h5 := h 5 f rfl
    simp [topN, tops] at h0 h1 h2 h3 h4 h5
    simp [hasB, every, holdsB]
    omega
def sN_l_parcel : List Str := ["_law_marks_here", "_law_cell", "_law_at", "_law_parcel_here", "_law_d", "_law_top_here", "_law_turn", "_law_way", "_law_number_here"]
theorem sc_l_parcel : FnScope sN_l_parcel ["_law_marks_here", "_law_cell", "_law_at"] (defScope s_l_parcel) := ⟨rfl, rfl, rfl, by decide +kernel, rfl, by decide +kernel, by decide +kernel⟩

theorem ok_l_parcel (T : Tx K mg) : Fd P w K mg base 2 (He.ga K "_law_parcel") ["_law_marks_here", "_law_cell", "_law_at"] (sp_l_parcel K) := by
  have F_l_top := ok_l_top (P := P) (w := w) (base := base) T
  refine mkFd T.d_l_parcel sc_l_parcel (fun _ _ _ _ _ _ us hl => match us, hl with | [_, _, _], _ => rfl) (fun vs H Q E h => Sp3.len h) (fun cdv A outer s H vs Q E hr h => ?_)
  obtain ⟨x, y, z, rfl, s, c, a, ha, hx, rfl, rfl, k⟩ := h
  refine ⟨_, (pss_cons (ps_set (i := 3) sc_l_parcel.nd rfl (.inl rfl) (pe_lst pa_nil))
      (pss_cons (ps_for PassesOwn.never rfl (pi_range1 (by rfl) T.b_range (pa_cons pe_int pa_nil)) (pg_name (i := 4) sc_l_parcel.nd rfl (.inl rfl)) (pss_cons (ps_set (i := 5) sc_l_parcel.nd rfl (.inl rfl) (pe_f F_l_top (hr.mono (by omega)) (by rfl) T.g_l_top (pa_cons (pv 4) pa_nil)))
      (pss_cons (ps_set (i := 6) sc_l_parcel.nd rfl (.inl rfl) (pe_op op_mod (pe_op op_mul (pe_op op_add (pe_op op_add (pe_op op_mod (pv 1) pe_int) (pv 2)) pe_int) (pe_op op_add pe_int (pe_op op_mul pe_int (pv 4)))) pe_int))
      (pss_cons (ps_set (i := 7) sc_l_parcel.nd rfl (.inl rfl) (pe_op op_mod (pv 6) pe_int))
      (pss_cons (ps_set (i := 8) sc_l_parcel.nd rfl (.inl rfl) (pe_op op_sub (pe_op op_add (pe_ix ix_list (pv 0) (pv 4) (fun _ _ => rfl)) (pv 7)) pe_int))
      (pss_cons (ps_if (pt_cmpR op_eq (pv 7) pe_int (nomark _)) (pss_cons (ps_set (i := 8) sc_l_parcel.nd rfl (.inl rfl) pe_int)
      pss_nil) pss_nil)
      (pss_cons (ps_if (pt_cmpR op_eq (pv 7) pe_int (nomark _)) (pss_cons (ps_set (i := 8) sc_l_parcel.nd rfl (.inl rfl) (pv 5))
      pss_nil) pss_nil)
      (pss_cons (ps_if (pt_cmpR op_eq (pv 7) pe_int (nomark _)) (pss_cons (ps_set (i := 8) sc_l_parcel.nd rfl (.inl rfl) (pe_op op_mod (pe_op op_mul (pe_op op_fdiv (pv 6) pe_int) pe_int) (pe_op op_add (pv 5) pe_int)))
      pss_nil) pss_nil)
      (pss_cons (ps_expr (pe_bm PySem.F.plainAttrs_list PySem.F.slot_list_append PySem.F.type_list_append mt_append (pv 3) (pa_cons (pe_callB (cl_min2 rfl) (by rfl) T.b_min (by decide +kernel) (pa_cons (pe_callB (cl_max2 rfl) (by rfl) T.b_max (by decide +kernel) (pa_cons (pv 8) (pa_cons pe_int pa_nil))) (pa_cons (pv 5) pa_nil))) pa_nil)))
      pss_nil)))))))))
      (pss_cons (ps_ret (pe_callTy cl_tupOf (by rfl) T.b_tuple (by decide +kernel) (pa_cons (pv 3) pa_nil)))
      pss_nil))), ?_⟩
  try dsimp only [cxOf, Cx.nox, Cx.wish]
  repeat walk_at "w"
  walk_at "newO"
  intro p H1 np s1 o1
  repeat walk_at "w"
  refine i_rng (K := K) 6 rfl (by decide) fun J it => ?_
  refine f_for it (fun i σ H' => ∃ (e4 e5 e6 e7 e8 : Option V) (pt : List Int), σ = [some x, some (.int c), some (.int (a : Nat)), some (.ref p), e4, e5, e6, e7, e8] ∧ Same H H' ∧ Ow K H' p (pt.map D.int) ∧ pt.length = i ∧ ∀ j n, pt[j]? = some n → 0 ≤ n ∧ n ≤ topN j) ⟨_, _, _, _, _, [], rfl, s1, o1, rfl, fun j n h => by simp at h⟩ (fun _ _ _ _ => trivial) ?_ ?_
  · rintro d dd u σ H' H2 e1 ⟨_, _, _, _, _, pt, rfl, s2, o2, hpl, hpt⟩ s3 hu
    obtain ⟨hd, rfl⟩ := numD_get e1
    cases hu
    obtain ⟨m, hm, hm0, hm1⟩ := marks_in (s := s) hd
    have htp := topN_le hd
    have hmg : ((marksL s).map D.int)[d]? = some (.int m) := by rw [List.getElem?_map, hm]; rfl
    repeat walk_at "w"
    refine Sp1.mk ⟨d, hd, rfl, fun H3 s4 => ?_⟩
    repeat walk_at "w"
    refine w_I (by decide) ?_
    repeat walk_at "w"
    refine w_I (.inl ⟨by decide, by decide⟩) ?_
    repeat walk_at "w"
    refine w_I (.inr ⟨by omega, by omega⟩) ?_
    repeat walk_at "w"
    refine w_I (by decide) ?_
    generalize (c % 1000000007 + (a : Nat) + 1) * (48271 + 2 * (d : Nat)) % 2147483647 = t
    repeat walk_at "w"
    refine w_I (by decide) ?_
    repeat walk_at "w"
    by_cases h3 : t % 6 = 3
    · rw [decide_eq_true h3]
      repeat walk_at "w"
      rw [decide_eq_false (show ¬ t % 6 = 4 by omega)]
      repeat walk_at "w"
      rw [decide_eq_false (show ¬ t % 6 = 5 by omega)]
      repeat walk_at "w"
      refine w_tyO (o2.up (by walk_at "same")) ?_
      repeat walk_at "w"
      rw [max_if, min_if]
      refine w_appS (d := .int _) (o2.up (by walk_at "same")) (.int _) (by rw [List.length_map]; omega) (Hb := H) (by walk_at "same") np fun H5 b5 x5 s6 o5 => ?_
      repeat walk_at "w"
      refine ⟨_, _, _, _, _, pt ++ [_], rfl, s6, by rw [List.map_append]; exact o5, by rw [List.length_append, hpl]; rfl, fun j n hj => ?_⟩
      by_cases hjl : j < pt.length
      · rw [List.getElem?_append_left hjl] at hj
        exact hpt j n hj
      · rw [List.getElem?_append_right (by omega)] at hj
        have hj2 : j = d := by
          have := (List.getElem?_eq_some_iff.mp hj).1
          simp at this
          omega
        subst hj2
        rw [hpl, Nat.sub_self] at hj
        simp at hj
        subst hj
        omega
    rw [decide_eq_false h3]
    repeat walk_at "w"
    by_cases h4 : t % 6 = 4
    · rw [decide_eq_true h4]
      repeat walk_at "w"
      rw [decide_eq_false (show ¬ t % 6 = 5 by omega)]
      repeat walk_at "w"
      refine w_tyO (o2.up (by walk_at "same")) ?_
      repeat walk_at "w"
      rw [max_if, min_if]
      refine w_appS (d := .int _) (o2.up (by walk_at "same")) (.int _) (by rw [List.length_map]; omega) (Hb := H) (by walk_at "same") np fun H5 b5 x5 s6 o5 => ?_
      repeat walk_at "w"
      refine ⟨_, _, _, _, _, pt ++ [_], rfl, s6, by rw [List.map_append]; exact o5, by rw [List.length_append, hpl]; rfl, fun j n hj => ?_⟩
      by_cases hjl : j < pt.length
      · rw [List.getElem?_append_left hjl] at hj
        exact hpt j n hj
      · rw [List.getElem?_append_right (by omega)] at hj
        have hj2 : j = d := by
          have := (List.getElem?_eq_some_iff.mp hj).1
          simp at this
          omega
        subst hj2
        rw [hpl, Nat.sub_self] at hj
        simp at hj
        subst hj
        omega
    rw [decide_eq_false h4]
    repeat walk_at "w"
    by_cases h5 : t % 6 = 5
    · rw [decide_eq_true h5]
      repeat walk_at "w"
      refine w_I ⟨by decide, by decide⟩ ?_
      repeat walk_at "w"
      refine w_I (.inr ⟨by decide, by decide⟩) ?_
      repeat walk_at "w"
      refine w_I (by omega) ?_
      generalize t / 6 * 65537 % (topN d + 1) = qq
      repeat walk_at "w"
      refine w_tyO (o2.up (by walk_at "same")) ?_
      repeat walk_at "w"
      rw [max_if, min_if]
      refine w_appS (d := .int _) (o2.up (by walk_at "same")) (.int _) (by rw [List.length_map]; omega) (Hb := H) (by walk_at "same") np fun H5 b5 x5 s6 o5 => ?_
      repeat walk_at "w"
      refine ⟨_, _, _, _, _, pt ++ [_], rfl, s6, by rw [List.map_append]; exact o5, by rw [List.length_append, hpl]; rfl, fun j n hj => ?_⟩
      by_cases hjl : j < pt.length
      · rw [List.getElem?_append_left hjl] at hj
        exact hpt j n hj
      · rw [List.getElem?_append_right (by omega)] at hj
        have hj2 : j = d := by
          have := (List.getElem?_eq_some_iff.mp hj).1
          simp at this
          omega
        subst hj2
        rw [hpl, Nat.sub_self] at hj
        simp at hj
        subst hj
        omega
    rw [decide_eq_false h5]
    repeat walk_at "w"
    refine w_tyO (o2.up (by walk_at "same")) ?_
    repeat walk_at "w"
    rw [max_if, min_if]
    refine w_appS (d := .int _) (o2.up (by walk_at "same")) (.int _) (by rw [List.length_map]; omega) (Hb := H) (by walk_at "same") np fun H5 b5 x5 s6 o5 => ?_
    repeat walk_at "w"
    refine ⟨_, _, _, _, _, pt ++ [_], rfl, s6, by rw [List.map_append]; exact o5, by rw [List.length_append, hpl]; rfl, fun j n hj => ?_⟩
    by_cases hjl : j < pt.length
    · rw [List.getElem?_append_left hjl] at hj
      exact hpt j n hj
    · rw [List.getElem?_append_right (by omega)] at hj
      have hj2 : j = d := by
        have := (List.getElem?_eq_some_iff.mp hj).1
        simp at this
        omega
      subst hj2
      rw [hpl, Nat.sub_self] at hj
      simp at hj
      subst hj
      omega
  · rintro σ H' ⟨_, _, _, _, _, pt, rfl, s2, o2, hpl, hpt⟩
    rw [numD_len] at hpl
    repeat walk_at "w"
    refine w_tupO o2 fun u H2 s3 hu => ?_
    exact k _ _ pt (by walk_at "same") hpl (hasB_take hpt hpl) hu
end
end
section
open PySem PySem.Spec PyProof.Rows L2 TL
def shownS (d : Nat) (n : Int) : Str := if isAd d then dotS n else numS n
section
variable {P : Program} {w : World} {K : PySem.W.Frag} {mg : Str → Option Value} {base : Heap}
def sp_l_dotted (K : PySem.W.Frag) : Sp := Sp1 fun x H Q => ∃ (a : Int), AdOk a ∧ x = .int a ∧ ∀ H', Same H H' → Q (.str (dotS a)) H'
def sN_l_dotted : List Str := ["_law_address", "_law_some"]
theorem sc_l_dotted : FnScope sN_l_dotted ["_law_address"] (defScope s_l_dotted) := ⟨rfl, rfl, rfl, by decide +kernel, rfl, by decide +kernel, by decide +kernel⟩

theorem ok_l_dotted (T : Tx K mg) : Fd P w K mg base 1 (He.ga K "_law_dotted") ["_law_address"] (sp_l_dotted K) := by
  refine mkFd T.d_l_dotted sc_l_dotted (fun _ _ _ _ _ _ us hl => match us, hl with | [_], _ => rfl) (fun vs H Q E h => Sp1.len h) (fun cdv A outer s H vs Q E hr h => ?_)
  obtain ⟨x, rfl, a, ⟨h0, h1⟩, rfl, k⟩ := h
  refine ⟨_, (pss_cons (ps_set (i := 1) sc_l_dotted.nd rfl (.inl rfl) (pe_fz (pe_lst (pa_cons (pe_callTy cl_strI (by rfl) T.b_str (by decide +kernel) (pa_cons (pe_op op_fdiv (pv 0) pe_int) pa_nil)) (pa_cons (pe_callTy cl_strI (by rfl) T.b_str (by decide +kernel) (pa_cons (pe_op op_mod (pe_op op_fdiv (pv 0) pe_int) pe_int) pa_nil)) (pa_cons (pe_callTy cl_strI (by rfl) T.b_str (by decide +kernel) (pa_cons (pe_op op_mod (pe_op op_fdiv (pv 0) pe_int) pe_int) pa_nil)) (pa_cons (pe_callTy cl_strI (by rfl) T.b_str (by decide +kernel) (pa_cons (pe_op op_mod (pv 0) pe_int) pa_nil)) pa_nil)))))))
      (pss_cons (ps_ret (pe_joinR pe_str (pv 1)))
      pss_nil)), ?_⟩
  try dsimp only [cxOf, Cx.nox, Cx.wish]
  repeat walk_at "w"
  refine w_I ⟨by decide, by decide⟩ ?_
  repeat walk_at "w"
  refine w_strI (log_small (by omega) (by omega)) ?_
  repeat walk_at "w"
  refine w_I ⟨by decide, by decide⟩ ?_
  repeat walk_at "w"
  refine w_I (by decide) ?_
  repeat walk_at "w"
  refine w_strI (log_small (by omega) (by omega)) ?_
  repeat walk_at "w"
  refine w_I ⟨by decide, by decide⟩ ?_
  repeat walk_at "w"
  refine w_I (by decide) ?_
  repeat walk_at "w"
  refine w_strI (log_small (by omega) (by omega)) ?_
  repeat walk_at "w"
  refine w_I (by decide) ?_
  repeat walk_at "w"
  refine w_strI (log_small (by omega) (by omega)) ?_
  repeat walk_at "w"
  walk_at "newF"
  intro u H1 s1 hu
  repeat walk_at "w"
  have e : [numS (a / 16777216), numS (a / 65536 % 256), numS (a / 256 % 256), numS (a % 256)] = (parts4 a).map numS := by
    unfold parts4
    rw [show a / 16777216 % 256 = a / 16777216 by omega]
    rfl
  refine s_join (ss := (parts4 a).map numS) (Dt.ls (by rw [← e]; exact hu)) ?_ (k _ s1)
  refine sum_bound (k := 10) (n := 4) (fun s hs => ?_) (Nat.le_refl _) _ rfl (by decide)
  obtain ⟨n, h1, rfl⟩ := List.mem_map.mp hs
  have := parts4_in h1
  exact numS_len this.1 (by omega)
def sp_l_shown (K : PySem.W.Frag) : Sp := Sp2 fun x y H Q => ∃ (d : Nat) (n : Int), d < 6 ∧ 0 ≤ n ∧ n ≤ topN d ∧ x = .int (d : Nat) ∧ y = .int n ∧ ∀ H', Same H H' → Q (.str (shownS d n)) H'
def sN_l_shown : List Str := ["_law_d", "_law_number_here"]
theorem sc_l_shown : FnScope sN_l_shown ["_law_d", "_law_number_here"] (defScope s_l_shown) := ⟨rfl, rfl, rfl, by decide +kernel, rfl, by decide +kernel, by decide +kernel⟩

theorem ok_l_shown (T : Tx K mg) : Fd P w K mg base 2 (He.ga K "_law_shown") ["_law_d", "_law_number_here"] (sp_l_shown K) := by
  have F_l_dotted := ok_l_dotted (P := P) (w := w) (base := base) T
  refine mkFd T.d_l_shown sc_l_shown (fun _ _ _ _ _ _ us hl => match us, hl with | [_, _], _ => rfl) (fun vs H Q E h => Sp2.len h) (fun cdv A outer s H vs Q E hr h => ?_)
  obtain ⟨x, y, rfl, d, n, hd, h0, h1, rfl, rfl, k⟩ := h
  have ht := topN_le hd
  refine ⟨_, (pss_cons (ps_if (PW.pt (pw_or (pt_cmpR op_eq (pv 0) pe_int (nomark _)) (pw_or1 (pt_cmpR op_eq (pv 0) pe_int (nomark _))))) (pss_cons (ps_ret (pe_f F_l_dotted (hr.mono (by omega)) (by rfl) T.g_l_dotted (pa_cons (pv 1) pa_nil)))
      pss_nil) pss_nil)
      (pss_cons (ps_ret (pe_callTy cl_strI (by rfl) T.b_str (by decide +kernel) (pa_cons (pv 1) pa_nil)))
      pss_nil)), ?_⟩
  unfold shownS at k
  try dsimp only [cxOf, Cx.nox, Cx.wish]
  repeat walk_at "w"
  by_cases h2 : d = 2
  · rw [if_pos (.inl h2)] at k
    rw [decide_eq_true (show ((d : Nat) : Int) = 2 by omega)]
    repeat walk_at "w"
    exact Sp1.mk ⟨n, ⟨h0, by omega⟩, rfl, k⟩
  rw [decide_eq_false (show ¬ ((d : Nat) : Int) = 2 by omega)]
  repeat walk_at "w"
  by_cases h4 : d = 4
  · rw [if_pos (.inr h4)] at k
    rw [decide_eq_true (show ((d : Nat) : Int) = 4 by omega)]
    repeat walk_at "w"
    exact Sp1.mk ⟨n, ⟨h0, by omega⟩, rfl, k⟩
  rw [decide_eq_false (show ¬ ((d : Nat) : Int) = 4 by omega)]
  rw [if_neg (fun z => z.elim h2 h4)] at k
  repeat walk_at "w"
  exact w_strI (log_small h0 (by omega)) (k _ (Same.refl _))
end
end
section
open PySem PySem.Spec PyProof.Rows L2 TL
section
variable {P : Program} {w : World} {K : PySem.W.Frag} {mg : Str → Option Value} {base : Heap}
def sp_l_has (K : PySem.W.Frag) : Sp := Sp2 fun x y H Q => ∃ (b : Box) (pt : List Int), b.length = 6 ∧ pt.length = 6 ∧ Dt K H x (eBox b) ∧ Dt K H y (eInts pt) ∧ ∀ H', Same H H' → Q (.bl (hasB b pt)) H'
def sN_l_has : List Str := ["_law_box_here", "_law_parcel_here", "_law_k"]
theorem sc_l_has : FnScope sN_l_has ["_law_box_here", "_law_parcel_here"] (defScope s_l_has) := ⟨rfl, rfl, rfl, by decide +kernel, rfl, by decide +kernel, by decide +kernel⟩

theorem ok_l_has (T : Tx K mg) : Fd P w K mg base 1 (He.ga K "_law_has") ["_law_box_here", "_law_parcel_here"] (sp_l_has K) := by
  refine mkFd T.d_l_has sc_l_has (fun _ _ _ _ _ _ us hl => match us, hl with | [_, _], _ => rfl) (fun vs H Q E h => Sp2.len h) (fun cdv A outer s H vs Q E hr h => ?_)
  obtain ⟨x, y, rfl, b, pt, hb, hp, hx, hy, k⟩ := h
  refine ⟨_, (pss_cons (ps_for PassesOwn.never rfl (pi_range1 (by rfl) T.b_range (pa_cons pe_int pa_nil)) (pg_name (i := 2) sc_l_has.nd rfl (.inl rfl)) (pss_cons (ps_if (PW.pt (pw_or (pt_cmpR op_lt (pe_ix ix_tup (pv 1) (pv 2) (fun _ _ => rfl)) (pe_ix ix_tup (pe_ix ix_tup (pv 0) (pv 2) (fun _ _ => rfl)) pe_int (fun _ _ => rfl)) (nomark _)) (pw_or1 (pt_cmpR op_gt (pe_ix ix_tup (pv 1) (pv 2) (fun _ _ => rfl)) (pe_ix ix_tup (pe_ix ix_tup (pv 0) (pv 2) (fun _ _ => rfl)) pe_int (fun _ _ => rfl)) (nomark _))))) (pss_cons (ps_ret pe_bl)
      pss_nil) pss_nil)
      pss_nil))
      (pss_cons (ps_ret pe_bl)
      pss_nil)), ?_⟩
  try dsimp only [cxOf, Cx.nox, Cx.wish]
  repeat walk_at "w"
  refine i_rng (K := K) 6 rfl (by decide) fun J it => ?_
  refine f_for it (fun i σ H' => ∃ e, σ = [some x, some y, e] ∧ Same H H' ∧ hasB (b.drop i) (pt.drop i) = hasB b pt) ⟨_, rfl, Same.refl _, rfl⟩ (fun _ _ _ _ => trivial) ?_ ?_
  · rintro i d u σ H' H2 e1 ⟨_, rfl, s2, e3⟩ s3 hu
    obtain ⟨hi, rfl⟩ := numD_get e1
    cases hu
    have q1 : b[i]? = some (b[i]'(by omega)) := by simp [hb, hi]
    have q2 : pt[i]? = some (pt[i]'(by omega)) := by simp [hp, hi]
    generalize b[i]'(by omega) = st at *
    generalize pt[i]'(by omega) = n at *
    have e4 := hasB_drop q1 q2
    have q3 : (b.map eSt)[i]? = some (eSt st) := by rw [List.getElem?_map, q1]; rfl
    have q4 : (pt.map D.int)[i]? = some (.int n) := by rw [List.getElem?_map, q2]; rfl
    have hx2 := hx.up (H' := H2) (by walk_at "ext")
    have hy2 := hy.up (H' := H2) (by walk_at "ext")
    rw [e4] at e3
    repeat walk_at "w"
    by_cases h1 : n < st.1
    · rw [decide_eq_true h1]
      repeat walk_at "w"
      have hf : holdsB st n = false := by
        unfold holdsB
        rw [decide_eq_false (by omega : ¬ st.1 ≤ n), Bool.false_and]
      have k2 := k H2 (by walk_at "same")
      rw [← e3, hf, Bool.false_and] at k2
      exact k2
    rw [decide_eq_false h1]
    repeat walk_at "w"
    by_cases h2 : n > st.2
    · rw [decide_eq_true h2]
      repeat walk_at "w"
      have hf : holdsB st n = false := by
        unfold holdsB
        rw [decide_eq_false (by omega : ¬ n ≤ st.2), Bool.and_false]
      have k2 := k H2 (by walk_at "same")
      rw [← e3, hf, Bool.false_and] at k2
      exact k2
    rw [decide_eq_false h2]
    repeat walk_at "w"
    have hf : holdsB st n = true := by
      unfold holdsB
      rw [decide_eq_true (by omega : st.1 ≤ n), decide_eq_true (by omega : n ≤ st.2)]
      rfl
    rw [hf, Bool.true_and] at e3
    exact ⟨_, rfl, (by walk_at "same"), e3⟩
  · rintro σ H' ⟨_, rfl, s2, e3⟩
    rw [numD_len, List.drop_eq_nil_of_le (by omega), List.drop_eq_nil_of_le (by omega)] at e3
    repeat walk_at "w"
    have k2 := k H' s2
    rw [← e3] at k2
    exact k2
def sp_l_words (K : PySem.W.Frag) : Sp := Sp1 fun x H Q => ∃ (pt : List Int), PtOk pt ∧ Dt K H x (eInts pt) ∧ ∀ H', Same H H' → Q (.str (parS pt)) H'
def sN_l_words : List Str := ["_law_parcel_here", "_law_d"]
theorem sc_l_words : FnScope sN_l_words ["_law_parcel_here"] (defScope s_l_words) := ⟨rfl, rfl, rfl, by decide +kernel, rfl, by decide +kernel, by decide +kernel⟩

theorem pt_get {pt : List Int} (h : PtOk pt) {d : Nat} (hd : d < 6) : pt[d]? = some (pt.getD d 0) ∧ 0 ≤ pt.getD d 0 ∧ pt.getD d 0 ≤ topN d := by
  obtain ⟨a, b, c, d', e, f, rfl, ha, hb, hc, hd', he, hf⟩ := h.ex
  have h4 : topN 4 = 4294967295 := rfl
  match d, hd with
  | 0, _ => exact ⟨rfl, ha⟩
  | 1, _ => exact ⟨rfl, hb⟩
  | 2, _ => exact ⟨rfl, hc.1, by have := hc.2; show c ≤ 4294967295; omega⟩
  | 3, _ => exact ⟨rfl, hd'⟩
  | 4, _ => exact ⟨rfl, he.1, by have := he.2; show e ≤ 4294967295; omega⟩
  | 5, _ => exact ⟨rfl, hf⟩
theorem parW_eq {pt : List Int} (h : PtOk pt) : (List.range 6).map (fun d => shownS d (pt.getD d 0)) = parW pt := by
  obtain ⟨a, b, c, d', e, f, rfl, _⟩ := h.ex
  rfl
theorem parW_len {pt : List Int} (h : PtOk pt) : ∀ s ∈ parW pt, s.length ≤ 44 := by
  obtain ⟨a, b, c, d, e, f, rfl, ha, hb, hc, hd, he, hf⟩ := h.ex
  intro s hs
  have h0 := numS_len10 ha.1 (by omega)
  have h1 := numS_len10 hb.1 (by omega)
  have h2 := numS_len10 hd.1 (by omega)
  have h3 := numS_len10 hf.1 (by omega)
  have h4 := dotS_len c
  have h5 := dotS_len e
  simp [parW] at hs
  rcases hs with rfl | rfl | rfl | rfl | rfl | rfl <;> omega
theorem ok_l_words (T : Tx K mg) : Fd P w K mg base 3 (He.ga K "_law_words") ["_law_parcel_here"] (sp_l_words K) := by
  have F_l_shown := ok_l_shown (P := P) (w := w) (base := base) T
  refine mkFd T.d_l_words sc_l_words (fun _ _ _ _ _ _ us hl => match us, hl with | [_], _ => rfl) (fun vs H Q E h => Sp1.len h) (fun cdv A outer s H vs Q E hr h => ?_)
  obtain ⟨x, rfl, pt, hpt, hx, k⟩ := h
  refine ⟨_, (pss_cons (ps_ret (pe_joinR pe_str (pe_fz (pe_lc (own := [("_law_d", 1)]) rfl sc_l_words.nd (pi_range1 (by rfl) T.b_range (pa_cons pe_int pa_nil)) (blkOk_by (own := [("_law_d", 1)]) (N := sN_l_words) (sc := defScope s_l_words) (by decide +kernel)) (fun _ _ _ _ _ => (pg_name (i := 1) sc_l_words.nd rfl (.inl rfl))) (fun _ _ _ _ _ => pts_nil) (fun _ _ _ _ _ => (pe_f F_l_shown (hr.mono (by omega)) (by rfl) T.g_l_shown (pa_cons (pv 1) (pa_cons (pe_ix (show IxR _ (rIxT K) from ix_tup) (pv 0) (pv 1) (fun _ _ => rfl)) pa_nil))))))))
      pss_nil), ?_⟩
  try dsimp only [cxOf, Cx.nox, Cx.wish]
  repeat walk_at "w"
  refine i_rng (K := K) 6 rfl (by decide) fun J it => ?_
  refine f_lc (l := List.range 6) (emb := fun (i : Nat) => D.int (i : Nat)) it (fun (d : Nat) => some (.str (shownS d (pt.getD d 0)))) (by simp) (fun _ _ => trivial) (fun i d u H' Y N e s1 hu hY hN => ?_) fun p H1 xs np s1 hp r => ?_
  · have hd : d < 6 := by
      have := List.mem_of_getElem? e
      simpa using this
    cases hu
    obtain ⟨g0, g1, g2⟩ := pt_get hpt hd
    have q4 : (pt.map D.int)[d]? = some (.int (pt.getD d 0)) := by rw [List.getElem?_map, g0]; rfl
    have hx2 := hx.up (H' := H') (by walk_at "ext")
    repeat walk_at "w"
    refine ⟨rfl, ?_⟩
    repeat walk_at "w"
    refine Sp2.mk ⟨d, _, hd, g1, g2, rfl, rfl, fun H2 s2 => ?_⟩
    exact hY _ _ _ rfl s2 (.str _)
  · refine lcF np s1 hp r fun u H2 s2 hu => ?_
    rw [show (List.range 6).filterMap (fun (d : Nat) => some (D.str (shownS d (pt.getD d 0)))) = (parW pt).map D.str by rw [← parW_eq hpt, List.map_map]; simp [Function.comp_def]] at hu
    refine s_join (Dt.ls hu) (sum_bound (k := 44) (n := 6) (parW_len hpt) ?_ _ rfl (by decide)) (k _ s2)
    rw [← parW_eq hpt]
    simp
end
end
section
open PySem PySem.Spec PyProof.Rows L2 TL
theorem shL_eq (d : Nat) (st : Int × Int) : shL d st = if st.1 = st.2 then shownS d st.1 else shownS d st.1 ++ "-" ++ shownS d st.2 := by
  unfold shL dotN showN shownS
  by_cases h : isAd d
  · rw [if_pos h, if_pos h, if_pos h]
  · rw [if_neg h, if_neg h, if_neg h]
theorem shown_len {d : Nat} {n : Int} (hd : d < 6) (h0 : 0 ≤ n) (h1 : n ≤ topN d) : (shownS d n).length ≤ 44 := by
  have ht := topN_le hd
  have := dotS_len n
  have := numS_len10 h0 (by omega)
  unfold shownS
  split <;> omega
section
variable {P : Program} {w : World} {K : PySem.W.Frag} {mg : Str → Option Value} {base : Heap}
def sp_l_row (K : PySem.W.Frag) : Sp := Sp1 fun x H Q => ∃ (r : Rule), BoxIn r.box every ∧ HeadOk r ∧ Dt K H x (eRule r) ∧ ∀ H', Same H H' → Q (.str (rowS shL r)) H'
def sN_l_row : List Str := ["_law_rule_here", "_law_words_here", "_law_d", "_law_low", "_law_high"]
theorem sc_l_row : FnScope sN_l_row ["_law_rule_here"] (defScope s_l_row) := ⟨rfl, rfl, rfl, by decide +kernel, rfl, by decide +kernel, by decide +kernel⟩

theorem eRule_head {K : PySem.W.Frag} {H : Hp} {x : V} {r : Rule} (hh : HeadOk r) (h : Dt K H x (eRule r)) : ∃ ds z, Dt K H x (.tup ds) ∧ L2.atI ds 0 = some (.str z) ∧ L2.atI ds 1 = some (eBox r.box) ∧ ((z ≠ "call" ∧ headW r = [z]) ∨ ∃ n, z = "call" ∧ headW r = [z, n] ∧ L2.atI ds 2 = some (.str n)) := by
  cases r with
  | word b w => exact ⟨_, w, h, rfl, rfl, .inl ⟨by rcases hh with rfl | rfl <;> decide, rfl⟩⟩
  | back b => exact ⟨_, "back", h, rfl, rfl, .inl ⟨by decide, rfl⟩⟩
  | call b n => exact ⟨_, "call", h, rfl, rfl, .inr ⟨n, rfl, rfl, rfl⟩⟩
theorem headW_len {r : Rule} (h : HeadOk r) : (headW r).length ≤ 2 ∧ ∀ s ∈ headW r, s.length ≤ 12 := by
  cases r with
  | word b w =>
    refine ⟨by simp [headW], fun s hs => ?_⟩
    rw [List.mem_singleton.mp hs]
    rcases h with rfl | rfl
    · exact (by decide : ("pass" : Str).length ≤ 12)
    · exact (by decide : ("stop" : Str).length ≤ 12)
  | back b =>
    refine ⟨by simp [headW], fun s hs => ?_⟩
    rw [List.mem_singleton.mp hs]
    exact (by decide : ("back" : Str).length ≤ 12)
  | call b n =>
    refine ⟨by simp [headW], fun s hs => ?_⟩
    simp [headW] at hs
    rcases hs with rfl | rfl
    · exact (by decide : ("call" : Str).length ≤ 12)
    · exact isName_len h
theorem shL_len {b : Box} (h : BoxIn b every) {d : Nat} (hd : d < 6) : (shL d (b.getD d (0, topN d))).length ≤ 100 := by
  obtain ⟨_, h0, h1, h2⟩ := box_get h hd
  generalize b.getD d (0, topN d) = st at *
  have l1 := shown_len hd h0 (by omega)
  have l2 := shown_len hd (n := st.2) (by omega) h2
  rw [shL_eq]
  split
  · omega
  · rw [len_app, len_app, show ("-" : Str).length = 1 from rfl]
    omega
theorem ok_l_row (T : Tx K mg) : Fd P w K mg base 3 (He.ga K "_law_row") ["_law_rule_here"] (sp_l_row K) := by
  have F_l_top := ok_l_top (P := P) (w := w) (base := base) T
  have F_l_shown := ok_l_shown (P := P) (w := w) (base := base) T
  refine mkFd T.d_l_row sc_l_row (fun _ _ _ _ _ _ us hl => match us, hl with | [_], _ => rfl) (fun vs H Q E h => Sp1.len h) (fun cdv A outer s H vs Q E hr h => ?_)
  obtain ⟨x, rfl, r, hb, hh, hx, k⟩ := h
  obtain ⟨hwl, hws⟩ := headW_len hh
  obtain ⟨ds, z, hds, hd0, hd1, hcase⟩ := eRule_head hh hx
  refine ⟨_, (pss_cons (ps_set (i := 1) sc_l_row.nd rfl (.inl rfl) (pe_lst (pa_cons (pe_ix ix_tup (pv 0) pe_int (fun _ _ => rfl)) pa_nil)))
      (pss_cons (ps_if (pt_cmpR op_eq (pe_ix ix_tup (pv 0) pe_int (fun _ _ => rfl)) pe_str (nomark _)) (pss_cons (ps_expr (pe_bm PySem.F.plainAttrs_list PySem.F.slot_list_append PySem.F.type_list_append mt_append (pv 1) (pa_cons (pe_ix ix_tup (pv 0) pe_int (fun _ _ => rfl)) pa_nil)))
      pss_nil) pss_nil)
      (pss_cons (ps_for PassesOwn.never rfl (pi_range1 (by rfl) T.b_range (pa_cons pe_int pa_nil)) (pg_name (i := 2) sc_l_row.nd rfl (.inl rfl)) (pss_cons (ps_asg (pe_ix ix_tup (pe_ix ix_tup (pv 0) pe_int (fun _ _ => rfl)) (pv 2) (fun _ _ => rfl)) (pg_tup rfl (pgs_cons (pg_name (i := 3) sc_l_row.nd rfl (.inl rfl)) (pgs_cons (pg_name (i := 4) sc_l_row.nd rfl (.inl rfl)) pgs_nil))))
      (pss_cons (ps_if (pt_cmpR (op_neG hr.units) (pe_tup (pa_cons (pv 3) (pa_cons (pv 4) pa_nil))) (pe_tup (pa_cons pe_int (pa_cons (pe_f F_l_top (hr.mono (by omega)) (by rfl) T.g_l_top (pa_cons (pv 2) pa_nil)) pa_nil))) (nomark _)) (pss_cons (ps_expr (pe_bm PySem.F.plainAttrs_list PySem.F.slot_list_append PySem.F.type_list_append mt_append (pv 1) (pa_cons (pe_ix ix_list (pe_fz (pe_lst (pa_cons pe_str (pa_cons pe_str (pa_cons pe_str (pa_cons pe_str (pa_cons pe_str (pa_cons pe_str pa_nil)))))))) (pv 2) (fun _ _ => rfl)) pa_nil)))
      (pss_cons (ps_if (pt_cmpR op_eq (pv 3) (pv 4) (nomark _)) (pss_cons (ps_expr (pe_bm PySem.F.plainAttrs_list PySem.F.slot_list_append PySem.F.type_list_append mt_append (pv 1) (pa_cons (pe_f F_l_shown (hr.mono (by omega)) (by rfl) T.g_l_shown (pa_cons (pv 2) (pa_cons (pv 3) pa_nil))) pa_nil)))
      pss_nil) (pss_cons (ps_expr (pe_bm PySem.F.plainAttrs_list PySem.F.slot_list_append PySem.F.type_list_append mt_append (pv 1) (pa_cons (pe_op op_addS (pe_op op_addS (pe_f F_l_shown (hr.mono (by omega)) (by rfl) T.g_l_shown (pa_cons (pv 2) (pa_cons (pv 3) pa_nil))) pe_str) (pe_f F_l_shown (hr.mono (by omega)) (by rfl) T.g_l_shown (pa_cons (pv 2) (pa_cons (pv 4) pa_nil)))) pa_nil)))
      pss_nil))
      pss_nil)) pss_nil)
      pss_nil)))
      (pss_cons (ps_ret (pe_joinR pe_str (pv 1)))
      pss_nil)))), ?_⟩
  try dsimp only [cxOf, Cx.nox, Cx.wish]
  repeat walk_at "w"
  refine w_ixT hds hd0 ?_
  repeat walk_at "w"
  walk_at "newO"
  intro p H1 np s1 o1
  repeat walk_at "w"
  refine w_ixT (hds.up s1.ext) hd0 ?_
  repeat walk_at "w"
  generalize eN : tSeq (tFor _ _ _) _ _ = NX
  have key : ∀ H2, Same H H2 → Ow K H2 p ((headW r).map D.str) → NX [some x, some (.ref p), none, none, none] H2 := by
    intro H2 s2 o2
    rw [← eN]
    repeat walk_at "w"
    refine i_rng (K := K) 6 rfl (by decide) fun J it => ?_
    have hml : ∀ i, i ≤ 6 → (narWords ((List.range i).filterMap (narAt shL r.box))).length ≤ 12 := fun i hi => by
      rw [narWords_len]
      have := List.length_filterMap_le (narAt shL r.box) (List.range i)
      rw [List.length_range] at this
      omega
    refine f_for it (fun i σ H' => ∃ e2 e3 e4, σ = [some x, some (.ref p), e2, e3, e4] ∧ Same H H' ∧ Ow K H' p ((headW r ++ narWords ((List.range i).filterMap (narAt shL r.box))).map D.str)) ⟨_, _, _, rfl, s2, by simpa [narWords] using o2⟩ (fun _ _ _ _ => trivial) ?_ ?_
    · rintro i d u σ H' H4 e1 ⟨_, _, _, rfl, s4, o4⟩ s5 hu
      obtain ⟨hi, rfl⟩ := numD_get e1
      cases hu
      obtain ⟨g0, g1, g2, g3⟩ := box_get hb hi
      have hml2 := hml i (by omega)
      have htp := topN_le hi
      have hst : (List.range (i + 1)).filterMap (narAt shL r.box) = (List.range i).filterMap (narAt shL r.box) ++ (if r.box.getD i (0, topN i) = (0, topN i) then [] else [⟨i, shL i (r.box.getD i (0, topN i)), r.box.getD i (0, topN i)⟩]) := by
        rw [narTo_succ]
        unfold narAt
        split <;> rfl
      rw [hst, narWords_app]
      generalize narWords ((List.range i).filterMap (narAt shL r.box)) = acc at *
      have hget : (r.box.map eSt)[i]? = some (eSt (r.box.getD i (0, topN i))) := by rw [List.getElem?_map, g0]; rfl
      generalize r.box.getD i (0, topN i) = st at *
      have hds4 := hds.up (H' := H4) (by walk_at "ext")
      have o5 := o4.up s5
      repeat walk_at "w"
      refine w_ixT hds4 hd1 ?_
      refine At.of fun ub hub => ?_
      repeat walk_at "w"
      walk_at "newT"
      intro u6 H5 s6 hu6
      repeat walk_at "w"
      refine Sp1.mk ⟨i, hi, rfl, fun H6 s7 => ?_⟩
      repeat walk_at "w"
      walk_at "newT"
      intro u7 H7 s8 hu7
      repeat walk_at "w"
      refine w_neG (α := Int × Int) (a := (st.1, st.2)) (b := (0, topN i)) (hu6.up (by walk_at "ext")) hu7 (by decide) ?_
      by_cases hw : st = (0, topN i)
      · rw [if_pos hw, decide_eq_true (show (st.1, st.2) = (0, topN i) from hw)]
        repeat walk_at "w"
        exact ⟨_, _, _, rfl, (by walk_at "same"), by simpa [narWords] using o5.up ((by walk_at "same") : Same H4 H7)⟩
      · rw [if_neg hw, decide_eq_false (show ¬ (st.1, st.2) = (0, topN i) from hw)]
        repeat walk_at "w"
        refine w_tyO (o5.up ((by walk_at "same") : Same H4 H7)) ?_
        repeat walk_at "w"
        walk_at "newF"
        intro u8 H8 s9 hu8
        repeat walk_at "w"
        refine w_ixL (ds := pairN.map D.str) hu8 (atI_nat (a := .str (nameN i)) (by rw [List.getElem?_map, pairN_get hi]; rfl)) ?_
        repeat walk_at "w"
        refine w_appS (d := .str (nameN i)) (o5.up ((by walk_at "same") : Same H4 H8)) (.str _) (by rw [List.length_map, List.length_append]; omega) (Hb := H) (by walk_at "same") np fun H9 b9 x9 s10 o10 => ?_
        repeat walk_at "w"
        have hfin : ∀ (z : Str) H7, z = shL i st → Ow K H7 p (((headW r ++ acc).map D.str ++ [D.str (nameN i)]) ++ [.str z]) → Ow K H7 p ((headW r ++ (acc ++ narWords [⟨i, shL i st, st⟩])).map D.str) := fun z H7 e o => by
          subst e
          simpa [narWords] using o
        have hsl := shown_len hi g1 (by omega)
        have hsl2 := shown_len hi (n := st.2) (by omega) g3
        have hle := shL_eq i st
        by_cases he : st.1 = st.2
        · rw [if_pos he] at hle
          rw [decide_eq_true he]
          repeat walk_at "w"
          refine w_tyO o10 ?_
          repeat walk_at "w"
          refine Sp2.mk ⟨i, st.1, hi, g1, by omega, rfl, rfl, fun H10 s11 => ?_⟩
          repeat walk_at "w"
          refine w_appS (d := .str (shownS i st.1)) (o10.up s11) (.str _) (by rw [List.length_append, List.length_map, List.length_append, List.length_singleton]; omega) (Hb := H) (by walk_at "same") np fun H11 b11 x11 s12 o12 => ?_
          repeat walk_at "w"
          exact ⟨_, _, _, rfl, s12, hfin _ _ hle.symm o12⟩
        · rw [if_neg he] at hle
          rw [decide_eq_false he]
          repeat walk_at "w"
          refine w_tyO o10 ?_
          repeat walk_at "w"
          refine Sp2.mk ⟨i, st.1, hi, g1, by omega, rfl, rfl, fun H10 s11 => ?_⟩
          repeat walk_at "w"
          refine w_addS (by rw [show ("-" : Str).length = 1 from rfl]; omega) ?_
          repeat walk_at "w"
          refine Sp2.mk ⟨i, st.2, hi, by omega, g3, rfl, rfl, fun H11 s12 => ?_⟩
          refine w_addS (by rw [len_app, show ("-" : Str).length = 1 from rfl]; omega) ?_
          repeat walk_at "w"
          refine w_appS (d := .str (shownS i st.1 ++ "-" ++ shownS i st.2)) (o10.up (by walk_at "same")) (.str _) (by rw [List.length_append, List.length_map, List.length_append, List.length_singleton]; omega) (Hb := H) (by walk_at "same") np fun H12 b12 x12 s13 o13 => ?_
          repeat walk_at "w"
          exact ⟨_, _, _, rfl, s13, hfin _ _ hle.symm o13⟩
    · rintro σ H' ⟨_, _, _, rfl, s4, o4⟩
      rw [numD_len] at o4
      repeat walk_at "w"
      refine s_join o4.ls (sum_bound (k := 100) (n := 14) (fun s hs => ?_) ?_ _ rfl (by decide)) (k H' s4)
      · rcases List.mem_append.mp hs with hs | hs
        · have := hws s hs
          omega
        · obtain ⟨q, h1, h2⟩ := narW_mem hs
          obtain ⟨h3, h4, _⟩ := narTo_mem h1
          rcases h2 with rfl | rfl
          · have := nameN_len h3
            omega
          · rw [h4]
            exact shL_len hb h3
      · have := hml 6 (by omega)
        rw [List.length_append]
        omega
  rcases hcase with ⟨hz, hhw⟩ | ⟨n, rfl, hhw, hd2⟩
  · rw [decide_eq_false hz]
    repeat walk_at "w"
    exact key H1 s1 (by rw [hhw]; exact o1)
  · rw [show decide (("call" : Str) = "call") = true by decide]
    repeat walk_at "w"
    refine w_tyO o1 ?_
    repeat walk_at "w"
    refine w_ixT (hds.up s1.ext) hd2 ?_
    repeat walk_at "w"
    refine w_appS (d := .str n) o1 (.str _) (by simp) (Hb := H) s1 np fun H2 b2 x2 s2 o2 => ?_
    repeat walk_at "w"
    exact key H2 s2 (by rw [hhw]; exact o2)
end
end
section
open PySem PySem.Spec PyProof.Rows L2 TL
section
variable {P : Program} {w : World} {K : PySem.W.Frag} {mg : Str → Option Value} {base : Heap}
/-- a book of the law: default and chains -/
structure LTx (d : Str) (chs : Chs) : Prop where
  box : ∀ p ∈ chs, ∀ r ∈ p.2, BoxIn r.box every
  head : ∀ p ∈ chs, ∀ r ∈ p.2, HeadOk r
  name : ∀ p ∈ chs, p.1.length ≤ 12
  dl : d.length ≤ 4
  rows : (bookRows shL d chs).length ≤ 1000
theorem rowL_len {r : Rule} (hb : BoxIn r.box every) (hh : HeadOk r) : (rowS shL r).length ≤ 1414 := by
  have h1 := len_join (k := 100) " " (headW r ++ narWords (narOf shL r.box)) fun s hs => by
    rcases List.mem_append.mp hs with hs | hs
    · have := (headW_len hh).2 s hs
      omega
    · obtain ⟨q, h1, h2⟩ := narW_mem hs
      obtain ⟨h3, h4, _⟩ := narTo_mem h1
      rcases h2 with rfl | rfl
      · have := nameN_len h3
        omega
      · rw [h4]
        exact shL_len hb h3
  have h2 : (headW r ++ narWords (narOf shL r.box)).length ≤ 14 := by
    rw [List.length_append, narWords_len]
    have := List.length_filterMap_le (narAt shL r.box) (List.range 6)
    rw [List.length_range] at this
    have := (headW_len hh).1
    unfold narOf
    omega
  rw [show (" " : Str).length = 1 from rfl] at h1
  have h3 := Nat.mul_le_mul_right 100 h2
  unfold rowS
  omega
def sp_l_text (K : PySem.W.Frag) : Sp := Sp1 fun x H Q => ∃ (d : Str) (chs : Chs), LTx d chs ∧ Dt K H x (.tup [.str d, .lst (chs.map eChT)]) ∧ ∀ H', Same H H' → Q (.str (bookS shL d chs)) H'
def sN_l_text : List Str := ["_law_book", "_law_rows", "_law_name_here", "_law_rules", "_law_rule_here"]
theorem sc_l_text : FnScope sN_l_text ["_law_book"] (defScope s_l_text) := ⟨rfl, rfl, rfl, by decide +kernel, rfl, by decide +kernel, by decide +kernel⟩

theorem ok_l_text (T : Tx K mg) : Fd P w K mg base 4 (He.ga K "_law_text") ["_law_book"] (sp_l_text K) := by
  have F_l_row := ok_l_row (P := P) (w := w) (base := base) T
  refine mkFd T.d_l_text sc_l_text (fun _ _ _ _ _ _ us hl => match us, hl with | [_], _ => rfl) (fun vs H Q E h => Sp1.len h) (fun cdv A outer s H vs Q E hr h => ?_)
  obtain ⟨x, rfl, d, chs, hB, hx, k⟩ := h
  have hd := hB.dl
  have hrw := hB.rows
  refine ⟨_, (pss_cons (ps_set (i := 1) sc_l_text.nd rfl (.inl rfl) (pe_lst (pa_cons (pe_op op_addS pe_str (pe_ix ix_tup (pv 0) pe_int (fun _ _ => rfl))) pa_nil)))
      (pss_cons (ps_for PassesOwn.never rfl (pi_list (pe_ix ix_tup (pv 0) pe_int (fun _ _ => rfl))) (pg_tup rfl (pgs_cons (pg_name (i := 2) sc_l_text.nd rfl (.inl rfl)) (pgs_cons (pg_name (i := 3) sc_l_text.nd rfl (.inl rfl)) pgs_nil))) (pss_cons (ps_if (pt_cmpR op_ne (pv 2) pe_str (nomark _)) (pss_cons (ps_expr (pe_bm PySem.F.plainAttrs_list PySem.F.slot_list_append PySem.F.type_list_append mt_append (pv 1) (pa_cons (pe_op op_addS pe_str (pv 2)) pa_nil)))
      pss_nil) pss_nil)
      (pss_cons (ps_set (i := 1) sc_l_text.nd rfl (.inl rfl) (pe_op op_catF (pv 1) (pe_fz (pe_lc (own := [("_law_rule_here", 4)]) rfl sc_l_text.nd (pi_list (pv 3)) (blkOk_by (own := [("_law_rule_here", 4)]) (N := sN_l_text) (sc := defScope s_l_text) (by decide +kernel)) (fun _ _ _ _ _ => (pg_name (i := 4) sc_l_text.nd rfl (.inl rfl))) (fun _ _ _ _ _ => pts_nil) (fun _ _ _ _ _ => (pe_f F_l_row (hr.mono (by omega)) (by rfl) T.g_l_row (pa_cons (pv 4) pa_nil)))))))
      pss_nil)))
      (pss_cons (ps_ret (pe_joinR pe_str (pv 1)))
      pss_nil))), ?_⟩
  try dsimp only [cxOf, Cx.nox, Cx.wish]
  repeat walk_at "w"
  refine w_addS (by rw [show ("default " : Str).length = 8 from rfl]; omega) ?_
  repeat walk_at "w"
  walk_at "newO"
  intro p H1 np s1 o1
  repeat walk_at "w"
  refine i_list hu_ (Ext.refl _) fun J it => ?_
  refine f_for it (fun i σ H' => ∃ q e2 e3, σ = [some x, some (.ref q), e2, e3, none] ∧ Same H H' ∧ Ext H1 H' ∧ H q = none ∧ Ow K H' q ((("default " ++ d) :: (chs.take i).flatMap (chRows shL)).map D.str)) ⟨p, _, _, rfl, s1, Ext.refl _, np, o1⟩ (fun i σ H' ⟨_, _, _, _, _, x, _⟩ => x) ?_ ?_
  · rintro i dd u σ H' H3 e1 ⟨q, _, _, rfl, s3, x3, nq, o3⟩ s4 hu
    rw [List.getElem?_map, Option.map_eq_some_iff] at e1
    obtain ⟨⟨n, rs⟩, e1, rfl⟩ := e1
    have hmem := List.mem_of_getElem? e1
    have hnl : n.length ≤ 12 := hB.name _ hmem
    have htk : (chs.take (i + 1)).flatMap (chRows shL) = (chs.take i).flatMap (chRows shL) ++ chRows shL (n, rs) := by
      rw [List.take_succ, e1, List.flatMap_append]
      simp
    have hbd : ((chs.take i).flatMap (chRows shL)).length + (chRows shL (n, rs)).length ≤ 1000 := by
      have e2 : chs.flatMap (chRows shL) = (chs.take (i + 1) ++ chs.drop (i + 1)).flatMap (chRows shL) := by rw [List.take_append_drop]
      unfold bookRows at hrw
      rw [List.length_cons, e2, List.flatMap_append, htk, List.length_append, List.length_append] at hrw
      omega
    rw [htk]
    generalize (chs.take i).flatMap (chRows shL) = acc at *
    have o4 := o3.up s4
    have hcr : (chRows shL (n, rs)).length = (if n = "main" then 0 else 1) + rs.length := by
      unfold chRows
      rw [List.length_append, List.length_map]
      split <;> rfl
    have hrsl : rs.length ≤ 1000 := by omega
    have hu : Dt K H3 u (.tup [.str n, .lst (rs.map eRule)]) := hu
    repeat walk_at "w"
    have hrl := hu_
    generalize u_ = ur at *
    clear hu_
    generalize eN : tSeq (tAsg _ _) _ _ = NX
    have key : ∀ H4, Same H H4 → Ext H3 H4 → Ow K H4 q (((("default " ++ d) :: acc) ++ (if n = "main" then [] else ["chain " ++ n])).map D.str) → NX [some x, some (.ref q), some (.str n), some ur, none] H4 := by
      intro H4 s5 x5 o5
      rw [← eN]
      repeat walk_at "w"
      refine i_list (hrl.up x5) (Ext.refl _) fun J2 it2 => ?_
      refine f_lc (l := rs) (emb := eRule) it2 (fun r => some (.str (rowS shL r))) (by omega) (fun H' s => s.ext) (fun i r u H' Y N e s1 hu hY hN => ?_) fun p2 H6 xs np2 s6 hp6 r6 => ?_
      · have hrm := List.mem_of_getElem? e
        repeat walk_at "w"
        refine ⟨rfl, ?_⟩
        repeat walk_at "w"
        exact Sp1.mk ⟨r, hB.box _ hmem r hrm, hB.head _ hmem r hrm, hu, fun H6 s8 => hY _ _ _ rfl s8 (.str _)⟩
      · refine lcF np2 s6 hp6 r6 fun u7 H7 s7 hu7 => ?_
        rw [show rs.filterMap (fun r => some (D.str (rowS shL r))) = (rs.map (rowS shL)).map D.str by rw [List.map_map]; simp [Function.comp_def]] at hu7
        have o7 := o5.up s7
        refine catO (K := K) o7.ls (Dt.ls hu7) ?_ fun q2 H8 nq2 s8 o8 => ?_
        · rw [List.length_map, List.length_map, List.length_map, List.length_append, List.length_cons]
          have : (if n = "main" then ([] : List Str) else ["chain " ++ n]).length ≤ 1 := by split <;> simp
          omega
        repeat walk_at "w"
        refine ⟨q2, _, _, rfl, (by walk_at "same"), (by walk_at "ext"), Same.free (by walk_at "same") nq2, ?_⟩
        simpa [chRows] using o8
    by_cases hn : n = "main"
    · rw [decide_eq_true hn]
      rw [if_pos hn] at key
      repeat walk_at "w"
      exact key H3 (by walk_at "same") (Ext.refl _) (by simpa using o4)
    · rw [decide_eq_false hn]
      rw [if_neg hn] at key
      repeat walk_at "w"
      refine w_tyO o4 ?_
      repeat walk_at "w"
      refine w_addS (by rw [show ("chain " : Str).length = 6 from rfl]; omega) ?_
      repeat walk_at "w"
      refine w_appS (d := .str ("chain " ++ n)) o4 (.str _) (by rw [List.length_map, List.length_cons]; omega) (Hb := H) (by walk_at "same") nq fun H7 b7 x7 s9 o7 => ?_
      repeat walk_at "w"
      exact key H7 s9 (by walk_at "ext") (by simpa using o7)
  · rintro σ H' ⟨q, _, _, rfl, s3, x3, nq, o3⟩
    rw [List.length_map, List.take_length] at o3
    repeat walk_at "w"
    refine s_join (ss := bookRows shL d chs) o3.ls (sum_bound (k := 1500) (n := 1000) (fun s hs => ?_) hrw _ rfl (by decide)) (k H' s3)
    unfold bookRows at hs
    rcases List.mem_cons.mp hs with rfl | hs
    · rw [len_app, show ("default " : Str).length = 8 from rfl]
      omega
    · obtain ⟨p2, h1, h2⟩ := List.mem_flatMap.mp hs
      unfold chRows at h2
      rcases List.mem_append.mp h2 with h2 | h2
      · split at h2
        · cases h2
        · rw [List.mem_singleton.mp h2, len_app, show ("chain " : Str).length = 6 from rfl]
          have := hB.name _ h1
          omega
      · obtain ⟨r, h3, rfl⟩ := List.mem_map.mp h2
        have := rowL_len (hB.box _ h1 r h3) (hB.head _ h1 r h3)
        omega
end
end
section
open PySem PySem.Spec PyProof.Rows L2 TL
section
variable {P : Program} {w : World} {K : PySem.W.Frag} {mg : Str → Option Value} {base : Heap}
structure RdOk (chs : Chs) : Prop where
  nodup : (chs.map (·.1)).Nodup
  box : ∀ p ∈ chs, ∀ r ∈ p.2, r.box.length = 6
  head : ∀ p ∈ chs, ∀ r ∈ p.2, HeadOk r
theorem readGo_ne {read : Str → Steps × Option Str} {n : Str} {p : List Int} : ∀ (rs : List Rule) (i : Nat), (∀ r ∈ rs, HeadOk r) → (∀ b m, Rule.call b m ∈ rs → (read m).2 ≠ some ("" : Str)) → (readGo read n p rs i).2 ≠ some ("" : Str)
  | [], _, _, _ => by simp [readGo]
  | r :: rs, i, h, hc => by
    have ih := readGo_ne (read := read) (n := n) (p := p) rs (i + 1) (fun r q => h r (List.mem_cons_of_mem _ q)) fun b m q => hc b m (List.mem_cons_of_mem _ q)
    cases hf : hasB r.box p with
    | false => rw [readGo_no hf]; exact ih
    | true =>
      cases r with
      | word b w =>
        have hf : hasB b p = true := hf
        rw [readGo_word hf]
        have := h _ (List.mem_cons_self ..)
        rcases this with rfl | rfl <;> exact fun z => absurd (Option.some.inj z) (by decide)
      | back b =>
        have hf : hasB b p = true := hf
        rw [readGo_back hf]
        intro z
        cases z
      | call b m =>
        have hf : hasB b p = true := hf
        rcases hh : read m with ⟨s, _ | w⟩
        · rw [readGo_callN hf hh]; exact ih
        · rw [readGo_callS hf hh]
          have := hc b m (List.mem_cons_self ..)
          rw [hh] at this
          exact this
theorem readC_ne2 {chs : Chs} (hh : ∀ p ∈ chs, ∀ r ∈ p.2, HeadOk r) : ∀ (f : Nat) (pt : List Int) (n : Str), (readC f chs pt n).2 ≠ some ("" : Str)
  | 0, _, _ => by simp [readC]
  | f + 1, pt, n => by
    unfold readC
    cases hl : lookD chs n with
    | none => simp [readGo]
    | some rs => exact readGo_ne rs 0 (hh _ (lookD_mem hl)) fun b m _ => readC_ne2 hh f pt m
theorem readC_ne {chs : Chs} {f : Nat} {pt : List Int} {n wd : Str} {ss : Steps} (hok : RdOk chs) (hd : Deep f chs n) (h : readC f chs pt n = (ss, some wd)) : wd ≠ "" := by
  have := readC_ne2 hok.head f pt n
  rw [h] at this
  exact fun e => this (by rw [e])
def wordE (o : Option Str) : Str := o.getD ""
def sp_l_read (f : Nat) (K : PySem.W.Frag) : Sp := Sp4 fun x y z u H Q => ∃ (chs : Chs) (n : Str) (pt : List Int) (p : Addr) (acc : Steps), Deep f chs n ∧ RdOk chs ∧ pt.length = 6 ∧ Dt K H x (.lst (chs.map eChT)) ∧ y = .str n ∧ Dt K H z (eInts pt) ∧ u = .ref p ∧ Ow K H p (acc.map eStp) ∧ acc.length + lenC f chs n ≤ 1000 ∧
  ∀ H', But p H H' → Ext H H' → Ow K H' p ((acc ++ (readC f chs pt n).1).map eStp) → Q (.str (wordE (readC f chs pt n).2)) H'
def sN_l_read : List Str := ["_law_chains_here", "_law_name_here", "_law_parcel_here", "_law_seen", "_law_its_name", "_law_rules", "_law_index", "_law_rule_here", "_law_fits", "_law_word_here"]
theorem sc_l_read : FnScope sN_l_read ["_law_chains_here", "_law_name_here", "_law_parcel_here", "_law_seen"] (defScope s_l_read) := ⟨rfl, rfl, rfl, by decide +kernel, rfl, by decide +kernel, by decide +kernel⟩

theorem lread_step (T : Tx K mg) {k f : Nat} (hk : 1 ≤ k) (F_l_read : Fd P w K mg base k (He.ga K "_law_read") ["_law_chains_here", "_law_name_here", "_law_parcel_here", "_law_seen"] (sp_l_read f K)) :
    Fd P w K mg base (k + 1) (He.ga K "_law_read") ["_law_chains_here", "_law_name_here", "_law_parcel_here", "_law_seen"] (sp_l_read (f + 1) K) := by
  have F_l_has := ok_l_has (P := P) (w := w) (base := base) T
  refine mkFd T.d_l_read sc_l_read (fun _ _ _ _ _ _ us hl => match us, hl with | [_, _, _, _], _ => rfl) (fun vs H Q E h => Sp4.len h) (fun cdv A outer s H vs Q E hr h => ?_)
  obtain ⟨x, y, z, u, rfl, chs, n, pt, p, acc, ⟨rs, hl, hd⟩, hok, h6, hx, rfl, hz, rfl, op, hN, q⟩ := h
  refine ⟨_, (pss_cons (ps_for PassesOwn.never rfl (pi_list (pv 0)) (pg_tup rfl (pgs_cons (pg_name (i := 4) sc_l_read.nd rfl (.inl rfl)) (pgs_cons (pg_name (i := 5) sc_l_read.nd rfl (.inl rfl)) pgs_nil))) (pss_cons (ps_if (pt_cmpR op_ne (pv 4) (pv 1) (nomark _)) (pss_cons ps_continue
      pss_nil) pss_nil)
      (pss_cons (ps_for PassesOwn.never rfl (pi_enum (by rfl) T.b_enumerate (pa_cons (pv 5) pa_nil)) (pg_tup rfl (pgs_cons (pg_name (i := 6) sc_l_read.nd rfl (.inl rfl)) (pgs_cons (pg_name (i := 7) sc_l_read.nd rfl (.inl rfl)) pgs_nil))) (pss_cons (ps_set (i := 8) sc_l_read.nd rfl (.inl rfl) (pe_f F_l_has (hr.mono (by omega)) (by rfl) T.g_l_has (pa_cons (pe_ix ix_tup (pv 7) pe_int (fun _ _ => rfl)) (pa_cons (pv 2) pa_nil))))
      (pss_cons (ps_expr (pe_bm PySem.F.plainAttrs_list PySem.F.slot_list_append PySem.F.type_list_append mt_append (pv 3) (pa_cons (pe_tup (pa_cons (pv 1) (pa_cons (pv 6) (pa_cons (pv 8) pa_nil)))) pa_nil)))
      (pss_cons (ps_set (i := 9) sc_l_read.nd rfl (.inl rfl) pe_str)
      (pss_cons (ps_if (PW.pt (pw_and (pt_val (pv 8)) (pw_and1 (pt_cmpR op_eq (pe_ix ix_tup (pv 7) pe_int (fun _ _ => rfl)) pe_str (nomark _))))) (pss_cons (ps_ret pe_str)
      pss_nil) pss_nil)
      (pss_cons (ps_if (PW.pt (pw_and (pt_val (pv 8)) (pw_and1 (pt_cmpR op_eq (pe_ix ix_tup (pv 7) pe_int (fun _ _ => rfl)) pe_str (nomark _))))) (pss_cons (ps_set (i := 9) sc_l_read.nd rfl (.inl rfl) (pe_f F_l_read (hr.mono (by omega)) (by rfl) T.g_l_read (pa_cons (pv 0) (pa_cons (pe_ix ix_tup (pv 7) pe_int (fun _ _ => rfl)) (pa_cons (pv 2) (pa_cons (pv 3) pa_nil))))))
      pss_nil) (pss_cons (ps_if (pt_val (pv 8)) (pss_cons (ps_set (i := 9) sc_l_read.nd rfl (.inl rfl) (pe_ix ix_tup (pv 7) pe_int (fun _ _ => rfl)))
      pss_nil) pss_nil)
      pss_nil))
      (pss_cons (ps_if (pt_cmpR op_ne (pv 9) pe_str (nomark _)) (pss_cons (ps_ret (pv 9))
      pss_nil) pss_nil)
      pss_nil)))))))
      pss_nil)))
      (pss_cons (ps_ret pe_str)
      pss_nil)), ?_⟩
  try dsimp only [cxOf, Cx.nox, Cx.wish]
  repeat walk_at "w"
  refine i_list hx (Ext.refl _) fun J it => ?_
  have hmem := lookD_mem hl
  obtain ⟨ix, hix⟩ := List.getElem?_of_mem hmem
  have hfull : readC (f + 1) chs pt n = readGo (readC f chs pt) n pt rs 0 := by
    unfold readC
    rw [hl]
    rfl
  rw [hfull] at q
  have hlen : (readGo (readC f chs pt) n pt rs 0).1.length ≤ lenC (f + 1) chs n := by
    rw [← hfull]
    exact readC_len _ _ _ _ ⟨rs, hl, hd⟩
  refine f_for it (fun i σ H' => ∃ (e4 e5 e6 e7 e8 e9 : Option V), σ = [some x, some (.str n), some z, some (.ref p), e4, e5, e6, e7, e8, e9] ∧ But p H H' ∧ Ext H H' ∧ (i ≤ ix → Ow K H' p (acc.map eStp)) ∧ (ix < i → (readGo (readC f chs pt) n pt rs 0).2 = none ∧ Ow K H' p ((acc ++ (readGo (readC f chs pt) n pt rs 0).1).map eStp))) ⟨none, none, none, none, none, none, rfl, fun _ _ _ h => h, Ext.refl _, fun _ => op, fun h => by omega⟩ (fun i σ H' ⟨_, _, _, _, _, _, _, _, x1, _⟩ => x1) ?_ ?_
  · rintro i d u σ H' H3 e1 ⟨_, _, _, _, _, _, rfl, b3, x3, ho1, ho2⟩ s3 hu
    rw [List.getElem?_map, Option.map_eq_some_iff] at e1
    obtain ⟨⟨m, rs2⟩, e1, rfl⟩ := e1
    have hu : Dt K H3 u (.tup [.str m, .lst (rs2.map eRule)]) := hu
    repeat walk_at "w"
    by_cases hm : m = n
    · subst hm
      have hii : i = ix := by
        have r1 : (chs.map (·.1))[i]? = some m := by rw [List.getElem?_map, e1]; rfl
        have r2 : (chs.map (·.1))[ix]? = some m := by rw [List.getElem?_map, hix]; rfl
        exact (List.getElem?_inj (List.getElem?_eq_some_iff.mp r1).1 hok.nodup).mp (r1.trans r2.symm)
      subst hii
      rw [hix] at e1
      cases e1
      have o3 := (ho1 (Nat.le_refl _)).up s3
      rw [decide_eq_true (rfl : m = m)]
      repeat walk_at "w"
      have hrl := hu_
      generalize u_ = ur at *
      clear hu_
      refine i_enum hrl (Ext.refl _) fun J2 it2 => ?_
      refine f_for it2 (fun j σ H' => ∃ (done : Steps) (e6 e7 e8 e9 : Option V), σ = [some x, some (.str m), some z, some (.ref p), some (.str m), some ur, e6, e7, e8, e9] ∧ But p H H' ∧ Ext H3 H' ∧ Ow K H' p ((acc ++ done).map eStp) ∧
        readGo (readC f chs pt) m pt rs 0 = (done ++ (readGo (readC f chs pt) m pt (rs.drop j) j).1, (readGo (readC f chs pt) m pt (rs.drop j) j).2) ∧ done.length + ((rs.drop j).map (lenR f chs)).sum ≤ lenC (f + 1) chs m) ⟨[], _, _, _, _, rfl, but_same s3 b3, Ext.refl _, by simpa using o3, by simp, by rw [lenC_eq hl]; simp⟩ (fun i σ H' ⟨_, _, _, _, _, _, _, x1, _⟩ => x1) ?_ ?_
      · rintro j d u σ' H'' H4 e1 ⟨done, _, _, _, _, rfl, b4, x4, o4, e3, hsm⟩ s4 hu
        obtain ⟨d, e0, rfl⟩ := enumD_get e1
        rw [List.getElem?_map, Option.map_eq_some_iff] at e0
        obtain ⟨r, e0, rfl⟩ := e0
        have hrm := List.mem_of_getElem? e0
        have hrb := hok.box _ hmem r hrm
        have hrh := hok.head _ hmem r hrm
        rw [drop_cons e0] at e3 hsm
        rw [List.map_cons, List.sum_cons] at hsm
        have hp1 := lenR_pos (f := f) (ch := chs) r
        have hdl : acc.length + (done.length + (readGo (readC f chs pt) m pt (r :: rs.drop (j + 1)) j).1.length) ≤ 1000 := by
          rw [e3, List.length_append] at hlen
          omega
        have o5 := o4.up s4
        have x5 : Ext H3 H4 := (by walk_at "ext")
        have x6 : Ext H H4 := Ext.tr x5 (Ext.tr s3.ext x3)
        have hxx := hx.up x6
        have hzz := hz.up x6
        repeat walk_at "w"
        have hrr := hu_
        generalize u_ = u1 at *
        clear hu_
        obtain ⟨ds, hw, hds, hd0, hd1, _⟩ := eRule_head hrh hrr
        refine w_ixT hds hd1 ?_
        refine At.of fun ub hub => ?_
        repeat walk_at "w"
        refine Sp2.mk ⟨r.box, pt, hrb, h6, hub, hzz, fun H5 s5 => ?_⟩
        repeat walk_at "w"
        refine w_tyO (o5.up s5) ?_
        repeat walk_at "w"
        walk_at "newT"
        intro u2 H6 s6 hu2
        repeat walk_at "w"
        refine w_appO ((o5.up s5).up s6) (d := eStp (m, j, hasB r.box pt)) hu2 (by simp; omega) fun H7 b7 x7 o7 => ?_
        have x8 : Ext H4 H7 := Ext.tr x7 (Same.ext (s6.tr s5))
        have x9 : Ext H3 H7 := Ext.tr x8 x5
        have b9 : But p H H7 := b7.tr (but_same (s6.tr (s5.tr s4)) b4)
        have hrr7 := hrr.up x8
        repeat walk_at "w"
        cases hf : hasB r.box pt with
        | false =>
          have eG : readGo (readC f chs pt) m pt (r :: rs.drop (j + 1)) j = ((m, j, false) :: (readGo (readC f chs pt) m pt (rs.drop (j + 1)) (j + 1)).1, (readGo (readC f chs pt) m pt (rs.drop (j + 1)) (j + 1)).2) := readGo_no hf
          rw [eG] at e3
          rw [hf] at o7
          repeat walk_at "w"
          rw [show decide (("" : Str) = "") = true by decide]
          repeat walk_at "w"
          exact ⟨done ++ [(m, j, false)], _, _, _, _, rfl, b9, x9, by simpa using o7, by rw [e3]; simp, by rw [List.length_append, List.length_singleton]; omega⟩
        | true =>
          rw [hf] at o7
          cases r with
          | word b wd =>
            have hrr7 : Dt K H7 u1 (.tup [.str wd, eBox b]) := hrr7
            have eG : readGo (readC f chs pt) m pt (.word b wd :: rs.drop (j + 1)) j = ([(m, j, true)], some wd) := by
              first | exact readGo_word hf | exact readGo_back hf
            rw [eG] at e3
            have n1 : wd ≠ "back" := by rcases hrh with rfl | rfl <;> decide
            have n2 : wd ≠ "call" := by rcases hrh with rfl | rfl <;> decide
            have n3 : wd ≠ "" := by rcases hrh with rfl | rfl <;> decide
            repeat walk_at "w"
            rw [decide_eq_false n1]
            repeat walk_at "w"
            rw [decide_eq_false n2]
            repeat walk_at "w"
            rw [decide_eq_false n3]
            repeat walk_at "w"
            rw [e3] at q
            exact q H7 b9 ((by walk_at "ext")) (by simpa using o7)
          | back b =>
            have hrr7 : Dt K H7 u1 (.tup [.str "back", eBox b]) := hrr7
            have eG : readGo (readC f chs pt) m pt (.back b :: rs.drop (j + 1)) j = ([(m, j, true)], none) := by
              first | exact readGo_word hf | exact readGo_back hf
            rw [eG] at e3
            repeat walk_at "w"
            rw [show decide (("back" : Str) = "back") = true by decide]
            repeat walk_at "w"
            rw [e3] at q
            exact q H7 b9 ((by walk_at "ext")) (by simpa using o7)
          | call b m2 =>
            have hrr7 : Dt K H7 u1 (.tup [.str "call", eBox b, .str m2]) := hrr7
            repeat walk_at "w"
            rw [show decide (("call" : Str) = "back") = false by decide]
            repeat walk_at "w"
            rw [show decide (("call" : Str) = "call") = true by decide]
            repeat walk_at "w"
            have hdm := hd b m2 hrm
            have hsl := readC_len f chs pt m2 hdm
            have hle : lenR f chs (.call b m2) = 1 + lenC f chs m2 := rfl
            refine Sp4.mk ⟨chs, m2, pt, p, acc ++ done ++ [(m, j, true)], hdm, hok, h6, hxx.up x8, rfl, hzz.up x8, rfl, by simpa using o7, by simp; omega, fun H8 b10 x10 o10 => ?_⟩
            repeat walk_at "w"
            rcases hh : readC f chs pt m2 with ⟨ss, _ | wd⟩
            · rw [hh] at o10 hsl
              have eG : readGo (readC f chs pt) m pt (.call b m2 :: rs.drop (j + 1)) j = ((m, j, true) :: (ss ++ (readGo (readC f chs pt) m pt (rs.drop (j + 1)) (j + 1)).1), (readGo (readC f chs pt) m pt (rs.drop (j + 1)) (j + 1)).2) := by
                first | exact readGo_callN hf hh | exact readGo_callS hf hh
              rw [eG] at e3
              rw [decide_eq_true (show wordE (ss, (none : Option Str)).2 = "" from rfl)]
              repeat walk_at "w"
              exact ⟨done ++ ((m, j, true) :: ss), _, _, _, _, rfl, b10.tr b9, (by walk_at "ext"), by simpa using o10, by rw [e3]; simp, by rw [List.length_append, List.length_cons]; simp at hsl; omega⟩
            · rw [hh] at o10
              have eG : readGo (readC f chs pt) m pt (.call b m2 :: rs.drop (j + 1)) j = ((m, j, true) :: ss, some wd) := by
                first | exact readGo_callN hf hh | exact readGo_callS hf hh
              rw [eG] at e3
              have n3 : wd ≠ "" := readC_ne hok hdm hh
              rw [decide_eq_false (show ¬ wordE (ss, some wd).2 = "" from n3)]
              repeat walk_at "w"
              rw [e3] at q
              exact q H8 (b10.tr b9) ((by walk_at "ext")) (by simpa using o10)
      · rintro σ' H'' ⟨done, _, _, _, _, rfl, b4, x4, o4, e3, _⟩
        rw [enumD_len, List.length_map, List.drop_eq_nil_of_le (Nat.le_refl _)] at e3
        have e3 : readGo (readC f chs pt) m pt rs 0 = (done, none) := by rw [e3]; simp [readGo]
        refine ⟨_, _, _, _, _, _, rfl, b4, Ext.tr x4 (by walk_at "ext"), fun h => by omega, fun _ => ⟨by rw [e3], by rw [e3]; exact o4⟩⟩
    · rw [decide_eq_false hm]
      repeat walk_at "w"
      have hne : i ≠ ix := fun e => by
        rw [e, hix] at e1
        cases e1
        exact hm rfl
      refine ⟨_, _, _, _, _, _, rfl, but_same s3 b3, (by walk_at "ext"), fun h => (ho1 (by omega)).up s3, fun h => ?_⟩
      obtain ⟨h1, h2⟩ := ho2 (by omega)
      exact ⟨h1, h2.up s3⟩
  · rintro σ H' ⟨_, _, _, _, _, _, rfl, b3, x3, ho1, ho2⟩
    have hixl := (List.getElem?_eq_some_iff.mp hix).1
    rw [List.length_map] at ho2
    obtain ⟨h1, h2⟩ := ho2 hixl
    rw [h1] at q
    repeat walk_at "w"
    exact q H' b3 x3 h2
theorem ok_l_read (T : Tx K mg) : Fd P w K mg base 3 (He.ga K "_law_read") ["_law_chains_here", "_law_name_here", "_law_parcel_here", "_law_seen"] (sp_l_read 2 K) :=
  lread_step T (by omega) (lread_step T (by omega) ((noFd 1 T.d_l_read (fun _ _ _ _ _ _ us hl => match us, hl with | [_, _, _, _], _ => rfl)).imp fun vs H Q E h => by obtain ⟨_, _, _, _, _, _, _, _, _, _, d, _⟩ := h; exact d.elim))
end
end
section
open PySem PySem.Spec PyProof.Rows L2 TL
/-! ### how many pieces the rows of a book may cut -/
theorem meet_sub {s t : Int × Int} (h : StIn s t) : meet s t = some s := by
  obtain ⟨h1, h2, h3⟩ := h
  unfold meet
  rw [if_neg (by omega)]
  have e1 : max s.1 t.1 = s.1 := by omega
  have e2 : min s.2 t.2 = s.2 := by omega
  rw [e1, e2]
theorem common_none_nar : ∀ {b c e : Box}, BoxIn b e → BoxIn c e → common b c = none → 1 ≤ narG c e
  | [], [], [], _, _, h => by simp [common] at h
  | s :: b, t :: c, u :: e, hb, hc, h => by
    unfold common at h
    unfold narG
    cases hm : meet s t with
    | none =>
      have : t ≠ u := fun z => by
        subst z
        rw [meet_sub hb.1] at hm
        cases hm
      rw [if_neg this]
      omega
    | some x =>
      rw [hm] at h
      cases hk : common b c with
      | none =>
        have := common_none_nar hb.2 hc.2 hk
        omega
      | some y => simp [hk] at h
theorem restsGo_nar : ∀ {a b c m e : Box}, BoxIn b e → BoxIn c e → common b c = some m → (restsGo a b m).length ≤ 2 * narG c e
  | _, [], c, m, e, _, _, h => by
    simp [common] at h
    subst h
    simp [restsGo]
  | _, _ :: _, [], _, [], hb, _, _ => hb.elim
  | _, _ :: _, [], _, _ :: _, _, hc, _ => hc.elim
  | _, _ :: _, _ :: _, _, [], hb, _, _ => hb.elim
  | a, s :: b, t :: c, m, u :: e, hb, hc, h => by
    unfold common at h
    cases hm : meet s t with
    | none => rw [hm] at h; cases h
    | some x =>
      rw [hm] at h
      cases hk : common b c with
      | none => simp [hk] at h
      | some y =>
        simp [hk] at h
        subst h
        have ih := restsGo_nar (a := a ++ [x]) hb.2 hc.2 hk
        unfold restsGo narG
        by_cases ht : t = u
        · subst ht
          rw [meet_sub hb.1] at hm
          cases hm
          rw [if_neg (Int.lt_irrefl _), if_neg (Int.lt_irrefl _), if_pos rfl, List.nil_append, List.nil_append]
          omega
        · rw [if_neg ht, List.length_append, List.length_append]
          have h1 : (if s.1 < x.1 then [a ++ ([(s.1, x.1 - 1)] ++ b)] else []).length ≤ 1 := by split <;> simp
          have h2 : (if x.2 < s.2 then [a ++ ([(x.2 + 1, s.2)] ++ b)] else []).length ≤ 1 := by split <;> simp
          omega
def capR (rows : List Row) : Nat := (rows.map fun r => 1 + 2 * narC r.box).prod
theorem capR_cons (r : Row) (rows : List Row) : capR (r :: rows) = (1 + 2 * narC r.box) * capR rows := rfl
theorem capR_app (a b : List Row) : capR (a ++ b) = capR a * capR b := by
  unfold capR
  rw [List.map_append, List.prod_append]
theorem capR_pos : ∀ rows : List Row, 1 ≤ capR rows
  | [] => Nat.le_refl _
  | r :: rows => by
    have := capR_pos rows
    rw [capR_cons]
    exact Nat.mul_pos (by omega) this
theorem capR_drop (rows : List Row) {i j : Nat} (h : i ≤ j) : capR (rows.drop j) ≤ capR (rows.drop i) := by
  have e : rows.drop i = (rows.drop i).take (j - i) ++ rows.drop j := by
    have := List.take_append_drop (j - i) (rows.drop i)
    rw [List.drop_drop, show i + (j - i) = j by omega] at this
    exact this.symm
  rw [e, capR_app]
  exact Nat.le_mul_of_pos_left _ (capR_pos _)
def capG (rows : List Row) : Go → Nat
  | .row n => capR (rows.drop n)
  | .word _ => 1
theorem capG_ahead (rows : List Row) (n : Nat) (g : Go) : capG rows (g.ahead n) ≤ capR (rows.drop (n + 1)) := by
  cases g with
  | row m => exact capR_drop rows (Nat.le_max_right _ _)
  | word w => exact capR_pos _
theorem look_cap {rows : List Row} {dflt : Str} (hr : ∀ r ∈ rows, BoxIn r.box every) (here : Box) (g : Go) (way : Way) : BoxIn here every → (look rows dflt here g way).length ≤ capG rows g := by
  induction here, g, way using look.induct rows with
  | case1 here way w =>
    intro _
    unfold look
    exact Nat.le_refl _
  | case2 here way n h ih1 ih2 =>
    intro hb
    have hn := hr _ (List.getElem_mem h)
    have hl : here.length = rows[n].box.length := by rw [hb.len, hn.len]
    unfold look
    simp only [h, dite_true]
    have hP := capG_ahead rows n
    have e : rows.drop n = rows[n] :: rows.drop (n + 1) := List.drop_eq_getElem_cons h
    show _ ≤ capR (rows.drop n)
    rw [e, capR_cons, List.length_append]
    generalize capR (rows.drop (n + 1)) = P at *
    have h2 : ((rests here rows[n].box).flatMap fun one => look rows dflt one ((Go.row rows[n].no).ahead n) (way ++ [(n, false)])).length ≤ (rests here rows[n].box).length * P :=
      flat_len _ P _ fun one ho => Nat.le_trans (ih2 one ((rests_in hb hl ho).trans hb)) (hP _)
    have key : ∀ y r : Nat, y + r ≤ 1 + 2 * narC rows[n].box → y * P + r * P ≤ (1 + 2 * narC rows[n].box) * P := fun y r q => by
      rw [← Nat.add_mul]
      exact Nat.mul_le_mul_right _ q
    unfold rests at h2 ⊢
    cases hc : common here rows[n].box with
    | none =>
      have h3 := common_none_nar hb hn hc
      rw [hc] at h2
      simp only [List.length_nil] at h2 ⊢
      have := key 0 1 (by unfold narC; omega)
      simp only [List.length_singleton] at h2
      omega
    | some both =>
      rw [hc] at h2
      simp only at h2 ⊢
      have h3 := restsGo_nar (a := []) hb hn hc
      have h4 := Nat.le_trans (ih1 both ((common_in hb hc hl).trans hb)) (hP rows[n].yes)
      have := key 1 (restsGo [] here both).length (by unfold narC; omega)
      omega
  | case3 here way n h =>
    intro _
    unfold look
    simp only [h, dite_false]
    exact capR_pos _
/-! ### what the rows of a chain are -/
theorem unfGo_mem {unf : Str → Nat → List Row} {len : Str → Nat} {n : Str} {fin : Nat} {row : Row} : ∀ (rs : List Rule) (i here : Nat), row ∈ unfGo unf len n fin rs i here →
    (∃ j rule, rs[j]? = some rule ∧ row.name = n ∧ row.idx = i + j ∧ row.box = rule.box) ∨ ∃ b m st, Rule.call b m ∈ rs ∧ row ∈ unf m st
  | [], _, _, h => by simp [unfGo] at h
  | .word b w :: rs, i, here, h => by
    rcases List.mem_cons.mp h with rfl | h
    · exact .inl ⟨0, _, rfl, rfl, rfl, rfl⟩
    · rcases unfGo_mem rs (i + 1) (here + 1) h with ⟨j, r, h1, h2, h3, h4⟩ | ⟨b, m, st, h1, h2⟩
      · exact .inl ⟨j + 1, r, h1, h2, by omega, h4⟩
      · exact .inr ⟨b, m, st, List.mem_cons_of_mem _ h1, h2⟩
  | .back b :: rs, i, here, h => by
    rcases List.mem_cons.mp h with rfl | h
    · exact .inl ⟨0, _, rfl, rfl, rfl, rfl⟩
    · rcases unfGo_mem rs (i + 1) (here + 1) h with ⟨j, r, h1, h2, h3, h4⟩ | ⟨b, m, st, h1, h2⟩
      · exact .inl ⟨j + 1, r, h1, h2, by omega, h4⟩
      · exact .inr ⟨b, m, st, List.mem_cons_of_mem _ h1, h2⟩
  | .call b m :: rs, i, here, h => by
    rcases List.mem_cons.mp h with rfl | h
    · exact .inl ⟨0, _, rfl, rfl, rfl, rfl⟩
    · rcases List.mem_append.mp h with h | h
      · exact .inr ⟨b, m, _, List.mem_cons_self .., h⟩
      · rcases unfGo_mem rs (i + 1) _ h with ⟨j, r, h1, h2, h3, h4⟩ | ⟨b, m, st, h1, h2⟩
        · exact .inl ⟨j + 1, r, h1, h2, by omega, h4⟩
        · exact .inr ⟨b, m, st, List.mem_cons_of_mem _ h1, h2⟩
theorem unfC_mem {ch : Chs} {row : Row} : ∀ (f : Nat) (n : Str) (st : Nat), row ∈ unfC f ch n st → ∃ m rs rule, lookD ch m = some rs ∧ rs[row.idx]? = some rule ∧ row.name = m ∧ row.box = rule.box
  | 0, _, _, h => by simp [unfC] at h
  | f + 1, n, st, h => by
    unfold unfC at h
    cases hl : lookD ch n with
    | none =>
      rw [hl] at h
      simp [unfGo] at h
    | some rs =>
      rw [hl] at h
      rcases unfGo_mem _ _ _ h with ⟨j, r, h1, h2, h3, h4⟩ | ⟨b, m, st2, h1, h2⟩
      · rw [Nat.zero_add] at h3
        exact ⟨n, rs, r, hl, by rw [h3]; exact h1, h2, h4⟩
      · exact unfC_mem f m st2 h2
def piR (rs : List Rule) : Nat := (rs.map fun r => 1 + 2 * narC r.box).prod
theorem piR_box (rs : List Rule) : piR rs = piecesL (rs.map Rule.box) := by
  unfold piR piecesL
  rw [List.map_map]
  rfl
theorem piR_pos : ∀ rs : List Rule, 1 ≤ piR rs
  | [] => Nat.le_refl _
  | r :: rs => by
    have := piR_pos rs
    show 1 ≤ (1 + 2 * narC r.box) * piR rs
    exact Nat.mul_pos (by omega) this
theorem cap_unfGo {unf : Str → Nat → List Row} {len : Str → Nat} {n : Str} {fin c : Nat} (hc : 1 ≤ c) : ∀ (rs : List Rule) (i here : Nat), (∀ b m, Rule.call b m ∈ rs → ∀ st, capR (unf m st) ≤ c) → capR (unfGo unf len n fin rs i here) ≤ piR rs * c ^ (rs.filter isCallB).length
  | [], _, _, _ => Nat.le_refl _
  | .word b w :: rs, i, here, h => by
    have ih := cap_unfGo hc (n := n) (fin := fin) (len := len) rs (i + 1) (here + 1) fun b m q => h b m (List.mem_cons_of_mem _ q)
    show (1 + 2 * narC b) * capR _ ≤ (1 + 2 * narC b) * piR rs * c ^ (rs.filter isCallB).length
    rw [Nat.mul_assoc]
    exact Nat.mul_le_mul_left _ ih
  | .back b :: rs, i, here, h => by
    have ih := cap_unfGo hc (n := n) (fin := fin) (len := len) rs (i + 1) (here + 1) fun b m q => h b m (List.mem_cons_of_mem _ q)
    show (1 + 2 * narC b) * capR _ ≤ (1 + 2 * narC b) * piR rs * c ^ (rs.filter isCallB).length
    rw [Nat.mul_assoc]
    exact Nat.mul_le_mul_left _ ih
  | .call b m :: rs, i, here, h => by
    have ih := cap_unfGo hc (n := n) (fin := fin) (len := len) rs (i + 1) (here + 1 + len m) fun b m q => h b m (List.mem_cons_of_mem _ q)
    have h1 := h b m (List.mem_cons_self ..) (here + 1)
    show (1 + 2 * narC b) * capR _ ≤ (1 + 2 * narC b) * piR rs * c ^ ((rs.filter isCallB).length + 1)
    rw [Nat.mul_assoc, capR_app, Nat.pow_succ]
    refine Nat.mul_le_mul_left _ ?_
    rw [← Nat.mul_assoc, Nat.mul_comm (capR _)]
    exact Nat.mul_le_mul ih h1
/-! ### the books of the law, and their shortened ones -/
structure RuOk (r : Rule) : Prop where
  box : BoxIn r.box every
  head : HeadOk r
structure WData (b : Bool) (chs : Chs) (n : Str) (rs rs2 : List Rule) : Prop where
  nm : NameOk n
  eq : chs = (("main" : Str), rs) :: (if b then [(n, rs2)] else [])
  l1 : rs.length ≤ 3
  l2 : rs2.length ≤ 2
  r1 : ∀ r ∈ rs, RuOk r
  r2 : ∀ r ∈ rs2, RuOk r
  c1 : ∀ x m, Rule.call x m ∈ rs → m = n ∧ b = true
  c2 : ∀ x m, Rule.call x m ∉ rs2
  few : (rs.filter isCallB).length ≤ 2
  cut : piR rs * piR rs2 ≤ 45
def WCh (b : Bool) (chs : Chs) : Prop := ∃ n rs rs2, WData b chs n rs rs2
section
variable {b : Bool} {chs : Chs} {n : Str} {rs rs2 : List Rule}
theorem WData.mem (h : WData b chs n rs rs2) {p : Str × List Rule} (hp : p ∈ chs) : p = (("main" : Str), rs) ∨ (p = (n, rs2) ∧ b = true) := by
  rw [h.eq] at hp
  rcases List.mem_cons.mp hp with hp | hp
  · exact .inl hp
  · cases b with
    | true => exact .inr ⟨List.mem_singleton.mp hp, rfl⟩
    | false => cases hp
theorem WData.main (h : WData b chs n rs rs2) : lookD chs "main" = some rs := by
  rw [h.eq]
  simp [lookD]
theorem WData.call (h : WData true chs n rs rs2) : lookD chs n = some rs2 := by
  rw [h.eq]
  have : ¬ ("main" : Str) = n := fun e => h.nm.ne e.symm
  simp [lookD, this]
theorem WData.nodup (h : WData b chs n rs rs2) : (chs.map (·.1)).Nodup := by
  rw [h.eq]
  have := Ne.symm h.nm.ne
  cases b
  · simp
  · simpa using this
theorem WData.deep1 (h : WData true chs n rs rs2) (f : Nat) : Deep (f + 1) chs n := ⟨rs2, h.call, fun x m q => (h.c2 x m q).elim⟩
theorem WData.deepM (h : WData b chs n rs rs2) : Deep 2 chs "main" := ⟨rs, h.main, fun x m q => by
  obtain ⟨rfl, rfl⟩ := h.c1 x m q
  exact h.deep1 0⟩
theorem ones_sum : ∀ l : List Rule, (l.map fun _ => 1).sum = l.length
  | [] => rfl
  | r :: l => by
    rw [List.map_cons, List.sum_cons, ones_sum l, List.length_cons]
    omega
theorem WData.len1 (h : WData true chs n rs rs2) (f : Nat) : lenC (f + 1) chs n = rs2.length := by
  rw [lenC_eq h.call]
  have e : rs2.map (lenR f chs) = rs2.map fun _ => 1 := List.map_congr_left fun r hr => by
    cases r with
    | word x w => rfl
    | back x => rfl
    | call x m => exact (h.c2 x m hr).elim
  rw [e]
  exact ones_sum rs2
theorem lenSum {f : Nat} {ch : Chs} {c : Nat} : ∀ rs : List Rule, (∀ x m, Rule.call x m ∈ rs → lenC f ch m = c) → (rs.map (lenR f ch)).sum = rs.length + (rs.filter isCallB).length * c
  | [], _ => by simp
  | .word x w :: rs, h => by
    have ih := lenSum rs fun x m q => h x m (List.mem_cons_of_mem _ q)
    rw [List.map_cons, List.sum_cons, ih]
    show 1 + _ = (rs.length + 1) + (rs.filter isCallB).length * c
    omega
  | .back x :: rs, h => by
    have ih := lenSum rs fun x m q => h x m (List.mem_cons_of_mem _ q)
    rw [List.map_cons, List.sum_cons, ih]
    show 1 + _ = (rs.length + 1) + (rs.filter isCallB).length * c
    omega
  | .call x m :: rs, h => by
    have ih := lenSum rs fun x m q => h x m (List.mem_cons_of_mem _ q)
    have h1 := h x m (List.mem_cons_self ..)
    rw [List.map_cons, List.sum_cons, ih]
    show 1 + lenC f ch m + _ = (rs.length + 1) + ((rs.filter isCallB).length + 1) * c
    rw [h1, Nat.add_mul]
    omega
theorem WData.len (h : WData b chs n rs rs2) : lenC 2 chs "main" = rs.length + (rs.filter isCallB).length * rs2.length := by
  rw [lenC_eq h.main]
  refine lenSum rs fun x m q => ?_
  obtain ⟨rfl, rfl⟩ := h.c1 x m q
  exact h.len1 0
theorem WData.lenLe (h : WData b chs n rs rs2) : lenC 2 chs "main" ≤ 7 := by
  rw [h.len]
  have h1 := h.l1
  have h2 := Nat.mul_le_mul h.few h.l2
  omega
theorem WData.ok (h : WData b chs n rs rs2) : BkOk chs := by
  have hl : chs.length = if b then 2 else 1 := by
    rw [h.eq]
    cases b <;> rfl
  refine ⟨h.nodup, fun p hp => ?_, fun p hp => ?_, ⟨rs, ?_⟩, ?_, fun p hp r hr => ?_, ?_, fun p hp => ?_⟩
  · rcases h.mem hp with rfl | ⟨rfl, rfl⟩
    · exact h.deepM
    · exact h.deep1 1
  · rw [hl]
    rcases h.mem hp with rfl | ⟨rfl, rfl⟩
    · cases b with
      | true => exact h.deepM
      | false => exact ⟨rs, h.main, fun x m q => by cases (h.c1 x m q).2⟩
    · exact h.deep1 1
  · rw [h.eq]
    exact List.mem_cons_self ..
  · have := h.lenLe
    omega
  · rcases h.mem hp with rfl | ⟨rfl, rfl⟩
    · exact (h.r1 r hr).head.word
    · exact (h.r2 r hr).head.word
  · rw [hl]
    split <;> omega
  · have h1 := h.l1
    have h2 := h.l2
    rcases h.mem hp with rfl | ⟨rfl, rfl⟩
    · show rs.length ≤ 1000
      omega
    · show rs2.length ≤ 1000
      omega
theorem WData.rule (h : WData b chs n rs rs2) {p : Str × List Rule} (hp : p ∈ chs) {r : Rule} (hr : r ∈ p.2) : RuOk r := by
  rcases h.mem hp with rfl | ⟨rfl, rfl⟩
  · exact h.r1 r hr
  · exact h.r2 r hr
theorem WData.cap (h : WData b chs n rs rs2) : capR (unfC 2 chs "main" 0) ≤ 2025 := by
  have e : unfC 2 chs "main" 0 = unfGo (unfC 1 chs) (lenC 1 chs) "main" (0 + lenC 2 chs "main") rs 0 0 := by
    conv => lhs; unfold unfC
    rw [h.main]
    rfl
  rw [e]
  have h0 := piR_pos rs2
  have h1 := cap_unfGo (unf := unfC 1 chs) (len := lenC 1 chs) (n := "main") (fin := 0 + lenC 2 chs "main") h0 rs 0 0 fun x m q st => by
    obtain ⟨rfl, rfl⟩ := h.c1 x m q
    have e : unfC 1 chs m st = unfGo (unfC 0 chs) (lenC 0 chs) m (st + lenC 1 chs m) rs2 0 st := by
      conv => lhs; unfold unfC
      rw [h.call]
      rfl
    rw [e]
    have h2 := cap_unfGo (unf := unfC 0 chs) (len := lenC 0 chs) (n := m) (fin := st + lenC 1 chs m) (Nat.le_refl 1) rs2 0 st fun x m q => (h.c2 x m q).elim
    rw [Nat.one_pow, Nat.mul_one] at h2
    exact h2
  have h2 : piR rs2 ^ (rs.filter isCallB).length ≤ piR rs2 ^ 2 := Nat.pow_le_pow_right h0 h.few
  have h3 : piR rs * piR rs2 ^ 2 ≤ (piR rs * piR rs2) ^ 2 := by
    rw [Nat.mul_pow]
    refine Nat.mul_le_mul_right _ ?_
    rw [Nat.pow_two]
    exact Nat.le_mul_of_pos_left _ (piR_pos rs)
  have h4 : (piR rs * piR rs2) ^ 2 ≤ 45 ^ 2 := Nat.pow_le_pow_left h.cut 2
  have h5 := Nat.mul_le_mul_left (piR rs) h2
  have h6 : (45 : Nat) ^ 2 = 2025 := by decide
  omega
def bk (d : Str) (chs : Chs) : Book := ⟨d, chs, (lenC 2 chs "main" : Nat)⟩
theorem WData.book (h : WData b chs n rs rs2) (d : Str) : BookOk (bk d chs) := by
  refine ⟨h.ok, fun p hp r hr => (h.rule hp hr).box, rfl, fun box hb => ?_⟩
  refine Nat.le_trans (look_cap (fun r hr => ?_) box (.row 0) [] hb) h.cap
  obtain ⟨m, rs', rule, h1, h2, h3, h4⟩ := unfC_mem 2 "main" 0 hr
  rw [h4]
  exact (h.rule (lookD_mem h1) (List.mem_of_getElem? h2)).box
end
end
section
open PySem PySem.Spec PyProof.Rows L2
/-! ### the way along rows is the reading -/
def wayS (rows : List Row) (w : Way) : Steps := w.map fun e => match rows[e.1]? with
  | some r => (r.name, r.idx, e.2)
  | none => ("", 0, e.2)
theorem wayS_app (rows : List Row) (a b : Way) : wayS rows (a ++ b) = wayS rows a ++ wayS rows b := List.map_append ..
theorem wayS_cons {rows : List Row} {n : Nat} {r : Row} {b : Bool} {w : Way} (h : rows[n]? = some r) : wayS rows ((n, b) :: w) = (r.name, r.idx, b) :: wayS rows w := by
  unfold wayS
  rw [List.map_cons]
  simp only [h]
theorem walk_row {rows : List Row} {dflt : Str} {p : List Int} {n : Nat} {r : Row} (h : rows[n]? = some r) (ok : RowOk rows.length n r) : walk rows dflt p (.row n) = if hasB r.box p = true then ((n, true) :: (walk rows dflt p r.yes).1, (walk rows dflt p r.yes).2)
    else ((n, false) :: (walk rows dflt p (.row r.no)).1, (walk rows dflt p (.row r.no)).2) := by
  obtain ⟨hl, hg⟩ := List.getElem?_eq_some_iff.mp h
  have e1 : (Go.row r.no).ahead n = .row r.no := by
    have := ok.no
    show Go.row (max r.no (n + 1)) = _
    rw [Nat.max_eq_left (by omega)]
  have e2 : r.yes.ahead n = r.yes := by
    cases hy : r.yes with
    | word w => rfl
    | row m =>
      have := ok.yes m hy
      show Go.row (max m (n + 1)) = _
      rw [Nat.max_eq_left (by omega)]
  conv => lhs; rw [walk]
  simp only [hl, dite_true, hg, e1, e2]
theorem walk_word {rows : List Row} {dflt : Str} {p : List Int} {w : Str} : walk rows dflt p (.word w) = ([], w) := by
  rw [walk]
theorem walk_end {rows : List Row} {dflt : Str} {p : List Int} {n : Nat} (h : ¬ n < rows.length) : walk rows dflt p (.row n) = ([], dflt) := by
  rw [walk]
  simp only [h, dite_false]
def WalkAs (rows : List Row) (dflt : Str) (p : List Int) (a b : Nat) (sr : Steps × Option Str) : Prop :=
  (∃ W w, sr = (wayS rows W, some w) ∧ walk rows dflt p (.row a) = (W, w)) ∨ (∃ W, sr = (wayS rows W, none) ∧ walk rows dflt p (.row a) = (W ++ (walk rows dflt p (.row b)).1, (walk rows dflt p (.row b)).2))
section
variable {rows : List Row} {dflt : Str} {p : List Int}
theorem WalkAs.cons {a a' b : Nat} {s : Steps} {o : Option Str} {r : Row} {fl : Bool} (hr : rows[a]? = some r) (hw : walk rows dflt p (.row a) = ((a, fl) :: (walk rows dflt p (.row a')).1, (walk rows dflt p (.row a')).2)) (h : WalkAs rows dflt p a' b (s, o)) : WalkAs rows dflt p a b ((r.name, r.idx, fl) :: s, o) := by
  rcases h with ⟨W, w, h1, h2⟩ | ⟨W, h1, h2⟩
  · rw [Prod.mk.injEq] at h1
    refine .inl ⟨(a, fl) :: W, w, ?_, ?_⟩
    · rw [wayS_cons hr, h1.1, h1.2]
    · rw [hw, h2]
  · rw [Prod.mk.injEq] at h1
    refine .inr ⟨(a, fl) :: W, ?_, ?_⟩
    · rw [wayS_cons hr, h1.1, h1.2]
    · rw [hw, h2]
      rfl
theorem WalkAs.app {a c b : Nat} {s1 s2 : Steps} {o : Option Str} (h1 : WalkAs rows dflt p a c (s1, none)) (h2 : WalkAs rows dflt p c b (s2, o)) : WalkAs rows dflt p a b (s1 ++ s2, o) := by
  rcases h1 with ⟨W, w, h3, _⟩ | ⟨W, h3, h4⟩
  · cases h3
  · rw [Prod.mk.injEq] at h3
    rcases h2 with ⟨V, w, h5, h6⟩ | ⟨V, h5, h6⟩
    · rw [Prod.mk.injEq] at h5
      refine .inl ⟨W ++ V, w, ?_, ?_⟩
      · rw [wayS_app, h3.1, h5.1, h5.2]
      · rw [h4, h6]
    · rw [Prod.mk.injEq] at h5
      refine .inr ⟨W ++ V, ?_, ?_⟩
      · rw [wayS_app, h3.1, h5.1, h5.2]
      · rw [h4, h6, List.append_assoc]
theorem WalkAs.some {a c b : Nat} {s : Steps} {w : Str} (h : WalkAs rows dflt p a c (s, some w)) : WalkAs rows dflt p a b (s, some w) := by
  rcases h with h | ⟨W, h3, _⟩
  · exact .inl h
  · cases h3
def SegAt (rows : List Row) (st : Nat) (seg : List Row) : Prop := ∀ j r, seg[j]? = some r → rows[st + j]? = some r
theorem SegAt.head {st : Nat} {r : Row} {seg : List Row} (h : SegAt rows st (r :: seg)) : rows[st]? = some r := h 0 r rfl
theorem SegAt.tail {st : Nat} {r : Row} {seg : List Row} (h : SegAt rows st (r :: seg)) : SegAt rows (st + 1) seg := fun j x e => by
  have := h (j + 1) x (by simpa using e)
  rw [show st + 1 + j = st + (j + 1) by omega]
  exact this
theorem SegAt.left {st : Nat} {a b : List Row} (h : SegAt rows st (a ++ b)) : SegAt rows st a := fun j x e => h j x (by
  rw [List.getElem?_append_left (List.getElem?_eq_some_iff.mp e).1]
  exact e)
theorem SegAt.right {st : Nat} {a b : List Row} (h : SegAt rows st (a ++ b)) : SegAt rows (st + a.length) b := fun j x e => by
  have := h (a.length + j) x (by
    rw [List.getElem?_append_right (by omega), show a.length + j - a.length = j by omega]
    exact e)
  rw [show st + a.length + j = st + (a.length + j) by omega]
  exact this
theorem walk_go {f : Nat} {ch : Chs} {n : Str} {fin : Nat} (hR : RowsOk rows) (ih : ∀ m st, Deep f ch m → SegAt rows st (unfC f ch m st) → WalkAs rows dflt p st (st + lenC f ch m) (readC f ch p m)) : ∀ (rs : List Rule) (i here : Nat), (∀ b m, Rule.call b m ∈ rs → Deep f ch m) →
    SegAt rows here (unfGo (unfC f ch) (lenC f ch) n fin rs i here) → here + (rs.map (lenR f ch)).sum = fin → WalkAs rows dflt p here fin (readGo (readC f ch p) n p rs i)
  | [], i, here, _, _, hf => by
    rw [List.map_nil, List.sum_nil, Nat.add_zero] at hf
    subst hf
    exact .inr ⟨[], rfl, rfl⟩
  | .word b w :: rs, i, here, hd, hs, hf => by
    have hs : SegAt rows here (⟨n, i, b, .word w, here + 1⟩ :: unfGo (unfC f ch) (lenC f ch) n fin rs (i + 1) (here + 1)) := hs
    rw [List.map_cons, List.sum_cons, show lenR f ch (.word b w) = 1 from rfl] at hf
    have hw := walk_row (dflt := dflt) (p := p) hs.head (hR _ _ hs.head)
    cases hb : hasB b p with
    | true =>
      rw [readGo_word hb]
      rw [show hasB (⟨n, i, b, .word w, here + 1⟩ : Row).box p = true from hb, if_pos rfl] at hw
      refine .inl ⟨[(here, true)], w, ?_, ?_⟩
      · rw [wayS_cons hs.head]
        rfl
      · rw [hw, walk_word]
    | false =>
      rw [readGo_no (r := .word b w) hb]
      rw [show hasB (⟨n, i, b, .word w, here + 1⟩ : Row).box p = false from hb, if_neg Bool.false_ne_true] at hw
      exact WalkAs.cons hs.head hw (walk_go hR ih rs (i + 1) (here + 1) (fun x m q => hd x m (List.mem_cons_of_mem _ q)) hs.tail (by omega))
  | .back b :: rs, i, here, hd, hs, hf => by
    have hs : SegAt rows here (⟨n, i, b, .row fin, here + 1⟩ :: unfGo (unfC f ch) (lenC f ch) n fin rs (i + 1) (here + 1)) := hs
    rw [List.map_cons, List.sum_cons, show lenR f ch (.back b) = 1 from rfl] at hf
    have hw := walk_row (dflt := dflt) (p := p) hs.head (hR _ _ hs.head)
    cases hb : hasB b p with
    | true =>
      rw [readGo_back hb]
      rw [show hasB (⟨n, i, b, .row fin, here + 1⟩ : Row).box p = true from hb, if_pos rfl] at hw
      refine .inr ⟨[(here, true)], ?_, ?_⟩
      · rw [wayS_cons hs.head]
        rfl
      · rw [hw]
        rfl
    | false =>
      rw [readGo_no (r := .back b) hb]
      rw [show hasB (⟨n, i, b, .row fin, here + 1⟩ : Row).box p = false from hb, if_neg Bool.false_ne_true] at hw
      exact WalkAs.cons hs.head hw (walk_go hR ih rs (i + 1) (here + 1) (fun x m q => hd x m (List.mem_cons_of_mem _ q)) hs.tail (by omega))
  | .call b m :: rs, i, here, hd, hs, hf => by
    have hs : SegAt rows here (⟨n, i, b, .row (here + 1), here + 1 + lenC f ch m⟩ :: (unfC f ch m (here + 1) ++ unfGo (unfC f ch) (lenC f ch) n fin rs (i + 1) (here + 1 + lenC f ch m))) := hs
    rw [List.map_cons, List.sum_cons, show lenR f ch (.call b m) = 1 + lenC f ch m from rfl] at hf
    have hw := walk_row (dflt := dflt) (p := p) hs.head (hR _ _ hs.head)
    have hdm := hd b m (List.mem_cons_self ..)
    have hs1 := hs.tail.left
    have hs2 := hs.tail.right
    rw [unfC_len _ _ _ _ hdm] at hs2
    have r2 := walk_go hR ih rs (i + 1) (here + 1 + lenC f ch m) (fun x m q => hd x m (List.mem_cons_of_mem _ q)) hs2 (by omega)
    cases hb : hasB b p with
    | true =>
      rw [show hasB (⟨n, i, b, .row (here + 1), here + 1 + lenC f ch m⟩ : Row).box p = true from hb, if_pos rfl] at hw
      have r1 := ih m (here + 1) hdm hs1
      rcases hh : readC f ch p m with ⟨s, _ | w⟩
      · rw [hh] at r1
        rw [readGo_callN hb hh]
        exact WalkAs.cons (a' := here + 1) hs.head hw (r1.app r2)
      · rw [hh] at r1
        rw [readGo_callS hb hh]
        exact WalkAs.cons (a' := here + 1) hs.head hw r1.some
    | false =>
      rw [readGo_no (r := .call b m) hb]
      rw [show hasB (⟨n, i, b, .row (here + 1), here + 1 + lenC f ch m⟩ : Row).box p = false from hb, if_neg Bool.false_ne_true] at hw
      exact WalkAs.cons hs.head hw r2
theorem walk_chain {ch : Chs} (hR : RowsOk rows) : ∀ (f : Nat) (n : Str) (st : Nat), Deep f ch n → SegAt rows st (unfC f ch n st) → WalkAs rows dflt p st (st + lenC f ch n) (readC f ch p n)
  | 0, _, _, h, _ => h.elim
  | f + 1, n, st, ⟨rs, h1, h2⟩, hs => by
    have e : unfC (f + 1) ch n st = unfGo (unfC f ch) (lenC f ch) n (st + lenC (f + 1) ch n) rs 0 st := by
      conv => lhs; unfold unfC
      rw [h1]
      rfl
    have e2 : readC (f + 1) ch p n = readGo (readC f ch p) n p rs 0 := by
      conv => lhs; unfold readC
      rw [h1]
      rfl
    rw [e] at hs
    rw [e2]
    exact walk_go hR (fun m st d q => walk_chain hR f m st d q) rs 0 st h2 hs (by rw [lenC_eq h1])
end
section
variable {B C : Book} {p : List Int}
theorem walk_read (hB : BookOk B) (p : List Int) : wayS (rowsB B) (walk (rowsB B) B.dflt p (.row 0)).1 = (readC 2 B.chains p "main").1 ∧ (walk (rowsB B) B.dflt p (.row 0)).2 = wordB 2 B p := by
  have h := walk_chain (dflt := B.dflt) (p := p) hB.rows 2 "main" 0 hB.deep fun j r e => by
    rw [Nat.zero_add]
    exact e
  rw [Nat.zero_add, ← hB.rowsLen] at h
  have he : walk (rowsB B) B.dflt p (.row (rowsB B).length) = ([], B.dflt) := walk_end (Nat.lt_irrefl _)
  unfold wordB
  rcases h with ⟨W, w, h1, h2⟩ | ⟨W, h1, h2⟩
  · rw [h1, h2]
    exact ⟨rfl, rfl⟩
  · rw [h1, h2, he]
    exact ⟨by rw [List.append_nil], rfl⟩
theorem leaf_read (hB : BookOk B) {box : Box} (hb : BoxIn box every) {l : Leaf} (hl : l ∈ lookB B box) (h6 : p.length = 6) (hp : hasB l.box p = true) : hasB box p = true ∧ wayS (rowsB B) l.way = (readC 2 B.chains p "main").1 ∧ l.word = wordB 2 B p := by
  obtain ⟨h1, h2, h3⟩ := look_sound hB.six h6 box (.row 0) [] hb (by rw [hb.len]; rfl) hl hp
  obtain ⟨h4, h5⟩ := walk_read hB p
  rw [List.nil_append] at h2
  exact ⟨h1, by rw [h2, h4], by rw [h3, h5]⟩
theorem leaf_of (hB : BookOk B) {box : Box} (hb : BoxIn box every) (h6 : p.length = 6) (hp : hasB box p = true) : ∃ l ∈ lookB B box, hasB l.box p = true := look_cover hB.six h6 box (.row 0) [] hb (by rw [hb.len]; rfl) hp
theorem corner_len (b : Box) : (corner b).length = b.length := by simp [corner]
theorem has_in : ∀ {b c : Box} {p : List Int}, BoxIn b c → b.length = p.length → hasB b p = true → hasB c p = true
  | [], [], [], _, _, _ => rfl
  | s :: b, t :: c, n :: p, h, hl, hp => by
    rw [hasB_cons, Bool.and_eq_true] at hp
    rw [hasB_cons, has_in h.2 (by simpa using hl) hp.2, Bool.and_true]
    have h1 := hp.1
    obtain ⟨q1, q2, q3⟩ := h.1
    unfold holdsB at h1 ⊢
    simp at h1 ⊢
    omega
/-- alike: the same word everywhere -/
theorem part_none (hB : BookOk B) (hC : BookOk C) (h : partB B C = none) (h6 : p.length = 6) (hp : hasB every p = true) : wordB 2 B p = wordB 2 C p := by
  obtain ⟨l, h1, h2⟩ := leaf_of hB every_in h6 hp
  have hlb := hB.leaf every_in h1
  obtain ⟨m, h3, h4⟩ := leaf_of hC hlb h6 h2
  obtain ⟨_, _, h5⟩ := leaf_read hB every_in h1 h6 h2
  obtain ⟨_, _, h7⟩ := leaf_read hC hlb h3 h6 h4
  unfold partB at h
  rw [Option.map_eq_none_iff, List.find?_eq_none] at h
  have := h ⟨m.box, l.way, l.word, m.way, m.word⟩ (List.mem_flatMap.mpr ⟨l, h1, List.mem_map.mpr ⟨m, h3, rfl⟩⟩)
  simp at this
  rw [← h5, ← h7]
  exact this
theorem part_some (hB : BookOk B) (hC : BookOk C) (h : partB B C = some p) : p.length = 6 ∧ hasB every p = true ∧ wordB 2 B p ≠ wordB 2 C p := by
  unfold partB at h
  rw [Option.map_eq_some_iff] at h
  obtain ⟨j, h1, rfl⟩ := h
  have h2 := List.find?_some h1
  obtain ⟨l, h3, h4⟩ := List.mem_flatMap.mp (List.mem_of_find?_eq_some h1)
  obtain ⟨m, h5, rfl⟩ := List.mem_map.mp h4
  have hlb := hB.leaf every_in h3
  have hmb := hC.leaf hlb h5
  have hme := hmb.trans hlb
  have h6 : (corner m.box).length = 6 := by rw [corner_len, hme.len]; rfl
  have hp := corner_has hmb
  obtain ⟨q1, _, q2⟩ := leaf_read hC hlb h5 h6 hp
  obtain ⟨q3, _, q4⟩ := leaf_read hB every_in h3 h6 q1
  simp at h2
  refine ⟨h6, q3, fun e => h2 ?_⟩
  show l.word = m.word
  rw [q4, q2, e]
theorem part_all (hB : BookOk B) (hC : BookOk C) (h : ∀ p : List Int, p.length = 6 → hasB every p = true → wordB 2 B p = wordB 2 C p) : partB B C = none := by
  cases e : partB B C with
  | none => rfl
  | some p =>
    obtain ⟨h1, h2, h3⟩ := part_some hB hC e
    exact (h3 (h p h1 h2)).elim
end
end
section
open PySem PySem.Spec PyProof.Rows L2 TL
/-! ### by which parcels a rule is reached -/
section
variable {rows : List Row} {c : List Int}
theorem firstW_keep {pl : Place} {d : List Int} : ∀ (way : Way) (acc : Firsts), lookD acc pl = some d → lookD (firstW rows c way acc) pl = some d
  | [], acc, h => h
  | (i, f) :: way, acc, h => by
    unfold firstW
    refine firstW_keep way _ ?_
    split
    · rw [lookD_app, h]
    · exact h
theorem firstW_sound {P : Place → List Int → Prop} : ∀ (way : Way) (acc : Firsts), (∀ pl d, lookD acc pl = some d → P pl d) → (∀ j, (j, true) ∈ way → P (placeOf rows j) c) → ∀ pl d, lookD (firstW rows c way acc) pl = some d → P pl d
  | [], acc, h, _ => h
  | (i, f) :: way, acc, h, hw => by
    unfold firstW
    refine firstW_sound way _ ?_ fun j q => hw j (List.mem_cons_of_mem _ q)
    intro pl d
    split
    · rename_i hc
      rw [lookD_app]
      cases e : lookD acc pl with
      | some x =>
        intro q
        cases q
        exact h pl d e
      | none =>
        intro q
        simp only at q
        split at q
        · rename_i e2
          cases q
          have hf : f = true := by
            rw [Bool.and_eq_true] at hc
            exact hc.1
          rw [← e2]
          rw [hf] at hw
          exact hw i (List.mem_cons_self ..)
        · cases q
    · exact h pl d
theorem firstW_cover : ∀ (way : Way) (acc : Firsts) (j : Nat), (j, true) ∈ way → ∃ d, lookD (firstW rows c way acc) (placeOf rows j) = some d
  | (i, f) :: way, acc, j, h => by
    unfold firstW
    rcases List.mem_cons.mp h with h | h
    · cases h
      cases e : lookD acc (placeOf rows i) with
      | some d => exact ⟨d, firstW_keep way _ (by
          split
          · rw [lookD_app, e]
          · exact e)⟩
      | none => exact ⟨c, firstW_keep way _ (by
          rw [if_pos (show (true && !(none : Option (List Int)).isSome) = true from rfl), lookD_app, e]
          exact if_pos rfl)⟩
    · exact firstW_cover way _ j h
theorem firstL_keep {pl : Place} {d : List Int} : ∀ (ls : List Leaf) (acc : Firsts), lookD acc pl = some d → lookD (firstL rows ls acc) pl = some d
  | [], acc, h => h
  | l :: ls, acc, h => by
    unfold firstL
    exact firstL_keep ls _ (firstW_keep _ _ h)
theorem firstL_sound {P : Place → List Int → Prop} : ∀ (ls : List Leaf) (acc : Firsts), (∀ pl d, lookD acc pl = some d → P pl d) → (∀ l ∈ ls, ∀ j, (j, true) ∈ l.way → P (placeOf rows j) (corner l.box)) → ∀ pl d, lookD (firstL rows ls acc) pl = some d → P pl d
  | [], acc, h, _ => h
  | l :: ls, acc, h, hw => by
    unfold firstL
    exact firstL_sound ls _ (firstW_sound _ _ h (hw l (List.mem_cons_self ..))) fun m q => hw m (List.mem_cons_of_mem _ q)
theorem firstL_cover : ∀ (ls : List Leaf) (acc : Firsts) (l : Leaf) (j : Nat), l ∈ ls → (j, true) ∈ l.way → ∃ d, lookD (firstL rows ls acc) (placeOf rows j) = some d
  | m :: ls, acc, l, j, h, hj => by
    unfold firstL
    rcases List.mem_cons.mp h with rfl | h
    · obtain ⟨d, hd⟩ := firstW_cover (rows := rows) (c := corner l.box) l.way acc j hj
      exact ⟨d, firstL_keep ls _ hd⟩
    · exact firstL_cover ls _ l j h hj
end
section
variable {B : Book} {n : Str} {i : Nat}
theorem live_iff (hB : BookOk B) : liveB B n i = true ↔ ∃ p : List Int, p.length = 6 ∧ hasB every p = true ∧ (n, i, true) ∈ (readC 2 B.chains p "main").1 := by
  unfold liveB firstB
  rw [Option.isSome_iff_exists]
  constructor
  · rintro ⟨d, hd⟩
    obtain ⟨l, h1, rfl, j, h2, h3⟩ := firstL_sound (P := fun pl d => ∃ l ∈ lookB B every, d = corner l.box ∧ ∃ j, (j, true) ∈ l.way ∧ placeOf (rowsB B) j = pl) (lookB B every) [] (fun pl d h => by simp [lookD] at h) (fun l hl j hj => ⟨l, hl, rfl, j, hj, rfl⟩) _ _ hd
    have hlb := hB.leaf every_in h1
    have h6 : (corner l.box).length = 6 := by rw [corner_len, hlb.len]; rfl
    obtain ⟨q1, q2, _⟩ := leaf_read hB every_in h1 h6 (corner_has hlb)
    refine ⟨corner l.box, h6, q1, ?_⟩
    rw [← q2]
    have hj : j < (rowsB B).length := by
      have := (look_way every (.row 0) [] l h1).2 _ h2
      rcases this with h | h
      · cases h
      · exact h
    obtain ⟨r, hr⟩ : ∃ r, (rowsB B)[j]? = some r := ⟨_, List.getElem?_eq_getElem hj⟩
    unfold placeOf at h3
    rw [hr] at h3
    simp only [Prod.mk.injEq] at h3
    refine List.mem_map.mpr ⟨(j, true), h2, ?_⟩
    simp only [hr]
    rw [h3.1, show r.idx = i by omega]
  · rintro ⟨p, h6, hp, hm⟩
    obtain ⟨l, h1, h2⟩ := leaf_of hB every_in h6 hp
    obtain ⟨_, q2, _⟩ := leaf_read hB every_in h1 h6 h2
    rw [← q2] at hm
    obtain ⟨⟨j, b⟩, h3, h4⟩ := List.mem_map.mp hm
    have hb : b = true ∧ placeOf (rowsB B) j = (n, (i : Int)) := by
      unfold placeOf
      cases hr : (rowsB B)[j]? with
      | none =>
        simp only [hr, Prod.mk.injEq] at h4
        obtain ⟨rfl, h5, rfl⟩ := h4
        refine ⟨rfl, ?_⟩
        rw [← h5]
        rfl
      | some r =>
        simp only [hr, Prod.mk.injEq] at h4
        obtain ⟨rfl, h5, rfl⟩ := h4
        refine ⟨rfl, ?_⟩
        rw [← h5]
    obtain ⟨rfl, h5⟩ := hb
    rw [← h5]
    exact firstL_cover _ _ l j h1 h3
end
/-! ### the shortened book reads alike -/
def keptR (live : Str → Nat → Bool) (n : Str) : List Rule → Nat → List Rule
  | [], _ => []
  | r :: rs, i => if live n i = true then r :: keptR live n rs (i + 1) else keptR live n rs (i + 1)
def newIx (live : Str → Nat → Bool) (n : Str) : Nat → Nat
  | 0 => 0
  | i + 1 => newIx live n i + (if live n i = true then 1 else 0)
theorem keptB_eq (B : Book) (n : Str) (rs : List Rule) : keptB B n rs = keptR (liveB B) n rs 0 := by
  unfold keptB
  have : ∀ (rs : List Rule) (k : Nat), ((rs.zipIdx k).filter fun p => liveB B n p.2).map (·.1) = keptR (liveB B) n rs k := by
    intro rs
    induction rs with
    | nil => intro k; rfl
    | cons r rs ih =>
      intro k
      rw [List.zipIdx_cons, List.filter_cons]
      unfold keptR
      by_cases h : liveB B n k = true
      · rw [if_pos h, if_pos h, List.map_cons, ih]
      · rw [if_neg h, if_neg h, ih]
  exact this rs 0
theorem keptR_sub (live : Str → Nat → Bool) (n : Str) : ∀ (rs : List Rule) (i : Nat), (keptR live n rs i).Sublist rs
  | [], _ => List.Sublist.refl _
  | r :: rs, i => by
    unfold keptR
    split
    · exact (keptR_sub live n rs (i + 1)).cons_cons r
    · exact (keptR_sub live n rs (i + 1)).cons r
theorem keptR_get (live : Str → Nat → Bool) (n : Str) : ∀ (rs : List Rule) (i k : Nat), k < (keptR live n rs i).length → ∃ j r, rs[j]? = some r ∧ live n (i + j) = true ∧ newIx live n (i + j) = newIx live n i + k
  | [], _, _, h => by simp [keptR] at h
  | r :: rs, i, k, h => by
    unfold keptR at h
    by_cases hl : live n i = true
    · rw [if_pos hl] at h
      cases k with
      | zero => exact ⟨0, r, rfl, hl, rfl⟩
      | succ k =>
        obtain ⟨j, r2, h1, h2, h3⟩ := keptR_get live n rs (i + 1) k (by simpa using h)
        rw [show i + 1 + j = i + (j + 1) by omega] at h2 h3
        refine ⟨j + 1, r2, by simpa using h1, h2, ?_⟩
        rw [h3]
        show newIx live n i + (if live n i = true then 1 else 0) + k = _
        rw [if_pos hl]
        omega
    · rw [if_neg hl] at h
      obtain ⟨j, r2, h1, h2, h3⟩ := keptR_get live n rs (i + 1) k h
      rw [show i + 1 + j = i + (j + 1) by omega] at h2 h3
      refine ⟨j + 1, r2, by simpa using h1, h2, ?_⟩
      rw [h3]
      show newIx live n i + (if live n i = true then 1 else 0) + k = _
      rw [if_neg hl]
      omega
/-- every step that fits is of a living rule -/
def AllLive (live : Str → Nat → Bool) (s : Steps) : Prop := ∀ e ∈ s, e.2.2 = true → live e.1 e.2.1 = true
/-- .. and stands, renumbered, in other steps -/
def Moved (live : Str → Nat → Bool) (s t : Steps) : Prop := ∀ e ∈ s, e.2.2 = true → (e.1, newIx live e.1 e.2.1, true) ∈ t
section
variable {live : Str → Nat → Bool} {n : Str} {p : List Int} {read read' : Str → Steps × Option Str}
theorem short_go : ∀ (rs : List Rule) (i : Nat), AllLive live (readGo read n p rs i).1 →
    (∀ b m j, rs[j]? = some (Rule.call b m) → live n (i + j) = true → AllLive live (read m).1 → (read' m).2 = (read m).2 ∧ Moved live (read m).1 (read' m).1) →
    (readGo read' n p (keptR live n rs i) (newIx live n i)).2 = (readGo read n p rs i).2 ∧ Moved live (readGo read n p rs i).1 (readGo read' n p (keptR live n rs i) (newIx live n i)).1
  | [], i, _, _ => ⟨rfl, fun e he => by simp [readGo] at he⟩
  | r :: rs, i, ha, hc => by
    have hc2 : ∀ b m j, rs[j]? = some (Rule.call b m) → live n (i + 1 + j) = true → AllLive live (read m).1 → (read' m).2 = (read m).2 ∧ Moved live (read m).1 (read' m).1 := fun b m j h1 h2 h3 =>
      hc b m (j + 1) (by simpa using h1) (by rw [show i + (j + 1) = i + 1 + j by omega]; exact h2) h3
    have ih := fun ha2 => short_go rs (i + 1) ha2 hc2
    have en : newIx live n (i + 1) = newIx live n i + (if live n i = true then 1 else 0) := rfl
    cases hb : hasB r.box p with
    | false =>
      rw [readGo_no hb] at ha ⊢
      obtain ⟨h1, h2⟩ := ih fun e he => ha e (List.mem_cons_of_mem _ he)
      unfold keptR
      by_cases hl : live n i = true
      · rw [if_pos hl] at en
        rw [if_pos hl, readGo_no hb, ← en]
        refine ⟨h1, fun e he hf => ?_⟩
        rcases List.mem_cons.mp he with rfl | he
        · cases hf
        · exact List.mem_cons_of_mem _ (h2 e he hf)
      · rw [if_neg hl] at en
        have en : newIx live n (i + 1) = newIx live n i := en
        rw [if_neg hl, ← en]
        refine ⟨h1, fun e he hf => ?_⟩
        rcases List.mem_cons.mp he with rfl | he
        · cases hf
        · exact h2 e he hf
    | true =>
      have hl : live n i = true := by
        cases r with
        | word b w =>
          have hb : hasB b p = true := hb
          rw [readGo_word hb] at ha
          exact ha _ (List.mem_singleton.mpr rfl) rfl
        | back b =>
          have hb : hasB b p = true := hb
          rw [readGo_back hb] at ha
          exact ha _ (List.mem_singleton.mpr rfl) rfl
        | call b m =>
          have hb : hasB b p = true := hb
          rcases hh : read m with ⟨s, _ | w⟩
          · rw [readGo_callN hb hh] at ha
            exact ha _ (List.mem_cons_self ..) rfl
          · rw [readGo_callS hb hh] at ha
            exact ha _ (List.mem_cons_self ..) rfl
      rw [if_pos hl] at en
      unfold keptR
      rw [if_pos hl]
      cases r with
      | word b w =>
        have hb : hasB b p = true := hb
        rw [readGo_word hb, readGo_word hb]
        exact ⟨rfl, fun e he hf => by rw [List.mem_singleton.mp he]; exact List.mem_singleton.mpr rfl⟩
      | back b =>
        have hb : hasB b p = true := hb
        rw [readGo_back hb, readGo_back hb]
        exact ⟨rfl, fun e he hf => by rw [List.mem_singleton.mp he]; exact List.mem_singleton.mpr rfl⟩
      | call b m =>
        have hb : hasB b p = true := hb
        have hcm := hc b m 0 rfl hl
        rcases hh : read m with ⟨s, _ | w⟩
        · rw [readGo_callN hb hh] at ha ⊢
          rw [hh] at hcm
          obtain ⟨c1, c2⟩ := hcm fun e he => ha e (List.mem_cons_of_mem _ (List.mem_append_left _ he))
          obtain ⟨h1, h2⟩ := ih fun e he => ha e (List.mem_cons_of_mem _ (List.mem_append_right _ he))
          rcases hh2 : read' m with ⟨s2, o2⟩
          rw [hh2] at c1 c2
          have c1 : o2 = none := c1
          subst c1
          rw [readGo_callN hb hh2, ← en]
          refine ⟨h1, fun e he hf => ?_⟩
          rcases List.mem_cons.mp he with rfl | he
          · exact List.mem_cons_self ..
          · rcases List.mem_append.mp he with he | he
            · exact List.mem_cons_of_mem _ (List.mem_append_left _ (c2 e he hf))
            · exact List.mem_cons_of_mem _ (List.mem_append_right _ (h2 e he hf))
        · rw [readGo_callS hb hh] at ha ⊢
          rw [hh] at hcm
          obtain ⟨c1, c2⟩ := hcm fun e he => ha e (List.mem_cons_of_mem _ he)
          rcases hh2 : read' m with ⟨s2, o2⟩
          rw [hh2] at c1 c2
          have c1 : o2 = some w := c1
          subst c1
          rw [readGo_callS hb hh2]
          refine ⟨rfl, fun e he hf => ?_⟩
          rcases List.mem_cons.mp he with rfl | he
          · exact List.mem_cons_self ..
          · exact List.mem_cons_of_mem _ (c2 e he hf)
theorem short_read {ch ch' : Chs} {InS : Str → Prop} (hl : ∀ n rs, InS n → lookD ch n = some rs → lookD ch' n = some (keptR live n rs 0)) (hc : ∀ n rs j b m, InS n → lookD ch n = some rs → rs[j]? = some (Rule.call b m) → live n j = true → InS m) :
    ∀ (f : Nat) (n : Str), Deep f ch n → InS n → AllLive live (readC f ch p n).1 → (readC f ch' p n).2 = (readC f ch p n).2 ∧ Moved live (readC f ch p n).1 (readC f ch' p n).1
  | 0, _, h, _, _ => h.elim
  | f + 1, n, ⟨rs, h1, h2⟩, hi, ha => by
    have e1 : readC (f + 1) ch p n = readGo (readC f ch p) n p rs 0 := by
      conv => lhs; unfold readC
      rw [h1]
      rfl
    have e2 : readC (f + 1) ch' p n = readGo (readC f ch' p) n p (keptR live n rs 0) (newIx live n 0) := by
      conv => lhs; unfold readC
      rw [hl n rs hi h1]
      rfl
    rw [e1] at ha ⊢
    rw [e2]
    refine short_go rs 0 ha fun b m j e lv hm => ?_
    rw [Nat.zero_add] at lv
    exact short_read hl hc f m (h2 b m (List.mem_of_getElem? e)) (hc n rs j b m hi h1 e lv) hm
end
theorem piR_sub {a b : List Rule} (h : a.Sublist b) : piR a ≤ piR b := by
  induction h with
  | slnil => exact Nat.le_refl _
  | @cons a b r h ih => exact Nat.le_trans ih (show piR b ≤ (1 + 2 * narC r.box) * piR b from Nat.le_mul_of_pos_left _ (by omega))
  | @cons_cons a b r h ih => exact Nat.mul_le_mul_left _ ih
theorem callsR_mem {rs : List Rule} {m : Str} : m ∈ callsR rs ↔ ∃ x, Rule.call x m ∈ rs := by
  unfold callsR
  rw [List.mem_filterMap]
  constructor
  · rintro ⟨r, h1, h2⟩
    cases r with
    | word b w => cases h2
    | back b => cases h2
    | call x k =>
      cases h2
      exact ⟨x, h1⟩
  · rintro ⟨x, h⟩
    exact ⟨_, h, rfl⟩
section
variable {b : Bool} {chs : Chs} {n d : Str} {rs rs2 : List Rule}
theorem keptB_sub (B : Book) (n : Str) (rs : List Rule) : (keptB B n rs).Sublist rs := by
  rw [keptB_eq]
  exact keptR_sub ..
theorem WData.kept (h : WData b chs n rs rs2) (d : Str) : keptC (bk d chs) = (("main" : Str), keptB (bk d chs) "main" rs) :: (if b then [(n, keptB (bk d chs) n rs2)] else []) := by
  have e : keptC (bk d chs) = chs.map fun p => (p.1, keptB (bk d chs) p.1 p.2) := rfl
  rw [e]
  generalize bk d chs = B
  rw [h.eq]
  cases b <;> rfl
theorem WData.short (h : WData b chs n rs rs2) (d : Str) : ∃ b', WData b' (shortC (bk d chs)) n (keptB (bk d chs) "main" rs) (keptB (bk d chs) n rs2) := by
  have hk := h.kept d
  have hm : ("main" : Str) ∈ calledB (bk d chs) := List.mem_cons_self ..
  have hcl : ∀ x m, Rule.call x m ∈ keptB (bk d chs) "main" rs → m ∈ calledB (bk d chs) := fun x m q => by
    refine List.mem_cons_of_mem _ (List.mem_flatMap.mpr ⟨("main", keptB (bk d chs) "main" rs), ?_, callsR_mem.mpr ⟨x, q⟩⟩)
    rw [hk]
    exact List.mem_cons_self ..
  have s1 := keptB_sub (bk d chs) "main" rs
  have s2 := keptB_sub (bk d chs) n rs2
  refine ⟨b && decide (n ∈ calledB (bk d chs)), h.nm, ?_, Nat.le_trans s1.length_le h.l1, Nat.le_trans s2.length_le h.l2, fun r q => h.r1 r (s1.subset q), fun r q => h.r2 r (s2.subset q), fun x m q => ?_, fun x m q => h.c2 x m (s2.subset q), Nat.le_trans (s1.filter _).length_le h.few, Nat.le_trans (Nat.mul_le_mul (piR_sub s1) (piR_sub s2)) h.cut⟩
  · unfold shortC
    rw [hk, List.filter_cons, if_pos (decide_eq_true hm)]
    congr 1
    cases b with
    | false => rfl
    | true =>
      by_cases hn : n ∈ calledB (bk d chs)
      · simp [hn]
      · simp [hn]
  · obtain ⟨rfl, rfl⟩ := h.c1 x m (s1.subset q)
    exact ⟨rfl, by rw [decide_eq_true (hcl x m q)]; rfl⟩
theorem short_bk (d : Str) (chs : Chs) : shortB (bk d chs) = bk d (shortC (bk d chs)) := rfl
theorem WData.reads (h : WData b chs n rs rs2) (d : Str) {p : List Int} (h6 : p.length = 6) (hp : hasB every p = true) :
    (readC 2 (shortC (bk d chs)) p "main").2 = (readC 2 chs p "main").2 ∧ Moved (liveB (bk d chs)) (readC 2 chs p "main").1 (readC 2 (shortC (bk d chs)) p "main").1 := by
  have hB := h.book d
  obtain ⟨b', hS⟩ := h.short d
  refine short_read (live := liveB (bk d chs)) (InS := fun m => m ∈ calledB (bk d chs)) (fun m rs' hm hl => ?_) (fun m rs' j x k hm hl hj lv => ?_) 2 "main" hB.deep (List.mem_cons_self ..) fun e he hf => ?_
  · rw [← keptB_eq]
    refine lookD_of hS.nodup ?_
    unfold shortC
    rw [List.mem_filter]
    exact ⟨List.mem_map.mpr ⟨(m, rs'), lookD_mem hl, rfl⟩, decide_eq_true hm⟩
  · refine List.mem_cons_of_mem _ (List.mem_flatMap.mpr ⟨(m, keptB (bk d chs) m rs'), List.mem_map.mpr ⟨(m, rs'), lookD_mem hl, rfl⟩, callsR_mem.mpr ⟨x, ?_⟩⟩)
    refine List.mem_map.mpr ⟨(Rule.call x k, j), List.mem_filter.mpr ⟨?_, lv⟩, rfl⟩
    rw [List.mem_zipIdx_iff_getElem?]
    exact hj
  · obtain ⟨m, i, fl⟩ := e
    have hf : fl = true := hf
    subst hf
    exact (live_iff hB).mpr ⟨p, h6, hp, he⟩
theorem WData.shortWord (h : WData b chs n rs rs2) (d : Str) {p : List Int} (h6 : p.length = 6) (hp : hasB every p = true) : wordB 2 (shortB (bk d chs)) p = wordB 2 (bk d chs) p := by
  have := (h.reads d h6 hp).1
  show ((readC 2 (shortC (bk d chs)) p "main").2).getD d = ((readC 2 chs p "main").2).getD d
  rw [this]
theorem WData.shortLive (h : WData b chs n rs rs2) (d : Str) {q : Str × List Rule} (hq : q ∈ shortC (bk d chs)) {i : Nat} (hi : i < q.2.length) : liveB (shortB (bk d chs)) q.1 i = true := by
  have hB := h.book d
  obtain ⟨b', hS⟩ := h.short d
  have hSB := hS.book d
  unfold shortC at hq
  obtain ⟨h1, h2⟩ := List.mem_filter.mp hq
  obtain ⟨⟨m, rs'⟩, h3, rfl⟩ := List.mem_map.mp h1
  have hi : i < (keptB (bk d chs) m rs').length := hi
  rw [keptB_eq] at hi
  obtain ⟨j, r, h4, h5, h6⟩ := keptR_get _ _ _ _ _ hi
  rw [Nat.zero_add] at h5 h6
  rw [show newIx (liveB (bk d chs)) m 0 = 0 from rfl, Nat.zero_add] at h6
  obtain ⟨p, p6, pe, hm⟩ := (live_iff hB).mp h5
  have := (h.reads d p6 pe).2 _ hm rfl
  simp only at this
  rw [h6] at this
  rw [short_bk]
  exact (live_iff hSB).mpr ⟨p, p6, pe, this⟩
theorem WData.shortNever (h : WData b chs n rs rs2) (d : Str) : neverS (shortB (bk d chs)) = "none" := by
  have : nevW (shortB (bk d chs)) = [] := by
    unfold nevW
    rw [List.map_eq_nil_iff, List.filter_eq_nil_iff]
    rintro ⟨m, i, o⟩ hm
    obtain ⟨rs', h1, h2, h3⟩ := reachB_mem.mp hm
    have := h.shortLive d (q := (m, rs')) h1 h2
    unfold liveB at this
    rw [← h3] at this
    rw [Option.isNone_eq_false_iff.mpr this]
    exact Bool.false_ne_true
  unfold neverS
  rw [if_pos this]
theorem WData.shortLen (h : WData b chs n rs rs2) (d : Str) : lenC 2 (shortC (bk d chs)) "main" ≤ lenC 2 chs "main" := by
  obtain ⟨b', hS⟩ := h.short d
  rw [hS.len, h.len]
  have s1 := keptB_sub (bk d chs) "main" rs
  have s2 := keptB_sub (bk d chs) n rs2
  exact Nat.add_le_add s1.length_le (Nat.mul_le_mul (s1.filter _).length_le s2.length_le)
theorem WData.shortAlike (h : WData b chs n rs rs2) (d : Str) : partB (shortB (bk d chs)) (bk d chs) = none ∧ partB (bk d chs) (shortB (bk d chs)) = none := by
  have hB := h.book d
  obtain ⟨b', hS⟩ := h.short d
  have hSB : BookOk (shortB (bk d chs)) := hS.book d
  exact ⟨part_all hSB hB fun p h6 hp => h.shortWord d h6 hp, part_all hB hSB fun p h6 hp => (h.shortWord d h6 hp).symm⟩
end
end
section
open PySem PySem.Spec PyProof.Rows L2 TL
/-! ### words without blanks -/
def Cl (z : Str) : Prop := ∀ c ∈ tl z, c ≠ 32 ∧ c ≠ 10 ∧ c ≠ 35
structure WordOk (z : Str) : Prop where
  ne : z ≠ ""
  cl : Cl z
theorem Cl.app {a b : Str} (ha : Cl a) (hb : Cl b) : Cl (a ++ b) := fun c hc => by
  rw [tl_append] at hc
  rcases List.mem_append.mp hc with h | h
  · exact ha c h
  · exact hb c h
theorem WordOk.of {z : Str} (h1 : tl z ≠ []) (h2 : Cl z) : WordOk z := ⟨fun e => h1 (by rw [e]; rfl), h2⟩
theorem WordOk.tl {z : Str} (h : WordOk z) : tl z ≠ [] := fun e => h.ne (ext_tl (by rw [e]; rfl))
theorem WordOk.app {a b : Str} (ha : WordOk a) (hb : Cl b) : WordOk (a ++ b) := .of (by
  rw [tl_append]
  exact fun e => ha.tl (List.append_eq_nil_iff.mp e).1) (ha.cl.app hb)
theorem wordOk_num {n : Int} (h0 : 0 ≤ n) : WordOk (numS n) := by
  refine .of ?_ fun c hc => ⟨fun e => ?_, fun e => ?_, fun e => ?_⟩
  · obtain ⟨m, rfl⟩ : ∃ m : Nat, n = m := ⟨n.toNat, by omega⟩
    rw [tl_numS]
    exact numL_ne m
  · subst e
    exact numS_free h0 (.inl (by decide)) hc
  · subst e
    exact numS_free h0 (.inl (by decide)) hc
  · subst e
    exact numS_free h0 (.inl (by decide)) hc
theorem wordOk_dot (a : Int) : WordOk (dotS a) := by
  refine .of ?_ fun c hc => ⟨fun e => ?_, fun e => ?_, fun e => ?_⟩
  · unfold dotS
    rw [join_eq, tl_join]
    intro e
    have : TL.tl (numS (a / 16777216 % 256)) ++ (TL.tl ("." : Str) ++ joinL (TL.tl ("." : Str)) ([numS (a / 65536 % 256), numS (a / 256 % 256), numS (a % 256)].map TL.tl)) = [] := e
    rw [List.append_eq_nil_iff, List.append_eq_nil_iff] at this
    exact absurd this.2.1 (by decide)
  · subst e
    exact dotS_free ⟨.inl (by decide), by decide⟩ hc
  · subst e
    exact dotS_free ⟨.inl (by decide), by decide⟩ hc
  · subst e
    exact dotS_free ⟨.inl (by decide), by decide⟩ hc
theorem cl_dash : Cl "-" := by unfold Cl; decide
theorem cl_slash : Cl "/" := by unfold Cl; decide
theorem wordOk_showN {l h : Int} (hl : 0 ≤ l) (hh : 0 ≤ h) : WordOk (showN l h) := by
  unfold showN
  split
  · exact wordOk_num hl
  · exact ((wordOk_num hl).app cl_dash).app (wordOk_num hh).cl
theorem wordOk_dotN (l h : Int) : WordOk (dotN l h) := by
  unfold dotN
  split
  · exact wordOk_dot l
  · exact ((wordOk_dot l).app cl_dash).app (wordOk_dot h).cl
theorem wordOk_showA {l h : Int} (hl : AdOk l) (hh : AdOk h) : WordOk (showA l h) := by
  unfold showA
  split
  · exact wordOk_dot l
  · split
    · rename_i b hb
      have hs := shared_in hl hh
      have hb2 : 0 ≤ b := by
        unfold bitsOf at hb
        split at hb
        · cases hb
          exact hs.1
        · cases hb
      exact ((wordOk_dot l).app cl_slash).app (wordOk_num hb2).cl
    · exact ((wordOk_dot l).app cl_dash).app (wordOk_dot h).cl
theorem wordOk_name {n : Str} (h : isName n = true) : WordOk n := by
  obtain ⟨h1, h2, h3⟩ := isName_iff.mp h
  refine .of ?_ fun c hc => ?_
  · intro e
    rw [len_tl, e] at h1
    simp at h1
  · have := h3 c hc
    omega
theorem wordOk_lit {z : Str} (h : (TL.tl z).all (fun c => decide (c ≠ 32 ∧ c ≠ 10 ∧ c ≠ 35)) = true) (h2 : (TL.tl z).isEmpty = false) : WordOk z := by
  refine .of (fun e => ?_) fun c hc => ?_
  · rw [e] at h2
    cases h2
  · rw [List.all_eq_true] at h
    exact of_decide_eq_true (h c hc)
def IsSh (sh : Nat → Int × Int → Str) : Prop := sh = shP ∨ sh = shL
theorem wordOk_sh {sh : Nat → Int × Int → Str} (hs : IsSh sh) {b : Box} (h : BoxIn b every) {d : Nat} (hd : d < 6) : WordOk (sh d (b.getD d (0, topN d))) := by
  obtain ⟨_, h0, h1, h2⟩ := box_get h hd
  have ht := topN_le hd
  generalize b.getD d (0, topN d) = st at *
  rcases hs with rfl | rfl
  · unfold shP
    split
    · exact wordOk_showA ⟨h0, by omega⟩ ⟨by omega, by omega⟩
    · exact wordOk_showN h0 (by omega)
  · unfold shL
    split
    · exact wordOk_dotN _ _
    · exact wordOk_showN h0 (by omega)
theorem wordOk_nameN {d : Nat} (hd : d < 6) : WordOk (nameN d) := by
  have : ∀ a : Fin 6, (TL.tl (nameN a.1)).all (fun c => decide (c ≠ 32 ∧ c ≠ 10 ∧ c ≠ 35)) = true ∧ (TL.tl (nameN a.1)).isEmpty = false := by decide +kernel
  exact wordOk_lit (this ⟨d, hd⟩).1 (this ⟨d, hd⟩).2
theorem wordOk_head {r : Rule} (h : HeadOk r) : ∀ w ∈ headW r, WordOk w := by
  intro w hw
  cases r with
  | word b wd =>
    rw [List.mem_singleton.mp hw]
    rcases h with rfl | rfl <;> exact wordOk_lit (by decide) (by decide)
  | back b =>
    rw [List.mem_singleton.mp hw]
    exact wordOk_lit (by decide) (by decide)
  | call b n =>
    simp [headW] at hw
    rcases hw with rfl | rfl
    · exact wordOk_lit (by decide) (by decide)
    · exact wordOk_name h
theorem wordOk_rule {sh : Nat → Int × Int → Str} (hs : IsSh sh) {r : Rule} (h : RuOk r) : ∀ w ∈ headW r ++ narWords (narOf sh r.box), WordOk w := by
  intro w hw
  rcases List.mem_append.mp hw with hw | hw
  · exact wordOk_head h.head w hw
  · obtain ⟨p, h1, h2⟩ := narW_mem hw
    obtain ⟨h3, h4, _⟩ := narTo_mem h1
    rcases h2 with rfl | rfl
    · exact wordOk_nameN h3
    · rw [h4]
      exact wordOk_sh hs h.box h3
theorem wordOk_par {pt : List Int} (h : PtOk pt) : ∀ w ∈ parW pt, WordOk w := by
  obtain ⟨a, b, c, d, e, f, rfl, ha, hb, hc, hd, he, hf⟩ := h.ex
  intro w hw
  simp [parW] at hw
  rcases hw with rfl | rfl | rfl | rfl | rfl | rfl
  · exact wordOk_num ha.1
  · exact wordOk_num hb.1
  · exact wordOk_dot c
  · exact wordOk_num hd.1
  · exact wordOk_dot e
  · exact wordOk_num hf.1
/-! ### rows of words -/
theorem joinL_mem {S : List Nat} {c : Nat} : ∀ {ps : List (List Nat)}, c ∈ joinL S ps → (∃ p ∈ ps, c ∈ p) ∨ c ∈ S
  | [], h => by cases h
  | [p], h => .inl ⟨p, List.mem_cons_self .., h⟩
  | p :: q :: r, h => by
    have h : c ∈ p ++ (S ++ joinL S (q :: r)) := h
    rcases List.mem_append.mp h with h | h
    · exact .inl ⟨p, List.mem_cons_self .., h⟩
    · rcases List.mem_append.mp h with h | h
      · exact .inr h
      · rcases joinL_mem h with ⟨x, h1, h2⟩ | h
        · exact .inl ⟨x, List.mem_cons_of_mem _ h1, h2⟩
        · exact .inr h
theorem join_mem {y : Str} {c : Nat} {ps : List Str} (h : c ∈ TL.tl (Txt.join y ps)) : (∃ p ∈ ps, c ∈ TL.tl p) ∨ c ∈ TL.tl y := by
  rw [join_eq, tl_join] at h
  rcases joinL_mem h with ⟨x, h1, h2⟩ | h
  · obtain ⟨p, h3, rfl⟩ := List.mem_map.mp h1
    exact .inl ⟨p, h3, h2⟩
  · exact .inr h
structure RowOf (z : Str) (ws : List Str) : Prop where
  line : LineOk z
  words : wordsS z = ws
  nl : 10 ∉ TL.tl z
theorem row_of {ws : List Str} (hne : ws ≠ []) (h : ∀ w ∈ ws, WordOk w) (hl : (Txt.join " " ws).length ≤ 1000000) (hc : ws.length ≤ 1000) : RowOf (Txt.join " " ws) ws := by
  have hs : Txt.split (Txt.join " " ws) " " = ws := split_join (s := 32) (S := []) rfl (by decide +kernel) hne fun p hp q => ((h p hp).cl 32 q).1 rfl
  refine ⟨⟨hl, fun q => ?_, by rw [hs]; omega⟩, ?_, fun q => ?_⟩
  · rcases join_mem q with ⟨p, h1, h2⟩ | q
    · exact ((h p h1).cl 35 h2).2.2 rfl
    · exact absurd q (by decide)
  · unfold wordsS
    rw [hs, List.filter_eq_self]
    intro w hw
    rw [decide_eq_false (h w hw).ne]
    rfl
  · rcases join_mem q with ⟨p, h1, h2⟩ | q
    · exact ((h p h1).cl 10 h2).2.1 rfl
    · exact absurd q (by decide)
theorem split_nl {z : Str} (h : 10 ∉ TL.tl z) : Txt.split z "\n" = [z] := by
  have e : Txt.join "\n" [z] = z := by rw [join_eq]; rfl
  have := split_join (y := "\n") (s := 10) (S := []) rfl (by decide +kernel) (parts := [z]) (by simp) fun p hp => by rw [List.mem_singleton.mp hp]; exact h
  rw [e] at this
  exact this
/-! ### a rule's words tell the rule -/
theorem look_fm {β : Type} (g : Nat → Option β) (d : Nat) : ∀ l : List Nat, l.Nodup → lookD (l.filterMap fun a => (g a).map fun x => (a, x)) d = if d ∈ l then g d else none
  | [], _ => by simp [lookD]
  | a :: l, nd => by
    rw [List.nodup_cons] at nd
    have ih := look_fm g d l nd.2
    rw [List.filterMap_cons]
    cases hg : g a with
    | none =>
      simp only [Option.map_none]
      rw [ih]
      by_cases e : d = a
      · subst e
        rw [if_neg nd.1, if_pos (List.mem_cons_self ..), hg]
      · by_cases hd : d ∈ l
        · rw [if_pos hd, if_pos (List.mem_cons_of_mem _ hd)]
        · rw [if_neg hd, if_neg fun q => (List.mem_cons.mp q).elim e hd]
    | some x =>
      simp only [Option.map_some]
      by_cases e : d = a
      · subst e
        rw [if_pos (List.mem_cons_self ..), hg]
        simp [lookD]
      · have e1 : lookD ((a, x) :: l.filterMap fun a => (g a).map fun x => (a, x)) d = lookD (l.filterMap fun a => (g a).map fun x => (a, x)) d := by
          have : ¬ a = d := fun z => e z.symm
          simp [lookD, this]
        rw [e1, ih]
        by_cases hd : d ∈ l
        · rw [if_pos hd, if_pos (List.mem_cons_of_mem _ hd)]
        · rw [if_neg hd, if_neg fun q => (List.mem_cons.mp q).elim e hd]
theorem narSt_of (sh : Nat → Int × Int → Str) (b : Box) {d : Nat} (hd : d < 6) : narSt (narOf sh b) d = b.getD d (0, topN d) := by
  unfold narSt narOf
  rw [List.map_filterMap]
  have e : (List.range 6).filterMap (fun a => (narAt sh b a).map fun p => (p.d, p.st)) = (List.range 6).filterMap fun a => (if b.getD a (0, topN a) = (0, topN a) then none else some (b.getD a (0, topN a))).map fun x => (a, x) := by
    congr 1
    funext a
    unfold narAt
    split <;> rfl
  rw [e, look_fm _ d _ List.nodup_range, if_pos (List.mem_range.mpr hd)]
  split
  · rename_i h
    rw [h]
    rfl
  · rfl
theorem boxOf_nar (sh : Nat → Int × Int → Str) {b : Box} (h : b.length = 6) : boxOf (narOf sh b) = b := by
  unfold boxOf
  have e : (List.range 6).map (narSt (narOf sh b)) = (List.range 6).map fun d => b.getD d (0, topN d) := List.map_congr_left fun d hd => narSt_of sh b (List.mem_range.mp hd)
  rw [e]
  match b, h with
  | [_, _, _, _, _, _], _ => rfl
theorem nar_nodup (sh : Nat → Int × Int → Str) (b : Box) : ((narOf sh b).map (·.d)).Nodup := by
  have : ∀ l : List Nat, ((l.filterMap (narAt sh b)).map (·.d)).Sublist l := by
    intro l
    induction l with
    | nil => exact List.Sublist.refl _
    | cons a l ih =>
      rw [List.filterMap_cons]
      unfold narAt
      split
      · rename_i h
        exact ih.cons a
      · rename_i p h
        split at h
        · cases h
        · cases h
          exact ih.cons_cons a
  exact (this (List.range 6)).nodup List.nodup_range
theorem ruleText {sh : Nat → Int × Int → Str} (hs : IsSh sh) {r : Rule} (h : RuOk r) : RuleText (headW r ++ narWords (narOf sh r.box)) r := by
  refine ⟨⟨narOf sh r.box, rfl, (boxOf_nar sh h.box.len).symm, nar_nodup sh r.box, fun p hp => ?_, ?_⟩, h.head⟩
  · obtain ⟨h1, h2, h3, _⟩ := narTo_mem hp
    obtain ⟨_, b0, b1, b2⟩ := box_get h.box h1
    have ht := topN_le h1
    rw [← h3] at h2 b0 b1 b2
    refine ⟨h1, ⟨b0, b1, b2⟩, fun ha => ?_, fun ha => ?_⟩
    · rw [h2]
      rcases hs with rfl | rfl
      · unfold shP
        rw [if_pos ha]
        exact showA_ok ⟨b0, by omega⟩ ⟨by omega, by omega⟩ b1
      · unfold shL dotN
        rw [if_pos ha]
        split
        · rename_i e
          exact .inl ⟨rfl, e⟩
        · exact .inr (.inl ⟨rfl, b1⟩)
    · rw [h2]
      rcases hs with rfl | rfl
      · unfold shP
        rw [if_neg ha]
      · unfold shL
        rw [if_neg ha]
  · have := List.length_filterMap_le (narAt sh r.box) (List.range 6)
    rw [List.length_range] at this
    exact this
theorem rowSh_len {sh : Nat → Int × Int → Str} (hs : IsSh sh) {r : Rule} (h : RuOk r) : (rowS sh r).length ≤ 1414 := by
  rcases hs with rfl | rfl
  · have := rowS_len h.box h.head
    omega
  · exact rowL_len h.box h.head
theorem row_rule {sh : Nat → Int × Int → Str} (hs : IsSh sh) {r : Rule} (h : RuOk r) : RowOf (rowS sh r) (headW r ++ narWords (narOf sh r.box)) := by
  refine row_of ?_ (wordOk_rule hs h) (by have := rowSh_len hs h; unfold rowS at this; omega) ?_
  · cases r <;> simp [headW]
  · have := List.length_filterMap_le (narAt sh r.box) (List.range 6)
    rw [List.length_range] at this
    have h2 := (headW_len h.head).1
    rw [List.length_append, narWords_len]
    unfold narOf
    omega
/-! ### a book's text tells the book -/
def lineOf (sh : Nat → Int × Int → Str) : Item → Str
  | .rule r => rowS sh r
  | .chain n => "chain " ++ n
def chIt (p : Str × List Rule) : List Item := (if p.1 = "main" then [] else [.chain p.1]) ++ p.2.map .rule
def itemsOf (chs : Chs) : List Item := chs.flatMap chIt
theorem chRows_it (sh : Nat → Int × Int → Str) (p : Str × List Rule) : chRows sh p = (chIt p).map (lineOf sh) := by
  unfold chRows chIt
  rw [List.map_append, List.map_map]
  congr 1
  split <;> rfl
theorem rows_it (sh : Nat → Int × Int → Str) (chs : Chs) : chs.flatMap (chRows sh) = (itemsOf chs).map (lineOf sh) := by
  unfold itemsOf
  rw [List.map_flatMap]
  congr 1
  funext p
  exact chRows_it sh p
theorem fold_rules : ∀ (rs : List Rule) (done : Chs) (n : Str) (rs0 : List Rule), (rs.map Item.rule).foldl addItem (done ++ [(n, rs0)]) = done ++ [(n, rs0 ++ rs)]
  | [], done, n, rs0 => by simp
  | r :: rs, done, n, rs0 => by
    rw [List.map_cons, List.foldl_cons, add_rule, fold_rules rs done n (rs0 ++ [r]), List.append_assoc]
    rfl
theorem j2 (a b : Str) : Txt.join " " [a, b] = a ++ " " ++ b := by rw [join_eq]; rfl
theorem j3 (a b c : Str) : Txt.join " " [a, b, c] = a ++ " " ++ (b ++ " " ++ c) := by rw [join_eq]; rfl
theorem app_assoc (a b c : Str) : a ++ b ++ c = a ++ (b ++ c) := ext_tl (by rw [tl_append, tl_append, tl_append, tl_append, List.append_assoc])
section
variable {b : Bool} {chs : Chs} {n d : Str} {rs rs2 : List Rule} {sh : Nat → Int × Int → Str}
theorem WData.flat (h : WData b chs n rs rs2) {α : Type} (f : Str × List Rule → List α) : chs.flatMap f = f (("main" : Str), rs) ++ (if b then f (n, rs2) else []) := by
  rw [h.eq]
  cases b <;> simp
theorem chIt_main (rs : List Rule) : chIt (("main" : Str), rs) = rs.map .rule := rfl
theorem chIt_ne {n : Str} (h : n ≠ "main") (rs : List Rule) : chIt (n, rs) = .chain n :: rs.map .rule := by
  unfold chIt
  rw [if_neg h]
  rfl
theorem WData.items (h : WData b chs n rs rs2) : itemsC (itemsOf chs) = chs := by
  unfold itemsC itemsOf
  rw [h.flat, chIt_main, chIt_ne h.nm.ne, List.foldl_append]
  have e := fold_rules rs [] "main" []
  rw [List.nil_append, List.nil_append, List.nil_append] at e
  rw [e, h.eq]
  cases b with
  | false => rfl
  | true =>
    have e2 := fold_rules rs2 [(("main" : Str), rs)] n []
    rw [List.nil_append] at e2
    show (rs2.map Item.rule).foldl addItem ([(("main" : Str), rs)] ++ [(n, [])]) = _
    rw [e2]
    rfl
theorem WData.itemOk (h : WData b chs n rs rs2) (hs : IsSh sh) {it : Item} (hi : it ∈ itemsOf chs) : LineOk (lineOf sh it) ∧ ItemText (wordsS (lineOf sh it)) it ∧ 10 ∉ TL.tl (lineOf sh it) ∧ (lineOf sh it).length ≤ 1500 := by
  unfold itemsOf at hi
  obtain ⟨p, h1, h2⟩ := List.mem_flatMap.mp hi
  unfold chIt at h2
  rcases List.mem_append.mp h2 with h2 | h2
  · split at h2
    · cases h2
    · rename_i hm
      rw [List.mem_singleton.mp h2]
      have hn : isName p.1 = true := by
        rcases h.mem h1 with rfl | ⟨rfl, _⟩
        · exact (hm rfl).elim
        · exact h.nm.nm
      have hl := isName_len hn
      have e : ("chain " : Str) ++ p.1 = Txt.join " " [("chain" : Str), p.1] := by rw [j2]; rfl
      have hlen : ("chain " ++ p.1 : Str).length ≤ 18 := by rw [len_app, show ("chain " : Str).length = 6 from rfl]; omega
      have hr : RowOf ("chain " ++ p.1) [("chain" : Str), p.1] := by
        rw [e]
        refine row_of (by simp) (fun w hw => ?_) (by rw [← e]; omega) (by simp)
        simp at hw
        rcases hw with rfl | rfl
        · exact wordOk_lit (by decide) (by decide)
        · exact wordOk_name hn
      exact ⟨hr.line, ⟨hr.words, hn⟩, hr.nl, Nat.le_trans hlen (by decide)⟩
  · obtain ⟨r, h3, rfl⟩ := List.mem_map.mp h2
    have hr := h.rule h1 h3
    have q := row_rule hs hr
    refine ⟨q.line, ?_, q.nl, Nat.le_trans (rowSh_len hs hr) (by decide)⟩
    show RuleText (wordsS (rowS sh r)) r
    rw [q.words]
    exact ruleText hs hr
theorem WData.itemsLen (h : WData b chs n rs rs2) : (itemsOf chs).length ≤ 6 := by
  unfold itemsOf
  rw [h.flat, chIt_main, chIt_ne h.nm.ne, List.length_append, List.length_map]
  have h1 := h.l1
  have h2 := h.l2
  split
  · rw [List.length_cons, List.length_map]
    omega
  · simp
    omega
theorem bookRows_eq (h : WData b chs n rs rs2) : bookRows sh d chs = ("default " ++ d) :: (itemsOf chs).map (lineOf sh) := by
  unfold bookRows
  rw [rows_it]
theorem WData.rowsOk (h : WData b chs n rs rs2) (hs : IsSh sh) (hd : d = "pass" ∨ d = "stop") : (∀ z ∈ bookRows sh d chs, 10 ∉ TL.tl z ∧ z.length ≤ 1500) ∧ (bookRows sh d chs).length ≤ 7 := by
  rw [bookRows_eq h]
  constructor
  · intro z hz
    rcases List.mem_cons.mp hz with rfl | hz
    · rcases hd with rfl | rfl <;> exact ⟨by decide, by decide⟩
    · obtain ⟨it, h1, rfl⟩ := List.mem_map.mp hz
      obtain ⟨_, _, q1, q2⟩ := h.itemOk hs h1
      exact ⟨q1, q2⟩
  · have := h.itemsLen
    rw [List.length_cons, List.length_map]
    omega
theorem WData.textLen (h : WData b chs n rs rs2) (hs : IsSh sh) (hd : d = "pass" ∨ d = "stop") : (bookS sh d chs).length ≤ 20000 := by
  obtain ⟨h1, h2⟩ := h.rowsOk hs hd
  have h3 := len_join (k := 1500) "\n" (bookRows sh d chs) fun z hz => (h1 z hz).2
  rw [show ("\n" : Str).length = 1 from rfl] at h3
  unfold bookS
  omega
theorem WData.text (h : WData b chs n rs rs2) (hs : IsSh sh) (hd : d = "pass" ∨ d = "stop") : BookText (bookS sh d chs) d (itemsOf chs) := by
  obtain ⟨h1, h2⟩ := h.rowsOk hs hd
  have hl := h.textLen hs hd
  have hil := h.itemsLen
  refine ⟨⟨"default " ++ d, (itemsOf chs).map (lineOf sh), ?_, ?_, ?_, List.length_map .., fun i l it e1 e2 => ?_⟩, hd, by omega, by omega⟩
  · rw [← bookRows_eq h]
    unfold bookS
    exact split_join (s := 10) (S := []) rfl (by decide +kernel) (by unfold bookRows; simp) fun z hz => (h1 z hz).1
  · have e : ("default " : Str) ++ d = Txt.join " " [("default" : Str), d] := by rw [j2]; rfl
    rw [e]
    refine (row_of (by simp) (fun w hw => ?_) ?_ (by simp)).line
    · simp at hw
      rcases hw with rfl | rfl
      · exact wordOk_lit (by decide) (by decide)
      · rcases hd with rfl | rfl <;> exact wordOk_lit (by decide) (by decide)
    · rw [← e]
      rcases hd with rfl | rfl <;> decide
  · have e : ("default " : Str) ++ d = Txt.join " " [("default" : Str), d] := by rw [j2]; rfl
    rw [e]
    refine (row_of (by simp) (fun w hw => ?_) ?_ (by simp)).words
    · simp at hw
      rcases hw with rfl | rfl
      · exact wordOk_lit (by decide) (by decide)
      · rcases hd with rfl | rfl <;> exact wordOk_lit (by decide) (by decide)
    · rw [← e]
      rcases hd with rfl | rfl <;> decide
  · rw [List.getElem?_map, e2] at e1
    cases e1
    obtain ⟨q1, q2, _⟩ := h.itemOk hs (List.mem_of_getElem? e2)
    exact ⟨q1, q2⟩
theorem WData.ltx (h : WData b chs n rs rs2) (hd : d = "pass" ∨ d = "stop") : LTx d chs :=
  ⟨fun p hp r hr => (h.rule hp hr).box, fun p hp r hr => (h.rule hp hr).head, fun p hp => by
    rcases h.mem hp with rfl | ⟨rfl, _⟩
    · exact (by decide : ("main" : Str).length ≤ 12)
    · exact isName_len h.nm.nm, by rcases hd with rfl | rfl <;> decide, by have := (h.rowsOk (sh := shL) (.inr rfl) hd).2; omega⟩
theorem WData.btx (h : WData b chs n rs rs2) (hd : d = "pass" ∨ d = "stop") : BookTx (bk d chs) :=
  ⟨fun p hp r hr => (h.rule hp hr).box, fun p hp r hr => (h.rule hp hr).head, fun p hp => by
    rcases h.mem hp with rfl | ⟨rfl, _⟩
    · exact (by decide : ("main" : Str).length ≤ 12)
    · exact isName_len h.nm.nm, by
      show d.length ≤ 4
      rcases hd with rfl | rfl <;> decide, by have := (h.rowsOk (sh := shP) (.inl rfl) hd).2; show (bookRows shP d chs).length ≤ 1000; omega, by have := h.ok.small; show chs.length ≤ 1000; omega, fun p hp => h.ok.smalls p hp⟩
theorem WData.rd (h : WData b chs n rs rs2) : RdOk chs := ⟨h.nodup, fun p hp r hr => (h.rule hp hr).box.len, fun p hp r hr => (h.rule hp hr).head⟩
end
end
section
open PySem PySem.Spec PyProof.Rows L2 TL
/-! ### the second book, near the first -/
def turnR : Rule → Rule
  | .word b w => .word b (turnW w)
  | r => r
structure NearOk (rs rs' : List Rule) : Prop where
  len : rs'.length ≤ rs.length
  rule : ∀ r ∈ rs', RuOk r
  call : ∀ x m, Rule.call x m ∈ rs' → Rule.call x m ∈ rs
  few : (rs'.filter isCallB).length ≤ (rs.filter isCallB).length
  cut : piR rs' ≤ piR rs
theorem WData.near {chs : Chs} {n : Str} {rs rs2 rs' : List Rule} (h : WData true chs n rs rs2) (k : NearOk rs rs') : WData true [(("main" : Str), rs'), (n, rs2)] n rs' rs2 :=
  ⟨h.nm, rfl, Nat.le_trans k.len h.l1, h.l2, k.rule, h.r2, fun x m q => h.c1 x m (k.call x m q), h.c2, Nat.le_trans k.few h.few, Nat.le_trans (Nat.mul_le_mul_right _ k.cut) h.cut⟩
theorem near_sub {rs rs' : List Rule} (h : ∀ r ∈ rs, RuOk r) (s : rs'.Sublist rs) : NearOk rs rs' :=
  ⟨s.length_le, fun r q => h r (s.subset q), fun x m q => s.subset q, (s.filter _).length_le, by
    induction s with
    | slnil => exact Nat.le_refl _
    | @cons a b r s ih => exact Nat.le_trans (ih fun r q => h r (List.mem_cons_of_mem _ q)) (show piR b ≤ (1 + 2 * narC r.box) * piR b from Nat.le_mul_of_pos_left _ (by omega))
    | @cons_cons a b r s ih => exact Nat.mul_le_mul_left _ (ih fun r q => h r (List.mem_cons_of_mem _ q))⟩
theorem near_perm {rs rs' : List Rule} (h : ∀ r ∈ rs, RuOk r) (s : rs'.Perm rs) : NearOk rs rs' :=
  ⟨Nat.le_of_eq s.length_eq, fun r q => h r (s.subset q), fun x m q => s.subset q, Nat.le_of_eq (s.filter _).length_eq, Nat.le_of_eq (by
    unfold piR
    exact (s.map _).prod_nat)⟩
theorem perm_last {rs : List Rule} {a : Nat} {r : Rule} (h : rs[a]? = some r) : (rs.take a ++ rs.drop (a + 1) ++ [r]).Perm rs := by
  have e : rs = rs.take a ++ r :: rs.drop (a + 1) := by
    conv => lhs; rw [← List.take_append_drop a rs, drop_cons h]
  conv => rhs; rw [e]
  rw [List.append_assoc]
  refine List.Perm.append_left _ ?_
  exact List.perm_append_comm (l₁ := rs.drop (a + 1)) (l₂ := [r])
theorem eRule_split (r : Rule) : ∃ z rest, eRule r = .tup (.str z :: rest) ∧ eRule (turnR r) = .tup (.str (turnW z) :: rest) := by
  cases r with
  | word b w => exact ⟨w, [eBox b], rfl, rfl⟩
  | back b => exact ⟨"back", [eBox b], rfl, rfl⟩
  | call b n => exact ⟨"call", [eBox b, .str n], rfl, rfl⟩
theorem turnR_box (r : Rule) : (turnR r).box = r.box := by cases r <;> rfl
theorem turnR_head {r : Rule} (h : HeadOk r) : HeadOk (turnR r) := by
  cases r with
  | word b w =>
    rcases h with rfl | rfl
    · exact .inr rfl
    · exact .inl rfl
  | back b => exact h
  | call b n => exact h
theorem near_set : ∀ {rs : List Rule} {a : Nat} {r : Rule}, (∀ r ∈ rs, RuOk r) → rs[a]? = some r → NearOk rs (rs.set a (turnR r))
  | [], _, _, _, h => by simp at h
  | r0 :: rs, 0, r, hk, h => by
    simp at h
    subst h
    have hr := hk _ (List.mem_cons_self ..)
    refine ⟨Nat.le_refl _, fun q hq => ?_, fun x m hq => ?_, ?_, ?_⟩
    · rcases List.mem_cons.mp hq with rfl | hq
      · exact ⟨by rw [turnR_box]; exact hr.box, turnR_head hr.head⟩
      · exact hk q (List.mem_cons_of_mem _ hq)
    · rcases List.mem_cons.mp hq with hq | hq
      · cases r0 with
        | word b w => cases hq
        | back b => cases hq
        | call b n =>
          cases hq
          exact List.mem_cons_self ..
      · exact List.mem_cons_of_mem _ hq
    · cases r0 <;> exact Nat.le_refl _
    · show (1 + 2 * narC (turnR r0).box) * piR rs ≤ (1 + 2 * narC r0.box) * piR rs
      rw [turnR_box]
      exact Nat.le_refl _
  | r0 :: rs, a + 1, r, hk, h => by
    have ih := near_set (fun q hq => hk q (List.mem_cons_of_mem _ hq)) (by simpa using h : rs[a]? = some r)
    show NearOk (r0 :: rs) (r0 :: rs.set a (turnR r))
    refine ⟨Nat.succ_le_succ ih.len, fun q hq => ?_, fun x m hq => ?_, ?_, Nat.mul_le_mul_left _ ih.cut⟩
    · rcases List.mem_cons.mp hq with rfl | hq
      · exact hk _ (List.mem_cons_self ..)
      · exact ih.rule q hq
    · rcases List.mem_cons.mp hq with hq | hq
      · rw [hq]
        exact List.mem_cons_self ..
      · exact List.mem_cons_of_mem _ (ih.call x m hq)
    · rw [List.filter_cons, List.filter_cons]
      have := ih.few
      split
      · exact Nat.succ_le_succ this
      · exact this
section
variable {P : Program} {w : World} {K : PySem.W.Frag} {mg : Str → Option Value} {base : Heap}
def sp_l_near (K : PySem.W.Frag) : Sp := Sp2 fun x y H Q => ∃ (chs : Chs) (c : Int), WCh true chs ∧ Dt K H x (.lst (chs.map eChT)) ∧ y = .int c ∧ ∀ v H' chs', Same H H' → WCh true chs' → Dt K H' v (.lst (chs'.map eChT)) → Q v H'
def sN_l_near : List Str := ["_law_chains_here", "_law_cell", "_law_rules", "_law_at"]
theorem sc_l_near : FnScope sN_l_near ["_law_chains_here", "_law_cell"] (defScope s_l_near) := ⟨rfl, rfl, rfl, by decide +kernel, rfl, by decide +kernel, by decide +kernel⟩

theorem ok_l_near (T : Tx K mg) : Fd P w K mg base 2 (He.ga K "_law_near") ["_law_chains_here", "_law_cell"] (sp_l_near K) := by
  have F_l_turned := ok_l_turned (P := P) (w := w) (base := base) T
  refine mkFd T.d_l_near sc_l_near (fun _ _ _ _ _ _ us hl => match us, hl with | [_, _], _ => rfl) (fun vs H Q E h => Sp2.len h) (fun cdv A outer s H vs Q E hr h => ?_)
  obtain ⟨x, y, rfl, chs, c, ⟨n, rs, rs2, hW⟩, hx, rfl, k⟩ := h
  have hx : Dt K H x (.lst [eChT (("main" : Str), rs), eChT (n, rs2)]) := by
    rw [hW.eq] at hx
    exact hx
  have hl1 := hW.l1
  refine ⟨_, (pss_cons (ps_set (i := 2) sc_l_near.nd rfl (.inl rfl) (pe_callTy cl_listOf (by rfl) T.b_list (by decide +kernel) (pa_cons (pe_ix ix_tup (pe_ix ix_list (pv 0) pe_int (fun _ _ => rfl)) pe_int (fun _ _ => rfl)) pa_nil)))
      (pss_cons (ps_if (pt_cmpR op_eq (pe_callB cl_lenQ (by rfl) T.b_len PySem.boot_len (pa_cons (pv 2) pa_nil)) pe_int (nomark _)) (pss_cons (ps_ret (pv 0))
      pss_nil) pss_nil)
      (pss_cons (ps_set (i := 3) sc_l_near.nd rfl (.inl rfl) (pe_op op_mod (pe_op op_fdiv (pv 1) pe_int) (pe_callB cl_lenQ (by rfl) T.b_len PySem.boot_len (pa_cons (pv 2) pa_nil))))
      (pss_cons (ps_if (pt_cmpR op_eq (pe_op op_mod (pv 1) pe_int) pe_int (nomark _)) (pss_cons (ps_set (i := 2) sc_l_near.nd rfl (.inl rfl) (pe_op op_catF (pe_fz (pe_slice sl_list (pv 2) po_none (po_some (pv 3)))) (pe_fz (pe_slice sl_list (pv 2) (po_some (pe_op op_add (pv 3) pe_int)) po_none))))
      pss_nil) pss_nil)
      (pss_cons (ps_if (pt_cmpR op_eq (pe_op op_mod (pv 1) pe_int) pe_int (nomark _)) (pss_cons (ps_asg (pe_op op_catA (pe_tup (pa_cons (pe_f F_l_turned (hr.mono (by omega)) (by rfl) T.g_l_turned (pa_cons (pe_ix ix_tup (pe_ix ix_list (pv 2) (pv 3) (fun _ _ => rfl)) pe_int (fun _ _ => rfl)) pa_nil)) pa_nil)) (pe_slice sl_tupA (pe_ix ix_list (pv 2) (pv 3) (fun _ _ => rfl)) (po_some pe_int) po_none)) (pg_sub (pv 2) (pv 3) set_list))
      pss_nil) pss_nil)
      (pss_cons (ps_if (pt_cmpR op_eq (pe_op op_mod (pv 1) pe_int) pe_int (nomark _)) (pss_cons (ps_set (i := 2) sc_l_near.nd rfl (.inl rfl) (pe_op op_catF (pe_fz (pe_op op_catF (pe_fz (pe_slice sl_list (pv 2) po_none (po_some (pv 3)))) (pe_fz (pe_slice sl_list (pv 2) (po_some (pe_op op_add (pv 3) pe_int)) po_none)))) (pe_fz (pe_lst (pa_cons (pe_ix ix_list (pv 2) (pv 3) (fun _ _ => rfl)) pa_nil)))))
      pss_nil) pss_nil)
      (pss_cons (ps_ret (pe_fz (pe_op op_catF (pe_fz (pe_lst (pa_cons (pe_tup (pa_cons pe_str (pa_cons (pe_fz (pv 2)) pa_nil))) pa_nil))) (pe_fz (pe_slice sl_list (pv 0) (po_some pe_int) po_none)))))
      pss_nil))))))), ?_⟩
  try dsimp only [cxOf, Cx.nox, Cx.wish]
  repeat walk_at "w"
  refine w_listO hu_ fun p H1 np s1 o1 => ?_
  repeat walk_at "w"
  refine w_lenO o1 ?_
  rw [List.length_map]
  repeat walk_at "w"
  by_cases h0 : rs.length = 0
  · rw [decide_eq_true (show ((rs.length : Nat) : Int) = 0 by omega)]
    repeat walk_at "w"
    exact k x H1 chs s1 ⟨n, rs, rs2, hW⟩ (by rw [hW.eq]; exact hx.up s1.ext)
  rw [decide_eq_false (show ¬ ((rs.length : Nat) : Int) = 0 by omega)]
  repeat walk_at "w"
  refine w_I ⟨by decide, by decide⟩ ?_
  repeat walk_at "w"
  refine w_lenO o1 ?_
  rw [List.length_map]
  refine w_I (show (0 : Int) < ((rs.length : Nat) : Int) by omega) ?_
  obtain ⟨a, ha, ea⟩ : ∃ a : Nat, a < rs.length ∧ c / 6 % ((rs.length : Nat) : Int) = (a : Nat) := by
    have h1 := Int.emod_nonneg (c / 6) (show ((rs.length : Nat) : Int) ≠ 0 by omega)
    have h2 := Int.emod_lt_of_pos (c / 6) (show (0 : Int) < (rs.length : Nat) by omega)
    exact ⟨(c / 6 % ((rs.length : Nat) : Int)).toNat, by omega, by omega⟩
  rw [ea]
  have hrg : rs[a]? = some (rs[a]'ha) := by simp
  have hrm := List.getElem_mem ha
  generalize rs[a]'ha = r at *
  have hrr := hW.r1 r hrm
  have hge : (rs.map eRule)[a]? = some (eRule r) := by rw [List.getElem?_map, hrg]; rfl
  repeat walk_at "w"
  generalize eN : tSeq (tRet (tFz _)) tNext = NX
  have key : ∀ (q : Addr) (H2 : Hp) (rs' : List Rule), H q = none → Same H H2 → Ow K H2 q (rs'.map eRule) → NearOk rs rs' → NX { nx := fun x H' => Q V.non H', rt := Q } [some x, some (.int c), some (.ref q), some (.int (a : Nat))] H2 := by
    intro q H2 rs' nq s2 o2 hn
    rw [← eN]
    repeat walk_at "w"
    refine w_outS o2 s2 nq fun H3 s3 hr => ?_
    repeat walk_at "w"
    walk_at "newT"
    intro u4 H4 s4 hu4
    repeat walk_at "w"
    walk_at "newF"
    intro u5 H5 s5 hu5
    repeat walk_at "w"
    refine sl_F (hx.up ((by walk_at "ext") : Ext H H5)) fun u6 H6 s6 hu6 => ?_
    rw [show (1 : Int) = ((1 : Nat) : Int) from rfl, cutL_from] at hu6
    refine catF (hu5.up s6.ext).ls hu6.ls (by simp) fun u7 H7 s7 hu7 => ?_
    exact k u7 H7 [(("main" : Str), rs'), (n, rs2)] (by walk_at "same") ⟨n, rs', rs2, hW.near hn⟩ hu7
  repeat walk_at "w"
  refine w_I (by decide) ?_
  repeat walk_at "w"
  by_cases e2 : c % 6 = 2
  · rw [decide_eq_true e2]
    repeat walk_at "w"
    refine sl_O o1 fun u1 H2 s2 hu1 => ?_
    rw [cutL_to] at hu1
    repeat walk_at "w"
    refine sl_O (o1.up s2) fun u2 H3 s3 hu2 => ?_
    rw [show (a : Int) + 1 = ((a + 1 : Nat) : Int) by omega, cutL_from] at hu2
    refine catO (hu1.up s3.ext).ls hu2.ls (by simp; omega) fun q H4 nq s4 o4 => ?_
    have nq0 : H q = none := Same.free ((by walk_at "same") : Same H H3) nq
    repeat walk_at "w"
    refine w_I (by decide) ?_
    repeat walk_at "w"
    rw [decide_eq_false (show ¬ c % 6 = 3 by omega)]
    repeat walk_at "w"
    refine w_I (by decide) ?_
    repeat walk_at "w"
    rw [decide_eq_false (show ¬ c % 6 = 4 by omega)]
    repeat walk_at "w"
    refine key q H4 (rs.take a ++ rs.drop (a + 1)) nq0 (by walk_at "same") (by rw [List.map_append, List.map_take, List.map_drop]; exact o4) (near_sub hW.r1 ?_)
    have e := List.take_append_drop a rs
    conv => rhs; rw [← e]
    refine List.Sublist.append_left ?_ _
    rw [drop_cons hrg]
    exact List.sublist_cons_self ..
  rw [decide_eq_false e2]
  repeat walk_at "w"
  refine w_I (by decide) ?_
  repeat walk_at "w"
  by_cases e3 : c % 6 = 3
  · rw [decide_eq_true e3]
    repeat walk_at "w"
    obtain ⟨wd, rest, he, het⟩ := eRule_split r
    rw [he] at hge
    refine w_ixO o1 (atI_nat hge) ?_
    refine At.of fun ur hur => ?_
    repeat walk_at "w"
    refine Sp1.mk ⟨wd, rfl, ?_⟩
    repeat walk_at "w"
    walk_at "newT"
    intro u3 H3 s3 hu3
    repeat walk_at "w"
    refine w_ixO (o1.up s3) (atI_nat hge) ?_
    refine At.of fun ur2 hur2 => ?_
    repeat walk_at "w"
    refine sl_T hur2 fun u4 H4 s4 hu4 => ?_
    rw [show (1 : Int) = ((1 : Nat) : Int) from rfl, cutL_from] at hu4
    refine catA (hu3.up s4.ext) hu4 ?_ fun u5 H5 s5 hu5 => ?_
    · have : (rest).length ≤ 10 := by
        have e := congrArg (fun d => match d with | D.tup ds => ds.length | _ => 0) he
        cases r <;> simp [eRule] at e <;> omega
      simp
      omega
    have hu5 : Dt K H5 u5 (eRule (turnR r)) := by
      rw [het]
      exact hu5
    repeat walk_at "w"
    refine w_setO (d := eRule (turnR r)) (j := a) (o1.up (by walk_at "same")) hu5 (by rw [List.length_map]; omega) fun H6 b6 x6 o6 => ?_
    repeat walk_at "w"
    refine w_I (by decide) ?_
    repeat walk_at "w"
    rw [decide_eq_false (show ¬ c % 6 = 4 by omega)]
    repeat walk_at "w"
    exact key p H6 (rs.set a (turnR r)) np (b6.same (by walk_at "same") np) (by rw [List.map_set]; exact o6) (near_set hW.r1 hrg)
  rw [decide_eq_false e3]
  repeat walk_at "w"
  refine w_I (by decide) ?_
  repeat walk_at "w"
  by_cases e4 : c % 6 = 4
  · rw [decide_eq_true e4]
    repeat walk_at "w"
    refine sl_O o1 fun u1 H2 s2 hu1 => ?_
    rw [cutL_to] at hu1
    repeat walk_at "w"
    refine sl_O (o1.up s2) fun u2 H3 s3 hu2 => ?_
    rw [show (a : Int) + 1 = ((a + 1 : Nat) : Int) by omega, cutL_from] at hu2
    refine catF (hu1.up s3.ext).ls hu2.ls (by simp; omega) fun u3 H4 s4 hu3 => ?_
    repeat walk_at "w"
    refine w_ixO (o1.up (by walk_at "same")) (atI_nat hge) ?_
    refine At.of fun ur hur => ?_
    repeat walk_at "w"
    walk_at "newF"
    intro u5 H5 s5 hu5
    refine catO (hu3.up s5.ext).ls hu5.ls (by simp; omega) fun q H6 nq s6 o6 => ?_
    have nq0 : H q = none := Same.free ((by walk_at "same") : Same H H5) nq
    repeat walk_at "w"
    exact key q H6 (rs.take a ++ rs.drop (a + 1) ++ [r]) nq0 (by walk_at "same") (by rw [List.map_append, List.map_append, List.map_take, List.map_drop]; exact o6) (near_perm hW.r1 (perm_last hrg))
  rw [decide_eq_false e4]
  repeat walk_at "w"
  exact key p H1 rs np s1 o1 (near_sub hW.r1 (List.Sublist.refl _))
end
end
section
open PySem PySem.Spec PyProof.Rows L2 TL
theorem pieces_pos : ∀ bs : List Box, 1 ≤ piecesL bs
  | [] => Nat.le_refl _
  | b :: bs => by
    have := pieces_pos bs
    show 1 ≤ (1 + 2 * narC b) * piecesL bs
    exact Nat.mul_pos (by omega) this
theorem pieces_sub {a b : List Box} (h : a.Sublist b) : piecesL a ≤ piecesL b := by
  induction h with
  | slnil => exact Nat.le_refl _
  | @cons a b r h ih => exact Nat.le_trans ih (show piecesL b ≤ (1 + 2 * narC r) * piecesL b from Nat.le_mul_of_pos_left _ (by omega))
  | @cons_cons a b r h ih => exact Nat.mul_le_mul_left _ ih
theorem pieces_app (a b : List Box) : piecesL (a ++ b) = piecesL a * piecesL b := by
  unfold piecesL
  rw [List.map_append, List.prod_append]
theorem CGen.w {bs : List Box} {k0 a b : Nat} {chs : Chs} (h : CGen bs k0 a b chs) (ha : a ≤ 3) (hb : b ≤ 2) (hx : ∀ c ∈ bs, BoxIn c every) (hp : piecesL bs ≤ 45) : WCh true chs := by
  obtain ⟨n, rs, rs2, hn, rfl, h1, h2⟩ := h.ex
  have l1 := congrArg List.length h1.box
  have l2 := congrArg List.length h2.box
  rw [List.length_map, List.length_take] at l1 l2
  refine ⟨n, rs, rs2, hn, rfl, by omega, by omega, fun r hr => ⟨?_, h1.head r hr⟩, fun r hr => ⟨?_, h2.head r hr⟩, fun x m q => ⟨(h1.calls x m q).1, rfl⟩, fun x m q => absurd (h2.calls x m q).2 (by decide), h1.few, ?_⟩
  · refine hx _ ?_
    have q : r.box ∈ rs.map Rule.box := List.mem_map.mpr ⟨r, hr, rfl⟩
    rw [h1.box] at q
    exact List.mem_of_mem_drop (List.mem_of_mem_take q)
  · refine hx _ ?_
    have q : r.box ∈ rs2.map Rule.box := List.mem_map.mpr ⟨r, hr, rfl⟩
    rw [h2.box] at q
    exact List.mem_of_mem_drop (List.mem_of_mem_take q)
  · rw [piR_box, piR_box, h1.box, h2.box, ← pieces_app]
    refine Nat.le_trans (pieces_sub ?_) hp
    have e : (bs.drop k0).take a ++ (bs.drop (k0 + a)).take b = (bs.drop k0).take (a + b) := by
      rw [List.take_add, List.drop_drop]
    rw [e]
    exact (List.take_sublist _ _).trans (List.drop_sublist _ _)
def DfOk (d : Str) : Prop := d = "pass" ∨ d = "stop"
section
variable {P : Program} {w : World} {K : PySem.W.Frag} {mg : Str → Option Value} {base : Heap}
abbrev eLb (d : Str) (chs : Chs) : D := .tup [.str d, .lst (chs.map eChT)]
theorem ps_get (c : Int) : ∃ d, DfOk d ∧ ([D.str "pass", D.str "stop"] : List D)[(c % 2).toNat]? = some (.str d) := by
  rcases (show (c % 2).toNat = 0 ∨ (c % 2).toNat = 1 by omega) with e | e
  · rw [e]
    exact ⟨"pass", .inl rfl, rfl⟩
  · rw [e]
    exact ⟨"stop", .inr rfl, rfl⟩
def sp_l_books (K : PySem.W.Frag) : Sp := Sp1 fun x H Q => ∃ (s : List Int), ScL K H x s ∧ ∀ v H' d1 d2 c1 c2, Same H H' → DfOk d1 → DfOk d2 → WCh true c1 → WCh true c2 → Dt K H' v (.lst [eLb d1 c1, eLb d2 c2]) → Q v H'
def sN_l_books : List Str := ["_law_script", "_law_shape", "_law_sizes", "_law_more", "_law_boxes_here", "_law_chains_here", "_law_default", "_law_cell", "_law_others"]
theorem sc_l_books : FnScope sN_l_books ["_law_script"] (defScope s_l_books) := ⟨rfl, rfl, rfl, by decide +kernel, rfl, by decide +kernel, by decide +kernel⟩

theorem ok_l_books (T : Tx K mg) : Fd P w K mg base 4 (He.ga K "_law_books") ["_law_script"] (sp_l_books K) := by
  have F_l_cell_at := ok_l_cell_at (P := P) (w := w) (base := base) T
  have F_l_boxes := ok_l_boxes (P := P) (w := w) (base := base) T
  have F_l_marks := ok_l_marks (P := P) (w := w) (base := base) T
  have F_l_chains := ok_l_chains (P := P) (w := w) (base := base) T
  have F_l_near := ok_l_near (P := P) (w := w) (base := base) T
  refine mkFd T.d_l_books sc_l_books (fun _ _ _ _ _ _ us hl => match us, hl with | [_], _ => rfl) (fun vs H Q E h => Sp1.len h) (fun cdv A outer s H vs Q E hr h => ?_)
  obtain ⟨x, rfl, s, hx, k⟩ := h
  refine ⟨_, (pss_cons (ps_set (i := 1) sc_l_books.nd rfl (.inl rfl) (pe_f F_l_cell_at (hr.mono (by omega)) (by rfl) T.g_l_cell_at (pa_cons (pv 0) (pa_cons pe_int pa_nil))))
      (pss_cons (ps_set (i := 2) sc_l_books.nd rfl (.inl rfl) (pe_fz (pe_lst (pa_cons (pe_op op_mod (pe_op op_fdiv (pv 1) pe_int) pe_int) (pa_cons (pe_op op_mod (pe_op op_fdiv (pv 1) pe_int) pe_int) pa_nil)))))
      (pss_cons (ps_set (i := 3) sc_l_books.nd rfl (.inl rfl) (pe_fz (pe_lst (pa_cons (pe_op op_mod (pe_op op_fdiv (pv 1) pe_int) pe_int) (pa_cons (pe_op op_mod (pe_op op_fdiv (pv 1) pe_int) pe_int) pa_nil)))))
      (pss_cons (ps_set (i := 4) sc_l_books.nd rfl (.inl rfl) (pe_f F_l_boxes (hr.mono (by omega)) (by rfl) T.g_l_boxes (pa_cons (pv 0) (pa_cons (pe_f F_l_marks (hr.mono (by omega)) (by rfl) T.g_l_marks (pa_cons (pv 0) pa_nil)) (pa_cons (pe_op op_add (pe_callB (cr_sum rfl) (by rfl) T.b_sum (by decide +kernel) (pa_cons (pv 2) pa_nil)) (pe_callB (cr_sum rfl) (by rfl) T.b_sum (by decide +kernel) (pa_cons (pv 3) pa_nil))) pa_nil)))))
      (pss_cons (ps_set (i := 5) sc_l_books.nd rfl (.inl rfl) (pe_f F_l_chains (hr.mono (by omega)) (by rfl) T.g_l_chains (pa_cons (pv 0) (pa_cons (pv 2) (pa_cons (pv 4) (pa_cons pe_int pa_nil))))))
      (pss_cons (ps_set (i := 6) sc_l_books.nd rfl (.inl rfl) (pe_ix ix_list (pe_fz (pe_lst (pa_cons pe_str (pa_cons pe_str pa_nil)))) (pe_op op_mod (pv 1) pe_int) (fun _ _ => rfl)))
      (pss_cons (ps_set (i := 7) sc_l_books.nd rfl (.inl rfl) (pe_f F_l_cell_at (hr.mono (by omega)) (by rfl) T.g_l_cell_at (pa_cons (pv 0) (pa_cons pe_int pa_nil))))
      (pss_cons (ps_if (pt_cmpR op_gt (pe_op op_mod (pv 7) pe_int) pe_int (nomark _)) (pss_cons (ps_ret (pe_fz (pe_lst (pa_cons (pe_tup (pa_cons (pv 6) (pa_cons (pv 5) pa_nil))) (pa_cons (pe_tup (pa_cons (pv 6) (pa_cons (pe_f F_l_near (hr.mono (by omega)) (by rfl) T.g_l_near (pa_cons (pv 5) (pa_cons (pv 7) pa_nil))) pa_nil))) pa_nil)))))
      pss_nil) pss_nil)
      (pss_cons (ps_set (i := 8) sc_l_books.nd rfl (.inl rfl) (pe_f F_l_chains (hr.mono (by omega)) (by rfl) T.g_l_chains (pa_cons (pv 0) (pa_cons (pv 3) (pa_cons (pv 4) (pa_cons (pe_callB (cr_sum rfl) (by rfl) T.b_sum (by decide +kernel) (pa_cons (pv 2) pa_nil)) pa_nil))))))
      (pss_cons (ps_ret (pe_fz (pe_lst (pa_cons (pe_tup (pa_cons (pv 6) (pa_cons (pv 5) pa_nil))) (pa_cons (pe_tup (pa_cons (pe_ix ix_list (pe_fz (pe_lst (pa_cons pe_str (pa_cons pe_str pa_nil)))) (pe_op op_mod (pe_op op_fdiv (pv 7) pe_int) pe_int) (fun _ _ => rfl)) (pa_cons (pv 8) pa_nil))) pa_nil)))))
      pss_nil)))))))))), ?_⟩
  try dsimp only [cxOf, Cx.nox, Cx.wish]
  repeat walk_at "w"
  refine Sp2.mk ⟨s, 0, by omega, hx, rfl, ?_⟩
  generalize cellAt s 0 = sh
  obtain ⟨a, ha, ea⟩ : ∃ a : Nat, a ≤ 3 ∧ sh / 2 % 4 = (a : Nat) := ⟨(sh / 2 % 4).toNat, by omega, by omega⟩
  obtain ⟨b, hb, eb⟩ : ∃ a : Nat, a ≤ 2 ∧ sh / 8 % 3 = (a : Nat) := ⟨(sh / 8 % 3).toNat, by omega, by omega⟩
  obtain ⟨a2, ha2, ea2⟩ : ∃ a : Nat, a ≤ 3 ∧ sh / 24 % 4 = (a : Nat) := ⟨(sh / 24 % 4).toNat, by omega, by omega⟩
  obtain ⟨b2, hb2, eb2⟩ : ∃ a : Nat, a ≤ 2 ∧ sh / 96 % 3 = (a : Nat) := ⟨(sh / 96 % 3).toNat, by omega, by omega⟩
  repeat walk_at "w"
  refine w_I ⟨by decide, by decide⟩ ?_
  repeat walk_at "w"
  refine w_I (by decide) ?_
  repeat walk_at "w"
  refine w_I ⟨by decide, by decide⟩ ?_
  repeat walk_at "w"
  refine w_I (by decide) ?_
  rw [ea, eb]
  repeat walk_at "w"
  walk_at "newF"
  intro v1 H1 s1 hv1
  repeat walk_at "w"
  refine w_I ⟨by decide, by decide⟩ ?_
  repeat walk_at "w"
  refine w_I (by decide) ?_
  repeat walk_at "w"
  refine w_I ⟨by decide, by decide⟩ ?_
  repeat walk_at "w"
  refine w_I (by decide) ?_
  rw [ea2, eb2]
  repeat walk_at "w"
  walk_at "newF"
  intro v2 H2 s2 hv2
  repeat walk_at "w"
  refine Sp1.mk ⟨s, hx.up (by walk_at "ext"), fun v3 H3 s3 hv3 => ?_⟩
  repeat walk_at "w"
  refine w_sum (ns := [(a : Int), (b : Int)]) (hv1.up (by walk_at "ext")) ?_
  repeat walk_at "w"
  refine w_sum (ns := [(a2 : Int), (b2 : Int)]) (hv2.up (by walk_at "ext")) ?_
  repeat walk_at "w"
  refine Sp3.mk ⟨s, a + b + (a2 + b2), by omega, hx.up (by walk_at "ext"), hv3, by simp, fun v4 H4 bs s4 hbl hbx hbp hv4 => ?_⟩
  repeat walk_at "w"
  refine Sp4.mk ⟨s, a, b, 0, bs, ha, hb, by omega, hbx, hx.up (by walk_at "ext"), hv1.up (by walk_at "ext"), hv4, rfl, fun v5 H5 c1 s5 hc1 hv5 => ?_⟩
  have hw1 := hc1.w ha hb hbx hbp
  repeat walk_at "w"
  walk_at "newF"
  intro v6 H6 s6 hv6
  obtain ⟨d1, hd1, hg1⟩ := ps_get sh
  repeat walk_at "w"
  refine w_I (by decide) ?_
  rw [show sh % 2 = ((sh % 2).toNat : Int) by omega]
  refine w_ixL hv6 (atI_nat hg1) ?_
  repeat walk_at "w"
  refine Sp2.mk ⟨s, 28, by omega, hx.up (by walk_at "ext"), rfl, ?_⟩
  generalize cellAt s 28 = c
  repeat walk_at "w"
  refine w_I (by decide) ?_
  repeat walk_at "w"
  by_cases h6 : c % 6 > 1
  · rw [decide_eq_true h6]
    repeat walk_at "w"
    walk_at "newT"
    intro v7 H7 s7 hv7
    repeat walk_at "w"
    refine Sp2.mk ⟨c1, c, hw1, hv5.up (by walk_at "ext"), rfl, fun v8 H8 c2 s8 hw2 hv8 => ?_⟩
    repeat walk_at "w"
    walk_at "newT"
    intro v9 H9 s9 hv9
    repeat walk_at "w"
    walk_at "newF"
    intro v10 H10 s10 hv10
    exact k _ _ d1 d1 c1 c2 (by walk_at "same") hd1 hd1 hw1 hw2 hv10
  · rw [decide_eq_false h6]
    repeat walk_at "w"
    refine w_sum (ns := [(a : Int), (b : Int)]) (hv1.up (by walk_at "ext")) ?_
    repeat walk_at "w"
    refine Sp4.mk ⟨s, a2, b2, a + b, bs, ha2, hb2, by omega, hbx, hx.up (by walk_at "ext"), hv2.up (by walk_at "ext"), hv4.up (by walk_at "ext"), by simp, fun v7 H7 c2 s7 hc2 hv7 => ?_⟩
    have hw2 := hc2.w ha2 hb2 hbx hbp
    repeat walk_at "w"
    walk_at "newT"
    intro v8 H8 s8 hv8
    repeat walk_at "w"
    walk_at "newF"
    intro v9 H9 s9 hv9
    obtain ⟨d2, hd2, hg2⟩ := ps_get (c / 6)
    repeat walk_at "w"
    refine w_I ⟨by decide, by decide⟩ ?_
    repeat walk_at "w"
    refine w_I (by decide) ?_
    rw [show c / 6 % 2 = ((c / 6 % 2).toNat : Int) by omega]
    refine w_ixL hv9 (atI_nat hg2) ?_
    repeat walk_at "w"
    walk_at "newT"
    intro v10 H10 s10 hv10
    repeat walk_at "w"
    walk_at "newF"
    intro v11 H11 s11 hv11
    exact k _ _ d1 d2 c1 c2 (by walk_at "same") hd1 hd2 hw1 hw2 hv11
end
end
section
open PySem PySem.Spec PyProof.Rows L2 TL
theorem digits_snoc (l : List Nat) (c : Nat) : NumText.digitsVal (l ++ [c]) = NumText.digitsVal l * 10 + (c - 48) := by
  unfold NumText.digitsVal
  rw [List.foldl_append]
  rfl
theorem occ_fig {c : Nat} (h : 48 ≤ c ∧ c ≤ 57) : Builtin.Str.occurrences ("0123456789" : Str) ⟨#[c]⟩ 0 ("0123456789" : Str).length 1 = [c - 48] := by
  have : ∀ j : Fin 10, Builtin.Str.occurrences ("0123456789" : Str) ⟨#[48 + j.1]⟩ 0 ("0123456789" : Str).length 1 = [j.1] := by decide +kernel
  have h2 := this ⟨c - 48, by omega⟩
  rw [show 48 + (c - 48) = c by omega] at h2
  exact h2
/-- the parts of a number as it is shown -/
def dotsW (d : Nat) (n : Int) : List Int := if isAd d then parts4 n else [n]
theorem dotsW_nn {d : Nat} {n m : Int} (h : 0 ≤ n) (hm : m ∈ dotsW d n) : 0 ≤ m := by
  unfold dotsW at hm
  split at hm
  · exact (parts4_in hm).1
  · rw [List.mem_singleton.mp hm]
    exact h
theorem split_shown {d : Nat} {n : Int} (h : 0 ≤ n) : Txt.split (shownS d n) "." = (dotsW d n).map numS := by
  unfold shownS dotsW
  split
  · exact split_dot n
  · have e : Txt.join "." [numS n] = numS n := by rw [join_eq]; rfl
    have := split_join (y := ".") (s := 46) (S := []) rfl (by decide +kernel) (parts := [numS n]) (by simp) fun p hp => by
      rw [List.mem_singleton.mp hp]
      exact numS_free h (.inl (by decide))
    rw [e] at this
    exact this
def valD (l : List Int) : Int := l.foldl (fun a m => a * 256 + m) 0
theorem valD_snoc (l : List Int) (m : Int) : valD (l ++ [m]) = valD l * 256 + m := by
  unfold valD
  rw [List.foldl_append]
  rfl
theorem valD_dots {d : Nat} {n : Int} (hd : d < 6) (h0 : 0 ≤ n) (h1 : n ≤ topN d) : valD (dotsW d n) = n := by
  have ht := topN_le hd
  unfold dotsW
  split
  · show (((0 * 256 + n / 16777216 % 256) * 256 + n / 65536 % 256) * 256 + n / 256 % 256) * 256 + n % 256 = n
    omega
  · show 0 * 256 + n = n
    omega
theorem parS_len {pt : List Int} (h : PtOk pt) : (parS pt).length ≤ 1000 := by
  have h1 := len_join (k := 44) " " (parW pt) (parW_len h)
  rw [show (" " : Str).length = 1 from rfl] at h1
  have h2 : (parW pt).length = 6 := by
    rw [← parW_eq h]
    simp
  unfold parS
  omega
theorem split_par {pt : List Int} (h : PtOk pt) : Txt.split (parS pt) " " = parW pt := by
  refine split_join (s := 32) (S := []) rfl (by decide +kernel) ?_ fun p hp => ?_
  · rw [← parW_eq h]
    simp
  · obtain ⟨a, b, c, d, e, f, rfl, ha, hb, hc, hd, he, hf⟩ := h.ex
    simp [parW] at hp
    rcases hp with rfl | rfl | rfl | rfl | rfl | rfl
    · exact numS_free ha.1 (.inl (by decide))
    · exact numS_free hb.1 (.inl (by decide))
    · exact dotS_free ⟨.inl (by decide), by decide⟩
    · exact numS_free hd.1 (.inl (by decide))
    · exact dotS_free ⟨.inl (by decide), by decide⟩
    · exact numS_free hf.1 (.inl (by decide))
section
variable {P : Program} {w : World} {K : PySem.W.Frag} {mg : Str → Option Value} {base : Heap}
def sp_l_number (K : PySem.W.Frag) : Sp := Sp1 fun x H Q => ∃ (n : Int), 0 ≤ n ∧ x = .str (numS n) ∧ ∀ H', Same H H' → Q (.int n) H'
def sN_l_number : List Str := ["_law_word_here", "_law_number_here", "_law_sign"]
theorem sc_l_number : FnScope sN_l_number ["_law_word_here"] (defScope s_l_number) := ⟨rfl, rfl, rfl, by decide +kernel, rfl, by decide +kernel, by decide +kernel⟩

theorem ok_l_number (T : Tx K mg) : Fd P w K mg base 1 (He.ga K "_law_number") ["_law_word_here"] (sp_l_number K) := by
  refine mkFd T.d_l_number sc_l_number (fun _ _ _ _ _ _ us hl => match us, hl with | [_], _ => rfl) (fun vs H Q E h => Sp1.len h) (fun cdv A outer s H vs Q E hr h => ?_)
  obtain ⟨x, rfl, n, h0, rfl, k⟩ := h
  obtain ⟨m, rfl⟩ : ∃ m : Nat, n = m := ⟨n.toNat, by omega⟩
  refine ⟨_, (pss_cons (ps_set (i := 1) sc_l_number.nd rfl (.inl rfl) pe_int)
      (pss_cons (ps_for PassesOwn.never rfl (pi_str (pv 0)) (pg_name (i := 2) sc_l_number.nd rfl (.inl rfl)) (pss_cons (ps_if (pt_cmpR op_notInS (pv 2) pe_str (by rfl)) (pss_cons (ps_ret (pe_un un_neg pe_int))
      pss_nil) pss_nil)
      (pss_cons (ps_set (i := 1) sc_l_number.nd rfl (.inl rfl) (pe_op op_add (pe_op op_mul (pv 1) pe_int) (pe_bm PySem.F.plainAttrs_str PySem.F.slot_str_index PySem.F.type_str_index cm_sx pe_str (pa_cons (pv 2) pa_nil))))
      pss_nil)))
      (pss_cons (ps_ret (pv 1))
      pss_nil))), ?_⟩
  try dsimp only [cxOf, Cx.nox, Cx.wish]
  repeat walk_at "w"
  refine i_str (K := K) fun J it => ?_
  have htl : (numS (m : Nat)).cps.toList = numL m := tl_numS m
  rw [htl] at it
  refine f_for it (fun i σ H' => ∃ e, σ = [some (.str (numS (m : Nat))), some (.int ((NumText.digitsVal ((numL m).take i) : Nat) : Int)), e] ∧ Same H H') ⟨_, rfl, Same.refl _⟩ (fun _ _ _ _ => trivial) ?_ ?_
  · rintro i d u σ H' H2 e1 ⟨_, rfl, s2⟩ s3 hu
    rw [List.getElem?_map, Option.map_eq_some_iff] at e1
    obtain ⟨c, e1, rfl⟩ := e1
    cases hu
    have hd := numL_digits m c (List.mem_of_getElem? e1)
    have et : (numL m).take (i + 1) = (numL m).take i ++ [c] := by
      rw [List.take_succ, e1]
      rfl
    repeat walk_at "w"
    rw [in_figs hd]
    repeat walk_at "w"
    refine w_I (.inr ⟨by decide, by decide⟩) ?_
    repeat walk_at "w"
    refine ⟨rfl, ?_⟩
    repeat walk_at "w"
    refine ⟨_, _, c - 48, [], rfl, rfl, occ_fig hd, ?_⟩
    repeat walk_at "w"
    refine ⟨some (.str ⟨#[c]⟩), ?_, (by walk_at "same")⟩
    rw [et, digits_snoc]
    push_cast
    rfl
  · rintro σ H' ⟨_, rfl, s2⟩
    rw [List.length_map, List.take_length, numL_val]
    repeat walk_at "w"
    exact k H' s2
def sp_l_parsed (K : PySem.W.Frag) : Sp := Sp1 fun x H Q => ∃ (pt : List Int), PtOk pt ∧ x = .str (parS pt) ∧ ∀ v H', Same H H' → Dt K H' v (eInts pt) → Q v H'
def sN_l_parsed : List Str := ["_law_answer", "_law_words_here", "_law_parcel_here", "_law_d", "_law_number_here", "_law_part"]
theorem sc_l_parsed : FnScope sN_l_parsed ["_law_answer"] (defScope s_l_parsed) := ⟨rfl, rfl, rfl, by decide +kernel, rfl, by decide +kernel, by decide +kernel⟩

theorem ok_l_parsed (T : Tx K mg) : Fd P w K mg base 3 (He.ga K "_law_parsed") ["_law_answer"] (sp_l_parsed K) := by
  have F_l_number := ok_l_number (P := P) (w := w) (base := base) T
  have F_l_shown := ok_l_shown (P := P) (w := w) (base := base) T
  refine mkFd T.d_l_parsed sc_l_parsed (fun _ _ _ _ _ _ us hl => match us, hl with | [_], _ => rfl) (fun vs H Q E h => Sp1.len h) (fun cdv A outer s H vs Q E hr h => ?_)
  obtain ⟨x, rfl, pt, hpt, rfl, k⟩ := h
  have hpl := parS_len hpt
  have hwl : (parW pt).length = 6 := by
    rw [← parW_eq hpt]
    simp
  have hp6 : pt.length = 6 := by
    obtain ⟨_, _, _, _, _, _, rfl, _⟩ := hpt.ex
    rfl
  refine ⟨_, (pss_cons (ps_set (i := 1) sc_l_parsed.nd rfl (.inl rfl) (pe_fz (pe_splitR (pv 0) pe_str)))
      (pss_cons (ps_if (pt_cmpR op_ne (pe_callB cl_lenQ (by rfl) T.b_len PySem.boot_len (pa_cons (pv 1) pa_nil)) pe_int (nomark _)) (pss_cons (ps_ret pe_non)
      pss_nil) pss_nil)
      (pss_cons (ps_set (i := 2) sc_l_parsed.nd rfl (.inr rfl) (pe_lst pa_nil))
      (pss_cons (ps_for PassesOwn.never rfl (pi_range1 (by rfl) T.b_range (pa_cons pe_int pa_nil)) (pg_name (i := 3) sc_l_parsed.nd rfl (.inl rfl)) (pss_cons (ps_set (i := 4) sc_l_parsed.nd rfl (.inl rfl) pe_int)
      (pss_cons (ps_for PassesOwn.never rfl (pi_list (pe_fz (pe_splitR (pe_ix ix_list (pv 1) (pv 3) (fun _ _ => rfl)) pe_str))) (pg_name (i := 5) sc_l_parsed.nd rfl (.inl rfl)) (pss_cons (ps_set (i := 4) sc_l_parsed.nd rfl (.inl rfl) (pe_op op_add (pe_op op_mul (pv 4) pe_int) (pe_f F_l_number (hr.mono (by omega)) (by rfl) T.g_l_number (pa_cons (pv 5) pa_nil))))
      pss_nil))
      (pss_cons (ps_expr (pe_bm PySem.F.plainAttrs_list PySem.F.slot_list_append PySem.F.type_list_append mt_append (pv 2) (pa_cons (pv 4) pa_nil)))
      pss_nil))))
      (pss_cons (ps_if (pt_cmpR op_ne (pe_joinR pe_str (pe_fz (pe_lc (own := [("_law_d", 3)]) rfl sc_l_parsed.nd (pi_range1 (by rfl) T.b_range (pa_cons pe_int pa_nil)) (blkOk_by (own := [("_law_d", 3)]) (N := sN_l_parsed) (sc := defScope s_l_parsed) (by decide +kernel)) (fun _ _ _ _ _ => (pg_name (i := 3) sc_l_parsed.nd rfl (.inl rfl))) (fun _ _ _ _ _ => pts_nil) (fun _ _ _ _ _ => (pe_f F_l_shown (hr.mono (by omega)) (by rfl) T.g_l_shown (pa_cons (pv 3) (pa_cons (pe_ix (show IxR _ (rIxL K) from ix_list) (pv 2) (pv 3) (fun _ _ => rfl)) pa_nil))))))) (pv 0) (nomark _)) (pss_cons (ps_ret pe_non)
      pss_nil) pss_nil)
      (pss_cons (ps_ret (pe_callTy cl_tupOf (by rfl) T.b_tuple (by decide +kernel) (pa_cons (pv 2) pa_nil)))
      pss_nil)))))), ?_⟩
  try dsimp only [cxOf, Cx.nox, Cx.wish]
  repeat walk_at "w"
  refine s_split (K := K) rfl (by omega) fun u H1 s1 hu => ?_
  rw [split_par hpt] at hu
  repeat walk_at "w"
  refine w_lenL hu ?_
  rw [List.length_map, hwl]
  repeat walk_at "w"
  rw [show decide (((6 : Nat) : Int) = 6) = true by decide]
  repeat walk_at "w"
  walk_at "newO"
  intro p H2 np s2 o2
  have np0 : H p = none := Same.free s1 np
  repeat walk_at "w"
  refine i_rng (K := K) 6 rfl (by decide) fun J it => ?_
  refine f_for it (fun i σ H' => ∃ e3 e4 e5, σ = [some (.str (parS pt)), some u, some (.ref p), e3, e4, e5] ∧ Same H1 H' ∧ Ow K H' p ((pt.take i).map D.int)) ⟨_, _, _, rfl, s2, by simpa using o2⟩ (fun _ _ _ _ => trivial) ?_ ?_
  · rintro i d u3 σ H' H3 e1 ⟨_, _, _, rfl, s3, o3⟩ s4 hu3
    obtain ⟨hi, rfl⟩ := numD_get e1
    cases hu3
    obtain ⟨g0, g1, g2⟩ := pt_get hpt hi
    have hwg : ((parW pt).map D.str)[i]? = some (.str (shownS i (pt.getD i 0))) := by
      rw [← parW_eq hpt]
      simp [hi]
    have et : pt.take (i + 1) = pt.take i ++ [pt.getD i 0] := by
      rw [List.take_succ, g0]
      rfl
    have hv := valD_dots hi g1 g2
    have hsl := shown_len hi g1 g2
    generalize pt.getD i 0 = n at *
    repeat walk_at "w"
    refine s_split (K := K) rfl (by omega) fun u4 H4 s5 hu4 => ?_
    rw [split_shown g1] at hu4
    repeat walk_at "w"
    refine i_list hu4 (Ext.refl _) fun J2 it2 => ?_
    refine f_for it2 (fun j σ H' => ∃ e5, σ = [some (.str (parS pt)), some u, some (.ref p), some (.int (i : Nat)), some (.int (valD ((dotsW i n).take j))), e5] ∧ Same H4 H') ⟨_, rfl, Same.refl _⟩ (fun j σ H' ⟨_, _, s⟩ => s.ext) ?_ ?_
    · rintro j d u5 σ' H'' H5 e2 ⟨_, rfl, s6⟩ s7 hu5
      rw [List.getElem?_map, Option.map_eq_some_iff] at e2
      obtain ⟨z, e2, rfl⟩ := e2
      rw [List.getElem?_map, Option.map_eq_some_iff] at e2
      obtain ⟨m, e2, rfl⟩ := e2
      cases hu5
      have hm := dotsW_nn g1 (List.mem_of_getElem? e2)
      have et2 : (dotsW i n).take (j + 1) = (dotsW i n).take j ++ [m] := by
        rw [List.take_succ, e2]
        rfl
      repeat walk_at "w"
      refine w_I (.inr ⟨by decide, by decide⟩) ?_
      repeat walk_at "w"
      refine Sp1.mk ⟨m, hm, rfl, fun H6 s8 => ?_⟩
      repeat walk_at "w"
      refine ⟨some (.str (numS m)), ?_, (by walk_at "same")⟩
      rw [et2, valD_snoc]
      rfl
    · rintro σ' H'' ⟨_, rfl, s6⟩
      rw [List.length_map, List.length_map, List.take_length, hv]
      have o6 := o3.up ((by walk_at "same") : Same H' H'')
      repeat walk_at "w"
      refine w_tyO o6 ?_
      repeat walk_at "w"
      refine w_appS (d := .int n) o6 (.int _) (by rw [List.length_map, List.length_take]; omega) (Hb := H1) (by walk_at "same") np fun H7 b7 x7 s7 o7 => ?_
      repeat walk_at "w"
      exact ⟨_, _, _, rfl, s7, by rw [et, List.map_append]; exact o7⟩
  · rintro σ H' ⟨_, _, _, rfl, s3, o3⟩
    rw [numD_len, List.take_of_length_le (by omega)] at o3
    repeat walk_at "w"
    refine i_rng (K := K) 6 rfl (by decide) fun J2 it2 => ?_
    refine f_lc (l := List.range 6) (emb := fun (i : Nat) => D.int (i : Nat)) it2 (fun (d : Nat) => some (.str (shownS d (pt.getD d 0)))) (by simp) (fun _ _ => trivial) (fun i d u2 H'' Y N e s4 hu2 hY hN => ?_) fun p2 H3 xs np2 s4 hp2 r2 => ?_
    · have hd : d < 6 := by
        have := List.mem_of_getElem? e
        simpa using this
      cases hu2
      obtain ⟨g0, g1, g2⟩ := pt_get hpt hd
      have q4 : (pt.map D.int)[d]? = some (.int (pt.getD d 0)) := by rw [List.getElem?_map, g0]; rfl
      repeat walk_at "w"
      refine ⟨rfl, ?_⟩
      repeat walk_at "w"
      refine w_ixO (o3.up s4) (atI_nat q4) ?_
      repeat walk_at "w"
      refine Sp2.mk ⟨d, _, hd, g1, g2, rfl, rfl, fun H2 s2 => ?_⟩
      exact hY _ _ _ rfl s2 (.str _)
    · refine lcF np2 s4 hp2 r2 fun u3 H4 s5 hu3 => ?_
      rw [show (List.range 6).filterMap (fun (d : Nat) => some (D.str (shownS d (pt.getD d 0)))) = (parW pt).map D.str by rw [← parW_eq hpt, List.map_map]; simp [Function.comp_def]] at hu3
      refine s_join (Dt.ls hu3) (sum_bound (k := 44) (n := 6) (parW_len hpt) (by omega) _ rfl (by decide)) ?_
      repeat walk_at "w"
      rw [decide_eq_true (show Txt.join " " (parW pt) = parS pt from rfl)]
      repeat walk_at "w"
      refine w_tupO (o3.up s5) fun u5 H5 s6 hu5 => ?_
      exact k _ _ (by walk_at "same") hu5
end
end
section
open PySem PySem.Spec PyProof.Rows L2 TL
section
variable {P : Program} {w : World} {K : PySem.W.Frag} {mg : Str → Option Value} {base : Heap}
def sp_l_word (K : PySem.W.Frag) : Sp := Sp2 fun x y H Q => ∃ (d : Str) (chs : Chs) (pt : List Int), WCh true chs ∧ pt.length = 6 ∧ Dt K H x (eLb d chs) ∧ Dt K H y (eInts pt) ∧ ∀ H', Same H H' → Q (.str (wordB 2 (bk d chs) pt)) H'
def sN_l_word : List Str := ["_law_book", "_law_parcel_here", "_law_word_here"]
theorem sc_l_word : FnScope sN_l_word ["_law_book", "_law_parcel_here"] (defScope s_l_word) := ⟨rfl, rfl, rfl, by decide +kernel, rfl, by decide +kernel, by decide +kernel⟩

theorem ok_l_word (T : Tx K mg) : Fd P w K mg base 4 (He.ga K "_law_word") ["_law_book", "_law_parcel_here"] (sp_l_word K) := by
  have F_l_read := ok_l_read (P := P) (w := w) (base := base) T
  refine mkFd T.d_l_word sc_l_word (fun _ _ _ _ _ _ us hl => match us, hl with | [_, _], _ => rfl) (fun vs H Q E h => Sp2.len h) (fun cdv A outer s H vs Q E hr h => ?_)
  obtain ⟨x, y, rfl, d, chs, pt, ⟨n, rs, rs2, hW⟩, h6, hx, hy, k⟩ := h
  have hlen := hW.lenLe
  refine ⟨_, (pss_cons (ps_set (i := 2) sc_l_word.nd rfl (.inl rfl) (pe_f F_l_read (hr.mono (by omega)) (by rfl) T.g_l_read (pa_cons (pe_ix ix_tup (pv 0) pe_int (fun _ _ => rfl)) (pa_cons pe_str (pa_cons (pv 1) (pa_cons (pe_lst pa_nil) pa_nil))))))
      (pss_cons (ps_if (pt_cmpR op_eq (pv 2) pe_str (nomark _)) (pss_cons (ps_ret (pe_ix ix_tup (pv 0) pe_int (fun _ _ => rfl)))
      pss_nil) pss_nil)
      (pss_cons (ps_ret (pv 2))
      pss_nil))), ?_⟩
  try dsimp only [cxOf, Cx.nox, Cx.wish]
  repeat walk_at "w"
  have hc := hu_
  generalize u_ = uc at *
  clear hu_
  walk_at "newO"
  intro p H1 np s1 o1
  repeat walk_at "w"
  refine Sp4.mk ⟨chs, "main", pt, p, [], hW.deepM, hW.rd, h6, hc.up s1.ext, rfl, hy.up s1.ext, rfl, o1, by simp; omega, fun H2 b2 x2 o2 => ?_⟩
  have s2 : Same H H2 := b2.same s1 np
  have kk := k H2 s2
  have hx2 := hx.up s2.ext
  have e : wordB 2 (bk d chs) pt = ((readC 2 chs pt "main").2).getD d := rfl
  rw [e] at kk
  repeat walk_at "w"
  rcases hh : readC 2 chs pt "main" with ⟨ss, _ | wd⟩
  · rw [hh] at kk
    rw [decide_eq_true (show wordE (ss, (none : Option Str)).2 = "" from rfl)]
    repeat walk_at "w"
    exact kk
  · rw [hh] at kk
    have n3 : wd ≠ "" := readC_ne hW.rd hW.deepM hh
    rw [decide_eq_false (show ¬ wordE (ss, some wd).2 = "" from n3)]
    repeat walk_at "w"
    exact kk
def sp_l_length (K : PySem.W.Frag) : Sp := Sp1 fun x H Q => ∃ (d : Str) (chs : Chs), WCh true chs ∧ Dt K H x (eLb d chs) ∧ ∀ H', Same H H' → Q (.int (lenC 2 chs "main" : Nat)) H'
def sN_l_length : List Str := ["_law_book", "_law_calls", "_law_rule_here"]
theorem sc_l_length : FnScope sN_l_length ["_law_book"] (defScope s_l_length) := ⟨rfl, rfl, rfl, by decide +kernel, rfl, by decide +kernel, by decide +kernel⟩

theorem ok_l_length (T : Tx K mg) : Fd P w K mg base 1 (He.ga K "_law_length") ["_law_book"] (sp_l_length K) := by
  refine mkFd T.d_l_length sc_l_length (fun _ _ _ _ _ _ us hl => match us, hl with | [_], _ => rfl) (fun vs H Q E h => Sp1.len h) (fun cdv A outer s H vs Q E hr h => ?_)
  obtain ⟨x, rfl, d, chs, ⟨n, rs, rs2, hW⟩, hx, k⟩ := h
  have hl1 := hW.l1
  rw [hW.len] at k
  have hx : Dt K H x (.tup [.str d, .lst [.tup [.str "main", .lst (rs.map eRule)], .tup [.str n, .lst (rs2.map eRule)]]]) := by
    have := hx
    rw [hW.eq] at this
    exact this
  refine ⟨_, (pss_cons (ps_set (i := 1) sc_l_length.nd rfl (.inl rfl) (pe_callB cl_lenQ (by rfl) T.b_len PySem.boot_len (pa_cons (pe_fz (pe_lc (own := [("_law_rule_here", 2)]) rfl sc_l_length.nd (pi_list (pe_ix ix_tup (pe_ix ix_list (pe_ix ix_tup (pv 0) pe_int (fun _ _ => rfl)) pe_int (fun _ _ => rfl)) pe_int (fun _ _ => rfl))) (blkOk_by (own := [("_law_rule_here", 2)]) (N := sN_l_length) (sc := defScope s_l_length) (by decide +kernel)) (fun _ _ _ _ _ => (pg_name (i := 2) sc_l_length.nd rfl (.inl rfl))) (fun _ _ _ _ _ => (pts_one (pt_cmpR op_eq (pe_ix (show IxR _ (rIxT K) from ix_tup) (pv 2) pe_int (fun _ _ => rfl)) pe_str (nomark _)))) (fun _ _ _ _ _ => (pv 2)))) pa_nil)))
      (pss_cons (ps_ret (pe_op op_add (pe_callB cl_lenQ (by rfl) T.b_len PySem.boot_len (pa_cons (pe_ix ix_tup (pe_ix ix_list (pe_ix ix_tup (pv 0) pe_int (fun _ _ => rfl)) pe_int (fun _ _ => rfl)) pe_int (fun _ _ => rfl)) pa_nil)) (pe_op op_mul (pv 1) (pe_callB cl_lenQ (by rfl) T.b_len PySem.boot_len (pa_cons (pe_ix ix_tup (pe_ix ix_list (pe_ix ix_tup (pv 0) pe_int (fun _ _ => rfl)) pe_int (fun _ _ => rfl)) pe_int (fun _ _ => rfl)) pa_nil)))))
      pss_nil)), ?_⟩
  try dsimp only [cxOf, Cx.nox, Cx.wish]
  repeat walk_at "w"
  refine i_list hu_ (Ext.refl _) fun J it => ?_
  refine f_lc (l := rs) (emb := eRule) it (fun r => if isCallB r = true then some (eRule r) else none) (by omega) (fun H' s => s.ext) (fun i r u H' Y N e s1 hu hY hN => ?_) fun p H1 xs np s1 hp r1 => ?_
  · have hrm := List.mem_of_getElem? e
    have hrh := (hW.r1 r hrm).head
    repeat walk_at "w"
    refine ⟨rfl, ?_⟩
    repeat walk_at "w"
    cases r with
    | word b wd =>
      have hu2 : Dt K H' u (.tup [.str wd, eBox b]) := hu
      have n2 : wd ≠ "call" := by rcases hrh with rfl | rfl <;> decide
      repeat walk_at "w"
      rw [decide_eq_false n2]
      repeat walk_at "w"
      exact hN _ rfl (Same.refl _)
    | back b =>
      have hu2 : Dt K H' u (.tup [.str "back", eBox b]) := hu
      repeat walk_at "w"
      rw [show decide (("back" : Str) = "call") = false by decide]
      repeat walk_at "w"
      exact hN _ rfl (Same.refl _)
    | call b m =>
      have hu2 : Dt K H' u (.tup [.str "call", eBox b, .str m]) := hu
      repeat walk_at "w"
      rw [show decide (("call" : Str) = "call") = true by decide]
      repeat walk_at "w"
      exact hY _ _ _ rfl (Same.refl _) hu
  · refine lcF np s1 hp r1 fun u2 H2 s2 hu2 => ?_
    have hcl : (rs.filterMap fun r => if isCallB r = true then some (eRule r) else none).length = (rs.filter isCallB).length := by
      generalize rs = l
      induction l with
      | nil => rfl
      | cons r l ih =>
        rw [List.filterMap_cons, List.filter_cons]
        by_cases hc : isCallB r = true
        · rw [if_pos hc, if_pos hc, List.length_cons, List.length_cons, ih]
        · rw [if_neg hc, if_neg hc, ih]
    have hx2 := hx.up s2.ext
    repeat walk_at "w"
    refine w_lenL hu2 ?_
    rw [hcl]
    repeat walk_at "w"
    refine w_lenL hu_ ?_
    rw [List.length_map]
    repeat walk_at "w"
    refine w_lenL hu_ ?_
    rw [List.length_map]
    have hf := hW.few
    have hl2 := hW.l2
    refine w_I (.inl ⟨by omega, by omega⟩) ?_
    have kk := k H2 s2
    push_cast at kk
    repeat walk_at "w"
    exact kk
def sp_l_boxes_told (K : PySem.W.Frag) : Sp := Sp1 fun x H Q => ∃ (d : Str) (chs : Chs), WCh true chs ∧ Dt K H x (eLb d chs) ∧ ∀ H', Same H H' → Q (.str (numS ((lookB (bk d chs) every).length : Nat))) H'
def sN_l_boxes_told : List Str := ["_law_one", "_law_made", "_law_name_here", "_law_rules", "_law_d"]
theorem sc_l_boxes_told : FnScope sN_l_boxes_told ["_law_one"] (defScope s_l_boxes_told) := ⟨rfl, rfl, rfl, by decide +kernel, rfl, by decide +kernel, by decide +kernel⟩

theorem ok_l_boxes_told (T : Tx K mg) : Fd P w K mg base 8 (He.ga K "_law_boxes_told") ["_law_one"] (sp_l_boxes_told K) := by
  have F_Book_init := ok_Book_init (P := P) (w := w) (base := base) T
  have F_looked := ok_looked (P := P) (w := w) (base := base) T
  have F_unfolded := ok_unfolded (P := P) (w := w) (base := base) T
  have F_l_top := ok_l_top (P := P) (w := w) (base := base) T
  refine mkFd T.d_l_boxes_told sc_l_boxes_told (fun _ _ _ _ _ _ us hl => match us, hl with | [_], _ => rfl) (fun vs H Q E h => Sp1.len h) (fun cdv A outer s H vs Q E hr h => ?_)
  obtain ⟨x, rfl, d, chs, ⟨n, rs, rs2, hW⟩, hx, k⟩ := h
  have hB := hW.book d
  have hsm := hW.ok.small
  refine ⟨_, (pss_cons (ps_set (i := 1) sc_l_boxes_told.nd rfl (.inl rfl) (pe_k T.mk_Book F_Book_init (hr.mono (by omega)) (by rfl) T.g_Book (pa_cons (pe_ix ix_tup (pv 0) pe_int (fun _ _ => rfl)) (pa_cons (pe_fz (pe_lc (own := [("_law_name_here", 2), ("_law_rules", 3)]) rfl sc_l_boxes_told.nd (pi_list (pe_ix ix_tup (pv 0) pe_int (fun _ _ => rfl))) (blkOk_by (own := [("_law_name_here", 2), ("_law_rules", 3)]) (N := sN_l_boxes_told) (sc := defScope s_l_boxes_told) (by decide +kernel)) (fun _ _ _ _ _ => (show PG _ _ (gTup K 2 _) from pg_tup rfl (pgs_cons (pg_name (i := 2) sc_l_boxes_told.nd rfl (.inl rfl)) (pgs_cons (pg_name (i := 3) sc_l_boxes_told.nd rfl (.inl rfl)) pgs_nil)))) (fun _ _ _ _ _ => pts_nil) (fun _ _ _ _ _ => (pe_tup (pa_cons (pv 2) (pa_cons (pe_fz (pe_callTy (show CallR _ _ (rListOf K) from cl_listOf) (by rfl) T.b_list (by decide +kernel) (pa_cons (pv 3) pa_nil))) pa_nil)))))) pa_nil))))
      (pss_cons (ps_ret (pe_callTy cl_strI (by rfl) T.b_str (by decide +kernel) (pa_cons (pe_callB cl_lenQ (by rfl) T.b_len PySem.boot_len (pa_cons (pe_f F_looked (hr.mono (by omega)) (by rfl) T.g_looked (pa_cons (pe_f F_unfolded (hr.mono (by omega)) (by rfl) T.g_unfolded (pa_cons (pv 1) pa_nil)) (pa_cons (pe_ix ix_tup (pv 0) pe_int (fun _ _ => rfl)) (pa_cons (pe_callTy cl_tupOf (by rfl) T.b_tuple (by decide +kernel) (pa_cons (pe_fz (pe_lc (own := [("_law_d", 4)]) rfl sc_l_boxes_told.nd (pi_range1 (by rfl) T.b_range (pa_cons pe_int pa_nil)) (blkOk_by (own := [("_law_d", 4)]) (N := sN_l_boxes_told) (sc := defScope s_l_boxes_told) (by decide +kernel)) (fun _ _ _ _ _ => (pg_name (i := 4) sc_l_boxes_told.nd rfl (.inl rfl))) (fun _ _ _ _ _ => pts_nil) (fun _ _ _ _ _ => (pe_tup (pa_cons pe_int (pa_cons (pe_f F_l_top (hr.mono (by omega)) (by rfl) T.g_l_top (pa_cons (pv 4) pa_nil)) pa_nil)))))) pa_nil)) pa_nil)))) pa_nil)) pa_nil)))
      pss_nil)), ?_⟩
  try dsimp only [cxOf, Cx.nox, Cx.wish]
  repeat walk_at "w"
  refine i_list hu_ (Ext.refl _) fun J it => ?_
  refine f_lc (l := chs) (emb := eChT) it (fun p => some (eChT p)) (by omega) (fun H' s => s.ext) (fun i r u H' Y N e s1 hu hY hN => ?_) fun p H1 xs np s1 hp r1 => ?_
  · have hu : Dt K H' u (.tup [.str r.1, .lst (r.2.map eRule)]) := hu
    repeat walk_at "w"
    refine ⟨rfl, ?_⟩
    repeat walk_at "w"
    refine w_listOfF hu_ fun u2 H2 s2 hu2 => ?_
    repeat walk_at "w"
    walk_at "newT"
    intro u3 H3 s3 hu3
    exact hY _ _ _ rfl (by walk_at "same") hu3
  · refine lcF np s1 hp r1 fun u2 H2 s2 hu2 => ?_
    rw [show chs.filterMap (fun p => some (eChT p)) = chs.map eChT by simp] at hu2
    repeat walk_at "w"
    refine make_i fun a dx H3 na s3 ha => ?_
    refine Sp3.mk ⟨a, dx, H2, d, chs, hW.ok, rfl, na, s3, ha, rfl, hu2, fun H4 s4 hb => ⟨rfl, ?_⟩⟩
    have hb : Dt K H4 (.ref a) (.bok (bk d chs)) := hb
    have hx4 := hx.up ((by walk_at "ext") : Ext H H4)
    repeat walk_at "w"
    refine Sp1.mk ⟨bk d chs, hB.deep, hB.len, hb, fun v5 H5 s5 hv5 => ?_⟩
    have hx5 := hx4.up s5.ext
    repeat walk_at "w"
    refine i_rng (K := K) 6 rfl (by decide) fun J2 it2 => ?_
    refine f_lc (l := List.range 6) (emb := fun (i : Nat) => D.int (i : Nat)) it2 (fun (d : Nat) => some (eSt (0, topN d))) (by simp) (fun _ _ => trivial) (fun i dd u H' Y N e s1 hu hY hN => ?_) fun p6 H6 xs6 np6 s6 hp6 r6 => ?_
    · have hd : dd < 6 := by
        have := List.mem_of_getElem? e
        simpa using this
      cases hu
      repeat walk_at "w"
      refine ⟨rfl, ?_⟩
      repeat walk_at "w"
      refine Sp1.mk ⟨dd, hd, rfl, fun H2 s2 => ?_⟩
      repeat walk_at "w"
      walk_at "newT"
      intro u3 H3 s3 hu3
      exact hY _ _ _ rfl (by walk_at "same") hu3
    · refine lcF np6 s6 hp6 r6 fun u7 H7 s7 hu7 => ?_
      rw [every_eq] at hu7
      repeat walk_at "w"
      refine w_tupOf hu7 fun u8 H8 s8 hu8 => ?_
      repeat walk_at "w"
      have hlB : (lookB (bk d chs) every).length ≤ 2025 := hB.cap _ every_in
      refine Sp3.mk ⟨rowsB (bk d chs), d, every, hB.rows, by rw [hB.rowsLen]; exact hB.len, rfl, Nat.le_trans hlB (by decide), hv5.up (by walk_at "ext"), rfl, hu8, fun v9 H9 s9 hv9 => ?_⟩
      repeat walk_at "w"
      refine w_lenL hv9 ?_
      rw [List.length_map, show (look (rowsB (bk d chs)) d every (.row 0) []).length = (lookB (bk d chs) every).length from rfl]
      repeat walk_at "w"
      refine w_strI (log_small (by omega) (by omega)) ?_
      exact k _ (by walk_at "same")
end
end
section
open PySem PySem.Spec PyProof.Rows L2 TL
/-- parcels -/
structure PsOk (ps : List (List Int)) : Prop where
  six : ∀ p ∈ ps, p.length = 6
  has : ∀ p ∈ ps, hasB every p = true
  few : ps.length ≤ 1000
theorem alike_ne {pt : List Int} (h : PtOk pt) : parS pt ≠ "alike" := fun e => by
  have h1 := split_par h
  rw [e] at h1
  have h2 : Txt.split ("alike" : Str) " " = [("alike" : Str)] := by decide +kernel
  rw [h2] at h1
  have h3 := congrArg List.length h1
  have hwl : (parW pt).length = 6 := by
    rw [← parW_eq h]
    simp
  rw [hwl] at h3
  cases h3
section
variable {P : Program} {w : World} {K : PySem.W.Frag} {mg : Str → Option Value} {base : Heap}
def sp_l_alike (K : PySem.W.Frag) : Sp := Sp4 fun x y z u H Q => ∃ (d1 d2 : Str) (c1 c2 : Chs) (ps : List (List Int)), DfOk d1 ∧ DfOk d2 ∧ WCh true c1 ∧ WCh true c2 ∧ PsOk ps ∧ x = .str (alikeS (bk d1 c1) (bk d2 c2)) ∧ Dt K H y (eLb d1 c1) ∧ Dt K H z (eLb d2 c2) ∧ Dt K H u (.lst (ps.map eInts)) ∧ ∀ H', Same H H' → Q (.bl true) H'
def sN_l_alike : List Str := ["_law_answer", "_law_one", "_law_other", "_law_parcels", "_law_due", "_law_parcel_here", "_law_found"]
theorem sc_l_alike : FnScope sN_l_alike ["_law_answer", "_law_one", "_law_other", "_law_parcels"] (defScope s_l_alike) := ⟨rfl, rfl, rfl, by decide +kernel, rfl, by decide +kernel, by decide +kernel⟩

theorem ok_l_alike (T : Tx K mg) : Fd P w K mg base 9 (He.ga K "_law_alike") ["_law_answer", "_law_one", "_law_other", "_law_parcels"] (sp_l_alike K) := by
  have F_parting := ok_parting (P := P) (w := w) (base := base) T
  have F_read_book := ok_read_book (P := P) (w := w) (base := base) T
  have F_l_text := ok_l_text (P := P) (w := w) (base := base) T
  have F_l_words := ok_l_words (P := P) (w := w) (base := base) T
  have F_l_word := ok_l_word (P := P) (w := w) (base := base) T
  have F_l_parsed := ok_l_parsed (P := P) (w := w) (base := base) T
  refine mkFd T.d_l_alike sc_l_alike (fun _ _ _ _ _ _ us hl => match us, hl with | [_, _, _, _], _ => rfl) (fun vs H Q E h => Sp4.len h) (fun cdv A outer s H vs Q E hr h => ?_)
  obtain ⟨x, y, z, u, rfl, d1, d2, c1, c2, ps, hd1, hd2, hw1, hw2, hps, rfl, hy, hz, hu, k⟩ := h
  obtain ⟨n1, r1, q1, hW1⟩ := id hw1
  obtain ⟨n2, r2, q2, hW2⟩ := id hw2
  have hB1 := hW1.book d1
  have hB2 := hW2.book d2
  refine ⟨_, (pss_cons (ps_set (i := 4) sc_l_alike.nd rfl (.inl rfl) (pe_f F_parting (hr.mono (by omega)) (by rfl) T.g_parting (pa_cons (pe_f F_read_book (hr.mono (by omega)) (by rfl) T.g_read_book (pa_cons (pe_f F_l_text (hr.mono (by omega)) (by rfl) T.g_l_text (pa_cons (pv 1) pa_nil)) pa_nil)) (pa_cons (pe_f F_read_book (hr.mono (by omega)) (by rfl) T.g_read_book (pa_cons (pe_f F_l_text (hr.mono (by omega)) (by rfl) T.g_l_text (pa_cons (pv 2) pa_nil)) pa_nil)) pa_nil))))
      (pss_cons (ps_if (PW.pt (pw_or (PW.pt (pw_and (pt_cmpR op_isN1 (pv 4) pe_non (nomark _)) (pw_and1 (pt_cmpR op_ne (pv 0) pe_str (nomark _))))) (pw_or1 (PW.pt (pw_and (pt_cmpR op_notN1 (pv 4) pe_non (nomark _)) (pw_and1 (pt_cmpR op_ne (pv 0) (pe_f F_l_words (hr.mono (by omega)) (by rfl) T.g_l_words (pa_cons (pv 4) pa_nil)) (nomark _)))))))) (pss_cons (ps_ret pe_bl)
      pss_nil) pss_nil)
      (pss_cons (ps_if (pt_cmpR op_eq (pv 0) pe_str (nomark _)) (pss_cons (ps_for PassesOwn.never rfl (pi_list (pv 3)) (pg_name (i := 5) sc_l_alike.nd rfl (.inl rfl)) (pss_cons (ps_if (pt_cmpR op_ne (pe_f F_l_word (hr.mono (by omega)) (by rfl) T.g_l_word (pa_cons (pv 1) (pa_cons (pv 5) pa_nil))) (pe_f F_l_word (hr.mono (by omega)) (by rfl) T.g_l_word (pa_cons (pv 2) (pa_cons (pv 5) pa_nil))) (nomark _)) (pss_cons (ps_ret pe_bl)
      pss_nil) pss_nil)
      pss_nil))
      (pss_cons (ps_ret pe_bl)
      pss_nil)) pss_nil)
      (pss_cons (ps_set (i := 6) sc_l_alike.nd rfl (.inl rfl) (pe_f F_l_parsed (hr.mono (by omega)) (by rfl) T.g_l_parsed (pa_cons (pv 0) pa_nil)))
      (pss_cons (ps_if (PW.pt (pw_or (pt_cmpR op_isN1 (pv 6) pe_non (nomark _)) (pw_or (pt_cmpR op_lt (pe_callB (cl_minT rfl hr.units) (by rfl) T.b_min (by decide +kernel) (pa_cons (pv 6) pa_nil)) pe_int (nomark _)) (pw_or (pt_cmpR op_gt (pe_ix ix_tup (pv 6) pe_int (fun _ _ => rfl)) pe_int (nomark _)) (pw_or (pt_cmpR op_gt (pe_ix ix_tup (pv 6) pe_int (fun _ _ => rfl)) pe_int (nomark _)) (pw_or (pt_cmpR op_gt (pe_ix ix_tup (pv 6) pe_int (fun _ _ => rfl)) pe_int (nomark _)) (pw_or1 (pt_cmpR op_gt (pe_ix ix_tup (pv 6) pe_int (fun _ _ => rfl)) pe_int (nomark _))))))))) (pss_cons (ps_ret pe_bl)
      pss_nil) pss_nil)
      (pss_cons (ps_ret (pe_cmpR op_ne (pe_f F_l_word (hr.mono (by omega)) (by rfl) T.g_l_word (pa_cons (pv 1) (pa_cons (pv 6) pa_nil))) (pe_f F_l_word (hr.mono (by omega)) (by rfl) T.g_l_word (pa_cons (pv 2) (pa_cons (pv 6) pa_nil))) (nomark _)))
      pss_nil)))))), ?_⟩
  try dsimp only [cxOf, Cx.nox, Cx.wish]
  repeat walk_at "w"
  refine Sp1.mk ⟨d1, c1, hW1.ltx hd1, hy, fun H1 s1 => ?_⟩
  repeat walk_at "w"
  refine Sp1.mk ⟨bookS shL d1 c1, d1, itemsOf c1, hW1.text (.inr rfl) hd1, by rw [hW1.items]; exact hW1.ok, rfl, fun v1 H2 s2 hv1 => ?_⟩
  rw [hW1.items] at hv1
  repeat walk_at "w"
  refine Sp1.mk ⟨d2, c2, hW2.ltx hd2, hz.up (by walk_at "ext"), fun H3 s3 => ?_⟩
  repeat walk_at "w"
  refine Sp1.mk ⟨bookS shL d2 c2, d2, itemsOf c2, hW2.text (.inr rfl) hd2, by rw [hW2.items]; exact hW2.ok, rfl, fun v2 H4 s4 hv2 => ?_⟩
  rw [hW2.items] at hv2
  repeat walk_at "w"
  refine Sp2.mk ⟨bk d1 c1, bk d2 c2, hB1, hB2, hv1.up (by walk_at "ext"), hv2, fun v3 H5 s5 hv3 => ?_⟩
  have hy5 := hy.up ((by walk_at "ext") : Ext H H5)
  have hz5 := hz.up ((by walk_at "ext") : Ext H H5)
  have hu5 := hu.up ((by walk_at "ext") : Ext H H5)
  have s05 : Same H H5 := (by walk_at "same")
  cases hp : partB (bk d1 c1) (bk d2 c2) with
  | none =>
    have ea : alikeS (bk d1 c1) (bk d2 c2) = "alike" := by unfold alikeS; rw [hp]
    rw [hp] at hv3
    rw [ea]
    cases hv3
    repeat walk_at "w"
    rw [show decide (("alike" : Str) = "alike") = true by decide]
    repeat walk_at "w"
    rw [show decide (("alike" : Str) = "alike") = true by decide]
    repeat walk_at "w"
    refine i_list hu5 (Ext.refl _) fun J it => ?_
    refine f_for it (fun i σ H' => ∃ e5, σ = [some (.str "alike"), some y, some z, some u, some .non, e5, none] ∧ Same H5 H') ⟨_, rfl, Same.refl _⟩ (fun j σ H' ⟨_, _, s⟩ => s.ext) ?_ ?_
    · rintro i d u' σ H' H6 e1 ⟨_, rfl, s6⟩ s7 hu6
      rw [List.getElem?_map, Option.map_eq_some_iff] at e1
      obtain ⟨p, e1, rfl⟩ := e1
      have hpm := List.mem_of_getElem? e1
      have h6 := hps.six p hpm
      have he := hps.has p hpm
      repeat walk_at "w"
      refine Sp2.mk ⟨d1, c1, p, hw1, h6, hy5.up (by walk_at "ext"), hu6, fun H7 s8 => ?_⟩
      repeat walk_at "w"
      refine Sp2.mk ⟨d2, c2, p, hw2, h6, hz5.up (by walk_at "ext"), hu6.up (by walk_at "ext"), fun H8 s9 => ?_⟩
      repeat walk_at "w"
      rw [decide_eq_true (part_none hB1 hB2 hp h6 he)]
      repeat walk_at "w"
      exact ⟨_, rfl, (by walk_at "same")⟩
    · rintro σ H' ⟨_, rfl, s6⟩
      repeat walk_at "w"
      exact k H' (by walk_at "same")
  | some p =>
    have ea : alikeS (bk d1 c1) (bk d2 c2) = parS p := by unfold alikeS; rw [hp]
    rw [hp] at hv3
    rw [ea]
    have hv3 : Dt K H5 v3 (eInts p) := hv3
    have hpt := part_ok hB1 hB2 hp
    obtain ⟨h6, he, hne⟩ := part_some hB1 hB2 hp
    have hal := alike_ne hpt
    obtain ⟨a, xs, rfl, hs, hr⟩ := id hv3.tupI
    repeat walk_at "w"
    refine Sp1.mk ⟨p, hpt, hv3, fun H6 s6 => ?_⟩
    repeat walk_at "w"
    rw [decide_eq_true (rfl : parS p = parS p)]
    repeat walk_at "w"
    rw [decide_eq_false hal]
    repeat walk_at "w"
    refine Sp1.mk ⟨p, hpt, rfl, fun v7 H7 s7 hv7 => ?_⟩
    obtain ⟨a0, a1, a2, a3, a4, a5, rfl, b0, b1, b2, b3, b4, b5⟩ := hpt.ex
    obtain ⟨a', xs', rfl, hs', hr'⟩ := id hv7.tupI
    have hv8 : Dt K H7 (.ref a') (.tup [.int a0, .int a1, .int a2, .int a3, .int a4, .int a5]) := hv7
    repeat walk_at "w"
    refine w_minT (n := a0) (ns := [a1, a2, a3, a4, a5]) hv7 ?_
    have hmin : ¬ ([a1, a2, a3, a4, a5].foldl min a0) < 0 := by
      have := b2.1
      have := b4.1
      simp only [List.foldl_cons, List.foldl_nil]
      omega
    repeat walk_at "w"
    rw [decide_eq_false hmin]
    repeat walk_at "w"
    rw [decide_eq_false (show ¬ a0 > 3 by omega)]
    repeat walk_at "w"
    rw [decide_eq_false (show ¬ a1 > 255 by omega)]
    repeat walk_at "w"
    rw [decide_eq_false (show ¬ a3 > 65535 by omega)]
    repeat walk_at "w"
    rw [decide_eq_false (show ¬ a5 > 65535 by omega)]
    repeat walk_at "w"
    refine Sp2.mk ⟨d1, c1, _, hw1, h6, hy5.up (by walk_at "ext"), hv7, fun H8 s8 => ?_⟩
    repeat walk_at "w"
    refine Sp2.mk ⟨d2, c2, _, hw2, h6, hz5.up (by walk_at "ext"), hv7.up (by walk_at "ext"), fun H9 s9 => ?_⟩
    repeat walk_at "w"
    rw [decide_eq_false hne]
    exact k H9 (by walk_at "same")
end
end
section
open PySem PySem.Spec PyProof.Rows L2 TL
/-! ### places of rules, in words -/
def placesP (chs : Chs) : List (Str × Nat) := chs.flatMap fun p => (List.range p.2.length).map fun i => (p.1, i)
def deadB (B : Book) (q : Str × Nat) : Bool := !liveB B q.1 q.2
def nevP (B : Book) : List (Str × Nat) := (placesP B.chains).filter (deadB B)
def flatW (l : List (Str × Nat)) : List Str := l.flatMap fun q => [q.1, numS (q.2 : Nat)]
def pairW (l : List (Str × Nat)) : List (Str × Str) := l.map fun q => (q.1, numS (q.2 : Nat))
abbrev ePr (q : Str × Str) : D := .tup [.str q.1, .str q.2]
def tellR (B : Book) (q : Str × Nat) : Str × Nat × Option (List Int) := (q.1, q.2, lookD (firstB B) (q.1, (q.2 : Int)))
theorem reachB_places (B : Book) : reachB B = (placesP B.chains).map (tellR B) := by
  unfold reachB placesP
  rw [List.map_flatMap]
  congr 1
  funext p
  unfold reachN
  rw [List.map_map]
  rfl
theorem flatW_app (a b : List (Str × Nat)) : flatW (a ++ b) = flatW a ++ flatW b := List.flatMap_append ..
theorem flatW_len : ∀ l : List (Str × Nat), (flatW l).length = 2 * l.length
  | [] => rfl
  | q :: l => by
    have := flatW_len l
    show (q.1 :: numS (q.2 : Nat) :: flatW l).length = _
    simp only [List.length_cons, this]
    omega
theorem flatW_get : ∀ {l : List (Str × Nat)} {i : Nat} {q : Str × Nat}, l[i]? = some q → (flatW l)[i * 2]? = some q.1 ∧ (flatW l)[i * 2 + 1]? = some (numS (q.2 : Nat))
  | [], _, _, h => by simp at h
  | r :: l, 0, q, h => by
    simp at h
    subst h
    exact ⟨rfl, rfl⟩
  | r :: l, i + 1, q, h => by
    have := flatW_get (l := l) (i := i) (q := q) (by simpa using h)
    have e1 : (i + 1) * 2 = i * 2 + 2 := by omega
    have e2 : (i + 1) * 2 + 1 = i * 2 + 1 + 2 := by omega
    rw [e2, e1]
    exact this
theorem join_cc (a b : Str) (l : List Str) : Txt.join " " (a :: b :: l) = a ++ " " ++ Txt.join " " (b :: l) := by
  rw [join_eq, join_eq]
  rfl
theorem join_pairs : ∀ l : List (Str × Nat), Txt.join " " (l.map fun q => q.1 ++ " " ++ numS (q.2 : Nat)) = Txt.join " " (flatW l)
  | [] => rfl
  | [q] => by
    show Txt.join " " [q.1 ++ " " ++ numS (q.2 : Nat)] = Txt.join " " [q.1, numS (q.2 : Nat)]
    rw [j2, join_eq]
    rfl
  | q :: r :: l => by
    have ih := join_pairs (r :: l)
    show Txt.join " " ((q.1 ++ " " ++ numS (q.2 : Nat)) :: (r.1 ++ " " ++ numS (r.2 : Nat)) :: l.map fun q => q.1 ++ " " ++ numS (q.2 : Nat)) = Txt.join " " (q.1 :: numS (q.2 : Nat) :: r.1 :: (numS (r.2 : Nat) :: flatW l))
    rw [join_cc, join_cc, join_cc]
    have ih : Txt.join " " ((r.1 ++ " " ++ numS (r.2 : Nat)) :: l.map fun q => q.1 ++ " " ++ numS (q.2 : Nat)) = Txt.join " " (r.1 :: (numS (r.2 : Nat) :: flatW l)) := ih
    rw [ih, app_assoc, app_assoc, app_assoc, app_assoc, app_assoc]
theorem flatW_nil {l : List (Str × Nat)} : flatW l = [] ↔ l = [] := by
  cases l with
  | nil => exact ⟨fun _ => rfl, fun _ => rfl⟩
  | cons q l => exact ⟨fun h => (by cases h), fun h => (by cases h)⟩
theorem neverS_eq (B : Book) : neverS B = Txt.join " " (flatW (nevP B) ++ (if flatW (nevP B) = [] then [("none" : Str)] else [])) := by
  have e : nevW B = (nevP B).map fun q => q.1 ++ " " ++ numS (q.2 : Nat) := by
    unfold nevW nevP
    rw [reachB_places, List.filter_map, List.map_map]
    congr 1
    refine List.filter_congr fun q _ => ?_
    show (lookD (firstB B) (q.1, (q.2 : Int))).isNone = !liveB B q.1 q.2
    unfold liveB
    cases lookD (firstB B) (q.1, (q.2 : Int)) <;> rfl
  unfold neverS
  rw [e]
  by_cases h : nevP B = []
  · rw [h]
    rfl
  · have h1 : (nevP B).map (fun q => q.1 ++ " " ++ numS (q.2 : Nat)) ≠ [] := fun z => h (List.map_eq_nil_iff.mp z)
    have h2 : flatW (nevP B) ≠ [] := fun z => h (flatW_nil.mp z)
    rw [if_neg h1, if_neg h2, List.append_nil]
    exact join_pairs _
theorem numS_inj {a b : Nat} (h : numS (a : Nat) = numS (b : Nat)) : a = b := by
  have := congrArg tl h
  rw [tl_numS, tl_numS] at this
  exact numL_inj this
theorem pairW_mem {l : List (Str × Nat)} {q : Str × Nat} : (q.1, numS (q.2 : Nat)) ∈ pairW l ↔ q ∈ l := by
  unfold pairW
  rw [List.mem_map]
  constructor
  · rintro ⟨⟨a, b⟩, h1, h2⟩
    rw [Prod.mk.injEq] at h2
    obtain ⟨h2, h3⟩ := h2
    have h3 := numS_inj h3
    obtain ⟨c, d⟩ := q
    simp only at h2 h3
    rw [← h2, ← h3]
    exact h1
  · intro h
    exact ⟨q, h, rfl⟩
theorem pair_filter (f : Str × Nat → Bool) (l : List (Str × Nat)) : (pairW l).filterMap (fun q => if q ∈ pairW (l.filter f) then some (ePr q) else none) = (pairW (l.filter f)).map ePr := by
  have key : ∀ m : List (Str × Nat), (∀ q ∈ m, q ∈ l) → (pairW m).filterMap (fun q => if q ∈ pairW (l.filter f) then some (ePr q) else none) = (pairW (m.filter f)).map ePr := by
    intro m
    induction m with
    | nil => intro _; rfl
    | cons q m ih =>
      intro hm
      have ih := ih fun r hr => hm r (List.mem_cons_of_mem _ hr)
      show ((q.1, numS (q.2 : Nat)) :: pairW m).filterMap _ = _
      rw [List.filterMap_cons, List.filter_cons]
      by_cases hf : f q = true
      · have : (q.1, numS (q.2 : Nat)) ∈ pairW (l.filter f) := pairW_mem.mpr (List.mem_filter.mpr ⟨hm q (List.mem_cons_self ..), hf⟩)
        rw [if_pos this, if_pos hf]
        show ePr (q.1, numS (q.2 : Nat)) :: _ = ePr (q.1, numS (q.2 : Nat)) :: _
        rw [ih]
        rfl
      · have : ¬ (q.1, numS (q.2 : Nat)) ∈ pairW (l.filter f) := fun z => hf (List.mem_filter.mp (pairW_mem.mp z)).2
        rw [if_neg this, if_neg hf]
        exact ih
  exact key l fun _ h => h
theorem rgc2m (k : Nat) (h : k ≤ 100) : RgC 0 (((2 * k : Nat) : Int) - 1) 2 k := by
  have : ∀ k : Fin 101, RgC 0 (((2 * k.1 : Nat) : Int) - 1) 2 k.1 := by
    intro k
    refine ⟨by decide, by decide, ?_, ?_⟩
    · revert k
      decide +kernel
    · revert k
      decide +kernel
  exact this ⟨k, by omega⟩
theorem placesP_mem {chs : Chs} {q : Str × Nat} : q ∈ placesP chs ↔ ∃ rs, (q.1, rs) ∈ chs ∧ q.2 < rs.length := by
  unfold placesP
  rw [List.mem_flatMap]
  constructor
  · rintro ⟨p, h1, h2⟩
    obtain ⟨i, h3, rfl⟩ := List.mem_map.mp h2
    exact ⟨p.2, h1, List.mem_range.mp h3⟩
  · rintro ⟨rs, h1, h2⟩
    exact ⟨_, h1, List.mem_map.mpr ⟨q.2, List.mem_range.mpr h2, rfl⟩⟩
theorem WData.placesLen {b : Bool} {chs : Chs} {n : Str} {rs rs2 : List Rule} (h : WData b chs n rs rs2) : (placesP chs).length ≤ 5 := by
  unfold placesP
  rw [h.flat, List.length_append, List.length_map, List.length_range]
  have h1 := h.l1
  have h2 := h.l2
  split
  · rw [List.length_map, List.length_range]
    simp only
    omega
  · simp
    omega
theorem WData.placesIn {b : Bool} {chs : Chs} {n : Str} {rs rs2 : List Rule} (h : WData b chs n rs rs2) {q : Str × Nat} (hq : q ∈ placesP chs) : q.1.length ≤ 12 ∧ q.2 ≤ 3 := by
  obtain ⟨rs', h1, h2⟩ := placesP_mem.mp hq
  have l1 := h.l1
  have l2 := h.l2
  rcases h.mem h1 with e | ⟨e, _⟩
  · rw [Prod.mk.injEq] at e
    rw [e.1]
    rw [e.2] at h2
    exact ⟨by decide, by omega⟩
  · rw [Prod.mk.injEq] at e
    rw [e.1]
    rw [e.2] at h2
    exact ⟨isName_len h.nm.nm, by omega⟩
theorem WData.stepIn {b : Bool} {chs : Chs} {n : Str} {rs rs2 : List Rule} (h : WData b chs n rs rs2) {p : List Int} {e : Str × Nat × Bool} (he : e ∈ (readC 2 chs p "main").1) : e.2.1 ≤ 3 := by
  have h1 := (walk_read (h.book "pass") p).1
  have he : e ∈ (readC 2 (bk "pass" chs).chains p "main").1 := he
  rw [← h1] at he
  obtain ⟨⟨j, b⟩, _, rfl⟩ := List.mem_map.mp he
  cases hr : (rowsB (bk "pass" chs))[j]? with
  | none =>
    simp only
    omega
  | some r =>
    simp only
    obtain ⟨m, rs', rule, q1, q2, q3, _⟩ := unfC_mem 2 "main" 0 (List.mem_of_getElem? hr)
    have hl := (List.getElem?_eq_some_iff.mp q2).1
    exact (h.placesIn (q := (m, r.idx)) (placesP_mem.mpr ⟨rs', lookD_mem q1, hl⟩)).2
theorem iteE_t {p : Prop} {i : Decidable p} {A B : Prop} (h : p) (k : A) : if @decide p i = true then A else B := by rw [decide_eq_true h]; exact iteT k
theorem iteE_f {p : Prop} {i : Decidable p} {A B : Prop} (h : ¬ p) (k : B) : if @decide p i = true then A else B := by rw [decide_eq_false h]; exact iteF k
theorem placesP_take (chs : Chs) {i : Nat} {p : Str × List Rule} (h : chs[i]? = some p) : placesP (chs.take (i + 1)) = placesP (chs.take i) ++ (List.range p.2.length).map fun j => (p.1, j) := by
  unfold placesP
  rw [List.take_succ, h, List.flatMap_append]
  simp
section
variable {P : Program} {w : World} {K : PySem.W.Frag} {mg : Str → Option Value} {base : Heap}
def sp_l_never (K : PySem.W.Frag) : Sp := Sp3 fun x y z H Q => ∃ (d : Str) (chs : Chs) (ps : List (List Int)), DfOk d ∧ WCh true chs ∧ PsOk ps ∧ x = .str (neverS (bk d chs)) ∧ Dt K H y (eLb d chs) ∧ Dt K H z (.lst (ps.map eInts)) ∧ ∀ H', Same H H' → Q (.bl true) H'
def sN_l_never : List Str := ["_law_answer", "_law_book", "_law_parcels", "_law_due", "_law_name_here", "_law_index", "_law_parcel_here", "_law_words_here", "_law_places", "_law_rules", "_law_never_here", "_law_seen", "_law_fits", "_law_k", "_law_place"]
theorem sc_l_never : FnScope sN_l_never ["_law_answer", "_law_book", "_law_parcels"] (defScope s_l_never) := ⟨rfl, rfl, rfl, by decide +kernel, rfl, by decide +kernel, by decide +kernel⟩

theorem ok_l_never (T : Tx K mg) : Fd P w K mg base 9 (He.ga K "_law_never") ["_law_answer", "_law_book", "_law_parcels"] (sp_l_never K) := by
  have F_reached := ok_reached (P := P) (w := w) (base := base) T
  have F_read_book := ok_read_book (P := P) (w := w) (base := base) T
  have F_l_text := ok_l_text (P := P) (w := w) (base := base) T
  have F_l_read := ok_l_read (P := P) (w := w) (base := base) T
  refine mkFd T.d_l_never sc_l_never (fun _ _ _ _ _ _ us hl => match us, hl with | [_, _, _], _ => rfl) (fun vs H Q E h => Sp3.len h) (fun cdv A outer s H vs Q E hr h => ?_)
  obtain ⟨x, y, z, rfl, d, chs, ps, hd, hw, hps, rfl, hy, hz, k⟩ := h
  obtain ⟨n, rs, rs2, hW⟩ := id hw
  have hB := hW.book d
  have hpl := hW.placesLen
  have hsm := hW.ok.small
  have hfl : ∀ f : Str × Nat → Bool, (flatW ((placesP chs).filter f)).length ≤ 10 := fun f => by
    have := List.length_filter_le f (placesP chs)
    rw [flatW_len]
    omega
  refine ⟨_, (pss_cons (ps_set (i := 3) sc_l_never.nd rfl (.inl rfl) (pe_lst pa_nil))
      (pss_cons (ps_for PassesOwn.never rfl (pi_list (pe_f F_reached (hr.mono (by omega)) (by rfl) T.g_reached (pa_cons (pe_f F_read_book (hr.mono (by omega)) (by rfl) T.g_read_book (pa_cons (pe_f F_l_text (hr.mono (by omega)) (by rfl) T.g_l_text (pa_cons (pv 1) pa_nil)) pa_nil)) pa_nil))) (pg_tup rfl (pgs_cons (pg_name (i := 4) sc_l_never.nd rfl (.inl rfl)) (pgs_cons (pg_name (i := 5) sc_l_never.nd rfl (.inl rfl)) (pgs_cons (pg_name (i := 6) sc_l_never.nd rfl (.inl rfl)) pgs_nil)))) (pss_cons (ps_if (pt_cmpR op_isN1 (pv 6) pe_non (nomark _)) (pss_cons (ps_set (i := 3) sc_l_never.nd rfl (.inl rfl) (pe_op op_catF (pv 3) (pe_fz (pe_lst (pa_cons (pv 4) (pa_cons (pe_callTy cl_strI (by rfl) T.b_str (by decide +kernel) (pa_cons (pv 5) pa_nil)) pa_nil))))))
      pss_nil) pss_nil)
      pss_nil))
      (pss_cons (ps_if (pt_cmpR op_ne (pv 0) (pe_joinR pe_str (pe_fz (pe_op op_catF (pv 3) (pe_fz (pe_slice sl_list (pe_fz (pe_lst (pa_cons pe_str pa_nil))) po_none (po_some (pe_callTy cl_intB (by rfl) T.b_int (by decide +kernel) (pa_cons (pe_cmpR (op_eqG hr.units) (pv 3) (pe_fz (pe_lst pa_nil)) (nomark _)) pa_nil)))))))) (nomark _)) (pss_cons (ps_ret pe_bl)
      pss_nil) pss_nil)
      (pss_cons (ps_set (i := 7) sc_l_never.nd rfl (.inr rfl) (pv 3))
      (pss_cons (ps_set (i := 8) sc_l_never.nd rfl (.inl rfl) (pe_lst pa_nil))
      (pss_cons (ps_for PassesOwn.never rfl (pi_list (pe_ix ix_tup (pv 1) pe_int (fun _ _ => rfl))) (pg_tup rfl (pgs_cons (pg_name (i := 4) sc_l_never.nd rfl (.inl rfl)) (pgs_cons (pg_name (i := 9) sc_l_never.nd rfl (.inl rfl)) pgs_nil))) (pss_cons (ps_for PassesOwn.never rfl (pi_range1 (by rfl) T.b_range (pa_cons (pe_callB cl_lenQ (by rfl) T.b_len PySem.boot_len (pa_cons (pv 9) pa_nil)) pa_nil)) (pg_name (i := 5) sc_l_never.nd rfl (.inl rfl)) (pss_cons (ps_expr (pe_bm PySem.F.plainAttrs_list PySem.F.slot_list_append PySem.F.type_list_append mt_append (pv 8) (pa_cons (pe_tup (pa_cons (pv 4) (pa_cons (pe_callTy cl_strI (by rfl) T.b_str (by decide +kernel) (pa_cons (pv 5) pa_nil)) pa_nil))) pa_nil)))
      pss_nil))
      pss_nil))
      (pss_cons (ps_set (i := 10) sc_l_never.nd rfl (.inr rfl) (pe_fz (pe_lc (own := [("_law_k", 13)]) rfl sc_l_never.nd (pi_range3 (by rfl) T.b_range (pa_cons pe_int (pa_cons (pe_op op_sub (pe_callB cl_lenQ (by rfl) T.b_len PySem.boot_len (pa_cons (pv 7) pa_nil)) pe_int) (pa_cons pe_int pa_nil)))) (blkOk_by (own := [("_law_k", 13)]) (N := sN_l_never) (sc := defScope s_l_never) (by decide +kernel)) (fun _ _ _ _ _ => (pg_name (i := 13) sc_l_never.nd rfl (.inl rfl))) (fun _ _ _ _ _ => pts_nil) (fun _ _ _ _ _ => (pe_tup (pa_cons (pe_ix (show IxR _ (rIxL K) from ix_list) (pv 7) (pv 13) (fun _ _ => rfl)) (pa_cons (pe_ix (show IxR _ (rIxL K) from ix_list) (pv 7) (pe_op op_add (pv 13) pe_int) (fun _ _ => rfl)) pa_nil)))))))
      (pss_cons (ps_if (pt_cmpR (op_neG hr.units) (pe_fz (pe_lc (own := [("_law_place", 14)]) rfl sc_l_never.nd (pi_list (pv 8)) (blkOk_by (own := [("_law_place", 14)]) (N := sN_l_never) (sc := defScope s_l_never) (by decide +kernel)) (fun _ _ _ _ _ => (pg_name (i := 14) sc_l_never.nd rfl (.inl rfl))) (fun _ _ _ _ _ => (pts_one (pt_cmpR (show OpR _ _ (rInG K) from op_inG (hu65 hr)) (pv 14) (pv 10) (by rfl)))) (fun _ _ _ _ _ => (pv 14)))) (pv 10) (nomark _)) (pss_cons (ps_ret pe_bl)
      pss_nil) pss_nil)
      (pss_cons (ps_for PassesOwn.never rfl (pi_list (pv 2)) (pg_name (i := 6) sc_l_never.nd rfl (.inl rfl)) (pss_cons (ps_set (i := 11) sc_l_never.nd rfl (.inl rfl) (pe_lst pa_nil))
      (pss_cons (ps_expr (pe_f F_l_read (hr.mono (by omega)) (by rfl) T.g_l_read (pa_cons (pe_ix ix_tup (pv 1) pe_int (fun _ _ => rfl)) (pa_cons pe_str (pa_cons (pv 6) (pa_cons (pv 11) pa_nil))))))
      (pss_cons (ps_for PassesOwn.never rfl (pi_list (pv 11)) (pg_tup rfl (pgs_cons (pg_name (i := 4) sc_l_never.nd rfl (.inl rfl)) (pgs_cons (pg_name (i := 5) sc_l_never.nd rfl (.inl rfl)) (pgs_cons (pg_name (i := 12) sc_l_never.nd rfl (.inl rfl)) pgs_nil)))) (pss_cons (ps_if (PW.pt (pw_and (pt_val (pv 12)) (pw_and1 (pt_cmpR (op_inG (hu65 hr)) (pe_tup (pa_cons (pv 4) (pa_cons (pe_callTy cl_strI (by rfl) T.b_str (by decide +kernel) (pa_cons (pv 5) pa_nil)) pa_nil))) (pv 10) (by rfl))))) (pss_cons (ps_ret pe_bl)
      pss_nil) pss_nil)
      pss_nil))
      pss_nil))))
      (pss_cons (ps_ret pe_bl)
      pss_nil)))))))))), ?_⟩
  try dsimp only [cxOf, Cx.nox, Cx.wish]
  repeat walk_at "w"
  walk_at "newO"
  intro q0 H1 nq0 s1 o1
  repeat walk_at "w"
  refine Sp1.mk ⟨d, chs, hW.ltx hd, hy.up (by walk_at "ext"), fun H2 s2 => ?_⟩
  repeat walk_at "w"
  refine Sp1.mk ⟨bookS shL d chs, d, itemsOf chs, hW.text (.inr rfl) hd, by rw [hW.items]; exact hW.ok, rfl, fun v1 H3 s3 hv1 => ?_⟩
  rw [hW.items] at hv1
  repeat walk_at "w"
  refine Sp1.mk ⟨bk d chs, hB, hv1, fun v2 H4 s4 hv2 => ?_⟩
  rw [reachB_places] at hv2
  have hv2 : Dt K H4 v2 (.lst (((placesP chs).map (tellR (bk d chs))).map eRch)) := hv2
  have s04 : Same H H4 := (by walk_at "same")
  repeat walk_at "w"
  refine i_list hv2 (Ext.refl _) fun J it => ?_
  refine f_for it (fun i σ H' => ∃ (q : Addr) (e4 e5 e6 : Option V), σ = [some (.str (neverS (bk d chs))), some y, some z, some (.ref q), e4, e5, e6, none, none, none, none, none, none, none, none] ∧ Same H H' ∧ Ext H4 H' ∧ H q = none ∧
    Ow K H' q ((flatW (((placesP chs).take i).filter (deadB (bk d chs)))).map D.str)) ⟨q0, _, _, _, rfl, s04, Ext.refl _, nq0, by simpa [flatW] using o1.up ((s2.trans s3).trans s4)⟩ (fun i σ H' ⟨_, _, _, _, _, _, x, _⟩ => x) ?_ ?_
  · rintro i dd u σ H' H5 e1 ⟨q, _, _, _, rfl, s5, x5, nq, o5⟩ s6 hu
    rw [List.getElem?_map, Option.map_eq_some_iff] at e1
    obtain ⟨r, e1, rfl⟩ := e1
    rw [List.getElem?_map, Option.map_eq_some_iff] at e1
    obtain ⟨pl, e1, rfl⟩ := e1
    have hpm := List.mem_of_getElem? e1
    have hin := hW.placesIn hpm
    have hu : Dt K H5 u (.tup [.str pl.1, .int (pl.2 : Nat), eOI (lookD (firstB (bk d chs)) (pl.1, (pl.2 : Int)))]) := hu
    have et : (((placesP chs).take (i + 1)).filter (deadB (bk d chs))) = (((placesP chs).take i).filter (deadB (bk d chs))) ++ (if deadB (bk d chs) pl = true then [pl] else []) := by
      rw [List.take_succ, e1, List.filter_append]
      congr 1
      by_cases hdd : deadB (bk d chs) pl = true
      · simp [hdd]
      · simp [hdd]
    have hbd : (flatW (((placesP chs).take i).filter (deadB (bk d chs)))).length ≤ 10 := by
      have h1 := List.length_filter_le (deadB (bk d chs)) ((placesP chs).take i)
      have h2 := List.length_take_le i (placesP chs)
      have h3 := List.length_take_le' i (placesP chs)
      rw [flatW_len]
      omega
    rw [et, flatW_app]
    generalize flatW (((placesP chs).take i).filter (deadB (bk d chs))) = acc at *
    have o6 := o5.up s6
    cases ho : lookD (firstB (bk d chs)) (pl.1, (pl.2 : Int)) with
    | none =>
      rw [ho] at hu
      have hdd : deadB (bk d chs) pl = true := by
        unfold deadB liveB
        rw [ho]
        rfl
      rw [if_pos hdd]
      have hu : Dt K H5 u (.tup [.str pl.1, .int (pl.2 : Nat), .non]) := hu
      repeat walk_at "w"
      refine w_strI (log_small (by omega) (by omega)) ?_
      repeat walk_at "w"
      walk_at "newF"
      intro u7 H7 s7 hu7
      refine catO (K := K) (o6.up s7).ls hu7.ls (by simp; omega) fun q2 H8 nq2 s8 o8 => ?_
      repeat walk_at "w"
      refine ⟨q2, _, _, _, rfl, (by walk_at "same"), (by walk_at "ext"), Same.free ((by walk_at "same") : Same H H7) nq2, ?_⟩
      rw [List.map_append]
      exact o8
    | some p =>
      rw [ho] at hu
      have hdd : ¬ deadB (bk d chs) pl = true := by
        unfold deadB liveB
        rw [ho]
        exact Bool.false_ne_true
      rw [if_neg hdd]
      have hu : Dt K H5 u (.tup [.str pl.1, .int (pl.2 : Nat), eInts p]) := hu
      repeat walk_at "w"
      have hup := hu_
      obtain ⟨a, xs, rfl, _⟩ := hu_.tupI
      repeat walk_at "w"
      refine ⟨q, _, _, _, rfl, (by walk_at "same"), (by walk_at "ext"), nq, ?_⟩
      simpa [flatW] using o6
  · rintro σ H' ⟨q, _, _, _, rfl, s5, x5, nq, o5⟩
    rw [List.length_map, List.length_map, List.take_length] at o5
    have o5 : Ow K H' q ((flatW (nevP (bk d chs))).map D.str) := o5
    have hnl : (flatW (nevP (bk d chs))).length ≤ 10 := hfl _
    have hnin : ∀ s ∈ flatW (nevP (bk d chs)), s.length ≤ 12 := fun s hs => by
      obtain ⟨r, h1, h2⟩ := List.mem_flatMap.mp hs
      have hin := hW.placesIn (List.mem_filter.mp h1).1
      rcases List.mem_cons.mp h2 with rfl | h2
      · exact hin.1
      · rw [List.mem_singleton.mp h2]
        have := numS_len10 (n := (r.2 : Nat)) (by omega) (by omega)
        omega
    have hev := neverS_eq (bk d chs)
    have hfw : ∀ {l : List (Str × Nat)} {i : Nat} {q : Str × Nat}, l[i]? = some q → ((flatW l).map D.str)[i * 2]? = some (.str q.1) ∧ ((flatW l).map D.str)[i * 2 + 1]? = some (.str (numS (q.2 : Nat))) := fun h => by
      obtain ⟨h1, h2⟩ := flatW_get h
      exact ⟨by rw [List.getElem?_map, h1]; rfl, by rw [List.getElem?_map, h2]; rfl⟩
    repeat walk_at "w"
    walk_at "newF"
    intro u6 H6 s6 hu6
    repeat walk_at "w"
    walk_at "newF"
    intro u7 H7 s7 hu7
    refine w_eqGO (l := flatW (nevP (bk d chs))) (b := ([] : List Str)) (o5.up ((by walk_at "same") : Same H' H7)) hu7 (by decide) ?_
    repeat walk_at "w"
    refine sl_F (hu6.up s7.ext) fun u8 H8 s8 hu8 => ?_
    have hu8 : Dt K H8 u8 (.lst ((if flatW (nevP (bk d chs)) = [] then [("none" : Str)] else []).map D.str)) := by
      by_cases he : flatW (nevP (bk d chs)) = []
      · rw [decide_eq_true he, show (if (true : Bool) = true then (1 : Int) else 0) = ((1 : Nat) : Int) from rfl, cutL_to] at hu8
        rw [if_pos he]
        exact hu8
      · rw [decide_eq_false he, show (if (false : Bool) = true then (1 : Int) else 0) = ((0 : Nat) : Int) from rfl, cutL_to] at hu8
        rw [if_neg he]
        exact hu8
    have htl : (if flatW (nevP (bk d chs)) = [] then [("none" : Str)] else []).length ≤ 1 := by split <;> simp
    refine catF (o5.up ((by walk_at "same") : Same H' H8)).ls hu8.ls (by rw [List.length_map, List.length_map]; omega) fun u9 H9 s9 hu9 => ?_
    rw [← List.map_append] at hu9
    refine s_join (Dt.ls hu9) (sum_bound (k := 12) (n := 11) (fun s hs => ?_) (by rw [List.length_append]; omega) _ rfl (by decide)) ?_
    · rcases List.mem_append.mp hs with hs | hs
      · exact hnin s hs
      · split at hs
        · rw [List.mem_singleton.mp hs]
          exact (by decide : ("none" : Str).length ≤ 12)
        · cases hs
    repeat walk_at "w"
    rw [decide_eq_true hev]
    repeat walk_at "w"
    have o9 := o5.up ((by walk_at "same") : Same H' H9)
    have s09 : Same H H9 := (by walk_at "same")
    have hy9 := hy.up s09.ext
    walk_at "newO"
    intro r0 H10 nr0 s10 o10
    have hqr : q ≠ r0 := o9.ne nr0
    have nr : H r0 = none := Same.free s09 nr0
    repeat walk_at "w"
    have hN : nevP (bk d chs) = (placesP chs).filter (deadB (bk d chs)) := rfl
    have hNl : (nevP (bk d chs)).length ≤ 5 := Nat.le_trans (List.length_filter_le _ _) hpl
    refine i_list hu_ (Ext.refl _) fun J2 it2 => ?_
    refine f_for it2 (fun i σ H' => ∃ (e4 e5 e6 e9 : Option V), σ = [some (.str (neverS (bk d chs))), some y, some z, some (.ref q), e4, e5, e6, some (.ref q), some (.ref r0), e9, none, none, none, none, none] ∧ Same H H' ∧ Ext H10 H' ∧
      Ow K H' q ((flatW (nevP (bk d chs))).map D.str) ∧ Ow K H' r0 ((pairW (placesP (chs.take i))).map ePr)) ⟨_, _, _, _, rfl, (by walk_at "same"), Ext.refl _, o9.up s10, by simpa [pairW, placesP] using o10⟩ (fun i σ H' ⟨_, _, _, _, _, _, x, _⟩ => x) ?_ ?_
    · rintro i dd u σ H' H11 e1 ⟨e4, e5, e6, e9, rfl, s11, x11, oq, orr⟩ s12 hu
      rw [List.getElem?_map, Option.map_eq_some_iff] at e1
      obtain ⟨⟨m, rl⟩, e1, rfl⟩ := e1
      have hpm := List.mem_of_getElem? e1
      have hml : rl.length ≤ 3 := by
        have l1 := hW.l1
        have l2 := hW.l2
        rcases hW.mem hpm with e | ⟨e, _⟩
        · cases e
          exact l1
        · cases e
          omega
      have hu : Dt K H11 u (.tup [.str m, .lst (rl.map eRule)]) := hu
      have hbd : (pairW (placesP (chs.take i))).length + rl.length ≤ 5 := by
        have h1 : placesP chs = placesP (chs.take (i + 1)) ++ placesP (chs.drop (i + 1)) := by
          unfold placesP
          rw [← List.flatMap_append, List.take_append_drop]
        rw [h1, placesP_take chs e1, List.length_append, List.length_append, List.length_map, List.length_range] at hpl
        unfold pairW
        rw [List.length_map]
        simp only at hpl
        omega
      rw [placesP_take chs e1]
      generalize placesP (chs.take i) = acc at *
      repeat walk_at "w"
      refine w_lenL hu_ ?_
      rw [List.length_map]
      have hur := hu_
      generalize u_ = ur at *
      clear hu_
      repeat walk_at "w"
      refine i_rng (K := K) rl.length rfl (by omega) fun J3 it3 => ?_
      refine f_for it3 (fun j σ H' => ∃ (e5 : Option V), σ = [some (.str (neverS (bk d chs))), some y, some z, some (.ref q), some (.str m), e5, e6, some (.ref q), some (.ref r0), some ur, none, none, none, none, none] ∧ Same H H' ∧ Ext H10 H' ∧
        Ow K H' q ((flatW (nevP (bk d chs))).map D.str) ∧ Ow K H' r0 ((pairW (acc ++ (List.range j).map fun k => (m, k))).map ePr)) ⟨_, rfl, (by walk_at "same"), (by walk_at "ext"), oq.up s12, by simpa using orr.up s12⟩ (fun _ _ _ _ => trivial) ?_ ?_
      · rintro j dd u3 σ' H'' H13 e2 ⟨_, rfl, s13, x13, oq2, or2⟩ s14 hu3
        obtain ⟨hj, rfl⟩ := numD_get e2
        cases hu3
        repeat walk_at "w"
        refine w_tyO (or2.up s14) ?_
        repeat walk_at "w"
        refine w_strI (log_small (by omega) (by omega)) ?_
        repeat walk_at "w"
        walk_at "newT"
        intro u15 H15 s15 hu15
        repeat walk_at "w"
        refine w_appS (d := ePr (m, numS (j : Nat))) ((or2.up s14).up s15) hu15 ?_ (Hb := H) (by walk_at "same") nr fun H16 b16 x16 s16 o16 => ?_
        · unfold pairW at hbd ⊢
          rw [List.length_map] at hbd
          simp
          omega
        repeat walk_at "w"
        refine ⟨_, rfl, s16, (by walk_at "ext"), ((oq2.up s14).up s15).but b16 x16 hqr, ?_⟩
        have e3 : pairW (acc ++ (List.range (j + 1)).map fun k => (m, k)) = pairW (acc ++ (List.range j).map fun k => (m, k)) ++ [(m, numS (j : Nat))] := by
          rw [List.range_succ, List.map_append, ← List.append_assoc]
          unfold pairW
          rw [List.map_append]
          rfl
        rw [e3, List.map_append]
        exact o16
      · rintro σ' H'' ⟨_, rfl, s13, x13, oq2, or2⟩
        rw [numD_len] at or2
        exact ⟨_, _, _, _, rfl, s13, x13, oq2, or2⟩
    · rintro σ H' ⟨e4, e5, e6, e9, rfl, s11, x11, oq, orr⟩
      rw [List.length_map, List.take_length] at orr
      have hpw : (pairW (placesP chs)).length ≤ 5 := by unfold pairW; rw [List.length_map]; exact hpl
      repeat walk_at "w"
      refine w_lenO oq ?_
      rw [List.length_map, flatW_len]
      repeat walk_at "w"
      refine i_rng3 (K := K) (nevP (bk d chs)).length (rgc2m _ (by omega)) fun J4 it4 => ?_
      refine f_lc (l := List.range (nevP (bk d chs)).length) (emb := fun (m : Nat) => D.int (0 + (m : Int) * 2)) it4 (fun m => some (ePr (((nevP (bk d chs)).getD m ("", 0)).1, numS (((nevP (bk d chs)).getD m ("", 0)).2 : Nat)))) (by simp; omega) (fun _ _ => trivial) (fun i m u H'' Y N e s12 hu hY hN2 => ?_) fun p12 H12 xs12 np12 s12 hp12 r12 => ?_
      · have hm : m < (nevP (bk d chs)).length := by
          have := List.mem_of_getElem? e
          simpa using this
        have hg : (nevP (bk d chs))[m]? = some ((nevP (bk d chs)).getD m ("", 0)) := by simp [hm]
        generalize (nevP (bk d chs)).getD m ("", 0) = r at *
        obtain ⟨g1, g2⟩ := hfw hg
        cases hu
        repeat walk_at "w"
        refine ⟨rfl, ?_⟩
        rw [show (0 + (m : Int) * 2) = ((m * 2 : Nat) : Int) by push_cast; omega]
        repeat walk_at "w"
        refine w_ixO (oq.up s12) (atI_nat g1) ?_
        repeat walk_at "w"
        rw [show ((m * 2 : Nat) : Int) + 1 = ((m * 2 + 1 : Nat) : Int) by omega]
        refine w_ixO (oq.up s12) (atI_nat g2) ?_
        repeat walk_at "w"
        walk_at "newT"
        intro u3 H3 s3 hu3
        exact hY _ _ _ rfl s3 hu3
      · refine lcF np12 s12 hp12 r12 fun u13 H13 s13 hu13 => ?_
        have hu13 : Dt K H13 u13 (.lst ((pairW (nevP (bk d chs))).map ePr)) := by
          have e : (List.range (nevP (bk d chs)).length).filterMap (fun m => some (ePr (((nevP (bk d chs)).getD m ("", 0)).1, numS (((nevP (bk d chs)).getD m ("", 0)).2 : Nat)))) = (pairW (nevP (bk d chs))).map ePr := by
            unfold pairW
            rw [List.map_map]
            refine List.ext_getElem (by simp) fun i h1 h2 => ?_
            have hi : i < (nevP (bk d chs)).length := by simpa using h1
            simp [hi]
          rw [e] at hu13
          exact hu13
        have o13 := orr.up s13
        have s0x : Same H H13 := (by walk_at "same")
        repeat walk_at "w"
        refine i_listO o13 fun J5 it5 => ?_
        refine f_lc it5 (l := pairW (placesP chs)) (emb := ePr) (fun q => if q ∈ pairW (nevP (bk d chs)) then some (ePr q) else none) (by omega) (fun H' s => o13.up s) (fun i m u H'' Y N e s14 hu hY hN2 => ?_) fun p14 H14 xs14 np14 s14 hp14 r14 => ?_
        · repeat walk_at "w"
          refine ⟨rfl, ?_⟩
          repeat walk_at "w"
          refine w_inG (α := Str × Str) (a := m) (l := pairW (nevP (bk d chs))) hu (hu13.up s14.ext) (by decide) ?_
          repeat walk_at "w"
          by_cases hc : m ∈ pairW (nevP (bk d chs))
          · refine iteE_t hc ?_
            repeat walk_at "w"
            exact hY _ _ _ (if_pos hc) (Same.refl _) hu
          · refine iteE_f hc ?_
            repeat walk_at "w"
            exact hN2 _ (if_neg hc) (Same.refl _)
        · refine lcF np14 s14 hp14 r14 fun u15 H15 s15 hu15 => ?_
          rw [hN, pair_filter, ← hN] at hu15
          repeat walk_at "w"
          refine w_neG (α := List (Str × Str)) (a := pairW (nevP (bk d chs))) (b := pairW (nevP (bk d chs))) hu15 (hu13.up (by walk_at "ext")) (by decide) ?_
          repeat walk_at "w"
          rw [decide_eq_true (rfl : pairW (nevP (bk d chs)) = pairW (nevP (bk d chs)))]
          repeat walk_at "w"
          have s15x : Same H H15 := (by walk_at "same")
          refine i_list (hz.up s15x.ext) (Ext.refl _) fun J6 it6 => ?_
          refine f_for it6 (fun i σ H' => ∃ (e4 e5 e6 e11 e12 : Option V), σ = [some (.str (neverS (bk d chs))), some y, some z, some (.ref q), e4, e5, e6, some (.ref q), some (.ref r0), e9, some u13, e11, e12, none, none] ∧ Same H15 H') ⟨_, _, _, _, _, rfl, Same.refl _⟩ (fun i σ H' ⟨_, _, _, _, _, _, s⟩ => s.ext) ?_ ?_
          · rintro i dd u σ H' H16 e1 ⟨_, _, _, _, _, rfl, s16⟩ s17 hu
            rw [List.getElem?_map, Option.map_eq_some_iff] at e1
            obtain ⟨p, e1, rfl⟩ := e1
            have hpm := List.mem_of_getElem? e1
            have h6 := hps.six p hpm
            have he := hps.has p hpm
            repeat walk_at "w"
            walk_at "newO"
            intro t H18 nt s18 o18
            have nt15 : H15 t = none := Same.free ((by walk_at "same") : Same H15 H16) nt
            have hy18 := hy.up ((by walk_at "ext") : Ext H H18)
            repeat walk_at "w"
            refine Sp4.mk ⟨chs, "main", p, t, [], hW.deepM, hW.rd, h6, hu_, rfl, hu.up s18.ext, rfl, o18, by have := hW.lenLe; show 0 + lenC 2 chs "main" ≤ 1000; omega, fun H19 b19 x19 o19 => ?_⟩
            rw [List.nil_append] at o19
            have s19 : Same H15 H19 := b19.same (by walk_at "same") nt15
            repeat walk_at "w"
            refine i_listO o19 fun J7 it7 => ?_
            refine f_for it7 (fun j σ H' => ∃ (e4 e5 e12 : Option V), σ = [some (.str (neverS (bk d chs))), some y, some z, some (.ref q), e4, e5, some u, some (.ref q), some (.ref r0), e9, some u13, some (.ref t), e12, none, none] ∧ Same H19 H') ⟨_, _, _, rfl, Same.refl _⟩ (fun j σ H' ⟨_, _, _, _, s⟩ => o19.up s) ?_ ?_
            · rintro j dd u3 σ' H'' H20 e2 ⟨_, _, _, rfl, s20⟩ s21 hu3
              rw [List.getElem?_map, Option.map_eq_some_iff] at e2
              obtain ⟨⟨m, ix, fl⟩, e2, rfl⟩ := e2
              have hsm2 := List.mem_of_getElem? e2
              have hu3 : Dt K H20 u3 (.tup [.str m, .int (ix : Nat), .bl fl]) := hu3
              have hu13x := hu13.up ((by walk_at "ext") : Ext H13 H20)
              repeat walk_at "w"
              cases fl with
              | false =>
                repeat walk_at "w"
                exact ⟨_, _, _, rfl, (by walk_at "same")⟩
              | true =>
                have hlv : liveB (bk d chs) m ix = true := (live_iff hB).mpr ⟨p, h6, he, hsm2⟩
                have hnot : ¬ (m, numS (ix : Nat)) ∈ pairW (nevP (bk d chs)) := fun hm => by
                  have h1 := (List.mem_filter.mp (pairW_mem (q := (m, ix)).mp hm)).2
                  unfold deadB at h1
                  rw [hlv] at h1
                  cases h1
                have hix : ix ≤ 3 := hW.stepIn hsm2
                repeat walk_at "w"
                refine w_strI (log_small (by omega) (by omega)) ?_
                repeat walk_at "w"
                walk_at "newT"
                intro u22 H22 s22 hu22
                repeat walk_at "w"
                refine w_inG (α := Str × Str) (a := (m, numS (ix : Nat))) (l := pairW (nevP (bk d chs))) hu22 (hu13x.up s22.ext) (by decide) ?_
                repeat walk_at "w"
                refine iteE_f hnot ?_
                repeat walk_at "w"
                exact ⟨_, _, _, rfl, (by walk_at "same")⟩
            · rintro σ' H'' ⟨_, _, _, rfl, s20⟩
              exact ⟨_, _, _, _, _, rfl, s19.trans s20⟩
          · rintro σ H' ⟨_, _, _, _, _, rfl, s16⟩
            repeat walk_at "w"
            exact k H' (by walk_at "same")
end
end
section
open PySem PySem.Spec PyProof.Rows L2 TL
/-! ### what is said to the desk -/
theorem ord_ne (o : Ord) : ordW o ≠ [] := by cases o <;> simp [ordW]
theorem par_len6 {pt : List Int} (h : PtOk pt) : (parW pt).length = 6 := by
  rw [← parW_eq h]
  simp
theorem wordOk_ord {o : Ord} (h : OrdOk o) : (∀ w ∈ ordW o, WordOk w ∧ w.length ≤ 44) ∧ (ordW o).length ≤ 8 := by
  have lit : ∀ {z : Str}, (TL.tl z).all (fun c => decide (c ≠ 32 ∧ c ≠ 10 ∧ c ≠ 35)) = true → (TL.tl z).isEmpty = false → z.length ≤ 44 → WordOk z ∧ z.length ≤ 44 := fun h1 h2 h3 => ⟨wordOk_lit h1 h2, h3⟩
  have nm : ∀ {z : Str}, isName z = true → WordOk z ∧ z.length ≤ 44 := fun h => ⟨wordOk_name h, by have := isName_len h; omega⟩
  cases o with
  | one w n =>
    obtain ⟨h1, h2⟩ := h
    refine ⟨fun z hz => ?_, by simp [ordW]⟩
    simp [ordW] at hz
    rcases hz with rfl | rfl
    · rcases h1 with rfl | rfl | rfl | rfl <;> exact lit (by decide) (by decide) (by decide)
    · exact nm h2
  | two w n m =>
    obtain ⟨h1, h2, h3⟩ := h
    refine ⟨fun z hz => ?_, by simp [ordW]⟩
    simp [ordW] at hz
    rcases hz with rfl | rfl | rfl
    · rcases h1 with rfl | rfl <;> exact lit (by decide) (by decide) (by decide)
    · exact nm h2
    · exact nm h3
  | word n pt =>
    obtain ⟨h1, h2⟩ := h
    refine ⟨fun z hz => ?_, ?_⟩
    · rcases List.mem_cons.mp hz with rfl | hz
      · exact lit (by decide) (by decide) (by decide)
      · rcases List.mem_cons.mp hz with rfl | hz
        · exact nm h1
        · exact ⟨wordOk_par h2 z hz, parW_len h2 z hz⟩
    · show (parW pt).length + 1 + 1 ≤ 8
      rw [par_len6 h2]
      decide
theorem row_ord {o : Ord} (h : OrdOk o) : RowOf (Txt.join " " (ordW o)) (ordW o) ∧ (Txt.join " " (ordW o)).length ≤ 1000 := by
  obtain ⟨h1, h2⟩ := wordOk_ord h
  have h3 := len_join (k := 44) " " (ordW o) fun w hw => (h1 w hw).2
  rw [show (" " : Str).length = 1 from rfl] at h3
  exact ⟨row_of (ord_ne o) (fun w hw => (h1 w hw).1) (by omega) (by omega), by omega⟩
section
variable {bks : Bks} {n m d z : Str} {o : Ord} {B C : Book} {text : Str}
theorem say_ask (e : text = Txt.join " " (ordW o)) (ho : OrdOk o) (ha : AskOk bks o z) : SayOk bks text z bks := by
  obtain ⟨h1, h2⟩ := row_ord ho
  rw [← e] at h1 h2
  exact .ask (by omega) (split_nl h1.nl) h1.line h1.words ho ha
theorem say_short (e : text = Txt.join " " [("shorter" : Str), n, m]) (hn : isName n = true) (hm : isName m = true) (hl : lookD bks m = some B) (hB : BookOk B) (hS : BkOk (shortC B)) : SayOk bks text ("ok " ++ numS (shortB B).total) (putD bks n (shortB B)) := by
  obtain ⟨h1, h2⟩ := row_ord (o := .two "shorter" n m) ⟨.inr rfl, hn, hm⟩
  have e : text = Txt.join " " (ordW (.two "shorter" n m)) := e
  rw [← e] at h1 h2
  exact .short (by omega) (split_nl h1.nl) h1.line h1.words hn hm hl hB hS
theorem say_book {b : Bool} {chs : Chs} {k : Str} {rs rs2 : List Rule} {sh : Nat → Int × Int → Str} (hW : WData b chs k rs rs2) (hs : IsSh sh) (hd : DfOk d) (hn : isName n = true) (e : text = "book " ++ n ++ "\n" ++ bookS sh d chs) :
    SayOk bks text ("ok " ++ numS (lenC 2 chs "main" : Nat)) (putD bks n (bk d chs)) := by
  obtain ⟨h1, h2⟩ := row_ord (o := .one "book" n) ⟨.inl rfl, hn⟩
  have e0 : Txt.join " " (ordW (.one "book" n)) = "book " ++ n := by
    show Txt.join " " [("book" : Str), n] = _
    rw [j2]
    rfl
  rw [e0] at h1 h2
  obtain ⟨q1, q2⟩ := hW.rowsOk hs hd
  have q3 := hW.textLen hs hd
  have et : text = Txt.join "\n" (("book " ++ n) :: bookRows sh d chs) := by
    rw [e]
    unfold bookS bookRows
    rw [join_eq, join_eq]
    rfl
  have hsp : Txt.split text "\n" = ("book " ++ n) :: bookRows sh d chs := by
    rw [et]
    refine split_join (s := 10) (S := []) rfl (by decide +kernel) (by simp) fun p hp => ?_
    rcases List.mem_cons.mp hp with rfl | hp
    · exact h1.nl
    · exact (q1 p hp).1
  have hit := hW.items
  have hlen : text.length ≤ 1000000 := by
    rw [e, len_app, len_app, show ("\n" : Str).length = 1 from rfl]
    omega
  have hsum := sum_le (k := 1500) (ss := bookRows sh d chs) fun s hs => (q1 s hs).2
  have := SayOk.book (bks := bks) (n := n) (d := d) (items := itemsOf chs) hlen hsp h1.line h1.words hn (hW.text hs hd) (by rw [hit]; exact hW.ok) (by omega)
  rw [hit] at this
  exact this
/-! the texts, as the law puts them together -/
theorem t_two (a : Str) (x y : Str) (h : x = a ++ " ") : x ++ y = Txt.join " " [a, y] := by rw [h, j2]
theorem t_show : ("show " : Str) ++ n = Txt.join " " (ordW (.one "show" n)) := by
  show _ = Txt.join " " [("show" : Str), n]
  rw [j2]
  rfl
theorem t_never : ("never " : Str) ++ n = Txt.join " " (ordW (.one "never" n)) := by
  show _ = Txt.join " " [("never" : Str), n]
  rw [j2]
  rfl
theorem t_boxes : ("boxes " : Str) ++ n = Txt.join " " (ordW (.one "boxes" n)) := by
  show _ = Txt.join " " [("boxes" : Str), n]
  rw [j2]
  rfl
theorem t_alike : ("alike " : Str) ++ n ++ " " ++ m = Txt.join " " (ordW (.two "alike" n m)) := by
  show _ = Txt.join " " [("alike" : Str), n, m]
  rw [j3]
  refine ext_tl ?_
  simp only [tl_append, List.append_assoc]
  rfl
theorem t_alike_s : ("alike s " : Str) ++ n = Txt.join " " (ordW (.two "alike" "s" n)) := by
  show _ = Txt.join " " [("alike" : Str), "s", n]
  rw [j3]
  refine ext_tl ?_
  simp only [tl_append, List.append_assoc]
  rfl
theorem t_alike_e : ("alike " : Str) ++ n ++ " s" = Txt.join " " (ordW (.two "alike" n "s")) := by
  show _ = Txt.join " " [("alike" : Str), n, "s"]
  rw [j3]
  refine ext_tl ?_
  simp only [tl_append, List.append_assoc]
  rfl
theorem t_short_s : ("shorter s " : Str) ++ n = Txt.join " " [("shorter" : Str), "s", n] := by
  rw [j3]
  refine ext_tl ?_
  simp only [tl_append, List.append_assoc]
  rfl
theorem t_short : ("shorter " : Str) ++ n ++ " " ++ m = Txt.join " " [("shorter" : Str), n, m] := by
  rw [j3]
  refine ext_tl ?_
  simp only [tl_append, List.append_assoc]
  rfl
theorem t_never_s : ("never s" : Str) = Txt.join " " (ordW (.one "never" "s")) := by decide +kernel
theorem t_show_s : ("show s" : Str) = Txt.join " " (ordW (.one "show" "s")) := by decide +kernel
theorem t_book_t (x : Str) : ("book t\n" : Str) ++ x = "book " ++ "t" ++ "\n" ++ x := by
  refine ext_tl ?_
  simp only [tl_append, List.append_assoc]
  rfl
theorem t_word_s {pt : List Int} (h : PtOk pt) : ("word s " : Str) ++ parS pt = Txt.join " " (ordW (.word "s" pt)) := by
  show _ = Txt.join " " (("word" : Str) :: "s" :: parW pt)
  unfold parS
  cases e : parW pt with
  | nil =>
    have := par_len6 h
    rw [e] at this
    cases this
  | cons a l =>
    have e1 : Txt.join " " (("word" : Str) :: "s" :: a :: l) = "word" ++ " " ++ ("s" ++ " " ++ Txt.join " " (a :: l)) := by
      rw [join_eq, join_eq]
      rfl
    rw [e1]
    refine ext_tl ?_
    simp only [tl_append, List.append_assoc]
    rfl
end
end
section
open PySem PySem.Spec PyProof.Rows L2 TL
section
variable {P : Program} {w : World} {K : PySem.W.Frag} {mg : Str → Option Value} {base : Heap}
theorem lookD_put_ne {bks : Bks} {n m : Str} {B : Book} (h : n ≠ m) : lookD (putD bks n B) m = lookD bks m := by
  rw [lookD_put, if_neg h]
theorem lookD_put_eq {bks : Bks} {n : Str} {B : Book} : lookD (putD bks n B) n = some B := by
  rw [lookD_put, if_pos rfl]
def sp_l_shorter (K : PySem.W.Frag) : Sp := Sp5 fun x y z u w H Q => ∃ (a bd : Addr) (bks : Bks) (d : Str) (chs : Chs) (ps : List (List Int)) (n : Str), DeskAt K H x a bd bks ∧ DfOk d ∧ WCh true chs ∧ PsOk ps ∧ isName n = true ∧ n ≠ "s" ∧ n ≠ "t" ∧ lookD bks n = some (bk d chs) ∧ bks.length ≤ 100 ∧
  Dt K H y (eLb d chs) ∧ Dt K H z (.lst (ps.map eInts)) ∧ u = .str n ∧ w = .int (lenC 2 chs "main" : Nat) ∧ ∀ H', But bd H H' → Q (.bl true) H'
def sN_l_shorter : List Str := ["_law_desk", "_law_book", "_law_parcels", "_law_name_here", "_law_length_here", "_law_held", "_law_answer", "_law_parcel_here", "_law_k"]
theorem sc_l_shorter : FnScope sN_l_shorter ["_law_desk", "_law_book", "_law_parcels", "_law_name_here", "_law_length_here"] (defScope s_l_shorter) := ⟨rfl, rfl, rfl, by decide +kernel, rfl, by decide +kernel, by decide +kernel⟩

theorem ok_l_shorter (T : Tx K mg) : Fd P w K mg base 12 (He.ga K "_law_shorter") ["_law_desk", "_law_book", "_law_parcels", "_law_name_here", "_law_length_here"] (sp_l_shorter K) := by
  have F_Desk_say := ok_Desk_say (P := P) (w := w) (base := base) T
  have F_l_words := ok_l_words (P := P) (w := w) (base := base) T
  have F_l_word := ok_l_word (P := P) (w := w) (base := base) T
  have F_show_book := ok_show_book (P := P) (w := w) (base := base) T
  have F_shorter := ok_shorter (P := P) (w := w) (base := base) T
  have F_read_book := ok_read_book (P := P) (w := w) (base := base) T
  have F_l_text := ok_l_text (P := P) (w := w) (base := base) T
  refine mkFd T.d_l_shorter sc_l_shorter (fun _ _ _ _ _ _ us hl => match us, hl with | [_, _, _, _, _], _ => rfl) (fun vs H Q E h => Sp5.len h) (fun cdv A outer s H vs Q E hr h => ?_)
  obtain ⟨x, y, z, u, w', rfl, a, bd, bks, d, chs, ps, n, hd, hdf, hw, hps, hn, hns, hnt, hl, hbl, hy, hz, rfl, rfl, k⟩ := h
  obtain ⟨nm, rs, rs2, hW⟩ := id hw
  obtain ⟨b', hS⟩ := hW.short d
  have hB := hW.book d
  have hSB : BookOk (shortB (bk d chs)) := hS.book d
  have hlL := hW.lenLe
  have hsL := hW.shortLen d
  have hnl := isName_len hn
  have hss : isName "s" = true := by decide +kernel
  have htt : isName "t" = true := by decide +kernel
  have hst : ("s" : Str) ≠ "t" := by decide
  have hBtx := hW.btx hdf
  have hStx : BookTx (shortB (bk d chs)) := hS.btx hdf
  have htotal : (shortB (bk d chs)).total = ((lenC 2 (shortC (bk d chs)) "main" : Nat) : Int) := rfl
  have hok10 := numS_len10 (n := ((lenC 2 (shortC (bk d chs)) "main" : Nat) : Int)) (by omega) (by omega)
  have hlb := putD_len bks ("s" : Str) (shortB (bk d chs))
  have hlb2 := putD_len (putD bks ("s" : Str) (shortB (bk d chs))) ("t" : Str) (shortB (bk d chs))
  have hl1 : lookD (putD bks "s" (shortB (bk d chs))) n = some (bk d chs) := by rw [lookD_put_ne (Ne.symm hns)]; exact hl
  have hl2 : lookD (putD (putD bks "s" (shortB (bk d chs))) "t" (shortB (bk d chs))) n = some (bk d chs) := by rw [lookD_put_ne (Ne.symm hnt)]; exact hl1
  have hl3 : lookD (putD (putD bks "s" (shortB (bk d chs))) "t" (shortB (bk d chs))) "s" = some (shortB (bk d chs)) := by rw [lookD_put_ne (Ne.symm hst)]; exact lookD_put_eq
  have hlt : (bookS shP d (shortC (bk d chs))).length ≤ 20000 := hS.textLen (sh := shP) (.inl rfl) hdf
  obtain ⟨ha1, ha2⟩ := hW.shortAlike d
  have hA1 : alikeS (shortB (bk d chs)) (bk d chs) = "alike" := by unfold alikeS; rw [ha1]
  have hA2 : alikeS (bk d chs) (shortB (bk d chs)) = "alike" := by unfold alikeS; rw [ha2]
  have hnames : ∀ p ∈ (shortB (bk d chs)).chains, p.1.length ≤ 12 := hStx.name
  refine ⟨_, (pss_cons (ps_set (i := 5) sc_l_shorter.nd rfl (.inl rfl) (pe_m (pv 0) T.c_Desk T.m_Desk_say F_Desk_say (hr.mono (by omega)) (pa_cons (pe_op op_addS pe_str (pv 3)) pa_nil)))
      (pss_cons (ps_set (i := 6) sc_l_shorter.nd rfl (.inl rfl) (pe_m (pv 0) T.c_Desk T.m_Desk_say F_Desk_say (hr.mono (by omega)) (pa_cons (pe_op op_addS pe_str (pv 3)) pa_nil)))
      (pss_cons (ps_if (pt_cmpR op_ne (pe_m (pv 0) T.c_Desk T.m_Desk_say F_Desk_say (hr.mono (by omega)) (pa_cons (pe_op op_addS pe_str (pe_m (pv 0) T.c_Desk T.m_Desk_say F_Desk_say (hr.mono (by omega)) (pa_cons pe_str pa_nil))) pa_nil)) (pv 6) (nomark _)) (pss_cons (ps_ret pe_bl)
      pss_nil) pss_nil)
      (pss_cons (ps_if (PW.pt (pw_or (pt_cmpR op_notIn_seq (pv 6) (pe_fz (pe_lc (own := [("_law_k", 8)]) rfl sc_l_shorter.nd (pi_range1 (by rfl) T.b_range (pa_cons (pe_op op_add (pv 4) pe_int) pa_nil)) (blkOk_by (own := [("_law_k", 8)]) (N := sN_l_shorter) (sc := defScope s_l_shorter) (by decide +kernel)) (fun _ _ _ _ _ => (pg_name (i := 8) sc_l_shorter.nd rfl (.inl rfl))) (fun _ _ _ _ _ => pts_nil) (fun _ _ _ _ _ => (pe_op op_addS pe_str (pe_callTy cl_strI (by rfl) T.b_str (by decide +kernel) (pa_cons (pv 8) pa_nil)))))) (by rfl)) (pw_or1 (pt_cmpR op_ne (pe_m (pv 0) T.c_Desk T.m_Desk_say F_Desk_say (hr.mono (by omega)) (pa_cons (pe_op op_addS pe_str (pv 3)) pa_nil)) pe_str (nomark _))))) (pss_cons (ps_ret pe_bl)
      pss_nil) pss_nil)
      (pss_cons (ps_if (PW.pt (pw_or (pt_cmpR op_ne (pe_m (pv 0) T.c_Desk T.m_Desk_say F_Desk_say (hr.mono (by omega)) (pa_cons (pe_op op_addS (pe_op op_addS pe_str (pv 3)) pe_str) pa_nil)) pe_str (nomark _)) (pw_or1 (pt_cmpR op_ne (pe_m (pv 0) T.c_Desk T.m_Desk_say F_Desk_say (hr.mono (by omega)) (pa_cons pe_str pa_nil)) pe_str (nomark _))))) (pss_cons (ps_ret pe_bl)
      pss_nil) pss_nil)
      (pss_cons (ps_for PassesOwn.never rfl (pi_list (pv 2)) (pg_name (i := 7) sc_l_shorter.nd rfl (.inl rfl)) (pss_cons (ps_if (pt_cmpR op_ne (pe_m (pv 0) T.c_Desk T.m_Desk_say F_Desk_say (hr.mono (by omega)) (pa_cons (pe_op op_addS pe_str (pe_f F_l_words (hr.mono (by omega)) (by rfl) T.g_l_words (pa_cons (pv 7) pa_nil))) pa_nil)) (pe_f F_l_word (hr.mono (by omega)) (by rfl) T.g_l_word (pa_cons (pv 1) (pa_cons (pv 7) pa_nil))) (nomark _)) (pss_cons (ps_ret pe_bl)
      pss_nil) pss_nil)
      pss_nil))
      (pss_cons (ps_if (pt_cmpR op_ne (pe_m (pv 0) T.c_Desk T.m_Desk_say F_Desk_say (hr.mono (by omega)) (pa_cons pe_str pa_nil)) (pe_f F_show_book (hr.mono (by omega)) (by rfl) T.g_show_book (pa_cons (pe_f F_shorter (hr.mono (by omega)) (by rfl) T.g_shorter (pa_cons (pe_f F_read_book (hr.mono (by omega)) (by rfl) T.g_read_book (pa_cons (pe_f F_l_text (hr.mono (by omega)) (by rfl) T.g_l_text (pa_cons (pv 1) pa_nil)) pa_nil)) pa_nil)) pa_nil)) (nomark _)) (pss_cons (ps_ret pe_bl)
      pss_nil) pss_nil)
      (pss_cons (ps_ret (pe_and (pe_cmpR op_eq (pe_m (pv 0) T.c_Desk T.m_Desk_say F_Desk_say (hr.mono (by omega)) (pa_cons (pe_op op_addS pe_str (pv 3)) pa_nil)) (pv 5) (nomark _)) (pe_one (pe_cmpR op_eq (pe_m (pv 0) T.c_Desk T.m_Desk_say F_Desk_say (hr.mono (by omega)) (pa_cons (pe_op op_addS (pe_op op_addS (pe_op op_addS pe_str (pv 3)) pe_str) (pv 3)) pa_nil)) (pv 6) (nomark _)))))
      pss_nil)))))))), ?_⟩
  try dsimp only [cxOf, Cx.nox, Cx.wish]
  repeat walk_at "w"
  refine m_desk hd ?_
  repeat walk_at "w"
  refine w_addS (by rw [show ("show " : Str).length = 5 from rfl]; omega) ?_
  repeat walk_at "w"
  refine Sp2.mk ⟨a, bd, bks, bks, _, _, hd, rfl, say_ask t_show ⟨.inr (.inl rfl), hn⟩ (.show hl hBtx), by omega, fun H1 b1 x1 hd1 => ?_⟩
  repeat walk_at "w"
  refine m_desk hd1 ?_
  repeat walk_at "w"
  refine w_addS (by rw [show ("shorter s " : Str).length = 10 from rfl]; omega) ?_
  repeat walk_at "w"
  refine Sp2.mk ⟨a, bd, bks, _, _, _, hd1, rfl, say_short t_short_s hss hn hl hB hS.ok, by omega, fun H2 b2 x2 hd2 => ?_⟩
  repeat walk_at "w"
  refine m_desk hd2 ?_
  repeat walk_at "w"
  refine m_desk hd2 ?_
  repeat walk_at "w"
  refine Sp2.mk ⟨a, bd, _, _, _, _, hd2, rfl, say_ask t_show_s ⟨.inr (.inl rfl), hss⟩ (.show lookD_put_eq hStx), by omega, fun H3 b3 x3 hd3 => ?_⟩
  refine w_addS (by rw [show ("book t\n" : Str).length = 7 from rfl]; show 7 + (bookS shP d (shortC (bk d chs))).length ≤ 16000000; omega) ?_
  repeat walk_at "w"
  refine Sp2.mk ⟨a, bd, _, _, _, _, hd3, rfl, say_book hS (sh := shP) (.inl rfl) hdf htt (t_book_t _), by omega, fun H4 b4 x4 hd4 => ?_⟩
  have hd4 : DeskAt K H4 x a bd (putD (putD bks "s" (shortB (bk d chs))) "t" (shortB (bk d chs))) := hd4
  have b04 : But bd H H4 := b4.tr (b3.tr (b2.tr b1))
  have x04 : Ext H H4 := Ext.tr x4 (Ext.tr x3 (Ext.tr x2 x1))
  repeat walk_at "w"
  rw [decide_eq_true (show ("ok " ++ numS ((lenC 2 (shortC (bk d chs)) "main" : Nat) : Int) : Str) = "ok " ++ numS (shortB (bk d chs)).total from rfl)]
  repeat walk_at "w"
  generalize hLL : lenC 2 chs "main" = L at *
  refine i_rng (K := K) (L + 1) (by push_cast; rfl) (by omega) fun J it => ?_
  refine f_lc (l := List.range (L + 1)) (emb := fun (i : Nat) => D.int (i : Nat)) it (fun (k : Nat) => some (.str ("ok " ++ numS (k : Nat)))) (by simp; omega) (fun _ _ => trivial) (fun i dd u H' Y N e s1 hu hY hN => ?_) fun p5 H5 xs5 np5 s5 hp5 r5 => ?_
  · have hdd : dd < L + 1 := by
      have := List.mem_of_getElem? e
      simpa using this
    cases hu
    repeat walk_at "w"
    refine ⟨rfl, ?_⟩
    repeat walk_at "w"
    refine w_strI (log_small (by omega) (by omega)) ?_
    have := numS_len10 (n := (dd : Nat)) (by omega) (by omega)
    refine w_addS (by rw [show ("ok " : Str).length = 3 from rfl]; show 3 + (numS (dd : Nat)).length ≤ 16000000; omega) ?_
    exact hY _ _ _ rfl (Same.refl _) (.str _)
  refine lcF np5 s5 hp5 r5 fun u6 H6 s6 hu6 => ?_
  rw [show (List.range (L + 1)).filterMap (fun (k : Nat) => some (D.str ("ok " ++ numS (k : Nat)))) = ((List.range (L + 1)).map fun (k : Nat) => ("ok " : Str) ++ numS (k : Nat)).map D.str by rw [List.map_map]; simp [Function.comp_def]] at hu6
  refine in_L (ss := (List.range (L + 1)).map fun (k : Nat) => ("ok " : Str) ++ numS (k : Nat)) (Dt.ls hu6) ?_
  rw [if_pos rfl, decide_eq_true (show ("ok " ++ numS (shortB (bk d chs)).total : Str) ∈ (List.range (L + 1)).map fun (k : Nat) => ("ok " : Str) ++ numS (k : Nat) from List.mem_map.mpr ⟨lenC 2 (shortC (bk d chs)) "main", List.mem_range.mpr (by omega), rfl⟩)]
  have hd6 := hd4.up s6
  have b06 : But bd H H6 := but_same s6 b04
  have x06 : Ext H H6 := Ext.tr s6.ext x04
  repeat walk_at "w"
  refine m_desk hd6 ?_
  repeat walk_at "w"
  refine w_addS (by rw [show ("alike s " : Str).length = 8 from rfl]; omega) ?_
  repeat walk_at "w"
  refine Sp2.mk ⟨a, bd, _, _, _, _, hd6, rfl, say_ask t_alike_s ⟨.inl rfl, hss, hn⟩ (.alike hl3 hl2 hSB hB), by omega, fun H7 b7 x7 hd7 => ?_⟩
  repeat walk_at "w"
  rw [decide_eq_true hA1]
  repeat walk_at "w"
  refine m_desk hd7 ?_
  repeat walk_at "w"
  refine w_addS (by rw [show ("alike " : Str).length = 6 from rfl]; omega) ?_
  repeat walk_at "w"
  refine w_addS (by rw [len_app, show ("alike " : Str).length = 6 from rfl, show (" s" : Str).length = 2 from rfl]; omega) ?_
  repeat walk_at "w"
  refine Sp2.mk ⟨a, bd, _, _, _, _, hd7, rfl, say_ask t_alike_e ⟨.inl rfl, hn, hss⟩ (.alike hl2 hl3 hB hSB), by omega, fun H8 b8 x8 hd8 => ?_⟩
  repeat walk_at "w"
  rw [decide_eq_true hA2]
  repeat walk_at "w"
  refine m_desk hd8 ?_
  repeat walk_at "w"
  refine Sp2.mk ⟨a, bd, _, _, _, _, hd8, rfl, say_ask t_never_s ⟨.inr (.inr (.inr rfl)), hss⟩ (.never hl3 hSB hnames), by omega, fun H9 b9 x9 hd9 => ?_⟩
  repeat walk_at "w"
  rw [decide_eq_true (hW.shortNever d)]
  have b09 : But bd H H9 := b9.tr (b8.tr (b7.tr b06))
  have x09 : Ext H H9 := Ext.tr x9 (Ext.tr x8 (Ext.tr x7 x06))
  repeat walk_at "w"
  refine i_list (hz.up x09) (Ext.refl _) fun J2 it2 => ?_
  generalize hbb : putD (putD bks "s" (shortB (bk d chs))) "t" (shortB (bk d chs)) = bks2 at *
  refine f_for it2 (fun i σ H' => ∃ (e7 : Option V), σ = [some x, some y, some z, some (.str n), some (.int (L : Nat)), some (.str (bookS shP (bk d chs).dflt (bk d chs).chains)), some (.str ("ok " ++ numS (shortB (bk d chs)).total)), e7, none] ∧ But bd H9 H' ∧ Ext H9 H' ∧ DeskAt K H' x a bd bks2) ⟨_, rfl, fun _ _ _ h => h, Ext.refl _, hd9⟩ (fun i σ H' ⟨_, _, _, x, _⟩ => x) ?_ ?_
  · rintro i dd u σ H' H10 e1 ⟨_, rfl, b10, x10, hd10⟩ s11 hu
    rw [List.getElem?_map, Option.map_eq_some_iff] at e1
    obtain ⟨p, e1, rfl⟩ := e1
    have hpm := List.mem_of_getElem? e1
    have h6 := hps.six p hpm
    have he := hps.has p hpm
    have hpt := pt_of h6 he
    have hpl := parS_len hpt
    repeat walk_at "w"
    refine m_desk (hd10.up s11) ?_
    repeat walk_at "w"
    refine Sp1.mk ⟨p, hpt, hu, fun H11 s12 => ?_⟩
    refine w_addS (by rw [show ("word s " : Str).length = 7 from rfl]; omega) ?_
    repeat walk_at "w"
    refine Sp2.mk ⟨a, bd, _, _, _, _, (hd10.up s11).up s12, rfl, say_ask (t_word_s hpt) ⟨hss, hpt⟩ (.word hl3 hSB hpt), by omega, fun H12 b12 x12 hd12 => ?_⟩
    have x912 : Ext H9 H12 := (by walk_at "ext")
    repeat walk_at "w"
    refine Sp2.mk ⟨d, chs, p, hw, h6, hy.up (Ext.tr x912 x09), hu.up (Ext.tr x12 s12.ext), fun H13 s13 => ?_⟩
    repeat walk_at "w"
    rw [decide_eq_true (hW.shortWord d h6 he)]
    repeat walk_at "w"
    exact ⟨_, rfl, but_same s13 (b12.tr (but_same s12 (but_same s11 b10))), Ext.tr s13.ext x912, hd12.up s13⟩
  · rintro σ H' ⟨_, rfl, b10, x10, hd10⟩
    have b010 : But bd H H' := b10.tr b09
    have x010 : Ext H H' := Ext.tr x10 x09
    repeat walk_at "w"
    refine m_desk hd10 ?_
    repeat walk_at "w"
    refine Sp2.mk ⟨a, bd, _, _, _, _, hd10, rfl, say_ask t_show_s ⟨.inr (.inl rfl), hss⟩ (.show hl3 hStx), by omega, fun H11 b11 x11 hd11 => ?_⟩
    repeat walk_at "w"
    refine Sp1.mk ⟨d, chs, hW.ltx hdf, hy.up (Ext.tr x11 x010), fun H12 s12 => ?_⟩
    repeat walk_at "w"
    refine Sp1.mk ⟨bookS shL d chs, d, itemsOf chs, hW.text (.inr rfl) hdf, by rw [hW.items]; exact hW.ok, rfl, fun v13 H13 s13 hv13 => ?_⟩
    rw [hW.items] at hv13
    repeat walk_at "w"
    refine Sp1.mk ⟨bk d chs, hB, hS.ok, hv13, fun v14 H14 s14 hv14 => ?_⟩
    repeat walk_at "w"
    refine Sp1.mk ⟨shortB (bk d chs), hStx, hv14, fun H15 s15 => ?_⟩
    repeat walk_at "w"
    rw [decide_eq_true (rfl : bookS shP (shortB (bk d chs)).dflt (shortB (bk d chs)).chains = bookS shP (shortB (bk d chs)).dflt (shortB (bk d chs)).chains)]
    have s1115 : Same H11 H15 := (by walk_at "same")
    have hd15 := hd11.up s1115
    have b015 : But bd H H15 := but_same s1115 (b11.tr b010)
    repeat walk_at "w"
    refine m_desk hd15 ?_
    repeat walk_at "w"
    refine w_addS (by rw [show ("show " : Str).length = 5 from rfl]; omega) ?_
    repeat walk_at "w"
    refine Sp2.mk ⟨a, bd, _, _, _, _, hd15, rfl, say_ask t_show ⟨.inr (.inl rfl), hn⟩ (.show hl2 hBtx), by omega, fun H16 b16 x16 hd16 => ?_⟩
    repeat walk_at "w"
    rw [decide_eq_true (rfl : bookS shP (bk d chs).dflt (bk d chs).chains = bookS shP (bk d chs).dflt (bk d chs).chains)]
    repeat walk_at "w"
    refine m_desk hd16 ?_
    repeat walk_at "w"
    refine w_addS (by rw [show ("shorter " : Str).length = 8 from rfl]; omega) ?_
    repeat walk_at "w"
    refine w_addS (by rw [len_app, show ("shorter " : Str).length = 8 from rfl, show (" " : Str).length = 1 from rfl]; omega) ?_
    repeat walk_at "w"
    refine w_addS (by rw [len_app, len_app, show ("shorter " : Str).length = 8 from rfl, show (" " : Str).length = 1 from rfl]; omega) ?_
    repeat walk_at "w"
    refine Sp2.mk ⟨a, bd, _, _, _, _, hd16, rfl, say_short t_short hn hn hl2 hB hS.ok, by omega, fun H17 b17 x17 hd17 => ?_⟩
    repeat walk_at "w"
    rw [decide_eq_true (rfl : ("ok " ++ numS (shortB (bk d chs)).total : Str) = "ok " ++ numS (shortB (bk d chs)).total)]
    repeat walk_at "w"
    exact k H17 (b17.tr (b16.tr b015))
end
end
section
open PySem PySem.Spec PyProof.Rows L2 TL
/-- names of the desk's books -/
theorem cutS_tl (z : Str) (k : Nat) : tl (cutS z none (some (k : Int))) = (tl z).take k := by
  unfold cutS
  rw [HT.sIx_nat, HT.sIx_none, Nat.sub_zero]
  show ((z.cps.toList.drop 0).take (min k z.length)) = _
  rw [List.drop_zero, show z.cps.toList = tl z from rfl, len_tl]
  by_cases h : k ≤ (tl z).length
  · rw [Nat.min_eq_left h]
  · rw [List.take_of_length_le (by omega), List.take_of_length_le (by omega)]
theorem name_pre {n : Str} {c : Nat} {p : Str} (hp : tl p = [c]) (hc : 97 ≤ c ∧ c ≤ 122) (hn : isName n = true) : isName (p ++ cutS n none (some ((11 : Nat) : Int))) = true ∧ (tl (p ++ cutS n none (some ((11 : Nat) : Int))))[0]? = some c := by
  obtain ⟨h1, h2, h3⟩ := isName_iff.mp hn
  have e : tl (p ++ cutS n none (some ((11 : Nat) : Int))) = c :: (tl n).take 11 := by
    rw [tl_append, cutS_tl, hp]
    rfl
  refine ⟨isName_iff.mpr ⟨?_, ?_, ?_⟩, by rw [e]; rfl⟩
  · rw [len_tl, e]
    simp
  · rw [len_tl, e, List.length_cons, List.length_take]
    omega
  · rw [e]
    intro x hx
    rcases List.mem_cons.mp hx with rfl | hx
    · exact hc
    · exact h3 x (List.mem_of_mem_take hx)
theorem rgc3 (k : Nat) (h : k ≤ 63) : RgC 0 ((k : Int) + 1) 3 (k / 3 + 1) := by
  have : ∀ k : Fin 64, RgC 0 ((k.1 : Int) + 1) 3 (k.1 / 3 + 1) := by
    intro k
    refine ⟨by decide, by decide, ?_, ?_⟩
    · revert k
      decide +kernel
    · revert k
      decide +kernel
  exact this ⟨k, by omega⟩
section
variable {P : Program} {w : World} {K : PySem.W.Frag} {mg : Str → Option Value} {base : Heap}
/-- a comprehension whose items are only known to be so -/
theorem f_lcR {σ : L2.St} {H : Hp} {Q : VK} {te : TE} {α β : Type} {emb : α → D} {emb2 : β → D} (R : β → Prop) {g : TG} {tt : TT} {vs : List Nat} {J : It} {C : Hp → Prop} {l : List α} (it : ItD K C J (l.map emb)) (hz : l.length ≤ 16000000) (hc : ∀ H', Same H H' → C H')
    (hs : ∀ (i : Nat) (d : α) u H' (Y : VK) (N : Hp → Prop), l[i]? = some d → Same H H' → Dt K H' u (emb d) → (∀ y H3 b, R b → Same H' H3 → Dt K H3 y (emb2 b) → Y y H3) →
      g u (wipe σ vs) H' fun σ2 H2 => wipe σ2 vs = wipe σ vs ∧ tt σ2 H2 fun b H3 => if b = true then te σ2 H3 Y else N H3)
    (k : ∀ p H' (xs : List V) (bs : List β), H p = none → Same H H' → H' p = some (.lst xs) → DtAll K H' xs (bs.map emb2) → (∀ b ∈ bs, R b) → bs.length = l.length → Q (.ref p) H') : LcR g tt te vs σ Q J H := by
  intro p np
  refine ⟨fun i m H' => m = l.length - i ∧ i ≤ l.length ∧ Same H H' ∧ ∃ (xs : List V) (bs : List β), H' p = some (.lst xs) ∧ DtAll K H' xs (bs.map emb2) ∧ (∀ b ∈ bs, R b) ∧ bs.length = i, ⟨l.length, by simp, Nat.zero_le _, Same.new np, [], [], upd_same, .nil, by simp, rfl⟩, ?_⟩
  rintro i m H' ⟨rfl, hi, s1, xs, bs, hp, r, hR, hbl⟩
  by_cases hlt : i < l.length
  · have hlt' : i < (l.map emb).length := by rw [List.length_map]; exact hlt
    refine .inr ⟨it.go i H' hlt' (hc _ s1), fun H2 => Same H H2 ∧ ∃ (xs : List V) (bs : List β), H2 p = some (.lst xs) ∧ DtAll K H2 xs (bs.map emb2) ∧ (∀ b ∈ bs, R b) ∧ bs.length = i + 1, fun H2 p' => ⟨l.length - (i + 1), by omega, rfl, hlt, p'⟩, fun x H2 y => ?_⟩
    obtain ⟨d, e, s, hu⟩ := it.yld i H' x H2 hlt' (hc _ s1) y
    rw [List.getElem?_map, Option.map_eq_some_iff] at e
    obtain ⟨a, ea, rfl⟩ := e
    refine hs i a x H2 _ _ ea (s1.trans s) hu (fun y H3 b hb s3 hy => ?_)
    have s4 : Same H' H3 := s.trans s3
    have hl := r.length
    rw [List.length_map] at hl
    refine ⟨xs, s4 _ _ hp, szlN (by omega), (Same.mut (s1.trans s4) np), xs ++ [y], bs ++ [b], upd_same, ?_, fun b2 h2 => ?_, by simp [hbl]⟩
    · have ex : Ext H3 (upd H3 p (.lst (xs ++ [y]))) := Ext.mut (s4 _ _ hp) rfl
      rw [List.map_append]
      exact ((r.up s4.ext).snoc hy).up ex
    · rcases List.mem_append.mp h2 with h2 | h2
      · exact hR b2 h2
      · rw [List.mem_singleton.mp h2]
        exact hb
  · have e : i = l.length := by omega
    subst e
    refine .inl ⟨?_, k p H' xs bs np s1 hp r hR hbl⟩
    have q := it.stop H' (hc _ s1)
    rw [List.length_map] at q
    exact q
theorem w_unl2 {σ : L2.St} {H : Hp} {v : V} {n i j : Nat} {q : L2.St → Hp → Prop} {da db : D} (h : Dt K H v (.lst [da, db])) (hn : n = 2) (k : ∀ u1 u2, Dt K H u1 da → Dt K H u2 db → q ((σ.set i (some u1)).set j (some u2)) H) :
    gUnl K n (gCons (gName i) (gCons (gName j) gNil)) v σ H q := by
  obtain ⟨a, xs, o, rfl, s, r⟩ := h.lstI
  cases r with
  | cons h1 r =>
    cases r with
    | cons h2 r =>
      cases r
      exact ⟨a, _, rfl, sqL_frz s, hn.symm, _, _, rfl, _, _, rfl, rfl, k _ _ h1 h2⟩
def sp_law (K : PySem.W.Frag) : Sp := Sp1 fun x H Q => ∃ (s : List Int), s.length ≤ 63 ∧ ScL K H x s ∧ ∀ H', Q (.bl true) H'
def sN_law : List Str := ["_law_script", "_law_one", "_law_other", "_law_marks_here", "_law_parcels", "_law_name_here", "_law_its", "_law_desk", "_law_k"]
theorem sc_law : FnScope sN_law ["_law_script"] (defScope s_law) := ⟨rfl, rfl, rfl, by decide +kernel, rfl, by decide +kernel, by decide +kernel⟩

theorem law_body (T : Tx K mg) (cdv : Value) (A : Around) (outer : List Env) (s : Shared) (H : Hp) (vs : List V) (Q : VK) (E : XK) (hr : Room 12 (A.deeper (envOfC "law" (defScope s_law) s.heap.objs.size (He.ga K "law") cdv))) (h : sp_law K vs H Q E) :
    ∃ t, PSs (cxOf CX0 P w K mg base sN_law "law" (defScope s_law) (He.ga K "law") cdv A outer s H E).nox (defBody s_law) t ∧ t { nx := fun _ H' => Q .non H', rt := Q } (start sN_law vs) H := by
  have F_l_books := ok_l_books (P := P) (w := w) (base := base) T
  have F_l_marks := ok_l_marks (P := P) (w := w) (base := base) T
  have F_l_parcel := ok_l_parcel (P := P) (w := w) (base := base) T
  have F_l_cell_at := ok_l_cell_at (P := P) (w := w) (base := base) T
  have F_l_name := ok_l_name (P := P) (w := w) (base := base) T
  have F_Desk_init := ok_Desk_init (P := P) (w := w) (base := base) T
  have F_Desk_say := ok_Desk_say (P := P) (w := w) (base := base) T
  have F_l_text := ok_l_text (P := P) (w := w) (base := base) T
  have F_l_length := ok_l_length (P := P) (w := w) (base := base) T
  have F_l_alike := ok_l_alike (P := P) (w := w) (base := base) T
  have F_l_boxes_told := ok_l_boxes_told (P := P) (w := w) (base := base) T
  have F_l_never := ok_l_never (P := P) (w := w) (base := base) T
  have F_l_shorter := ok_l_shorter (P := P) (w := w) (base := base) T
  
  obtain ⟨x, rfl, s, hsl, hx, k⟩ := h
  refine ⟨_, (pss_cons (ps_asg (pe_f F_l_books (hr.mono (by omega)) (by rfl) T.g_l_books (pa_cons (pv 0) pa_nil)) (pg_unl rfl (pgs_cons (pg_name (i := 1) sc_law.nd rfl (.inl rfl)) (pgs_cons (pg_name (i := 2) sc_law.nd rfl (.inl rfl)) pgs_nil))))
      (pss_cons (ps_set (i := 3) sc_law.nd rfl (.inr rfl) (pe_f F_l_marks (hr.mono (by omega)) (by rfl) T.g_l_marks (pa_cons (pv 0) pa_nil)))
      (pss_cons (ps_fz (ps_setLc (i := 4) (own := [("_law_k", 8)]) rfl sc_law.nd rfl rfl (sw_true rfl rfl rfl (by decide +kernel)) (pi_range3 (by rfl) T.b_range (pa_cons pe_int (pa_cons (pe_op op_add (pe_callB cl_lenQ (by rfl) T.b_len PySem.boot_len (pa_cons (pv 0) pa_nil)) pe_int) (pa_cons pe_int pa_nil)))) (blkOk_by (own := [("_law_k", 8)]) (N := sN_law) (sc := defScope s_law) (by decide +kernel)) (fun _ _ _ _ _ => (pg_name (i := 8) sc_law.nd rfl (.inl rfl))) (fun _ _ _ _ _ => pts_nil) (fun _ _ _ _ _ => (pe_f F_l_parcel (hr.mono (by omega)) (by rfl) T.g_l_parcel (pa_cons (pv 3) (pa_cons (pe_f F_l_cell_at (hr.mono (by omega)) (by rfl) T.g_l_cell_at (pa_cons (pv 0) (pa_cons (pv 8) pa_nil))) (pa_cons (pv 8) pa_nil)))))))
      (pss_cons (ps_set (i := 5) sc_law.nd rfl (.inl rfl) (pe_op op_addS pe_str (pe_slice sl_str (pe_f F_l_name (hr.mono (by omega)) (by rfl) T.g_l_name (pa_cons (pe_f F_l_cell_at (hr.mono (by omega)) (by rfl) T.g_l_cell_at (pa_cons (pv 0) (pa_cons pe_int pa_nil))) pa_nil)) po_none (po_some pe_int))))
      (pss_cons (ps_set (i := 6) sc_law.nd rfl (.inl rfl) (pe_op op_addS pe_str (pe_slice sl_str (pe_f F_l_name (hr.mono (by omega)) (by rfl) T.g_l_name (pa_cons (pe_op op_fdiv (pe_f F_l_cell_at (hr.mono (by omega)) (by rfl) T.g_l_cell_at (pa_cons (pv 0) (pa_cons pe_int pa_nil))) pe_int) pa_nil)) po_none (po_some pe_int))))
      (pss_cons (ps_set (i := 7) sc_law.nd rfl (.inl rfl) (pe_k0 T.mk_Desk F_Desk_init (hr.mono (by omega)) (by rfl) T.g_Desk))
      (pss_cons (ps_if (pt_cmpR op_ne (pe_m (pv 7) T.c_Desk T.m_Desk_say F_Desk_say (hr.mono (by omega)) (pa_cons (pe_op op_addS (pe_op op_addS (pe_op op_addS pe_str (pv 5)) pe_str) (pe_f F_l_text (hr.mono (by omega)) (by rfl) T.g_l_text (pa_cons (pv 1) pa_nil))) pa_nil)) (pe_op op_addS pe_str (pe_callTy cl_strI (by rfl) T.b_str (by decide +kernel) (pa_cons (pe_f F_l_length (hr.mono (by omega)) (by rfl) T.g_l_length (pa_cons (pv 1) pa_nil)) pa_nil))) (nomark _)) (pss_cons (ps_ret pe_bl)
      pss_nil) pss_nil)
      (pss_cons (ps_if (pt_cmpR op_ne (pe_m (pv 7) T.c_Desk T.m_Desk_say F_Desk_say (hr.mono (by omega)) (pa_cons (pe_op op_addS (pe_op op_addS (pe_op op_addS pe_str (pv 6)) pe_str) (pe_f F_l_text (hr.mono (by omega)) (by rfl) T.g_l_text (pa_cons (pv 2) pa_nil))) pa_nil)) (pe_op op_addS pe_str (pe_callTy cl_strI (by rfl) T.b_str (by decide +kernel) (pa_cons (pe_f F_l_length (hr.mono (by omega)) (by rfl) T.g_l_length (pa_cons (pv 2) pa_nil)) pa_nil))) (nomark _)) (pss_cons (ps_ret pe_bl)
      pss_nil) pss_nil)
      (pss_cons (ps_if (pt_not (pt_val (pe_f F_l_alike (hr.mono (by omega)) (by rfl) T.g_l_alike (pa_cons (pe_m (pv 7) T.c_Desk T.m_Desk_say F_Desk_say (hr.mono (by omega)) (pa_cons (pe_op op_addS (pe_op op_addS (pe_op op_addS pe_str (pv 5)) pe_str) (pv 6)) pa_nil)) (pa_cons (pv 1) (pa_cons (pv 2) (pa_cons (pv 4) pa_nil))))))) (pss_cons (ps_ret pe_bl)
      pss_nil) pss_nil)
      (pss_cons (ps_if (PW.pt (pw_or (pt_not (pt_val (pe_f F_l_never (hr.mono (by omega)) (by rfl) T.g_l_never (pa_cons (pe_m (pv 7) T.c_Desk T.m_Desk_say F_Desk_say (hr.mono (by omega)) (pa_cons (pe_op op_addS pe_str (pv 5)) pa_nil)) (pa_cons (pv 1) (pa_cons (pv 4) pa_nil)))))) (pw_or1 (pt_cmpR op_ne (pe_m (pv 7) T.c_Desk T.m_Desk_say F_Desk_say (hr.mono (by omega)) (pa_cons (pe_op op_addS pe_str (pv 6)) pa_nil)) (pe_f F_l_boxes_told (hr.mono (by omega)) (by rfl) T.g_l_boxes_told (pa_cons (pv 2) pa_nil)) (nomark _))))) (pss_cons (ps_ret pe_bl)
      pss_nil) pss_nil)
      (pss_cons (ps_ret (pe_f F_l_shorter (hr.mono (by omega)) (by rfl) T.g_l_shorter (pa_cons (pv 7) (pa_cons (pv 1) (pa_cons (pv 4) (pa_cons (pv 5) (pa_cons (pe_f F_l_length (hr.mono (by omega)) (by rfl) T.g_l_length (pa_cons (pv 1) pa_nil)) pa_nil)))))))
      pss_nil))))))))))), ?_⟩
  try dsimp only [cxOf, Cx.nox, Cx.wish]
  repeat walk_at "w"
  refine Sp1.mk ⟨s, hx, fun v1 H1 d1 d2 c1 c2 s1 hd1 hd2 hw1 hw2 hv1 => ?_⟩
  refine w_unl2 hv1 rfl fun u1 u2 hu1 hu2 => ?_
  repeat walk_at "w"
  refine Sp1.mk ⟨s, hx.up (by walk_at "ext"), fun v3 H3 s3 hv3 => ?_⟩
  repeat walk_at "w"
  refine w_lenSc (hx.up (by walk_at "ext")) ?_
  repeat walk_at "w"
  refine i_rng3 (K := K) (s.length / 3 + 1) (rgc3 _ hsl) fun J it => ?_
  refine f_lcR (R := fun pt : List Int => pt.length = 6 ∧ hasB every pt = true) (emb2 := eInts) (l := List.range (s.length / 3 + 1)) (emb := fun (m : Nat) => D.int (0 + (m : Int) * 3)) it (by simp; omega) (fun _ _ => trivial) (fun i m u H' Y N e s4 hu hY => ?_) fun p4 H4 xs4 ps np4 s4 hp4 r4 hR hpl => ?_
  · have hm : m < s.length / 3 + 1 := by
      have := List.mem_of_getElem? e
      simpa using this
    cases hu
    rw [show (0 + (m : Int) * 3) = ((m * 3 : Nat) : Int) by push_cast; omega]
    repeat walk_at "w"
    refine ⟨rfl, ?_⟩
    repeat walk_at "w"
    refine Sp2.mk ⟨s, ((m * 3 : Nat) : Int), by omega, hx.up (by walk_at "ext"), rfl, ?_⟩
    repeat walk_at "w"
    refine Sp3.mk ⟨s, _, m * 3, by omega, hv3.up (by walk_at "ext"), rfl, rfl, fun v5 H5 pt s5 h6 hh hv5 => ?_⟩
    exact hY _ _ pt ⟨h6, hh⟩ s5 hv5
  refine lcZ np4 s4 hp4 r4 fun v4 H5 s5 hv4 => ?_
  have hps : PsOk ps := ⟨fun p hp => (hR p hp).1, fun p hp => (hR p hp).2, by rw [hpl]; simp; omega⟩
  repeat walk_at "w"
  refine Sp2.mk ⟨s, 29, by omega, hx.up (by walk_at "ext"), rfl, ?_⟩
  repeat walk_at "w"
  refine Sp1.mk ⟨_, rfl, fun n hn => ?_⟩
  repeat walk_at "w"
  have hnl := isName_len hn.nm
  refine sl_S (szN (by omega)) ?_
  obtain ⟨hun, hu0⟩ : isName (("u" : Str) ++ cutS n none (some (11 : Int))) = true ∧ (tl (("u" : Str) ++ cutS n none (some (11 : Int))))[0]? = some 117 := name_pre (p := "u") rfl (by decide) hn.nm
  have hul := isName_len hun
  refine w_addS (by rw [← len_app]; omega) ?_
  generalize ("u" : Str) ++ cutS n none (some (11 : Int)) = un at *
  repeat walk_at "w"
  refine Sp2.mk ⟨s, 29, by omega, hx.up (by walk_at "ext"), rfl, ?_⟩
  repeat walk_at "w"
  refine w_I ⟨by decide, by decide⟩ ?_
  repeat walk_at "w"
  refine Sp1.mk ⟨_, rfl, fun n2 hn2 => ?_⟩
  repeat walk_at "w"
  have hnl2 := isName_len hn2.nm
  refine sl_S (szN (by omega)) ?_
  obtain ⟨hvn, hv0⟩ : isName (("v" : Str) ++ cutS n2 none (some (11 : Int))) = true ∧ (tl (("v" : Str) ++ cutS n2 none (some (11 : Int))))[0]? = some 118 := name_pre (p := "v") rfl (by decide) hn2.nm
  have hvl := isName_len hvn
  refine w_addS (by rw [← len_app]; omega) ?_
  generalize ("v" : Str) ++ cutS n2 none (some (11 : Int)) = vn at *
  have huv : un ≠ vn := fun e => by
    rw [e, hv0] at hu0
    cases hu0
  have hus : un ≠ "s" := fun e => by
    rw [e] at hu0
    exact absurd hu0 (by decide)
  have hut : un ≠ "t" := fun e => by
    rw [e] at hu0
    exact absurd hu0 (by decide)
  have s05 : Same H1 H5 := (by walk_at "same")
  have hu1 := hu1.up s05.ext
  have hu2 := hu2.up s05.ext
  obtain ⟨nm1, rs1, qs1, hW1⟩ := id hw1
  obtain ⟨nm2, rs2, qs2, hW2⟩ := id hw2
  have hB1 := hW1.book d1
  have hB2 := hW2.book d2
  have hl1 := hW1.textLen (sh := shL) (.inr rfl) hd1
  have hl2 := hW2.textLen (sh := shL) (.inr rfl) hd2
  have hn1 := hW1.lenLe
  have hn2' := hW2.lenLe
  repeat walk_at "w"
  refine make_i fun a dx H6 na s6 ha => ?_
  refine Sp1.mk ⟨a, dx, H5, rfl, na, s6, ha, fun H7 bd s7 nbd hd7 => ⟨rfl, ?_⟩⟩
  have hu17 := hu1.up s7.ext
  have hu27 := hu2.up s7.ext
  have hv47 := hv4.up s7.ext
  repeat walk_at "w"
  refine m_desk hd7 ?_
  repeat walk_at "w"
  refine w_addS (by rw [show ("book " : Str).length = 5 from rfl]; omega) ?_
  repeat walk_at "w"
  refine w_addS (by rw [len_app, show ("book " : Str).length = 5 from rfl, show ("\n" : Str).length = 1 from rfl]; omega) ?_
  repeat walk_at "w"
  refine Sp1.mk ⟨d1, c1, hW1.ltx hd1, hu17, fun H8 s8 => ?_⟩
  refine w_addS (by rw [len_app, len_app, show ("book " : Str).length = 5 from rfl, show ("\n" : Str).length = 1 from rfl]; omega) ?_
  repeat walk_at "w"
  refine Sp2.mk ⟨a, bd, [], _, _, _, hd7.up s8, rfl, say_book hW1 (sh := shL) (.inr rfl) hd1 hun rfl, by simp, fun H9 b9 x9 hd9 => ?_⟩
  have x79 : Ext H7 H9 := Ext.tr x9 s8.ext
  repeat walk_at "w"
  refine Sp1.mk ⟨d1, c1, hw1, hu17.up x79, fun H10 s10 => ?_⟩
  repeat walk_at "w"
  refine w_strI (log_small (by omega) (by omega)) ?_
  have hn1s := numS_len10 (n := ((lenC 2 c1 "main" : Nat) : Int)) (by omega) (by omega)
  refine w_addS (by rw [show ("ok " : Str).length = 3 from rfl]; show 3 + (numS ((lenC 2 c1 "main" : Nat) : Int)).length ≤ 16000000; omega) ?_
  repeat walk_at "w"
  rw [decide_eq_true (show ("ok " ++ numS ((lenC 2 c1 "main" : Nat) : Int) : Str) = "ok " ++ Str.ofString (toString ((lenC 2 c1 "main" : Nat) : Int)) from rfl)]
  have hd10 := hd9.up s10
  have x710 : Ext H7 H10 := Ext.tr s10.ext x79
  repeat walk_at "w"
  refine m_desk hd10 ?_
  repeat walk_at "w"
  refine w_addS (by rw [show ("book " : Str).length = 5 from rfl]; omega) ?_
  repeat walk_at "w"
  refine w_addS (by rw [len_app, show ("book " : Str).length = 5 from rfl, show ("\n" : Str).length = 1 from rfl]; omega) ?_
  repeat walk_at "w"
  refine Sp1.mk ⟨d2, c2, hW2.ltx hd2, hu27.up x710, fun H11 s11 => ?_⟩
  refine w_addS (by rw [len_app, len_app, show ("book " : Str).length = 5 from rfl, show ("\n" : Str).length = 1 from rfl]; omega) ?_
  repeat walk_at "w"
  refine Sp2.mk ⟨a, bd, _, _, _, _, hd10.up s11, rfl, say_book hW2 (sh := shL) (.inr rfl) hd2 hvn rfl, by have := putD_len ([] : Bks) un (bk d1 c1); simp at this; omega, fun H12 b12 x12 hd12 => ?_⟩
  have hb1 := putD_len ([] : Bks) un (bk d1 c1)
  have hb2 := putD_len (putD ([] : Bks) un (bk d1 c1)) vn (bk d2 c2)
  have hbl : (putD (putD ([] : Bks) un (bk d1 c1)) vn (bk d2 c2)).length ≤ 2 := by
    simp at hb1
    omega
  have hlu : lookD (putD (putD ([] : Bks) un (bk d1 c1)) vn (bk d2 c2)) un = some (bk d1 c1) := by rw [lookD_put_ne (Ne.symm huv)]; exact lookD_put_eq
  have hlv : lookD (putD (putD ([] : Bks) un (bk d1 c1)) vn (bk d2 c2)) vn = some (bk d2 c2) := lookD_put_eq
  generalize putD (putD ([] : Bks) un (bk d1 c1)) vn (bk d2 c2) = bks at *
  have x712 : Ext H7 H12 := Ext.tr x12 (Ext.tr s11.ext x710)
  repeat walk_at "w"
  refine Sp1.mk ⟨d2, c2, hw2, hu27.up x712, fun H13 s13 => ?_⟩
  repeat walk_at "w"
  refine w_strI (log_small (by omega) (by omega)) ?_
  have hn2s := numS_len10 (n := ((lenC 2 c2 "main" : Nat) : Int)) (by omega) (by omega)
  refine w_addS (by rw [show ("ok " : Str).length = 3 from rfl]; show 3 + (numS ((lenC 2 c2 "main" : Nat) : Int)).length ≤ 16000000; omega) ?_
  repeat walk_at "w"
  rw [decide_eq_true (show ("ok " ++ numS ((lenC 2 c2 "main" : Nat) : Int) : Str) = "ok " ++ Str.ofString (toString ((lenC 2 c2 "main" : Nat) : Int)) from rfl)]
  have hd13 := hd12.up s13
  have x713 : Ext H7 H13 := Ext.tr s13.ext x712
  repeat walk_at "w"
  refine m_desk hd13 ?_
  repeat walk_at "w"
  refine w_addS (by rw [show ("alike " : Str).length = 6 from rfl]; omega) ?_
  repeat walk_at "w"
  refine w_addS (by rw [len_app, show ("alike " : Str).length = 6 from rfl, show (" " : Str).length = 1 from rfl]; omega) ?_
  repeat walk_at "w"
  refine w_addS (by rw [len_app, len_app, show ("alike " : Str).length = 6 from rfl, show (" " : Str).length = 1 from rfl]; omega) ?_
  repeat walk_at "w"
  refine Sp2.mk ⟨a, bd, _, _, _, _, hd13, rfl, say_ask t_alike ⟨.inl rfl, hun, hvn⟩ (.alike hlu hlv hB1 hB2), by omega, fun H14 b14 x14 hd14 => ?_⟩
  have x714 : Ext H7 H14 := Ext.tr x14 x713
  repeat walk_at "w"
  refine Sp4.mk ⟨d1, d2, c1, c2, ps, hd1, hd2, hw1, hw2, hps, rfl, hu17.up x714, hu27.up x714, hv47.up x714, fun H15 s15 => ?_⟩
  have hd15 := hd14.up s15
  have x715 : Ext H7 H15 := Ext.tr s15.ext x714
  repeat walk_at "w"
  refine m_desk hd15 ?_
  repeat walk_at "w"
  refine w_addS (by rw [show ("never " : Str).length = 6 from rfl]; omega) ?_
  repeat walk_at "w"
  refine Sp2.mk ⟨a, bd, _, _, _, _, hd15, rfl, say_ask t_never ⟨.inr (.inr (.inr rfl)), hun⟩ (.never hlu hB1 (hW1.btx hd1).name), by omega, fun H16 b16 x16 hd16 => ?_⟩
  have x716 : Ext H7 H16 := Ext.tr x16 x715
  repeat walk_at "w"
  refine Sp3.mk ⟨d1, c1, ps, hd1, hw1, hps, rfl, hu17.up x716, hv47.up x716, fun H17 s17 => ?_⟩
  have hd17 := hd16.up s17
  have x717 : Ext H7 H17 := Ext.tr s17.ext x716
  repeat walk_at "w"
  refine m_desk hd17 ?_
  repeat walk_at "w"
  refine w_addS (by rw [show ("boxes " : Str).length = 6 from rfl]; omega) ?_
  repeat walk_at "w"
  refine Sp2.mk ⟨a, bd, _, _, _, _, hd17, rfl, say_ask t_boxes ⟨.inr (.inr (.inl rfl)), hvn⟩ (.boxes hlv hB2), by omega, fun H18 b18 x18 hd18 => ?_⟩
  have x718 : Ext H7 H18 := Ext.tr x18 x717
  repeat walk_at "w"
  refine Sp1.mk ⟨d2, c2, hw2, hu27.up x718, fun H19 s19 => ?_⟩
  repeat walk_at "w"
  rw [decide_eq_true (rfl : numS (((lookB (bk d2 c2) every).length : Nat) : Int) = numS (((lookB (bk d2 c2) every).length : Nat) : Int))]
  have hd19 := hd18.up s19
  have x719 : Ext H7 H19 := Ext.tr s19.ext x718
  repeat walk_at "w"
  refine Sp1.mk ⟨d1, c1, hw1, hu17.up x719, fun H20 s20 => ?_⟩
  repeat walk_at "w"
  exact Sp5.mk ⟨a, bd, bks, d1, c1, ps, un, hd19.up s20, hd1, hw1, hps, hun, hus, hut, hlu, by omega, hu17.up (Ext.tr s20.ext x719), hv47.up (Ext.tr s20.ext x719), rfl, rfl, fun H' _ => k H'⟩
theorem law_fn (T : Tx K mg) {fd : FuncData} (F : FunD K "law" "law" (defArgs s_law) (defBody s_law) (defScope s_law) [] [] (He.ga K "law") fd) : FnOk P w K mg base CX0 13 (He.ga K "law") fd ["_law_script"] (sp_law K) := by
  refine F.ok sc_law (fun vs H Q E h => Sp1.len h) fun cdv A outer s H vs Q E hr h => ?_
  obtain ⟨t, h1, h2⟩ := law_body T cdv A outer s H vs Q E hr h
  exact ⟨t, h1.nox, h2⟩
end
end
section
open PySem PySem.Spec PySem.W PySem.Calls PyProof.Rows L2
theorem tx_head {K : PySem.W.Frag} {h : Heap} {mg : Str → Option Value} (X : K.In h) (G : h.Ns mainGlobals mg) (c : obsX K = (He.valD fnl, true)) : Tx K mg :=
  ⟨⟨h, X, G⟩, congrArg (fun z : AlX => z.1) c, congrArg (fun z : AlX => z.2) c⟩
theorem law_facts : LawFacts := by
  intro w K h mg f X G hfa c
  have T := tx_head X G c
  obtain ⟨fd, F⟩ := T.d_law
  have e := hfa.symm.trans T.g_law
  cases e
  have b := FunD.bindsA (ps := ["_law_script"]) F fun _ _ _ _ _ _ us hl => match us, hl with | [_], _ => rfl
  exact ⟨fd, sp_law K, fun s v => b s [v] rfl, fun H a ns hl hO hS => Sp1.mk ⟨ns, hl, ScL.of hO hS, fun _ => rfl⟩, fun base _ _ => law_fn T F⟩
end
end Sv
theorem PySem.Challenge.cw_sieve_k55_whole_alike_from_text_holds : PySem.Challenge.rw_sieve_k55_whole_alike_from_text.Holds :=
  Sv.head_end Sv.law_facts
