import PyProof.Rows.All
import Wide.All
import OpenK.AllK
import Wide.FinOn
import HandS.ForMost
import HandS.TupAny
import HandS.SortInts
import HandS.Defaults
import HandS.FStr
import HandS.Style
import PySem.Challenge.RW_ringsallow_k07_lengths_as_sets_of_number
import HandS.ExcInit
import HandS.OwnEq
import HandS.SlotsOwn
import HandS.MakeKw
import HandS.MakeKwOnly
import KE.KCallOwn
import HandS.SetFor
import HandS.Strs
import HandS.DictComp
import HandS.IsInst
import HandS.ExcInitHot
import HandS.ExcField
import HandS.ExcIs
import HandS.Lambda
import HandS.Text
import HandS.Gcd
import HandS.WordsExc
import KE.KEqSeq
import HandS.RaiseMore
import HandS.NoneIn
import HandS.Head0
import HandS.Head1
import HandS.Head2
import HandS.HeadEnd
import HandS.HeadHook1
import HandS.HeadHook2
import HandS.HeadHook3
import HandS.HeadHook4
import HandS.EndTab
import HandS.Head3
import HandS.HeadWalk
set_option Elab.async false
set_option linter.all false
set_option maxRecDepth 100000
set_option maxHeartbeats 0
namespace Y
open PySem PySem.Spec PyProof.Rows L2
def top (i : Nat) : Stmt := PySem.Challenge.pw_ringsallow_k07_lengths_as_sets_of_number.main.body.getD i (.Pass ⟨0, 0, 0, 0⟩)
abbrev s_lacks : Stmt := top 28
abbrev s_wrong : Stmt := top 29
abbrev s_kept : Stmt := top 3
abbrev s_bad : Stmt := inClass (top 7) 0
abbrev s_init : Stmt := inClass (top 30) 0
abbrev s_has : Stmt := inClass (top 30) 1
abbrev s_eq : Stmt := inClass (top 30) 2
abbrev s_str : Stmt := inClass (top 30) 3
abbrev s_text : Stmt := inClass (top 30) 9
abbrev s_within : Stmt := inClass (top 30) 4
abbrev s_least : Stmt := inClass (top 30) 5
abbrev s_both : Stmt := inClass (top 30) 6
abbrev s_times : Stmt := inClass (top 30) 7
abbrev s_parts : Stmt := inClass (top 30) 8
abbrev s_draw : Stmt := top 33
abbrev s_jar : Stmt := top 32
abbrev s_pick : Stmt := top 34
abbrev s_mixed : Stmt := top 35
abbrev s_div : Stmt := top 36
abbrev s_lhas : Stmt := top 44
abbrev s_word : Stmt := top 41
abbrev s_bnd : Stmt := top 46
abbrev s_lwrong : Stmt := top 43
abbrev s_gl : Stmt := top 42
abbrev s_like : Stmt := top 37
abbrev s_ib : Stmt := top 45
abbrev s_ph : Stmt := top 47
abbrev s_cls : Stmt := top 38
def exNames : List Str := ["BadRow", "BadWeb", "BadBook", "BadLengths", "BadKind", "BadWish", "BadLot", "BadTable", "BadForm", "BadScript", "NotWalk", "NotRing", "NotForm", "NotKind", "NotBar", "NotRight", "Clash", "NoKind", "NoWeld", "Unlike", "TooMany", "NoSuch", "Ended", "RingError"]
def isOf (n : Str) : Bool := decide (n = "BadLengths") || decide (n = "RingError")
abbrev s_fault : Stmt := top 39
abbrev s_ref : Stmt := top 40
abbrev s_law : Stmt := top 48
def oexB (K : PySem.W.Frag) (C : Addr) : Bool := (match K.lookup C with
  | some ⟨.type t, _, .cls cd, ⟨[_, _, _, _, some (.builtin n), _]⟩⟩ => decide (t = "type") && (decide (n = "ValueError.__new__") && (cd.hasDict && (!cd.hasDel && (match cd.mro with
    | .ref c :: bm => decide (c = C) && PySem.HandSPX.refsVE bm
    | _ => false))))
  | _ => false) && (decide (PySem.W.findIn K (.ref C) "__setattr__" = some (some (.builtin "object.__setattr__"))) && (decide (PySem.W.subIn K (.ref C) (.type "BaseException") = some true) && (decide (PySem.W.typeIn K (.ref C) = some (.type "type")) && PySem.W.keepIn K (.ref C))))

abbrev DF (a : Str × Option Str) (x q : Str) (st : Stmt) (dfl : List He.Dv) : He.DefD := ⟨a, x, q, defArgs st, defBody st, defScope st, dfl, []⟩
def d_lacks : He.DefD := DF ("_lacks_divisor", none) "_lacks_divisor" "_lacks_divisor" s_lacks []
def d_wrong : He.DefD := DF ("_wrong_gap", none) "_wrong_gap" "_wrong_gap" s_wrong []
def d_kept : He.DefD := DF ("_kept", none) "_kept" "_kept" s_kept []
def d_jar : He.DefD := DF ("_law_jar", none) "_law_jar" "_law_jar" s_jar []
def d_draw : He.DefD := DF ("_law_draw", none) "_law_draw" "_law_draw" s_draw []
def d_pick : He.DefD := DF ("_law_pick", none) "_law_pick" "_law_pick" s_pick []
def d_mixed : He.DefD := DF ("_law_mixed", none) "_law_mixed" "_law_mixed" s_mixed []
def d_div : He.DefD := DF ("_law_divisor", none) "_law_divisor" "_law_divisor" s_div []
def d_like : He.DefD := DF ("_law_like", none) "_law_like" "_law_like" s_like []
def d_cls : He.DefD := DF ("_law_class", none) "_law_class" "_law_class" s_cls []
def d_fault : He.DefD := DF ("_law_fault", none) "_law_fault" "_law_fault" s_fault []
def d_ref : He.DefD := DF ("_law_refused", none) "_law_refused" "_law_refused" s_ref []
def d_word : He.DefD := DF ("_law_lengths_word", none) "_law_lengths_word" "_law_lengths_word" s_word []
def d_gl : He.DefD := DF ("_law_gap_list", none) "_law_gap_list" "_law_gap_list" s_gl []
def d_lwrong : He.DefD := DF ("_law_wrong", none) "_law_wrong" "_law_wrong" s_lwrong []
def d_lhas : He.DefD := DF ("_law_has", none) "_law_has" "_law_has" s_lhas []
def d_ib : He.DefD := DF ("_law_is_bag", none) "_law_is_bag" "_law_is_bag" s_ib []
def d_bnd : He.DefD := DF ("_law_bounded", none) "_law_bounded" "_law_bounded" s_bnd []
def d_ph : He.DefD := DF ("_law_pair_holds", none) "_law_pair_holds" "_law_pair_holds" s_ph []
def d_law : He.DefD := DF ("law", none) "law" "law" s_law []
def d_bad : He.DefD := DF ("BadLengths", some "__init__") "__init__" "BadLengths.__init__" s_bad []
def d_init : He.DefD := DF ("Lengths", some "__init__") "__init__" "Lengths.__init__" s_init [.adr (He.dflAt ("Lengths", some "__init__") 0)]
def d_has : He.DefD := DF ("Lengths", some "__contains__") "__contains__" "Lengths.__contains__" s_has []
def d_eq : He.DefD := DF ("Lengths", some "__eq__") "__eq__" "Lengths.__eq__" s_eq []
def d_str : He.DefD := DF ("Lengths", some "__str__") "__str__" "Lengths.__str__" s_str []
def d_within : He.DefD := DF ("Lengths", some "within") "within" "Lengths.within" s_within []
def d_least : He.DefD := DF ("Lengths", some "least") "least" "Lengths.least" s_least []
def d_both : He.DefD := DF ("Lengths", some "both") "both" "Lengths.both" s_both []
def d_times : He.DefD := DF ("Lengths", some "times") "times" "Lengths.times" s_times []
def d_parts : He.DefD := DF ("Lengths", some "parts") "parts" "Lengths.parts" s_parts []
def d_text : He.DefD := DF ("Lengths", some "text") "text" "Lengths.text" s_text []
def fn07 : List He.DefD := [d_lacks, d_wrong, d_kept, d_jar, d_draw, d_pick, d_mixed, d_div, d_like, d_cls, d_fault, d_ref, d_word, d_gl, d_lwrong, d_lhas, d_ib, d_bnd, d_ph, d_law, d_bad, d_init, d_has, d_eq, d_str, d_within, d_least, d_both, d_times, d_parts, d_text]
def fa0 : List He.Fa := [.glo "_lacks_divisor", .glo "_wrong_gap", .glo "_kept", .glo "_law_jar", .glo "_law_draw", .glo "_law_pick", .glo "_law_mixed", .glo "_law_divisor", .glo "_law_like", .glo "_law_class", .glo "_law_fault", .glo "_law_refused", .glo "_law_lengths_word", .glo "_law_gap_list", .glo "_law_wrong", .glo "_law_has", .glo "_law_is_bag", .glo "_law_bounded", .glo "_law_pair_holds", .glo "law", .glo "Lengths", .glo "BadRow", .glo "BadWeb", .glo "BadBook", .glo "BadLengths"]
def fa1 : List He.Fa := [.glo "BadKind", .glo "BadWish", .glo "BadLot", .glo "BadTable", .glo "BadForm", .glo "BadScript", .glo "NotWalk", .glo "NotRing", .glo "NotForm", .glo "NotKind", .glo "NotBar", .glo "NotRight", .glo "Clash", .glo "NoKind", .glo "NoWeld", .glo "Unlike", .glo "TooMany", .glo "NoSuch", .glo "Ended", .glo "RingError", .free "int", .free "str", .free "bool", .free "len", .free "list"]
def fa2 : List He.Fa := [.free "tuple", .free "max", .free "set", .free "sorted", .free "isinstance", .free "range", .free "dict", .free "ValueError", .free "LookupError", .cls "Lengths", .noat "Lengths" "period", .noat "Lengths" "gaps", .noat "Lengths" "_known", .noat "BadLengths" "gap", .mkr "Lengths", .exm "BadLengths" "RingError" true, .meth "Lengths" "__contains__", .meth "Lengths" "__eq__", .meth "Lengths" "__str__", .meth "Lengths" "within", .meth "Lengths" "least", .meth "Lengths" "both", .meth "Lengths" "times", .meth "Lengths" "parts", .meth "Lengths" "text"]
def fa07 : List He.Fa := fa0 ++ fa1 ++ fa2
def tf07 : List He.Defn := [("law", none)]
def excB (K : PySem.W.Frag) (D : Addr) : Bool := decide (PySem.W.findIn K (.ref D) "__class__" = some (some (.builtin "object.__class__"))) && (decide (PySem.W.specialIn K (.builtin "object.__class__") "__get__" = some (some (.builtin "getset_descriptor.__get__"))) && (decide (PySem.W.takesIn K (.builtin "object.__class__") = some true) && decide (PySem.W.mroIn K D (.type "object") = some true)))
def seqTB (K : PySem.W.Frag) (a : Addr) : Bool := match K.lookup a with
  | some ⟨.type c, _, .seq its _, _⟩ => decide (c = "tuple") && decide (its.toList = [])
  | _ => false
def exB (K : PySem.W.Frag) : Bool :=
  oexB K (He.ga K "BadLengths") && (xfB K (He.ga K "BadLengths") && (excB K (He.ga K "BadLengths") && (excB K (He.ga K "Lengths") && ((exNames.all fun n => decide (PySem.W.kitOne K (.ref (He.ga K "BadLengths")) (.ref (He.ga K n)) = some (isOf n))) &&
  (decide (PySem.W.kitOne K (.ref (He.ga K "BadLengths")) (.type "ValueError") = some true) && (decide (PySem.W.kitOne K (.ref (He.ga K "BadLengths")) (.type "LookupError") = some false) && (decide (PySem.W.kitOne K (.type "str") (.ref (He.ga K "Lengths")) = some false) && (PySem.W.notFirst K (He.ga K "Lengths") (.type "str") &&
  (decide (PySem.W.findIn K (.ref (He.ga K "BadLengths")) "__init__" = some (some (.ref (He.ma K (He.ga K "BadLengths") "__init__")))) && (decide (PySem.W.typeIn K (.ref (He.ma K (He.ga K "BadLengths") "__init__")) = some (.type "function")) && (He.eqO (PySem.W.nsIn K mainGlobals "gcd") (some (some (.builtin "math.gcd"))) && (He.eqO (PySem.W.nsIn K mainGlobals "lcm") (some (some (.builtin "math.lcm"))) &&
  seqTB K (He.dflAt ("Lengths", some "__init__") 0 K)))))))))))))
abbrev R07 : PySem.W.OpenRow := PySem.W.OpenLaw.row PySem.Challenge.rw_ringsallow_k07_lengths_as_sets_of_number
abbrev hk07 : PySem.W.Hook := He.hookX 6 fa07 fn07 [] tf07 exB
def ob07 (s : PySem.W.SharedT) : He.AlX := He.obsX 6 fa07 fn07 [] tf07 exB (HandSHeadRun.getT s)
theorem ob07_eq (s : PySem.W.SharedT) : ob07 s = hk07.obs s.abs := He.obsX_eq (HandSHeadRun.getT_eq s)
def nm0 : List PySem.Str := ["__name__", "RingError", "_kept", "BadRow", "BadWeb", "BadBook", "BadLengths", "BadKind", "BadWish", "BadLot", "BadTable", "BadForm", "BadScript", "NotWalk", "NotRing", "NotForm", "NotKind", "NotBar", "NotRight", "Clash", "NoKind", "NoWeld", "Unlike", "TooMany", "NoSuch", "Ended", "_lacks_divisor", "_wrong_gap", "Lengths", "_law_jar"]
def nm1 : List PySem.Str := ["_law_draw", "_law_pick", "_law_mixed", "_law_divisor", "_law_like", "_law_class", "_law_fault", "_law_refused", "_law_lengths_word", "_law_gap_list", "_law_wrong", "_law_has", "_law_is_bag", "_law_bounded", "_law_pair_holds"]
def nm07 : List PySem.Str := nm0 ++ nm1
theorem run07 (w : World) : HandSHeadRun.RunEqI R07 (PySem.W.view R07.prog [0, 48]) hk07 ob07 7200 nm07 w := by
  unfold HandSHeadRun.RunEqI
  kernel_rfl
end Y
set_option Elab.async false
set_option linter.all false
set_option maxRecDepth 100000
set_option maxHeartbeats 4000000
/-! Y1: data, how a value stands for a datum, what a reading evaluates to (no heap in sight). -/
namespace Y
open PySem L2

inductive D where
  | non | bl (b : Bool) | int (i : Int) | str (s : Str) | ref (a : Addr)
  | lst (l : List D) | tup (l : List D) | dct (l : List (Int × D)) | obj (C : Addr) (l : List (Str × D)) | exc (a dx : Addr) (fs : List (Str × V))

/-! ### a value stands for a datum; M: the addresses that may still change -/
mutual
inductive Rep (M : List Addr) (H : Hp) : V → D → Prop
  | non : Rep M H .non .non
  | bl (b : Bool) : Rep M H (.bl b) (.bl b)
  | int (i : Int) : Rep M H (.int i) (.int i)
  | str (s : Str) : Rep M H (.str s) (.str s)
  | ref (a : Addr) : Rep M H (.ref a) (.ref a)
  | lst {p : Addr} {vs : List V} {ds : List D} : p ∉ M → H p = some (.lst vs) → RepL M H vs ds → Rep M H (.ref p) (.lst ds)
  | tup {p : Addr} {vs : List V} {ds : List D} : p ∉ M → H p = some (.tup vs) → RepL M H vs ds → Rep M H (.ref p) (.tup ds)
  | dct {p : Addr} {vs : List (Key × V)} {ds : List (Int × D)} : p ∉ M → H p = some (.dK vs) → RepK M H vs ds → Rep M H (.ref p) (.dct ds)
  | exc {a dx : Addr} {fs : List (Str × V)} : dx ∉ M → H dx = some (.xd fs) → Rep M H (.ref a) (.exc a dx fs)
  | obj {p C dx : Addr} {fs : List (Str × V)} {ds : List (Str × D)} : p ∉ M → H p = some (.ins C dx fs) → RepF M H fs ds → Rep M H (.ref p) (.obj C ds)
inductive RepL (M : List Addr) (H : Hp) : List V → List D → Prop
  | nil : RepL M H [] []
  | cons {v : V} {d : D} {vs : List V} {ds : List D} : Rep M H v d → RepL M H vs ds → RepL M H (v :: vs) (d :: ds)
inductive RepK (M : List Addr) (H : Hp) : List (Key × V) → List (Int × D) → Prop
  | nil : RepK M H [] []
  | cons {k : Int} {v : V} {d : D} {vs : List (Key × V)} {ds : List (Int × D)} : Rep M H v d → RepK M H vs ds → RepK M H ((Sum.inl k, v) :: vs) ((k, d) :: ds)
inductive RepF (M : List Addr) (H : Hp) : List (Str × V) → List (Str × D) → Prop
  | nil : RepF M H [] []
  | cons {k : Str} {v : V} {d : D} {vs : List (Str × V)} {ds : List (Str × D)} : Rep M H v d → RepF M H vs ds → RepF M H ((k, v) :: vs) ((k, d) :: ds)
end

/-- what may not change stands -/
def Ext (M : List Addr) (H H' : Hp) : Prop := ∀ a o, a ∉ M → H a = some o → H' a = some o
theorem Ext.refl (M : List Addr) (H : Hp) : Ext M H H := fun _ _ _ h => h
theorem Ext.trans {M : List Addr} {H H1 H2 : Hp} (a : Ext M H H1) (b : Ext M H1 H2) : Ext M H H2 := fun x o m h => b x o m (a x o m h)
theorem Ext.more {M N : List Addr} {H H' : Hp} (a : Ext M H H') (s : ∀ x ∈ M, x ∈ N) : Ext N H H' := fun x o m h => a x o (fun z => m (s x z)) h
theorem Ext.new {M : List Addr} {H : Hp} {p : Addr} {o : HO} (h : H p = none) : Ext M H (upd H p o) := fun a u _ e => by
  rw [upd_ne (ne_of_none e h)]
  exact e
theorem Ext.at {M : List Addr} {H : Hp} {p : Addr} {o : HO} (h : p ∈ M) : Ext M H (upd H p o) := fun a u n e => by
  have ne : a ≠ p := fun z => n (z ▸ h)
  rw [upd_ne ne]
  exact e
theorem Ext.rd {M : List Addr} {H H' : Hp} {p : Addr} {u : HO} (e : Ext M H H') (n : p ∉ M) (r : Rd H p u) : Rd H' p u := by
  rcases r with r | ⟨o, r⟩
  · exact .inl (e _ _ n r)
  · exact .inr ⟨o, e _ _ n r⟩

section
variable {M N : List Addr} {H H' : Hp}
mutual
theorem Rep.mono (e : Ext M H H') : ∀ {v : V} {d : D}, Rep M H v d → Rep M H' v d
  | _, _, .non => .non
  | _, _, .bl b => .bl b
  | _, _, .int i => .int i
  | _, _, .str s => .str s
  | _, _, .ref a => .ref a
  | _, _, .lst n r l => .lst n (e _ _ n r) (RepL.mono e l)
  | _, _, .tup n r l => .tup n (e _ _ n r) (RepL.mono e l)
  | _, _, .dct n r l => .dct n (e _ _ n r) (RepK.mono e l)
  | _, _, .exc n r => .exc n (e _ _ n r)
  | _, _, .obj n r l => .obj n (e _ _ n r) (RepF.mono e l)
theorem RepL.mono (e : Ext M H H') : ∀ {v : List V} {d : List D}, RepL M H v d → RepL M H' v d
  | _, _, .nil => .nil
  | _, _, .cons r l => .cons (Rep.mono e r) (RepL.mono e l)
theorem RepK.mono (e : Ext M H H') : ∀ {v : List (Key × V)} {d : List (Int × D)}, RepK M H v d → RepK M H' v d
  | _, _, .nil => .nil
  | _, _, .cons r l => .cons (Rep.mono e r) (RepK.mono e l)
theorem RepF.mono (e : Ext M H H') : ∀ {v : List (Str × V)} {d : List (Str × D)}, RepF M H v d → RepF M H' v d
  | _, _, .nil => .nil
  | _, _, .cons r l => .cons (Rep.mono e r) (RepF.mono e l)
end
/-- other addresses may change -/
theorem rd_there {p : Addr} {u : HO} (r : Rd H p u) : H p ≠ none := by
  rcases r with r | ⟨o, r⟩ <;> (rw [r]; exact fun z => nomatch z)
mutual
theorem Rep.swap (s : ∀ a, a ∈ N → H a ≠ none → a ∈ M) : ∀ {v : V} {d : D}, Rep M H v d → Rep N H v d
  | _, _, .non => .non
  | _, _, .bl b => .bl b
  | _, _, .int i => .int i
  | _, _, .str s => .str s
  | _, _, .ref a => .ref a
  | _, _, .lst n r l => .lst (fun z => n (s _ z (by rw [r]; exact fun z => nomatch z))) r (RepL.swap s l)
  | _, _, .tup n r l => .tup (fun z => n (s _ z (by rw [r]; exact fun z => nomatch z))) r (RepL.swap s l)
  | _, _, .dct n r l => .dct (fun z => n (s _ z (by rw [r]; exact fun z => nomatch z))) r (RepK.swap s l)
  | _, _, .exc n r => .exc (fun z => n (s _ z (by rw [r]; exact fun z => nomatch z))) r
  | _, _, .obj n r l => .obj (fun z => n (s _ z (by rw [r]; exact fun z => nomatch z))) r (RepF.swap s l)
theorem RepL.swap (s : ∀ a, a ∈ N → H a ≠ none → a ∈ M) : ∀ {v : List V} {d : List D}, RepL M H v d → RepL N H v d
  | _, _, .nil => .nil
  | _, _, .cons r l => .cons (Rep.swap s r) (RepL.swap s l)
theorem RepK.swap (s : ∀ a, a ∈ N → H a ≠ none → a ∈ M) : ∀ {v : List (Key × V)} {d : List (Int × D)}, RepK M H v d → RepK N H v d
  | _, _, .nil => .nil
  | _, _, .cons r l => .cons (Rep.swap s r) (RepK.swap s l)
theorem RepF.swap (s : ∀ a, a ∈ N → H a ≠ none → a ∈ M) : ∀ {v : List (Str × V)} {d : List (Str × D)}, RepF M H v d → RepF N H v d
  | _, _, .nil => .nil
  | _, _, .cons r l => .cons (Rep.swap s r) (RepF.swap s l)
end
theorem Rep.cons {p : Addr} {v : V} {d : D} (n : H p = none) (r : Rep M H v d) : Rep (p :: M) H v d := r.swap fun a ha h => by
  rcases List.mem_cons.mp ha with rfl | ha
  · exact absurd n h
  · exact ha
theorem RepL.cons' {p : Addr} {v : List V} {d : List D} (n : H p = none) (r : RepL M H v d) : RepL (p :: M) H v d := r.swap fun a ha h => by
  rcases List.mem_cons.mp ha with rfl | ha
  · exact absurd n h
  · exact ha
theorem Rep.sub {v : V} {d : D} (s : ∀ a ∈ N, a ∈ M) (r : Rep M H v d) : Rep N H v d := r.swap fun a ha _ => s a ha
theorem RepL.sub {v : List V} {d : List D} (s : ∀ a ∈ N, a ∈ M) (r : RepL M H v d) : RepL N H v d := r.swap fun a ha _ => s a ha
theorem RepK.sub {v : List (Key × V)} {d : List (Int × D)} (s : ∀ a ∈ N, a ∈ M) (r : RepK M H v d) : RepK N H v d := r.swap fun a ha _ => s a ha

/-! ### lists of data -/
theorem RepL.length : ∀ {vs : List V} {ds : List D}, RepL M H vs ds → vs.length = ds.length
  | _, _, .nil => rfl
  | _, _, .cons _ l => by rw [List.length_cons, List.length_cons, l.length]
theorem RepL.get : ∀ {vs : List V} {ds : List D} {i : Nat} {d : D}, RepL M H vs ds → ds[i]? = some d → ∃ v, vs[i]? = some v ∧ Rep M H v d
  | _, _, _, _, .nil, h => by simp at h
  | _, _, 0, _, .cons r _, h => ⟨_, rfl, by
    have e := Option.some.inj h
    rw [← e]
    exact r⟩
  | _, _, i + 1, _, .cons _ l, h => by
    obtain ⟨v, h1, h2⟩ := RepL.get (i := i) l (by simpa using h)
    exact ⟨v, by simpa using h1, h2⟩
theorem RepL.get' : ∀ {vs : List V} {ds : List D} {i : Nat} {v : V}, RepL M H vs ds → vs[i]? = some v → ∃ d, ds[i]? = some d ∧ Rep M H v d
  | _, _, _, _, .nil, h => by simp at h
  | _, _, 0, _, .cons r _, h => ⟨_, rfl, by
    have e := Option.some.inj h
    rw [← e]
    exact r⟩
  | _, _, i + 1, _, .cons _ l, h => by
    obtain ⟨v, h1, h2⟩ := RepL.get' (i := i) l (by simpa using h)
    exact ⟨v, by simpa using h1, h2⟩
theorem RepL.append : ∀ {vs ws : List V} {ds es : List D}, RepL M H vs ds → RepL M H ws es → RepL M H (vs ++ ws) (ds ++ es)
  | _, _, _, _, .nil, s => s
  | _, _, _, _, .cons r l, s => .cons r (RepL.append l s)
theorem RepL.take : ∀ {vs : List V} {ds : List D} (n : Nat), RepL M H vs ds → RepL M H (vs.take n) (ds.take n)
  | _, _, 0, _ => .nil
  | _, _, _ + 1, .nil => .nil
  | _, _, n + 1, .cons r l => .cons r (RepL.take n l)
theorem RepL.drop : ∀ {vs : List V} {ds : List D} (n : Nat), RepL M H vs ds → RepL M H (vs.drop n) (ds.drop n)
  | _, _, 0, r => r
  | _, _, _ + 1, .nil => .nil
  | _, _, n + 1, .cons _ l => RepL.drop n l
theorem RepL.erase : ∀ {vs : List V} {ds : List D} (n : Nat), RepL M H vs ds → RepL M H (vs.eraseIdx n) (ds.eraseIdx n)
  | _, _, _, .nil => by simpa using RepL.nil
  | _, _, 0, .cons _ l => l
  | _, _, n + 1, .cons r l => .cons r (RepL.erase n l)
theorem RepL.set {v : V} {d : D} (q : Rep M H v d) : ∀ {vs : List V} {ds : List D} (n : Nat), RepL M H vs ds → RepL M H (vs.set n v) (ds.set n d)
  | _, _, _, .nil => by simpa using RepL.nil
  | _, _, 0, .cons _ l => .cons q l
  | _, _, n + 1, .cons r l => .cons r (RepL.set q n l)
theorem RepL.rev : ∀ {vs : List V} {ds : List D}, RepL M H vs ds → RepL M H vs.reverse ds.reverse
  | _, _, .nil => by simpa using RepL.nil
  | _, _, .cons r l => by
    rw [List.reverse_cons, List.reverse_cons]
    exact (RepL.rev l).append (.cons r .nil)
theorem RepL.ints : ∀ {vs : List V} {ns : List Int}, RepL M H vs (ns.map D.int) → vs = ns.map V.int
  | [], [], _ => rfl
  | [], _ :: _, h => by cases h
  | _ :: _, [], h => by cases h
  | _ :: _, _ :: _, h => by
    cases h with
    | cons r l =>
      cases r
      rw [RepL.ints l]
      rfl
theorem RepL.of_ints : ∀ (ns : List Int), RepL M H (ns.map V.int) (ns.map D.int)
  | [] => .nil
  | n :: r => .cons (.int n) (RepL.of_ints r)
theorem RepL.strs : ∀ {vs : List V} {ns : List Str}, RepL M H vs (ns.map D.str) → vs = ns.map V.str
  | [], [], _ => rfl
  | [], _ :: _, h => by cases h
  | _ :: _, [], h => by cases h
  | _ :: _, _ :: _, h => by
    cases h with
    | cons r l =>
      cases r
      rw [RepL.strs l]
      rfl
theorem RepL.of_strs : ∀ (ns : List Str), RepL M H (ns.map V.str) (ns.map D.str)
  | [] => .nil
  | n :: r => .cons (.str n) (RepL.of_strs r)
theorem Rep.int_inv {v : V} {i : Int} (r : Rep M H v (.int i)) : v = .int i := by cases r; rfl
theorem Rep.bl_inv {v : V} {i : Bool} (r : Rep M H v (.bl i)) : v = .bl i := by cases r; rfl
theorem Rep.str_inv {v : V} {i : Str} (r : Rep M H v (.str i)) : v = .str i := by cases r; rfl
theorem Rep.non_inv {v : V} (r : Rep M H v .non) : v = .non := by cases r; rfl
theorem Rep.ref_inv {v : V} {a : Addr} (r : Rep M H v (.ref a)) : v = .ref a := by cases r; rfl
theorem Rep.lst_inv {v : V} {ds : List D} (r : Rep M H v (.lst ds)) : ∃ p vs, v = .ref p ∧ p ∉ M ∧ H p = some (.lst vs) ∧ RepL M H vs ds := by
  cases r with
  | lst a b c => exact ⟨_, _, rfl, a, b, c⟩
theorem Rep.tup_inv {v : V} {ds : List D} (r : Rep M H v (.tup ds)) : ∃ p vs, v = .ref p ∧ p ∉ M ∧ H p = some (.tup vs) ∧ RepL M H vs ds := by
  cases r with
  | tup a b c => exact ⟨_, _, rfl, a, b, c⟩
theorem Rep.dct_inv {v : V} {ds : List (Int × D)} (r : Rep M H v (.dct ds)) : ∃ p vs, v = .ref p ∧ p ∉ M ∧ H p = some (.dK vs) ∧ RepK M H vs ds := by
  cases r with
  | dct a b c => exact ⟨_, _, rfl, a, b, c⟩
theorem Rep.obj_inv {v : V} {C : Addr} {ds : List (Str × D)} (r : Rep M H v (.obj C ds)) : ∃ p dx vs, v = .ref p ∧ p ∉ M ∧ H p = some (.ins C dx vs) ∧ RepF M H vs ds := by
  cases r with
  | obj a b c => exact ⟨_, _, _, rfl, a, b, c⟩
theorem RepF.look : ∀ {vs : List (Str × V)} {ds : List (Str × D)} {f : Str} {d : D}, RepF M H vs ds → ds.lookup f = some d → ∃ v, vs.lookup f = some v ∧ Rep M H v d
  | _, _, _, _, .nil, h => by cases h
  | _, _, f, d, .cons (k := k) (v := v) (d := d0) r l, h => by
    cases e : (f == k) with
    | true =>
      rw [List.lookup_cons, e] at h ⊢
      have z := Option.some.inj h
      exact ⟨v, rfl, z ▸ r⟩
    | false =>
      rw [List.lookup_cons, e] at h ⊢
      exact RepF.look l h
theorem RepF.nolook : ∀ {vs : List (Str × V)} {ds : List (Str × D)} {f : Str}, RepF M H vs ds → ds.lookup f = none → vs.lookup f = none
  | _, _, _, .nil, _ => rfl
  | _, _, f, .cons (k := k) r l, h => by
    cases e : (f == k) with
    | true =>
      rw [List.lookup_cons, e] at h
      cases h
    | false =>
      rw [List.lookup_cons, e] at h ⊢
      exact RepF.nolook l h
end

/-! ### the jar of draws -/
def Jar (M : List Addr) (H : Hp) (p : Addr) : Prop := ∃ (c : Addr) (cells : List Int) (ix left dig mix cnt : Int),
  H p = some (.lst [.ref c, .int ix, .int left, .int dig, .int mix, .int cnt]) ∧ c ∉ M ∧ H c = some (.lst (cells.map V.int)) ∧ cells.length ≤ 63 ∧ 0 ≤ ix ∧ 0 ≤ left ∧ 0 ≤ mix ∧ mix < 2147483647
theorem Jar.mono {M : List Addr} {H H' : Hp} {p : Addr} (j : Jar M H p) (e : Ext M H H') (h : H' p = H p) : Jar M H' p := by
  obtain ⟨c, cells, ix, left, dig, mix, cnt, h1, h2, h3, h4⟩ := j
  exact ⟨c, cells, ix, left, dig, mix, cnt, by rw [h, h1], h2, e _ _ h2 h3, h4⟩
theorem Jar.cons {M : List Addr} {H : Hp} {p q : Addr} (n : H q = none) (j : Jar M H p) : Jar (q :: M) H p := by
  obtain ⟨c, cells, ix, left, dig, mix, cnt, h1, h2, h3, h4⟩ := j
  refine ⟨c, cells, ix, left, dig, mix, cnt, h1, fun z => ?_, h3, h4⟩
  rcases List.mem_cons.mp z with z | z
  · rw [z, n] at h3
    cases h3
  · exact h2 z
theorem Jar.sub {M N : List Addr} {H : Hp} {p : Addr} (s : ∀ a ∈ N, a ∈ M) (j : Jar M H p) : Jar N H p := by
  obtain ⟨c, cells, ix, left, dig, mix, cnt, h1, h2, h3, h4⟩ := j
  exact ⟨c, cells, ix, left, dig, mix, cnt, h1, fun z => h2 (s c z), h3, h4⟩

/-! ### slots and the state of a body -/
inductive En where
  | no | im (d : D) | mu (p : Addr) (l : List D) | md (p : Addr) (l : List (Int × D)) | jar (p : Addr)
/-- the address that a slot owns -/
def En.addr : En → Option Addr
  | .mu p _ => some p
  | .md p _ => some p
  | .jar p => some p
  | _ => none
/-- M0, H0: at the entry; js: what of M0 the body may change; gh: things that stand beside the slots -/
structure Ctx where
  M0 : List Addr
  H0 : Hp
  js : List Addr
  gh : List (V × D)
def Own (C : Ctx) (p : Addr) : Prop := p ∈ C.js ∨ p ∉ C.M0
def Slot (C : Ctx) (M : List Addr) (H : Hp) (x : Option V) : En → Prop
  | .no => True
  | .im d => ∃ v, x = some v ∧ Rep M H v d
  | .mu p ds => x = some (.ref p) ∧ p ∈ M ∧ Own C p ∧ ∃ vs, H p = some (.lst vs) ∧ RepL M H vs ds
  | .md p ds => x = some (.ref p) ∧ p ∈ M ∧ Own C p ∧ ∃ vs, H p = some (.dK vs) ∧ RepK M H vs ds
  | .jar p => x = some (.ref p) ∧ p ∈ M ∧ Own C p ∧ Jar M H p
structure At (C : Ctx) (M : List Addr) (env : List En) (σ : L2.St) (H : Hp) : Prop where
  len : σ.length = env.length
  sl : ∀ (i : Nat) (e : En), env[i]? = some e → ∀ x, σ[i]? = some x → Slot C M H x e
  nd : ∀ (i j : Nat) (e u : En) (p : Addr), env[i]? = some e → env[j]? = some u → e.addr = some p → u.addr = some p → i = j
  gh : ∀ q ∈ C.gh, Rep M H q.1 q.2
  tr : ∀ a ∈ M, H a ≠ none
  sub : ∀ a ∈ C.M0, a ∈ M
  fresh : ∀ a ∈ M, a ∉ C.M0 → C.H0 a = none
  ext : Ext C.M0 C.H0 H
  keep : ∀ a ∈ C.M0, a ∉ C.js → H a = C.H0 a
section
variable {C : Ctx} {M : List Addr} {env : List En} {σ : L2.St} {H H' : Hp}
/-- nothing that is tracked has changed -/
def All (H H' : Hp) : Prop := ∀ a o, H a = some o → H' a = some o
theorem All.ext {N : List Addr} (e : All H H') : Ext N H H' := fun a o _ h => e a o h
theorem All.refl (H : Hp) : All H H := fun _ _ h => h
theorem All.trans {H2 : Hp} (a : All H H') (b : All H' H2) : All H H2 := fun x o h => b x o (a x o h)
theorem All.new {p : Addr} {o : HO} (h : H p = none) : All H (upd H p o) := fun a u e => by
  rw [upd_ne (ne_of_none e h)]
  exact e
theorem All.eq {a : Addr} (e : All H H') (h : H a ≠ none) : H' a = H a := by
  cases q : H a with
  | none => exact absurd q h
  | some o => exact e a o q
theorem Slot.keep {x : Option V} {en : En} (e : Ext M H H') (k : ∀ p, en.addr = some p → H' p = H p) (s : Slot C M H x en) : Slot C M H' x en := by
  cases en with
  | no => trivial
  | im d =>
    obtain ⟨v, h1, h2⟩ := s
    exact ⟨v, h1, h2.mono e⟩
  | mu p ds =>
    obtain ⟨h1, h2, h5, vs, h3, h4⟩ := s
    exact ⟨h1, h2, h5, vs, by rw [k p rfl, h3], h4.mono e⟩
  | md p ds =>
    obtain ⟨h1, h2, h5, vs, h3, h4⟩ := s
    exact ⟨h1, h2, h5, vs, by rw [k p rfl, h3], h4.mono e⟩
  | jar p =>
    obtain ⟨h1, h2, h5, h3⟩ := s
    exact ⟨h1, h2, h5, h3.mono e (k p rfl)⟩
theorem Slot.cons {x : Option V} {en : En} {p : Addr} (n : H p = none) (s : Slot C M H x en) : Slot C (p :: M) H x en := by
  cases en with
  | no => trivial
  | im d =>
    obtain ⟨v, h1, h2⟩ := s
    exact ⟨v, h1, h2.cons n⟩
  | mu q ds =>
    obtain ⟨h1, h2, h5, vs, h3, h4⟩ := s
    exact ⟨h1, List.mem_cons_of_mem _ h2, h5, vs, h3, h4.cons' n⟩
  | md q ds =>
    obtain ⟨h1, h2, h5, vs, h3, h4⟩ := s
    refine ⟨h1, List.mem_cons_of_mem _ h2, h5, vs, h3, h4.swap fun a ha h => ?_⟩
    rcases List.mem_cons.mp ha with rfl | ha
    · exact absurd n h
    · exact ha
  | jar q =>
    obtain ⟨h1, h2, h5, h3⟩ := s
    exact ⟨h1, List.mem_cons_of_mem _ h2, h5, h3.cons n⟩
theorem Slot.own {x : Option V} {en : En} {p : Addr} (s : Slot C M H x en) (h : en.addr = some p) : p ∈ M ∧ Own C p ∧ x = some (.ref p) := by
  cases en with
  | no => cases h
  | im d => cases h
  | mu q ds =>
    cases h
    exact ⟨s.2.1, s.2.2.1, s.1⟩
  | md q ds =>
    cases h
    exact ⟨s.2.1, s.2.2.1, s.1⟩
  | jar q =>
    cases h
    exact ⟨s.2.1, s.2.2.1, s.1⟩
theorem At.lt (A : At C M env σ H) {i : Nat} {e : En} (h : env[i]? = some e) : ∃ x, σ[i]? = some x ∧ Slot C M H x e := by
  have hi : i < env.length := (List.getElem?_eq_some_iff.mp h).1
  have hj : i < σ.length := by rw [A.len]; exact hi
  exact ⟨σ[i], List.getElem?_eq_getElem hj, A.sl i _ h σ[i] (List.getElem?_eq_getElem hj)⟩
/-- the untouched and, of what may change, all but the address of one slot stand -/
theorem At.step (A : At C M env σ H) (e : Ext M H H') (k : ∀ (i : Nat) (en : En) (p : Addr), env[i]? = some en → en.addr = some p → H' p = H p) (t : ∀ a ∈ M, H' a ≠ none) (kp : ∀ a ∈ C.M0, a ∉ C.js → H' a = H a) : At C M env σ H' where
  len := A.len
  sl := fun i en h x hx => (A.sl i en h x hx).keep e fun p hp => k i en p h hp
  nd := A.nd
  gh := fun q hq => (A.gh q hq).mono e
  tr := t
  sub := A.sub
  fresh := A.fresh
  ext := fun a o n h => by
    by_cases m : a ∈ M
    · rw [A.fresh a m n] at h
      cases h
    · exact e a o m (A.ext a o n h)
  keep := fun a ha hj => by rw [kp a ha hj, A.keep a ha hj]
theorem At.all (A : At C M env σ H) (e : All H H') : At C M env σ H' :=
  A.step e.ext (fun i en p h hp => by
    obtain ⟨x, _, s⟩ := A.lt h
    exact e.eq (A.tr p (s.own hp).1)) (fun a ha => by
    rw [e.eq (A.tr a ha)]
    exact A.tr a ha) fun a ha _ => e.eq (A.tr a (A.sub a ha))
theorem At.get (A : At C M env σ H) {i : Nat} {d : D} (h : env[i]? = some (.im d)) : ∃ v, σ[i]? = some (some v) ∧ Rep M H v d := by
  obtain ⟨x, hx, v, h1, h2⟩ := A.lt h
  exact ⟨v, by rw [hx, h1], h2⟩
theorem At.getm (A : At C M env σ H) {i : Nat} {p : Addr} {ds : List D} (h : env[i]? = some (.mu p ds)) : σ[i]? = some (some (.ref p)) ∧ p ∈ M ∧ Own C p ∧ ∃ vs, H p = some (.lst vs) ∧ RepL M H vs ds := by
  obtain ⟨x, hx, h1, h2⟩ := A.lt h
  exact ⟨by rw [hx, h1], h2⟩
theorem At.getd (A : At C M env σ H) {i : Nat} {p : Addr} {ds : List (Int × D)} (h : env[i]? = some (.md p ds)) : σ[i]? = some (some (.ref p)) ∧ p ∈ M ∧ Own C p ∧ ∃ vs, H p = some (.dK vs) ∧ RepK M H vs ds := by
  obtain ⟨x, hx, h1, h2⟩ := A.lt h
  exact ⟨by rw [hx, h1], h2⟩
theorem At.getj (A : At C M env σ H) {i : Nat} {p : Addr} (h : env[i]? = some (.jar p)) : σ[i]? = some (some (.ref p)) ∧ p ∈ M ∧ Own C p ∧ Jar M H p := by
  obtain ⟨x, hx, h1, h2⟩ := A.lt h
  exact ⟨by rw [hx, h1], h2⟩
/-- a slot is stored -/
theorem At.put (A : At C M env σ H) (i : Nat) {v : V} {e : En} (s : Slot C M H (some v) e) (hn : ∀ (j : Nat) (u : En) (p : Addr), j ≠ i → env[j]? = some u → e.addr = some p → u.addr ≠ some p) : At C M (env.set i e) (σ.set i (some v)) H where
  len := by rw [List.length_set, List.length_set, A.len]
  sl := fun j en h x hx => by
    by_cases hj : j = i
    · subst hj
      have h1 : j < env.length := by
        have q := (List.getElem?_eq_some_iff.mp h).1
        rwa [List.length_set] at q
      have h2 : j < σ.length := by rw [A.len]; exact h1
      rw [List.getElem?_set_self h1] at h
      rw [List.getElem?_set_self h2] at hx
      cases h
      cases hx
      exact s
    · rw [List.getElem?_set_ne (Ne.symm hj)] at h hx
      exact A.sl j en h x hx
  nd := fun j k en u p h1 h2 h3 h4 => by
    by_cases hj : j = i
    · by_cases hk : k = i
      · rw [hj, hk]
      · rw [List.getElem?_set_ne (Ne.symm hk)] at h2
        subst hj
        have h0 : j < env.length := by
          have q := (List.getElem?_eq_some_iff.mp h1).1
          rwa [List.length_set] at q
        rw [List.getElem?_set_self h0] at h1
        cases h1
        exact absurd h4 (hn k u p hk h2 h3)
    · rw [List.getElem?_set_ne (Ne.symm hj)] at h1
      by_cases hk : k = i
      · subst hk
        have h0 : k < env.length := by
          have q := (List.getElem?_eq_some_iff.mp h2).1
          rwa [List.length_set] at q
        rw [List.getElem?_set_self h0] at h2
        cases h2
        exact absurd h3 (hn j en p hj h1 h4)
      · rw [List.getElem?_set_ne (Ne.symm hk)] at h2
        exact A.nd j k en u p h1 h2 h3 h4
  gh := A.gh
  tr := A.tr
  sub := A.sub
  fresh := A.fresh
  ext := A.ext
  keep := A.keep
theorem At.puti (A : At C M env σ H) (i : Nat) {v : V} {d : D} (r : Rep M H v d) : At C M (env.set i (.im d)) (σ.set i (some v)) H := A.put i ⟨v, rfl, r⟩ fun _ _ _ _ _ h => nomatch h
/-- what slots held is forgotten -/
theorem At.weak {env2 : List En} (A : At C M env σ H) (hl : env2.length = env.length) (h : ∀ (i : Nat) (e : En), env2[i]? = some e → e = .no ∨ env[i]? = some e) : At C M env2 σ H where
  len := by rw [A.len, hl]
  sl := fun i e he x hx => by
    rcases h i e he with z | z
    · subst z
      trivial
    · exact A.sl i e z x hx
  nd := fun i j e u p h1 h2 h3 h4 => by
    rcases h i e h1 with z | z
    · subst z
      cases h3
    · rcases h j u h2 with y | y
      · subst y
        cases h4
      · exact A.nd i j e u p z y h3 h4
  gh := A.gh
  tr := A.tr
  sub := A.sub
  fresh := A.fresh
  ext := A.ext
  keep := A.keep
/-- the values of other slots may go -/
theorem At.vals {σ2 : L2.St} (A : At C M env σ H) (hl : σ2.length = σ.length) (h : ∀ (i : Nat) (e : En), env[i]? = some e → e = .no ∨ σ2[i]? = σ[i]?) : At C M env σ2 H where
  len := by rw [hl, A.len]
  sl := fun i e he x hx => by
    rcases h i e he with z | z
    · subst z
      trivial
    · exact A.sl i e he x (by rw [← z, hx])
  nd := A.nd
  gh := A.gh
  tr := A.tr
  sub := A.sub
  fresh := A.fresh
  ext := A.ext
  keep := A.keep
/-- an own object is changed: its slot tells the new one -/
theorem At.chg {p : Addr} {o : HO} {k : Nat} {e e' : En} (A : At C M env σ H) (hk : env[k]? = some e) (ha : e.addr = some p) (ha' : e'.addr = some p) (s : ∀ x, Slot C M H x e → Slot C M (L2.upd H p o) x e') : At C M (env.set k e') σ (L2.upd H p o) := by
  obtain ⟨x0, hx0, s0⟩ := A.lt hk
  have hp := s0.own ha
  have hkl : k < env.length := (List.getElem?_eq_some_iff.mp hk).1
  refine ⟨by rw [List.length_set, A.len], fun i en h x hx => ?_, fun i j en u q h1 h2 h3 h4 => ?_, fun q hq => (A.gh q hq).mono (Ext.at hp.1), fun a ham => ?_, A.sub, A.fresh, fun a u n h => ?_, fun a ha0 hj => ?_⟩
  · by_cases hi : i = k
    · subst hi
      rw [List.getElem?_set_self hkl] at h
      cases h
      exact s x (A.sl i e hk x hx)
    · rw [List.getElem?_set_ne (Ne.symm hi)] at h
      refine (A.sl i en h x hx).keep (Ext.at hp.1) fun q hq => upd_ne fun z => ?_
      subst z
      exact hi (A.nd i k en e q h hk hq ha)
  · have key : ∀ (i : Nat) (en : En), (env.set k e')[i]? = some en → ∃ eo, env[i]? = some eo ∧ (en.addr = some q → eo.addr = some q) := fun i en h => by
      by_cases hi : i = k
      · subst hi
        rw [List.getElem?_set_self hkl] at h
        cases h
        exact ⟨e, hk, fun z => by rw [ha, ← ha', z]⟩
      · rw [List.getElem?_set_ne (Ne.symm hi)] at h
        exact ⟨en, h, fun z => z⟩
    obtain ⟨e1, g1, g2⟩ := key i en h1
    obtain ⟨e2, g3, g4⟩ := key j u h2
    exact A.nd i j e1 e2 q g1 g3 (g2 h3) (g4 h4)
  · by_cases z : a = p
    · rw [z, upd_same]
      exact fun z => nomatch z
    · rw [upd_ne z]
      exact A.tr a ham
  · by_cases z : a = p
    · subst z
      rw [A.fresh a hp.1 n] at h
      cases h
    · rw [upd_ne z]
      exact A.ext a u n h
  · by_cases z : a = p
    · subst z
      rcases hp.2.1 with y | y
      · exact absurd y hj
      · exact absurd ha0 y
    · rw [upd_ne z]
      exact A.keep a ha0 hj
/-- a new object may change from now on -/
theorem At.open_ {p : Addr} {o : HO} (A : At C M env σ H) (hp : H p = none) : At C (p :: M) env σ (L2.upd H p o) ∧ p ∉ M ∧ Own C p := by
  have np : p ∉ M := fun z => A.tr p z hp
  have np0 : p ∉ C.M0 := fun z => np (A.sub p z)
  refine ⟨⟨A.len, fun i e he x hx => ?_, A.nd, fun q hq => ((A.gh q hq).cons hp).mono (Ext.new hp), fun a ha => ?_, fun a ha => List.mem_cons_of_mem _ (A.sub a ha), fun a ha hn => ?_, fun a u n h => ?_, fun a ha hj => ?_⟩, np, .inr np0⟩
  · have s := A.sl i e he x hx
    exact (s.cons hp).keep (Ext.new hp) fun q hq => upd_ne fun (z : q = p) => np (z ▸ (s.own hq).1)
  · rcases List.mem_cons.mp ha with rfl | ha
    · rw [upd_same]
      exact fun z => nomatch z
    · rw [upd_ne (fun (z : a = p) => np (z ▸ ha))]
      exact A.tr a ha
  · rcases List.mem_cons.mp ha with rfl | ha
    · cases q : C.H0 a with
      | none => rfl
      | some u =>
        rw [A.ext a u np0 q] at hp
        cases hp
    · exact A.fresh a ha hn
  · by_cases e : a = p
    · subst e
      rw [A.ext a u n h] at hp
      cases hp
    · rw [upd_ne e]
      exact A.ext a u n h
  · rw [upd_ne (fun (z : a = p) => np0 (z ▸ ha))]
    exact A.keep a ha hj
/-- what may change changes no more -/
theorem At.freeze {N : List Addr} (A : At C M env σ H) (s : ∀ a ∈ N, a ∈ M) (s0 : ∀ a ∈ C.M0, a ∈ N) (h : ∀ (i : Nat) (e : En) (p : Addr), env[i]? = some e → e.addr = some p → p ∈ N) : At C N env σ H where
  len := A.len
  sl := fun i e he x hx => by
    have q := A.sl i e he x hx
    cases e with
    | no => trivial
    | im d =>
      obtain ⟨v, h1, h2⟩ := q
      exact ⟨v, h1, h2.sub s⟩
    | mu p ds =>
      obtain ⟨h1, h2, h5, vs, h3, h4⟩ := q
      exact ⟨h1, h i _ p he rfl, h5, vs, h3, h4.sub s⟩
    | md p ds =>
      obtain ⟨h1, h2, h5, vs, h3, h4⟩ := q
      exact ⟨h1, h i _ p he rfl, h5, vs, h3, h4.sub s⟩
    | jar p =>
      obtain ⟨h1, h2, h5, h3⟩ := q
      exact ⟨h1, h i _ p he rfl, h5, h3.sub s⟩
  nd := A.nd
  gh := fun q hq => (A.gh q hq).sub s
  tr := fun a ha => A.tr a (s a ha)
  sub := s0
  fresh := fun a ha => A.fresh a (s a ha)
  ext := A.ext
  keep := A.keep
/-- things beside -/
theorem At.ghost {v : V} {d : D} (A : At C M env σ H) (r : Rep M H v d) : At { C with gh := (v, d) :: C.gh } M env σ H where
  len := A.len
  sl := A.sl
  nd := A.nd
  gh := fun q hq => by
    rcases List.mem_cons.mp hq with rfl | hq
    · exact r
    · exact A.gh q hq
  tr := A.tr
  sub := A.sub
  fresh := A.fresh
  ext := A.ext
  keep := A.keep
theorem At.unghost {g : List (V × D)} (A : At { C with gh := g } M env σ H) (s : ∀ q ∈ C.gh, q ∈ g) : At C M env σ H where
  len := A.len
  sl := A.sl
  nd := A.nd
  gh := fun q hq => A.gh q (s q hq)
  tr := A.tr
  sub := A.sub
  fresh := A.fresh
  ext := A.ext
  keep := A.keep
end
end Y

set_option Elab.async false
set_option linter.all false
set_option maxRecDepth 100000
set_option maxHeartbeats 4000000
/-! Y2: what a reading evaluates to, over data alone. -/
namespace Y
open PySem L2

abbrev Is {α : Type} (d : α) : α → Prop := fun x => x = d
def Ev (te : TE) (env : List En) (P : D → Prop) : Prop :=
  ∀ C M σ H, At C M env σ H → ∀ Q : VK, (∀ v d H', P d → At C M env σ H' → Ext M H H' → Rep M H' v d → Q v H') → te σ H Q
def EvT (tt : TT) (env : List En) (P : Bool → Prop) : Prop :=
  ∀ C M σ H, At C M env σ H → ∀ Q : Bool → Hp → Prop, (∀ b H', P b → At C M env σ H' → Ext M H H' → Q b H') → tt σ H Q
def EvA (ta : TA) (env : List En) (P : List D → Prop) : Prop :=
  ∀ C M σ H, At C M env σ H → ∀ Q : List V → Hp → Prop, (∀ vs ds H', P ds → At C M env σ H' → Ext M H H' → RepL M H' vs ds → Q vs H') → ta σ H Q
def EvO (to : TO) (env : List En) (P : Option Int → Prop) : Prop :=
  ∀ C M σ H, At C M env σ H → ∀ Q : Option Int → Hp → Prop, (∀ o H', P o → At C M env σ H' → Ext M H H' → Q o H') → to σ H Q
/-- operations by values: nothing of what is tracked changes -/
def RV (r : R2) (x y : D) (S : D → Prop) : Prop :=
  ∀ (M : List Addr) (H : Hp) (u v : V), (∀ a ∈ M, H a ≠ none) → Rep M H u x → Rep M H v y → ∀ Q : VK, (∀ w z H', S z → All H H' → Rep M H' w z → Q w H') → r u v H Q
def RU (r : V → Hp → VK → Prop) (x : D) (S : D → Prop) : Prop :=
  ∀ (M : List Addr) (H : Hp) (u : V), (∀ a ∈ M, H a ≠ none) → Rep M H u x → ∀ Q : VK, (∀ w z H', S z → All H H' → Rep M H' w z → Q w H') → r u H Q
def RC (r : List V → Hp → VK → Prop) (xs : List D) (S : D → Prop) : Prop :=
  ∀ (M : List Addr) (H : Hp) (us : List V), (∀ a ∈ M, H a ≠ none) → RepL M H us xs → ∀ Q : VK, (∀ w z H', S z → All H H' → Rep M H' w z → Q w H') → r us H Q
section
variable {env : List En} {te ta tb tc : TE} {tt tu : TT} {P R S : D → Prop} {d x y z : D} {r : R2} {K : PySem.W.Frag}

theorem Ev.imp (h : Ev te env P) (i : ∀ d, P d → S d) : Ev te env S := fun C M σ H A Q q => h C M σ H A Q fun v d H' p => q v d H' (i d p)
theorem EvT.imp {P S : Bool → Prop} (h : EvT tt env P) (i : ∀ d, P d → S d) : EvT tt env S := fun C M σ H A Q q => h C M σ H A Q fun d H' p => q d H' (i d p)
theorem Ev.to (h : Ev te env (Is x)) (e : x = y) : Ev te env (Is y) := e ▸ h
theorem EvT.to {a b : Bool} (h : EvT tt env (Is a)) (e : a = b) : EvT tt env (Is b) := e ▸ h
theorem x_var {i : Nat} (h : env[i]? = some (.im d)) : Ev (tVar i) env (Is d) := fun C M σ H A Q q => by
  obtain ⟨v, h1, h2⟩ := A.get h
  exact ⟨v, h1, q v d H rfl A (Ext.refl M H) h2⟩
theorem x_int {i : Int} : Ev (tC (.int i)) env (Is (.int i)) := fun C M σ H A Q q => q _ _ H rfl A (Ext.refl M H) (.int i)
theorem x_str {i : Str} : Ev (tC (.str i)) env (Is (.str i)) := fun C M σ H A Q q => q _ _ H rfl A (Ext.refl M H) (.str i)
theorem x_bl {i : Bool} : Ev (tC (.bl i)) env (Is (.bl i)) := fun C M σ H A Q q => q _ _ H rfl A (Ext.refl M H) (.bl i)
theorem x_non : Ev (tC .non) env (Is .non) := fun C M σ H A Q q => q _ _ H rfl A (Ext.refl M H) .non
theorem x_ref {a : Addr} : Ev (tC (.ref a)) env (Is (.ref a)) := fun C M σ H A Q q => q _ _ H rfl A (Ext.refl M H) (.ref a)
/-- the jar itself -/
theorem e_op (ha : Ev ta env P) (hb : Ev tb env R) (hr : ∀ x y, P x → R y → RV r x y S) : Ev (tOp r ta tb) env S := fun C M σ H A Q q =>
  ha C M σ H A _ fun v x H1 px A1 e1 r1 => hb C M σ H1 A1 _ fun w y H2 py A2 e2 r2 =>
    hr x y px py M H2 v w A2.tr (r1.mono e2) r2 Q fun u z H3 s3 e3 r3 => q u z H3 s3 (A2.all e3) ((e1.trans e2).trans e3.ext) r3
theorem x_op (ha : Ev ta env (Is x)) (hb : Ev tb env (Is y)) (hr : RV r x y S) : Ev (tOp r ta tb) env S := e_op ha hb fun a b h1 h2 => by
  rw [h1, h2]
  exact hr
theorem e_un {r : V → Hp → VK → Prop} (ha : Ev ta env P) (hr : ∀ x, P x → RU r x S) : Ev (tUn r ta) env S := fun C M σ H A Q q =>
  ha C M σ H A _ fun v x H1 px A1 e1 r1 => hr x px M H1 v A1.tr r1 Q fun u z H3 s3 e3 r3 => q u z H3 s3 (A1.all e3) (e1.trans e3.ext) r3
/-! arguments -/
theorem a_nil : EvA tNil env (Is []) := fun C M σ H A Q q => q [] [] H rfl A (Ext.refl M H) .nil
theorem a_cons {tr : TA} {ds : List D} (h : Ev te env (Is d)) (hr : EvA tr env (Is ds)) : EvA (tCons te tr) env (Is (d :: ds)) := fun C M σ H A Q q =>
  h C M σ H A _ fun v x H1 px A1 e1 r1 => hr C M σ H1 A1 _ fun w y H2 py A2 e2 r2 => q _ _ H2 (by rw [px, py]) A2 (e1.trans e2) (.cons (r1.mono e2) r2)
theorem a_consP {tr : TA} {T : List D → Prop} {U : List D → Prop} (h : Ev te env P) (hr : EvA tr env T) (i : ∀ d ds, P d → T ds → U (d :: ds)) : EvA (tCons te tr) env U := fun C M σ H A Q q =>
  h C M σ H A _ fun v x H1 px A1 e1 r1 => hr C M σ H1 A1 _ fun w y H2 py A2 e2 r2 => q _ _ H2 (i _ _ px py) A2 (e1.trans e2) (.cons (r1.mono e2) r2)
theorem new_not {M : List Addr} {H : Hp} {p : Addr} (t : ∀ a ∈ M, H a ≠ none) (h : H p = none) : p ∉ M := fun z => t p z h
theorem Rep.newL {M : List Addr} {H : Hp} {p : Addr} {vs : List V} {ds : List D} (t : ∀ a ∈ M, H a ≠ none) (h : H p = none) (r : RepL M H vs ds) : Rep M (upd H p (.lst vs)) (.ref p) (.lst ds) :=
  .lst (new_not t h) upd_same (r.mono (Ext.new h))
theorem Rep.newT {M : List Addr} {H : Hp} {p : Addr} {vs : List V} {ds : List D} (t : ∀ a ∈ M, H a ≠ none) (h : H p = none) (r : RepL M H vs ds) : Rep M (upd H p (.tup vs)) (.ref p) (.tup ds) :=
  .tup (new_not t h) upd_same (r.mono (Ext.new h))
theorem e_lst {ta : TA} {T : List D → Prop} (h : EvA ta env T) (hl : ∀ ds, T ds → ds.length ≤ 16000000) : Ev (tLst ta) env (fun d => ∃ ds, T ds ∧ d = .lst ds) := fun C M σ H A Q q =>
  h C M σ H A _ fun vs ds H1 p1 A1 e1 r1 => ⟨by
    have h1 := hl ds p1
    rw [r1.length]
    exact Nat.le_trans h1 (by decide), fun p hp => q _ _ _ ⟨ds, p1, rfl⟩ (A1.all (All.new hp)) (e1.trans (Ext.new hp)) (Rep.newL A1.tr hp r1)⟩
theorem x_lst {ta : TA} {ds : List D} (h : EvA ta env (Is ds)) (hl : ds.length ≤ 16000000 := by decide) : Ev (tLst ta) env (Is (.lst ds)) :=
  (e_lst h (fun es he => by rw [he]; exact hl)).imp fun d ⟨es, he, hd⟩ => by rw [hd, he]
theorem e_tup {ta : TA} {T : List D → Prop} (h : EvA ta env T) (hl : ∀ ds, T ds → ds.length ≤ 16000000) : Ev (tTup ta) env (fun d => ∃ ds, T ds ∧ d = .tup ds) := fun C M σ H A Q q =>
  h C M σ H A _ fun vs ds H1 p1 A1 e1 r1 => ⟨by
    have h1 := hl ds p1
    rw [r1.length]
    exact Nat.le_trans h1 (by decide), fun p hp => q _ _ _ ⟨ds, p1, rfl⟩ (A1.all (All.new hp)) (e1.trans (Ext.new hp)) (Rep.newT A1.tr hp r1)⟩
theorem x_tup {ta : TA} {ds : List D} (h : EvA ta env (Is ds)) (hl : ds.length ≤ 16000000 := by decide) : Ev (tTup ta) env (Is (.tup ds)) :=
  (e_tup h (fun es he => by rw [he]; exact hl)).imp fun d ⟨es, he, hd⟩ => by rw [hd, he]
/-! built-ins by name -/
theorem e_cb {r : List V → Hp → VK → Prop} {ta : TA} {T : List D → Prop} (h : EvA ta env T) (hr : ∀ ds, T ds → RC r ds S) : Ev (tCB r ta) env S := fun C M σ H A Q q =>
  h C M σ H A _ fun vs ds H1 p1 A1 e1 r1 => hr ds p1 M H1 vs A1.tr r1 Q fun w z H2 s2 e2 r2 => q w z H2 s2 (A1.all e2) (e1.trans e2.ext) r2
theorem x_cb {r : List V → Hp → VK → Prop} {ta : TA} {ds : List D} (h : EvA ta env (Is ds)) (hr : RC r ds S) : Ev (tCB r ta) env S := e_cb h fun es he => by
  rw [he]
  exact hr
/-! tests -/
theorem t_test {p : Bool} (h : Ev te env (Is (.bl p))) : EvT (tTest te) env (Is p) := fun C M σ H A Q q =>
  h C M σ H A _ fun v d H1 p1 A1 e1 r1 => ⟨p, by
    subst p1
    exact r1.bl_inv, q p H1 rfl A1 e1⟩
theorem t_testP {T : Bool → Prop} (h : Ev te env (fun d => ∃ b, T b ∧ d = .bl b)) : EvT (tTest te) env T := fun C M σ H A Q q =>
  h C M σ H A _ fun v d H1 ⟨b, hb, hd⟩ A1 e1 r1 => ⟨b, by
    subst hd
    exact r1.bl_inv, q b H1 hb A1 e1⟩
theorem t_B {p : Bool} (h : Ev te env (Is (.bl p))) : EvT (tB te) env (Is p) := fun C M σ H A Q q =>
  h C M σ H A _ fun v d H1 p1 A1 e1 r1 => ⟨p, by
    subst p1
    exact r1.bl_inv, q p H1 rfl A1 e1⟩
theorem t_and {a b : Bool} (h1 : EvT tt env (Is a)) (h2 : a = true → EvT tu env (Is b)) : EvT (tAnd tt tu) env (Is (a && b)) := fun C M σ H A Q q =>
  h1 C M σ H A _ fun c H1 p1 A1 e1 => by
    subst p1
    cases c with
    | true =>
      show tu σ H1 Q
      exact h2 rfl C M σ H1 A1 Q fun b' H2 p2 A2 e2 => q b' H2 (by rw [p2]; rfl) A2 (e1.trans e2)
    | false =>
      show Q false H1
      exact q false H1 rfl A1 e1
theorem t_or {a b : Bool} (h1 : EvT tt env (Is a)) (h2 : a = false → EvT tu env (Is b)) : EvT (tOr tt tu) env (Is (a || b)) := fun C M σ H A Q q =>
  h1 C M σ H A _ fun c H1 p1 A1 e1 => by
    subst p1
    cases c with
    | true =>
      show Q true H1
      exact q true H1 rfl A1 e1
    | false =>
      show tu σ H1 Q
      exact h2 rfl C M σ H1 A1 Q fun b' H2 p2 A2 e2 => q b' H2 (by rw [p2]; rfl) A2 (e1.trans e2)
theorem t_orP {P1 P2 T : Bool → Prop} (h1 : EvT tt env P1) (h2 : P1 false → EvT tu env P2) (i1 : P1 true → T true) (i2 : ∀ b, P1 false → P2 b → T b) : EvT (tOr tt tu) env T := fun C M σ H A Q q =>
  h1 C M σ H A _ fun c H1 p1 A1 e1 => by
    cases c with
    | true =>
      show Q true H1
      exact q true H1 (i1 p1) A1 e1
    | false =>
      show tu σ H1 Q
      exact h2 p1 C M σ H1 A1 Q fun b' H2 p2 A2 e2 => q b' H2 (i2 b' p1 p2) A2 (e1.trans e2)
theorem t_not {a : Bool} (h : EvT tt env (Is a)) : EvT (tNot tt) env (Is (!a)) := fun C M σ H A Q q => h C M σ H A _ fun c H1 p1 A1 e1 => q (!c) H1 (by rw [p1]) A1 e1
/-- truth of a value by its reading -/
def tTr (r : V → Hp → (Bool → Hp → Prop) → Prop) (ta : TE) : TT := fun σ H Q => ta σ H fun x H' => r x H' Q
theorem t_truth {K : PySem.W.Frag} (h : Ev ta env (Is (.lst l))) : EvT (fun σ H Q => ta σ H fun x H' => ∃ k, TruV K x H' k ∧ Q k H') env (Is (!l.isEmpty)) := fun C M σ H A Q q =>
  h C M σ H A _ fun v d H1 p1 A1 e1 r1 => by
    subst p1
    obtain ⟨p, vs, rfl, n, hp, rl⟩ := r1.lst_inv
    have e : (!vs.isEmpty) = !l.isEmpty := by
      cases rl with
      | nil => rfl
      | cons _ _ => rfl
    exact ⟨!vs.isEmpty, .inl ⟨vs, SqL.of hp, rfl⟩, q _ H1 (by rw [e]) A1 e1⟩
/-! values by tests -/
theorem x_andV {a b : Bool} (h1 : Ev ta env (Is (.bl a))) (h2 : a = true → Ev tb env (Is (.bl b))) : Ev (tAndV ta tb) env (Is (.bl (a && b))) := fun C M σ H A Q q =>
  h1 C M σ H A _ fun v d H1 p1 A1 e1 r1 => by
    subst p1
    refine ⟨a, r1.bl_inv, ?_⟩
    cases a with
    | true =>
      show tb σ H1 Q
      exact h2 rfl C M σ H1 A1 Q fun w d2 H2 p2 A2 e2 r2 => q w d2 H2 (by rw [p2]; rfl) A2 (e1.trans e2) r2
    | false =>
      show Q (.bl false) H1
      exact q _ _ H1 rfl A1 e1 (.bl false)
theorem x_orV {a b : Bool} (h1 : Ev ta env (Is (.bl a))) (h2 : a = false → Ev tb env (Is (.bl b))) : Ev (tOrV ta tb) env (Is (.bl (a || b))) := fun C M σ H A Q q =>
  h1 C M σ H A _ fun v d H1 p1 A1 e1 r1 => by
    subst p1
    refine ⟨a, r1.bl_inv, ?_⟩
    cases a with
    | true =>
      show Q (.bl true) H1
      exact q _ _ H1 rfl A1 e1 (.bl true)
    | false =>
      show tb σ H1 Q
      exact h2 rfl C M σ H1 A1 Q fun w d2 H2 p2 A2 e2 r2 => q w d2 H2 (by rw [p2]; rfl) A2 (e1.trans e2) r2
theorem x_notV {a : Bool} (h1 : Ev ta env (Is (.bl a))) : Ev (tNotV ta) env (Is (.bl (!a))) := fun C M σ H A Q q =>
  h1 C M σ H A _ fun v d H1 p1 A1 e1 r1 => by
    subst p1
    exact ⟨a, r1.bl_inv, q _ _ H1 rfl A1 e1 (.bl (!a))⟩
theorem e_if {T : Bool → Prop} (h : EvT tt env T) (h1 : T true → Ev ta env S) (h2 : T false → Ev tb env S) : Ev (tIf tt ta tb) env S := fun C M σ H A Q q =>
  h C M σ H A _ fun b H1 p1 A1 e1 => by
    cases b with
    | true =>
      show ta σ H1 Q
      exact h1 p1 C M σ H1 A1 Q fun w d2 H2 p2 A2 e2 r2 => q w d2 H2 p2 A2 (e1.trans e2) r2
    | false =>
      show tb σ H1 Q
      exact h2 p1 C M σ H1 A1 Q fun w d2 H2 p2 A2 e2 r2 => q w d2 H2 p2 A2 (e1.trans e2) r2
theorem x_if {b : Bool} (h : EvT tt env (Is b)) (h1 : b = true → Ev ta env S) (h2 : b = false → Ev tb env S) : Ev (tIf tt ta tb) env S := e_if h (fun e => h1 e.symm) (fun e => h2 e.symm)
theorem e_testV {T : Bool → Prop} (h : EvT (tTest te) env T) : True := trivial

/-! ### operations on ints -/
theorem r_I0i {f : Int → Int → Int} {i j : Int} : RV (rI0 fun i j => .int (f i j)) (.int i) (.int j) (Is (.int (f i j))) := fun M H u v _ h1 h2 Q q => by
  rw [h1.int_inv, h2.int_inv]
  exact ⟨i, j, rfl, rfl, q _ _ H rfl (All.refl H) (.int _)⟩
theorem r_I0b {f : Int → Int → Bool} {i j : Int} : RV (rI0 fun i j => .bl (f i j)) (.int i) (.int j) (Is (.bl (f i j))) := fun M H u v _ h1 h2 Q q => by
  rw [h1.int_inv, h2.int_inv]
  exact ⟨i, j, rfl, rfl, q _ _ H rfl (All.refl H) (.bl _)⟩
theorem r_Ii {c : Int → Int → Prop} {f : Int → Int → Int} {i j : Int} (hc : c i j) : RV (rI c fun i j => .int (f i j)) (.int i) (.int j) (Is (.int (f i j))) := fun M H u v _ h1 h2 Q q => by
  rw [h1.int_inv, h2.int_inv]
  exact ⟨i, j, rfl, rfl, hc, q _ _ H rfl (All.refl H) (.int _)⟩
theorem u_neg {i : Int} : RU (rU fun i => .int (-i)) (.int i) (Is (.int (-i))) := fun M H u _ h1 Q q => by
  rw [h1.int_inv]
  exact ⟨i, rfl, q _ _ H rfl (All.refl H) (.int _)⟩
theorem dec_V {i j : Int} : decide (V.int i = V.int j) = decide (i = j) := by
  by_cases h : i = j
  · rw [h]
    simp
  · simp [h]
theorem dec_S {i j : Str} : decide (V.str i = V.str j) = decide (i = j) := by
  by_cases h : i = j
  · rw [h]
    simp
  · simp [h]
theorem dec_Bl {i j : Bool} : decide (V.bl i = V.bl j) = decide (i = j) := by
  by_cases h : i = j
  · rw [h]
    simp
  · simp [h]
theorem r_eqI {i j : Int} : RV rEq (.int i) (.int j) (Is (.bl (decide (i = j)))) := fun M H u v _ h1 h2 Q q => by
  rw [h1.int_inv, h2.int_inv]
  exact ⟨rfl, by rw [dec_V]; exact q _ _ H rfl (All.refl H) (.bl _)⟩
theorem r_neI {i j : Int} : RV rNe (.int i) (.int j) (Is (.bl (!decide (i = j)))) := fun M H u v _ h1 h2 Q q => by
  rw [h1.int_inv, h2.int_inv]
  exact ⟨rfl, by rw [dec_V]; exact q _ _ H rfl (All.refl H) (.bl _)⟩
theorem r_eqS {i j : Str} : RV rEq (.str i) (.str j) (Is (.bl (decide (i = j)))) := fun M H u v _ h1 h2 Q q => by
  rw [h1.str_inv, h2.str_inv]
  exact ⟨rfl, by rw [dec_S]; exact q _ _ H rfl (All.refl H) (.bl _)⟩
theorem r_eqB {i j : Bool} : RV rEq (.bl i) (.bl j) (Is (.bl (decide (i = j)))) := fun M H u v _ h1 h2 Q q => by
  rw [h1.bl_inv, h2.bl_inv]
  exact ⟨rfl, by rw [dec_Bl]; exact q _ _ H rfl (All.refl H) (.bl _)⟩
theorem r_neB {i j : Bool} : RV rNe (.bl i) (.bl j) (Is (.bl (!decide (i = j)))) := fun M H u v _ h1 h2 Q q => by
  rw [h1.bl_inv, h2.bl_inv]
  exact ⟨rfl, by rw [dec_Bl]; exact q _ _ H rfl (All.refl H) (.bl _)⟩
/-- what is None -/
def D.isN : D → Bool
  | .non => true
  | _ => false
theorem Rep.isN {M : List Addr} {H : Hp} {v : V} {d : D} (r : Rep M H v d) : decide (v = .non) = d.isN := by
  cases r <;> first | rfl | simp [D.isN]
theorem r_isN : RV (fun x y H Q => y = .non ∧ Q (.bl (decide (x = .non))) H) x .non (Is (.bl x.isN)) := fun M H u v _ h1 h2 Q q =>
  ⟨h2.non_inv, by rw [h1.isN]; exact q _ _ H rfl (All.refl H) (.bl _)⟩
theorem r_notN : RV (fun x y H Q => y = .non ∧ Q (.bl (!decide (x = .non))) H) x .non (Is (.bl (!x.isN))) := fun M H u v _ h1 h2 Q q =>
  ⟨h2.non_inv, by rw [h1.isN]; exact q _ _ H rfl (All.refl H) (.bl _)⟩

/-! ### lists and tuples -/
theorem atI_rep {M : List Addr} {H : Hp} {vs : List V} {ds : List D} {i : Int} {d : D} (r : RepL M H vs ds) (h : atI ds i = some d) : ∃ v, atI vs i = some v ∧ Rep M H v d := by
  unfold atI at h ⊢
  rw [r.length]
  cases e : ixN ds.length i with
  | none =>
    rw [e] at h
    cases h
  | some j =>
    rw [e] at h
    exact r.get h
theorem r_ixL {l : List D} {i : Int} (h : atI l i = some d) : RV (rIxL K) (.lst l) (.int i) (Is d) := fun M H u v _ h1 h2 Q q => by
  obtain ⟨p, vs, rfl, n, hp, rl⟩ := h1.lst_inv
  rw [h2.int_inv]
  obtain ⟨w, hw, rw'⟩ := atI_rep rl h
  exact ⟨p, vs, i, w, rfl, rfl, SqL.of hp, hw, q w d H rfl (All.refl H) rw'⟩
theorem r_ixT {l : List D} {i : Int} (h : atI l i = some d) : RV (rIxT K) (.tup l) (.int i) (Is d) := fun M H u v _ h1 h2 Q q => by
  obtain ⟨p, vs, rfl, n, hp, rl⟩ := h1.tup_inv
  rw [h2.int_inv]
  obtain ⟨w, hw, rw'⟩ := atI_rep rl h
  exact ⟨p, vs, i, w, rfl, rfl, SqT.of hp, hw, q w d H rfl (All.refl H) rw'⟩
theorem atI_of {l : List D} {j : Nat} (h : l[j]? = some d) : atI l (j : Int) = some d := atI_nat h
/-- len of a list, of a tuple -/
theorem c_lenL {l : List D} : RC (fun xs H Q => ∃ p ys, xs = [.ref p] ∧ (SqL K H p ys ∨ SqT K H p ys) ∧ Q (.int ys.length) H) [.lst l] (Is (.int l.length)) := fun M H us _ h1 Q q => by
  cases h1 with
  | cons h1 h2 =>
    cases h2
    obtain ⟨p, vs, rfl, n, hp, rl⟩ := h1.lst_inv
    exact ⟨p, vs, rfl, .inl (SqL.of hp), by rw [rl.length]; exact q _ _ H rfl (All.refl H) (.int _)⟩
theorem c_lenT {l : List D} : RC (fun xs H Q => ∃ p ys, xs = [.ref p] ∧ (SqL K H p ys ∨ SqT K H p ys) ∧ Q (.int ys.length) H) [.tup l] (Is (.int l.length)) := fun M H us _ h1 Q q => by
  cases h1 with
  | cons h1 h2 =>
    cases h2
    obtain ⟨p, vs, rfl, n, hp, rl⟩ := h1.tup_inv
    exact ⟨p, vs, rfl, .inr (SqT.of hp), by rw [rl.length]; exact q _ _ H rfl (All.refl H) (.int _)⟩
theorem c_list {l : List D} : RC (fun xs H Q => ∃ p ys, xs = [.ref p] ∧ (SqL K H p ys ∨ SqT K H p ys) ∧ ∀ l, H l = none → Q (.ref l) (upd H l (.lst ys))) [.lst l] (Is (.lst l)) := fun M H us t h1 Q q => by
  cases h1 with
  | cons h1 h2 =>
    cases h2
    obtain ⟨p, vs, rfl, n, hp, rl⟩ := h1.lst_inv
    exact ⟨p, vs, rfl, .inl (SqL.of hp), fun b hb => q _ _ _ rfl (All.new hb) (Rep.newL t hb rl)⟩
theorem c_tuple {l : List D} : RC (fun xs H Q => ∃ p ys, xs = [.ref p] ∧ ((SqL K H p ys ∧ ∀ l, H l = none → Q (.ref l) (upd H l (.tup ys))) ∨ (SqT K H p ys ∧ Q (.ref p) H))) [.lst l] (Is (.tup l)) := fun M H us t h1 Q q => by
  cases h1 with
  | cons h1 h2 =>
    cases h2
    obtain ⟨p, vs, rfl, n, hp, rl⟩ := h1.lst_inv
    exact ⟨p, vs, rfl, .inl ⟨SqL.of hp, fun b hb => q _ _ _ rfl (All.new hb) (Rep.newT t hb rl)⟩⟩
theorem c_tupleT {l : List D} : RC (fun xs H Q => ∃ p ys, xs = [.ref p] ∧ ((SqL K H p ys ∧ ∀ l, H l = none → Q (.ref l) (upd H l (.tup ys))) ∨ (SqT K H p ys ∧ Q (.ref p) H))) [.tup l] (Is (.tup l)) := fun M H us t h1 Q q => by
  cases h1 with
  | cons h1 h2 =>
    cases h2
    obtain ⟨p, vs, rfl, n, hp, rl⟩ := h1.tup_inv
    exact ⟨p, vs, rfl, .inr ⟨SqT.of hp, q _ _ _ rfl (All.refl H) (.tup n hp rl)⟩⟩
theorem c_int {i : Int} : RC (fun xs H Q => (∃ i, xs = [.int i] ∧ Q (.int i) H) ∨ ∃ k, xs = [.bl k] ∧ Q (.int (if k then 1 else 0)) H) [.int i] (Is (.int i)) := fun M H us t h1 Q q => by
  cases h1 with
  | cons h1 h2 =>
    cases h2
    rw [h1.int_inv]
    exact .inl ⟨i, rfl, q _ _ H rfl (All.refl H) (.int i)⟩
theorem r_cat {a b : List D} (hl : a.length + b.length ≤ 16000000) : RV rCat (.lst a) (.lst b) (Is (.lst (a ++ b))) := fun M H u v t h1 h2 Q q => by
  obtain ⟨p, vs, rfl, n, hp, rl⟩ := h1.lst_inv
  obtain ⟨p2, ws, rfl, n2, hp2, rl2⟩ := h2.lst_inv
  refine ⟨p, p2, vs, ws, rfl, rfl, hp, hp2, ?_, fun c hc => q _ _ _ rfl (All.new hc) (Rep.newL t hc (rl.append rl2))⟩
  rw [rl.length, rl2.length]
  exact Nat.le_trans hl (by decide)
theorem r_catA {a b : List D} (hl : a.length + b.length ≤ 16000000) : RV (rCatA K) (.tup a) (.tup b) (Is (.tup (a ++ b))) := fun M H u v t h1 h2 Q q => by
  obtain ⟨p, vs, rfl, n, hp, rl⟩ := h1.tup_inv
  obtain ⟨p2, ws, rfl, n2, hp2, rl2⟩ := h2.tup_inv
  refine ⟨p, p2, vs, ws, rfl, rfl, SqT.of hp, SqT.of hp2, ?_, fun z => ?_, fun _ z => ?_, fun _ _ c hc => q _ _ _ rfl (All.new hc) (Rep.newT t hc (rl.append rl2))⟩
  · rw [rl.length, rl2.length]
    exact Nat.le_trans hl (by decide)
  · subst z
    cases rl
    exact q _ _ H rfl (All.refl H) (.tup n2 hp2 rl2)
  · subst z
    cases rl2
    rw [List.append_nil] at q
    exact q _ _ H rfl (All.refl H) (.tup n hp rl)
/-- x in a list, a tuple of ints -/
theorem inV_ints (k : Int) : ∀ ns : List Int, inV (.int k) (ns.map V.int) = decide (k ∈ ns)
  | [] => by simp [inV]
  | n :: r => by
    have ih := inV_ints k r
    unfold inV at ih ⊢
    rw [List.map_cons, List.any_cons, ih]
    have e : eqV (.int n) (.int k) = decide (n = k) := by
      simp only [eqV]
      by_cases h : n = k
      · simp [h]
      · simp [h]
    rw [e]
    by_cases h : k = n
    · subst h
      simp
    · have h2 : ¬ n = k := fun z => h z.symm
      simp [h, h2]
theorem flat_ints (ns : List Int) : (ns.map V.int).all flatV = true := by
  rw [List.all_eq_true]
  intro v hv
  obtain ⟨n, _, rfl⟩ := List.mem_map.mp hv
  rfl
theorem r_inL {k : Int} {ns : List Int} {neg : Bool} : RV (rIn K neg) (.int k) (.lst (ns.map D.int)) (Is (.bl (if neg then !decide (k ∈ ns) else decide (k ∈ ns)))) := fun M H u v t h1 h2 Q q => by
  rw [h1.int_inv]
  obtain ⟨p, vs, rfl, n, hp, rl⟩ := h2.lst_inv
  have e := rl.ints
  subst e
  exact ⟨p, _, rfl, .inl (SqL.of hp), rfl, flat_ints ns, by rw [inV_ints]; exact q _ _ H rfl (All.refl H) (.bl _)⟩
theorem r_inT {k : Int} {ns : List Int} {neg : Bool} : RV (rIn K neg) (.int k) (.tup (ns.map D.int)) (Is (.bl (if neg then !decide (k ∈ ns) else decide (k ∈ ns)))) := fun M H u v t h1 h2 Q q => by
  rw [h1.int_inv]
  obtain ⟨p, vs, rfl, n, hp, rl⟩ := h2.tup_inv
  have e := rl.ints
  subst e
  exact ⟨p, _, rfl, .inr (SqT.of hp), rfl, flat_ints ns, by rw [inV_ints]; exact q _ _ H rfl (All.refl H) (.bl _)⟩
theorem r_notInL {k : Int} {ns : List Int} : RV (rIn K true) (.int k) (.lst (ns.map D.int)) (Is (.bl (!decide (k ∈ ns)))) := r_inL
theorem r_isInL {k : Int} {ns : List Int} : RV (rIn K false) (.int k) (.lst (ns.map D.int)) (Is (.bl (decide (k ∈ ns)))) := r_inL
theorem RV.imp {T : D → Prop} (h : RV r x y S) (i : ∀ d, S d → T d) : RV r x y T := fun M H u v t a b Q q => h M H u v t a b Q fun w z H' s => q w z H' (i z s)
theorem RC.imp {r : List V → Hp → VK → Prop} {xs : List D} {T : D → Prop} (h : RC r xs S) (i : ∀ d, S d → T d) : RC r xs T := fun M H u t a Q q => h M H u t a Q fun w z H' s => q w z H' (i z s)
/-- sorted of ints, any number -/
theorem c_sortedI {ns : List Int} : RC (fun vs H Q => ∃ (a : Addr) (ns : List Int), vs = [V.ref a] ∧ SqL K H a (ns.map V.int) ∧
    ∀ (ns' : List Int) (p : Addr), ns'.Perm ns → ns'.Pairwise (· ≤ ·) → H p = none → Q (.ref p) (upd H p (.lst (ns'.map V.int)))) [.lst (ns.map D.int)] (fun d => ∃ ns' : List Int, ns'.Perm ns ∧ ns'.Pairwise (· ≤ ·) ∧ d = .lst (ns'.map D.int)) := fun M H us t h1 Q q => by
  cases h1 with
  | cons h1 h2 =>
    cases h2
    obtain ⟨p, vs, rfl, n, hp, rl⟩ := h1.lst_inv
    have e := rl.ints
    subst e
    exact ⟨p, ns, rfl, SqL.of hp, fun ns' c h3 h4 hc => q _ _ _ ⟨ns', h3, h4, rfl⟩ (All.new hc) (Rep.newL t hc (RepL.of_ints ns'))⟩
/-- max of ints -/
theorem c_max {ns : List Int} (h0 : ns ≠ []) : RC (rMax K) [.lst (ns.map D.int)] (fun d => ∃ m, m ∈ ns ∧ (∀ y, y ∈ ns → y ≤ m) ∧ d = .int m) := fun M H us t h1 Q q => by
  cases h1 with
  | cons h1 h2 =>
    cases h2
    obtain ⟨p, vs, rfl, n, hp, rl⟩ := h1.lst_inv
    have e := rl.ints
    subst e
    exact ⟨p, ns, rfl, SqL.of hp, by
      cases ns with
      | nil => exact absurd rfl h0
      | cons _ _ => simp, fun m h3 h4 => q _ _ H ⟨m, h3, h4, rfl⟩ (All.refl H) (.int m)⟩
/-! slices -/
theorem o_no : EvO tNoPart env (Is none) := fun C M σ H A Q q => q none H rfl A (Ext.refl M H)
theorem o_some {i : Int} (h : Ev te env (Is (.int i))) : EvO (tPart te) env (Is (some i)) := fun C M σ H A Q q =>
  h C M σ H A _ fun v d H1 p1 A1 e1 r1 => by
    subst p1
    exact ⟨i, r1.int_inv, q _ H1 rfl A1 e1⟩
def cutD (xs : List D) (lo hi : Option Int) : List D := (xs.drop (HT.sIx xs.length 0 lo)).take (HT.sIx xs.length xs.length hi - HT.sIx xs.length 0 lo)
theorem cut_rep {M : List Addr} {H : Hp} {vs : List V} {ds : List D} (lo hi : Option Int) (r : RepL M H vs ds) : RepL M H (cutV vs lo hi) (cutD ds lo hi) := by
  unfold cutV cutD
  rw [r.length]
  exact (r.drop _).take _
theorem x_slL {l : List D} {to tu : TO} {lo hi : Option Int} (h : Ev te env (Is (.lst l))) (h1 : EvO to env (Is lo)) (h2 : EvO tu env (Is hi)) : Ev (tSl (rSlL K) te to tu) env (Is (.lst (cutD l lo hi))) := fun C M σ H A Q q =>
  h C M σ H A _ fun v d H1 p1 A1 e1 r1 => h1 C M σ H1 A1 _ fun o H2 p2 A2 e2 => h2 C M σ H2 A2 _ fun u H3 p3 A3 e3 => by
    subst p1 p2 p3
    obtain ⟨p, vs, rfl, n, hp, rl⟩ := (r1.mono (e2.trans e3)).lst_inv
    exact ⟨p, vs, rfl, SqL.of hp, fun c hc => q _ _ _ rfl (A3.all (All.new hc)) (((e1.trans e2).trans e3).trans (Ext.new hc)) (Rep.newL A3.tr hc (cut_rep o u rl))⟩
/-- xs[::-1] -/
theorem x_rev {l : List D} (h : Ev te env (Is (.lst l))) : Ev (fun σ H Q => te σ H fun x H1 => ∃ a xs, x = .ref a ∧ SqL K H1 a xs ∧ ∀ p, H1 p = none → Q (.ref p) (upd H1 p (.lst xs.reverse))) env (Is (.lst l.reverse)) := fun C M σ H A Q q =>
  h C M σ H A _ fun v d H1 p1 A1 e1 r1 => by
    subst p1
    obtain ⟨p, vs, rfl, n, hp, rl⟩ := r1.lst_inv
    exact ⟨p, vs, rfl, SqL.of hp, fun c hc => q _ _ _ rfl (A1.all (All.new hc)) (e1.trans (Ext.new hc)) (Rep.newL A1.tr hc rl.rev)⟩

end
end Y

set_option Elab.async false
set_option linter.all false
set_option maxRecDepth 100000
set_option maxHeartbeats 4000000
/-! Y3: what is walked, comprehensions, statements, loops. -/
namespace Y
open PySem L2
/-! ### a state within a state: of what may change only the slots' own change -/
def inner (N : List Addr) (H : Hp) (env : List En) (g : List (V × D)) : Ctx := ⟨N, H, env.filterMap En.addr, g⟩
theorem mem_addr {env : List En} {p : Addr} : p ∈ env.filterMap En.addr ↔ ∃ (i : Nat) (e : En), env[i]? = some e ∧ e.addr = some p := by
  constructor
  · intro h
    obtain ⟨e, he, ha⟩ := List.mem_filterMap.mp h
    obtain ⟨i, hi⟩ := List.mem_iff_getElem?.mp he
    exact ⟨i, e, hi, ha⟩
  · rintro ⟨i, e, h, ha⟩
    exact List.mem_filterMap.mpr ⟨e, List.mem_of_getElem? h, ha⟩
section
variable {C : Ctx} {M N : List Addr} {env : List En} {σ : L2.St} {H H' : Hp}
theorem At.into (A : At C M env σ H) : At (inner M H env C.gh) M env σ H where
  len := A.len
  sl := fun i e h x hx => by
    have s := A.sl i e h x hx
    have o : ∀ p, e.addr = some p → Own (inner M H env C.gh) p := fun p hp => .inl (mem_addr.mpr ⟨i, e, h, hp⟩)
    cases e with
    | no => trivial
    | im d => exact s
    | mu p l => exact ⟨s.1, s.2.1, o p rfl, s.2.2.2⟩
    | md p l => exact ⟨s.1, s.2.1, o p rfl, s.2.2.2⟩
    | jar p => exact ⟨s.1, s.2.1, o p rfl, s.2.2.2⟩
  nd := A.nd
  gh := A.gh
  tr := A.tr
  sub := fun _ h => h
  fresh := fun a h n => absurd h n
  ext := Ext.refl _ _
  keep := fun _ _ _ => rfl
/-- back: the slots own what they owned (env', σ' may be others) -/
theorem At.out {env' : List En} {σ' : L2.St} {g : List (V × D)} (A : At C M env σ H) (B : At (inner M H env g) M env' σ' H') (hg : ∀ q ∈ C.gh, q ∈ g) : At C M env' σ' H' where
  len := B.len
  sl := fun i e h x hx => by
    have s := B.sl i e h x hx
    have own : ∀ p, p ∈ M → Own (inner M H env g) p → Own C p := fun p hp ho => by
      rcases ho with z | z
      · obtain ⟨k, u, h1, h2⟩ := mem_addr.mp z
        obtain ⟨y, _, q⟩ := A.lt h1
        exact (q.own h2).2.1
      · exact absurd hp z
    cases e with
    | no => trivial
    | im d => exact s
    | mu p l => exact ⟨s.1, s.2.1, own p s.2.1 s.2.2.1, s.2.2.2⟩
    | md p l => exact ⟨s.1, s.2.1, own p s.2.1 s.2.2.1, s.2.2.2⟩
    | jar p => exact ⟨s.1, s.2.1, own p s.2.1 s.2.2.1, s.2.2.2⟩
  nd := B.nd
  gh := fun q hq => B.gh q (hg q hq)
  tr := B.tr
  sub := A.sub
  fresh := A.fresh
  ext := fun a o n h => by
    by_cases m : a ∈ M
    · rw [A.fresh a m n] at h
      cases h
    · exact B.ext a o m (A.ext a o n h)
  keep := fun a ha hj => by
    have hm := A.sub a ha
    have hn : a ∉ env.filterMap En.addr := fun z => by
      obtain ⟨k, u, h1, h2⟩ := mem_addr.mp z
      obtain ⟨y, _, q⟩ := A.lt h1
      rcases (q.own h2).2.1 with w | w
      · exact hj w
      · exact w ha
    rw [← A.keep a ha hj]
    exact B.keep a hm hn
/-- the same where more may change within (a def's return out of a loop) -/
theorem At.out' {env' : List En} {σ' : L2.St} {g : List (V × D)} (A : At C M env σ H) (B : At (inner M H env g) N env' σ' H') (hg : ∀ q ∈ C.gh, q ∈ g := by exact fun _ h => h) : At C N env' σ' H' where
  len := B.len
  sl := fun i e h x hx => by
    have s := B.sl i e h x hx
    have own : ∀ p, p ∈ N → Own (inner M H env g) p → Own C p := fun p hp ho => by
      rcases ho with z | z
      · obtain ⟨k, u, h1, h2⟩ := mem_addr.mp z
        obtain ⟨y, _, q⟩ := A.lt h1
        exact (q.own h2).2.1
      · exact .inr fun w => z (A.sub p w)
    cases e with
    | no => trivial
    | im d => exact s
    | mu p l => exact ⟨s.1, s.2.1, own p s.2.1 s.2.2.1, s.2.2.2⟩
    | md p l => exact ⟨s.1, s.2.1, own p s.2.1 s.2.2.1, s.2.2.2⟩
    | jar p => exact ⟨s.1, s.2.1, own p s.2.1 s.2.2.1, s.2.2.2⟩
  nd := B.nd
  gh := fun q hq => B.gh q (hg q hq)
  tr := B.tr
  sub := fun a ha => B.sub a (A.sub a ha)
  fresh := fun a ha hn => by
    by_cases m : a ∈ M
    · exact A.fresh a m hn
    · have z := B.fresh a ha m
      cases q : C.H0 a with
      | none => rfl
      | some o =>
        have w := A.ext a o hn q
        rw [show H a = none from z] at w
        cases w
  ext := fun a o n h => by
    by_cases m : a ∈ M
    · rw [A.fresh a m n] at h
      cases h
    · exact B.ext a o m (A.ext a o n h)
  keep := fun a ha hj => by
    have hm := A.sub a ha
    have hn : a ∉ env.filterMap En.addr := fun z => by
      obtain ⟨k, u, h1, h2⟩ := mem_addr.mp z
      obtain ⟨y, _, q⟩ := A.lt h1
      rcases (q.own h2).2.1 with w | w
      · exact hj w
      · exact w ha
    rw [← A.keep a ha hj]
    exact B.keep a hm hn
/-- what no slot owns stands -/
theorem At.stood {env' : List En} {σ' : L2.St} {g : List (V × D)} (B : At (inner M H env g) M env' σ' H') {p : Addr} (hp : p ∈ M) (hn : ∀ (i : Nat) (e : En), env[i]? = some e → e.addr ≠ some p) : H' p = H p :=
  B.keep p hp fun z => by
    obtain ⟨k, u, h1, h2⟩ := mem_addr.mp z
    exact hn k u h1 h2
/-- the block's state (D beside, slot j its own) tells the state around it -/
theorem At.unblk {j : Nat} {Dl : Addr} {d : En} {x : Option V} (A : At C M env σ H) (B : At C (Dl :: M) (env.set j d) (σ.set j x) H') (e : Ext (Dl :: M) H H') (hD : H Dl = none) (hw : ∀ u, env[j]? = some u → u.addr = none) : At C M env σ H' where
  len := A.len
  sl := fun i u h y hy => by
    have s := A.sl i u h y hy
    have ow : ∀ p, u.addr = some p → Slot C (Dl :: M) H' y u := fun p hp => by
      have hij : j ≠ i := fun z => by
        subst z
        rw [hw u h] at hp
        cases hp
      exact B.sl i u (by rw [List.getElem?_set_ne hij]; exact h) y (by rw [List.getElem?_set_ne hij]; exact hy)
    cases u with
    | no => trivial
    | im dd =>
      obtain ⟨v, h1, h2⟩ := s
      exact ⟨v, h1, ((h2.cons hD).mono e).sub fun a ha => List.mem_cons_of_mem _ ha⟩
    | mu p l =>
      obtain ⟨h1, h2, h5, vs, h3, h4⟩ := ow p rfl
      exact ⟨h1, s.2.1, h5, vs, h3, h4.sub fun a ha => List.mem_cons_of_mem _ ha⟩
    | md p l =>
      obtain ⟨h1, h2, h5, vs, h3, h4⟩ := ow p rfl
      exact ⟨h1, s.2.1, h5, vs, h3, h4.sub fun a ha => List.mem_cons_of_mem _ ha⟩
    | jar p =>
      obtain ⟨h1, h2, h5, h3⟩ := ow p rfl
      exact ⟨h1, s.2.1, h5, h3.sub fun a ha => List.mem_cons_of_mem _ ha⟩
  nd := A.nd
  gh := fun q hq => ((((A.gh q hq).cons hD).mono e)).sub fun a ha => List.mem_cons_of_mem _ ha
  tr := fun a ha => B.tr a (List.mem_cons_of_mem _ ha)
  sub := A.sub
  fresh := A.fresh
  ext := B.ext
  keep := B.keep
end

/-! ### what is walked -/
structure Src (J : It) (xs : List D) (St : List Addr → Hp → Prop) : Prop where
  mono : ∀ M H H', Ext M H H' → St M H → St M H'
  cons : ∀ M H p, H p = none → St M H → St (p :: M) H
  go : ∀ M H i, St M H → i < xs.length → J.go i H
  stop : ∀ M H, St M H → J.stop xs.length H
  yld : ∀ M H i x H', St M H → J.yld i H x H' → H' = H ∧ ∀ d, xs[i]? = some d → Rep M H x d
def EvI (wi : TI) (env : List En) (xs : List D) : Prop :=
  ∀ C M σ H, At C M env σ H → ∀ R : It → Hp → Prop, (∀ J St H', At C M env σ H' → Ext M H H' → Src J xs St → St M H' → R J H') → wi σ H R
section
variable {env : List En} {te tl : TE} {tt : TT} {P : D → Prop} {K : PySem.W.Frag} {xs : List D}
theorem src_list {p : Addr} : Src (Itl K p) xs (fun M H => Rep M H (.ref p) (.lst xs)) where
  mono := fun M H H' e r => r.mono e
  cons := fun M H q n r => r.cons n
  go := fun M H i r hi => by
    obtain ⟨p', vs, e, n, hp, rl⟩ := r.lst_inv
    cases e
    obtain ⟨v, h1, _⟩ := rl.get (List.getElem?_eq_getElem hi)
    exact ⟨vs, v, SqL.of hp, h1⟩
  stop := fun M H r => by
    obtain ⟨p', vs, e, n, hp, rl⟩ := r.lst_inv
    cases e
    exact ⟨vs, SqL.of hp, by rw [rl.length]; exact Nat.le_refl _⟩
  yld := fun M H i x H' r y => by
    obtain ⟨p', vs, e, n, hp, rl⟩ := r.lst_inv
    cases e
    refine ⟨y.1, fun d hd => ?_⟩
    obtain ⟨v, h1, h2⟩ := rl.get hd
    have h3 := y.2 vs (SqL.of hp)
    rw [h1] at h3
    cases h3
    exact h2
theorem src_tup {p : Addr} : Src (Itt K p) xs (fun M H => Rep M H (.ref p) (.tup xs)) where
  mono := fun M H H' e r => r.mono e
  cons := fun M H q n r => r.cons n
  go := fun M H i r hi => by
    obtain ⟨p', vs, e, n, hp, rl⟩ := r.tup_inv
    cases e
    obtain ⟨v, h1, _⟩ := rl.get (List.getElem?_eq_getElem hi)
    exact ⟨vs, v, SqT.of hp, h1⟩
  stop := fun M H r => by
    obtain ⟨p', vs, e, n, hp, rl⟩ := r.tup_inv
    cases e
    exact ⟨vs, SqT.of hp, by rw [rl.length]; exact Nat.le_refl _⟩
  yld := fun M H i x H' r y => by
    obtain ⟨p', vs, e, n, hp, rl⟩ := r.tup_inv
    cases e
    refine ⟨y.1, fun d hd => ?_⟩
    obtain ⟨v, h1, h2⟩ := rl.get hd
    have h3 := y.2 vs (SqT.of hp)
    rw [h1] at h3
    cases h3
    exact h2
/-- a, a + c, a + 2c, .. -/
def rng (a c : Int) (n : Nat) : List Int := (List.range n).map fun (i : Nat) => a + (i : Int) * c
theorem rng_len (a c : Int) (n : Nat) : (rng a c n).length = n := by simp [rng]
theorem rng_get {a c : Int} {n i : Nat} {k : Int} (h : (rng a c n)[i]? = some k) : k = a + (i : Int) * c ∧ i < n := by
  have hi : i < (rng a c n).length := (List.getElem?_eq_some_iff.mp h).1
  rw [rng_len] at hi
  unfold rng at h
  rw [List.getElem?_map, List.getElem?_range hi] at h
  exact ⟨(Option.some.inj h).symm, hi⟩
theorem src_rng {lo : Int} {n : Nat} : Src (Itr lo n) ((rng lo 1 n).map D.int) (fun _ _ => True) where
  mono := fun _ _ _ _ h => h
  cons := fun _ _ _ _ h => h
  go := fun M H i _ hi => by
    rw [List.length_map, rng_len] at hi
    exact hi
  stop := fun M H _ => by
    rw [List.length_map, rng_len]
    exact Nat.le_refl n
  yld := fun M H i x H' _ y => by
    refine ⟨y.1, fun d hd => ?_⟩
    rw [List.getElem?_map] at hd
    cases e : (rng lo 1 n)[i]? with
    | none =>
      rw [e] at hd
      cases hd
    | some k =>
      rw [e] at hd
      cases hd
      obtain ⟨h1, _⟩ := rng_get e
      have h2 : x = V.int (lo + (i : Int)) := y.2
      rw [h2, h1, Int.mul_one]
      exact .int _
theorem src_rngC {lo c : Int} {n : Nat} : Src (Itc lo c n) ((rng lo c n).map D.int) (fun _ _ => True) where
  mono := fun _ _ _ _ h => h
  cons := fun _ _ _ _ h => h
  go := fun M H i _ hi => by
    rw [List.length_map, rng_len] at hi
    exact hi
  stop := fun M H _ => by
    rw [List.length_map, rng_len]
    exact Nat.le_refl n
  yld := fun M H i x H' _ y => by
    refine ⟨y.1, fun d hd => ?_⟩
    rw [List.getElem?_map] at hd
    cases e : (rng lo c n)[i]? with
    | none =>
      rw [e] at hd
      cases hd
    | some k =>
      rw [e] at hd
      cases hd
      obtain ⟨h1, _⟩ := rng_get e
      have h2 : x = V.int (lo + (i : Int) * c) := y.2
      rw [h2, h1]
      exact .int _
theorem i_list (h : Ev tl env (Is (.lst xs))) : EvI (iList K tl) env xs := fun C M σ H A R k => h C M σ H A _ fun v d H1 p1 A1 e1 r1 => by
  subst p1
  obtain ⟨p, vs, rfl, n, hp, rl⟩ := r1.lst_inv
  exact ⟨p, rfl, ⟨vs, SqL.of hp⟩, k _ _ H1 A1 e1 src_list r1⟩
theorem i_tup (h : Ev tl env (Is (.tup xs))) : EvI (iTup K tl) env xs := fun C M σ H A R k => h C M σ H A _ fun v d H1 p1 A1 e1 r1 => by
  subst p1
  obtain ⟨p, vs, rfl, n, hp, rl⟩ := r1.tup_inv
  exact ⟨p, rfl, ⟨vs, SqT.of hp⟩, k _ _ H1 A1 e1 src_tup r1⟩
theorem i_rng1 {ta : TA} {n : Int} (h : EvA ta env (Is [.int n])) (hn : -1000000000 ≤ n ∧ n ≤ 1000000000) : EvI (iRng1 ta) env ((rng 0 1 n.toNat).map D.int) := fun C M σ H A R k => h C M σ H A _ fun vs ds H1 p1 A1 e1 r1 => by
  subst p1
  cases r1 with
  | cons a b =>
    cases b
    exact ⟨n, by rw [a.int_inv], by omega, by omega, k _ _ H1 A1 e1 src_rng trivial⟩
theorem i_rng2 {ta : TA} {m n : Int} (h : EvA ta env (Is [.int m, .int n])) (hn : -1000000000 ≤ n ∧ n ≤ 1000000000) (hm : -1000000000 ≤ m ∧ m ≤ 1000000000) : EvI (iRng2 ta) env ((rng m 1 (n - m).toNat).map D.int) := fun C M σ H A R k => h C M σ H A _ fun vs ds H1 p1 A1 e1 r1 => by
  subst p1
  cases r1 with
  | cons a b =>
    cases b with
    | cons b c =>
      cases c
      exact ⟨m, n, by rw [a.int_inv, b.int_inv], by omega, k _ _ H1 A1 e1 src_rng trivial⟩
theorem i_rng3 {ta : TA} {m n c : Int} {N : Nat} (h : EvA ta env (Is [.int m, .int n, .int c])) (hc : RgC m n c N) : EvI (iRng3 ta) env ((rng m c N).map D.int) := fun C M σ H A R k => h C M σ H A _ fun vs ds H1 p1 A1 e1 r1 => by
  subst p1
  cases r1 with
  | cons a b =>
    cases b with
    | cons b c' =>
      cases c' with
      | cons c' dd =>
        cases dd
        exact ⟨m, n, c, N, by rw [a.int_inv, b.int_inv, c'.int_inv], hc, k _ _ H1 A1 e1 src_rngC trivial⟩

/-! ### comprehensions -/
theorem e_lc {wi : TI} {j : Nat} (G : Nat → List D → Prop) (h : EvI wi env xs) (hw : ∀ u, env[j]? = some u → u.addr = none) (hx : xs.length ≤ 16000000) (g0 : G 0 [])
    (hs : ∀ i d acc, xs[i]? = some d → G i acc → EvT tt (env.set j (.im d)) (fun b => (b = true → Ev te (env.set j (.im d)) (fun e => G (i + 1) (acc ++ [e]))) ∧ (b = false → G (i + 1) acc))) :
    Ev (tLc wi (gName j) tt te [j]) env (fun d => ∃ acc, d = .lst acc ∧ G xs.length acc) := fun C M σ H A Q q =>
  h C M σ H A _ fun J St H1 A1 e1 S s1 => fun Dl hD => by
    obtain ⟨B1, nD, oD⟩ := A1.open_ (o := .lst []) hD
    have sub : ∀ a ∈ M, a ∈ Dl :: M := fun a ha => List.mem_cons_of_mem _ ha
    have noD : ∀ (e : En) (i : Nat) (u : En), (env.set j e)[i]? = some u → e.addr = none → u.addr ≠ some Dl := fun e i u hu he z => by
      by_cases hij : j = i
      · subst hij
        have hl : j < env.length := by
          have y := (List.getElem?_eq_some_iff.mp hu).1
          rwa [List.length_set] at y
        rw [List.getElem?_set_self hl] at hu
        cases hu
        rw [he] at z
        cases z
      · rw [List.getElem?_set_ne hij] at hu
        obtain ⟨y, _, s⟩ := A1.lt hu
        exact nD (s.own z).1
    -- the block's state between two turns
    refine ⟨fun i m H' => m = xs.length - i ∧ i ≤ xs.length ∧ ∃ acc vacc, At C (Dl :: M) (env.set j .no) (σ.set j none) H' ∧ Ext (Dl :: M) H1 H' ∧ H' Dl = some (.lst vacc) ∧ RepL (Dl :: M) H' vacc acc ∧ acc.length ≤ i ∧ G i acc,
      ⟨xs.length, by simp, Nat.zero_le _, [], [], ?_, Ext.new hD, upd_same, .nil, Nat.le_refl _, g0⟩, ?_⟩
    · refine (B1.weak (env2 := env.set j .no) (by rw [List.length_set]) fun i e he => ?_).vals (by rw [List.length_set]) fun i e he => ?_
      · by_cases hij : j = i
        · subst hij
          have hl : j < env.length := by
            have y := (List.getElem?_eq_some_iff.mp he).1
            rwa [List.length_set] at y
          rw [List.getElem?_set_self hl] at he
          exact .inl (Option.some.inj he).symm
        · rw [List.getElem?_set_ne hij] at he
          exact .inr he
      · by_cases hij : j = i
        · subst hij
          have hl : j < env.length := by
            have y := (List.getElem?_eq_some_iff.mp he).1
            rwa [List.length_set] at y
          rw [List.getElem?_set_self hl] at he
          exact .inl (Option.some.inj he).symm
        · exact .inr (by rw [List.getElem?_set_ne hij])
    · rintro i m H2 ⟨rfl, hi, acc, vacc, B, eB, hacc, racc, hal, gi⟩
      have st2 : St (Dl :: M) H2 := S.mono _ _ _ eB (S.cons _ _ _ hD s1)
      by_cases hlt : i < xs.length
      · refine .inr ⟨S.go _ _ i st2 hlt, fun H' => i + 1 ≤ xs.length ∧ ∃ acc vacc, At C (Dl :: M) (env.set j .no) (σ.set j none) H' ∧ Ext (Dl :: M) H1 H' ∧ H' Dl = some (.lst vacc) ∧ RepL (Dl :: M) H' vacc acc ∧ acc.length ≤ i + 1 ∧ G (i + 1) acc,
          fun H' ⟨h1, h2⟩ => ⟨xs.length - (i + 1), by omega, rfl, h1, h2⟩, fun x H3 y => ?_⟩
        obtain ⟨rfl, rx⟩ := S.yld _ _ i x H3 st2 y
        have rd := rx _ (List.getElem?_eq_getElem hlt)
        -- one turn
        have ese : ∀ (a b : En), (env.set j a).set j b = env.set j b := fun a b => List.set_set ..
        have ess : ∀ (a b : Option V), (σ.set j a).set j b = σ.set j b := fun a b => List.set_set ..
        have B2 : At C (Dl :: M) (env.set j (.im xs[i])) (σ.set j (some x)) H3 := by
          have z := B.puti j rd
          rw [ese, ess] at z
          exact z
        show wipe ((wipe σ [j]).set j (some x)) [j] = wipe σ [j] ∧ _
        refine ⟨by show ((σ.set j none).set j (some x)).set j none = σ.set j none; rw [ess, ess], ?_⟩
        have ewx : (wipe σ [j]).set j (some x) = σ.set j (some x) := by
          show (σ.set j none).set j (some x) = σ.set j (some x)
          rw [ess]
        show tt ((wipe σ [j]).set j (some x)) H3 _
        rw [ewx]
        -- back to the block's state between two turns
        have rest : ∀ {H' : Hp}, At C (Dl :: M) (env.set j (.im xs[i])) (σ.set j (some x)) H' → At C (Dl :: M) (env.set j .no) (σ.set j none) H' := fun {H'} Z => by
          have w := Z.weak (env2 := env.set j .no) (by rw [List.length_set, List.length_set]) (fun k e he => by
            by_cases hij : j = k
            · subst hij
              have hl : j < env.length := by
                have y := (List.getElem?_eq_some_iff.mp he).1
                rwa [List.length_set] at y
              rw [List.getElem?_set_self hl] at he
              exact .inl (Option.some.inj he).symm
            · rw [List.getElem?_set_ne hij] at he ⊢
              exact .inr he)
          refine w.vals (by rw [List.length_set, List.length_set]) fun k e he => ?_
          by_cases hij : j = k
          · subst hij
            have hl : j < env.length := by
              have y := (List.getElem?_eq_some_iff.mp he).1
              rwa [List.length_set] at y
            rw [List.getElem?_set_self hl] at he
            exact .inl (Option.some.inj he).symm
          · exact .inr (by rw [List.getElem?_set_ne hij, List.getElem?_set_ne hij])
        refine hs i xs[i] acc (List.getElem?_eq_getElem hlt) gi _ _ _ _ B2.into _ fun b H4 pb B4 e4 => ?_
        have k4 : H4 Dl = H3 Dl := B4.stood List.mem_cons_self fun k e he => noD _ k e he rfl
        have B4' := B2.out B4 fun _ h => h
        cases b with
        | true =>
          show te (σ.set j (some x)) H4 _
          refine pb.1 rfl _ _ _ _ B4'.into _ fun w d H5 pd B5 e5 r5 => ?_
          have k5 : H5 Dl = H4 Dl := B5.stood List.mem_cons_self fun k e he => noD _ k e he rfl
          have B5' := B4'.out B5 fun _ h => h
          have h5 : H5 Dl = some (.lst vacc) := by rw [k5, k4, hacc]
          have e35 : Ext (Dl :: M) H3 H5 := e4.trans e5
          refine ⟨vacc, h5, ?_, hlt, acc ++ [d], vacc ++ [w], ?_, (eB.trans e35).trans (Ext.at List.mem_cons_self), upd_same, ?_, by rw [List.length_append, List.length_singleton]; omega, pd⟩
          · have z := racc.length
            exact Nat.lt_of_lt_of_le (Nat.lt_of_lt_of_le (by omega : vacc.length < i + 1) (by omega : i + 1 ≤ 16000000)) (by decide)
          · refine (rest B5').step (Ext.at List.mem_cons_self) (fun k e p he hp => upd_ne fun z => ?_) (fun a ha => ?_) (fun a ha hj => upd_ne fun z => ?_)
            · subst z
              exact noD _ k e he rfl hp
            · by_cases z : a = Dl
              · rw [z, upd_same]
                exact fun z => nomatch z
              · rw [upd_ne z]
                exact B5'.tr a ha
            · subst z
              rcases oD with y | y
              · exact hj y
              · exact y ha
          · exact ((racc.mono e35).append (.cons r5 .nil)).mono (Ext.at List.mem_cons_self)
        | false =>
          show i + 1 ≤ xs.length ∧ _
          exact ⟨hlt, acc, vacc, rest B4', eB.trans e4, by rw [k4, hacc], racc.mono e4, by omega, pb.2 rfl⟩
      · have ei : i = xs.length := by omega
        subst ei
        refine .inl ⟨S.stop _ _ st2, q _ _ H2 ⟨acc, rfl, gi⟩ (A1.unblk B eB hD hw) (e1.trans fun a o n hh => ?_) (.lst nD hacc (racc.sub sub))⟩
        by_cases z : a = Dl
        · subst z
          rw [hD] at hh
          cases hh
        · exact eB a o (fun y => (List.mem_cons.mp y).elim z n) hh
end
end Y

set_option Elab.async false
set_option linter.all false
set_option maxRecDepth 100000
set_option maxHeartbeats 4000000
/-! Y4: exact comprehensions, statements, loops, promises over data and calls. -/
namespace Y
open PySem L2
section
variable {env : List En} {te ta tl : TE} {tt : TT} {P S : D → Prop} {K : PySem.W.Frag} {xs : List D}
theorem take_more {α : Type} {l : List α} {i : Nat} {x : α} (h : l[i]? = some x) : l.take (i + 1) = l.take i ++ [x] := by
  rw [List.take_succ, h]
  rfl
theorem x_lc {wi : TI} {j : Nat} (f : D → Bool) (g : D → D) (h : EvI wi env xs) (hw : ∀ u, env[j]? = some u → u.addr = none) (hx : xs.length ≤ 16000000)
    (hs : ∀ d, d ∈ xs → EvT tt (env.set j (.im d)) (Is (f d)) ∧ (f d = true → Ev te (env.set j (.im d)) (Is (g d)))) :
    Ev (tLc wi (gName j) tt te [j]) env (Is (.lst ((xs.filter f).map g))) := by
  refine (e_lc (fun i acc => acc = ((xs.take i).filter f).map g) h hw hx rfl fun i d acc hi ha => ?_).imp fun d ⟨acc, h1, h2⟩ => ?_
  · obtain ⟨h1, h2⟩ := hs d (List.mem_of_getElem? hi)
    refine h1.imp fun b hb => ⟨fun e => ?_, fun e => ?_⟩
    · refine (h2 (by rw [← hb, e])).imp fun z hz => ?_
      rw [take_more hi, List.filter_append, List.map_append, List.filter_cons, if_pos (by rw [← hb, e]), ha, hz]
      rfl
    · rw [take_more hi, List.filter_append, List.map_append, List.filter_cons, if_neg (by rw [← hb, e]; decide), ha]
      exact (List.append_nil _).symm
  · rw [h1, h2, List.take_length]
/-- over ints -/
theorem x_lcI {wi : TI} {j : Nat} {ns : List Int} (f : Int → Bool) (g : Int → D) (h : EvI wi env (ns.map D.int)) (hw : ∀ u, env[j]? = some u → u.addr = none) (hx : ns.length ≤ 16000000)
    (hs : ∀ n, n ∈ ns → EvT tt (env.set j (.im (.int n))) (Is (f n)) ∧ (f n = true → Ev te (env.set j (.im (.int n))) (Is (g n)))) :
    Ev (tLc wi (gName j) tt te [j]) env (Is (.lst ((ns.filter f).map g))) := by
  refine (e_lc (fun i acc => acc = ((ns.take i).filter f).map g) h hw (by rw [List.length_map]; exact hx) rfl fun i d acc hi ha => ?_).imp fun d ⟨acc, h1, h2⟩ => ?_
  · rw [List.getElem?_map] at hi
    cases e0 : ns[i]? with
    | none =>
      rw [e0] at hi
      cases hi
    | some n =>
      rw [e0] at hi
      cases hi
      obtain ⟨h1, h2⟩ := hs n (List.mem_of_getElem? e0)
      refine h1.imp fun b hb => ⟨fun e => ?_, fun e => ?_⟩
      · refine (h2 (by rw [← hb, e])).imp fun z hz => ?_
        rw [take_more e0, List.filter_append, List.map_append, List.filter_cons, if_pos (by rw [← hb, e]), ha, hz]
        rfl
      · rw [take_more e0, List.filter_append, List.map_append, List.filter_cons, if_neg (by rw [← hb, e]; decide), ha]
        exact (List.append_nil _).symm
  · rw [h1, h2, List.length_map, List.take_length]
theorem t_yes : EvT tYes env (Is true) := fun C M σ H A Q q => q true H rfl A (Ext.refl M H)
end

/-! ### statements -/
abbrev Nx (C : Ctx) (M : List Addr) (env : List En) (k : L2.St → Hp → Prop) : Prop := ∀ σ H, At C M env σ H → k σ H
abbrev Go (C : Ctx) (M : List Addr) (env : List En) (t : TS) (D : Ends) : Prop := Nx C M env (t D)
def Done (C : Ctx) (D : Ends) (P : Y.D → Prop) : Prop := ∀ M env σ H v d, P d → At C M env σ H → Rep M H v d → D.rt v H
section
variable {C : Ctx} {M : List Addr} {env : List En} {D : Ends} {t u : TS} {te ta tb : TE} {tt : TT} {P S : Y.D → Prop} {K : PySem.W.Frag} {i : Nat}
theorem Done.imp (h : Done C D P) (k : ∀ d, S d → P d) : Done C D S := fun M env σ H v d p => h M env σ H v d (k d p)
theorem g_seq (h : Go C M env t { D with nx := u D }) : Go C M env (tSeq t u) D := h
theorem g_next (h : Nx C M env D.nx) : Go C M env tNext D := h
theorem g_asg (h : Ev te env P) (k : ∀ d, P d → Nx C M (env.set i (.im d)) D.nx) : Go C M env (tAsg te (gName i)) D := fun σ H A =>
  h C M σ H A _ fun v d H1 p1 A1 e1 r1 => k d p1 _ _ (A1.puti i r1)
theorem g_set {d : Y.D} (h : Ev te env (Is d)) (k : Nx C M (env.set i (.im d)) D.nx) : Go C M env (tAsg te (gName i)) D := g_asg h fun e he => by
  rw [he]
  exact k
theorem g_ret (h : Ev te env P) (k : Done C D P) : Go C M env (tRet te) D := fun σ H A =>
  h C M σ H A _ fun v d H1 p1 A1 e1 r1 => k M env σ H1 v d p1 A1 r1
theorem g_retN (k : Done C D (Is .non)) : Go C M env tRetN D := fun σ H A => k M env σ H _ _ rfl A .non
theorem g_if {T : Bool → Prop} (h : EvT tt env T) (h1 : T true → Go C M env t D) (h2 : T false → Go C M env u D) : Go C M env (tIfS tt t u) D := fun σ H A =>
  h C M σ H A _ fun b H1 p1 A1 e1 => by
    cases b with
    | true => exact h1 p1 σ H1 A1
    | false => exact h2 p1 σ H1 A1
theorem g_ifb {b : Bool} (h : EvT tt env (Is b)) (h1 : b = true → Go C M env t D) (h2 : b = false → Go C M env u D) : Go C M env (tIfS tt t u) D := g_if h (fun e => h1 e.symm) (fun e => h2 e.symm)
theorem g_drop (h : Ev te env P) (k : Nx C M env D.nx) : Go C M env (tDrop te) D := fun σ H A =>
  h C M σ H A _ fun v d H1 p1 A1 e1 r1 => k σ H1 A1
theorem g_aug {f : Int → Int → Int} {a b : Int} (ha : env[i]? = some (.im (.int a))) (h : Ev te env (Is (.int b))) (k : Nx C M (env.set i (.im (.int (f a b)))) D.nx) : Go C M env (tAug i te (ipI f)) D := fun σ H A => by
  obtain ⟨v, h1, h2⟩ := A.get ha
  refine ⟨v, h1, h C M σ H A _ fun w d H1 p1 A1 e1 r1 => ⟨a, b, h2.int_inv, ?_, k _ _ (A1.puti i (.int _))⟩⟩
  subst p1
  exact r1.int_inv
theorem g_par {j : Nat} {ta : TA} {d e : Y.D} (h : EvA ta env (Is [d, e])) (k : Nx C M ((env.set i (.im d)).set j (.im e)) D.nx) : Go C M env (tPar i j ta) D := fun σ H A =>
  h C M σ H A _ fun vs ds H1 p1 A1 e1 r1 => by
    subst p1
    cases r1 with
    | cons r1 r2 =>
      cases r2 with
      | cons r2 r3 =>
        cases r3
        exact ⟨_, _, rfl, k _ _ ((A1.puti i r1).puti j r2)⟩
/-! what may change -/
def EvN (te : TE) (env : List En) (P : List Y.D → Prop) : Prop :=
  ∀ C M σ H, At C M env σ H → ∀ Q : VK, (∀ p vs ds H1, P ds → At C M env σ H1 → Ext M H H1 → H1 p = none → RepL M H1 vs ds → Q (.ref p) (upd H1 p (.lst vs))) → te σ H Q
theorem n_lst {ta : TA} {T : List Y.D → Prop} (h : EvA ta env T) (hl : ∀ ds, T ds → ds.length ≤ 16000000) : EvN (tLst ta) env T := fun C M σ H A Q q =>
  h C M σ H A _ fun vs ds H1 p1 A1 e1 r1 => ⟨by
    have h1 := hl ds p1
    rw [r1.length]
    exact Nat.le_trans h1 (by decide), fun p hp => q p vs ds H1 p1 A1 e1 hp r1⟩
theorem n_nil : EvN (tLst tNil) env (Is []) := n_lst a_nil fun ds h => by rw [h]; exact Nat.zero_le _
theorem n_list {l : List Y.D} (h : Ev ta env (Is (.lst l))) : EvN (tCB (fun xs H Q => ∃ p ys, xs = [.ref p] ∧ (SqL K H p ys ∨ SqT K H p ys) ∧ ∀ l, H l = none → Q (.ref l) (upd H l (.lst ys))) (tCons ta tNil)) env (Is l) := fun C M σ H A Q q =>
  h C M σ H A _ fun v d H1 p1 A1 e1 r1 => by
    subst p1
    obtain ⟨p, vs, rfl, n, hp, rl⟩ := r1.lst_inv
    exact ⟨p, vs, rfl, .inl (SqL.of hp), fun b hb => q b vs l H1 rfl A1 e1 hb rl⟩
theorem own_not {p : Addr} {σ : L2.St} {H : Hp} (A : At C M env σ H) (n : p ∉ M) {j : Nat} {w : En} (h : env[j]? = some w) : w.addr ≠ some p := fun z => by
  obtain ⟨y, _, s⟩ := A.lt h
  exact n (s.own z).1
theorem g_asgN {T : List Y.D → Prop} (h : EvN te env T) (k : ∀ p ds, T ds → p ∉ M → Nx C (p :: M) (env.set i (.mu p ds)) D.nx) : Go C M env (tAsg te (gName i)) D := fun σ H A =>
  h C M σ H A _ fun p vs ds H1 p1 A1 e1 hp r1 => by
    obtain ⟨B, np, ow⟩ := A1.open_ (o := .lst vs) hp
    refine k p ds p1 np _ _ (B.put i ⟨rfl, List.mem_cons_self, ow, vs, upd_same, (r1.cons' hp).mono (Ext.new hp)⟩ fun j w q hj hw hq => ?_)
    cases hq
    exact own_not A1 np hw
/-- {} that is to be changed -/
theorem g_asgD (k : ∀ p, p ∉ M → Nx C (p :: M) (env.set i (.md p [])) D.nx) : Go C M env (tAsg tDNewK (gName i)) D := fun σ H A p hp => by
  obtain ⟨B, np, ow⟩ := A.open_ (o := .dK []) hp
  refine k p np _ _ (B.put i ⟨rfl, List.mem_cons_self, ow, [], upd_same, .nil⟩ fun j w q hj hw hq => ?_)
  cases hq
  exact own_not A np hw
theorem at_app {σ : L2.St} {H : Hp} {p : Addr} {l : List Y.D} {v : V} {d : Y.D} (A : At C M env σ H) (hi : env[i]? = some (.mu p l)) (r : Rep M H v d) {vs : List V} (hv : H p = some (.lst vs)) : At C M (env.set i (.mu p (l ++ [d]))) σ (upd H p (.lst (vs ++ [v]))) := by
  refine A.chg hi rfl rfl fun x s => ?_
  obtain ⟨h1, h2, h5, vs', h3, h4⟩ := s
  rw [hv] at h3
  cases h3
  exact ⟨h1, h2, h5, _, upd_same, (h4.append (.cons r .nil)).mono (Ext.at h2)⟩
/-- xs.append(e) -/
theorem g_app {p : Addr} {l : List Y.D} (hi : env[i]? = some (.mu p l)) (hl : l.length < 16000000) (h : Ev te env P) (k : ∀ d, P d → Nx C M (env.set i (.mu p (l ++ [d]))) D.nx) :
    Go C M env (tDrop (tBM K "list" rAppend (tVar i) (tCons te tNil))) D := fun σ H A => by
  obtain ⟨h1, h2, h5, vs, h3, h4⟩ := A.getm hi
  refine ⟨_, h1, .inl ⟨rfl, vs, SqL.of h3⟩, h C M σ H A _ fun v d H1 p1 A1 e1 r1 => ?_⟩
  obtain ⟨h1', h2', h5', vs', h3', h4'⟩ := A1.getm hi
  exact ⟨p, vs', v, rfl, rfl, h3', by rw [h4'.length]; exact Nat.lt_of_lt_of_le hl (by decide), k d p1 _ _ (at_app A1 hi r1 h3')⟩
/-- what slot i holds may be read as a list -/
theorem x_varM {p : Addr} {l : List Y.D} (hi : env[i]? = some (.mu p l)) : ∀ C M σ H, At C M env σ H → ∀ Q : VK, (∀ vs, H p = some (.lst vs) → RepL M H vs l → Q (.ref p) H) → tVar i σ H Q := fun C M σ H A Q q => by
  obtain ⟨h1, h2, h5, vs, h3, h4⟩ := A.getm hi
  exact ⟨_, h1, q vs h3 h4⟩
theorem x_lenM {p : Addr} {l : List Y.D} (hi : env[i]? = some (.mu p l)) : Ev (tCB (fun xs H Q => ∃ p ys, xs = [.ref p] ∧ (SqL K H p ys ∨ SqT K H p ys) ∧ Q (.int ys.length) H) (tCons (tVar i) tNil)) env (Is (.int l.length)) := fun C M σ H A Q q => by
  obtain ⟨h1, h2, h5, vs, h3, h4⟩ := A.getm hi
  exact ⟨_, h1, p, vs, rfl, .inl (SqL.of h3), by rw [h4.length]; exact q _ _ H rfl A (Ext.refl M H) (.int _)⟩
theorem x_ixM {p : Addr} {l : List Y.D} {j : Int} {d : Y.D} (hi : env[i]? = some (.mu p l)) (hb : Ev tb env (Is (.int j))) (h : atI l j = some d) : Ev (tOp (rIxL K) (tVar i) tb) env (Is d) := fun C M σ H A Q q => by
  obtain ⟨h1, h2, h5, vs, h3, h4⟩ := A.getm hi
  refine ⟨_, h1, hb C M σ H A _ fun v e H1 p1 A1 e1 r1 => ?_⟩
  subst p1
  obtain ⟨h1', h2', h5', vs', h3', h4'⟩ := A1.getm hi
  obtain ⟨w, hw, rw'⟩ := atI_rep h4' h
  exact ⟨p, vs', j, w, rfl, r1.int_inv, SqL.of h3', hw, q w d H1 rfl A1 e1 rw'⟩
/-- xs[k] = e -/
theorem g_setI {p : Addr} {l : List Y.D} {j : Nat} (hi : env[i]? = some (.mu p l)) (hj : j < l.length) (h : Ev te env P) (k : ∀ d, P d → Nx C M (env.set i (.mu p (l.set j d))) D.nx) :
    Go C M env (tAsg te (gSub (tVar i) (tC (.int (j : Int))) rSetL)) D := fun σ H A => h C M σ H A _ fun v d H1 p1 A1 e1 r1 => by
  obtain ⟨h1, h2, h5, vs, h3, h4⟩ := A1.getm hi
  refine ⟨_, h1, p, vs, _, j, rfl, rfl, h3, ?_, ?_⟩
  · unfold ixN
    have z : (j : Int) < (vs.length : Int) := by rw [h4.length]; omega
    rw [if_pos (by omega), if_pos z]
    simp
  · refine k d p1 _ _ (A1.chg hi rfl rfl fun x s => ?_)
    obtain ⟨g1, g2, g5, vs', g3, g4⟩ := s
    rw [h3] at g3
    cases g3
    exact ⟨g1, g2, g5, _, upd_same, (g4.set r1 j).mono (Ext.at g2)⟩
/-- what slot i owns changes no more: it is handed on as data -/
theorem g_freeze {p : Addr} {l : List Y.D} {k : L2.St → Hp → Prop} (hi : env[i]? = some (.mu p l)) (hp : p ∉ C.M0) (h : ∀ N, (∀ a, a ∈ N ↔ a ∈ M ∧ a ≠ p) → Nx C N (env.set i (.im (.lst l))) k) : Nx C M env k := fun σ H A => by
  obtain ⟨h1, h2, h5, vs, h3, h4⟩ := A.getm hi
  have hl : i < env.length := (List.getElem?_eq_some_iff.mp hi).1
  have hN : ∀ a, a ∈ M.filter (fun a => decide (a ≠ p)) ↔ a ∈ M ∧ a ≠ p := fun a => by
    rw [List.mem_filter]
    simp
  refine h _ hN σ H ?_
  have sub : ∀ a ∈ M.filter (fun a => decide (a ≠ p)), a ∈ M := fun a ha => ((hN a).mp ha).1
  have B : At C M (env.set i .no) σ H := A.weak (by rw [List.length_set]) fun j e he => by
    by_cases hij : i = j
    · subst hij
      rw [List.getElem?_set_self hl] at he
      exact .inl (Option.some.inj he).symm
    · rw [List.getElem?_set_ne hij] at he
      exact .inr he
  have B2 := B.freeze sub (fun a ha => (hN a).mpr ⟨A.sub a ha, fun z => hp (z ▸ ha)⟩) fun j e q he hq => by
    by_cases hij : i = j
    · subst hij
      rw [List.getElem?_set_self (by exact hl)] at he
      cases he
      cases hq
    · rw [List.getElem?_set_ne hij] at he
      obtain ⟨y, _, s⟩ := A.lt he
      refine (hN q).mpr ⟨(s.own hq).1, fun z => hij ?_⟩
      subst z
      exact A.nd i j _ e q hi he rfl hq
  have hσ : σ.set i (some (.ref p)) = σ := by
    have hl2 : i < σ.length := (List.getElem?_eq_some_iff.mp h1).1
    have z : σ[i] = some (.ref p) := by
      rw [List.getElem?_eq_getElem hl2] at h1
      exact Option.some.inj h1
    rw [← z]
    exact List.set_getElem_self hl2
  have B3 := B2.puti i (v := .ref p) (d := .lst l) (.lst (fun z => ((hN p).mp z).2 rfl) h3 (h4.sub sub))
  rw [hσ, List.set_set] at B3
  exact B3
/-! loops -/
theorem g_for {wi : TI} {xs : List Y.D} {j : Nat} {tb : TS} (I : Nat → List En → Prop) (h : EvI wi env xs) (h0 : I 0 env)
    (hs : ∀ i d env', xs[i]? = some d → I i env' → ∀ (C' : Ctx) (D' : Ends), (∀ P, Done C D P → Done C' D' P) → (∀ env2, I (i + 1) env2 → Nx C' M env2 D'.nx) → (∀ env2, I (i + 1) env2 → Nx C' M env2 D'.ct) →
      (∀ env2, Nx C M env2 D.nx → Nx C' M env2 D'.bk) → Go C' M (env'.set j (.im d)) tb D')
    (hd : ∀ env', I xs.length env' → Nx C M env' D.nx) : Go C M env (tFor wi (gName j) tb) D := fun σ H A =>
  h C M σ H A _ fun J St H1 A1 e1 S s1 => by
    refine ⟨fun i m σ' H' => m = xs.length - i ∧ i ≤ xs.length ∧ ∃ env', I i env' ∧ At C M env' σ' H' ∧ St M H', ⟨xs.length, by simp, Nat.zero_le _, env, h0, A1, s1⟩, ?_⟩
    rintro i m σ2 H2 ⟨rfl, hi, env2, i2, B, st⟩
    by_cases hlt : i < xs.length
    · refine .inr ⟨S.go _ _ i st hlt, fun σ' H' => i + 1 ≤ xs.length ∧ ∃ env', I (i + 1) env' ∧ At C M env' σ' H' ∧ St M H', fun σ' H' ⟨g1, g2⟩ => ⟨xs.length - (i + 1), by omega, rfl, g1, g2⟩, fun x H3 y => ?_⟩
      obtain ⟨rfl, rx⟩ := S.yld _ _ i x H3 st y
      have rd := rx _ (List.getElem?_eq_getElem hlt)
      have B2 := B.puti j rd
      have keep : ∀ {env3 : List En} {σ3 : L2.St} {H4 : Hp}, At (inner M H3 (env2.set j (.im xs[i])) C.gh) M env3 σ3 H4 → St M H4 := fun {env3 σ3 H4} Z => S.mono _ _ _ Z.ext st
      refine hs i xs[i] env2 (List.getElem?_eq_getElem hlt) i2 _ _ (fun P dn M' env' σ' H' v d hp Z r => ?_) (fun env3 i3 σ3 H4 Z => ?_) (fun env3 i3 σ3 H4 Z => ?_) (fun env3 q3 σ3 H4 Z => ?_) _ _ B2.into
      · -- a return within the loop: M' may have grown
        exact dn M' env' σ' H' v d hp (At.out' B2 Z) r
      · exact ⟨hlt, env3, i3, B2.out Z fun _ h => h, keep Z⟩
      · exact ⟨hlt, env3, i3, B2.out Z fun _ h => h, keep Z⟩
      · exact q3 σ3 H4 (B2.out Z fun _ h => h)
    · have ei : i = xs.length := by omega
      subst ei
      exact .inl ⟨S.stop _ _ st, hd env2 i2 _ _ B⟩
theorem g_while {tc : TT} {tb : TS} (I : Nat → List En → Prop) (m0 : Nat) (h0 : I m0 env)
    (hs : ∀ m env', I m env' → EvT tc env' (fun b => (b = true → ∀ N : L2.St → Hp → Prop, (∀ m' env2, m' < m → I m' env2 → Nx C M env2 N) → Go C M env' tb { D with nx := N, ct := N, bk := D.nx }) ∧ (b = false → Nx C M env' D.nx))) :
    Go C M env (tWhile tc tb) D := fun σ H A => by
  refine ⟨fun m σ' H' => ∃ env', I m env' ∧ At C M env' σ' H', ⟨m0, env, h0, A⟩, ?_⟩
  rintro m σ2 H2 ⟨env2, i2, B⟩
  refine hs m env2 i2 C M σ2 H2 B _ fun b H3 pb B3 e3 => ?_
  cases b with
  | true => exact ⟨fun σ' H' => ∃ m' env', m' < m ∧ I m' env' ∧ At C M env' σ' H', fun σ' H' ⟨m', env', g1, g2, g3⟩ => ⟨m', g1, env', g2, g3⟩, pb.1 rfl _ (fun m' env3 g1 g2 σ3 H4 Z => ⟨m', env3, g1, g2, Z⟩) _ _ B3⟩
  | false => exact pb.2 rfl _ _ B3
end
end Y

set_option Elab.async false
set_option linter.all false
set_option maxRecDepth 100000
set_option maxHeartbeats 4000000
/-! Y5: promises over data, calls. -/
namespace Y
open PySem L2
/-- a def that stands behind the top and keeps a promise -/
structure Dk (P : Program) (w : World) (K : PySem.W.Frag) (mgs : Str → Option Value) (base : Heap) (CX : CXT) (x : Str) (k : Nat) (f : Addr) (fd : FuncData) (ps : List Str) (sp : Sp) : Prop where
  mg : mgs x = some (.ref f)
  kp : PySem.W.keepIn K (.ref f) = true
  bi : Binds K fd ps []
  ok : FnOk P w K mgs base CX k f fd ps sp
/-- a method of the class at C -/
structure Mt (P : Program) (w : World) (K : PySem.W.Frag) (mg : Str → Option Value) (base : Heap) (CX : CXT) (C : Addr) (m : Str) (k : Nat) (f : Addr) (fd : FuncData) (ps : List Str) (sp : Sp) : Prop where
  me : Meth K C m f
  bi : Binds K fd ps []
  ok : FnOk P w K mg base CX k f fd ps sp
def spP {α : Type} (args : α → List D) (pre : α → Prop) (res : α → D → Prop) : Sp := fun vs H Q _ => ∃ (M : List Addr) (a : α), RepL M H vs (args a) ∧ (∀ x ∈ M, H x ≠ none) ∧ pre a ∧
  ∀ v d H', res a d → All H H' → Rep M H' v d → Q v H'
def spJ {α : Type} (args : α → List D) (pre : α → Prop) (res : α → D → Prop) : Sp := fun vs H Q _ => ∃ (M : List Addr) (j : Addr) (a : α) (ws : List V), vs = .ref j :: ws ∧ j ∈ M ∧ Jar M H j ∧ RepL M H ws (args a) ∧ (∀ x ∈ M, H x ≠ none) ∧ pre a ∧
  ∀ v d H', res a d → Ext M H H' → (∀ x ∈ M, x ≠ j → H' x = H x) → Jar M H' j → Rep M H' v d → Q v H'
def DoneJ (C : Ctx) (D : Ends) (P : Y.D → Prop) (j : Addr) : Prop := ∀ M env σ H v d, P d → At C M env σ H → env[0]? = some (.jar j) → Rep M H v d → D.rt v H
section
variable {C : Ctx} {M : List Addr} {env : List En} {σ : L2.St} {H H' : Hp} {te ta tb : TE} {P S : Y.D → Prop} {K : PySem.W.Frag} {α : Type} {args : α → List Y.D} {pre : α → Prop} {res : α → Y.D → Prop} {a : α} {E : XK}
theorem x_call {t : TA} (h : EvA t env (Is (args a))) (hp : pre a) : Ev (tCall (spP args pre res) [] E t) env (res a) := fun C M σ H A Q q =>
  h C M σ H A _ fun vs ds H1 p A1 e1 r1 => ⟨M, a, by rw [List.append_nil, ← p]; exact r1, A1.tr, hp, fun v d H' hr al rp => q v d H' hr (A1.all al) (e1.trans al.ext) rp⟩
theorem e_call {t : TA} {T : List Y.D → Prop} (h : EvA t env T) (hc : ∀ ds, T ds → ∃ a, ds = args a ∧ pre a ∧ ∀ d, res a d → S d) : Ev (tCall (spP args pre res) [] E t) env S := fun C M σ H A Q q =>
  h C M σ H A _ fun vs ds H1 p A1 e1 r1 => by
    obtain ⟨a, ea, hp, hs⟩ := hc ds p
    exact ⟨M, a, by rw [List.append_nil, ← ea]; exact r1, A1.tr, hp, fun v d H' hr al rp => q v d H' (hs d hr) (A1.all al) (e1.trans al.ext) rp⟩
theorem x_meth {Cc : Addr} {m : Str} {t : TA} {fs : List (Str × Y.D)} {ds : List Y.D} (ho : Ev ta env (Is (.obj Cc fs))) (hm : fs.lookup m = none) (h : EvA t env (Is ds)) (ea : args a = .obj Cc fs :: ds) (hp : pre a) : Ev (tMeth Cc m (spP args pre res) [] E ta t) env (res a) := fun C M σ H A Q q =>
  ho C M σ H A _ fun v d H1 p1 A1 e1 r1 => by
    subst p1
    obtain ⟨p, dx, vs, rfl, hn, hp0, rf⟩ := r1.obj_inv
    refine ⟨p, dx, vs, rfl, hp0, rf.nolook hm, h C M σ H1 A1 _ fun ws es H2 p2 A2 e2 r2 => ?_⟩
    subst p2
    exact ⟨M, a, by rw [List.append_nil, ea]; exact .cons (r1.mono e2) r2, A2.tr, hp, fun v d H' hr al rp => q v d H' hr (A2.all al) ((e1.trans e2).trans al.ext) rp⟩
theorem x_fld {fs : List (Str × Y.D)} {Cc : Addr} {f : Str} {d : Y.D} (c : Cls K Cc) (n : NoAttr K Cc f) (ho : Ev ta env (Is (.obj Cc fs))) (hm : fs.lookup f = some d) : Ev (tFld K ta f) env (Is d) := fun C M σ H A Q q =>
  ho C M σ H A _ fun v d0 H1 p1 A1 e1 r1 => by
    subst p1
    obtain ⟨p, dx, vs, rfl, hn, hp0, rf⟩ := r1.obj_inv
    obtain ⟨u, h1, h2⟩ := rf.look hm
    exact ⟨p, Cc, dx, vs, u, rfl, hp0, c, n, h1, q u d H1 rfl A1 e1 h2⟩
theorem At.jchg {j : Addr} {k : Nat} (A : At C M env σ H) (hk : env[k]? = some (.jar j)) (e : Ext M H H') (o : ∀ x ∈ M, x ≠ j → H' x = H x) (jr : Jar M H' j) : At C M env σ H' where
  len := A.len
  sl := fun i en h x hx => by
    by_cases hi : i = k
    · subst hi
      rw [hk] at h
      cases h
      have s := A.sl i _ hk x hx
      exact ⟨s.1, s.2.1, s.2.2.1, jr⟩
    · exact (A.sl i en h x hx).keep e fun q hq => o q ((A.sl i en h x hx).own hq).1 fun z => hi (A.nd i k en _ q h hk hq (by rw [z]; rfl))
  nd := A.nd
  gh := fun q hq => (A.gh q hq).mono e
  tr := fun a ha => by
    by_cases z : a = j
    · subst z
      obtain ⟨_, _, _, _, _, _, _, h1, _⟩ := jr
      rw [h1]
      exact fun z => nomatch z
    · rw [o a ha z]
      exact A.tr a ha
  sub := A.sub
  fresh := A.fresh
  ext := fun a u n h => by
    by_cases m : a ∈ M
    · rw [A.fresh a m n] at h
      cases h
    · exact e a u m (A.ext a u n h)
  keep := fun a ha hj => by
    by_cases z : a = j
    · subst z
      rcases (A.getj hk).2.2.1 with y | y
      · exact absurd y hj
      · exact absurd ha y
    · rw [o a (A.sub a ha) z, A.keep a ha hj]
theorem x_jar {t : TA} {i : Nat} {j : Addr} (hj : env[i]? = some (.jar j)) (h : EvA t env (Is (args a))) (hp : pre a) : Ev (tCall (spJ args pre res) [] E (tCons (tVar i) t)) env (res a) := fun C M σ H A Q q => by
  refine ⟨_, (A.getj hj).1, h C M σ H A _ fun vs ds H1 p A1 e1 r1 => ?_⟩
  subst p
  obtain ⟨g1, g2, g3, g4⟩ := A1.getj hj
  exact ⟨M, j, a, vs, by rw [List.append_nil], g2, g4, r1, A1.tr, hp, fun v d H' hr ex o jr rp => q v d H' hr (A1.jchg hj ex o jr) (e1.trans ex) rp⟩
theorem e_jar {t : TA} {i : Nat} {j : Addr} {T : List Y.D → Prop} (hj : env[i]? = some (.jar j)) (h : EvA t env T) (hc : ∀ ds, T ds → ∃ a, ds = args a ∧ pre a ∧ ∀ d, res a d → S d) : Ev (tCall (spJ args pre res) [] E (tCons (tVar i) t)) env S := fun C M σ H A Q q => by
  refine ⟨_, (A.getj hj).1, h C M σ H A _ fun vs ds H1 p A1 e1 r1 => ?_⟩
  obtain ⟨a, ea, hp, hs⟩ := hc ds p
  subst ea
  obtain ⟨g1, g2, g3, g4⟩ := A1.getj hj
  exact ⟨M, j, a, vs, by rw [List.append_nil], g2, g4, r1, A1.tr, hp, fun v d H' hr ex o jr rp => q v d H' (hs d hr) (A1.jchg hj ex o jr) (e1.trans ex) rp⟩
/-! ### the body -/
theorem start_sl {N : List Str} {vs : List V} {ds : List Y.D} {n : Nat} {C : Ctx} (r : RepL M H vs ds) (hn : N.length = ds.length + n) : ∀ (i : Nat) (e : En), (ds.map En.im ++ List.replicate n .no)[i]? = some e → ∀ x, (L2.start N vs)[i]? = some x → Slot C M H x e := by
  intro i e he x hx
  by_cases hi : i < ds.length
  · have hv : i < vs.length := by rw [r.length]; exact hi
    rw [List.getElem?_append_left (by rw [List.length_map]; exact hi), List.getElem?_map, List.getElem?_eq_getElem hi] at he
    cases he
    unfold L2.start at hx
    rw [List.getElem?_append_left (by rw [List.length_map]; exact hv), List.getElem?_map, List.getElem?_eq_getElem hv] at hx
    cases hx
    obtain ⟨d, h1, h2⟩ := r.get' (List.getElem?_eq_getElem hv)
    rw [List.getElem?_eq_getElem hi] at h1
    cases h1
    exact ⟨_, rfl, h2⟩
  · rw [List.getElem?_append_right (by rw [List.length_map]; omega)] at he
    have e0 := List.eq_of_mem_replicate (List.mem_of_getElem? he)
    subst e0
    trivial
theorem start_len {N : List Str} {vs : List V} {n m : Nat} (h : vs.length = m) (hn : N.length = m + n) : (L2.start N vs).length = m + n := by
  unfold L2.start
  rw [List.length_append, List.length_map, List.length_replicate]
  omega
theorem im_addr {ds : List Y.D} {n i : Nat} {e : En} (h : (ds.map En.im ++ List.replicate n .no)[i]? = some e) : e.addr = none := by
  rcases List.mem_append.mp (List.mem_of_getElem? h) with z | z
  · obtain ⟨d, _, rfl⟩ := List.mem_map.mp z
    rfl
  · rw [List.eq_of_mem_replicate z]
    rfl
theorem start_at {N : List Str} {vs : List V} {ds : List Y.D} (n : Nat) (r : RepL M H vs ds) (t : ∀ x ∈ M, H x ≠ none) (hn : N.length = ds.length + n) : At ⟨M, H, [], []⟩ M (ds.map En.im ++ List.replicate n .no) (L2.start N vs) H where
  len := by
    rw [start_len r.length hn, List.length_append, List.length_map, List.length_replicate]
  sl := start_sl r hn
  nd := fun i j e u p h1 h2 h3 h4 => by
    rw [im_addr h1] at h3
    cases h3
  gh := fun q hq => nomatch hq
  tr := t
  sub := fun _ h => h
  fresh := fun a h n => absurd h n
  ext := Ext.refl _ _
  keep := fun _ _ _ => rfl
theorem start_atJ {N : List Str} {vs : List V} {ds : List Y.D} {j : Addr} (n : Nat) (hj : j ∈ M) (jr : Jar M H j) (r : RepL M H vs ds) (t : ∀ x ∈ M, H x ≠ none) (hn : N.length = ds.length + 1 + n) : At ⟨M, H, [j], []⟩ M (.jar j :: (ds.map En.im ++ List.replicate n .no)) (L2.start N (.ref j :: vs)) H where
  len := by
    rw [start_len (m := ds.length + 1) (by rw [List.length_cons, r.length]) hn, List.length_cons, List.length_append, List.length_map, List.length_replicate]
    omega
  sl := fun i e h x hx => by
    cases i with
    | zero =>
      cases h
      have e0 : (L2.start N (.ref j :: vs))[0]? = some (some (.ref j)) := rfl
      rw [e0] at hx
      cases hx
      exact ⟨rfl, hj, .inl (List.mem_cons_self ..), jr⟩
    | succ i =>
      have e0 : (L2.start N (.ref j :: vs))[i + 1]? = (L2.start (N.drop 1) vs)[i]? := by
        unfold L2.start
        rw [List.map_cons, List.cons_append, List.getElem?_cons_succ, List.length_cons, List.length_drop]
        congr 3
        omega
      rw [e0] at hx
      rw [List.getElem?_cons_succ] at h
      exact start_sl r (by rw [List.length_drop]; omega) i e h x hx
  nd := fun i k e u p h1 h2 h3 h4 => by
    cases i with
    | zero =>
      cases k with
      | zero => rfl
      | succ k =>
        rw [List.getElem?_cons_succ] at h2
        rw [im_addr h2] at h4
        cases h4
    | succ i =>
      rw [List.getElem?_cons_succ] at h1
      rw [im_addr h1] at h3
      cases h3
  gh := fun q hq => nomatch hq
  tr := t
  sub := fun _ h => h
  fresh := fun a h n => absurd h n
  ext := Ext.refl _ _
  keep := fun _ _ _ => rfl
theorem At.alls {N : List Addr} (A : At ⟨M, H, [], []⟩ N env σ H') : All H H' := fun a o h => by
  by_cases m : a ∈ M
  · exact (A.keep a m (List.not_mem_nil)).trans h
  · exact A.ext a o m h
/-- THE FORM of a def that changes nothing: from its walk over data to its promise -/
theorem okP {P : Program} {w : World} {K : PySem.W.Frag} {mg : Str → Option Value} {base : Heap} {x qual : Str} {params : Arguments} {body : List Stmt} {scope : Scope} {kws : List (Str × V)} {dvs : List V} {f : Addr} {fd : FuncData} {CX : CXT} {N ps : List Str} {k : Nat}
    (n : Nat) (F : FunD K x qual params body scope dvs kws f fd) (S : FnScope N ps scope) (hl : ∀ a, pre a → (args a).length = ps.length) (hn : N.length = ps.length + n)
    (hb : ∀ (cdv : Value) (A : Around) (outer : List Env) (s : Shared) (H : Hp) (E : XK) (a : α), Room k (A.deeper (PyProof.Rows.envOfC qual scope s.heap.objs.size f cdv)) → pre a →
      ∃ t, PSs (cxOf CX P w K mg base N qual scope f cdv A outer s H E).nox body t ∧ ∀ (C : Ctx) (M : List Addr) (D : Ends), Done C D (res a) → (res a .non → ∀ env, Nx C M env D.nx) → (∀ N env, (∀ a ∈ M, a ∈ N) → res a .non → Nx C N env D.nx) → Go C M ((args a).map En.im ++ List.replicate n .no) t D) :
    FnOk P w K mg base CX (k + 1) f fd ps (spP args pre res) := by
  refine F.ok S (fun vs H Q E h => ?_) (fun cdv A outer s H vs Q E hr h => ?_)
  · obtain ⟨M, a, h1, _, h2, _⟩ := h
    rw [h1.length, hl a h2]
  · obtain ⟨M, a, h1, h2, h3, h4⟩ := h
    obtain ⟨t, ht, hg⟩ := hb cdv A outer s H E a hr h3
    refine ⟨t, PSs.nox ht, hg ⟨M, H, [], []⟩ M _ (fun M' env σ H' v d hd B r => h4 v d H' hd B.alls (r.sub B.sub)) (fun hz env σ H' B => h4 _ _ H' hz B.alls .non) (fun N env hN hz σ H' B => h4 _ _ H' hz B.alls .non) _ _ (start_at n h1 h2 (by rw [hl a h3, hn]))⟩
theorem okJ {P : Program} {w : World} {K : PySem.W.Frag} {mg : Str → Option Value} {base : Heap} {x qual : Str} {params : Arguments} {body : List Stmt} {scope : Scope} {kws : List (Str × V)} {dvs : List V} {f : Addr} {fd : FuncData} {CX : CXT} {N ps : List Str} {k : Nat}
    (n : Nat) (F : FunD K x qual params body scope dvs kws f fd) (S : FnScope N ps scope) (hl : ∀ a, pre a → (args a).length + 1 = ps.length) (hn : N.length = ps.length + n)
    (hb : ∀ (cdv : Value) (A : Around) (outer : List Env) (s : Shared) (H : Hp) (E : XK) (a : α), Room k (A.deeper (PyProof.Rows.envOfC qual scope s.heap.objs.size f cdv)) → pre a →
      ∃ t, PSs (cxOf CX P w K mg base N qual scope f cdv A outer s H E).nox body t ∧ ∀ (C : Ctx) (M : List Addr) (D : Ends) (j : Addr), DoneJ C D (res a) j → Go C M (.jar j :: ((args a).map En.im ++ List.replicate n .no)) t D) :
    FnOk P w K mg base CX (k + 1) f fd ps (spJ args pre res) := by
  refine F.ok S (fun vs H Q E h => ?_) (fun cdv A outer s H vs Q E hr h => ?_)
  · obtain ⟨M, j, a, ws, rfl, _, _, h1, _, h2, _⟩ := h
    rw [List.length_cons, h1.length, hl a h2]
  · obtain ⟨M, j, a, ws, rfl, hj, jr, h1, h2, h3, h4⟩ := h
    obtain ⟨t, ht, hg⟩ := hb cdv A outer s H E a hr h3
    refine ⟨t, PSs.nox ht, hg ⟨M, H, [j], []⟩ M _ j (fun M' env σ H' v d hd B e0 r => h4 v d H' hd B.ext (fun x hx hxj => B.keep x hx fun z => hxj (List.mem_singleton.mp z)) ?_ (r.sub B.sub)) _ _ (start_atJ n hj jr h1 h2 (by rw [hl a h3, hn]))⟩
    exact (B.getj e0).2.2.2.sub B.sub
theorem g_retJ {D : Ends} {j : Addr} (h : Ev te env P) (hj : env[0]? = some (.jar j)) (k : DoneJ C D P j) : Go C M env (tRet te) D := fun σ H A =>
  h C M σ H A _ fun v d H1 p1 A1 e1 r1 => k M env σ H1 v d p1 A1 hj r1
end
end Y

set_option Elab.async false
set_option linter.all false
set_option maxRecDepth 100000
set_option maxHeartbeats 4000000
/-! Y6: the text by places, facts, dicts of flags. -/
namespace Y
open PySem L2
/-- what the module's names hold -/
structure Txt (K : PySem.W.Frag) (mg : Str → Option Value) (Cl : Addr) : Prop where
  cl : Cls K Cl
  nP : NoAttr K Cl "period"
  nG : NoAttr K Cl "gaps"
  nK : NoAttr K Cl "_known"
  Lengths : mg "Lengths" = some (.ref Cl)
  int : mg "int" = none
  str : mg "str" = none
  bool : mg "bool" = none
  len : mg "len" = none
  list : mg "list" = none
  tuple : mg "tuple" = none
  max : mg "max" = none
  set : mg "set" = none
  sorted : mg "sorted" = none
  isinstance : mg "isinstance" = none
  range : mg "range" = none
  dict : mg "dict" = none
  gcd : mg "gcd" = some (.builtin "math.gcd")
  lcm : mg "lcm" = some (.builtin "math.lcm")
/-! ### a dict of flags -/
def dk (ks : List Int) : List (Int × D) := ks.map fun k => (k, D.bl true)
def vk (ks : List Int) : List (Key × V) := ks.map fun k => (Sum.inl k, V.bl true)
section
variable {C : Ctx} {M : List Addr} {env : List En} {σ : L2.St} {H H' : Hp} {te ta tb ty td tv : TE} {P S : Y.D → Prop} {K : PySem.W.Frag}
theorem dk_inv : ∀ {vs : List (Key × V)} {ks : List Int}, RepK M H vs (dk ks) → vs = vk ks
  | [], [], _ => rfl
  | [], _ :: _, h => by cases h
  | _ :: _, [], h => by cases h
  | _ :: _, _ :: _, h => by
    cases h with
    | cons r l =>
      cases r
      rw [dk_inv l]
      rfl
theorem dk_of : ∀ ks : List Int, RepK M H (vk ks) (dk ks)
  | [] => .nil
  | _ :: ks => .cons (.bl true) (dk_of ks)
theorem vk_val (n : Int) : ∀ ks : List Int, (valV (vk ks) (Sum.inl n)).isSome = decide (n ∈ ks)
  | [] => rfl
  | k :: ks => by
    by_cases e : k = n
    · subst e
      rw [show vk (k :: ks) = (Sum.inl k, V.bl true) :: vk ks from rfl, valV_pos rfl]
      simp
    · rw [show vk (k :: ks) = (Sum.inl k, V.bl true) :: vk ks from rfl, valV_neg (by intro z; cases z; exact e rfl), vk_val n ks]
      have : n ≠ k := fun z => e z.symm
      simp [this]
theorem x_notInD {n : Int} {ks : List Int} (h : Ev ty env (Is (.int n))) (hd : Ev td env (Is (.dct (dk ks)))) : Ev (tDNotIn ty td) env (Is (.bl (!decide (n ∈ ks)))) := fun C M σ H A Q q =>
  h C M σ H A _ fun u d0 H1 p1 A1 e1 r1 => hd C M σ H1 A1 _ fun v d H2 p2 A2 e2 r2 => by
    subst p1 p2
    cases r1.int_inv
    obtain ⟨p, vs, rfl, hn, hp, rk⟩ := r2.dct_inv
    have ev := dk_inv rk
    subst ev
    refine ⟨p, _, rfl, DGet.k (k := Sum.inl n) hp, ?_⟩
    rw [vk_val]
    exact q _ _ H2 rfl A2 (e1.trans e2) (.bl _)
theorem vk_put {n : Int} {ks : List Int} (h : n ∉ ks) : putK (vk ks) (Sum.inl n) (V.bl true) = vk (ks ++ [n]) := by
  unfold putK
  have e : ((vk ks).any fun kv => decide (kv.1 = (Sum.inl n : Key))) = false := by
    rw [valV_any, vk_val]
    exact decide_eq_false h
  rw [if_neg (by rw [e]; decide)]
  unfold vk
  rw [List.map_append]
  rfl
theorem g_dput {D : Ends} {i : Nat} {p : Addr} {ks : List Int} {n : Int} (hi : env[i]? = some (.md p (dk ks))) (hl : ks.length < 16000000) (hn : n ∉ ks) (h : Ev ty env (Is (.int n))) (hv : Ev tv env (Is (.bl true))) (k : Nx C M (env.set i (.md p (dk (ks ++ [n])))) D.nx) : Go C M env (sDPut (tVar i) ty tv) D := fun σ H A =>
  hv C M σ H A _ fun v d H1 p1 A1 e1 r1 => by
    subst p1
    cases r1.bl_inv
    refine ⟨_, (A1.getd hi).1, h C M σ H1 A1 _ fun u d2 H2 p2 A2 e2 r2 => ?_⟩
    subst p2
    cases r2.int_inv
    obtain ⟨h1, h2, h5, vs, h3, h4⟩ := A2.getd hi
    have ev := dk_inv h4
    subst ev
    refine ⟨p, _, rfl, DPut.k (k := Sum.inl n) h3 (by unfold vk; rw [List.length_map]; exact Nat.lt_of_lt_of_le hl (by decide)), ?_⟩
    rw [vk_put hn]
    refine k _ _ (A2.chg hi rfl rfl fun x s => ?_)
    obtain ⟨g1, g2, g5, _⟩ := s
    exact ⟨g1, g2, g5, _, upd_same, dk_of _⟩
/-- a changing dict is handed to a def that only reads it, last of three arguments -/
theorem x_call3d {α : Type} {args : α → List Y.D} {pre : α → Prop} {res : α → Y.D → Prop} {a : α} {E : XK} {i : Nat} {p : Addr} {l : List (Int × Y.D)} {x y : Y.D} (hi : env[i]? = some (.md p l)) (ha : Ev ta env (Is x)) (hb : Ev tb env (Is y)) (ea : args a = [x, y, .dct l]) (hp : pre a)
    (flat : ∀ d, res a d → (∃ b, d = .bl b) ∨ ∃ j, d = .int j) : Ev (tCall (spP args pre res) [] E (tCons ta (tCons tb (tCons (tVar i) tNil)))) env (res a) := fun C M σ H A Q q =>
  ha C M σ H A _ fun u d1 H1 p1 A1 e1 r1 => hb C M σ H1 A1 _ fun v d2 H2 p2 A2 e2 r2 => by
    subst p1 p2
    obtain ⟨h1, h2, h5, vs, h3, h4⟩ := A2.getd hi
    have sub : ∀ z ∈ M.filter (fun z => decide (z ≠ p)), z ∈ M := fun z hz => (List.mem_filter.mp hz).1
    have np : p ∉ M.filter (fun z => decide (z ≠ p)) := fun z => by
      have := (List.mem_filter.mp z).2
      simp at this
    refine ⟨_, h1, M.filter (fun z => decide (z ≠ p)), a, ?_, fun z hz => A2.tr z (sub z hz), hp, fun w d H' hr al rp => ?_⟩
    · rw [ea]
      exact .cons ((r1.mono e2).sub sub) (.cons (r2.sub sub) (.cons (.dct np h3 (h4.sub sub)) .nil))
    · refine q w d H' hr (A2.all al) ((e1.trans e2).trans al.ext) ?_
      rcases flat d hr with ⟨b, rfl⟩ | ⟨j, rfl⟩
      · cases rp.bl_inv
        exact .bl b
      · cases rp.int_inv
        exact .int j
end
end Y

set_option Elab.async false
set_option linter.all false
set_option maxRecDepth 100000
set_option maxHeartbeats 4000000
/-! Y7: rules that HandS lacks: in, ==, str() by a class's own defs. -/
namespace Y
open PySem PySem.Spec PyProof.Rows L2
section
variable {X : Cx} {CX : CXT} {pins : List (Addr × Obj)} {σ : L2.St} {H : Hp} {s : Shared} {a C dx f : Addr} {fs : List (Str × V)} {fd : FuncData} {ps : List Str} {n : Nat} {sp : Sp} {E : XK}
theorem run_below {A : Around} {Q : VK} {us : List Value} {vs : List V} (F : FnOk X.prog X.w X.K X.mg X.base CX n f fd ps sp) (hr : Room n A) (fr : A.frames = X.A.frames) (hb : Binds X.K fd ps []) (hx : Passes CX X E)
    (I : Inv X pins σ H s) (r : Vals vs us) (h : sp vs H Q E) : wpAny (model X.prog X.w) A (call (.ref f) us) (EP X pins σ Q) X.xe s := by
  have hl := F.len _ _ _ _ h
  have e0 : Env0 X.prog X.w X.K X.mg X.base A X.stack s H := by
    have e := I.env0
    exact ⟨by rw [fr]; exact e.frames, e.mod, e.bs, e.bsz, e.funs, e.frf, e.hok, e.bare⟩
  refine wpAny_call (codeAny_mono (F.run A X.stack s H ⟨us, []⟩ us vs Q E hr e0 (by
    have := hb s us I.kIn (by rw [List.append_nil, ← r.length]; exact hl)
    rw [List.append_nil] at this
    exact this) r h) fun r s' hq => ?_)
  cases r with
  | error e => exact hx pins σ H s e s' I hq
  | ok fl =>
    cases fl with
    | ret u => exact I.after hq
    | next => exact False.elim hq
    | brk => exact False.elim hq
    | cont => exact False.elim hq
/-- x in o, x not in o by the class's own __contains__, which answers a bool -/
def rOwnIn (C : Addr) (sp : Sp) (E : XK) (neg : Bool) : R2 := fun x y H Q => ∃ a dx fs, y = .ref a ∧ H a = some (.ins C dx fs) ∧ sp [y, x] H (fun v H' => ∃ b, v = .bl b ∧ Q (.bl (if neg then !b else b)) H') E
theorem contains_own {Q : Bool → Hp → Prop} {x : V} {v : Value} (F : FnOk X.prog X.w X.K X.mg X.base CX n f fd ps sp) (hr : Room n X.A) (hs : PySem.W.findIn X.K (.ref C) "__contains__" = some (some (.ref f))) (hf : PySem.W.isFn X.K (.ref f) = true) (hb : Binds X.K fd ps []) (hx : Passes CX X E)
    (I : Inv X pins σ H s) (rx : RelV x v) (ha : H a = some (.ins C dx fs)) (h : sp [.ref a, x] H (fun v H' => ∃ b, v = .bl b ∧ Q b H') E) :
    wpAny (model X.prog X.w) X.A (contains (.ref a) v) (fun b s' => ∃ H', Inv X pins σ H' s' ∧ Q b H') X.xe s := by
  obtain ⟨mA, J, _⟩ := ins_get I.hok ha
  obtain ⟨od, J, _⟩ := J.look
  have X0 := I.kIn
  unfold contains
  refine wpAny_holding ?_
  have e0 : stdlibNamesSay? (.ref a) v = none := by
    unfold stdlibNamesSay?
    rfl
  rw [e0]
  have sp0 : ∀ {M : Model}, PySem.W.Looks M s.heap (specialOf (.ref a) "__contains__") (some (.ref f)) := by
    intro M
    unfold specialOf
    exact J.type.andThen (PySem.W.looks_findIn X0 hs)
  refine wpAny_bind (sp0.here ?_)
  have ne : ((some (Value.ref f)) == some Value.none) = false := by rfl
  simp only [ne, Bool.false_eq_true, if_false]
  refine wpAny_bind ?_
  unfold callSpecialUnlessNone?
  refine wpAny_bind (sp0.here ?_)
  refine wpAny_holding (wpAny_bind ((PySem.W.bind_fn X0 _ (beq_iff_eq.mp hf)).here ?_))
  have ne2 : (Value.ref f == Value.none) = false := by rfl
  simp only [ne2, Bool.false_eq_true, if_false]
  refine wpAny_bind (wpAny_mono (run_below (us := [.ref a, v]) (vs := [.ref a, x]) F hr rfl hb hx I (.cons rfl (.cons rx .nil)) h) (fun w s' z => ?_) fun _ _ x => x)
  obtain ⟨z', H', I', rz, b, ez, q⟩ := z
  subst ez
  cases rz
  exact wpAny_pure (wpAny_truthy_bool ⟨H', I', q⟩)
theorem op_ownIn (F : FnOk X.prog X.w X.K X.mg X.base CX n f fd ps sp) (hr : Room n X.A) (hs : PySem.W.findIn X.K (.ref C) "__contains__" = some (some (.ref f))) (hf : PySem.W.isFn X.K (.ref f) = true) (hb : Binds X.K fd ps []) (hx : Passes CX X E) :
    OpR X (compareOp .In) (rOwnIn C sp E false) := by
  intro pins s σ H x y v u Q I rx ry h
  obtain ⟨a, dx, fs, rfl, ha, q⟩ := h
  cases (show u = Value.ref a from ry)
  show wpAny _ _ (contains (.ref a) v >>= fun b => pure (Value.bool b)) _ _ _
  exact wpAny_bind (wpAny_mono (contains_own (Q := fun b H' => Q (.bl b) H') F hr hs hf hb hx I rx ha q) (fun b s' z => by
    obtain ⟨H', I', q⟩ := z
    exact wpAny_pure ⟨.bl b, H', I', rfl, q⟩) fun _ _ x => x)
/-- o == y by the class's own __eq__; y: a plain value, or an instance of the same class -/
def rOwnEq (K : PySem.W.Frag) (C : Addr) (sp : Sp) (E : XK) : R2 := fun x y H Q => ∃ a dx fs, x = .ref a ∧ H a = some (.ins C dx fs) ∧ ((∃ b dy gs, y = .ref b ∧ H b = some (.ins C dy gs)) ∨ ∃ t : Str, y = .str t ∧ PySem.W.notFirst K C (.type "str") = true) ∧ sp [x, y] H Q E
theorem op_ownEq (F : FnOk X.prog X.w X.K X.mg X.base CX n f fd ps sp) (hr : Room n X.A) (hs : PySem.W.findIn X.K (.ref C) "__eq__" = some (some (.ref f))) (hf : PySem.W.isFn X.K (.ref f) = true) (hb : Binds X.K fd ps []) (hx : Passes CX X E) :
    OpR X (compareOp .Eq) (rOwnEq X.K C sp E) := by
  intro pins s σ H x y v u Q I rx ry h
  obtain ⟨a, dx, fs, rfl, ha, hy, q⟩ := h
  cases (show v = Value.ref a from rx)
  obtain ⟨mA, J, _⟩ := ins_get I.hok ha
  obtain ⟨od, J, _⟩ := J.look
  obtain ⟨m, hF⟩ := I.fr
  show wpAny _ _ (richCompare .Eq (.ref a) u) _ _ _
  obtain ⟨tb, hty, hn⟩ : ∃ tb, PySem.W.Looks (model X.prog X.w) s.heap (typeOf u) tb ∧ PySem.W.notFirst X.K C tb = true := by
    rcases hy with ⟨b, dy, gs, rfl, hb'⟩ | ⟨t, rfl, hn⟩
    · cases (show u = Value.ref b from ry)
      obtain ⟨mB, J', _⟩ := ins_get I.hok hb'
      obtain ⟨od', J', _⟩ := J'.look
      exact ⟨.ref C, J'.type, by simp [PySem.W.notFirst]⟩
    · obtain ⟨tk, rfl⟩ := (show ∃ tk, u = Value.str t tk from ry)
      exact ⟨.type "str", .of_pure rfl, hn⟩
  refine PySem.W.cmp_K (op := .Eq) (tb := tb) hr.units0 hF I.ok.mod.kin J hty hn hs hf ?_
  refine wpAny_mono (run_below (us := [.ref a, u]) (vs := [.ref a, y]) F hr rfl hb hx I (.cons rfl (.cons ry .nil)) q) (fun w s' z => ?_) fun _ _ x => x
  obtain ⟨z', H', I', rz, qz⟩ := z
  exact SlX.cmpback rz ⟨z', H', I', rz, qz⟩
/-- str(o) by the class's own __str__, which answers a text -/
def rStrOwn (C : Addr) (sp : Sp) (E : XK) : List V → Hp → VK → Prop := fun xs H Q => ∃ a dx fs, xs = [V.ref a] ∧ H a = some (.ins C dx fs) ∧ sp [.ref a] H (fun v H' => ∃ t, v = .str t ∧ Q (.str t) H') E
theorem call_strOwn (F : FnOk X.prog X.w X.K X.mg X.base CX n f fd ps sp) (hr : Room (n + 2) X.A) (hs : PySem.W.findIn X.K (.ref C) "__str__" = some (some (.ref f))) (hf : PySem.W.isFn X.K (.ref f) = true) (hb : Binds X.K fd ps []) (hx : Passes CX X E) :
    CallR X (.type "str") (rStrOwn C sp E) := by
  intro pins s σ H xs us Q I r h
  obtain ⟨a, dx, fs, rfl, ha, q⟩ := h
  obtain ⟨u, rfl, ru⟩ := r.one
  cases (show u = Value.ref a from ru)
  obtain ⟨mA, J, _⟩ := ins_get I.hok ha
  obtain ⟨od, J, _⟩ := J.look
  have hr2 : Room n X.A.in1.in1 := (show Room (n + 1) X.A.in1 from Room.in1 hr).in1
  refine PySem.W.kso_call hr2.units0 I.kIn J hs hf (wpAny_mono (run_below (us := [.ref a]) (vs := [.ref a]) F hr2 rfl hb hx I (.cons rfl .nil) q) (fun w s' z => ?_) fun _ _ x => x)
  obtain ⟨z', H', I', rz, t, ez, qz⟩ := z
  subst ez
  obtain ⟨tk, rfl⟩ := (show ∃ tk, w = Value.str t tk from rz)
  exact ⟨.str t, H', I', ⟨tk, rfl⟩, qz⟩
end
end Y

set_option Elab.async false
set_option linter.all false
set_option maxRecDepth 100000
set_option maxHeartbeats 4000000
/-! Y8: methods by keyword; what these rules say over data. -/
namespace Y
open PySem PySem.Spec PyProof.Rows L2
/-- o.m(k = v, ..) -/
def tMethK (C : Addr) (m : Str) (n : Nat) (sp : Sp) (gV : List V → List V → List V) (E : XK) (ta : TE) (tk : TA) : TE := fun σ H Q => ta σ H fun x H1 => ∃ a dx fs, x = .ref a ∧ H1 a = some (.ins C dx fs) ∧ fs.lookup m = none ∧
  tk σ H1 fun zs H2 => zs.length = n ∧ sp (gV [x] zs) H2 Q E
section
variable {X : Cx} {CX : CXT} {k : Nat} {f C : Addr} {fd : FuncData} {ps ks : List Str} {sp : Sp} {E : XK} {m : Str} {pos apos : Pos} {o : Expr} {kws : List Keyword} {ta : TE} {tk : TA} {g : List Value → List Value → List Value} {gV : List V → List V → List V}
theorem run_kn {n : Nat} {pins : List (Addr × Obj)} {σ : L2.St} {H : Hp} {s : Shared} {Q : VK} {us ws : List Value} {vs zs : List V} (F : FnOk X.prog X.w X.K X.mg X.base CX k f fd ps sp) (hr : Room k X.A) (hb : KBn X.K fd ps n ks g gV) (hx : Passes CX X E)
    (I : Inv X pins σ H s) (r : Vals vs us) (rz : Vals zs ws) (l1 : vs.length = n) (l2 : zs.length = ks.length) (h : sp (gV vs zs) H Q E) : wpAny (model X.prog X.w) X.A (call (.ref f) us (ks.zip ws)) (EP X pins σ Q) X.xe s := by
  refine wpAny_call (codeAny_mono (F.run X.A X.stack s H ⟨us, ks.zip ws⟩ (g us ws) (gV vs zs) Q E hr I.env0 (hb.to s us ws I.kIn (r.length.symm.trans l1) (rz.length.symm.trans l2)) (hb.rel r rz) h) fun r s' hq => ?_)
  cases r with
  | error e => exact hx pins σ H s e s' I hq
  | ok fl =>
    cases fl with
    | ret u => exact I.after hq
    | next => exact False.elim hq
    | brk => exact False.elim hq
    | cont => exact False.elim hq
theorem y_methK {pl : Sem Bool} (he : PE X o ta) (c : Cls X.K C) (hm : Meth X.K C m f) (F : FnOk X.prog X.w X.K X.mg X.base CX k f fd ps sp) (hr : Room k X.A) (hb : KBn X.K fd ps 1 ks g gV) (hx : Passes CX X E) (hkw : PK X kws tk)
    (hall : (backToKw pos (keywordEach kws X.env)).all (·.1.isSome) = true := by rfl) (hks : (backToKw pos (keywordEach kws X.env)).filterMap (·.1) = ks := by rfl)
    (hpl : ((backTo pos (starEach [] X.env)).any (·.1) || (backToKw pos (keywordEach kws X.env)).any (·.1.isNone)) = false := by rfl)
    (ht : eval (.Call (.Attribute o m apos) [] kws pos) X.env = (do
      let ov ← eval o X.env
      standAt apos.atName
      let (f, first) ← holding [ov] (getMethod ov m pl)
      callWith pos f first (backTo pos (starEach [] X.env)) (backToKw pos (keywordEach kws X.env))) := by rfl) :
    PE X (.Call (.Attribute o m apos) [] kws pos) (tMethK C m ks.length sp gV E ta tk) := by
  refine ⟨fun pins s σ H Q I h => ?_⟩
  refine PySem.W.methodCall_KW (pl := pl) (thn (he.run pins s σ H _ I h) fun u s1 ⟨x, H1, I1, rx, a, dx, fs, ex, ea, l, q⟩ => ?_) ht
  subst ex
  obtain rfl : u = Value.ref a := rx
  refine getmeth_ok I1 ea c hm l ?_
  refine PySem.W.callWith_KW0 (first := [.ref a]) (h₀ := X.base) I.ok.mod.kin hm.kp hall ?_ hpl
  refine thn (hkw.run pos pins s1 σ H1 _ I1 q) fun ws s2 ⟨zs, H2, I2, rz, l2, q2⟩ => ⟨I2.kIn, ?_⟩
  rw [hks]
  exact run_kn (us := [.ref a]) (vs := [.ref a]) F hr hb hx I2 (.cons rfl .nil) rz rfl l2 q2
/-- one positional value (self), one keyword, no defaults -/
theorem kb_of {x qual y z : Str} {params : Arguments} {body : List Stmt} {scope : Scope} {kws : List (Str × V)} (F : FunD X.K x qual params body scope [] kws f fd)
    (h : ∀ (kV doc pm : Value) (an : Option Addr) (cdv ct : Value) (u w : Value), bindArgs (PySem.W.fnOf x qual params body scope .none kV doc pm an cdv ct) ⟨[u], [(z, w)]⟩ = pure [(y, u), (z, w)]) : KBn X.K fd [y, z] 1 [z] (fun us ws => us ++ ws) (fun vs zs => vs ++ zs) := by
  obtain ⟨oc, od, dV, kV, doc, pm, an, cdv, ct, osl, rfl, lk, hcd, hD, hK⟩ := F.ex
  rcases hD with ⟨_, rfl⟩ | ⟨e, _⟩
  · refine ⟨fun s us ws X l1 l2 => ?_, fun r1 r2 => r1.append r2⟩
    match us, ws, l1, l2 with
    | [u], [w], _, _ => exact .of_eq (h kV doc pm an cdv ct u w)
  · exact absurd rfl e
end
section
variable {env : List En} {te ta tb : TE} {tt : TT} {P S : Y.D → Prop} {K : PySem.W.Frag} {α : Type} {args : α → List Y.D} {pre : α → Prop} {res : α → Y.D → Prop} {a : α} {E : XK} {C : Addr} {fs gs : List (Str × Y.D)}
theorem x_methK {m : Str} {tk : TA} {ds : List Y.D} {n : Nat} (ho : Ev ta env (Is (.obj C fs))) (hm : fs.lookup m = none) (h : EvA tk env (Is ds)) (hl : ds.length = n) (ea : args a = .obj C fs :: ds) (hp : pre a) :
    Ev (tMethK C m n (spP args pre res) (fun vs zs => vs ++ zs) E ta tk) env (res a) := fun C M σ H A Q q =>
  ho C M σ H A _ fun v d H1 p1 A1 e1 r1 => by
    subst p1
    obtain ⟨p, dx, vs, rfl, hn, hp0, rf⟩ := r1.obj_inv
    refine ⟨p, dx, vs, rfl, hp0, rf.nolook hm, h C M σ H1 A1 _ fun ws es H2 p2 A2 e2 r2 => ?_⟩
    subst p2
    exact ⟨by rw [r2.length, hl], M, a, by rw [ea]; exact .cons (r1.mono e2) r2, A2.tr, hp, fun v d H' hr al rp => q v d H' hr (A2.all al) ((e1.trans e2).trans al.ext) rp⟩
theorem r_ownIn {x : Y.D} {S : Y.D → Prop} {neg : Bool} (ea : args a = [.obj C fs, x]) (hp : pre a) (hs : ∀ d, res a d → ∃ b, d = .bl b ∧ S (.bl (if neg then !b else b))) : RV (rOwnIn C (spP args pre res) E neg) x (.obj C fs) S := fun M H u v t r1 r2 Q q => by
  obtain ⟨p, dx, vs, rfl, hn, hp0, rf⟩ := id r2.obj_inv
  refine ⟨p, dx, vs, rfl, hp0, M, a, by rw [ea]; exact .cons r2 (.cons r1 .nil), t, hp, fun w d H' hr al rp => ?_⟩
  obtain ⟨b, rfl, z⟩ := hs d hr
  cases rp.bl_inv
  exact ⟨b, rfl, q _ _ H' z al (.bl _)⟩
theorem r_ownEq {x : Y.D} {S : Y.D → Prop} (ea : args a = [.obj C fs, x]) (hx : (∃ gs, x = .obj C gs) ∨ ∃ t, x = .str t ∧ PySem.W.notFirst K C (.type "str") = true) (hp : pre a) (hs : ∀ d, res a d → S d) : RV (rOwnEq K C (spP args pre res) E) (.obj C fs) x S := fun M H u v t r1 r2 Q q => by
  obtain ⟨p, dx, vs, rfl, hn, hp0, rf⟩ := id r1.obj_inv
  refine ⟨p, dx, vs, rfl, hp0, ?_, M, a, by rw [ea]; exact .cons r1 (.cons r2 .nil), t, hp, fun w d H' hr al rp => q w d H' (hs d hr) al rp⟩
  rcases hx with ⟨gs, rfl⟩ | ⟨tx, rfl, nf⟩
  · obtain ⟨p2, dx2, vs2, rfl, _, hp2, _⟩ := r2.obj_inv
    exact .inl ⟨p2, dx2, vs2, rfl, hp2⟩
  · cases r2.str_inv
    exact .inr ⟨tx, rfl, nf⟩
theorem c_strOwn {S : Y.D → Prop} (ea : args a = [.obj C fs]) (hp : pre a) (hs : ∀ d, res a d → ∃ t, d = .str t ∧ S (.str t)) : RC (rStrOwn C (spP args pre res) E) [.obj C fs] S := fun M H us t r Q q => by
  cases r with
  | cons r1 r2 =>
    cases r2
    obtain ⟨p, dx, vs, rfl, hn, hp0, rf⟩ := id r1.obj_inv
    refine ⟨p, dx, vs, rfl, hp0, M, a, by rw [ea]; exact .cons r1 .nil, t, hp, fun w d H' hr al rp => ?_⟩
    obtain ⟨tx, rfl, z⟩ := hs d hr
    cases rp.str_inv
    exact ⟨tx, rfl, q _ _ H' z al (.str _)⟩
theorem r_isB {i j : Bool} : RV (rIsB) (.bl i) (.bl j) (Is (.bl (decide (i = j)))) := fun M H u v _ h1 h2 Q q => by
  cases h1.bl_inv
  cases h2.bl_inv
  exact ⟨i, j, rfl, rfl, q _ _ H rfl (All.refl H) (.bl _)⟩
end
end Y

set_option Elab.async false
set_option linter.all false
set_option maxRecDepth 100000
set_option maxHeartbeats 4000000
/-! Y9: set(list of ints), then sorted(..). -/
namespace Y
open PySem PySem.Spec PyProof.Rows L2
theorem nodup_len {α : Type} [DecidableEq α] : ∀ {l L : List α}, l.Nodup → (∀ x ∈ l, x ∈ L) → l.length ≤ L.length
  | [], _, _, _ => Nat.zero_le _
  | x :: l, L, h, s => by
    have hx : x ∈ L := s x (List.mem_cons_self ..)
    have h2 := List.nodup_cons.mp h
    have r := nodup_len (L := L.erase x) h2.2 fun y hy => (List.mem_erase_of_ne (fun (z : y = x) => h2.1 (z ▸ hy))).mpr (s y (List.mem_cons_of_mem _ hy))
    rw [List.length_erase_of_mem hx] at r
    have : 0 < L.length := List.length_pos_of_mem hx
    rw [List.length_cons]
    omega
abbrev nset (w : World) : Obj := { cls := .type "set", dict := none, data := .set #[] 0 (.fresh 0 0 (!w.params.followText "set-order")) }
section
variable {P : Program} {w : World} {A : Around} {E : Value → Shared → Prop} {s : Shared}
set_option maxHeartbeats 8000000 in
theorem set_of_list {l : Addr} {items : Array Value} (ns : List Int) {Q : Value → Shared → Prop} (cold : A.handled = none) (at_ : s.heap.IsList l items) (hints : IntsAre items.toList ns) (small : ns.length + 1 < scanBound)
    (fin : ∀ (h2 : Heap) (tk c : Nat), SetR w h2 s.heap.objs.size (fun j => decide (j ∈ ns)) c → (∀ b o, s.heap.get? b = some o → h2.get? b = some o) → Q (.ref s.heap.objs.size) { s with heap := h2, toks := tk }) :
    wpAny (model P w) A (call (.type "set") [.ref l]) Q E s := by
  have sz : items.size = ns.length := by
    rw [← Array.length_toList]
    exact IntsAre.length hints
  obtain ⟨c, tl, mro⟩ := F.called_set.mro
  have made := F.called_set.made
  have sub := F.called_set.sub
  refine wpAny_call (codeAny_of_tree ?_)
  show wpAny _ _ (callAny (Value.type "set") _) _ _ _
  refine wpAny_pure ⟨Code.quiet_builtin _ (by decide +kernel), codeAny_builtin F.entry_type_call ?_⟩
  rw [Around.under_plain (weight_type_call_type "set" [Value.ref l] []) rfl]
  have a1 := F.called_set.notType
  have a2 := F.called_set.canCreate
  have a3 := F.typeCall_set_1 (Value.ref l)
  repeat (any_goals (first | assumption | wp_step))
  refine codeAny_mono (code_set_led1 (Value.ref l) (E := E) (Q₁ := fun ob t => ob = Value.ref s.heap.objs.size ∧ t = { s with heap := s.heap.push (nset w) }) ⟨rfl, rfl⟩) fun r t hr => ?_
  cases r with
  | error e => exact hr
  | ok fl =>
    cases fl with
    | ret ob =>
      obtain ⟨rfl, rfl⟩ := hr
      have g0 : (s.heap.push (nset w)).get? s.heap.objs.size = some (nset w) := Heap.get?_push_size _ rfl
      have ty0 : Shared.TypeIs { s with heap := s.heap.push (nset w) } (.ref s.heap.objs.size) "set" := ⟨_, g0, rfl⟩
      have b1 := F.called_set.init.lookup
      have b2 := F.called_set.init.bind (Value.ref s.heap.objs.size)
      repeat (any_goals (first | assumption | wp_step))
      refine codeAny_mono (codeAny_call_builtin (R := wants (fun r t2 => r = .none ∧ ∃ h2 tk c, t2 = { s with heap := h2, toks := tk } ∧ SetR w h2 s.heap.objs.size (fun j => decide (j ∈ ns)) c ∧ (∀ b o, s.heap.get? b = some o → h2.get? b = some o)) E)
        F.called_set.init.plain F.entry_set_init (check_set_init_1 ty0 ?_)) fun r2 t2 hr2 => ?_
      · obtain ⟨⟨oc, od, odt, os⟩, ho, hc, nl, hd⟩ := at_
        simp only at hc hd
        subst hc; subst hd
        have ho2 : (s.heap.push (nset w)).get? l = some { cls := .type "list", dict := od, data := .seq items nl, slots := os } := Heap.get?_push_of_some _ ho
        have k1 := F.sub_list_set
        have k2 := F.sub_list_frozenset
        have k3 : (Value.type "list" == Value.type "dict") = false := by decide
        have il : (s.heap.push (nset w)).IsList l items := ⟨_, ho2, rfl, nl, rfl⟩
        unfold Builtin.«set.__init__» noKeywords Builtin.Frozenset.updateFrom
        generalize hP : pyIter = PI
        wp_walk
        subst hP
        refine wpAny_pyIter_list il ?_
        refine wpAny_bind (wpAny_runValue ?_)
        have lS : l < s.heap.objs.size := Heap.lt_size ho
        have cold3 : A.in1.in1.in1.handled = none := by simp [cold]
        have neI : l ≠ (s.heap.push (nset w)).objs.size := by
          rw [Heap.size_push]
          exact Nat.ne_of_lt (Nat.lt_succ_of_lt lS)
        have nf : s.heap.objs.size ∉ [(s.heap.push (nset w)).objs.size, l] := by
          rw [Heap.size_push]
          simp only [List.mem_cons, List.not_mem_nil, or_false, not_or]
          exact ⟨Nat.ne_of_lt (Nat.lt_succ_self _), Nat.ne_of_gt lS⟩
        have val : ∀ (i : Nat) (v : Value), items[i]? = some v → ∃ k t, ns[i]? = some k ∧ v = .int k t := fun i v hv => by
          have hi : i < ns.length := by
            rw [← sz]
            exact (Array.getElem?_eq_some_iff.mp hv).1
          obtain ⟨t, e⟩ := PyProof.Rows.IntsAre.int_at hints i v (by rw [Array.getElem?_toList]; exact hv)
          exact ⟨ns[i], t, List.getElem?_eq_getElem hi, by rw [e, List.getD_eq_getElem?_getD, List.getElem?_eq_getElem hi]; rfl⟩
        refine set_update_ints ((Walks.list cold3 _ l neI items).toS) s.heap.objs.size nf ns sz small val (items.size - 0) 0 _ (by omega) (Nat.zero_le _) ⟨⟨_, Heap.get?_push_size _ rfl, rfl, rfl⟩, (il.push _)⟩ ?start ?back
        case start =>
          exact ⟨0, Nat.le_refl 0, setR_new_at (Heap.get?_push_of_some _ g0)⟩
        case back =>
          intro t3 c3 mv hc3 R3
          obtain ⟨h3, g3, d3, k3, o3⟩ := t3
          have eg : g3 = s.gens := mv.gens
          have ed : d3 = s.drawn := mv.drawn
          have eo : o3 = s.os := mv.os
          subst eg; subst ed; subst eo
          show wpAny _ _ _ _ _ _
          refine wpAny_pure ?_
          show wpAny _ _ (ret Value.none) _ _ _
          refine wpAny_pure ⟨rfl, h3, k3, c3, rfl, R3, fun b o e => ?_⟩
          have y0 : b < s.heap.objs.size := Heap.lt_size e
          have y2 : b ≠ (s.heap.push (nset w)).objs.size := by
            rw [Heap.size_push]
            exact Nat.ne_of_lt (Nat.lt_succ_of_lt y0)
          exact mv.heap b o (by simp only [List.mem_cons, List.not_mem_nil, or_false, not_or]; exact ⟨Nat.ne_of_lt y0, y2⟩) (Heap.get?_push_of_some _ (Heap.get?_push_of_some _ e))
      · cases r2 with
        | error e => exact hr2
        | ok fl2 =>
          cases fl2 with
          | ret r =>
            obtain ⟨rfl, h2, tk, c, rfl, R, k⟩ := hr2
            repeat (any_goals (first | assumption | wp_step))
            exact fin _ _ _ R k
          | _ => exact hr2.elim
    | _ => exact hr.elim
end
/-- set(xs), xs a list of ints; c: how many -/
def rSetL2 (K : PySem.W.Frag) (w : World) : List V → Hp → VK → Prop := fun xs H Q => ∃ (p : Addr) (ns : List Int), xs = [V.ref p] ∧ SqL K H p (ns.map V.int) ∧ ns.length ≤ 1000 ∧
  ∀ (l : Addr) (c : Nat), H l = none → (∀ L : List Int, (∀ k, k ∈ ns → k ∈ L) → c ≤ L.length) → Q (.ref l) (upd H l (SetO w l (fun j => decide (j ∈ ns)) c))
theorem call_setI {X : Cx} (hc : X.calm = true) : CallR X (.type "set") (rSetL2 X.K X.w) := by
  intro pins s σ H xs us Q I r h
  obtain ⟨p, ns, rfl, hq, hl, q⟩ := h
  rw [Vals.ref1 r]
  obtain ⟨its, rv, pl, hz⟩ := I.list hq
  have hi : IntsAre its.toArray.toList ns := ints_of_vals rv
  refine set_of_list ns (I.ok.hd hc) pl.isList hi (by unfold scanBound; omega) fun h2 tk c R k => ?_
  have hn : H s.heap.objs.size = none := I.hok.fresh (Nat.le_refl _)
  refine ⟨.ref s.heap.objs.size, upd H s.heap.objs.size (SetO X.w s.heap.objs.size (fun j => decide (j ∈ ns)) c), I.laid (t' := tk) k (Nat.le_refl _) (setO_new R), rfl, q _ c hn fun L hL => ?_⟩
  obtain ⟨o, es, ep, t, _, _, _, _, nd, mem, _, _, en, _⟩ := R
  have e := nodup_len nd (L := L) fun x hx => hL x (of_decide_eq_true ((mem x).mpr hx))
  rw [List.length_map, Array.length_toList, en] at e
  exact e
end Y

set_option Elab.async false
set_option linter.all false
set_option maxRecDepth 100000
set_option maxHeartbeats 4000000
/-! Z1: _lacks_divisor, _wrong_gap. -/
namespace Y
open PySem L2
abbrev n_lacks : List Str := ["part", "period", "known", "divisor", "other"]
theorem sc_lacks : FnScope n_lacks ["part", "period", "known"] (defScope s_lacks) := ⟨rfl, rfl, rfl, by decide +kernel, rfl, by decide +kernel, by decide +kernel⟩
def Lacks (part period : Int) (known : List Int) : Prop := ∃ k : Int, 1 ≤ k ∧ k < part ∧ part % k = 0 ∧ period * k ∉ known
structure LacksA where
  part : Int
  period : Int
  known : List Int
def spLacks : Sp := spP (α := LacksA) (fun a => [.int a.part, .int a.period, .dct (dk a.known)]) (fun a => 1 ≤ a.part ∧ a.part < 1000000000 ∧ 1 ≤ a.period ∧ a.period < 1000000000) (fun a d => ∃ b, (b = true ↔ Lacks a.part a.period a.known) ∧ d = .bl b)
def InvL (part period : Int) (known : List Int) (d : Int) : Prop := ∀ k : Int, 1 ≤ k → k < d → part % k = 0 → (k < part → period * k ∈ known) ∧ (part / k < part → period * (part / k) ∈ known)
theorem invL_end {part period : Int} {known : List Int} {d : Int} (hp : 1 ≤ part) (hd : 1 ≤ d) (h : InvL part period known d) (e : ¬ d * d ≤ part) : ¬ Lacks part period known := by
  rintro ⟨k, h1, h2, h3, h4⟩
  by_cases hk : k < d
  · exact h4 ((h k h1 hk h3).1 h2)
  · obtain ⟨q, hq⟩ := Int.dvd_of_emod_eq_zero h3
    have q1 : 1 ≤ q := by
      by_cases z : 1 ≤ q
      · exact z
      · have : k * q ≤ 0 := Int.mul_nonpos_of_nonneg_of_nonpos (by omega) (by omega)
        omega
    have q2 : q < d := by
      by_cases z : q < d
      · exact z
      · have a1 : d * d ≤ k * d := Int.mul_le_mul_of_nonneg_right (by omega) (by omega)
        have a2 : k * d ≤ k * q := Int.mul_le_mul_of_nonneg_left (by omega) (by omega)
        omega
    have e1 : part / q = k := by rw [hq]; exact Int.mul_ediv_cancel _ (by omega)
    have e2 : part % q = 0 := by rw [hq]; exact Int.mul_emod_left ..
    have := (h q q1 q2 e2).2 (by rw [e1]; exact h2)
    rw [e1] at this
    exact h4 this
theorem invL_step {part period : Int} {known : List Int} {d : Int} (h : InvL part period known d) (n : part % d = 0 → (d < part → period * d ∈ known) ∧ (part / d < part → period * (part / d) ∈ known)) : InvL part period known (d + 1) := fun k h1 h2 h3 => by
  by_cases e : k = d
  · subst e
    exact n h3
  · exact h k h1 (by omega) h3
section
variable {P : Program} {w : World} {K : PySem.W.Frag} {mg : Str → Option Value} {base : Heap}
theorem ok_lacks {f : Addr} {fd : FuncData} {kws : List (Str × V)} (F : FunD K "_lacks_divisor" "_lacks_divisor" (defArgs s_lacks) (defBody s_lacks) (defScope s_lacks) [] kws f fd) : FnOk P w K mg base CX0 1 f fd ["part", "period", "known"] spLacks := by
  refine okP 2 F sc_lacks (fun _ _ => rfl) rfl fun cdv A outer s H E a hr hp => ⟨_, (pss_cons (ps_set (i := 3) sc_lacks.nd rfl (Or.inl rfl) pe_int)
 (pss_cons (ps_while PassesOwn.never (pt_cmpR op_le (pe_op op_mul (pv 3) (pv 3)) (pv 0) (nomark _))
 (pss_cons (ps_if (pt_cmpR op_eq (pe_op op_mod (pv 0) (pv 3)) pe_int (nomark _)) (pss_cons (ps_if (PW.pt (pw_and (pt_cmpR op_lt (pv 3) (pv 0) (nomark _)) (pw_and1 (pt_cmp (pc_dnotin (hu_of hr) (pe_op op_mul (pv 1) (pv 3)) (pv 2)))))) (pss_one (ps_ret pe_bl)) pss_nil)
 (pss_cons (ps_set (i := 4) sc_lacks.nd rfl (Or.inl rfl) (pe_op op_fdiv (pv 0) (pv 3)))
 (pss_one (ps_if (PW.pt (pw_and (pt_cmpR op_lt (pv 4) (pv 0) (nomark _)) (pw_and1 (pt_cmp (pc_dnotin (hu_of hr) (pe_op op_mul (pv 1) (pv 4)) (pv 2)))))) (pss_one (ps_ret pe_bl)) pss_nil)))) pss_nil)
 (pss_one (ps_aug (i := 3) sc_lacks.nd rfl (Or.inl rfl) pe_int ip_add))))
 (pss_one (ps_ret pe_bl)))), ?_⟩
  intro C M D dn _ _
  obtain ⟨part, period, known⟩ := a
  show Go C M [.im (.int part), .im (.int period), .im (.dct (dk known)), .no, .no] _ D
  obtain ⟨p1, p2, p3, p4⟩ := hp
  simp only at p1 p2 p3 p4 dn
  refine g_seq (g_set x_int (g_seq (g_while (fun m env => ∃ (d : Int) (e4 : En), env = [.im (.int part), .im (.int period), .im (.dct (dk known)), .im (.int d), e4] ∧ 1 ≤ d ∧ d ≤ part + 1 ∧ m = (part + 1 - d).toNat ∧ InvL part period known d) part.toNat ⟨1, .no, rfl, by omega, by omega, by omega, fun k h1 h2 => by omega⟩ ?_)))
  rintro m env ⟨d, e4, rfl, hd, hd2, hm, inv⟩
  refine (t_test (x_op (x_op (x_var rfl) (x_var rfl) (r_Ii ?_)) (x_var rfl) r_I0b)).imp fun b hb => ⟨fun eb N hN => ?_, fun eb => g_ret x_bl (dn.imp ?_)⟩
  · exact .inl ⟨by omega, by omega⟩
  · have hle : d * d ≤ part := of_decide_eq_true (hb.symm.trans eb)
    have h1 : d ≤ d * d := by
      have : d * 1 ≤ d * d := Int.mul_le_mul_of_nonneg_left hd (by omega)
      omega
    have next : ∀ e : En, InvL part period known (d + 1) → Go C M [.im (.int part), .im (.int period), .im (.dct (dk known)), .im (.int d), e] (tAug 3 (tC (.int 1)) (ipI fun i j => i + j)) { D with nx := N, ct := N, bk := D.nx } := fun e iv =>
      g_aug (a := d) (b := 1) rfl x_int (hN (part + 1 - (d + 1)).toNat _ (by omega) ⟨d + 1, e, rfl, by omega, by omega, rfl, iv⟩)
    have bound : period * d < 2 ^ 64 ∧ -(2 ^ 64) < period * d := by
      have a1 : period * d ≤ 1000000000 * d := Int.mul_le_mul_of_nonneg_right (by omega) (by omega)
      have a2 : 0 ≤ period * d := Int.mul_nonneg (by omega) (by omega)
      omega
    have yes : ∀ k : Int, 1 ≤ k → k < part → part % k = 0 → period * k ∉ known → Done C D (Is (.bl true)) := fun k h1 h2 h3 h4 => dn.imp fun d0 z => by
      subst z
      exact ⟨true, ⟨fun _ => ⟨k, h1, h2, h3, h4⟩, fun _ => rfl⟩, rfl⟩
    refine g_seq (g_ifb (t_test (x_op (x_op (x_var rfl) (x_var rfl) (r_Ii ?_)) x_int r_eqI)) (fun e1 => ?_) (fun e1 => g_next (next _ (invL_step inv fun z => absurd z (of_decide_eq_false e1)))))
    · exact (by omega : (0 : Int) < d)
    have hdv : part % d = 0 := of_decide_eq_true e1
    obtain ⟨q, hq⟩ := Int.dvd_of_emod_eq_zero hdv
    have eq : part / d = q := by rw [hq]; exact Int.mul_ediv_cancel_left _ (by omega)
    have q1 : 1 ≤ q := by
      by_cases z : 1 ≤ q
      · exact z
      · have : d * q ≤ 0 := Int.mul_nonpos_of_nonneg_of_nonpos (by omega) (by omega)
        omega
    have eq2 : part % q = 0 := by rw [hq]; exact Int.mul_emod_left ..
    refine g_seq (g_ifb (t_and (t_test (x_op (x_var rfl) (x_var rfl) r_I0b)) fun _ => t_B (x_notInD (x_op (x_var rfl) (x_var rfl) (r_Ii (.inl ⟨by omega, by omega⟩))) (x_var rfl))) (fun e2 => ?_) (fun e2 => g_next ?_))
    · simp only [Bool.and_eq_true, decide_eq_true_eq, Bool.not_eq_true', decide_eq_false_iff_not] at e2
      exact g_ret x_bl (yes d hd e2.1 hdv e2.2)
    have f1 : d < part → period * d ∈ known := fun z => by
      simp only [Bool.and_eq_false_iff, decide_eq_false_iff_not, Bool.not_eq_false', decide_eq_true_eq] at e2
      rcases e2 with e2 | e2
      · exact absurd z e2
      · exact e2
    refine g_seq (g_set (x_op (x_var rfl) (x_var rfl) (r_Ii ⟨by omega, by omega⟩)) (g_ifb (t_and (t_test (x_op (x_var rfl) (x_var rfl) r_I0b)) fun _ => t_B (x_notInD (x_op (x_var rfl) (x_var rfl) (r_Ii (.inl ⟨by omega, by omega⟩))) (x_var rfl))) (fun e3 => ?_) (fun e3 => g_next ?_)))
    · simp only [Bool.and_eq_true, decide_eq_true_eq, Bool.not_eq_true', decide_eq_false_iff_not] at e3
      rw [eq] at e3
      exact g_ret x_bl (yes q q1 e3.1 eq2 e3.2)
    · refine next _ (invL_step inv fun _ => ⟨f1, fun z => ?_⟩)
      simp only [Bool.and_eq_false_iff, decide_eq_false_iff_not, Bool.not_eq_false', decide_eq_true_eq] at e3
      rcases e3 with e3 | e3
      · exact absurd z e3
      · exact e3
  · intro d0 z
    subst z
    refine ⟨false, ⟨fun z => (by cases z), fun z => absurd z (invL_end p1 hd inv (of_decide_eq_false (hb.symm.trans eb)))⟩, rfl⟩
end
end Y

set_option Elab.async false
set_option linter.all false
set_option maxRecDepth 100000
set_option maxHeartbeats 4000000
/-! Z2: _wrong_gap. -/
namespace Y
open PySem L2
theorem t_BP {te : TE} {env : List En} {T : Bool → Prop} (h : Ev te env (fun d => ∃ b, T b ∧ d = .bl b)) : EvT (tB te) env T := fun C M σ H A Q q =>
  h C M σ H A _ fun v d H1 p1 A1 e1 r1 => by
    obtain ⟨b, hb, rfl⟩ := p1
    cases r1.bl_inv
    exact ⟨b, rfl, q b H1 hb A1 e1⟩
abbrev n_wrong : List Str := ["period", "gaps", "known", "gap"]
theorem sc_wrong : FnScope n_wrong ["period", "gaps"] (defScope s_wrong) := ⟨rfl, rfl, rfl, by decide +kernel, rfl, by decide +kernel, by decide +kernel⟩
open Classical in
noncomputable def wrongF (period : Int) : List Int → List Int → Option Int
  | _, [] => none
  | known, g :: r => if g % period ≠ 0 ∨ Lacks (g / period) period known then some g else wrongF period (known ++ [g]) r
def oD : Option Int → D
  | none => .non
  | some g => .int g
structure WrongA where
  period : Int
  gaps : List Int
def spWrong : Sp := spP (α := WrongA) (fun a => [.int a.period, .lst (a.gaps.map D.int)]) (fun a => 1 ≤ a.period ∧ a.period < 1000000000 ∧ (∀ g ∈ a.gaps, 1 ≤ g ∧ g < 1000000000) ∧ a.gaps.Nodup ∧ a.gaps.length < 1000) (fun a d => d = oD (wrongF a.period [] a.gaps))
section
variable {P : Program} {w : World} {K : PySem.W.Frag} {mg : Str → Option Value} {base : Heap}
theorem ok_wrong {f f1 : Addr} {fd fd1 : FuncData} {kws : List (Str × V)} (F : FunD K "_wrong_gap" "_wrong_gap" (defArgs s_wrong) (defBody s_wrong) (defScope s_wrong) [] kws f fd)
    (dLacks : Dk P w K mg base CX0 "_lacks_divisor" 1 f1 fd1 ["part", "period", "known"] spLacks) : FnOk P w K mg base CX0 2 f fd ["period", "gaps"] spWrong := by
  refine okP 2 F sc_wrong (fun _ _ => rfl) rfl fun cdv A outer s H E a hr hp => ⟨_, (pss_cons (ps_set (i := 2) sc_wrong.nd rfl (Or.inl rfl) pe_dnewK)
 (pss_cons (ps_for PassesOwn.never rfl (pi_list (pv 1)) (pg_name (i := 3) sc_wrong.nd rfl (Or.inl rfl))
 (pss_cons (ps_if (PW.pt (pw_or (pt_cmpR op_ne (pe_op op_mod (pv 3) (pv 0)) pe_int (nomark _)) (pw_or1 (pt_val (pe_call dLacks.ok (hr.mono (by decide)) (by rfl) dLacks.mg dLacks.kp dLacks.bi .nil pass0 (pa_cons (pe_op op_fdiv (pv 3) (pv 0)) (pa_cons (pv 0) (pa_cons (pv 2) pa_nil)))))))) (pss_one (ps_ret (pv 3))) pss_nil)
 (pss_one (ps_dput (hu_of hr) (pv 2) (pv 3) pe_bl rfl))))
 (pss_one (ps_ret pe_non)))), ?_⟩
  intro C M D dn _ nx
  obtain ⟨period, gaps⟩ := a
  obtain ⟨p1, p2, p3, p4, p5⟩ := hp
  simp only at p1 p2 p3 p4 p5 dn nx
  show Go C M [.im (.int period), .im (.lst (gaps.map Y.D.int)), .no, .no] _ D
  refine g_seq (g_asgD fun p hp => ?_)
  show Nx C (p :: M) [.im (.int period), .im (.lst (gaps.map Y.D.int)), .md p [], .no] _
  refine g_seq (g_for (fun i env => ∃ e3, env = [.im (.int period), .im (.lst (gaps.map Y.D.int)), .md p (dk (gaps.take i)), e3] ∧ e3.addr = none ∧ wrongF period [] gaps = wrongF period (gaps.take i) (gaps.drop i)) (i_list (x_var rfl)) ⟨.no, rfl, rfl, rfl⟩ ?_ ?_)
  · rintro i d env hi ⟨e3, rfl, h3, iv⟩ C' D' dn' nx' _ _
    obtain ⟨g, hg, rfl⟩ : ∃ g, gaps[i]? = some g ∧ d = .int g := by
      rw [List.getElem?_map] at hi
      cases e0 : gaps[i]? with
      | none =>
        rw [e0] at hi
        cases hi
      | some g =>
        rw [e0] at hi
        exact ⟨g, rfl, (Option.some.inj hi).symm⟩
    obtain ⟨g1, g2⟩ := p3 g (List.mem_of_getElem? hg)
    have hil : i < gaps.length := (List.getElem?_eq_some_iff.mp hg).1
    have eg : gaps[i] = g := (List.getElem?_eq_some_iff.mp hg).2
    have hnot : g ∉ gaps.take i := fun z => by
      obtain ⟨j, hj, ej⟩ := List.mem_iff_getElem.mp z
      rw [List.length_take] at hj
      rw [List.getElem_take] at ej
      have hji : j < i := by omega
      exact absurd ((List.getElem_inj p4).mp (ej.trans eg.symm)) (by omega)
    have unf : wrongF period (gaps.take i) (gaps.drop i) = (open Classical in if g % period ≠ 0 ∨ Lacks (g / period) period (gaps.take i) then some g else wrongF period (gaps.take i ++ [g]) (gaps.drop (i + 1))) := by
      rw [List.drop_eq_getElem_cons hil, eg]
      rfl
    have hdiv : 0 ≤ g / period ∧ g / period ≤ g := ⟨Int.ediv_nonneg (by omega) (by omega), Int.ediv_le_self _ (by omega)⟩
    have hpos : g % period = 0 → 1 ≤ g / period := fun z => by
      obtain ⟨q, hq⟩ := Int.dvd_of_emod_eq_zero z
      rw [hq, Int.mul_ediv_cancel_left _ (by omega)]
      by_cases y : 1 ≤ q
      · exact y
      · have : period * q ≤ 0 := Int.mul_nonpos_of_nonneg_of_nonpos (by omega) (by omega)
        omega
    show Go C' (p :: M) [.im (.int period), .im (.lst (gaps.map Y.D.int)), .md p (dk (gaps.take i)), .im (.int g)] _ D'
    have eA : ∀ b : Bool, b = (!decide (g % period = 0)) → (b = false → g % period = 0) ∧ (b = true → g % period ≠ 0) := fun b hb => by
      subst hb
      exact ⟨fun z => by simpa using z, fun z => by simpa using z⟩
    refine g_seq (g_if (T := fun b => b = true ↔ (g % period ≠ 0 ∨ Lacks (g / period) period (gaps.take i))) (t_orP (P2 := fun b => b = true ↔ Lacks (g / period) period (gaps.take i)) (t_test (x_op (x_op (x_var rfl) (x_var rfl) (r_Ii (by omega))) x_int r_neI)) (fun e => t_BP ?_) (fun e => ?_) (fun b e hb => ?_)) (fun hT => ?_) (fun hT => g_next ?_))
    · have hz := (eA false e).1 rfl
      exact x_call3d (α := LacksA) (a := ⟨g / period, period, gaps.take i⟩) rfl (x_op (x_var rfl) (x_var rfl) (r_Ii (⟨by omega, by omega⟩ : CDiv g period))) (x_var rfl) rfl ⟨hpos hz, by show g / period < 1000000000; omega, p1, p2⟩ (fun d ⟨b, _, hd⟩ => .inl ⟨b, hd⟩)
    · exact ⟨fun _ => .inl ((eA true e).2 rfl), fun _ => rfl⟩
    · have hz := (eA false e).1 rfl
      refine hb.trans ⟨.inr, fun z => ?_⟩
      rcases z with z | z
      · exact absurd hz z
      · exact z
    · refine g_ret (x_var rfl) ((dn' _ dn).imp ?_)
      intro d0 z
      subst z
      rw [iv, unf, if_pos (hT.mp rfl)]
      rfl
    · have hn : ¬ (g % period ≠ 0 ∨ Lacks (g / period) period (gaps.take i)) := fun z => by
        have := hT.mpr z
        cases this
      refine g_dput (ks := gaps.take i) rfl (by rw [List.length_take]; omega) hnot (x_var rfl) x_bl ?_
      have et : gaps.take (i + 1) = gaps.take i ++ [g] := take_more hg
      rw [← et]
      refine nx' _ ⟨_, rfl, rfl, ?_⟩
      rw [iv, unf, if_neg hn, et]
  · rintro env ⟨e3, rfl, h3, iv⟩
    refine g_retN (dn.imp ?_)
    intro d0 z
    subst z
    rw [iv, List.length_map, List.drop_length]
    rfl
end
end Y

set_option Elab.async false
set_option linter.all false
set_option maxRecDepth 100000
set_option maxHeartbeats 4000000
/-! Y10: sorted(set(..)), the dict of flags by a comprehension, an object's own fields, Lengths(..). -/
namespace Y
open PySem L2
/-- the strictly rising list of the same members -/
def Srt (S xs : List Int) : Prop := S.Pairwise (· < ·) ∧ ∀ k, k ∈ S ↔ k ∈ xs
theorem Srt.nodup {S xs : List Int} (h : Srt S xs) : S.Nodup := h.1.imp fun z => by omega
section
variable {C : Ctx} {M : List Addr} {env : List En} {σ : L2.St} {H H' : Hp} {te ta tb : TE} {P S : Y.D → Prop} {K : PySem.W.Frag} {X : Cx}
theorem x_sortedSet {w : World} {ns : List Int} (h : Ev te env (Is (.lst (ns.map Y.D.int)))) (hl : ns.length ≤ 1000) (hs : ∃ L : List Int, (∀ k, k ∈ ns → k ∈ L) ∧ L.length < 64) :
    Ev (tCB (rSortedSet w) (tCons (tCB (rSetL2 K w) (tCons te tNil)) tNil)) env (fun d => ∃ S, Srt S ns ∧ d = .lst (S.map Y.D.int)) := fun C M σ H A Q q =>
  h C M σ H A _ fun v d H1 p1 A1 e1 r1 => by
    subst p1
    obtain ⟨p, vs, rfl, hn, hp, rl⟩ := r1.lst_inv
    have ev := rl.ints
    subst ev
    refine ⟨p, ns, rfl, .inl (.inl hp), hl, fun l c hl0 hc => ?_⟩
    obtain ⟨L, hL, h64⟩ := hs
    refine ⟨l, _, c, rfl, upd_same, Nat.lt_of_le_of_lt (hc L hL) h64, fun S p2 h1 h2 h3 h4 => ?_⟩
    have a1 : All H1 (upd H1 l (SetO w l (fun j => decide (j ∈ ns)) c)) := All.new hl0
    have a2 := a1.trans (All.new (o := .lst (S.map V.int)) h4)
    have A2 := A1.all a2
    exact q _ _ _ ⟨S, ⟨h1, fun k => (h2 k).trans decide_eq_true_iff⟩, rfl⟩ A2 (e1.trans a2.ext) (Rep.newL (A1.all a1).tr h4 (RepL.of_ints S))
theorem x_dc {wi : TI} {j : Nat} {ns : List Int} (h : EvI wi env (ns.map Y.D.int)) (hj : j < env.length) (hnd : ns.Nodup) (hx : ns.length ≤ 16000000) : Ev (tDc wi (gName j) tYes (tVar j) (tC (.bl true)) [j]) env (Is (.dct (dk ns))) := fun C M σ H A Q q =>
  h C M σ H A _ fun J St H1 A1 e1 S s1 => fun Dl hD => by
    have nD : Dl ∉ M := new_not A1.tr hD
    have mono : ∀ i, Ext M H1 (upd H1 Dl (.dK (vk (ns.take i)))) := fun i => Ext.new hD
    refine ⟨fun i m H' => m = ns.length - i ∧ i ≤ ns.length ∧ H' = upd H1 Dl (.dK (vk (ns.take i))), ⟨ns.length, by simp, Nat.zero_le _, rfl⟩, ?_⟩
    rintro i m H2 ⟨rfl, hi, rfl⟩
    have st2 := S.mono _ _ _ (mono i) s1
    by_cases hlt : i < ns.length
    · have hxs : i < (ns.map Y.D.int).length := by rw [List.length_map]; exact hlt
      refine .inr ⟨S.go _ _ i st2 hxs, fun H' => i + 1 ≤ ns.length ∧ H' = upd H1 Dl (.dK (vk (ns.take (i + 1)))), fun H' ⟨h1, h2⟩ => ⟨ns.length - (i + 1), by omega, rfl, h1, h2⟩, fun x H3 y => ?_⟩
      obtain ⟨rfl, rx⟩ := S.yld _ _ i x H3 st2 y
      have rd := rx _ (List.getElem?_eq_getElem hxs)
      rw [List.getElem_map] at rd
      cases rd.int_inv
      have e1 : ((wipe σ [j]).set j (some (V.int ns[i]))) = σ.set j (some (V.int ns[i])) := by
        show (σ.set j none).set j _ = _
        rw [List.set_set]
      refine ⟨by show wipe ((wipe σ [j]).set j _) [j] = _; rw [e1]; show (σ.set j _).set j none = σ.set j none; rw [List.set_set], ?_⟩
      rw [e1]
      show ∃ v, (σ.set j (some (V.int ns[i])))[j]? = some (some v) ∧ _
      have hsl : j < σ.length := by rw [A1.len]; exact hj
      have hg : ns[i]? = some ns[i] := List.getElem?_eq_getElem hlt
      have hnot : ns[i] ∉ ns.take i := fun z => by
        obtain ⟨k, hk, ek⟩ := List.mem_iff_getElem.mp z
        rw [List.length_take] at hk
        rw [List.getElem_take] at ek
        exact absurd ((List.getElem_inj hnd).mp ek) (by omega)
      refine ⟨_, List.getElem?_set_self hsl, _, .inl ns[i], rfl, upd_same, ?_, hlt, ?_⟩
      · unfold vk
        rw [List.length_map, List.length_take]
        exact Nat.lt_of_le_of_lt (Nat.min_le_left ..) (Nat.lt_of_lt_of_le hlt (Nat.le_trans hx (by decide)))
      · rw [vk_put hnot, take_more hg]
        funext b
        by_cases hb : b = Dl
        · rw [hb, upd_same, upd_same]
        · rw [upd_ne hb, upd_ne hb, upd_ne hb]
    · have ei : i = ns.length := by omega
      subst ei
      refine .inl ⟨by have z := S.stop _ _ st2; rw [List.length_map] at z; exact z, ?_⟩
      rw [List.take_length]
      exact q _ _ _ rfl (A1.all (All.new hD)) (e1.trans (Ext.new hD)) (.dct nD upd_same (dk_of ns))
/-- the same slots seen from a new entry -/
theorem At.anew (A : At C M env σ H) (e : Ext M H H') (t : ∀ a ∈ M, H' a ≠ none) (hn : ∀ (i : Nat) (e : En), env[i]? = some e → e.addr = none) : At ⟨M, H', [], []⟩ M env σ H' where
  len := A.len
  sl := fun i en h x hx => by
    have s := A.sl i en h x hx
    have z := hn i en h
    cases en with
    | no => trivial
    | im d =>
      obtain ⟨v, h1, h2⟩ := s
      exact ⟨v, h1, h2.mono e⟩
    | mu p l => cases z
    | md p l => cases z
    | jar p => cases z
  nd := fun i j en u p h1 h2 h3 h4 => by
    rw [hn i en h1] at h3
    cases h3
  gh := fun q hq => nomatch hq
  tr := t
  sub := fun _ h => h
  fresh := fun a h n => absurd h n
  ext := Ext.refl _ _
  keep := fun _ _ _ => rfl
theorem im_all : ∀ {env : List En}, (env.all fun e => match e with | .no => true | .im _ => true | _ => false) = true → ∀ (i : Nat) (e : En), env[i]? = some e → e.addr = none := fun h i e he => by
  have z := List.all_eq_true.mp h e (List.mem_of_getElem? he)
  cases e with
  | no => rfl
  | im d => rfl
  | mu p l => cases z
  | md p l => cases z
  | jar p => cases z
/-- self.f = e within __init__, self at x in slot 0 -/
theorem g_self {D : Ends} {x Cl dx : Addr} {f : Str} {fs : List (Str × V)} {d : Y.D} (A : At ⟨M, H, [], []⟩ M env σ H) (hn : ∀ (i : Nat) (e : En), env[i]? = some e → e.addr = none) (h0 : env[0]? = some (.im (.ref x))) (hx : x ∈ M) (hX : H x = some (.ins Cl dx fs)) (c : Cls K Cl) (n : NoAttr K Cl f) (hl : fs.length < 1000)
    (h : Ev te env (Is d)) (k : ∀ H' v, At ⟨M, H', [], []⟩ M env σ H' → H' x = some (.ins Cl dx (putF f v fs)) → Rep M H' v d → Ext M H H' → (∀ b o, b ≠ x → H b = some o → H' b = some o) → D.nx σ H') : sFld K (tVar 0) te f D σ H :=
  h _ _ _ _ A _ fun v d0 H1 p1 A1 e1 r1 => by
    subst p1
    obtain ⟨v0, hv0, r0⟩ := A1.get h0
    cases r0.ref_inv
    have al := A1.alls
    have x1 := al x _ hX
    refine ⟨_, hv0, x, Cl, dx, fs, rfl, x1, c, n, hl, ?_⟩
    have e2 : Ext M H1 (upd H1 x (.ins Cl dx (putF f v fs))) := Ext.at hx
    refine k _ v (A1.anew e2 (fun a ha => ?_) hn) upd_same (r1.mono e2) (e1.trans e2) fun b o hb ho => ?_
    · by_cases z : a = x
      · rw [z, upd_same]
        exact fun z => nomatch z
      · rw [upd_ne z]
        exact A1.tr a ha
    · rw [upd_ne hb]
      exact al b o ho
end
/-! ### Lengths -/
def lenD (Cl : Addr) (p : Int) (gs : List Int) : D := .obj Cl [("period", .int p), ("gaps", .tup (gs.map D.int)), ("_known", .dct (dk gs))]
inductive GK where
  | lst | tup | dflt (T : Addr)
def GK.d (gs : List Int) : GK → D
  | .lst => .lst (gs.map D.int)
  | .tup => .tup (gs.map D.int)
  | .dflt T => .ref T
structure InitA where
  p : Int
  gs : List Int
  k : GK
/-- what the arguments must keep to -/
def InitA.Ok (K : PySem.W.Frag) (a : InitA) : Prop := 1 ≤ a.p ∧ a.p < 1000000000 ∧ (∀ g ∈ a.gs, 1 ≤ g ∧ g < 1000000000) ∧ a.gs.length ≤ 1000 ∧ (∃ L : List Int, (∀ k, k ∈ a.gs → k ∈ L) ∧ L.length < 64) ∧
  match a.k with
  | .dflt T => a.gs = [] ∧ ∀ H, SqT K H T []
  | _ => True
def spInit (K : PySem.W.Frag) (Cl CB : Addr) : Sp := fun vs H Q E => ∃ (M : List Addr) (x dx : Addr) (a : InitA) (ws : List V), vs = .ref x :: ws ∧ x ∈ M ∧ H x = some (.ins Cl dx []) ∧ RepL M H ws [.int a.p, a.k.d a.gs] ∧ (∀ y ∈ M, H y ≠ none) ∧ a.Ok K ∧
  (∀ S, Srt S a.gs → wrongF a.p [] S = none → ∀ H', (∀ b o, b ≠ x → H b = some o → H' b = some o) → (∀ N : List Addr, (∀ b ∈ N, b ∈ M) → x ∉ N → Rep N H' (.ref x) (lenD Cl a.p S)) → Q .non H') ∧
  (∀ S g, Srt S a.gs → wrongF a.p [] S = some g → ∀ d H', (∀ b o, H b = some o → H' b = some o) → H d = none → H' d = some (.xd [("gap", .int g)]) → E (.ref CB) (some d) H')
section
variable {M : List Addr} {env : List En} {t : TA} {K : PySem.W.Frag} {Cl CB T0 : Addr}
theorem make_core {H1 : Hp} {C : Ctx} {σ : L2.St} {a : InitA} {ws : List V} {E : XK} {Q : VK} (A1 : At C M env σ H1) (r : RepL M H1 ws [.int a.p, a.k.d a.gs]) (ok : a.Ok K)
    (q : ∀ v H2 S, Srt S a.gs → wrongF a.p [] S = none → All H1 H2 → Rep M H2 v (lenD Cl a.p S) → Q v H2)
    (qe : ∀ S g, Srt S a.gs → wrongF a.p [] S = some g → ∀ d H2, All H1 H2 → H1 d = none → H2 d = some (.xd [("gap", .int g)]) → E (.ref CB) (some d) H2)
    {x dx : Addr} (hx : H1 x = none) (hdx : H1 dx = none) (ne : dx ≠ x) : spInit K Cl CB (.ref x :: ws) (upd (upd H1 dx (.own x)) x (.ins Cl dx [])) (fun v H2 => v = .non ∧ Q (.ref x) H2) E := by
  have a1 : All H1 (upd H1 dx (.own x)) := All.new hdx
  have hx2 : (upd H1 dx (.own x)) x = none := by rw [upd_ne (Ne.symm ne)]; exact hx
  have a2 : All H1 (upd (upd H1 dx (.own x)) x (.ins Cl dx [])) := a1.trans (All.new hx2)
  have nx : x ∉ M := new_not A1.tr hx
  refine ⟨x :: M, x, dx, a, ws, rfl, List.mem_cons_self, upd_same, (r.cons' hx).mono a2.ext, fun y hy => ?_, ok, fun S h1 h2 H' h3 h4 => ⟨rfl, ?_⟩, fun S g h1 h2 d H' h3 h4 h5 => ?_⟩
  · rcases List.mem_cons.mp hy with rfl | hy
    · rw [upd_same]
      exact fun z => nomatch z
    · cases e : H1 y with
      | none => exact absurd e (A1.tr y hy)
      | some o =>
        rw [a2 y o e]
        exact fun z => nomatch z
  · exact q _ H' S h1 h2 (fun b o hb => h3 b o (fun z => by rw [z, hx] at hb; cases hb) (a2 b o hb)) (h4 M (fun b hb => List.mem_cons_of_mem _ hb) nx)
  · refine qe S g h1 h2 d H' (fun b o hb => h3 b o (a2 b o hb)) ?_ h5
    cases e : H1 d with
    | none => rfl
    | some o =>
      rw [a2 d o e] at h4
      cases h4
theorem x_make {a : InitA} (h : EvA t env (Is [.int a.p, a.k.d a.gs])) (ok : a.Ok K) (good : ∀ S, Srt S a.gs → wrongF a.p [] S = none) : Ev (tMake Cl (spInit K Cl CB) [] L2.E0 t) env (fun d => ∃ S, Srt S a.gs ∧ d = lenD Cl a.p S) := fun C M σ H A Q q =>
  h C M σ H A _ fun ws ds H1 p1 A1 e1 r1 x dx hx hdx ne => by
    rw [List.append_nil]
    rw [p1] at r1
    exact make_core A1 r1 ok (fun v H2 S h1 h2 al rp => q v _ H2 ⟨S, h1, rfl⟩ (A1.all al) (e1.trans al.ext) rp) (fun S g h1 h2 => by rw [good S h1] at h2; cases h2) hx hdx ne
theorem x_make1 {p : Int} (h : EvA t env (Is [.int p])) (ok : InitA.Ok K ⟨p, [], .dflt T0⟩) : Ev (tMake Cl (spInit K Cl CB) [.ref T0] L2.E0 t) env (Is (lenD Cl p [])) := fun C M σ H A Q q =>
  h C M σ H A _ fun ws ds H1 p1 A1 e1 r1 x dx hx hdx ne => by
    rw [p1] at r1
    refine make_core (a := ⟨p, [], .dflt T0⟩) A1 (r1.append (.cons (.ref T0) .nil)) ok (fun v H2 S h1 h2 al rp => ?_) (fun S g h1 h2 => ?_) hx hdx ne
    · have e : S = [] := List.eq_nil_iff_forall_not_mem.mpr fun k hk => by
        have := (h1.2 k).mp hk
        cases this
      subst e
      exact q v _ H2 rfl (A1.all al) (e1.trans al.ext) rp
    · have e : S = [] := List.eq_nil_iff_forall_not_mem.mpr fun k hk => by
        have := (h1.2 k).mp hk
        cases this
      subst e
      cases h2
theorem x_makeK {a : InitA} (h : EvA t env (Is [.int a.p, a.k.d a.gs])) (ok : a.Ok K) (good : ∀ S, Srt S a.gs → wrongF a.p [] S = none) {g : List V → List V → List V} (hg : ∀ x ws, g [x] ws = x :: ws) : Ev (tMakeK Cl 0 2 (spInit K Cl CB) g L2.E0 tNil t) env (fun d => ∃ S, Srt S a.gs ∧ d = lenD Cl a.p S) := fun C M σ H A Q q =>
  h C M σ H A _ fun ws ds H1 p1 A1 e1 r1 => by
    rw [p1] at r1
    refine ⟨rfl, r1.length, fun x dx hx hdx ne => ?_⟩
    rw [hg]
    exact make_core A1 r1 ok (fun v H2 S h1 h2 al rp => q v _ H2 ⟨S, h1, rfl⟩ (A1.all al) (e1.trans al.ext) rp) (fun S g h1 h2 => by rw [good S h1] at h2; cases h2) hx hdx ne
end
end Y

set_option Elab.async false
set_option linter.all false
set_option maxRecDepth 100000
set_option maxHeartbeats 4000000
/-! Y11: isinstance. -/
namespace Y
open PySem L2
/-- what isinstance asks of the own class -/
structure IsiC (K : PySem.W.Frag) (C : Addr) : Prop where
  cl : Cls K C
  ca : PySem.W.findIn K (.ref C) "__class__" = some (some (.builtin "object.__class__"))
  cn : PySem.W.specialIn K (.builtin "object.__class__") "__get__" = some (some (.builtin "getset_descriptor.__get__"))
  ct : PySem.W.takesIn K (.builtin "object.__class__") = some true
  cm : PySem.W.mroIn K C (.type "object") = some true
def D.ty : D → Option String
  | .non => some "NoneType"
  | .bl _ => some "bool"
  | .int _ => some "int"
  | .str _ => some "str"
  | .lst _ => some "list"
  | .tup _ => some "tuple"
  | .dct _ => some "dict"
  | _ => none
section
variable {C : Ctx} {M : List Addr} {env : List En} {σ : L2.St} {H H' : Hp} {te ta tb : TE} {P S : Y.D → Prop} {K : PySem.W.Frag} {d : Y.D}
theorem ty_of {v : V} {n : String} (r : Rep M H v d) (h : d.ty = some n) : TyX K H v (.type n) := by
  cases r with
  | non => cases h; exact .base .non
  | bl b => cases h; exact .base (.bl b)
  | int b => cases h; exact .base (.int b)
  | str b => cases h; exact .base (.str b)
  | ref a => cases h
  | lst a b c => cases h; exact .base (.lst b)
  | tup a b c => cases h; exact .base (.tup b)
  | dct a b c => cases h; exact .base (.dK b)
  | obj a b c => cases h
  | exc a b => cases h
theorem e_isi {n m : String} {b : Bool} (h : Ev te env (Is d)) (hd : d.ty = some m) (hk : kitB m n = some b) : Ev (tCB (rIsi K) (tCons te (tCons (tC (.ty n)) tNil))) env (Is (.bl b)) := fun C M σ H A Q q =>
  h C M σ H A _ fun v d0 H1 p1 A1 e1 r1 => by
    subst p1
    exact ⟨v, .ty n, .type m, .type n, b, rfl, .ty n, ty_of r1 hd, kit_ty hk, q _ _ H1 rfl A1 e1 (.bl b)⟩
theorem e_isiC {Cl : Addr} {m : String} {b : Bool} (h : Ev te env (Is d)) (hd : d.ty = some m) (hk : PySem.W.kitOne K (.type m) (.ref Cl) = some b) : Ev (tCB (rIsi K) (tCons te (tCons (tC (.ref Cl)) tNil))) env (Is (.bl b)) := fun C M σ H A Q q =>
  h C M σ H A _ fun v d0 H1 p1 A1 e1 r1 => by
    subst p1
    exact ⟨v, .ref Cl, .type m, .ref Cl, b, rfl, .own Cl, ty_of r1 hd, hk, q _ _ H1 rfl A1 e1 (.bl b)⟩
theorem e_isiO {Cl : Addr} {fs : List (Str × Y.D)} (I : IsiC K Cl) (h : Ev te env (Is (.obj Cl fs))) : Ev (tCB (rIsi K) (tCons te (tCons (tC (.ref Cl)) tNil))) env (Is (.bl true)) := fun C M σ H A Q q =>
  h C M σ H A _ fun v d0 H1 p1 A1 e1 r1 => by
    subst p1
    obtain ⟨p, dx, vs, rfl, hn, hp0, rf⟩ := id r1.obj_inv
    refine ⟨.ref p, .ref Cl, .ref Cl, .ref Cl, true, rfl, .own Cl, .base (.ins hp0 I.cl I.ca I.cn I.ct I.cm), ?_, q _ _ H1 rfl A1 e1 (.bl true)⟩
    unfold PySem.W.kitOne
    rw [if_pos (by simp)]
/-- isinstance(x, (T1, T2)) -/
theorem e_isi2 {n1 n2 m : String} {b1 b2 : Bool} (h : Ev te env (Is d)) (hd : d.ty = some m) (h1 : kitB m n1 = some b1) (h2 : kitB m n2 = some b2) :
    Ev (tCB (rIsiT K) (tCons te (tCons (tTup (tCons (tC (.ty n1)) (tCons (tC (.ty n2)) tNil))) tNil))) env (Is (.bl (b1 || b2))) := fun C M σ H A Q q =>
  h C M σ H A _ fun v d0 H1 p1 A1 e1 r1 => by
    subst p1
    refine ⟨by show 2 ≤ sizeLine; decide, fun t ht => ?_⟩
    have a1 : All H1 (upd H1 t (.tup [.ty n1, .ty n2])) := All.new ht
    refine ⟨v, t, [.ty n1, .ty n2], .type m, [.type n1, .type n2], b1 || b2, rfl, upd_same, .cons (.ty n1) (.cons (.ty n2) .nil), ty_of (r1.mono a1.ext) hd, ?_, q _ _ _ rfl (A1.all a1) (e1.trans a1.ext) (.bl _)⟩
    refine kitAny_cons (kit_ty h1) (fun e => ?_) (fun e => by rw [e]; rfl)
    refine kitAny_cons (kit_ty h2) (fun e2 => ?_) (fun e2 => by rw [e2, Bool.or_true])
    rw [e, e2]
    exact kitAny_nil
end
end Y

set_option Elab.async false
set_option linter.all false
set_option maxRecDepth 100000
set_option maxHeartbeats 4000000
/-! Y15: exceptions whose context is None: made, let out, caught by the first of several clauses. -/
namespace Y
open PySem PySem.Spec PyProof.Rows L2
theorem passN {X : Cx} : Passes (L2N.CX X.prog X.w) X L2.E0 := fun _ _ _ _ _ _ _ h => by
  obtain ⟨_, _, _, _, _, _, _, _, _, _, _, _, z⟩ := h
  exact z.elim
/-- C(e, ..) of an exception class with its own __init__ -/
theorem pmkN {X : Cx} {CX0' : CXT} {x : Str} {C fI : Addr} {k : Nat} {fd : FuncData} {ps : List Str} {sp : Sp} {e : Expr} {es : List Expr} {ta : TA} {p pos : Pos} (T : OexC X.K C) (iC : PySem.W.findIn X.K (.ref C) "__init__" = some (some (.ref fI)))
    (tI : PySem.W.typeIn X.K (.ref fI) = some (.type "function")) (F1 : FnOk X.prog X.w X.K X.mg X.base CX0' k fI fd ps sp) (room : Room (k + 1) X.A) (bi : Binds X.K fd ps []) (px : Passes CX0' X (fun _ _ _ => False)) (gl : Gl X x) (mC : X.mg x = some (.ref C)) (pa : PA X (e :: es) ta)
    (hdb : (x == ("__debug__" : Str)) = false := by decide) (st : starEach (e :: es) X.env = (false, eval e X.env) :: starEach es X.env := by rfl) (pl : (backTo pos (starEach es X.env)).any (·.1) = false := by rfl) :
    L2N.PMk X (.Call (.Name x p) (e :: es) [] pos) (tMkO C sp [] ta) := by
  intro pins s σ H Q I rd
  obtain ⟨c1, c2, c3, c4, c5, c6, c7, c8, c9, c10, c11, c12, c13, c14, c15, cls, ref⟩ := T.cls
  refine wpAny_Call_Name_kw (ld_glob I gl mC ?_ hdb)
  refine PySem.W.callWith_K (h₀ := X.base) I.ok.mod.kin T.kC (thn (pa.run pos pins s σ H _ I rd) fun us s1 ⟨vs, H1, I1, rv, few, rd1⟩ => ⟨I1.kIn, ?_⟩) st pl
  obtain ⟨h1, g1, d1, t1, o1⟩ := s1
  have le : h1.objs.size ≤ h1.objs.size + 1 := Nat.le_succ _
  have new : H1 (h1.objs.size + 1) = none := I1.hok.fresh le
  have rd2 := rd1 (h1.objs.size + 1) new
  rw [List.append_nil] at rd2
  have keep : ∀ b o, h1.get? b = some o → ((h1.push (PySem.W.kdv_tup us)).push (PySem.HandSPX.excO C h1.objs.size)).get? b = some o := fun b o q => Heap.get?_push_of_some _ (Heap.get?_push_of_some _ q)
  have I2 : Inv X pins σ (upd H1 (h1.objs.size + 1) (exo (h1.objs.size + 1) C none)) ⟨(h1.push (PySem.W.kdv_tup us)).push (PySem.HandSPX.excO C h1.objs.size), g1, d1, t1, o1⟩ := by
    refine I1.laid (t' := t1) (a := h1.objs.size + 1) (o := exo (h1.objs.size + 1) C none) keep le (exo_ok (t1 := h1.objs.size) ?_)
    heap_get
  have rv2 : Vals (V.ref (h1.objs.size + 1) :: vs) (Value.ref (h1.objs.size + 1) :: us) := .cons rfl rv
  have len2 : (Value.ref (h1.objs.size + 1) :: us).length = ps.length := by rw [← rv2.length, F1.len _ _ _ _ rd2]
  have fits : us.length ≤ sizeLine := by
    have := Paired.length rv
    rw [sizeLine_eq]
    omega
  have bnd := bi _ (Value.ref (h1.objs.size + 1) :: us) I2.kIn (by rw [List.append_nil]; exact len2)
  rw [List.append_nil] at bnd
  refine wpAny_call (PySem.HandSPX.call_own F.excBase_ValueError (fun Y => PySem.HandSPX.refsVE_contains Y _ ref) (I1.kIn _ _ cls) (PySem.W.looks_findIn I1.kIn iC) (fun self => PySem.W.bind_fn I1.kIn self tI) fits
    (codeAny_mono (F1.run _ X.stack _ _ ⟨Value.ref (h1.objs.size + 1) :: us, []⟩ _ _ _ (fun _ _ _ => False) (room.make C us []) (I2.env0.make C us []) bnd rv2 rd2) fun r s2 post => ?_))
  cases r with
  | error er => exact px pins σ _ _ er s2 I2 post
  | ok fl =>
    cases fl with
    | ret u =>
      obtain ⟨v, H2, os2, bare2, un2, hok2, rel, ev, d, fs, ea, ed, nd, fin⟩ := post
      subst ev
      obtain ⟨h2, g2, d2, t2, o2⟩ := s2
      obtain ⟨t0, G, J, kG, ge, hoe, na⟩ := mk_end0 (d2 := d2) (t2 := t2) I1 le keep un2 hok2 os2 bare2 ea ed nd
      refine ⟨rel, h1.objs.size + 1, _, _, ⟨G, g2, d2, t2, o2⟩, _, .ref C, some d, rfl, J, kG, ge, hoe, ⟨rfl, rfl, fun ws hw => ?_⟩, rfl, rfl, na, rfl, bare2, raises_own T.exC T.tyC, fin⟩
      cases hw
      rfl
    | next => exact False.elim post
    | brk => exact False.elim post
    | cont => exact False.elim post
/-- what the first clause wishes: it is the one that catches -/
def wAs1 (K : PySem.W.Frag) (c : Value) (i : Nat) (ts : Addr → Value → Option Addr → TS) (D : Ends) : WX := fun cls d σ H =>
  PySem.W.exmOne K cls c = some true ∧ ∀ a, H a = none → ts a cls d { nx := fun σ' H' => D.nx (σ'.set i none) H', rt := D.rt, bk := fun σ' H' => D.bk (σ'.set i none) H', ct := fun σ' H' => D.ct (σ'.set i none) H' } (σ.set i (some (.ref a))) H
/-- try: body, except x as n: suite, except ..; what the body raises is of the first clause's class -/
theorem ps_try_as1 {X : Cx} {x n : Str} {c : Value} {i : Nat} {body suite : List Stmt} {b0 : Stmt} {np pos pos' : Pos} {rest : List ExceptHandler} {tb : WX → TS} {ts : Addr → Value → Option Addr → TS} (hs : X.stack = X.env :: X.outer) (hf : X.env.frame = some X.env.locals) (nd : X.N.Nodup) (hi : X.N[i]? = some n)
    (hln : X.env.kindOf n = some .local) (hc : Names X x c)
    (hb : ∀ (W : WX) (pn : List (Addr × Obj)) (xe : Value → Shared → Prop), L2N.Takes (X.tr pn xe) W → PassesOwn (model X.prog X.w) X.A X.env xe → PSs (X.tr pn xe) body (tb W))
    (hsu : ∀ (a : Addr) (oe : Obj) (cls : Value) (d : Option Addr) (pn : List (Addr × Obj)), L2N.Zn cls d oe → (∃ vs, oe.data = .fields vs) → PSs (X.suite a ((a, oe) :: pn)) (b0 :: suite) (ts a cls d)) :
    PS X (.Try body (.ExceptHandler (some (.Name x np)) (some n) (b0 :: suite) pos' :: rest) [] [] pos) (fun D σ H => tb (wAs1 X.K c i ts D) D σ H) := by
  refine ⟨fun pins s σ H D I rd => ?_⟩
  have ok := I.ok
  have frames : X.A.frames = some (X.env :: X.outer) := by rw [ok.frames, hs]
  have loc : Loc X.env.scope n := .inl hln
  refine wpAny_Try_except ?_
  refine wpAny_mono ((hb (wAs1 X.K c i ts D) (X.pn ++ pins) (fun e z1 => wpAny (model X.prog X.w) X.A (noteFrame e X.env) (fun _ z2 => wpAny (model X.prog X.w) X.A (setFlight e none) (fun _ z3 =>
    wpAny (model X.prog X.w) X.A (handleBy e X.env (.ExceptHandler (some (.Name x np)) (some n) (b0 :: suite) pos' :: rest)) (SP X pins D) X.xe z3) X.xe z2) X.xe z1) (fun u s2 air => ?_) PassesOwn.looking).run [] s σ H D (I.toTry _) rd) (fun f s1 post => ?_) (fun e s1 he => he)
  · obtain ⟨a, B, sI, pins1, σ1, H1, cls, d, rfl, J1, nb, up, sky, na, os, ag, hit, go⟩ := air
    have J : Inv X pins σ1 H1 sI := J1.ofTry ok
    have sky1 : L2.Sky B (X.env :: X.outer) a (L2N.Zn cls d) X.env.locals s2.heap := by rw [← hs]; exact sky
    show wpAny (model X.prog X.w) X.A (noteFrame (Value.ref a) X.env) _ _ _
    refine L2N.Sky.land L2N.Zn.steady frames hf sky1 fun h3 fl3 up3 => ?_
    have J3 : Inv X pins σ1 H1 { s2 with heap := h3 } := J.landed nb fl3.1 (up.trans up3) os ag
    obtain ⟨oe3, vs3, at3, z3, dat3⟩ := fl3.there
    have nfr : a ∉ frs (X.env :: X.outer) := fun hm => by
      obtain ⟨_, o', e', nof⟩ := fl3.2.2.1.mem hm
      rw [at3] at e'
      cases e'
      exact nof _ dat3
    have nL : a ≠ X.env.locals := fun z => nfr (List.mem_filterMap.mpr ⟨X.env, List.mem_cons_self, by rw [hf, z]⟩)
    have nF : a ∉ X.fs := fun hm => by
      obtain ⟨e, he, q⟩ := List.mem_filterMap.mp hm
      exact nfr (List.mem_filterMap.mpr ⟨e, List.mem_cons_of_mem _ he, q⟩)
    have S3 := J3.suite at3 dat3 na nL nF
    refine wpAny_handleBy_cons (codeAny_handlers_test ?_) (by intro q; cases q)
    have ty : PySem.W.Looks (model X.prog X.w) h3 (typeOf (.ref a)) cls := fun A Q E s k q => wpAny_typeOf_ref (k _ _ at3) (by rw [z3.1]; exact q)
    have mt := PySem.W.exm_one (M := model X.prog X.w) (J3.kIn) ty hit
    have name : ∀ {Q : Value → Shared → Prop} {E : Value → Shared → Prop}, Q c { s2 with heap := h3 } → wpAny (model X.prog X.w) (X.A.mark (some (.ref a))) (eval (.Name x np) X.env) Q E { s2 with heap := h3 } := fun {Q E} q => by
      obtain ⟨g1, g2, m1 | ⟨m1, m2, m3⟩⟩ := hc
      · exact ld_glob (X := X.suite a ((a, oe3) :: (X.pn ++ pins))) S3 g1 m1 q g2
      · exact ld_blt (X := X.suite a ((a, oe3) :: (X.pn ++ pins))) S3 g1 m1 m2 q m3 g2
    refine name (mt.here ?_)
    refine codeAny_handlers_suite_as ?_
    refine HandSPX.lands_againZ fl3 fun h4 fl4 up4 => ?_
    have J4 : Inv X pins σ1 H1 { s2 with heap := h4 } := J.landed nb fl4.1 ((up.trans up3).trans up4) os ag
    obtain ⟨oe4, vs4, at4, z4, dat4⟩ := fl4.there
    have S4 := J4.suite at4 dat4 na nL nF
    refine store_ok (X := X.suite a ((a, oe4) :: (X.pn ++ pins))) (v := .ref a) S4 nd hi loc rfl (fun s5 S5 => ?_) (.inr hln)
    refine wpAny_mono ((hsu a oe4 cls d (X.pn ++ pins) z4 ⟨_, dat4⟩).run [] s5 _ H1 _ S5 (go a na)) (fun f s6 post => ?_) (fun _ _ z => False.elim z)
    have leave : ∀ {σ6 : L2.St} {H6 : Hp} {Q : Shared → Prop}, Inv (X.suite a ((a, oe4) :: (X.pn ++ pins))) [] σ6 H6 s6 → (∀ s7, Inv X pins (σ6.set i none) H6 s7 → Q s7) →
        wpAny (model X.prog X.w) X.A (do bindName X.env n .none; unbindBehindTheSuite X.env n pos') (fun _ s7 => Q s7) X.xe s6 := fun {σ6 H6 Q} S6 hq => gone_ok (S6.unsuite ok) nd hi hln hq
    cases f with
    | next =>
      obtain ⟨σ6, H6, S6, q6⟩ := post
      exact leave S6 fun s7 J7 => ⟨_, _, J7, q6⟩
    | brk =>
      obtain ⟨σ6, H6, S6, q6⟩ := post
      exact leave S6 fun s7 J7 => ⟨_, _, J7, q6⟩
    | cont =>
      obtain ⟨σ6, H6, S6, q6⟩ := post
      exact leave S6 fun s7 J7 => ⟨_, _, J7, q6⟩
    | ret u =>
      obtain ⟨v6, σ6, H6, S6, r6, q6⟩ := post
      exact leave S6 fun s7 J7 => ⟨_, _, _, J7, r6, q6⟩
  · cases f with
    | next =>
      obtain ⟨σ1, H1, J1, q⟩ := post
      exact wpAny_execs_nil ⟨σ1, H1, J1.ofTry ok, q⟩
    | brk =>
      obtain ⟨σ1, H1, J1, q⟩ := post
      exact ⟨σ1, H1, J1.ofTry ok, q⟩
    | cont =>
      obtain ⟨σ1, H1, J1, q⟩ := post
      exact ⟨σ1, H1, J1.ofTry ok, q⟩
    | ret u =>
      obtain ⟨v, σ1, H1, J1, r, q⟩ := post
      exact ⟨v, σ1, H1, J1.ofTry ok, r, q⟩
end Y

set_option Elab.async false
set_option linter.all false
set_option maxRecDepth 100000
set_option maxHeartbeats 4000000
/-! Y16: a list comprehension in a def that is called while an exception is handled; isinstance of that exception. -/
namespace Y
open PySem PySem.Spec PyProof.Rows L2 HotX L2H
section
variable {prog : Program} {w : World} {A : Around} {E : Value → Shared → Prop} {s : Shared}
/-- a list's iterator has no more, while the exception at x1 is handled -/
theorem list_ends_hot {it l x1 : Addr} {i : Nat} {items : Array Value} {Q : Option Value → Shared → Prop} (hot : HotAt A x1 s.heap) (ls : s.heap.IsListIter it l i) (at_ : s.heap.IsList l items) (none_ : items[i]? = none)
    (fin : ∀ h2, (∀ b o, b ≠ it → s.heap.get? b = some o → h2.get? b = some o) → Q none { s with heap := h2 }) : wpAny (model prog w) A (pyNext (.ref it)) Q E s := by
  obtain ⟨oi, gi, ci, di⟩ := id ls
  obtain ⟨ol, gl, _, nl, dl⟩ := at_
  obtain ⟨hd, o1, v1, g1, d1, c1⟩ := hot
  have ne : it ≠ x1 := fun z => by
    subst z
    rw [gi] at g1
    cases g1
    rw [di] at d1
    cases d1
    simp at c1
  unfold pyNext
  refine wpAny_bind (wpAny_attempt (wpAny_callSpecial?_slot (name := Str.ofString "__next__") ls.typeIs slot_listiter_next (wpAny_call_entry slot_listiter_next ls.typeIs entry_listiter_next ?_ (args_listiter_next _))))
  show wpAny _ _ (field (Value.ref it) 0 >>= _) _ _ s
  refine wpAny_bind (wpAny_field gi di (x := .ref l) rfl ?_)
  show wpAny _ _ (if (Value.ref l == Value.none) = true then _ else _) _ _ s
  rw [if_neg (show ¬ ((Value.ref l == Value.none) = true) from Bool.false_ne_true)]
  show wpAny _ _ (field (Value.ref it) 1 >>= _) _ _ s
  refine wpAny_bind (wpAny_field gi di (x := .int i 0) rfl ?_)
  show wpAny _ _ (seqItems? (Value.ref l) >>= _) _ _ s
  refine wpAny_bind (wpAny_seqItems gl dl ?_)
  simp only [Int.toNat_natCast, none_]
  refine wpAny_bind (wpAny_rule (wpAny_bind (wpAny_setField gi di (by simp) ?_)))
  show wpAny _ _ (newExc (Value.type "StopIteration") [] >>= _) _ _ _
  refine wpAny_bind ?_
  simp only [newExc, newTuple]
  refine wpAny_bind (wpAny_newObj_type ?_ (by size_fits))
  refine wpAny_bind (m := firstArgMember _ _) (wpAny_of_eq (a := Value.none) (by first | rfl | (simp only [firstArgMember]; rfl)) ?_)
  refine wpAny_newObj_type ?_ (by size_fits)
  have gx : ∀ (f : Obj → Obj) (a b : Obj), (((s.heap.update it f).push a).push b).get? x1 = some o1 := fun f a b => Heap.get?_push_of_some _ (Heap.get?_push_of_some _ ((Heap.get?_update_other _ _ ne).trans g1))
  refine raiseNew_hot ⟨hd, o1, v1, gx _ _ _, d1, c1⟩ (Nat.ne_of_lt (Heap.lt_size (Heap.get?_push_of_some _ ((Heap.get?_update_other _ _ ne).trans g1)))) (Heap.get?_push_size _ rfl) rfl (by first | (simp; done) | (simp; omega)) ?_
  refine wpAny_bind (wpAny_isInstance (T := "StopIteration") (b := true) ⟨_, Heap.get?_update_self _ (Heap.get?_push_size _ rfl) rfl, rfl⟩ isSubtype_stop ?_)
  refine wpAny_pure (fin _ fun b o hb e => ?_)
  have eb : (s.heap.update it (Obj.mapFields (·.setIfInBounds 0 Value.none))).get? b = some o := (Heap.get?_update_other _ _ (Ne.symm hb)).trans e
  rw [Heap.get?_update_other _ _ (Nat.ne_of_gt (Heap.lt_size (Heap.get?_push_of_some _ eb)))]
  exact Heap.get?_push_of_some _ (Heap.get?_push_of_some _ eb)
end
theorem turn_listH {P : Program} {w : World} {K : PySem.W.Frag} {tg : Expr} (a it : Addr) : TurnH P w K tg (Itl K a) [it] it (fun i h => h.IsListIter it a i) where
  mem := by simp
  obj := fun i h st b hb => by
    obtain rfl : b = it := by simpa using hb
    obtain ⟨o, e, c, d⟩ := st
    exact ⟨o, e, fun v z => by
      rw [d] at z
      cases z⟩
  keep := fun i h h' st k => st.at fun o e => k it (by simp) o e
  item := by
    intro X p1 p2 p3 hot i pins s σ H E I fp st go
    subst p1 p2 p3
    obtain ⟨xs, x, hq, hx⟩ := go
    obtain ⟨its, rv, pl, hz⟩ := I.list hq
    obtain ⟨u, hu, ru⟩ := rv.get hx
    obtain ⟨f0, f1, f2, f3, f4, f5⟩ := fp it (by simp)
    refine wpAny_pyNext_list_item st pl.isList (x := u) (by simpa using hu) fun h2 st2 sb => ?_
    have I1 : Inv X pins σ H { s with heap := h2 } := I.turned (t' := s.toks) (fun b o hb e => (sb.2 b hb).trans e) f0 f1 f3 f4 f5
    obtain ⟨o, e, c, d⟩ := id st2
    exact ⟨u, rfl, go_of (s := { s with heap := h2 }) e c d (by decide) ⟨x, H, I1, ru, ⟨rfl, fun ys hy => by rw [I.list_inj hy hq]; exact hx⟩, st2, fun b hb => (fp b hb).1⟩⟩
  done := by
    intro X p1 p2 p3 hot i pins s σ H E I fp st stop
    subst p1 p2 p3
    obtain ⟨xs, hq, hx⟩ := stop
    obtain ⟨its, rv, pl, hz⟩ := I.list hq
    obtain ⟨f0, f1, f2, f3, f4, f5⟩ := fp it (by simp)
    have hl := rv.length
    obtain ⟨x1, h1⟩ := hot.at I
    exact list_ends_hot h1 st pl.isList (by simp; omega) fun h2 eb => ⟨rfl, I.turned (t' := s.toks) (fun b o hb e => eb b o hb e) f0 f1 f3 f4 f5⟩
  self := fun _ _ _ _ _ st h => wpAny_pyIter_listiter st h
/-- [elt for target in xs if ..], xs a list, while an exception is handled -/
theorem pe_lcH {X : Cx} {elt tg iter : Expr} {ifs : List Expr} {scope : Scope} {own : List (Str × Nat)} {pos : Pos} {tl : TE} {g : TG} {tt : TT} {te : TE} (hot : HotC X) (nd : X.N.Nodup) (pl : PE X iter tl) (ok : BlkOk X.N X.env.scope scope own)
    (pg : ∀ (s : Shared) (H : Hp) (C : Addr) (cl : List (Str × Addr)) (fp : List Addr), PG (X.blk s H scope (compEnvC scope cl C X.env) fp) tg g) (pt : ∀ (s : Shared) (H : Hp) (C : Addr) (cl : List (Str × Addr)) (fp : List Addr), PTs (X.blk s H scope (compEnvC scope cl C X.env) fp) ifs tt)
    (pe : ∀ (s : Shared) (H : Hp) (C : Addr) (cl : List (Str × Addr)) (fp : List Addr), PE (X.blk s H scope (compEnvC scope cl C X.env) fp) elt te) (hs : ∀ x, foldedSetIterable iter X.env x = pure x := by intro _; rfl) :
    PE X (.ListComp elt [⟨tg, iter, ifs, 0⟩] scope pos) (tLc (iList X.K tl) g tt te (own.map (·.2))) := by
  refine ⟨fun pins s σ H Q I rd => ?_⟩
  rw [eval_ListComp]
  have cl0 : ∀ y ∈ scope.names, y.2 = .free → ∃ c, X.env.cells.lookup y.1 = some c := fun y hy e => (ok.free y hy e).elim (fun k => I.ok.has _ (.inl k)) fun k => I.ok.has _ (.inr k)
  refine wpAny_comprehension_free (use := none) rfl hs (closure_ok cl0) ok.kind (fun y hy e => by rw [ok.uniq y hy, e]) (thn (pl.run pins s σ H _ I rd) fun xv s1 ⟨x, H1, I1, rx, a, ex, ⟨xs0, sq0⟩, q⟩ => ?_)
  subst ex
  cases rx
  obtain ⟨its0, rv0, pl0, hz0⟩ := I1.list sq0
  refine wpAny_pyIter_list pl0.isList ?_
  -- the iterator, the new list
  generalize eit : s1.heap.objs.size = it
  have I2 : Inv X pins σ H1 { s1 with heap := s1.heap.push { cls := .type "list_iterator", data := .fields #[.ref a, .int 0 0] } } := I1.kept (t' := s1.toks) fun b o e => Heap.get?_push_of_some _ e
  have ls0 : (s1.heap.push { cls := .type "list_iterator", data := .fields #[.ref a, .int 0 0] }).IsListIter it a 0 := by
    rw [← eit]
    exact ⟨_, Heap.get?_push_size _ rfl, rfl, rfl⟩
  have fpI : FpOk X pins H1 it := by
    rw [← eit]
    exact I1.fpOk (Nat.le_refl _) (I1.hok.fresh (Nat.le_refl _))
  have szI : it < (s1.heap.push { cls := .type "list_iterator", data := .fields #[.ref a, .int 0 0] }).objs.size := by
    rw [Heap.size_push, eit]
    exact Nat.lt_succ_self _
  generalize es2 : ({ s1 with heap := s1.heap.push { cls := .type "list_iterator", data := .fields #[.ref a, .int 0 0] } } : Shared) = s2 at I2
  have h2 : s2.heap = s1.heap.push { cls := .type "list_iterator", data := .fields #[.ref a, .int 0 0] } := by rw [← es2]
  rw [← h2] at ls0 szI
  refine wpAny_newObj_type (newEnv_comp ?_) (by show 0 ≤ sizeLine; decide)
  generalize eD : s2.heap.objs.size = D
  have newD : H1 D = none := I2.hok.fresh (Nat.le_of_eq eD)
  obtain ⟨W, ⟨m0, w0⟩, turn⟩ := q D newD
  generalize es3 : ({ s2 with heap := s2.heap.push { cls := .type "list", data := .seq ([] : List Value).toArray } } : Shared) = s3
  have h3 : s3.heap = s2.heap.push { cls := .type "list", data := .seq ([] : List Value).toArray } := by rw [← es3]
  have I3 : Inv X pins σ (L2.upd H1 D (.lst [])) s3 := by
    rw [← es3]
    refine I2.laid (t' := s2.toks) (fun b o e => Heap.get?_push_of_some _ e) (Nat.le_of_eq eD) ⟨Nat.zero_le _, [], 0, .nil, ?_⟩
    rw [← eD]
    exact Heap.get?_push_size _ rfl
  have neD : it ≠ D := by
    rw [← eD]
    exact Nat.ne_of_lt szI
  have fp3 : ∀ b ∈ [it], FpOk X pins (L2.upd H1 D (.lst [])) b ∧ b < s3.heap.objs.size := fun b hb => by
    obtain rfl : b = it := by simpa using hb
    refine ⟨⟨?_, fpI.2⟩, by rw [h3, Heap.size_push]; exact Nat.lt_succ_of_lt szI⟩
    rw [upd_ne neD]
    exact fpI.1
  have ls3 : s3.heap.IsListIter it a 0 := ls0.at fun o e => by
    rw [h3]
    exact Heap.get?_push_of_some _ e
  -- the handled exception stands at s3
  obtain ⟨px, ⟨hd, v1, d1, c1⟩, hpx⟩ := hot
  have pin3 := I3.pin px (List.mem_append_left _ hpx)
  have nstk : px.1 ∉ frs X.stack := fun hm => (List.mem_cons.mp (I3.stkSub px.1 hm)).elim pin3.2.2.1 pin3.2.2.2.1
  have nit : px.1 ≠ it := fun z => fpI.2.2.2.2.2 px (List.mem_append_left _ hpx) z
  have I4 := block_start I3 ok nd fp3
  have pg := pg s3 (L2.upd H1 D (.lst [])) s3.heap.objs.size (cellsFrom (s3.heap.objs.size + 1) scope.names (cloFrom X.env.cells scope.names [])) [it]
  have pt := pt s3 (L2.upd H1 D (.lst [])) s3.heap.objs.size (cellsFrom (s3.heap.objs.size + 1) scope.names (cloFrom X.env.cells scope.names [])) [it]
  have pe := pe s3 (L2.upd H1 D (.lst [])) s3.heap.objs.size (cellsFrom (s3.heap.objs.size + 1) scope.names (cloFrom X.env.cells scope.names [])) [it]
  show codeAny _ _ (.compStart (.ListComp elt [⟨tg, iter, ifs, 0⟩] scope pos) 0 (.ref it) (.ref D) (compEnvC scope (cellsFrom (s3.heap.objs.size + 1) scope.names (cloFrom X.env.cells scope.names [])) s3.heap.objs.size X.env)) (compPost (model X.prog X.w) X.A X.xe none _ (.ref D) s3.heap.objs.size) { s3 with heap := pushCells (s3.heap.push { cls := .type "dict", data := .dict #[] }) scope.names }
  have nfp : ∀ b ∈ [it], (L2.upd H1 D (.lst [])) b = none := fun b hb => (fp3 b hb).1.1
  generalize ece : compEnvC scope (cellsFrom (s3.heap.objs.size + 1) scope.names (cloFrom X.env.cells scope.names [])) s3.heap.objs.size X.env = ce at I4 pg pt pe ⊢
  have cL : ce.locals = s3.heap.objs.size := by
    subst ece
    rfl
  generalize eH3 : L2.upd H1 D (.lst []) = H3 at I3 I4 pg pt pe w0 nfp fp3 pin3
  generalize es4 : ({ s3 with heap := pushCells (s3.heap.push { cls := .type "dict", data := .dict #[] }) scope.names } : Shared) = s4 at I4 ⊢
  have ls4 : s4.heap.IsListIter it a 0 := ls3.at fun o e => by
    rw [← es4]
    exact pushCells_keeps _ _ _ _ (Heap.get?_push_of_some _ e)
  have stat : ∀ {σ1 : L2.St} {H' : Hp} {s' : Shared}, Inv (X.blk s3 H3 scope ce [it]) [] σ1 H' s' → H' it = none → ∀ b ∈ [it], FpOk (X.blk s3 H3 scope ce [it]) [] H' b := fun {σ1 H' s'} J hn b hb => by
    obtain rfl : b = it := by simpa using hb
    exact ⟨hn, (J.ok.exf b hb).1, J.ok.exfs b hb, .inl hb, fun x c e => (J.ok.exf b hb).2 x c e, fun p hp => absurd (show p ∈ ([] : List (Addr × Obj)) ++ [] from hp) (by simp)⟩
  have loop : codeAny (model X.prog X.w) X.A (.compLoop (.ListComp elt [⟨tg, iter, ifs, 0⟩] scope pos) 0 (.ref it) (.ref D) ce) (compPost (model X.prog X.w) X.A X.xe none (EP X pins σ Q) (.ref D) s3.heap.objs.size) s4 := by
    refine compLoop_any (fun n s' => ∃ i H', Inv (X.blk s3 H3 scope ce [it]) [] (wipe σ (own.map (·.2))) H' s' ∧ s'.heap.IsListIter it a i ∧ H' it = none ∧ W i n H') ?_ m0 ⟨0, H3, I4, ls4, nfp it (by simp), w0⟩
    rintro n s5 ⟨i, H5, I5, ls5, n5, w5⟩
    obtain ⟨f0, f1, f2, f3, f4, f5⟩ := stat I5 n5 it (by simp)
    rcases turn i n H5 w5 with ⟨stop, fin⟩ | ⟨go, Nx, hNx, step⟩
    · obtain ⟨xs, sq, hx⟩ := stop
      obtain ⟨its, rv, pl5, hz5⟩ := I5.list sq
      have hl := rv.length
      have gx := I5.base.keep px.1 px.2 pin3.1 pin3.2.1 nstk (fun z => nit (by simpa using z))
      refine list_ends_hot (x1 := px.1) ⟨hd, px.2, v1, gx, d1, c1⟩ ls5 pl5.isList (by simp; omega) fun h6 eb => ?_
      have I6 : Inv (X.blk s3 H3 scope ce [it]) [] (wipe σ (own.map (·.2))) H5 { s5 with heap := h6 } := I5.turned (t' := s5.toks) (fun b o hb e => eb b o hb e) f0 f1 f3 f4 f5
      have I7 : Inv X pins σ H5 { s5 with heap := h6 } := I3.call' (ch := [it]) I6.os I6.base I6.hok I6.bare fun b hb => ⟨(fp3 b hb).1.2.2.2.1, (fp3 b hb).1.2.1, (fp3 b hb).1.2.2.2.2.1, (fp3 b hb).1.2.2.2.2.2⟩
      have nC : H5 s3.heap.objs.size = none := by
        have z : H5 ce.locals = none := I6.free
        rw [cL] at z
        exact z
      obtain ⟨m, hn, _⟩ := I6.loc
      have hn : h6.Ns ce.locals m := hn
      rw [cL] at hn
      obtain ⟨e0, e1, e2, e3, e4, e5⟩ := I3.fpOk (Nat.le_refl _) nC
      exact ⟨m, hn, fun h'' sb => ⟨.ref D, H5, I7.turned (t' := s5.toks) (fun b o hb e => (sb.2 b hb).trans e) e0 e1 e3 e4 e5, rfl, fin⟩⟩
    · obtain ⟨xs, x, sq, hx⟩ := go
      obtain ⟨its, rv, pl5, hz5⟩ := I5.list sq
      obtain ⟨u, hu, ru⟩ := rv.get hx
      refine wpAny_pyNext_list_item ls5 pl5.isList (x := u) (by simpa using hu) fun h6 ls6 sb => ?_
      have I6 : Inv (X.blk s3 H3 scope ce [it]) [] (wipe σ (own.map (·.2))) H5 { s5 with heap := h6 } := I5.turned (t' := s5.toks) (fun b o hb e => (sb.2 b hb).trans e) f0 f1 f3 f4 f5
      obtain ⟨o6, e6, cls6, dat6⟩ := id ls6
      refine go_of (s := { s5 with heap := h6 }) e6 cls6 dat6 (by decide) ?_
      have I7 := I6.pinned (stat I6 n5) (fun b hb => by
        obtain rfl : b = it := by simpa using hb
        exact ⟨o6, e6, fun v z => by
          rw [dat6] at z
          cases z⟩)
      refine thnF (pg.run _ { s5 with heap := h6 } _ H5 x u _ I7 ru (step x H5 ⟨rfl, fun ys hy => by rw [I5.list_inj hy sq]; exact hx⟩)) fun _ s8 ⟨σ8, H8, I8, hw8, q8⟩ => ?_
      refine thnF (pt.run _ s8 σ8 H8 _ I8 q8) fun b s9 ⟨H9, I9, q9⟩ => ?_
      have back : ∀ {s' : Shared} {H' : Hp}, Inv (X.blk s3 H3 scope ce [it]) ([] ++ pinsAt [it] h6) σ8 H' s' → Nx H' → ∃ m, m < n ∧ ∃ i H', Inv (X.blk s3 H3 scope ce [it]) [] (wipe σ (own.map (·.2))) H' s' ∧ s'.heap.IsListIter it a i ∧ H' it = none ∧ W i m H' := fun {s' H'} J nx => by
        obtain ⟨m', hm, w'⟩ := hNx H' nx
        have pin' := J.pin (it, o6) (List.mem_append_right _ (List.mem_append_right _ (mem_pinsAt (by simp) e6)))
        have hl : (wipe σ (own.map (·.2))).length = σ8.length := by rw [← hw8, wipe_length]
        refine ⟨m', hm, i + 1, H', (J.unpinned (pins := [])).weak hl (fun j v e => ?_), ls6.at fun o e => ?_, pin'.2.1, w'⟩
        · rw [← hw8] at e
          exact (wipe_some e).1
        · rw [e6] at e
          cases e
          exact pin'.1
      cases b with
      | false =>
        simp only [Bool.false_eq_true, if_false] at q9 ⊢
        exact back I9 q9
      | true =>
        simp only [if_true] at q9 ⊢
        refine thnF (pe.run _ s9 σ8 H9 _ I9 q9) fun z s10 ⟨yv, H10, I10, r10, acc, hD10, hz10, nx⟩ => ?_
        exact app_ok (X := X.blk s3 H3 scope ce [it]) I10 hD10 hz10 r10 fun s11 I11 => back I11 nx
  exact codeAny_compStart_list loop (wpAny_pyIter_listiter ls4 loop)
end Y

set_option Elab.async false
set_option linter.all false
set_option maxRecDepth 100000
set_option maxHeartbeats 4000000
/-! Y17: isinstance of the handled exception, which has a dict. -/
namespace Y
open PySem PySem.Spec PyProof.Rows L2
section
open PySem.W PySem.Calls
variable {prog : Program} {w : World} {A : Around} {E : Value → Shared → Prop} {s : Shared} {K : PySem.W.Frag} {x D : Addr} {ox od : Obj}
theorem exc_class {Q : Option Value → Shared → Prop} (C : ExcC K D) (X : K.In s.heap) (I : PySem.W.InstAt s.heap x ox D (some od)) (fin : Q (some (.ref D)) { s with toks := s.toks + 1 }) : wpAny (model prog w) A (getAttr? (.ref x) "__class__") Q E s := by
  have ic : PySem.W.isClsIn K D = true := by
    obtain ⟨cd, hc, _⟩ := PySem.W.any_some C.hd
    show (PySem.W.clsIn K D).isSome = true
    rw [hc]
    rfl
  have look : PySem.W.findObj K D (some od) "__class__" = some (.bind (.builtin "getset_descriptor.__get__") (.builtin "object.__class__")) := PySem.W.findObj_data ic C.ha C.hn C.ht
  obtain ⟨h0, g0, d0, t0, o0⟩ := s
  have k0 := I.type (M := model prog w)
  have k1 := PySem.W.looks_findIn (M := model prog w) X C.hg
  have k2 := PySem.W.looks_findIn (M := model prog w) X C.hk
  have k3 := PySem.W.looks_find (M := model prog w) X I look
  have sub : PySem.W.Looks (model prog w) h0 (isInstance (.ref x) (.type "BaseException")) true := k0.andThen (PySem.W.looks_subIn X C.hs)
  have n0 : (false && PySem.onTheHeap (Value.builtin "BaseException.__getattribute__")) = false := rfl
  have n2 : (Value.builtin "BaseException.__getattribute__" == Value.builtin "object.__getattribute__") = false := by decide +kernel
  have n1 : (PySem.onTheHeap (Value.ref D) && Value.builtin "BaseException.__getattribute__" == Value.builtin "object.__getattribute__") = false := by
    rw [n2]
    rfl
  unfold getAttr? getAttrBy? getAttrBy
  refine wpAny_bind (wpAny_mkText (wpAny_bind (wpAny_attempt (wpAny_holding (wpAny_bind (k0.at (wpAny_bind (k1.at ?_))))))))
  show wpAny _ _ (if (PySem.onTheHeap (Value.ref D) && Value.builtin "BaseException.__getattribute__" == Value.builtin "object.__getattribute__") = true then _ else _) _ _ _
  rw [n1, if_neg Bool.false_ne_true]
  unfold getAttrByItsOwn hookBefore
  refine wpAny_bind ?_
  rw [if_pos (show PySem.onTheHeap (Value.ref D) = true from rfl)]
  refine k2.at ?_
  refine wpAny_bind (wpAny_attempt (wpAny_holding ?_))
  unfold callGetattribute
  rw [n0, if_neg Bool.false_ne_true]
  unfold boundAndCalled
  rw [PySem.F.excAttr_ValueError.ga.bind (.ref x)]
  refine wpAny_bind (wpAny_pure ?_)
  show wpAny _ _ (call (Value.builtin "BaseException.__getattribute__") [.ref x, .str "__class__" t0]) _ _ _
  refine wpAny_call (codeAny_call_builtin PySem.F.excAttr_ValueError.ga.plain PySem.F.entry_bexc_ga ?_)
  refine @check_slot (model prog w) _ _ ⟨h0, g0, d0, t0 + 1, o0⟩ "BaseException.__getattribute__" "BaseException" "__getattribute__" (.ref x) [.str "__class__" t0] [] _ (by decide +kernel) (by decide +kernel) sub (PySem.F.args_bexc_ga (.ref x) (.str "__class__" t0)) ?_
  unfold Builtin.«object.__getattribute__»
  refine wpAny_bind (wpAny_of_eq (a := ((Value.ref x : Value), [Value.str "__class__" t0])) (by first | rfl | (simp only [slotArgs]; rfl)) ?_)
  refine wpAny_bind (wpAny_pure (wpAny_bind (k0.at (wpAny_bind (k3.at ?_)))))
  show wpAny _ _ (holding [Value.builtin "object.__class__"] (call (.builtin "getset_descriptor.__get__") [.builtin "object.__class__", .ref x, .ref D]) >>= ret) _ _ _
  refine wpAny_bind (wpAny_holding (wpAny_call (PySem.W.class_get (s := ⟨h0, g0, d0, t0 + 1, o0⟩) (ox := ox) (od := some od) X I C.hm ?_)))
  refine wpAny_pure ?_
  show wpAny _ _ (handedOut (Value.ref D)) _ _ _
  rw [PySem.W.handedOut_of (v := .ref D) rfl]
  first
    | exact wpAny_pure (wpAny_pure fin)
    | exact wpAny_pure fin
    | exact wpAny_pure (wpAny_bind (wpAny_pure (wpAny_pure fin)))
theorem kit_excD (C : ExcC K D) : PySem.W.KitX K (.ref x) (.ref D) (fun h => PySem.W.InstAt h x ox D (some od)) where
  ty := fun _ _ _ I => I.type
  it := fun _ _ X _ => by
    obtain ⟨cdD, hcD, _⟩ := PySem.W.any_some C.hd
    unfold PySem.W.clsIn at hcD
    split at hcD
    · rename_i c1 c2 c3 c4 ho
      intro A' Q' E' s' k q
      unfold isType loadHead
      exact wpAny_bind (wpAny_loadPart (k _ _ (X _ _ ho)) (wpAny_pure q))
    · cases hcD
  ne := fun h tp dd its n sl X htp => by
    obtain ⟨cdD, hcD, _⟩ := PySem.W.any_some C.hd
    refine Bool.eq_false_iff.mpr fun q => ?_
    have e : D = tp := Value.ref.inj (beq_iff_eq.mp q)
    subst e
    unfold PySem.W.clsIn at hcD
    split at hcD
    · rename_i c1 c2 c3 c4 ho
      have z := (X _ _ ho).symm.trans htp
      cases z
    · cases hcD
  ca := fun X I k => exc_class C X I k
end
/-- isinstance(e, c), e the exception at a, whose dict stands at dx -/
def rIsX (K : PySem.W.Frag) (D a dx : Addr) : List V → Hp → VK → Prop := fun xs H Q => ∃ (c : V) (cv : Value) (b : Bool) (fs : List (Str × V)), xs = [.ref a, c] ∧ ClsV c cv ∧ H dx = some (.xd fs) ∧ PySem.W.kitOne K (.ref D) cv = some b ∧ Q (.bl b) H
theorem call_isX {X : Cx} {a D dx : Addr} {oe : Obj} (C : ExcC X.K D) (hz : Zc (.ref D) (some dx) oe) (hf : ∃ vs, oe.data = .fields vs) (hp : (a, oe) ∈ X.pn) : CallR X (.builtin "isinstance") (rIsX X.K D a dx) := by
  intro pins s σ H xs us Q I r h
  obtain ⟨c, cv, b, fs, rfl, hcv, ed, e, q⟩ := h
  obtain ⟨u1, u2, rfl, r1, r2⟩ := r.two
  cases (show u1 = Value.ref a from r1)
  cases hcv.eq r2
  obtain ⟨get, _⟩ := I.pin (a, oe) (List.mem_append_left _ hp)
  obtain ⟨vs, hv⟩ := hf
  have hx : ObjOk X.prog X.w H s.heap dx (.xd fs) := I.hok dx _ ed
  obtain ⟨mA, hns, _⟩ := hx
  obtain ⟨od, ho, _⟩ := lookIn_ns hns
  have J : PySem.W.InstAt s.heap a oe D (some od) := ⟨get, hz.1, by
    unfold PySem.W.notCls
    rw [hv], by
    rw [hz.2]
    exact ho⟩
  exact PySem.W.kia_one (kit_excD C) I.kIn J e (fun z => nomatch z) fun tk => ⟨.bl b, H, I.tok tk, rfl, q⟩
end Y

set_option Elab.async false
set_option linter.all false
set_option maxRecDepth 100000
set_option maxHeartbeats 4000000
/-! Z3: _kept of an int, BadLengths.__init__. -/
namespace Y
open PySem L2
abbrev n_kept : List Str := ["worth", "key"]
theorem sc_kept : FnScope n_kept ["worth"] (defScope s_kept) := ⟨rfl, rfl, rfl, by decide +kernel, rfl, by decide +kernel, by decide +kernel⟩
abbrev n_bad : List Str := ["self", "gap"]
theorem sc_bad : FnScope n_bad ["self", "gap"] (defScope s_bad) := ⟨rfl, rfl, rfl, by decide +kernel, rfl, by decide +kernel, by decide +kernel⟩
def spKept : Sp := spP (α := Int) (fun a => [.int a]) (fun _ => True) (fun a d => d = .int a)
def spBad (CB : Addr) : Sp := fun vs H Q _ => ∃ (a : Addr) (g : Int), vs = [.ref a, .int g] ∧ H a = some (exo a CB none) ∧ ∀ d H', (∀ b o, b ≠ a → H b = some o → H' b = some o) → H d = none → d ≠ a → H' a = some (exo a CB (some d)) → H' d = some (exd d [("gap", .int g)]) → Q .non H'
/-- what the written part says of the class BadLengths -/
structure BadC (K : PySem.W.Frag) (mg : Str → Option Value) (CB : Addr) : Prop where
  ox : OexC K CB
  ng : PySem.W.findIn K (.ref CB) "gap" = some none
  mg : mg "BadLengths" = some (.ref CB)
section
variable {P : Program} {w : World} {K : PySem.W.Frag} {mg : Str → Option Value} {base : Heap}
theorem ok_kept {f : Addr} {fd : FuncData} {kws : List (Str × V)} {Cl : Addr} (T : Txt K mg Cl) (F : FunD K "_kept" "_kept" (defArgs s_kept) (defBody s_kept) (defScope s_kept) [] kws f fd) : FnOk P w K mg base CX0 1 f fd ["worth"] spKept := by
  refine okP 1 F sc_kept (fun _ _ => rfl) rfl fun cdv A outer s H E a hr hp => ⟨_, (pss_cons (ps_if (pt_val (pe_callB call_isi (by rfl) T.isinstance (by decide +kernel) (pa_cons (pv 0) (pa_cons (pe_bltn (by rfl) T.list (by decide +kernel) (v := .ty "list") rfl) pa_nil)))) pss_never pss_nil)
    (pss_cons (ps_if (pt_val (pe_callB call_isi (by rfl) T.isinstance (by decide +kernel) (pa_cons (pv 0) (pa_cons (pe_bltn (by rfl) T.dict (by decide +kernel) (v := .ty "dict") rfl) pa_nil)))) pss_never pss_nil)
    (pss_one (ps_ret (pv 0))))), ?_⟩
  intro C M D dn _ _
  show Go C M [.im (.int a), .no] _ D
  refine g_seq (g_ifb (t_B (e_isi (x_var rfl) rfl (by decide +kernel : kitB "int" "list" = some false))) (fun e => by cases e) (fun _ => g_next ?_))
  refine g_seq (g_ifb (t_B (e_isi (x_var rfl) rfl (by decide +kernel : kitB "int" "dict" = some false))) (fun e => by cases e) (fun _ => g_next ?_))
  exact g_ret (x_var rfl) dn
theorem ok_bad {f f1 CB : Addr} {fd fd1 : FuncData} {kws : List (Str × V)} (B : BadC K mg CB) (F : FunD K "__init__" "BadLengths.__init__" (defArgs s_bad) (defBody s_bad) (defScope s_bad) [] kws f fd)
    (dKept : Dk P w K mg base CX0 "_kept" 1 f1 fd1 ["worth"] spKept) : FnOk P w K mg base CX0 2 f fd ["self", "gap"] (spBad CB) := by
  refine F.ok sc_bad (fun vs H Q E h => ?_) (fun cdv A outer s H vs Q E hr h => ?_)
  · obtain ⟨a, g, rfl, _⟩ := h
    rfl
  · obtain ⟨a, g, rfl, ha, k⟩ := h
    refine ⟨_, PSs.nox (pss_one (ps_ost (pv 0) (pe_call dKept.ok (hr.mono (by decide)) (by rfl) dKept.mg dKept.kp dKept.bi .nil pass0 (pa_cons (pv 1) pa_nil)))), ?_⟩
    have A0 : At ⟨[], H, [], []⟩ [] [.im (.ref a), .im (.int g)] (L2.start n_bad [.ref a, .int g]) H := start_at (ds := [.ref a, .int g]) 0 (.cons (.ref a) (.cons (.int g) .nil)) (fun x hx => nomatch hx) rfl
    refine x_call (args := fun a => [Y.D.int a]) (a := g) (a_cons (x_var rfl) a_nil) trivial _ _ _ _ A0 _ fun v d H1 p1 A1 e1 r1 => ?_
    subst p1
    cases r1.int_inv
    have al := A1.alls
    refine ⟨_, rfl, a, CB, rfl, B.ox, B.ng, .inl ⟨al _ _ ha, fun d hd hne => ?_⟩⟩
    have d0 : H d = none := by
      cases e : H d with
      | none => rfl
      | some o =>
        rw [al d o e] at hd
        cases hd
    refine k d _ (fun b o hb ho => ?_) d0 hne upd_same (by rw [upd_ne hne, upd_same])
    rw [upd_ne hb, upd_ne (ne_of_none (al b o ho) hd)]
    exact al b o ho
end
end Y

set_option Elab.async false
set_option linter.all false
set_option maxRecDepth 100000
set_option maxHeartbeats 4000000
/-! Y12: texts, gcd and lcm. -/
namespace Y
open PySem L2
section
variable {C : Ctx} {M : List Addr} {env : List En} {σ : L2.St} {H H' : Hp} {te ta tb t1 t2 t3 t4 : TE} {P S : Y.D → Prop} {K : PySem.W.Frag} {d : Y.D}
theorem len_num {n : Int} (h0 : 0 ≤ n) (h : n < 1000000000) : (Str.ofString (toString n)).length ≤ 9 := PyProof.Rows.toString_length_le h0 (by decide) (by show n < 10 ^ 9; omega)
theorem log_small {n : Int} (h0 : 0 ≤ n) (h : n < 1000000000) : n.natAbs.log2 < 1920 := Nat.lt_of_lt_of_le (PySem.Flt.log2_lt_of (n := n.natAbs) (k := 40) (by decide) (by
  have e : n.natAbs < 1000000000 := by omega
  exact Nat.lt_of_lt_of_le e (by decide))) (by decide)
theorem e_fmtI {i : Int} (h : Ev te env (Is (.int i))) (hl : i.natAbs.log2 < 1920) : Ev (tFmt te) env (Is (.str (toString i))) := fun C M σ H A Q q =>
  h C M σ H A _ fun v d0 H1 p1 A1 e1 r1 => by
    subst p1
    cases r1.int_inv
    exact .inr ⟨i, rfl, hl, q _ _ H1 rfl A1 e1 (.str _)⟩
theorem e_fmtS {s : Str} (h : Ev te env (Is (.str s))) (hl : s.length ≤ 16000000) : Ev (tFmt te) env (Is (.str s)) := fun C M σ H A Q q =>
  h C M σ H A _ fun v d0 H1 p1 A1 e1 r1 => by
    subst p1
    cases r1.str_inv
    exact .inl ⟨s, rfl, Nat.le_trans hl (by decide), q _ _ H1 rfl A1 e1 (.str _)⟩
theorem e_js4 {a b c e : Str} (h1 : Ev t1 env (Is (.str a))) (h2 : Ev t2 env (Is (.str b))) (h3 : Ev t3 env (Is (.str c))) (h4 : Ev t4 env (Is (.str e))) (hl : a.length + b.length + c.length + e.length ≤ 16000000) :
    Ev (fun σ H Q => tJs [t1, t2, t3, t4] Str.empty σ H fun out H1 => Q (.str out) H1) env (Is (.str (((a ++ b) ++ c) ++ e))) := fun C M σ H A Q q => by
  have z : (16000000 : Nat) ≤ sizeLine := by decide
  refine h1 C M σ H A _ fun v1 d1 H1 p1 A1 e1 r1 => ?_
  subst p1
  cases r1.str_inv
  refine ⟨a, rfl, by rw [Str.empty_append]; omega, ?_⟩
  rw [Str.empty_append]
  refine h2 C M σ H1 A1 _ fun v2 d2 H2 p2 A2 e2 r2 => ?_
  subst p2
  cases r2.str_inv
  refine ⟨b, rfl, by rw [Str.length_append]; omega, ?_⟩
  refine h3 C M σ H2 A2 _ fun v3 d3 H3 p3 A3 e3 r3 => ?_
  subst p3
  cases r3.str_inv
  refine ⟨c, rfl, by rw [Str.length_append, Str.length_append]; omega, ?_⟩
  refine h4 C M σ H3 A3 _ fun v4 d4 H4 p4 A4 e4 r4 => ?_
  subst p4
  cases r4.str_inv
  refine ⟨e, rfl, by rw [Str.length_append, Str.length_append, Str.length_append]; omega, ?_⟩
  exact q _ _ H4 rfl A4 (((e1.trans e2).trans e3).trans e4) (.str _)
theorem r_cat_str {a b : Str} (hl : a.length + b.length ≤ 16000000) : RV (fun x y H Q => ∃ i j, x = .str i ∧ y = .str j ∧ i.length + j.length ≤ sizeLine ∧ Q (.str (i ++ j)) H) (.str a) (.str b) (Is (.str (a ++ b))) := fun M H u v t r1 r2 Q q => by
  cases r1.str_inv
  cases r2.str_inv
  exact ⟨a, b, rfl, rfl, Nat.le_trans hl (by decide), q _ _ H rfl (All.refl H) (.str _)⟩
theorem c_strI {i : Int} (hl : i.natAbs.log2 < 1920) : RC (fun xs H Q => ∃ i, xs = [.int i] ∧ i.natAbs.log2 < 1920 ∧ Q (.str (toString i)) H) [.int i] (Is (.str (toString i))) := fun M H us t r Q q => by
  cases r with
  | cons r1 r2 =>
    cases r2
    cases r1.int_inv
    exact ⟨i, rfl, hl, q _ _ H rfl (All.refl H) (.str _)⟩
theorem x_join {a : Str} {ys : List Str} (ho : Ev ta env (Is (.str a))) (h : Ev te env (Is (.lst (ys.map Y.D.str)))) (hl : (ys.map (·.length)).sum + ys.length * a.length ≤ 16777216) :
    Ev (tM1 (fun x xs H Q => ∃ a p, ∃ ys : List Str, x = .str a ∧ xs = [.ref p] ∧ (SqL K H p (ys.map V.str) ∨ SqT K H p (ys.map V.str)) ∧ (ys.map (·.length)).sum + ys.length * a.length ≤ 16777216 ∧ Q (.str (Txt.join a ys)) H) ta te) env (Is (.str (Txt.join a ys))) := fun C M σ H A Q q =>
  ho C M σ H A _ fun v1 d1 H1 p1 A1 e1 r1 => by
    subst p1
    cases r1.str_inv
    refine ⟨⟨a, rfl⟩, h C M σ H1 A1 _ fun v d0 H2 p2 A2 e2 r2 => ?_⟩
    subst p2
    obtain ⟨p, vs, rfl, hn, hp, rl⟩ := r2.lst_inv
    have ev := rl.strs
    subst ev
    exact ⟨a, p, ys, rfl, rfl, .inl (.inl (.inl hp)), hl, q _ _ H2 rfl A2 (e1.trans e2) (.str _)⟩
theorem join_len (a : Str) : ∀ ys : List Str, (Txt.join a ys).length ≤ (ys.map (·.length)).sum + ys.length * a.length := by
  intro ys
  show (Builtin.Str.glued a ys).length ≤ _
  rw [StrLaws.glued_eq_join]
  induction ys with
  | nil => show (0 : Nat) ≤ _; omega
  | cons x r ih =>
    cases r with
    | nil =>
      show x.length ≤ _
      simp
    | cons z r =>
      show (x ++ a ++ Str.join a (z :: r)).length ≤ _
      rw [Str.length_append, Str.length_append]
      simp only [List.map_cons, List.sum_cons, List.length_cons] at ih ⊢
      have e : (r.length + 1 + 1) * a.length = (r.length + 1) * a.length + a.length := by rw [Nat.succ_mul]
      omega
theorem join_one (a x : Str) : Txt.join a [x] = x := by
  show Builtin.Str.glued a [x] = x
  rw [StrLaws.glued_eq_join]
  rfl
/-! gcd, lcm -/
theorem c_gcd {a b : Int} : RC rGcd [.int a, .int b] (Is (.int (Nat.gcd a.natAbs b.natAbs : Nat))) := fun M H us t r Q q => by
  cases r with
  | cons r1 r2 =>
    cases r2 with
    | cons r2 r3 =>
      cases r3
      cases r1.int_inv
      cases r2.int_inv
      exact ⟨a, b, rfl, q _ _ H rfl (All.refl H) (.int _)⟩
def rLcm : List V → Hp → VK → Prop := fun vs H Q => ∃ a b : Int, vs = [.int a, .int b] ∧ a.natAbs < 1000000000 ∧ b.natAbs < 1000000000 ∧ Q (.int ((Nat.lcm a.natAbs b.natAbs : Nat) : Int)) H
theorem cr_lcm {X : Cx} : CallR X (.builtin "math.lcm") rLcm := by
  intro pins s σ H vs us Q I r h
  obtain ⟨a, b, rfl, ha, hb, q⟩ := h
  obtain ⟨t, u, rfl⟩ := Vals.int2 r
  have e : (((Nat.lcm 1 a.natAbs).lcm b.natAbs : Nat) : Int) = ((Nat.lcm a.natAbs b.natAbs : Nat) : Int) := by
    have e1 : Nat.lcm 1 a.natAbs = a.natAbs := by
      unfold Nat.lcm
      rw [Nat.gcd_one_left, Nat.one_mul, Nat.div_one]
    rw [e1]
  refine PySem.W.mg_lcm_v (Nat.lt_of_lt_of_le ha (by decide)) (Nat.lt_of_lt_of_le hb (by decide)) e ?_ ⟨.int _, H, I.tok _, ⟨_, rfl⟩, q⟩
  have hl : Nat.lcm a.natAbs b.natAbs ≤ a.natAbs * b.natAbs := by
    unfold Nat.lcm
    exact Nat.div_le_self ..
  have hm : a.natAbs * b.natAbs < 2 ^ 64 := Nat.lt_of_lt_of_le (Nat.mul_lt_mul'' ha hb) (by decide)
  have hz : (((Nat.lcm a.natAbs b.natAbs : Nat) : Int)).natAbs < 2 ^ 64 := by
    rw [Int.natAbs_natCast]
    omega
  exact Nat.lt_of_lt_of_le (PySem.Flt.log2_lt_of (by decide) hz) (by decide)
theorem c_lcm {a b : Int} (ha : a.natAbs < 1000000000) (hb : b.natAbs < 1000000000) : RC rLcm [.int a, .int b] (Is (.int (Nat.lcm a.natAbs b.natAbs : Nat))) := fun M H us t r Q q => by
  cases r with
  | cons r1 r2 =>
    cases r2 with
    | cons r2 r3 =>
      cases r3
      cases r1.int_inv
      cases r2.int_inv
      exact ⟨a, b, rfl, ha, hb, q _ _ H rfl (All.refl H) (.int _)⟩
end
end Y

set_option Elab.async false
set_option linter.all false
set_option maxRecDepth 100000
set_option maxHeartbeats 4000000
/-! Z4: Lengths.__init__. -/
namespace Y
open PySem L2
/-- for x in t, t a name that holds a list or a tuple -/
def iVar (K : PySem.W.Frag) (i : Nat) : TI := fun σ H R => ∃ a, σ[i]? = some (some (.ref a)) ∧ (((∃ xs, SqL K H a xs) ∧ R (Itl K a) H) ∨ ((∃ xs, SqT K H a xs) ∧ R (Itt K a) H))
theorem pi_var {X : Cx} {tg : Expr} {x : Str} {pos : Pos} {i : Nat} (h : PE X (.Name x pos) (tVar i)) : PI X tg (.Name x pos) (iVar X.K i) := by
  refine ⟨fun pins s σ H R I hw => ?_⟩
  obtain ⟨a, h1, z⟩ := hw
  rcases z with ⟨h2, r⟩ | ⟨h2, r⟩
  · exact (pi_list h).run pins s σ H R I ⟨_, h1, a, rfl, h2, r⟩
  · exact (pi_tup h).run pins s σ H R I ⟨_, h1, a, rfl, h2, r⟩
section
variable {env : List En} {K : PySem.W.Frag} {xs : List Y.D} {i : Nat}
theorem i_varL (h : env[i]? = some (.im (.lst xs))) : EvI (iVar K i) env xs := fun C M σ H A R k =>
  i_list (K := K) (x_var h) C M σ H A R k |> fun ⟨v, h1, a, ev, h2, r⟩ => ⟨a, by rw [h1, ev], .inl ⟨h2, r⟩⟩
theorem i_varT (h : env[i]? = some (.im (.tup xs))) : EvI (iVar K i) env xs := fun C M σ H A R k =>
  i_tup (K := K) (x_var h) C M σ H A R k |> fun ⟨v, h1, a, ev, h2, r⟩ => ⟨a, by rw [h1, ev], .inr ⟨h2, r⟩⟩
theorem i_var0 {T : Addr} (h : env[i]? = some (.im (.ref T))) (ht : ∀ H, SqT K H T []) : EvI (iVar K i) env [] := fun C M σ H A R k => by
  obtain ⟨v, h1, r⟩ := A.get h
  cases r.ref_inv
  refine ⟨T, h1, .inr ⟨⟨[], ht H⟩, k _ (fun _ _ => True) H A (Ext.refl M H) ⟨fun _ _ _ _ z => z, fun _ _ _ _ z => z, fun _ _ i _ hi => (nomatch hi), fun _ H _ => ⟨[], ht H, Nat.le_refl _⟩, fun _ H i x H' _ y => ⟨y.1, fun d hd => (nomatch hd)⟩⟩ trivial⟩⟩
end
abbrev n_init : List Str := ["self", "period", "gaps", "ordered", "wrong", "gap"]
theorem sc_init : FnScope n_init ["self", "period", "gaps"] (defScope s_init) := ⟨rfl, rfl, rfl, by decide +kernel, rfl, by decide +kernel, by decide +kernel⟩
/-- BadLengths, as it is made -/
structure DBad (P : Program) (w : World) (K : PySem.W.Frag) (mgs : Str → Option Value) (base : Heap) (CB : Addr) (f : Addr) (fd : FuncData) : Prop where
  c : BadC K mgs CB
  iC : PySem.W.findIn K (.ref CB) "__init__" = some (some (.ref f))
  tI : PySem.W.typeIn K (.ref f) = some (.type "function")
  bi : Binds K fd ["self", "gap"] []
  ok : FnOk P w K mgs base CX0 2 f fd ["self", "gap"] (spBad CB)
theorem x_wrong {env : List En} {t : TA} {E : XK} {p : Int} {S : List Int} (h : EvA t env (Is [.int p, .lst (S.map D.int)])) (h1 : 1 ≤ p) (h2 : p < 1000000000) (h3 : ∀ g ∈ S, 1 ≤ g ∧ g < 1000000000) (h4 : S.Nodup) (h5 : S.length < 1000) :
    Ev (tCall spWrong [] E t) env (Is (oD (wrongF p [] S))) := x_call (α := WrongA) (a := ⟨p, S⟩) h ⟨h1, h2, h3, h4, h5⟩
section
variable {P : Program} {w : World} {K : PySem.W.Frag} {mg : Str → Option Value} {base : Heap}
theorem ok_init {f f2 f3 Cl CB : Addr} {fd fd2 fd3 : FuncData} {kws : List (Str × V)} {dvs : List V} (T : Txt K mg Cl) (F : FunD K "__init__" "Lengths.__init__" (defArgs s_init) (defBody s_init) (defScope s_init) dvs kws f fd)
    (dWrong : Dk P w K mg base CX0 "_wrong_gap" 2 f2 fd2 ["period", "gaps"] spWrong) (dBad : DBad P w K mg base CB f3 fd3) : FnOk P w K mg base (L2N.CX P w) 4 f fd ["self", "period", "gaps"] (spInit K Cl CB) := by
  refine F.ok sc_init (fun vs H Q E h => ?_) (fun cdv A outer s H vs Q E hr h => ?_)
  · obtain ⟨M, x, dx, a, ws, rfl, _, _, r, _⟩ := h
    rw [List.length_cons, r.length]
    rfl
  · obtain ⟨M, x, dx, ⟨p, gs, kd⟩, ws, rfl, hx, hX, r, t, ok, kq, ke⟩ := h
    obtain ⟨p1, p2, p3, p4, p5, p6⟩ := ok
    simp only at p1 p2 p3 p4 p5 p6 kq ke r
    refine ⟨_, (pss_cons (ps_set (i := 3) sc_init.nd rfl (Or.inl rfl) (pe_callB (cr_sortedSet rfl) (by rfl) T.sorted (by decide +kernel) (pa_cons (pe_callTy (call_setI rfl) (by rfl) T.set (by decide +kernel)
        (pa_cons (pe_lc (own := [("gap", 5)]) (g := gName 5) rfl sc_init.nd (pi_var (pv 2)) (blkOk_by (own := [("gap", 5)]) (N := n_init) (sc := defScope s_init) (by decide +kernel)) (fun _ _ _ _ _ => pg_name (i := 5) sc_init.nd rfl (Or.inl rfl)) (fun _ _ _ _ _ => pts_nil)
          (fun _ _ _ _ _ => pe_callTy call_int1 (by rfl) T.int (by decide +kernel) (pa_cons (pv 5) pa_nil))) pa_nil)) pa_nil)))
      (pss_cons (ps_set (i := 4) sc_init.nd rfl (Or.inl rfl) (pe_call dWrong.ok (hr.mono (by decide)) (by rfl) dWrong.mg dWrong.kp dWrong.bi .nil pass0 (pa_cons (pv 1) (pa_cons (pv 3) pa_nil))))
      (pss_cons (ps_if (pt_cmpR op_notN (pv 4) pe_non (nomark _)) (pss_one (L2N.ps_raise rfl (L2N.takes_of rfl rfl rfl rfl) (pmkN dBad.c.ox dBad.iC dBad.tI dBad.ok (hr.mono (by decide)) dBad.bi pass0 (by rfl) dBad.c.mg (pa_cons (pv 4) pa_nil)))) pss_nil)
      (pss_cons (ps_fld (pv 0) (pv 1) rfl)
      (pss_cons (ps_fld (pv 0) (pe_callTy call_tuple_of (by rfl) T.tuple (by decide +kernel) (pa_cons (pv 3) pa_nil)) rfl)
      (pss_one (ps_fld (pv 0) (pe_dc (own := [("gap", 5)]) (g := gName 5) rfl sc_init.nd (pi_list (pv 3)) (blkOk_by (own := [("gap", 5)]) (N := n_init) (sc := defScope s_init) (by decide +kernel)) (fun _ _ _ _ _ => pg_name (i := 5) sc_init.nd rfl (Or.inl rfl)) (fun _ _ _ _ _ => pts_nil)
          (fun _ _ _ _ _ => pv 5) (fun _ _ _ _ _ => pe_bl)) rfl))))))), ?_⟩
    have A0 : At ⟨M, H, [], []⟩ M [.im (.ref x), .im (.int p), .im (kd.d gs), .no, .no, .no] (L2.start n_init (.ref x :: ws)) H := start_at (ds := [.ref x, .int p, kd.d gs]) 3 (.cons (.ref x) r) t rfl
    have src : EvI (iVar K 2) [.im (.ref x), .im (.int p), .im (kd.d gs), .no, .no, .no] (gs.map Y.D.int) := by
      cases kd with
      | lst => exact i_varL rfl
      | tup => exact i_varT rfl
      | dflt T0 =>
        rw [p6.1]
        exact i_var0 rfl p6.2
    have e1 := x_lcI (env := [.im (.ref x), .im (.int p), .im (kd.d gs), .no, .no, .no]) (tt := tYes) (te := tCB (fun xs H Q => (∃ i, xs = [V.int i] ∧ Q (.int i) H) ∨ ∃ k, xs = [V.bl k] ∧ Q (.int (if k then 1 else 0)) H) (tCons (tVar 5) tNil)) (j := 5) (fun _ => true) Y.D.int src (fun u hu => by cases hu; rfl) (by omega) fun n hn => ⟨t_yes, fun _ => x_cb (a_cons (x_var rfl) a_nil) c_int⟩
    rw [List.filter_eq_self.mpr (fun _ _ => rfl)] at e1
    refine (?_ : Go ⟨M, H, [], []⟩ M [.im (.ref x), .im (.int p), .im (kd.d gs), .no, .no, .no] _ _) _ _ A0
    refine g_seq (g_asg (x_sortedSet e1 p4 p5) ?_)
    rintro _ ⟨S, hS, rfl⟩
    refine g_seq (g_set (x_wrong (a_cons (x_var rfl) (a_cons (x_var rfl) a_nil)) p1 p2 (fun g hg => p3 g ((hS.2 g).mp hg)) hS.nodup ?_) ?_)
    · obtain ⟨L, hL, h64⟩ := p5
      have := nodup_len hS.nodup (L := L) fun k hk => hL k ((hS.2 k).mp hk)
      omega
    dsimp only
    refine g_seq (g_ifb (t_test (x_op (x_var rfl) x_non r_notN)) (fun e => ?_) (fun e => g_next ?_))
    · -- raise
      intro σ3 H3 A3
      obtain ⟨g, hg⟩ : ∃ g, wrongF p [] S = some g := by
        cases z : wrongF p [] S with
        | none =>
          simp only [z] at e
          cases e
        | some g => exact ⟨g, rfl⟩
      obtain ⟨v, hv, rv⟩ := A3.get (i := 4) rfl
      have rv2 : Rep M H3 v (.int g) := by
        have z := rv
        simp only [hg] at z
        exact z
      cases rv2.int_inv
      have al := A3.alls
      refine ⟨_, hv, by show 1 ≤ 1000; decide, fun b hb => ⟨b, g, rfl, upd_same, fun d H' k1 d0 dne k2 k3 => ⟨rfl, d, _, k2, k3, ?_, ?_⟩⟩⟩
      · rw [upd_ne dne] at d0
        exact d0
      · have d1 : H3 d = none := by
          rw [upd_ne dne] at d0
          exact d0
        have dH : H d = none := by
          cases q : H d with
          | none => rfl
          | some o =>
            rw [al d o q] at d1
            cases d1
        refine ke S g hS hg d _ (fun c o ho => ?_) dH upd_same
        have hc1 : c ≠ d := fun z => by rw [z, dH] at ho; cases ho
        have hc2 : c ≠ b := fun z => by
          have y := al c o ho
          rw [z, hb] at y
          cases y
        rw [upd_ne hc1, del_ne hc2]
        exact k1 c o hc2 (by rw [upd_ne hc2]; exact al c o ho)
    · have hnone : wrongF p [] S = none := by
        cases z : wrongF p [] S with
        | none => rfl
        | some g =>
          simp only [z] at e
          cases e
      intro σ3 H3 A3
      have al3 := A3.alls
      have x3 := al3 x _ hX
      have hn : ∀ (i : Nat) (e : En), ((([.im (.ref x), .im (.int p), .im (kd.d gs), .no, .no, .no] : List En).set 3 (.im (.lst (S.map Y.D.int)))).set 4 (.im (oD (wrongF p [] S))))[i]? = some e → e.addr = none := im_all rfl
      have B3 := A3.anew (Ext.refl M H3) A3.tr hn
      refine g_self (fs := []) B3 hn rfl hx x3 T.cl T.nP (by decide) (x_var rfl) fun H4 v4 B4 x4 r4 e4 k4 => ?_
      refine g_self (K := K) B4 hn rfl hx x4 T.cl T.nG (by show 1 < 1000; decide) (x_cb (a_cons (x_var rfl) a_nil) c_tuple) fun H5 v5 B5 x5 r5 e5 k5 => ?_
      refine g_self (K := K) B5 hn rfl hx x5 T.cl T.nK (by show 2 < 1000; decide) (x_dc (i_list (x_var rfl)) (by show 5 < 6; decide) hS.nodup ?_) fun H6 v6 B6 x6 r6 e6 k6 => ?_
      · obtain ⟨L, hL, h64⟩ := p5
        have := nodup_len hS.nodup (L := L) fun k hk => hL k ((hS.2 k).mp hk)
        omega
      · refine kq S hS hnone H6 (fun b o hb ho => k6 b o hb (k5 b o hb (k4 b o hb (al3 b o ho)))) fun N hN hxN => ?_
        exact .obj hxN x6 (.cons ((r4.mono (e5.trans e6)).sub hN) (.cons ((r5.mono e6).sub hN) (.cons (r6.sub hN) .nil)))
end
end Y

set_option Elab.async false
set_option linter.all false
set_option maxHeartbeats 4000000
/-! M1: plain mathematics of gaps (no program in sight). -/
namespace Y
theorem sorted_ext : ∀ {a b : List Int}, a.Pairwise (· < ·) → b.Pairwise (· < ·) → (∀ k, k ∈ a ↔ k ∈ b) → a = b
  | [], [], _, _, _ => rfl
  | [], y :: b, _, _, h => absurd ((h y).mpr (List.mem_cons_self ..)) (List.not_mem_nil)
  | x :: a, [], _, _, h => absurd ((h x).mp (List.mem_cons_self ..)) (List.not_mem_nil)
  | x :: a, y :: b, ha, hb, h => by
    have ha2 := List.pairwise_cons.mp ha
    have hb2 := List.pairwise_cons.mp hb
    have e : x = y := by
      rcases List.mem_cons.mp ((h x).mp (List.mem_cons_self ..)) with z | z
      · exact z
      · rcases List.mem_cons.mp ((h y).mpr (List.mem_cons_self ..)) with w | w
        · exact w.symm
        · have := ha2.1 y w
          have := hb2.1 x z
          omega
    subst e
    refine congrArg _ (sorted_ext ha2.2 hb2.2 fun k => ⟨fun hk => ?_, fun hk => ?_⟩)
    · rcases List.mem_cons.mp ((h k).mp (List.mem_cons_of_mem _ hk)) with z | z
      · have := ha2.1 k hk
        omega
      · exact z
    · rcases List.mem_cons.mp ((h k).mpr (List.mem_cons_of_mem _ hk)) with z | z
      · have := hb2.1 k hk
        omega
      · exact z
theorem Srt.uniq {S T xs : List Int} (a : Srt S xs) (b : Srt T xs) : S = T := sorted_ext a.1 b.1 fun k => (a.2 k).trans (b.2 k).symm
theorem Srt.self {S : List Int} (h : S.Pairwise (· < ·)) : Srt S S := ⟨h, fun _ => Iff.rfl⟩
def BadG (p : Int) (xs : List Int) (g : Int) : Prop := g % p ≠ 0 ∨ Lacks (g / p) p xs
theorem Lacks.ext {m p : Int} {xs ys : List Int} (h : ∀ k, 1 ≤ k → k < m → (p * k ∈ xs ↔ p * k ∈ ys)) : Lacks m p xs ↔ Lacks m p ys := by
  constructor
  · rintro ⟨k, h1, h2, h3, h4⟩
    exact ⟨k, h1, h2, h3, fun z => h4 ((h k h1 h2).mpr z)⟩
  · rintro ⟨k, h1, h2, h3, h4⟩
    exact ⟨k, h1, h2, h3, fun z => h4 ((h k h1 h2).mp z)⟩
theorem BadG.ext {p : Int} {xs ys : List Int} {g : Int} (h : ∀ k, k ∈ xs ↔ k ∈ ys) : BadG p xs g ↔ BadG p ys g := by
  unfold BadG
  rw [Lacks.ext (xs := xs) (ys := ys) fun k _ _ => h _]
theorem mul_lt_of {p k m : Int} (hp : 1 ≤ p) (h : k < m) : p * k < p * m := Int.mul_lt_mul_of_pos_left h (by omega)
theorem badG_known {p g : Int} {known r : List Int} (hp : 1 ≤ p) (hs : (known ++ g :: r).Pairwise (· < ·)) : BadG p known g ↔ BadG p (known ++ g :: r) g := by
  unfold BadG
  by_cases e : g % p = 0
  · have eg : p * (g / p) = g := Int.mul_ediv_cancel_of_emod_eq_zero e
    rw [Lacks.ext (xs := known) (ys := known ++ g :: r) fun k h1 h2 => ?_]
    have lt : p * k < g := by
      have := mul_lt_of hp h2
      omega
    refine ⟨fun z => List.mem_append_left _ z, fun z => ?_⟩
    rcases List.mem_append.mp z with z | z
    · exact z
    · have h3 := (List.pairwise_append.mp hs).2.1
      rcases List.mem_cons.mp z with z | z
      · omega
      · have := (List.pairwise_cons.mp h3).1 _ z
        omega
  · exact ⟨fun _ => .inl e, fun _ => .inl e⟩
theorem wrongF_none {p : Int} (hp : 1 ≤ p) : ∀ {r known : List Int}, (known ++ r).Pairwise (· < ·) → (wrongF p known r = none ↔ ∀ g ∈ r, ¬ BadG p (known ++ r) g)
  | [], known, _ => ⟨fun _ g hg => (nomatch hg), fun _ => rfl⟩
  | g :: r, known, hs => by
    have e : known ++ g :: r = (known ++ [g]) ++ r := by simp
    have ih := wrongF_none hp (r := r) (known := known ++ [g]) (by rw [← e]; exact hs)
    unfold wrongF
    have k := badG_known hp hs
    by_cases hb : g % p ≠ 0 ∨ Lacks (g / p) p known
    · rw [if_pos hb]
      exact ⟨fun z => (by cases z), fun z => absurd (k.mp hb) (z g (List.mem_cons_self ..))⟩
    · rw [if_neg hb, ih, ← e]
      refine ⟨fun z x hx => ?_, fun z x hx => z x (List.mem_cons_of_mem _ hx)⟩
      rcases List.mem_cons.mp hx with hx | hx
      · rw [hx]
        exact fun y => hb (k.mpr y)
      · exact z x hx
theorem wrongF_some {p w : Int} (hp : 1 ≤ p) : ∀ {r known : List Int}, (known ++ r).Pairwise (· < ·) → wrongF p known r = some w → w ∈ r ∧ BadG p (known ++ r) w ∧ ∀ g ∈ r, g < w → ¬ BadG p (known ++ r) g
  | [], known, _, h => by cases h
  | g :: r, known, hs, h => by
    have e : known ++ g :: r = (known ++ [g]) ++ r := by simp
    have k := badG_known hp hs
    unfold wrongF at h
    by_cases hb : g % p ≠ 0 ∨ Lacks (g / p) p known
    · rw [if_pos hb] at h
      cases h
      refine ⟨List.mem_cons_self .., k.mp hb, fun x hx hl => ?_⟩
      rcases List.mem_cons.mp hx with hx | hx
      · omega
      · have := (List.pairwise_cons.mp (List.pairwise_append.mp hs).2.1).1 x hx
        omega
    · rw [if_neg hb] at h
      obtain ⟨h1, h2, h3⟩ := wrongF_some hp (r := r) (known := known ++ [g]) (by rw [← e]; exact hs) h
      rw [← e] at h2 h3
      refine ⟨List.mem_cons_of_mem _ h1, h2, fun x hx hl => ?_⟩
      rcases List.mem_cons.mp hx with hx | hx
      · rw [hx]
        exact fun y => hb (k.mpr y)
      · exact h3 x hx hl
/-- gaps that are closed as they must be -/
def Clo (p : Int) (xs : List Int) : Prop := ∀ g ∈ xs, g % p = 0 ∧ ∀ k, 1 ≤ k → k < g / p → (g / p) % k = 0 → p * k ∈ xs
theorem clo_iff {p : Int} {xs : List Int} : Clo p xs ↔ ∀ g ∈ xs, ¬ BadG p xs g := by
  constructor
  · rintro h g hg (z | ⟨k, h1, h2, h3, h4⟩)
    · exact z (h g hg).1
    · exact h4 ((h g hg).2 k h1 h2 h3)
  · intro h g hg
    have z := h g hg
    refine ⟨?_, fun k h1 h2 h3 => ?_⟩
    · by_cases e : g % p = 0
      · exact e
      · exact absurd (.inl e) z
    · by_cases e : p * k ∈ xs
      · exact e
      · exact absurd (.inr ⟨k, h1, h2, h3, e⟩) z
theorem Clo.ext {p : Int} {xs ys : List Int} (h : Clo p xs) (e : ∀ k, k ∈ ys ↔ k ∈ xs) : Clo p ys := fun g hg => by
  obtain ⟨h1, h2⟩ := h g ((e g).mp hg)
  exact ⟨h1, fun k a b c => (e _).mpr (h2 k a b c)⟩
theorem good_of_clo {p : Int} {xs : List Int} (hp : 1 ≤ p) (h : Clo p xs) : ∀ S, Srt S xs → wrongF p [] S = none := fun S hS =>
  (wrongF_none hp (known := []) hS.1).mpr (clo_iff.mp (h.ext hS.2))
/-! products -/
theorem clo_mul {p : Int} {xs : List Int} (hp : 1 ≤ p) : Clo p xs ↔ ∀ g ∈ xs, ∃ m, g = p * m ∧ ∀ k c, 1 ≤ k → m = k * c → k < m → p * k ∈ xs := by
  constructor
  · intro h g hg
    obtain ⟨h1, h2⟩ := h g hg
    refine ⟨g / p, (Int.mul_ediv_cancel_of_emod_eq_zero h1).symm, fun k c a b d => h2 k a d ?_⟩
    rw [b]
    exact Int.mul_emod_right ..
  · intro h g hg
    obtain ⟨m, rfl, h2⟩ := h g hg
    have e : p * m / p = m := Int.mul_ediv_cancel_left _ (by omega)
    refine ⟨Int.mul_emod_right .., fun k a b c => ?_⟩
    rw [e] at b c
    obtain ⟨q, hq⟩ := Int.dvd_of_emod_eq_zero c
    exact h2 k q a hq b
theorem pos_of_mul {a b : Int} (ha : 1 ≤ a) (h : 1 ≤ a * b) : 1 ≤ b := by
  by_cases z : 1 ≤ b
  · exact z
  · have : a * b ≤ 0 := Int.mul_nonpos_of_nonneg_of_nonpos (by omega) (by omega)
    omega
theorem mul_pos1 {a b : Int} (ha : 1 ≤ a) (hb : 1 ≤ b) : 1 ≤ a * b := Int.mul_pos (by omega) (by omega)
theorem clo_times {p k : Int} {xs : List Int} (hp : 1 ≤ p) (hk : 1 ≤ k) (h : Clo p xs) : Clo (k * p) (xs.map (k * ·)) := by
  rw [clo_mul (mul_pos1 hk hp)]
  rw [clo_mul hp] at h
  intro g hg
  obtain ⟨g0, h0, rfl⟩ := List.mem_map.mp hg
  obtain ⟨m, rfl, h2⟩ := h g0 h0
  refine ⟨m, (Int.mul_assoc ..).symm, fun j c a b d => ?_⟩
  rw [Int.mul_assoc]
  exact List.mem_map.mpr ⟨p * j, h2 j c a b d, rfl⟩
/-- what of the gaps lies on a multiple of the period -/
theorem clo_sub {p s : Int} {xs : List Int} {ys : List Int} (hp : 1 ≤ p) (hs : 1 ≤ s) (h : Clo p xs) (hy : ∀ k, k ∈ ys → k ∈ xs ∧ k % (p * s) = 0) (hy2 : ∀ k, k ∈ xs → k % (p * s) = 0 → k ∈ ys) (h1 : ∀ k ∈ xs, 1 ≤ k) : Clo (p * s) ys := by
  rw [clo_mul (mul_pos1 hp hs)]
  rw [clo_mul hp] at h
  intro g hg
  obtain ⟨g1, g2⟩ := hy g hg
  obtain ⟨m, e1, h2⟩ := h g g1
  obtain ⟨m2, e2⟩ := Int.dvd_of_emod_eq_zero g2
  have e3 : m = s * m2 := by
    have : p * m = p * (s * m2) := by rw [← e1, e2, Int.mul_assoc]
    exact Int.eq_of_mul_eq_mul_left (by omega) this
  refine ⟨m2, e2, fun j c a b d => ?_⟩
  have : p * (s * j) ∈ xs := h2 (s * j) c (mul_pos1 hs a) (by rw [e3, b, Int.mul_assoc]) (by rw [e3]; exact mul_lt_of hs d)
  rw [← Int.mul_assoc] at this
  exact hy2 _ this (Int.mul_emod_right ..)
theorem clo_parts {p k d p' k' : Int} {xs ys : List Int} (hd : 1 ≤ d) (hp : 1 ≤ p') (hk : 1 ≤ k') (ep : p = d * p') (ek : k = d * k') (hc : ∀ a b, k' * a = p' * b → ∃ q, a = p' * q) (h : Clo p xs) (hy : ∀ y, y ∈ ys ↔ k * y ∈ xs) : Clo p' ys := by
  rw [clo_mul hp]
  rw [clo_mul (by rw [ep]; exact mul_pos1 hd hp)] at h
  intro g hg
  obtain ⟨m, e1, h2⟩ := h _ ((hy g).mp hg)
  have e2 : k' * g = p' * m := by
    have : d * (k' * g) = d * (p' * m) := by rw [← Int.mul_assoc, ← Int.mul_assoc, ← ep, ← ek, e1]
    exact Int.eq_of_mul_eq_mul_left (by omega) this
  obtain ⟨q, hq⟩ := hc g m e2
  have e3 : m = k' * q := by
    have : p' * m = p' * (k' * q) := by rw [← e2, hq, ← Int.mul_assoc, ← Int.mul_assoc, Int.mul_comm k' p']
    exact Int.eq_of_mul_eq_mul_left (by omega) this
  refine ⟨q, hq, fun j c a b e => (hy _).mpr ?_⟩
  have z := h2 (k' * j) c (mul_pos1 hk a) (by rw [e3, b, Int.mul_assoc]) (by rw [e3]; exact mul_lt_of hk e)
  have e4 : p * (k' * j) = k * (p' * j) := by
    rw [ep, ek, Int.mul_assoc, Int.mul_assoc, ← Int.mul_assoc p' k' j, Int.mul_comm p' k', Int.mul_assoc]
  rw [e4] at z
  exact z
theorem gcd_split {p k : Int} (hp : 1 ≤ p) (hk : 1 ≤ k) : ∃ d p' k' : Int, d = (Nat.gcd p.natAbs k.natAbs : Nat) ∧ 1 ≤ d ∧ 1 ≤ p' ∧ 1 ≤ k' ∧ p = d * p' ∧ k = d * k' ∧ ∀ a b, k' * a = p' * b → ∃ q, a = p' * q := by
  have hg : 0 < Nat.gcd p.natAbs k.natAbs := Nat.gcd_pos_of_pos_left _ (by omega)
  obtain ⟨a, ha⟩ := Nat.gcd_dvd_left p.natAbs k.natAbs
  obtain ⟨b, hb⟩ := Nat.gcd_dvd_right p.natAbs k.natAbs
  have ep : p = (Nat.gcd p.natAbs k.natAbs : Nat) * (a : Int) := by
    have : ((p.natAbs : Nat) : Int) = p := by omega
    rw [← this]
    have z : p.natAbs = Nat.gcd p.natAbs k.natAbs * a := ha
    rw [Int.natAbs_natCast]
    exact_mod_cast z
  have ek : k = (Nat.gcd p.natAbs k.natAbs : Nat) * (b : Int) := by
    have : ((k.natAbs : Nat) : Int) = k := by omega
    rw [← this]
    have z : k.natAbs = Nat.gcd p.natAbs k.natAbs * b := hb
    rw [Int.natAbs_natCast]
    exact_mod_cast z
  refine ⟨_, a, b, rfl, by omega, ?_, ?_, ep, ek, fun x y e => ?_⟩
  · exact pos_of_mul (a := ((Nat.gcd p.natAbs k.natAbs : Nat) : Int)) (by omega) (by rw [← ep]; exact hp)
  · exact pos_of_mul (a := ((Nat.gcd p.natAbs k.natAbs : Nat) : Int)) (by omega) (by rw [← ek]; exact hk)
  · have cop : Nat.Coprime a b := by
      have z := Nat.gcd_mul_left (Nat.gcd p.natAbs k.natAbs) a b
      rw [← ha, ← hb] at z
      have y : Nat.gcd p.natAbs k.natAbs * 1 = Nat.gcd p.natAbs k.natAbs * Nat.gcd a b := by omega
      exact (Nat.eq_of_mul_eq_mul_left hg y).symm
    have dv : (a : Int) ∣ (b : Int) * x := ⟨y, e⟩
    have dn : a ∣ b * x.natAbs := by
      have z := Int.natAbs_dvd_natAbs.mpr dv
      rw [Int.natAbs_mul, Int.natAbs_natCast, Int.natAbs_natCast] at z
      exact z
    have dv2 : (a : Int) ∣ x := Int.natAbs_dvd_natAbs.mp (by rw [Int.natAbs_natCast]; exact cop.dvd_of_dvd_mul_left dn)
    exact dv2
theorem clo_append {p : Int} {xs ys : List Int} (h1 : Clo p xs) (h2 : Clo p ys) : Clo p (xs ++ ys) := fun g hg => by
  rcases List.mem_append.mp hg with z | z
  · exact ⟨(h1 g z).1, fun k a b c => List.mem_append_left _ ((h1 g z).2 k a b c)⟩
  · exact ⟨(h2 g z).1, fun k a b c => List.mem_append_right _ ((h2 g z).2 k a b c)⟩
end Y

set_option Elab.async false
set_option linter.all false
set_option maxRecDepth 100000
set_option maxHeartbeats 4000000
/-! Y13: == over data. -/
namespace Y
open PySem L2
mutual
def D.pd : D → PyData
  | .non => .none
  | .bl b => .bool b
  | .int i => .int i
  | .str s => .str s
  | .lst l => .list (D.pds l)
  | .tup l => .tuple (D.pds l)
  | .ref _ => .none
  | .dct _ => .none
  | .obj _ _ => .none
  | .exc _ _ _ => .none
def D.pds : List D → List PyData
  | [] => []
  | d :: r => D.pd d :: D.pds r
end
mutual
def D.isP : D → Bool
  | .lst l => D.isPs l
  | .tup l => D.isPs l
  | .ref _ => false
  | .dct _ => false
  | .obj _ _ => false
  | .exc _ _ _ => false
  | _ => true
def D.isPs : List D → Bool
  | [] => true
  | d :: r => D.isP d && D.isPs r
end
section
variable {M : List Addr} {H : Hp} {K : PySem.W.Frag}
mutual
theorem dp_of : ∀ {v : V} {d : D}, Rep M H v d → d.isP = true → Dp K H v d.pd
  | _, _, .non, _ => .non
  | _, _, .bl b, _ => .bl b
  | _, _, .int b, _ => .int b
  | _, _, .str b, _ => .str b
  | _, _, .ref a, h => by cases h
  | _, _, .lst n e r, h => .lst (.inl (.inl e)) (dps_of r h)
  | _, _, .tup n e r, h => .tup (.inl (.inl e)) (dps_of r h)
  | _, _, .dct n e r, h => by cases h
  | _, _, .obj n e r, h => by cases h
  | _, _, .exc n e, h => by cases h
theorem dps_of : ∀ {v : List V} {d : List D}, RepL M H v d → D.isPs d = true → DpAll K H v (D.pds d)
  | _, _, .nil, _ => .nil
  | _, _, .cons r l, h => .cons (dp_of r (Bool.and_eq_true_iff.mp h).1) (dps_of l (Bool.and_eq_true_iff.mp h).2)
end
theorem r_eqD {x y : D} (hx : x.isP = true) (hy : y.isP = true) (sx : SeqAt.shaped x.pd = true) (sy : SeqAt.shaped y.pd = true) : RV (rEqD K) x y (Is (.bl (PyData.eqv x.pd y.pd))) := fun M H u v t r1 r2 Q q =>
  ⟨_, _, dp_of r1 hx, dp_of r2 hy, sx, sy, q _ _ H rfl (All.refl H) (.bl _)⟩
theorem r_neD {x y : D} (hx : x.isP = true) (hy : y.isP = true) (sx : SeqAt.shaped x.pd = true) (sy : SeqAt.shaped y.pd = true) : RV (rNeD K) x y (Is (.bl (!PyData.eqv x.pd y.pd))) := fun M H u v t r1 r2 Q q =>
  ⟨_, _, dp_of r1 hx, dp_of r2 hy, sx, sy, q _ _ H rfl (All.refl H) (.bl _)⟩
end
theorem isPs_ints : ∀ ns : List Int, D.isPs (ns.map D.int) = true
  | [] => rfl
  | n :: r => by
    show (true && D.isPs (r.map D.int)) = true
    rw [isPs_ints r]
    rfl
theorem pds_ints : ∀ ns : List Int, D.pds (ns.map D.int) = ns.map PyData.int
  | [] => rfl
  | n :: r => by
    show PyData.int n :: D.pds (r.map D.int) = _
    rw [pds_ints r]
    rfl
theorem lay_ints : ∀ ns : List Int, PyData.canLayAll0 (ns.map PyData.int) = true
  | [] => rfl
  | n :: r => by
    show (true && PyData.canLayAll0 (r.map PyData.int)) = true
    rw [lay_ints r]
    rfl
theorem depth_ints : ∀ ns : List Int, PyData.depthAll (ns.map PyData.int) = 0
  | [] => rfl
  | n :: r => by
    show max 0 (PyData.depthAll (r.map PyData.int)) = 0
    rw [depth_ints r]
    rfl
theorem eqv_ints : ∀ ns ms : List Int, PyData.eqvAll (ns.map PyData.int) (ms.map PyData.int) = decide (ns = ms)
  | [], [] => rfl
  | [], _ :: _ => rfl
  | _ :: _, [] => rfl
  | n :: r, m :: q => by
    show ((n == m) && PyData.eqvAll (r.map PyData.int) (q.map PyData.int)) = _
    rw [eqv_ints r q]
    by_cases h1 : n = m
    · by_cases h2 : r = q
      · simp [h1, h2]
      · simp [h1, h2]
    · simp [h1]
def tupI (ns : List Int) : D := .tup (ns.map D.int)
def lstI (ns : List Int) : D := .lst (ns.map D.int)
theorem shaped_lstI (ns : List Int) : SeqAt.shaped (lstI ns).pd = true := by
  show (PyData.canLayAll0 (D.pds (ns.map D.int)) && decide (PyData.depthAll (D.pds (ns.map D.int)) + 1 ≤ 64)) = true
  rw [pds_ints, lay_ints, depth_ints]
  rfl
theorem shaped_tupI (ns : List Int) : SeqAt.shaped (tupI ns).pd = true := shaped_lstI ns
theorem isP_lstI (ns : List Int) : (lstI ns).isP = true := isPs_ints ns
theorem isP_tupI (ns : List Int) : (tupI ns).isP = true := isPs_ints ns
section
variable {K : PySem.W.Frag}
theorem r_eqTI {ns ms : List Int} : RV (rEqD K) (.tup (ns.map D.int)) (.tup (ms.map D.int)) (Is (.bl (decide (ns = ms)))) :=
  (r_eqD (x := tupI ns) (y := tupI ms) (isP_tupI ns) (isP_tupI ms) (shaped_tupI ns) (shaped_tupI ms)).imp fun d h => by
    rw [h]
    show D.bl (PyData.eqvAll (D.pds (ns.map D.int)) (D.pds (ms.map D.int))) = _
    rw [pds_ints, pds_ints, eqv_ints]
theorem r_eqLI {ns ms : List Int} : RV (rEqD K) (.lst (ns.map D.int)) (.lst (ms.map D.int)) (Is (.bl (decide (ns = ms)))) :=
  (r_eqD (x := lstI ns) (y := lstI ms) (isP_lstI ns) (isP_lstI ms) (shaped_lstI ns) (shaped_lstI ms)).imp fun d h => by
    rw [h]
    show D.bl (PyData.eqvAll (D.pds (ns.map D.int)) (D.pds (ms.map D.int))) = _
    rw [pds_ints, pds_ints, eqv_ints]
theorem r_neLI {ns ms : List Int} : RV (rNeD K) (.lst (ns.map D.int)) (.lst (ms.map D.int)) (Is (.bl (!decide (ns = ms)))) :=
  (r_neD (x := lstI ns) (y := lstI ms) (isP_lstI ns) (isP_lstI ms) (shaped_lstI ns) (shaped_lstI ms)).imp fun d h => by
    rw [h]
    show D.bl (!PyData.eqvAll (D.pds (ns.map D.int)) (D.pds (ms.map D.int))) = _
    rw [pds_ints, pds_ints, eqv_ints]
end
end Y

set_option Elab.async false
set_option linter.all false
set_option maxRecDepth 100000
set_option maxHeartbeats 4000000
/-! Z5: the methods of Lengths: in, text, str, ==, within, least. -/
namespace Y
open PySem L2
/-- Lengths, as it is made -/
structure DInit (P : Program) (w : World) (K : PySem.W.Frag) (base : Heap) (mgs : Str → Option Value) (Cl CB T0 : Addr) (f : Addr) (fd : FuncData) (dv : Value) (g : List Value → List Value → List Value) : Prop where
  mks : Mk K Cl f
  ok : FnOk P w K mgs base (L2N.CX P w) 4 f fd ["self", "period", "gaps"] (spInit K Cl CB)
  bi : Binds K fd ["self", "period", "gaps"] []
  b1 : Binds K fd ["self", "period", "gaps"] [dv]
  v1 : Vals [.ref T0] [dv]
  kb : KBn K fd ["self", "period", "gaps"] 1 ["period", "gaps"] g (fun vs zs => vs ++ zs)
  t0 : ∀ H, SqT K H T0 []
def hasL (p : Int) (gs : List Int) (n : Int) : Bool := decide (n ≥ p) && (decide (n % p = 0) && !decide (n ∈ gs))
abbrev n_has : List Str := ["self", "number"]
theorem sc_has : FnScope n_has ["self", "number"] (defScope s_has) := ⟨rfl, rfl, rfl, by decide +kernel, rfl, by decide +kernel, by decide +kernel⟩
structure HasA where
  p : Int
  gs : List Int
  n : Int
def spHas (Cl : Addr) : Sp := spP (α := HasA) (fun a => [lenD Cl a.p a.gs, .int a.n]) (fun a => 1 ≤ a.p) (fun a d => d = .bl (hasL a.p a.gs a.n))
abbrev n_eq : List Str := ["self", "other"]
theorem sc_eq : FnScope n_eq ["self", "other"] (defScope s_eq) := ⟨rfl, rfl, rfl, by decide +kernel, rfl, by decide +kernel, by decide +kernel⟩
structure EqA where
  p : Int
  gs : List Int
  o : Sum (Int × List Int) Str
def EqA.d (Cl : Addr) : Sum (Int × List Int) Str → D
  | .inl q => lenD Cl q.1 q.2
  | .inr s => .str s
def EqA.b (p : Int) (gs : List Int) : Sum (Int × List Int) Str → Bool
  | .inl q => decide (p = q.1) && decide (gs = q.2)
  | .inr _ => false
def spEq (Cl : Addr) : Sp := spP (α := EqA) (fun a => [lenD Cl a.p a.gs, EqA.d Cl a.o]) (fun _ => True) (fun a d => d = .bl (EqA.b a.p a.gs a.o))
abbrev n_str : List Str := ["self"]
theorem sc_str : FnScope n_str ["self"] (defScope s_str) := ⟨rfl, rfl, rfl, by decide +kernel, rfl, by decide +kernel, by decide +kernel⟩
abbrev n_text : List Str := ["self", "words", "gap"]
theorem sc_text : FnScope n_text ["self"] (defScope s_text) := ⟨rfl, rfl, rfl, by decide +kernel, rfl, by decide +kernel, by decide +kernel⟩
def wordsT (gs : List Int) : Str := if gs = [] then "-" else Txt.join " " (gs.map fun g => (toString g : Str))
def textT (p : Int) (gs : List Int) : Str := ((("period " : Str) ++ (toString p : Str)) ++ (" gaps " : Str)) ++ wordsT gs
structure LenA where
  p : Int
  gs : List Int
/-- of sizes that texts and sums can be made of -/
def LenA.Ok (a : LenA) : Prop := 1 ≤ a.p ∧ a.p < 1000000000 ∧ (∀ g ∈ a.gs, 1 ≤ g ∧ g < 1000000000) ∧ a.gs.length < 1000
def spText (Cl : Addr) : Sp := spP (α := LenA) (fun a => [lenD Cl a.p a.gs]) (fun a => a.Ok) (fun a d => d = .str (textT a.p a.gs))
theorem sum_le : ∀ (l : List Str), (∀ x ∈ l, x.length ≤ 9) → (l.map (·.length)).sum ≤ l.length * 9
  | [], _ => Nat.zero_le _
  | x :: r, h => by
    have a := h x (List.mem_cons_self ..)
    have b := sum_le r fun y hy => h y (List.mem_cons_of_mem _ hy)
    simp only [List.map_cons, List.sum_cons, List.length_cons]
    omega
section
variable {P : Program} {w : World} {K : PySem.W.Frag} {mg : Str → Option Value} {base : Heap} {Cl : Addr}
theorem ok_has {f : Addr} {fd : FuncData} {kws : List (Str × V)} (T : Txt K mg Cl) (F : FunD K "__contains__" "Lengths.__contains__" (defArgs s_has) (defBody s_has) (defScope s_has) [] kws f fd) : FnOk P w K mg base CX0 1 f fd ["self", "number"] (spHas Cl) := by
  refine okP 0 F sc_has (fun _ _ => rfl) rfl fun cdv A outer s H E a hr hp => ⟨_, (pss_one (ps_ret (pe_and (pe_cmpR op_ge (pv 1) (pe_fld (pv 0) rfl) (nomark _)) (pe_and (pe_cmpR op_eq (pe_op op_mod (pv 1) (pe_fld (pv 0) rfl)) pe_int (nomark _)) (pe_one (pe_cmp (pc_dnotin (hu_of hr) (pv 1) (pe_fld (pv 0) rfl)) rfl)))))), ?_⟩
  intro C M D dn _ _
  obtain ⟨p, gs, n⟩ := a
  simp only at hp dn
  show Go C M [.im (lenD Cl p gs), .im (.int n)] _ D
  refine g_ret (x_andV (x_op (x_var rfl) (x_fld T.cl T.nP (x_var rfl) rfl) r_I0b) fun _ => x_andV (x_op (x_op (x_var rfl) (x_fld T.cl T.nP (x_var rfl) rfl) (r_Ii ?_)) x_int r_eqI) fun _ => x_notInD (x_var rfl) (x_fld T.cl T.nK (x_var rfl) rfl)) dn
  exact (by omega : (0 : Int) < p)
theorem ok_eq {f : Addr} {fd : FuncData} {kws : List (Str × V)} (T : Txt K mg Cl) (I : IsiC K Cl) (nS : PySem.W.kitOne K (.type "str") (.ref Cl) = some false) (F : FunD K "__eq__" "Lengths.__eq__" (defArgs s_eq) (defBody s_eq) (defScope s_eq) [] kws f fd) : FnOk P w K mg base CX0 1 f fd ["self", "other"] (spEq Cl) := by
  refine okP 0 F sc_eq (fun _ _ => rfl) rfl fun cdv A outer s H E a hr hp => ⟨_, (pss_cons (ps_if (pt_not (pt_val (pe_callB call_isi (by rfl) T.isinstance (by decide +kernel) (pa_cons (pv 1) (pa_cons (pe_glob (by rfl) T.Lengths (v := V.ref Cl) rfl) pa_nil))))) (pss_one (ps_ret pe_bl)) pss_nil)
 (pss_one (ps_ret (pe_and (pe_cmpR op_eq (pe_fld (pv 0) rfl) (pe_fld (pv 1) rfl) (nomark _)) (pe_one (pe_cmpR (op_eqD hr.units) (pe_fld (pv 0) rfl) (pe_fld (pv 1) rfl) (nomark _))))))), ?_⟩
  intro C M D dn _ _
  obtain ⟨p, gs, o⟩ := a
  simp only at dn
  show Go C M [.im (lenD Cl p gs), .im (EqA.d Cl o)] _ D
  cases o with
  | inl q =>
    obtain ⟨p2, g2⟩ := q
    refine g_seq (g_ifb (t_not (t_B (e_isiO I (x_var rfl)))) (fun e => by cases e) (fun _ => g_next ?_))
    exact g_ret (x_andV (x_op (x_fld T.cl T.nP (x_var rfl) rfl) (x_fld T.cl T.nP (x_var rfl) rfl) r_eqI) fun _ => x_op (x_fld T.cl T.nG (x_var rfl) rfl) (x_fld T.cl T.nG (x_var rfl) rfl) r_eqTI) dn
  | inr t =>
    refine g_seq (g_ifb (t_not (t_B (e_isiC (x_var rfl) rfl nS))) (fun _ => g_ret x_bl dn) (fun e => by cases e))
theorem ok_text {f : Addr} {fd : FuncData} {kws : List (Str × V)} (T : Txt K mg Cl) (F : FunD K "text" "Lengths.text" (defArgs s_text) (defBody s_text) (defScope s_text) [] kws f fd) : FnOk P w K mg base CX0 1 f fd ["self"] (spText Cl) := by
  refine okP 2 F sc_text (fun _ _ => rfl) rfl fun cdv A outer s H E a hr hp => ⟨_, (pss_cons (ps_setLc (i := 1) (own := [("gap", 2)]) (g := gName 2) rfl sc_text.nd rfl rfl (sw_true rfl rfl rfl (by decide +kernel)) (pi_tup (pe_fld (pv 0) rfl)) (blkOk_by (own := [("gap", 2)]) (N := n_text) (sc := defScope s_text) (by decide +kernel)) (fun _ _ _ _ _ => pg_name (i := 2) sc_text.nd rfl (Or.inl rfl)) (fun _ _ _ _ _ => pts_nil) (fun _ _ _ _ _ => (pe_callTy call_str_int (by rfl) T.str (by decide +kernel) (pa_cons (pv 2) pa_nil))))
 (pss_cons (ps_if (pt_not (pt_truth (pv 1) (by intro _; rfl))) (pss_one (ps_set (i := 1) sc_text.nd rfl (Or.inl rfl) (pe_lst (pa_cons pe_str pa_nil)))) pss_nil)
 (pss_one (ps_ret (pe_joined (.cons pe_str (.cons (pe_fmt (pe_fld (pv 0) rfl)) (.cons pe_str (.cons (pe_fmt (pe_join pe_str (pv 1))) PJ.nil))))))))), ?_⟩
  intro C M D dn _ _
  obtain ⟨p, gs⟩ := a
  obtain ⟨p1, p2, p3, p4⟩ := hp
  simp only at p1 p2 p3 p4 dn
  show Go C M [.im (lenD Cl p gs), .no, .no] _ D
  refine g_seq (g_set (x_lcI (ns := gs) (fun _ => true) (fun g => .str (toString g)) (i_tup (x_fld T.cl T.nG (x_var rfl) rfl)) (fun u hu => by cases hu; rfl) (by omega) fun n hn => ⟨t_yes, fun _ => x_cb (a_cons (x_var rfl) a_nil) (c_strI (log_small (by have := p3 n hn; omega) (p3 n hn).2))⟩) ?_)
  rw [List.filter_eq_self.mpr (fun _ _ => rfl)]
  dsimp only
  have hw : ∀ words : List Str, words = (if gs = [] then [("-" : Str)] else gs.map fun g => (toString g : Str)) → Go C M [.im (lenD Cl p gs), .im (.lst (words.map Y.D.str)), .no] (tRet (fun σ H Q => tJs [tC (.str "period "), tFmt (tFld K (tVar 0) "period"), tC (.str " gaps "), tFmt (tM1 (fun x xs H Q => ∃ a p, ∃ ys : List Str, x = .str a ∧ xs = [.ref p] ∧ (SqL K H p (ys.map V.str) ∨ SqT K H p (ys.map V.str)) ∧ (ys.map (·.length)).sum + ys.length * a.length ≤ 16777216 ∧ Q (.str (Txt.join a ys)) H) (tC (.str " ")) (tVar 1))] Str.empty σ H fun out H1 => Q (.str out) H1)) D := fun words hw => by
    have hb : ∀ x ∈ words, x.length ≤ 9 := fun x hx => by
      rw [hw] at hx
      split at hx
      · rw [List.mem_singleton.mp hx]
        decide
      · obtain ⟨g, hg, rfl⟩ := List.mem_map.mp hx
        have := p3 g hg
        exact len_num (by omega) (by omega)
    have hn : words.length ≤ 1000 := by
      rw [hw]
      split
      · decide
      · rw [List.length_map]
        omega
    have hs : (words.map (·.length)).sum ≤ words.length * 9 := sum_le _ fun x hx => hb x hx
    have h1 : (" " : Str).length = 1 := by decide
    have hj := join_len " " words
    rw [h1, Nat.mul_one] at hj
    have hp1 : ("period " : Str).length = 7 := by decide
    have hp2 : (" gaps " : Str).length = 6 := by decide
    have hp3 : (toString p : Str).length ≤ 9 := len_num (by omega) p2
    refine g_ret (e_js4 x_str (e_fmtI (x_fld T.cl T.nP (x_var rfl) rfl) (log_small (by omega) p2)) x_str (e_fmtS (x_join x_str (x_var rfl) ?_) ?_) ?_) (dn.imp ?_)
    · rw [h1]
      omega
    · omega
    · rw [hp1, hp2]
      omega
    · intro d hd
      rw [hd]
      have e : Txt.join " " words = wordsT gs := by
        rw [hw]
        unfold wordsT
        split
        · exact join_one ..
        · rfl
      rw [e]
      rfl
  refine g_seq (g_ifb (t_not (t_truth (x_var rfl))) (fun e => ?_) (fun e => g_next ?_))
  · have he : gs = [] := by
      cases gs with
      | nil => rfl
      | cons a r => cases e
    exact g_set (x_lst (a_cons x_str a_nil)) (hw ["-"] (by rw [if_pos he]))
  · have he : gs ≠ [] := by
      cases gs with
      | nil => cases e
      | cons a r => exact fun z => nomatch z
    have z := hw (gs.map fun g => (toString g : Str)) (by rw [if_neg he])
    rw [List.map_map] at z
    exact z
theorem ok_str {f f2 : Addr} {fd fd2 : FuncData} {kws : List (Str × V)} (T : Txt K mg Cl) (F : FunD K "__str__" "Lengths.__str__" (defArgs s_str) (defBody s_str) (defScope s_str) [] kws f fd) (mText : Mt P w K mg base CX0 Cl "text" 1 f2 fd2 ["self"] (spText Cl)) : FnOk P w K mg base CX0 2 f fd ["self"] (spText Cl) := by
  refine okP 0 F sc_str (fun _ _ => rfl) rfl fun cdv A outer s H E a hr hp => ⟨_, (pss_one (ps_ret (pe_callTy SkE.call_str_str (by rfl) T.str (by decide +kernel) (pa_cons (pe_meth0 (pv 0) T.cl mText.me mText.ok (hr.mono (by decide)) mText.bi .nil pass0) pa_nil)))), ?_⟩
  intro C M D dn _ _
  obtain ⟨p, gs⟩ := a
  simp only at hp dn
  show Go C M [.im (lenD Cl p gs)] _ D
  refine g_ret (x_cb (a_cons (x_meth (α := LenA) (a := ⟨p, gs⟩) (x_var rfl) rfl a_nil rfl hp) a_nil) ?_) dn
  intro M H us t r Q q
  cases r with
  | cons r1 r2 =>
    cases r2
    cases r1.str_inv
    exact ⟨_, rfl, q _ _ H rfl (All.refl H) (.str _)⟩
end
end Y

set_option Elab.async false
set_option linter.all false
set_option maxRecDepth 100000
set_option maxHeartbeats 4000000
/-! Z6: within, least, both, times, parts. -/
namespace Y
open PySem L2
theorem g_asgN2 {C : Ctx} {M : List Addr} {env : List En} {D : Ends} {te : TE} {i : Nat} {T : List Y.D → Prop} (h : EvN te env T) (k : ∀ p ds, T ds → p ∉ M → p ∉ C.M0 → Nx C (p :: M) (env.set i (.mu p ds)) D.nx) : Go C M env (tAsg te (gName i)) D := fun σ H A =>
  g_asgN h (fun p ds ht hp => k p ds ht hp fun z => hp (A.sub p z)) σ H A
abbrev n_within : List Str := ["self", "other", "gap"]
theorem sc_within : FnScope n_within ["self", "other"] (defScope s_within) := ⟨rfl, rfl, rfl, by decide +kernel, rfl, by decide +kernel, by decide +kernel⟩
abbrev n_least : List Str := ["self", "count", "numbers", "number"]
theorem sc_least : FnScope n_least ["self", "count"] (defScope s_least) := ⟨rfl, rfl, rfl, by decide +kernel, rfl, by decide +kernel, by decide +kernel⟩
abbrev n_both : List Str := ["self", "other", "period", "gap"]
theorem sc_both : FnScope n_both ["self", "other"] (defScope s_both) := ⟨rfl, rfl, rfl, by decide +kernel, rfl, by decide +kernel, by decide +kernel⟩
abbrev n_times : List Str := ["self", "k", "gap"]
theorem sc_times : FnScope n_times ["self", "k"] (defScope s_times) := ⟨rfl, rfl, rfl, by decide +kernel, rfl, by decide +kernel, by decide +kernel⟩
abbrev n_parts : List Str := ["self", "k", "period", "gap"]
theorem sc_parts : FnScope n_parts ["self", "k"] (defScope s_parts) := ⟨rfl, rfl, rfl, by decide +kernel, rfl, by decide +kernel, by decide +kernel⟩
structure TwoA where
  p : Int
  gs : List Int
  q : Int
  hs : List Int
def withinL (p : Int) (gs : List Int) (q : Int) (hs : List Int) : Bool := decide (p % q = 0) && hs.all fun g => !hasL p gs g
def spWithin (Cl : Addr) : Sp := spP (α := TwoA) (fun a => [lenD Cl a.p a.gs, lenD Cl a.q a.hs]) (fun a => 1 ≤ a.p ∧ 1 ≤ a.q) (fun a d => d = .bl (withinL a.p a.gs a.q a.hs))
/-- p, 2 p, .. -/
def mults (p : Int) (n : Nat) : List Int := (List.range n).map fun (j : Nat) => p * ((j : Int) + 1)
theorem mults_succ (p : Int) (n : Nat) : mults p (n + 1) = mults p n ++ [p * ((n : Int) + 1)] := by
  unfold mults
  rw [List.range_succ, List.map_append]
  rfl
theorem mults_nodup {p : Int} (hp : 1 ≤ p) (n : Nat) : (mults p n).Nodup := by
  unfold mults
  refine List.Pairwise.map _ (fun (a b : Nat) h => ?_) List.nodup_range
  intro e
  have := Int.eq_of_mul_eq_mul_left (by omega) e
  omega
def leastF (p : Int) (gs : List Int) (i : Nat) : List Int := (mults p i).filter fun k => !decide (k ∈ gs)
theorem leastF_len {p : Int} {gs : List Int} (hp : 1 ≤ p) (i : Nat) : i ≤ (leastF p gs i).length + gs.length := by
  have h1 : ((mults p i).filter fun k => decide (k ∈ gs)).length ≤ gs.length := nodup_len ((mults_nodup hp i).filter _) fun x hx => of_decide_eq_true (List.mem_filter.mp hx).2
  have h2 : ∀ l : List Int, (l.filter fun k => !decide (k ∈ gs)).length + (l.filter fun k => decide (k ∈ gs)).length = l.length := fun l => by
    induction l with
    | nil => rfl
    | cons x r ih =>
      rw [List.filter_cons, List.filter_cons]
      by_cases e : x ∈ gs
      · simp only [e, decide_true, Bool.not_true, Bool.false_eq_true, if_false, if_true, List.length_cons]
        omega
      · simp only [e, decide_false, Bool.not_false, Bool.false_eq_true, if_false, if_true, List.length_cons]
        omega
  have h3 := h2 (mults p i)
  have h4 : (mults p i).length = i := by
    unfold mults
    rw [List.length_map, List.length_range]
  show i ≤ ((mults p i).filter fun k => !decide (k ∈ gs)).length + gs.length
  omega
structure CntA where
  p : Int
  gs : List Int
  k : Int
def spLeast (Cl : Addr) : Sp := spP (α := CntA) (fun a => [lenD Cl a.p a.gs, .int a.k]) (fun a => 1 ≤ a.p ∧ 0 ≤ a.k ∧ a.k ≤ 1000) (fun a d => ∃ i, ((leastF a.p a.gs i).length : Int) = a.k ∧ d = .lst ((leastF a.p a.gs i).map D.int))
/-- period and gaps as a Lengths holds them, of sizes that stay small -/
structure LenOk (p : Int) (gs : List Int) : Prop where
  p1 : 1 ≤ p
  p2 : p ≤ 30000
  srt : gs.Pairwise (· < ·)
  clo : Clo p gs
  pos : ∀ g ∈ gs, 1 ≤ g ∧ g ≤ 1000000
  len : gs.length < 64
def bothL (p q : Int) (gs hs : List Int) : List Int := (gs ++ hs).filter fun g => decide (g % (Nat.lcm p.natAbs q.natAbs : Nat) = 0)
def spBoth (Cl : Addr) : Sp := spP (α := TwoA) (fun a => [lenD Cl a.p a.gs, lenD Cl a.q a.hs]) (fun a => LenOk a.p a.gs ∧ LenOk a.q a.hs ∧ ∃ L : List Int, (∀ k, k ∈ bothL a.p a.q a.gs a.hs → k ∈ L) ∧ L.length < 64)
  (fun a d => ∃ S, Srt S (bothL a.p a.q a.gs a.hs) ∧ d = lenD Cl (Nat.lcm a.p.natAbs a.q.natAbs : Nat) S)
def spTimes (Cl : Addr) : Sp := spP (α := CntA) (fun a => [lenD Cl a.p a.gs, .int a.k]) (fun a => LenOk a.p a.gs ∧ 1 ≤ a.k ∧ a.k ≤ 100) (fun a d => ∃ S, Srt S (a.gs.map (a.k * ·)) ∧ d = lenD Cl (a.k * a.p) S)
def partsL (gs : List Int) (k : Int) : List Int := (gs.filter fun g => decide (g % k = 0)).map (· / k)
def spParts (Cl : Addr) : Sp := spP (α := CntA) (fun a => [lenD Cl a.p a.gs, .int a.k]) (fun a => LenOk a.p a.gs ∧ 1 ≤ a.k ∧ a.k ≤ 100) (fun a d => ∃ S, Srt S (partsL a.gs a.k) ∧ d = lenD Cl (a.p / (Nat.gcd a.p.natAbs a.k.natAbs : Nat)) S)
section
variable {P : Program} {w : World} {K : PySem.W.Frag} {mg : Str → Option Value} {base : Heap} {Cl CB T0 : Addr}
theorem ok_within {f f2 : Addr} {fd fd2 : FuncData} {kws : List (Str × V)} (T : Txt K mg Cl) (F : FunD K "within" "Lengths.within" (defArgs s_within) (defBody s_within) (defScope s_within) [] kws f fd) (mHas : Mt P w K mg base CX0 Cl "__contains__" 1 f2 fd2 ["self", "number"] (spHas Cl)) : FnOk P w K mg base CX0 2 f fd ["self", "other"] (spWithin Cl) := by
  refine okP 1 F sc_within (fun _ _ => rfl) rfl fun cdv A outer s H E a hr hp => ⟨_, (pss_cons (ps_if (pt_cmpR op_ne (pe_op op_mod (pe_fld (pv 0) rfl) (pe_fld (pv 1) rfl)) pe_int (nomark _)) (pss_one (ps_ret pe_bl)) pss_nil)
 (pss_cons (ps_for PassesOwn.never rfl (pi_tup (pe_fld (pv 1) rfl)) (pg_name (i := 2) sc_within.nd rfl (Or.inl rfl))
 (pss_one (ps_if (pt_cmpR (op_ownIn mHas.ok (hr.mono (by decide)) mHas.me.1 mHas.me.2 mHas.bi pass0) (pv 2) (pv 0) rfl) (pss_one (ps_ret pe_bl)) pss_nil)))
 (pss_one (ps_ret pe_bl)))), ?_⟩
  intro C M D dn _ _
  obtain ⟨p, gs, q, hs⟩ := a
  obtain ⟨p1, p2⟩ := hp
  simp only at p1 p2 dn
  show Go C M [.im (lenD Cl p gs), .im (lenD Cl q hs), .no] _ D
  refine g_seq (g_ifb (t_test (x_op (x_op (x_fld T.cl T.nP (x_var rfl) rfl) (x_fld T.cl T.nP (x_var rfl) rfl) (r_Ii (by omega))) x_int r_neI)) (fun e => g_ret x_bl (dn.imp ?_)) (fun e => g_next ?_))
  · intro d hd
    rw [hd]
    have h : decide (p % q = 0) = false := by
      revert e
      cases decide (p % q = 0) <;> simp
    unfold withinL
    rw [h]
    rfl
  have h : decide (p % q = 0) = true := by
    revert e
    cases decide (p % q = 0) <;> simp
  dsimp only
  refine g_seq (g_for (fun i env => ∃ e2, env = [.im (lenD Cl p gs), .im (lenD Cl q hs), e2] ∧ ∀ g ∈ hs.take i, hasL p gs g = false) (i_tup (x_fld T.cl T.nG (x_var rfl) rfl)) ⟨.no, rfl, fun g hg => (nomatch hg)⟩ ?_ ?_)
  · rintro i d env hi ⟨e2, rfl, iv⟩ C' D' dn' nx' _ _
    obtain ⟨g, hg, rfl⟩ : ∃ g, hs[i]? = some g ∧ d = .int g := by
      rw [List.getElem?_map] at hi
      cases e0 : hs[i]? with
      | none =>
        rw [e0] at hi
        cases hi
      | some g =>
        rw [e0] at hi
        exact ⟨g, rfl, (Option.some.inj hi).symm⟩
    show Go C' M [.im (lenD Cl p gs), .im (lenD Cl q hs), .im (.int g)] _ D'
    refine g_ifb (b := hasL p gs g) (t_test (x_op (x_var rfl) (x_var rfl) (r_ownIn (α := HasA) (a := ⟨p, gs, g⟩) rfl p1 fun d hd => ⟨_, hd, rfl⟩))) (fun e => g_ret x_bl ((dn' _ dn).imp ?_)) (fun e => g_next ?_)
    · intro d hd
      rw [hd]
      have : (hs.all fun g => !hasL p gs g) = false := List.all_eq_false.mpr ⟨g, List.mem_of_getElem? hg, by rw [e]; decide⟩
      unfold withinL
      rw [this, Bool.and_false]
    · refine nx' _ ⟨_, rfl, fun x hx => ?_⟩
      rw [take_more hg] at hx
      rcases List.mem_append.mp hx with z | z
      · exact iv x z
      · rw [List.mem_singleton.mp z]
        exact e
  · rintro env ⟨e2, rfl, iv⟩
    refine g_ret x_bl (dn.imp ?_)
    intro d hd
    rw [hd]
    rw [List.length_map, List.take_length] at iv
    have : (hs.all fun g => !hasL p gs g) = true := List.all_eq_true.mpr fun g hg => by rw [iv g hg]; rfl
    unfold withinL
    rw [this, h]
    rfl
theorem ok_least {f : Addr} {fd : FuncData} {kws : List (Str × V)} (T : Txt K mg Cl) (F : FunD K "least" "Lengths.least" (defArgs s_least) (defBody s_least) (defScope s_least) [] kws f fd) : FnOk P w K mg base CX0 1 f fd ["self", "count"] (spLeast Cl) := by
  refine okP 2 F sc_least (fun _ _ => rfl) rfl fun cdv A outer s H E a hr hp => ⟨_, (pss_cons (ps_set (i := 2) sc_least.nd rfl (Or.inl rfl) (pe_lst pa_nil))
 (pss_cons (ps_set (i := 3) sc_least.nd rfl (Or.inl rfl) (pe_fld (pv 0) rfl))
 (pss_cons (ps_while PassesOwn.never (pt_cmpR op_lt (pe_callB call_len_seq (by rfl) T.len (by decide +kernel) (pa_cons (pv 2) pa_nil)) (pv 1) (nomark _))
 (pss_cons (ps_if (pt_cmp (pc_dnotin (hu_of hr) (pv 3) (pe_fld (pv 0) rfl))) (pss_one (ps_expr (pe_bm PySem.F.plainAttrs_list PySem.F.slot_list_append PySem.F.type_list_append mt_append (pv 2) (pa_cons (pv 3) pa_nil)))) pss_nil)
 (pss_one (ps_set (i := 3) sc_least.nd rfl (Or.inl rfl) (pe_op op_add (pv 3) (pe_fld (pv 0) rfl))))))
 (pss_one (ps_ret (pv 2)))))), ?_⟩
  intro C M D dn _ _
  obtain ⟨p, gs, k⟩ := a
  obtain ⟨p1, k0, k1⟩ := hp
  simp only at p1 k0 k1 dn
  show Go C M [.im (lenD Cl p gs), .im (.int k), .no, .no] _ D
  refine g_seq (g_asgN2 n_nil fun a ds e na na0 => ?_)
  subst e
  dsimp only
  refine g_seq (g_set (x_fld T.cl T.nP (x_var rfl) rfl) ?_)
  dsimp only
  show Nx C (a :: M) [.im (lenD Cl p gs), .im (.int k), .mu a [], .im (.int p)] _
  refine g_seq (g_while (fun m env => ∃ i, env = [.im (lenD Cl p gs), .im (.int k), .mu a ((leastF p gs i).map Y.D.int), .im (.int (p * ((i : Int) + 1)))] ∧ ((leastF p gs i).length : Int) ≤ k ∧ m = k.toNat + gs.length - i) (k.toNat + gs.length) ⟨0, ?_, k0, rfl⟩ ?_)
  · rw [show p * (((0 : Nat) : Int) + 1) = p by omega]
    rfl
  rintro m env ⟨i, rfl, hl, hm⟩
  have hi := leastF_len (gs := gs) p1 i
  refine (t_test (x_op (x_lenM rfl) (x_var rfl) r_I0b)).imp fun b hb => ⟨fun eb N hN => ?_, fun eb => ?_⟩
  · rw [List.length_map] at hb
    have hlt : ((leastF p gs i).length : Int) < k := of_decide_eq_true (hb.symm.trans eb)
    have es : leastF p gs (i + 1) = leastF p gs i ++ (if p * ((i : Int) + 1) ∈ gs then [] else [p * ((i : Int) + 1)]) := by
      unfold leastF
      rw [mults_succ, List.filter_append]
      by_cases e : p * ((i : Int) + 1) ∈ gs
      · simp [e]
      · simp [e]
    have fin : ∀ L : List Int, L = leastF p gs (i + 1) → (L.length : Int) ≤ k → Go C (a :: M) [.im (lenD Cl p gs), .im (.int k), .mu a (L.map Y.D.int), .im (.int (p * ((i : Int) + 1)))] (tAsg (tOp (rI0 fun i j => .int (i + j)) (tVar 3) (tFld K (tVar 0) "period")) (gName 3)) { D with nx := N, ct := N, bk := D.nx } := fun L hL hk => by
      refine g_set (x_op (x_var rfl) (x_fld T.cl T.nP (x_var rfl) rfl) r_I0i) (hN (k.toNat + gs.length - (i + 1)) _ (by omega) ⟨i + 1, ?_, by rw [← hL]; exact hk, rfl⟩)
      have e : p * ((i : Int) + 1) + p = p * (((i + 1 : Nat) : Int) + 1) := by
        rw [Int.mul_add p ((i : Int) + 1 : Int) 1 |> fun z => (by push_cast; exact z : p * (((i + 1 : Nat) : Int) + 1) = p * ((i : Int) + 1) + p * 1), Int.mul_one]
      rw [e, ← hL]
      rfl
    refine g_seq (g_ifb (t_B (x_notInD (x_var rfl) (x_fld T.cl T.nK (x_var rfl) rfl))) (fun e => ?_) (fun e => g_next ?_))
    · have hne : p * ((i : Int) + 1) ∉ gs := by
        intro z
        rw [decide_eq_true z] at e
        cases e
      rw [if_neg hne] at es
      refine g_app rfl (by rw [List.length_map]; omega) (x_var rfl) fun d hd => ?_
      have z := fin (leastF p gs i ++ [p * ((i : Int) + 1)]) es.symm (by rw [List.length_append, List.length_singleton]; omega)
      rw [List.map_append] at z
      rw [hd]
      exact z
    · have hin : p * ((i : Int) + 1) ∈ gs := by
        by_cases z : p * ((i : Int) + 1) ∈ gs
        · exact z
        · rw [decide_eq_false z] at e
          cases e
      rw [if_pos hin, List.append_nil] at es
      exact fin _ es.symm hl
  · rw [List.length_map] at hb
    have hge : ¬ ((leastF p gs i).length : Int) < k := of_decide_eq_false (hb.symm.trans eb)
    refine g_freeze (i := 2) rfl na0 fun N hN => ?_
    exact g_ret (x_var rfl) (dn.imp fun d hd => ⟨i, by omega, hd⟩)
end
end Y

set_option Elab.async false
set_option linter.all false
set_option maxRecDepth 100000
set_option maxHeartbeats 4000000
/-! Z7: both, times, parts. -/
namespace Y
open PySem L2
section
variable {P : Program} {w : World} {K : PySem.W.Frag} {mg : Str → Option Value} {base : Heap} {Cl CB T0 : Addr} {fI : Addr} {fdI : FuncData} {dv : Value} {g0 : List Value → List Value → List Value}
theorem lcm_pos {p q : Int} (hp : 1 ≤ p) (hq : 1 ≤ q) (h1 : p ≤ 30000) (h2 : q ≤ 30000) : 1 ≤ ((Nat.lcm p.natAbs q.natAbs : Nat) : Int) ∧ ((Nat.lcm p.natAbs q.natAbs : Nat) : Int) < 1000000000 := by
  have a := Nat.lcm_pos (m := p.natAbs) (n := q.natAbs) (by omega) (by omega)
  have b : Nat.lcm p.natAbs q.natAbs ≤ p.natAbs * q.natAbs := by
    unfold Nat.lcm
    exact Nat.div_le_self ..
  have c : p.natAbs * q.natAbs ≤ 30000 * 30000 := Nat.mul_le_mul (by omega) (by omega)
  omega
theorem clo_both {p q : Int} {gs hs : List Int} (a : LenOk p gs) (b : LenOk q hs) : Clo (Nat.lcm p.natAbs q.natAbs : Nat) (bothL p q gs hs) := by
  have hz := lcm_pos a.p1 b.p1 a.p2 b.p2
  have ep : ((p.natAbs : Nat) : Int) = p := by have := a.p1; omega
  have eq : ((q.natAbs : Nat) : Int) = q := by have := b.p1; omega
  obtain ⟨s, hs1⟩ := Nat.dvd_lcm_left p.natAbs q.natAbs
  obtain ⟨t, ht1⟩ := Nat.dvd_lcm_right p.natAbs q.natAbs
  have e1 : ((Nat.lcm p.natAbs q.natAbs : Nat) : Int) = p * (s : Int) := by
    rw [hs1, Int.natCast_mul, ep]
  have e2 : ((Nat.lcm p.natAbs q.natAbs : Nat) : Int) = q * (t : Int) := by
    rw [ht1, Int.natCast_mul, eq]
  have s1 : 1 ≤ (s : Int) := pos_of_mul a.p1 (by rw [← e1]; exact hz.1)
  have t1 : 1 ≤ (t : Int) := pos_of_mul b.p1 (by rw [← e2]; exact hz.1)
  have c1 : Clo (Nat.lcm p.natAbs q.natAbs : Nat) (gs.filter fun g => decide (g % (Nat.lcm p.natAbs q.natAbs : Nat) = 0)) := by
    rw [e1]
    refine clo_sub a.p1 s1 a.clo (fun k hk => ?_) (fun k h1 h2 => List.mem_filter.mpr ⟨h1, decide_eq_true h2⟩) fun k hk => (a.pos k hk).1
    exact ⟨(List.mem_filter.mp hk).1, of_decide_eq_true (List.mem_filter.mp hk).2⟩
  have c2 : Clo (Nat.lcm p.natAbs q.natAbs : Nat) (hs.filter fun g => decide (g % (Nat.lcm p.natAbs q.natAbs : Nat) = 0)) := by
    rw [e2]
    refine clo_sub b.p1 t1 b.clo (fun k hk => ?_) (fun k h1 h2 => List.mem_filter.mpr ⟨h1, decide_eq_true h2⟩) fun k hk => (b.pos k hk).1
    exact ⟨(List.mem_filter.mp hk).1, of_decide_eq_true (List.mem_filter.mp hk).2⟩
  unfold bothL
  rw [List.filter_append]
  exact clo_append c1 c2
theorem ok_both {f : Addr} {fd : FuncData} {kws : List (Str × V)} (T : Txt K mg Cl) (F : FunD K "both" "Lengths.both" (defArgs s_both) (defBody s_both) (defScope s_both) [] kws f fd) (dInit : DInit P w K base mg Cl CB T0 fI fdI dv g0) : FnOk P w K mg base CX0 6 f fd ["self", "other"] (spBoth Cl) := by
  refine okP 2 F sc_both (fun _ _ => rfl) rfl fun cdv A outer s H E a hr hp => ⟨_, (pss_cons (ps_set (i := 2) sc_both.nd rfl (Or.inr rfl) (pe_callBfun cr_lcm (by rfl) T.lcm (pa_cons (pe_fld (pv 0) rfl) (pa_cons (pe_fld (pv 1) rfl) pa_nil))))
 (pss_one (ps_ret (pe_make dInit.mks dInit.ok (hr.mono (by decide)) (by rfl) T.Lengths dInit.bi .nil passN (pa_cons (pv 2) (pa_cons (pe_lc (own := [("gap", 3)]) (g := gName 3) rfl sc_both.nd (pi_tup (pe_op op_catA (pe_fld (pv 0) rfl) (pe_fld (pv 1) rfl))) (blkOk_by (own := [("gap", 3)]) (N := n_both) (sc := defScope s_both) (by decide +kernel)) (fun _ _ _ _ _ => pg_name (i := 3) sc_both.nd rfl (Or.inl rfl)) (fun _ _ _ _ _ => (pts_one (pt_cmpR op_eq (pe_op op_mod (pv 3) (pv 2)) pe_int (nomark _)))) (fun _ _ _ _ _ => (pv 3))) pa_nil)))))), ?_⟩
  intro C M D dn _ _
  obtain ⟨p, gs, q, hs⟩ := a
  obtain ⟨a, b, hL⟩ := hp
  simp only at a b hL dn
  show Go C M [.im (lenD Cl p gs), .im (lenD Cl q hs), .no, .no] _ D
  have hz := lcm_pos a.p1 b.p1 a.p2 b.p2
  have ap := a.p1; have ap2 := a.p2; have bp := b.p1; have bp2 := b.p2
  refine g_seq (g_set (x_cb (a_cons (x_fld T.cl T.nP (x_var rfl) rfl) (a_cons (x_fld T.cl T.nP (x_var rfl) rfl) a_nil)) (c_lcm (by omega) (by omega))) ?_)
  dsimp only
  have hlen : (gs ++ hs).length ≤ 1000 := by have := a.len; have := b.len; rw [List.length_append]; omega
  have e1 : Ev (tOp (rCatA K) (tFld K (tVar 0) "gaps") (tFld K (tVar 1) "gaps")) [.im (lenD Cl p gs), .im (lenD Cl q hs), .im (.int (Nat.lcm p.natAbs q.natAbs : Nat)), .no] (Is (.tup ((gs ++ hs).map Y.D.int))) := by
    have hl : (gs.map Y.D.int).length + (hs.map Y.D.int).length ≤ 16000000 := by
      have := a.len
      have := b.len
      rw [List.length_map, List.length_map]
      omega
    have z : Ev (tOp (rCatA K) (tFld K (tVar 0) "gaps") (tFld K (tVar 1) "gaps")) [.im (lenD Cl p gs), .im (lenD Cl q hs), .im (.int (Nat.lcm p.natAbs q.natAbs : Nat)), .no] (Is (.tup (gs.map Y.D.int ++ hs.map Y.D.int))) := x_op (x_fld T.cl T.nG (x_var rfl) rfl) (x_fld T.cl T.nG (x_var rfl) rfl) (r_catA hl)
    rw [← List.map_append] at z
    exact z
  refine g_ret (x_make (a := ⟨(Nat.lcm p.natAbs q.natAbs : Nat), bothL p q gs hs, .lst⟩) (a_cons (x_var rfl) (a_cons (x_lcI (ns := gs ++ hs) (fun g => decide (g % (Nat.lcm p.natAbs q.natAbs : Nat) = 0)) Y.D.int (i_tup e1) (fun u hu => by cases hu; rfl) (by omega) fun n hn => ⟨t_test (x_op (x_op (x_var rfl) (x_var rfl) (r_Ii (by omega))) x_int r_eqI), fun _ => x_var rfl⟩) a_nil)) ?_ ?_) (dn.imp fun d hd => hd)
  · refine ⟨hz.1, hz.2, fun g hg => ?_, ?_, hL, trivial⟩
    · have := (List.mem_filter.mp hg).1
      rcases List.mem_append.mp this with z | z
      · have := a.pos g z
        omega
      · have := b.pos g z
        omega
    · exact Nat.le_trans (List.length_filter_le ..) hlen
  · exact good_of_clo hz.1 (clo_both a b)
theorem ok_times {f : Addr} {fd : FuncData} {kws : List (Str × V)} (T : Txt K mg Cl) (F : FunD K "times" "Lengths.times" (defArgs s_times) (defBody s_times) (defScope s_times) [] kws f fd) (dInit : DInit P w K base mg Cl CB T0 fI fdI dv g0) : FnOk P w K mg base CX0 6 f fd ["self", "k"] (spTimes Cl) := by
  refine okP 1 F sc_times (fun _ _ => rfl) rfl fun cdv A outer s H E a hr hp => ⟨_, (pss_one (ps_ret (pe_make dInit.mks dInit.ok (hr.mono (by decide)) (by rfl) T.Lengths dInit.bi .nil passN (pa_cons (pe_op op_mul (pv 1) (pe_fld (pv 0) rfl)) (pa_cons (pe_lc (own := [("gap", 2)]) (g := gName 2) rfl sc_times.nd (pi_tup (pe_fld (pv 0) rfl)) (blkOk_by (own := [("gap", 2)]) (N := n_times) (sc := defScope s_times) (by decide +kernel)) (fun _ _ _ _ _ => pg_name (i := 2) sc_times.nd rfl (Or.inl rfl)) (fun _ _ _ _ _ => pts_nil) (fun _ _ _ _ _ => (pe_op op_mul (pv 1) (pv 2)))) pa_nil))))), ?_⟩
  intro C M D dn _ _
  obtain ⟨p, gs, k⟩ := a
  obtain ⟨a, k1, k2⟩ := hp
  simp only at a k1 k2 dn
  show Go C M [.im (lenD Cl p gs), .im (.int k), .no] _ D
  have ap := a.p1; have ap2 := a.p2; have al := a.len
  have hkp : 1 ≤ k * p ∧ k * p ≤ 100 * p := ⟨mul_pos1 k1 ap, Int.mul_le_mul_of_nonneg_right k2 (by omega)⟩
  refine g_ret (x_make (a := ⟨k * p, gs.map (k * ·), .lst⟩) (a_cons (x_op (x_var rfl) (x_fld T.cl T.nP (x_var rfl) rfl) (r_Ii (.inl ⟨by omega, by omega⟩))) (a_cons ((x_lcI (ns := gs) (fun _ => true) (fun g => .int (k * g)) (i_tup (x_fld T.cl T.nG (x_var rfl) rfl)) (fun u hu => by cases hu; rfl) (by omega) fun n hn => ⟨t_yes, fun _ => x_op (x_var rfl) (x_var rfl) (r_Ii (.inl ⟨by omega, by omega⟩))⟩).to ?_) a_nil)) ?_ ?_) (dn.imp fun d hd => hd)
  · rw [List.filter_eq_self.mpr (fun _ _ => rfl)]
    show Y.D.lst _ = Y.D.lst ((gs.map (k * ·)).map Y.D.int)
    rw [List.map_map]
    rfl
  · refine ⟨hkp.1, by show k * p < 1000000000; omega, fun g hg => ?_, by show (gs.map (k * ·)).length ≤ 1000; rw [List.length_map]; omega, ⟨gs.map (k * ·), fun _ h => h, by rw [List.length_map]; exact al⟩, trivial⟩
    obtain ⟨x, hx, rfl⟩ := List.mem_map.mp hg
    have hx2 := a.pos x hx
    have z1 := mul_pos1 k1 hx2.1
    have z2 : k * x ≤ 100 * x := Int.mul_le_mul_of_nonneg_right k2 (by omega)
    exact ⟨z1, by show k * x < 1000000000; omega⟩
  · exact good_of_clo hkp.1 (clo_times ap k1 a.clo)
theorem ok_parts {f : Addr} {fd : FuncData} {kws : List (Str × V)} (T : Txt K mg Cl) (F : FunD K "parts" "Lengths.parts" (defArgs s_parts) (defBody s_parts) (defScope s_parts) [] kws f fd) (dInit : DInit P w K base mg Cl CB T0 fI fdI dv g0) : FnOk P w K mg base CX0 6 f fd ["self", "k"] (spParts Cl) := by
  refine okP 2 F sc_parts (fun _ _ => rfl) rfl fun cdv A outer s H E a hr hp => ⟨_, (pss_cons (ps_set (i := 2) sc_parts.nd rfl (Or.inl rfl) (pe_op op_fdiv (pe_fld (pv 0) rfl) (pe_callBfun cr_gcd (by rfl) T.gcd (pa_cons (pe_fld (pv 0) rfl) (pa_cons (pv 1) pa_nil)))))
 (pss_one (ps_ret (pe_make dInit.mks dInit.ok (hr.mono (by decide)) (by rfl) T.Lengths dInit.bi .nil passN (pa_cons (pv 2) (pa_cons (pe_lc (own := [("gap", 3)]) (g := gName 3) rfl sc_parts.nd (pi_tup (pe_fld (pv 0) rfl)) (blkOk_by (own := [("gap", 3)]) (N := n_parts) (sc := defScope s_parts) (by decide +kernel)) (fun _ _ _ _ _ => pg_name (i := 3) sc_parts.nd rfl (Or.inl rfl)) (fun _ _ _ _ _ => (pts_one (pt_cmpR op_eq (pe_op op_mod (pv 3) (pv 1)) pe_int (nomark _)))) (fun _ _ _ _ _ => (pe_op op_fdiv (pv 3) (pv 1)))) pa_nil)))))), ?_⟩
  intro C M D dn _ _
  obtain ⟨p, gs, k⟩ := a
  obtain ⟨a, k1, k2⟩ := hp
  simp only at a k1 k2 dn
  show Go C M [.im (lenD Cl p gs), .im (.int k), .no, .no] _ D
  have ap := a.p1; have ap2 := a.p2; have al := a.len
  obtain ⟨d, p', k', ed, d1, pp1, kk1, ep, ek, hc⟩ := gcd_split ap k1
  have epd : p / (Nat.gcd p.natAbs k.natAbs : Nat) = p' := by
    rw [← ed, ep]
    exact Int.mul_ediv_cancel_left _ (by omega)
  have dle : d ≤ k := by
    have : d * 1 ≤ d * k' := Int.mul_le_mul_of_nonneg_left kk1 (by omega)
    omega
  have ple : p' ≤ p := by
    have : 1 * p' ≤ d * p' := Int.mul_le_mul_of_nonneg_right d1 (by omega)
    omega
  refine g_seq (g_set (x_op (x_fld T.cl T.nP (x_var rfl) rfl) (x_cb (a_cons (x_fld T.cl T.nP (x_var rfl) rfl) (a_cons (x_var rfl) a_nil)) c_gcd) (r_Ii (⟨by omega, by omega⟩ : CDiv _ _))) ?_)
  dsimp only
  rw [epd]
  rw [epd] at dn
  have mem : ∀ y, y ∈ partsL gs k ↔ k * y ∈ gs := fun y => by
    unfold partsL
    constructor
    · intro h
      obtain ⟨g, hg, rfl⟩ := List.mem_map.mp h
      have hg2 := List.mem_filter.mp hg
      have e := of_decide_eq_true hg2.2
      rw [Int.mul_ediv_cancel_of_emod_eq_zero e]
      exact hg2.1
    · intro h
      exact List.mem_map.mpr ⟨k * y, List.mem_filter.mpr ⟨h, decide_eq_true (Int.mul_emod_right ..)⟩, Int.mul_ediv_cancel_left _ (by omega)⟩
  have plen : (partsL gs k).length < 64 := by
    unfold partsL
    rw [List.length_map]
    exact Nat.lt_of_le_of_lt (List.length_filter_le ..) al
  refine g_ret (x_make (a := ⟨p', partsL gs k, .lst⟩) (a_cons (x_var rfl) (a_cons ((x_lcI (ns := gs) (fun g => decide (g % k = 0)) (fun g => .int (g / k)) (i_tup (x_fld T.cl T.nG (x_var rfl) rfl)) (fun u hu => by cases hu; rfl) (by omega) fun n hn => ⟨t_test (x_op (x_op (x_var rfl) (x_var rfl) (r_Ii (by omega))) x_int r_eqI), fun _ => x_op (x_var rfl) (x_var rfl) (r_Ii (⟨by omega, by omega⟩ : CDiv _ _))⟩).to ?_) a_nil)) ?_ ?_) (dn.imp fun d hd => hd)
  · show Y.D.lst _ = Y.D.lst ((partsL gs k).map Y.D.int)
    unfold partsL
    rw [List.map_map]
    rfl
  · refine ⟨pp1, by show p' < 1000000000; omega, fun g hg => ?_, by show (partsL gs k).length ≤ 1000; omega, ⟨partsL gs k, fun _ h => h, plen⟩, trivial⟩
    have hx2 := a.pos _ ((mem g).mp hg)
    have z1 := pos_of_mul k1 hx2.1
    have z2 : 1 * g ≤ k * g := Int.mul_le_mul_of_nonneg_right k1 (by omega)
    exact ⟨z1, by omega⟩
  · exact good_of_clo pp1 (clo_parts d1 pp1 kk1 ep ek hc a.clo mem)
end
end Y

set_option Elab.async false
set_option linter.all false
set_option maxRecDepth 100000
set_option maxHeartbeats 4000000
/-! Z8: the jar of draws. -/
namespace Y
open PySem L2
/-- the jar's six items -/
def JL (cells : List Int) (ix left dig mix cnt : Int) : List D := [.lst (cells.map D.int), .int ix, .int left, .int dig, .int mix, .int cnt]
def JB (cells : List Int) (ix left mix : Int) : Prop := cells.length ≤ 63 ∧ 0 ≤ ix ∧ 0 ≤ left ∧ 0 ≤ mix ∧ mix < 2147483647
section
variable {C : Ctx} {M : List Addr} {env : List En} {σ : L2.St} {H : Hp} {j : Addr}
theorem At.jopen {r : List En} (A : At C M (.jar j :: r) σ H) : ∃ cells ix left dig mix cnt, JB cells ix left mix ∧ At C M (.mu j (JL cells ix left dig mix cnt) :: r) σ H := by
  obtain ⟨x, hx, h1, h2, h3, c, cells, ix, left, dig, mix, cnt, g1, g2, g3, g4, g5, g6, g7, g8⟩ := A.lt (i := 0) rfl
  have B := A.chg (o := .lst [.ref c, .int ix, .int left, .int dig, .int mix, .int cnt]) (e' := .mu j (JL cells ix left dig mix cnt)) (k := 0) rfl rfl rfl fun x s => ?_
  · have e : L2.upd H j (.lst [.ref c, .int ix, .int left, .int dig, .int mix, .int cnt]) = H := by
      funext b
      by_cases z : b = j
      · rw [z, upd_same, g1]
      · rw [upd_ne z]
    rw [e] at B
    exact ⟨cells, ix, left, dig, mix, cnt, ⟨g4, g5, g6, g7, g8⟩, B⟩
  · have nc : c ≠ j := fun z => g2 (z ▸ h2)
    exact ⟨s.1, s.2.1, s.2.2.1, _, upd_same, .cons (.lst g2 (by rw [upd_ne nc]; exact g3) (RepL.of_ints cells)) (.cons (.int _) (.cons (.int _) (.cons (.int _) (.cons (.int _) (.cons (.int _) .nil)))))⟩
theorem At.jclose {cells : List Int} {ix left dig mix cnt : Int} (A : At C M env σ H) (h0 : env[0]? = some (.mu j (JL cells ix left dig mix cnt))) (b : JB cells ix left mix) : At C M (env.set 0 (.jar j)) σ H := by
  obtain ⟨x, hx, h1, h2, h3, vs, h4, h5⟩ := A.lt h0
  obtain ⟨b1, b2, b3, b4, b5⟩ := b
  cases h5 with
  | cons r0 h5 =>
    cases h5 with
    | cons r1 h5 =>
      cases h5 with
      | cons r2 h5 =>
        cases h5 with
        | cons r3 h5 =>
          cases h5 with
          | cons r4 h5 =>
            cases h5 with
            | cons r5 h5 =>
              cases h5
              cases r1.int_inv
              cases r2.int_inv
              cases r3.int_inv
              cases r4.int_inv
              cases r5.int_inv
              obtain ⟨c, ws, rfl, hn, hc, rl⟩ := r0.lst_inv
              have ew := rl.ints
              subst ew
              have B := A.chg (o := .lst [.ref c, .int ix, .int left, .int dig, .int mix, .int cnt]) (e' := .jar j) (k := 0) h0 rfl rfl fun x s => ?_
              · have e : L2.upd H j (.lst [.ref c, .int ix, .int left, .int dig, .int mix, .int cnt]) = H := by
                  funext b
                  by_cases z : b = j
                  · rw [z, upd_same, h4]
                  · rw [upd_ne z]
                rw [e] at B
                exact B
              · have nc : c ≠ j := fun z => hn (z ▸ h2)
                exact ⟨s.1, s.2.1, s.2.2.1, c, cells, ix, left, dig, mix, cnt, upd_same, hn, by rw [upd_ne nc]; exact hc, b1, b2, b3, b4, b5⟩
end
theorem g_cut {C : Ctx} {M : List Addr} {env : List En} {D : Ends} {t : TS} (J : List En → Prop) (k : ∀ env, J env → Nx C M env D.nx) (h : ∀ N : L2.St → Hp → Prop, (∀ env, J env → Nx C M env N) → Go C M env t { D with nx := N }) : Go C M env t D := h D.nx k
theorem mod_b {a n : Int} (hn : 0 < n) : 0 ≤ a % n ∧ a % n < n := ⟨Int.emod_nonneg _ (by omega), Int.emod_lt_of_pos _ hn⟩
theorem r_pow {i j : Int} (h : CPow i j) : RV (rI CPow fun i j => .int (i ^ j.toNat)) (.int i) (.int j) (Is (.int (i ^ j.toNat))) := r_Ii h
theorem g_retM {C : Ctx} {M : List Addr} {env : List En} {D : Ends} {te : TE} {P : Y.D → Prop} {j : Addr} {cells : List Int} {ix left dig mix cnt : Int} (h : Ev te env P) (h0 : env[0]? = some (.mu j (JL cells ix left dig mix cnt))) (b : JB cells ix left mix) (k : DoneJ C D P j) : Go C M env (tRet te) D := fun σ H A =>
  h C M σ H A _ fun v d H1 p1 A1 e1 r1 => k M _ σ H1 v d p1 (A1.jclose h0 b) (by
    have hl : 0 < env.length := (List.getElem?_eq_some_iff.mp h0).1
    exact List.getElem?_set_self hl) r1
abbrev n_draw : List Str := ["jar", "many", "cell", "digit"]
theorem sc_draw : FnScope n_draw ["jar", "many"] (defScope s_draw) := ⟨rfl, rfl, rfl, by decide +kernel, rfl, by decide +kernel, by decide +kernel⟩
def spDraw : Sp := spJ (α := Int) (fun m => [.int m]) (fun m => 1 ≤ m ∧ m < 1000000000) (fun m d => ∃ k, 0 ≤ k ∧ k < m ∧ d = .int k)
section
variable {P : Program} {w : World} {K : PySem.W.Frag} {mg : Str → Option Value} {base : Heap} {Cl : Addr}
theorem ok_draw {f : Addr} {fd : FuncData} {kws : List (Str × V)} (T : Txt K mg Cl) (F : FunD K "_law_draw" "_law_draw" (defArgs s_draw) (defBody s_draw) (defScope s_draw) [] kws f fd) : FnOk P w K mg base CX0 1 f fd ["jar", "many"] spDraw := by
  refine okJ 2 F sc_draw (fun _ _ => rfl) rfl fun cdv A outer s H E a hr hp => ⟨_, (pss_cons (ps_asg (pe_op op_add (pe_ix ix_list (pv 0) pe_int (fun _ _ => rfl)) pe_int) (pg_sub (pv 0) pe_int set_list))
 (pss_cons (ps_if (PW.pt (pw_and (pt_cmpR op_eq (pe_ix ix_list (pv 0) pe_int (fun _ _ => rfl)) pe_int (nomark _)) (pw_and1 (pt_cmpR op_lt (pe_ix ix_list (pv 0) pe_int (fun _ _ => rfl)) (pe_callB call_len_seq (by rfl) T.len (by decide +kernel) (pa_cons (pe_ix ix_list (pv 0) pe_int (fun _ _ => rfl)) pa_nil)) (nomark _))))) (pss_cons (ps_set (i := 2) sc_draw.nd rfl (Or.inl rfl) (pe_ix ix_list (pe_ix ix_list (pv 0) pe_int (fun _ _ => rfl)) (pe_ix ix_list (pv 0) pe_int (fun _ _ => rfl)) (fun _ _ => rfl)))
 (pss_cons (ps_asg (pe_op op_add (pe_ix ix_list (pv 0) pe_int (fun _ _ => rfl)) pe_int) (pg_sub (pv 0) pe_int set_list))
 (pss_one (ps_if (pt_cmpR op_ge (pv 2) (pe_op op_pow pe_int pe_int) (nomark _)) (pss_cons (ps_asg (pv 2) (pg_sub (pv 0) pe_int set_list))
 (pss_one (ps_asg pe_int (pg_sub (pv 0) pe_int set_list)))) (pss_one (ps_asg (pe_op op_mod (pe_callTy call_int1 (by rfl) T.int (by decide +kernel) (pa_cons (pe_op op_add (pe_op op_add (pe_op op_mul (pe_ix ix_list (pv 0) pe_int (fun _ _ => rfl)) pe_int) (pe_op op_mod (pe_callTy call_int1 (by rfl) T.int (by decide +kernel) (pa_cons (pv 2) pa_nil)) pe_int)) pe_int) pa_nil)) pe_int) (pg_sub (pv 0) pe_int set_list))))))) pss_nil)
 (pss_cons (ps_if (pt_cmpR op_gt (pe_ix ix_list (pv 0) pe_int (fun _ _ => rfl)) pe_int (nomark _)) (pss_cons (ps_set (i := 3) sc_draw.nd rfl (Or.inl rfl) (pe_op op_mod (pe_callTy call_int1 (by rfl) T.int (by decide +kernel) (pa_cons (pe_ix ix_list (pv 0) pe_int (fun _ _ => rfl)) pa_nil)) (pv 1)))
 (pss_cons (ps_asg (pe_op op_sub (pe_ix ix_list (pv 0) pe_int (fun _ _ => rfl)) pe_int) (pg_sub (pv 0) pe_int set_list))
 (pss_cons (ps_asg (pe_ifExp (pt_cmpR op_gt (pe_ix ix_list (pv 0) pe_int (fun _ _ => rfl)) pe_int (nomark _)) (pe_op op_fdiv (pe_ix ix_list (pv 0) pe_int (fun _ _ => rfl)) (pv 1)) pe_int) (pg_sub (pv 0) pe_int set_list))
 (pss_one (ps_ret (pv 3)))))) pss_nil)
 (pss_cons (ps_asg (pe_op op_mod (pe_callTy call_int1 (by rfl) T.int (by decide +kernel) (pa_cons (pe_op op_add (pe_op op_add (pe_op op_add (pe_op op_mul (pe_op op_mul (pe_ix ix_list (pv 0) pe_int (fun _ _ => rfl)) (pe_ix ix_list (pv 0) pe_int (fun _ _ => rfl))) pe_int) (pe_op op_mul (pe_ix ix_list (pv 0) pe_int (fun _ _ => rfl)) pe_int)) (pe_op op_mul (pe_ix ix_list (pv 0) pe_int (fun _ _ => rfl)) pe_int)) pe_int) pa_nil)) pe_int) (pg_sub (pv 0) pe_int set_list))
 (pss_one (ps_ret (pe_op op_mod (pe_callTy call_int1 (by rfl) T.int (by decide +kernel) (pa_cons (pe_op op_add (pe_op op_fdiv (pe_ix ix_list (pv 0) pe_int (fun _ _ => rfl)) pe_int) (pe_op op_mul (pe_op op_mod (pe_callTy call_int1 (by rfl) T.int (by decide +kernel) (pa_cons (pe_ix ix_list (pv 0) pe_int (fun _ _ => rfl)) pa_nil)) pe_int) pe_int)) pa_nil)) (pv 1)))))))), ?_⟩
  intro C M D j dn σ H A
  obtain ⟨cells, ix, left, dig, mix, cnt, b, A⟩ := At.jopen A
  obtain ⟨m1, m2⟩ := hp
  refine (?_ : Go C M [.mu j (JL cells ix left dig mix cnt), .im (.int a), .no, .no] _ _) _ _ A
  refine g_seq (g_setI (j := 5) rfl (by show 5 < 6; decide) (x_op (x_ixM rfl x_int rfl) x_int r_I0i) fun d hd => ?_)
  subst hd
  dsimp only
  have hm : 0 < a := by omega
  refine g_seq (g_cut (fun env => ∃ ix left dig mix e2, env = [.mu j (JL cells ix left dig mix (cnt + 1)), .im (.int a), e2, .no] ∧ JB cells ix left mix) ?_ ?_)
  · rintro _ ⟨ix, left, dig, mix, e2, rfl, b⟩
    obtain ⟨b1, b2, b3, b4, b5⟩ := id b
    dsimp only
    refine g_seq (g_ifb (t_test (x_op (x_ixM rfl x_int rfl) x_int r_I0b)) (fun e => ?_) (fun e => g_next ?_))
    · -- a digit of the great cell
      have hl : 0 < left := by simpa using e
      refine g_seq (g_set (x_op (x_cb (a_cons (x_ixM rfl x_int rfl) a_nil) c_int) (x_var rfl) (r_Ii hm)) ?_)
      dsimp only
      refine g_seq (g_setI (j := 3) rfl (by show 3 < 6; decide) (x_op (x_ixM rfl x_int rfl) x_int r_I0i) fun d hd => ?_)
      subst hd
      dsimp only
      refine g_seq (g_setI (j := 2) rfl (by show 2 < 6; decide) (e_if (S := fun d => ∃ i : Int, 0 ≤ i ∧ d = .int i) (t_test (x_op (x_ixM rfl x_int rfl) x_int r_I0b)) (fun _ => (x_op (x_ixM rfl x_int rfl) (x_var rfl) (r_Ii ⟨hm, by omega⟩)).imp fun d hd => ⟨_, Int.ediv_nonneg b3 (by omega), hd⟩) (fun _ => x_int.imp fun d hd => ⟨0, Int.le_refl _, hd⟩)) fun d hd => ?_)
      obtain ⟨i, hi, rfl⟩ := hd
      exact g_retM (x_var rfl) rfl ⟨b1, b2, hi, b4, b5⟩ (fun M env σ H v d hd => dn M env σ H v d ⟨_, (mod_b hm).1, (mod_b hm).2, hd⟩)
    · -- a digit of the mixed number
      have mm : 0 ≤ mix * mix ∧ mix * mix ≤ 2147483647 * 2147483647 := ⟨Int.mul_nonneg b4 b4, Int.mul_le_mul (by omega) (by omega) b4 (by omega)⟩
      have m47 := mod_b (a := mix * mix * 40692 + mix * 69621 + (cnt + 1) * 1000003 + 7919) (n := 2147483647) (by omega)
      dsimp only
      refine g_seq (g_setI (j := 4) rfl (by show 4 < 6; decide) (x_op (x_cb (a_cons (x_op (x_op (x_op (x_op (x_op (x_ixM rfl x_int rfl) (x_ixM rfl x_int rfl) (r_Ii (.inl ⟨by omega, by omega⟩))) x_int (r_Ii (.inl ⟨by omega, by omega⟩))) (x_op (x_ixM rfl x_int rfl) x_int (r_Ii (.inl ⟨by omega, by omega⟩))) r_I0i) (x_op (x_ixM rfl x_int rfl) x_int (r_Ii (.inr ⟨by omega, by omega⟩))) r_I0i) x_int r_I0i) a_nil) c_int) x_int (r_Ii (by omega))) fun d hd => ?_)
      subst hd
      dsimp only
      have m5 := mod_b (a := (mix * mix * 40692 + mix * 69621 + (cnt + 1) * 1000003 + 7919) % 2147483647) (n := 8191) (by omega)
      refine g_retM (x_op (x_cb (a_cons (x_op (x_op (x_ixM rfl x_int rfl) x_int (r_Ii (⟨by omega, by omega⟩ : CDiv _ _))) (x_op (x_op (x_cb (a_cons (x_ixM rfl x_int rfl) a_nil) c_int) x_int (r_Ii (by omega))) x_int (r_Ii (.inl ⟨by omega, by omega⟩))) r_I0i) a_nil) c_int) (x_var rfl) (r_Ii hm)) rfl ⟨b1, b2, b3, m47.1, m47.2⟩ (fun M env σ H v d hd => dn M env σ H v d ⟨_, (mod_b hm).1, (mod_b hm).2, hd⟩)
  · intro N hN
    obtain ⟨b1, b2, b3, b4, b5⟩ := id b
    refine g_ifb (t_and (t_test (x_op (x_ixM rfl x_int rfl) x_int r_eqI)) fun _ => t_test (x_op (x_ixM rfl x_int rfl) (x_cb (a_cons (x_ixM rfl x_int rfl) a_nil) c_lenL) r_I0b)) (fun e => ?_) (fun e => g_next (hN _ ⟨ix, left, dig, mix, .no, rfl, b⟩))
    have e2 := Bool.and_eq_true_iff.mp e
    have hlt : ix < ((cells.map Y.D.int).length : Int) := of_decide_eq_true e2.2
    rw [List.length_map] at hlt
    obtain ⟨n, rfl⟩ : ∃ n : Nat, ix = (n : Int) := ⟨ix.toNat, by omega⟩
    have hn : n < cells.length := by omega
    have hget : (cells.map Y.D.int)[n]? = some (.int cells[n]) := by
      rw [List.getElem?_map, List.getElem?_eq_getElem hn]
      rfl
    refine g_seq (g_set (x_op (x_ixM rfl x_int rfl) (x_ixM rfl x_int rfl) (r_ixL (atI_of hget))) ?_)
    dsimp only
    refine g_seq (g_setI (j := 1) rfl (by show 1 < 6; decide) (x_op (x_ixM rfl x_int rfl) x_int r_I0i) fun d hd => ?_)
    subst hd
    dsimp only
    refine g_ifb (t_test (x_op (x_var rfl) (x_op x_int x_int (r_Ii (⟨by decide, by decide, by decide⟩ : CPow 10 18))) r_I0b)) (fun e3 => ?_) (fun e3 => ?_)
    · have hc : cells[n] ≥ 10 ^ (18 : Int).toNat := of_decide_eq_true e3
      have hc0 : 0 ≤ cells[n] := by
        have : (0 : Int) ≤ 10 ^ (18 : Int).toNat := by decide
        omega
      refine g_seq (g_setI (j := 2) rfl (by show 2 < 6; decide) (x_var rfl) fun d hd => ?_)
      subst hd
      dsimp only
      refine g_setI (j := 3) rfl (by show 3 < 6; decide) x_int fun d hd => ?_
      subst hd
      exact hN _ ⟨n + 1, cells[n], 60, mix, _, rfl, ⟨b1, by omega, hc0, b4, b5⟩⟩
    · have m47 := mod_b (a := mix * 48271 + cells[n] % 2147483629 + 19) (n := 2147483647) (by omega)
      refine g_setI (j := 4) rfl (by show 4 < 6; decide) (x_op (x_cb (a_cons (x_op (x_op (x_op (x_ixM rfl x_int rfl) x_int (r_Ii (.inl ⟨by omega, by omega⟩))) (x_op (x_cb (a_cons (x_var rfl) a_nil) c_int) x_int (r_Ii (by omega))) r_I0i) x_int r_I0i) a_nil) c_int) x_int (r_Ii (by omega))) fun d hd => ?_
      subst hd
      exact hN _ ⟨n + 1, left, dig, _, _, rfl, ⟨b1, by omega, b3, m47.1, m47.2⟩⟩
end
end Y

set_option Elab.async false
set_option linter.all false
set_option maxRecDepth 100000
set_option maxHeartbeats 4000000
/-! Z9: _law_jar, _law_pick, _law_mixed, _law_divisor. -/
namespace Y
open PySem L2
theorem map_erase : ∀ (l : List Int) (n : Nat), (l.eraseIdx n).map D.int = (l.map D.int).eraseIdx n
  | [], _ => by simp
  | _ :: _, 0 => rfl
  | x :: l, n + 1 => congrArg _ (map_erase l n)
theorem erase_perm : ∀ {l : List Int} {n : Nat} {x : Int}, l[n]? = some x → (x :: l.eraseIdx n).Perm l
  | [], _, _, h => by simp at h
  | y :: l, 0, x, h => by
    have e := Option.some.inj h
    rw [← e]
    exact List.Perm.refl _
  | y :: l, n + 1, x, h => by
    have ih := erase_perm (l := l) (n := n) (x := x) (by simpa using h)
    exact (List.Perm.swap y x (l.eraseIdx n)).trans (ih.cons y)
theorem g_popapp {C : Ctx} {M : List Addr} {env : List En} {D : Ends} {te : TE} {K : PySem.W.Frag} {i k : Nat} {p q : Addr} {l m : List Y.D} (hi : env[i]? = some (.mu q m)) (hk : env[k]? = some (.mu p l)) (hik : i ≠ k) (hm : m.length < 16000000) (hl : l.length < 16000000)
    (h : Ev te env (fun d => ∃ n : Nat, n < l.length ∧ d = .int n)) (nx : ∀ n d, l[n]? = some d → Nx C M ((env.set k (.mu p (l.eraseIdx n))).set i (.mu q (m ++ [d]))) D.nx) :
    Go C M env (tDrop (tBM K "list" rAppend (tVar i) (tCons (tBM K "list" rPopAt (tVar k) (tCons te tNil)) tNil))) D := fun σ H A => by
  obtain ⟨h1, h2, h5, vs, h3, h4⟩ := A.getm hi
  obtain ⟨g1, g2, g5, ws, g3, g4⟩ := A.getm hk
  refine ⟨_, h1, .inl ⟨rfl, vs, SqL.of h3⟩, _, g1, .inl ⟨rfl, ws, SqL.of g3⟩, h C M σ H A _ fun v d H1 p1 A1 e1 r1 => ?_⟩
  obtain ⟨n, hn, rfl⟩ := p1
  cases r1.int_inv
  obtain ⟨b1, b2, b5, ws1, b3, b4⟩ := A1.getm hk
  have hnw : n < ws1.length := by rw [b4.length]; exact hn
  obtain ⟨d, hd, rd⟩ := b4.get' (List.getElem?_eq_getElem hnw)
  refine ⟨p, ws1, n, n, ws1[n], rfl, rfl, b3, by omega, by omega, ?_, List.getElem?_eq_getElem hnw, ?_⟩
  · exact PySem.seqIndex_of (k := (n : Int)) (by omega) (by omega)
  have A2 : At C M (env.set k (.mu p (l.eraseIdx n))) σ (upd H1 p (.lst (ws1.eraseIdx n))) := A1.chg hk rfl rfl fun x s => by
    obtain ⟨s1, s2, s3, vs', s4, s5⟩ := s
    rw [b3] at s4
    cases s4
    exact ⟨s1, s2, s3, _, upd_same, (s5.erase n).mono (Ext.at s2)⟩
  have hi2 : (env.set k (.mu p (l.eraseIdx n)))[i]? = some (.mu q m) := by
    rw [List.getElem?_set_ne (Ne.symm hik)]
    exact hi
  obtain ⟨c1, c2, c5, vs2, c3, c4⟩ := A2.getm hi2
  exact ⟨q, vs2, ws1[n], rfl, rfl, c3, by rw [c4.length]; exact Nat.lt_of_lt_of_le hm (by decide), nx n d hd _ _ (at_app A2 hi2 (rd.mono (Ext.at b2)) c3)⟩
abbrev n_jar : List Str := ["script", "mixed", "cell"]
theorem sc_jar : FnScope n_jar ["script"] (defScope s_jar) := ⟨rfl, rfl, rfl, by decide +kernel, rfl, by decide +kernel, by decide +kernel⟩
def spJar0 (K : PySem.W.Frag) : Sp := fun vs H Q _ => ∃ (a : Addr) (ns : List Int), vs = [.ref a] ∧ (∀ H', All H H' → SqL K H' a (ns.map V.int)) ∧ ns.length ≤ 63 ∧ ∀ j H', H j = none → All H H' → Jar [] H' j → Q (.ref j) H'
abbrev n_pick : List Str := ["jar", "menu"]
theorem sc_pick : FnScope n_pick ["jar", "menu"] (defScope s_pick) := ⟨rfl, rfl, rfl, by decide +kernel, rfl, by decide +kernel, by decide +kernel⟩
def spPick : Sp := spJ (α := List Int) (fun m => [.lst (m.map D.int)]) (fun m => m ≠ [] ∧ m.length < 1000) (fun m d => ∃ k, k ∈ m ∧ d = .int k)
abbrev n_mixed : List Str := ["jar", "things", "rest", "made", "turn"]
theorem sc_mixed : FnScope n_mixed ["jar", "things"] (defScope s_mixed) := ⟨rfl, rfl, rfl, by decide +kernel, rfl, by decide +kernel, by decide +kernel⟩
def spMixed : Sp := spJ (α := List Int) (fun m => [.lst (m.map D.int)]) (fun m => m.length < 1000) (fun m d => ∃ l : List Int, l.Perm m ∧ d = .lst (l.map D.int))
abbrev n_div : List Str := ["top", "low"]
theorem sc_div : FnScope n_div ["top", "low"] (defScope s_div) := ⟨rfl, rfl, rfl, by decide +kernel, rfl, by decide +kernel, by decide +kernel⟩
def spDiv : Sp := spP (α := Int × Int) (fun a => [.int a.1, .int a.2]) (fun a => 0 ≤ a.1 ∧ 0 ≤ a.2) (fun a d => d = .int (Nat.gcd a.1.natAbs a.2.natAbs : Nat))
section
variable {P : Program} {w : World} {K : PySem.W.Frag} {mg : Str → Option Value} {base : Heap} {Cl : Addr}
theorem ok_div {f : Addr} {fd : FuncData} {kws : List (Str × V)} (T : Txt K mg Cl) (F : FunD K "_law_divisor" "_law_divisor" (defArgs s_div) (defBody s_div) (defScope s_div) [] kws f fd) : FnOk P w K mg base CX0 1 f fd ["top", "low"] spDiv := by
  refine okP 0 F sc_div (fun _ _ => rfl) rfl fun cdv A outer s H E a hr hp => ⟨_, (pss_cons (ps_while PassesOwn.never (pt_cmpR op_ne (pv 1) pe_int (nomark _))
 (pss_one (ps_par (i := 0) (j := 1) (by rfl) sc_div.nd rfl rfl (by decide) rfl rfl (pa_cons (pv 1) (pa_cons (pe_op op_mod (pe_callTy call_int1 (by rfl) T.int (by decide +kernel) (pa_cons (pv 0) pa_nil)) (pv 1)) pa_nil)) (by rfl))))
 (pss_one (ps_ret (pv 0)))), ?_⟩
  intro C M D dn _ _
  obtain ⟨x, y⟩ := a
  obtain ⟨x0, y0⟩ := hp
  dsimp only at x0 y0 dn
  show Go C M [.im (.int x), .im (.int y)] _ D
  refine g_seq (g_while (fun m env => ∃ a b : Int, env = [.im (.int a), .im (.int b)] ∧ 0 ≤ a ∧ 0 ≤ b ∧ m = b.toNat ∧ Nat.gcd a.natAbs b.natAbs = Nat.gcd x.natAbs y.natAbs) y.toNat ⟨x, y, rfl, x0, y0, rfl, rfl⟩ ?_)
  rintro m env ⟨a, b, rfl, a0, b0, rfl, hg⟩
  refine (t_test (x_op (x_var rfl) x_int r_neI)).imp fun t ht => ⟨fun et N hN => ?_, fun et => g_ret (x_var rfl) (dn.imp fun d hd => ?_)⟩
  · have hb : b ≠ 0 := fun z => by
      subst z
      rw [et] at ht
      cases ht
    have h1 := mod_b (a := a) (n := b) (by omega)
    refine g_par (a_cons (x_var rfl) (a_cons (x_op (x_cb (a_cons (x_var rfl) a_nil) c_int) (x_var rfl) (r_Ii (by omega))) a_nil)) (hN _ _ (by omega : (a % b).toNat < b.toNat) ⟨b, a % b, rfl, b0, h1.1, rfl, ?_⟩)
    rw [← hg, Int.natAbs_emod_of_nonneg a0]
    rw [Nat.gcd_comm a.natAbs, Nat.gcd_rec b.natAbs a.natAbs, Nat.gcd_comm]
  · have hb : b = 0 := by
      by_cases z : b = 0
      · exact z
      · rw [decide_eq_false z, et] at ht
        cases ht
    subst hb
    rw [hd, ← hg]
    show Y.D.int a = Y.D.int ((Nat.gcd a.natAbs 0 : Nat) : Int)
    rw [Nat.gcd_zero_right]
    congr 1
    omega
theorem ok_pick {f f2 : Addr} {fd fd2 : FuncData} {kws : List (Str × V)} (T : Txt K mg Cl) (F : FunD K "_law_pick" "_law_pick" (defArgs s_pick) (defBody s_pick) (defScope s_pick) [] kws f fd) (dDraw : Dk P w K mg base CX0 "_law_draw" 1 f2 fd2 ["jar", "many"] spDraw) : FnOk P w K mg base CX0 2 f fd ["jar", "menu"] spPick := by
  refine okJ 0 F sc_pick (fun _ _ => rfl) rfl fun cdv A outer s H E a hr hp => ⟨_, (pss_one (ps_ret (pe_ix ix_list (pv 1) (pe_call dDraw.ok (hr.mono (by decide)) (by rfl) dDraw.mg dDraw.kp dDraw.bi .nil pass0 (pa_cons (pv 0) (pa_cons (pe_callB call_len_seq (by rfl) T.len (by decide +kernel) (pa_cons (pv 1) pa_nil)) pa_nil))) (fun _ _ => rfl)))), ?_⟩
  intro C M D j dn
  show Go C M [.jar j, .im (.lst (a.map Y.D.int))] _ D
  obtain ⟨h1, h2⟩ := hp
  have hl : 0 < a.length := List.length_pos_iff.mpr h1
  refine g_retJ (P := fun d => ∃ k, k ∈ a ∧ d = .int k) ?_ rfl dn
  refine e_op (P := Is (.lst (a.map Y.D.int))) (R := fun d => ∃ k, 0 ≤ k ∧ k < ((a.map Y.D.int).length : Int) ∧ d = .int k) (x_var rfl) (x_jar (α := Int) (a := ((a.map Y.D.int).length : Int)) rfl (a_cons (x_cb (a_cons (x_var rfl) a_nil) c_lenL) a_nil) ?_) ?_
  · rw [List.length_map]
    exact ⟨by omega, by omega⟩
  · rintro x y rfl ⟨k, k0, k1, rfl⟩
    rw [List.length_map] at k1
    obtain ⟨n, rfl⟩ : ∃ n : Nat, k = (n : Int) := ⟨k.toNat, by omega⟩
    have hn : n < a.length := by omega
    have hget : (a.map Y.D.int)[n]? = some (.int a[n]) := by
      rw [List.getElem?_map, List.getElem?_eq_getElem hn]
      rfl
    exact (r_ixL (atI_of hget)).imp fun d hd => ⟨a[n], List.getElem_mem hn, hd⟩
theorem ok_mixed {f f2 : Addr} {fd fd2 : FuncData} {kws : List (Str × V)} (T : Txt K mg Cl) (F : FunD K "_law_mixed" "_law_mixed" (defArgs s_mixed) (defBody s_mixed) (defScope s_mixed) [] kws f fd) (dDraw : Dk P w K mg base CX0 "_law_draw" 1 f2 fd2 ["jar", "many"] spDraw) : FnOk P w K mg base CX0 2 f fd ["jar", "things"] spMixed := by
  refine okJ 3 F sc_mixed (fun _ _ => rfl) rfl fun cdv A outer s H E a hr hp => ⟨_, (pss_cons (ps_set (i := 2) sc_mixed.nd rfl (Or.inl rfl) (pe_callTy call_list_of (by rfl) T.list (by decide +kernel) (pa_cons (pv 1) pa_nil)))
 (pss_cons (ps_set (i := 3) sc_mixed.nd rfl (Or.inl rfl) (pe_lst pa_nil))
 (pss_cons (ps_for PassesOwn.never rfl (pi_range1 (by rfl) T.range (pa_cons (pe_callB call_len_seq (by rfl) T.len (by decide +kernel) (pa_cons (pv 1) pa_nil)) pa_nil)) (pg_name (i := 4) sc_mixed.nd rfl (Or.inl rfl))
 (pss_one (ps_expr (pe_bm PySem.F.plainAttrs_list PySem.F.slot_list_append PySem.F.type_list_append mt_append (pv 3) (pa_cons (pe_bm PySem.F.plainAttrs_list PySem.F.slot_list_pop PySem.F.type_list_pop mt_popAt (pv 2) (pa_cons (pe_call dDraw.ok (hr.mono (by decide)) (by rfl) dDraw.mg dDraw.kp dDraw.bi .nil pass0 (pa_cons (pv 0) (pa_cons (pe_callB call_len_seq (by rfl) T.len (by decide +kernel) (pa_cons (pv 2) pa_nil)) pa_nil))) pa_nil)) pa_nil)))))
 (pss_one (ps_ret (pv 3)))))), ?_⟩
  intro C M D j dn
  show Go C M [.jar j, .im (.lst (a.map Y.D.int)), .no, .no, .no] _ D
  refine g_seq (g_asgN2 (n_list (x_var rfl)) fun p ds e np np0 => ?_)
  subst e
  dsimp only
  refine g_seq (g_asgN2 n_nil fun q ds e nq nq0 => ?_)
  subst e
  dsimp only
  show Nx C (q :: p :: M) [.jar j, .im (.lst (a.map Y.D.int)), .mu p (a.map Y.D.int), .mu q [], .no] _
  refine g_seq (g_for (fun i env => ∃ (l m : List Int) (e4 : En), env = [.jar j, .im (.lst (a.map Y.D.int)), .mu p (l.map Y.D.int), .mu q (m.map Y.D.int), e4] ∧ e4.addr = none ∧ l.length + i = a.length ∧ (l ++ m).Perm a) (i_rng1 (a_cons (x_cb (a_cons (x_var rfl) a_nil) c_lenL) a_nil) (by rw [List.length_map]; omega)) ⟨a, [], .no, rfl, rfl, rfl, by rw [List.append_nil]⟩ ?_ ?_)
  · rintro i d env hi ⟨l, m, e4, rfl, h4, hl, hperm⟩ C' D' dn' nx' _ _
    have hia : i < a.length := by
      have := (List.getElem?_eq_some_iff.mp hi).1
      rw [List.length_map, rng_len, List.length_map] at this
      omega
    have hml : m.length ≤ a.length := by
      have := hperm.length_eq
      rw [List.length_append] at this
      omega
    show Go C' (q :: p :: M) [.jar j, .im (.lst (a.map Y.D.int)), .mu p (l.map Y.D.int), .mu q (m.map Y.D.int), .im d] _ D'
    refine g_popapp (i := 3) (k := 2) rfl rfl (by decide) (by rw [List.length_map]; omega) (by rw [List.length_map]; omega) ((x_jar (α := Int) (a := ((l.map Y.D.int).length : Int)) rfl (a_cons (x_lenM rfl) a_nil) ?_).imp ?_) ?_
    · rw [List.length_map]
      exact ⟨by omega, by omega⟩
    · rintro d ⟨k, k0, k1, rfl⟩
      exact ⟨k.toNat, by omega, by congr 1; omega⟩
    · intro n y hn
      rw [List.getElem?_map] at hn
      cases e0 : l[n]? with
      | none =>
        rw [e0] at hn
        cases hn
      | some x =>
        rw [e0] at hn
        cases hn
        have hnl := (List.getElem?_eq_some_iff.mp e0).1
        have hx := (List.getElem?_eq_some_iff.mp e0).2
        refine nx' _ ⟨l.eraseIdx n, m ++ [x], .im d, ?_, rfl, ?_, ?_⟩
        · rw [List.map_append, map_erase]
          rfl
        · rw [List.length_eraseIdx_of_lt hnl]
          omega
        · refine List.Perm.trans ?_ hperm
          have z : (x :: l.eraseIdx n).Perm l := by
            exact erase_perm e0
          have z2 : (l.eraseIdx n ++ (m ++ [x])).Perm (x :: (l.eraseIdx n ++ m)) := by
            rw [← List.append_assoc]
            exact List.perm_append_singleton ..
          exact z2.trans (z.append_right m)
  · rintro env ⟨l, m, e4, rfl, h4, hl, hperm⟩
    rw [List.length_map, rng_len, List.length_map] at hl
    have hl0 : l = [] := List.eq_nil_of_length_eq_zero (by omega)
    subst hl0
    refine g_freeze (i := 3) rfl (by
      intro z
      exact nq0 z) fun N hN => ?_
    exact g_retJ (x_var rfl) rfl fun M env σ H v d hd => dn M env σ H v d ⟨m, hperm, hd⟩
end
end Y

set_option Elab.async false
set_option linter.all false
set_option maxRecDepth 100000
set_option maxHeartbeats 4000000
/-! Z10: _law_jar. -/
namespace Y
open PySem L2
section
variable {C : Ctx} {M : List Addr} {env : List En} {σ : L2.St} {H H' : Hp} {j : Addr}
/-- what a call has laid may change from now on -/
theorem At.open2 (A : At C M env σ H) (e : All H H') (hj : H j = none) (hj2 : H' j ≠ none) : At C (j :: M) env σ H' ∧ j ∉ M ∧ Own C j := by
  have np : j ∉ M := fun z => A.tr j z hj
  have np0 : j ∉ C.M0 := fun z => np (A.sub j z)
  refine ⟨⟨A.len, fun i en he x hx => ?_, A.nd, fun q hq => ((A.gh q hq).cons hj).mono e.ext, fun a ha => ?_, fun a ha => List.mem_cons_of_mem _ (A.sub a ha), fun a ha hn => ?_, fun a u n h => e a u (A.ext a u n h), fun a ha hja => ?_⟩, np, .inr np0⟩
  · have s := A.sl i en he x hx
    exact (s.cons hj).keep e.ext fun q hq => e.eq (A.tr q (s.own hq).1)
  · rcases List.mem_cons.mp ha with rfl | ha
    · exact hj2
    · rw [e.eq (A.tr a ha)]
      exact A.tr a ha
  · rcases List.mem_cons.mp ha with rfl | ha
    · cases q : C.H0 a with
      | none => rfl
      | some u =>
        rw [A.ext a u np0 q] at hj
        cases hj
    · exact A.fresh a ha hn
  · rw [e.eq (A.tr a (A.sub a ha)), A.keep a ha hja]
/-- a for whose walked thing is known at this entry alone -/
theorem g_forC {D : Ends} {wi : TI} {xs : List Y.D} {j : Nat} {tb : TS} (I : Nat → List En → Prop) (h : ∀ σ H, At C M env σ H → ∀ R : It → Hp → Prop, (∀ J St H', At C M env σ H' → Ext M H H' → Src J xs St → St M H' → R J H') → wi σ H R) (h0 : I 0 env)
    (hs : ∀ i d env', xs[i]? = some d → I i env' → ∀ (C' : Ctx) (D' : Ends), (∀ P, Done C D P → Done C' D' P) → (∀ env2, I (i + 1) env2 → Nx C' M env2 D'.nx) → (∀ env2, I (i + 1) env2 → Nx C' M env2 D'.ct) →
      (∀ env2, Nx C M env2 D.nx → Nx C' M env2 D'.bk) → Go C' M (env'.set j (.im d)) tb D')
    (hd : ∀ env', I xs.length env' → Nx C M env' D.nx) : Go C M env (tFor wi (gName j) tb) D := fun σ H A =>
  h σ H A _ fun J St H1 A1 e1 S s1 => by
    refine ⟨fun i m σ' H' => m = xs.length - i ∧ i ≤ xs.length ∧ ∃ env', I i env' ∧ At C M env' σ' H' ∧ St M H', ⟨xs.length, by simp, Nat.zero_le _, env, h0, A1, s1⟩, ?_⟩
    rintro i m σ2 H2 ⟨rfl, hi, env2, i2, B, st⟩
    by_cases hlt : i < xs.length
    · refine .inr ⟨S.go _ _ i st hlt, fun σ' H' => i + 1 ≤ xs.length ∧ ∃ env', I (i + 1) env' ∧ At C M env' σ' H' ∧ St M H', fun σ' H' ⟨g1, g2⟩ => ⟨xs.length - (i + 1), by omega, rfl, g1, g2⟩, fun x H3 y => ?_⟩
      obtain ⟨rfl, rx⟩ := S.yld _ _ i x H3 st y
      have rd := rx _ (List.getElem?_eq_getElem hlt)
      have B2 := B.puti j rd
      have keep : ∀ {env3 : List En} {σ3 : L2.St} {H4 : Hp}, At (inner M H3 (env2.set j (.im xs[i])) C.gh) M env3 σ3 H4 → St M H4 := fun {env3 σ3 H4} Z => S.mono _ _ _ Z.ext st
      refine hs i xs[i] env2 (List.getElem?_eq_getElem hlt) i2 _ _ (fun P dn M' env' σ' H' v d hp Z r => ?_) (fun env3 i3 σ3 H4 Z => ?_) (fun env3 i3 σ3 H4 Z => ?_) (fun env3 q3 σ3 H4 Z => ?_) _ _ B2.into
      · exact dn M' env' σ' H' v d hp (At.out' B2 Z) r
      · exact ⟨hlt, env3, i3, B2.out Z fun _ h => h, keep Z⟩
      · exact ⟨hlt, env3, i3, B2.out Z fun _ h => h, keep Z⟩
      · exact q3 σ3 H4 (B2.out Z fun _ h => h)
    · have ei : i = xs.length := by omega
      subst ei
      exact .inl ⟨S.stop _ _ st, hd env2 i2 _ _ B⟩
end
section
variable {P : Program} {w : World} {K : PySem.W.Frag} {mg : Str → Option Value} {base : Heap} {Cl : Addr}
theorem cut63 {α : Type} (l : List α) (h : l.length ≤ 63) : (l.drop (HT.sIx l.length 0 none)).take (HT.sIx l.length l.length (some 63) - HT.sIx l.length 0 none) = l := by
  have h1 : HT.sIx l.length 0 none = 0 := rfl
  have h2 : HT.sIx l.length l.length (some 63) = l.length := by
    unfold HT.sIx
    simp
    omega
  rw [h1, h2]
  simp
theorem ok_jar {f : Addr} {fd : FuncData} {kws : List (Str × V)} (T : Txt K mg Cl) (F : FunD K "_law_jar" "_law_jar" (defArgs s_jar) (defBody s_jar) (defScope s_jar) [] kws f fd) : FnOk P w K mg base CX0 1 f fd ["script"] (spJar0 K) := by
  refine F.ok sc_jar (fun vs H Q E h => ?_) (fun cdv A outer s H vs Q E hr h => ?_)
  · obtain ⟨a, ns, rfl, _⟩ := h
    rfl
  · obtain ⟨a, ns, rfl, hS, hl, k⟩ := h
    refine ⟨_, PSs.nox (pss_cons (ps_set (i := 1) sc_jar.nd rfl (Or.inl rfl) pe_int)
 (pss_cons (ps_for PassesOwn.never rfl (pi_list (pe_slice sl_list (pv 0) po_none (po_some pe_int))) (pg_name (i := 2) sc_jar.nd rfl (Or.inl rfl))
 (pss_one (ps_set (i := 1) sc_jar.nd rfl (Or.inl rfl) (pe_op op_mod (pe_callTy call_int1 (by rfl) T.int (by decide +kernel) (pa_cons (pe_op op_add (pe_op op_add (pe_op op_mul (pv 1) pe_int) (pe_op op_mod (pe_callTy call_int1 (by rfl) T.int (by decide +kernel) (pa_cons (pv 2) pa_nil)) pe_int)) pe_int) pa_nil)) pe_int))))
 (pss_one (ps_ret (pe_lst (pa_cons (pe_callTy call_list_of (by rfl) T.list (by decide +kernel) (pa_cons (pe_slice sl_list (pv 0) po_none (po_some pe_int)) pa_nil)) (pa_cons pe_int (pa_cons pe_int (pa_cons pe_int (pa_cons (pv 1) (pa_cons pe_int pa_nil))))))))))), ?_⟩
    have A0 : At ⟨[], H, [], []⟩ [] [.im (.ref a), .no, .no] (L2.start n_jar [.ref a]) H := start_at (ds := [.ref a]) 2 (.cons (.ref a) .nil) (fun x hx => nomatch hx) rfl
    refine (?_ : Go ⟨[], H, [], []⟩ [] [.im (.ref a), .no, .no] _ _) _ _ A0
    refine g_seq (g_set x_int ?_)
    dsimp only
    refine g_seq (g_forC (xs := ns.map Y.D.int) (fun i env => ∃ (m : Int) (e2 : En), env = [.im (.ref a), .im (.int m), e2] ∧ e2.addr = none ∧ 0 ≤ m ∧ m < 2147483647) (fun σ H1 A1 R hR => ?_) ⟨7919, .no, rfl, rfl, by decide, by decide⟩ ?_ ?_)
    · obtain ⟨v, hv, rv⟩ := A1.get (i := 0) rfl
      cases rv.ref_inv
      refine ⟨_, hv, 63, rfl, a, _, rfl, hS H1 A1.alls, fun p hp => ?_⟩
      rw [show cutV (ns.map V.int) none (some 63) = ns.map V.int from cut63 _ (by rw [List.length_map]; exact hl)]
      have a2 : All H1 (upd H1 p (.lst (ns.map V.int))) := All.new hp
      exact ⟨p, rfl, ⟨_, SqL.of upd_same⟩, hR _ _ _ (A1.all a2) a2.ext src_list (.lst (fun z => nomatch z) upd_same (RepL.of_ints ns))⟩
    · rintro i d env hi ⟨m, e2, rfl, he, m0, m1⟩ C' D' _ nx' _ _
      obtain ⟨n, rfl⟩ : ∃ n, d = .int n := by
        obtain ⟨n, _, e⟩ := List.mem_map.mp (List.mem_of_getElem? hi)
        exact ⟨n, e.symm⟩
      have mb := mod_b (a := m * 48271 + n % 2147483629 + 11) (n := 2147483647) (by omega)
      show Go C' [] [.im (.ref a), .im (.int m), .im (.int n)] _ D'
      refine g_set (x_op (x_cb (a_cons (x_op (x_op (x_op (x_var rfl) x_int (r_Ii (.inl ⟨by omega, by omega⟩))) (x_op (x_cb (a_cons (x_var rfl) a_nil) c_int) x_int (r_Ii (by omega))) r_I0i) x_int r_I0i) a_nil) c_int) x_int (r_Ii (by omega))) (nx' _ ⟨_, _, rfl, rfl, mb.1, mb.2⟩)
    · rintro env ⟨m, e2, rfl, he, m0, m1⟩ σ H1 A1
      obtain ⟨v, hv, rv⟩ := A1.get (i := 0) rfl
      cases rv.ref_inv
      obtain ⟨v1, hv1, rv1⟩ := A1.get (i := 1) rfl
      cases rv1.int_inv
      have al1 := A1.alls
      refine ⟨_, hv, 63, rfl, a, _, rfl, hS H1 al1, fun p hp => ?_⟩
      rw [show cutV (ns.map V.int) none (some 63) = ns.map V.int from cut63 _ (by rw [List.length_map]; exact hl)]
      refine ⟨p, _, rfl, .inl (SqL.of upd_same), fun l hl0 => ⟨_, hv1, by show 6 ≤ sizeLine; decide, fun q hq => ?_⟩⟩
      have al2 := (al1.trans (All.new (o := .lst (ns.map V.int)) hp)).trans (All.new (o := .lst (ns.map V.int)) hl0)
      have al3 := al2.trans (All.new (o := .lst [.ref l, .int 0, .int 0, .int 0, .int m, .int 0]) hq)
      refine k q _ ?_ al3 ⟨l, ns, 0, 0, 0, m, 0, upd_same, (fun z => nomatch z), ?_, hl, Int.le_refl _, Int.le_refl _, m0, m1⟩
      · cases e : H q with
        | none => rfl
        | some o =>
          rw [al2 q o e] at hq
          cases hq
      · have ne : l ≠ q := fun z => by
          rw [← z, upd_same] at hq
          cases hq
        rw [upd_ne ne, upd_same]
end
end Y

set_option Elab.async false
set_option linter.all false
set_option maxRecDepth 100000
set_option maxHeartbeats 4000000
/-! Y14: ranges with a positive step. -/
namespace Y
open PySem L2
/-- a, a + c, .. below b -/
def rngC (a b c : Int) : List Int := rng a c (Builtin.Range.rangeSize a b c).toNat
theorem rgC_pos {a b c : Int} (hc : 1 ≤ c) (hc2 : c < 1000000000) (ha : -1000000000 ≤ a) (ha2 : a ≤ 1000000000) (hb : -1000000000 ≤ b) (hb2 : b ≤ 1000000000) : RgC a b c (Builtin.Range.rangeSize a b c).toNat := by
  refine ⟨by omega, by omega, ?_, PyProof.Rows.rangeSize_toNat ..⟩
  unfold Builtin.Range.small
  have hs : 0 ≤ Builtin.Range.rangeSize a b c ∧ Builtin.Range.rangeSize a b c * c ≤ 4000000000 ∧ Builtin.Range.rangeSize a b c ≤ 4000000000 := by
    unfold Builtin.Range.rangeSize
    rw [if_pos (by omega)]
    split
    · rename_i h
      have h1 := Int.ediv_nonneg (a := b - a - 1) (b := c) (by omega) (by omega)
      have h2 : (b - a - 1) / c * c ≤ b - a - 1 := Int.ediv_mul_le _ (by omega)
      have h3 := Int.ediv_le_self c (show (0 : Int) ≤ b - a - 1 by omega)
      rw [Int.add_mul, Int.one_mul]
      omega
    · omega
  generalize Builtin.Range.rangeSize a b c = s at hs
  obtain ⟨h1, h2, h3⟩ := hs
  simp only [Builtin.Range.rangeFitsLong, Bool.and_eq_true, Bool.or_eq_true, decide_eq_true_eq, beq_iff_eq, show c > 0 by omega, if_true]
  omega
theorem mem_rngC {a b c x : Int} (hc : 1 ≤ c) : x ∈ rngC a b c ↔ ∃ k : Nat, x = a + (k : Int) * c ∧ x < b := by
  unfold rngC rng
  have hsz : ∀ k : Nat, k < (Builtin.Range.rangeSize a b c).toNat ↔ a + (k : Int) * c < b := fun k => by
    unfold Builtin.Range.rangeSize
    rw [if_pos (by omega)]
    have kc : 0 ≤ (k : Int) * c := Int.mul_nonneg (by omega) (by omega)
    split
    · rename_i h
      have h1 := Int.ediv_nonneg (a := b - a - 1) (b := c) (by omega) (by omega)
      have e : (k : Int) ≤ (b - a - 1) / c ↔ (k : Int) * c ≤ b - a - 1 := Int.le_ediv_iff_mul_le (by omega)
      constructor
      · intro z
        have := e.mp (by omega)
        omega
      · intro z
        have := e.mpr (by omega)
        omega
    · constructor
      · intro z
        simp at z
      · intro z
        omega
  constructor
  · intro h
    obtain ⟨k, hk, rfl⟩ := List.mem_map.mp h
    exact ⟨k, rfl, (hsz k).mp (List.mem_range.mp hk)⟩
  · rintro ⟨k, rfl, h⟩
    exact List.mem_map.mpr ⟨k, List.mem_range.mpr ((hsz k).mpr h), rfl⟩
theorem rng_pair {a c : Int} (hc : 1 ≤ c) (n : Nat) : (rng a c n).Pairwise (· < ·) := by
  unfold rng
  refine List.Pairwise.map _ (fun (x y : Nat) h => ?_) List.pairwise_lt_range
  have : (x : Int) * c < (y : Int) * c := Int.mul_lt_mul_of_pos_right (by omega) (by omega)
  omega
section
variable {env : List En} {ta : TA}
theorem i_rngC {a b c : Int} (h : EvA ta env (Is [.int a, .int b, .int c])) (hc : 1 ≤ c) (hc2 : c < 1000000000) (ha : -1000000000 ≤ a) (ha2 : a ≤ 1000000000) (hb : -1000000000 ≤ b) (hb2 : b ≤ 1000000000) : EvI (iRng3 ta) env ((rngC a b c).map D.int) :=
  i_rng3 h (rgC_pos hc hc2 ha ha2 hb hb2)
theorem rngC_len {a b c : Int} (hc : 1 ≤ c) : (rngC a b c).length ≤ (b - a).toNat + (a - b).toNat := by
  unfold rngC
  rw [rng_len]
  exact PyProof.Rows.rangeSize_toNat_le a b c
end
end Y

set_option Elab.async false
set_option linter.all false
set_option maxRecDepth 100000
set_option maxHeartbeats 4000000
/-! Z11: _law_has, _law_lengths_word, _law_bounded, _law_wrong. -/
namespace Y
open PySem L2
def bagD (s : Int) (gs : List Int) : D := .tup [.int s, .lst (gs.map D.int)]
abbrev n_lhas : List Str := ["bag", "num"]
theorem sc_lhas : FnScope n_lhas ["bag", "num"] (defScope s_lhas) := ⟨rfl, rfl, rfl, by decide +kernel, rfl, by decide +kernel, by decide +kernel⟩
def hasB (s : Int) (gs : List Int) (n : Int) : Bool := decide (n > 0) && (decide (n % s = 0) && !decide (n ∈ gs))
def spLHas : Sp := spP (α := HasA) (fun a => [bagD a.p a.gs, .int a.n]) (fun a => 1 ≤ a.p) (fun a d => d = .bl (hasB a.p a.gs a.n))
abbrev n_word : List Str := ["size", "missing", "one"]
theorem sc_word : FnScope n_word ["size", "missing"] (defScope s_word) := ⟨rfl, rfl, rfl, by decide +kernel, rfl, by decide +kernel, by decide +kernel⟩
def spWord : Sp := spP (α := LenA) (fun a => [.int a.p, .lst (a.gs.map D.int)]) (fun a => a.Ok) (fun a d => d = .str (textT a.p a.gs))
abbrev n_bnd : List Str := ["bag", "second"]
theorem sc_bnd : FnScope n_bnd ["bag", "second"] (defScope s_bnd) := ⟨rfl, rfl, rfl, by decide +kernel, rfl, by decide +kernel, by decide +kernel⟩
def spBnd : Sp := spP (α := TwoA) (fun a => [bagD a.p a.gs, bagD a.q a.hs]) (fun a => 1 ≤ a.p ∧ a.p < 1000000 ∧ 1 ≤ a.q ∧ a.q < 1000000 ∧ a.gs.length < 1000 ∧ a.hs.length < 1000)
  (fun a d => ∃ m, m ∈ 0 :: (a.gs ++ a.hs) ∧ (∀ y ∈ 0 :: (a.gs ++ a.hs), y ≤ m) ∧ d = .int (m + a.p * a.q * 2 + 1))
abbrev n_lwrong : List Str := ["size", "missing", "gap_", "one"]
theorem sc_lwrong : FnScope n_lwrong ["size", "missing"] (defScope s_lwrong) := ⟨rfl, rfl, rfl, by decide +kernel, rfl, by decide +kernel, by decide +kernel⟩
/-- the least gap that cannot be one -/
def LeastBad (p : Int) (xs : List Int) : Option Int → Prop
  | none => ∀ g ∈ xs, ¬ BadG p xs g
  | some w => w ∈ xs ∧ BadG p xs w ∧ ∀ g ∈ xs, g < w → ¬ BadG p xs g
def spLWrong : Sp := spP (α := LenA) (fun a => [.int a.p, .lst (a.gs.map D.int)]) (fun a => 1 ≤ a.p ∧ a.p < 1000000 ∧ (∀ g ∈ a.gs, 1 ≤ g ∧ g < 1000000) ∧ a.gs.length < 1000) (fun a d => ∃ r, LeastBad a.p a.gs r ∧ d = oD r)
section
variable {P : Program} {w : World} {K : PySem.W.Frag} {mg : Str → Option Value} {base : Heap} {Cl : Addr}
theorem ok_lhas {f : Addr} {fd : FuncData} {kws : List (Str × V)} (T : Txt K mg Cl) (F : FunD K "_law_has" "_law_has" (defArgs s_lhas) (defBody s_lhas) (defScope s_lhas) [] kws f fd) : FnOk P w K mg base CX0 1 f fd ["bag", "num"] spLHas := by
  refine okP 0 F sc_lhas (fun _ _ => rfl) rfl fun cdv A outer s H E a hr hp => ⟨_, (pss_one (ps_ret (pe_and (pe_cmpR op_gt (pv 1) pe_int (nomark _)) (pe_and (pe_cmpR op_eq (pe_op op_mod (pe_callTy call_int1 (by rfl) T.int (by decide +kernel) (pa_cons (pv 1) pa_nil)) (pe_ix ix_tup (pv 0) pe_int (fun _ _ => rfl))) pe_int (nomark _)) (pe_one (pe_cmpR op_notIn_seq (pv 1) (pe_ix ix_tup (pv 0) pe_int (fun _ _ => rfl)) rfl)))))), ?_⟩
  intro C M D dn _ _
  obtain ⟨p, gs, n⟩ := a
  dsimp only at hp dn
  show Go C M [.im (bagD p gs), .im (.int n)] _ D
  refine g_ret (x_andV (x_op (x_var rfl) x_int r_I0b) fun _ => x_andV (x_op (x_op (x_cb (a_cons (x_var rfl) a_nil) c_int) (x_op (x_var rfl) x_int (r_ixT rfl)) (r_Ii ?_)) x_int r_eqI) fun _ => x_op (x_var rfl) (x_op (x_var rfl) x_int (r_ixT rfl)) r_notInL) dn
  exact (by omega : (0 : Int) < p)
theorem ok_word {f : Addr} {fd : FuncData} {kws : List (Str × V)} (T : Txt K mg Cl) (F : FunD K "_law_lengths_word" "_law_lengths_word" (defArgs s_word) (defBody s_word) (defScope s_word) [] kws f fd) : FnOk P w K mg base CX0 1 f fd ["size", "missing"] spWord := by
  refine okP 1 F sc_word (fun _ _ => rfl) rfl fun cdv A outer s H E a hr hp => ⟨_, (pss_one (ps_ret (pe_op op_add_str (pe_op op_add_str (pe_op op_add_str pe_str (pe_callTy call_str_int (by rfl) T.str (by decide +kernel) (pa_cons (pv 0) pa_nil))) pe_str) (pe_ifExp (pt_cmpR op_gt (pe_callB call_len_seq (by rfl) T.len (by decide +kernel) (pa_cons (pv 1) pa_nil)) pe_int (nomark _)) (pe_join pe_str (pe_lc (own := [("one", 2)]) (g := gName 2) rfl sc_word.nd (pi_list (pv 1)) (blkOk_by (own := [("one", 2)]) (N := n_word) (sc := defScope s_word) (by decide +kernel)) (fun _ _ _ _ _ => pg_name (i := 2) sc_word.nd rfl (Or.inl rfl)) (fun _ _ _ _ _ => pts_nil) (fun _ _ _ _ _ => (pe_callTy call_str_int (by rfl) T.str (by decide +kernel) (pa_cons (pv 2) pa_nil))))) pe_str)))), ?_⟩
  intro C M D dn _ _
  obtain ⟨p, gs⟩ := a
  obtain ⟨p1, p2, p3, p4⟩ := hp
  dsimp only at p1 p2 p3 p4 dn
  show Go C M [.im (.int p), .im (.lst (gs.map Y.D.int)), .no] _ D
  have hb : ∀ x ∈ gs.map (fun g => (toString g : Str)), x.length ≤ 9 := fun x hx => by
    obtain ⟨g, hg, rfl⟩ := List.mem_map.mp hx
    have := p3 g hg
    exact len_num (by omega) (by omega)
  have hs := sum_le _ hb
  have h1 : (" " : Str).length = 1 := by decide
  have hj := join_len " " (gs.map (fun g => (toString g : Str)))
  rw [h1, Nat.mul_one] at hj
  rw [List.length_map] at hs hj
  have hp1 : ("period " : Str).length = 7 := by decide
  have hp2 : (" gaps " : Str).length = 6 := by decide
  have hp3 : (toString p : Str).length ≤ 9 := len_num (by omega) p2
  have hw : (wordsT gs).length ≤ 10000 := by
    unfold wordsT
    split
    · decide
    · omega
  refine g_ret (x_op (x_op (x_op x_str (x_cb (a_cons (x_var rfl) a_nil) (c_strI (log_small (by omega) p2))) (r_cat_str (by omega))) x_str (r_cat_str ?_)) (y := .str (wordsT gs)) (x_if (S := Is (.str (wordsT gs))) (t_test (x_op (x_cb (a_cons (x_var rfl) a_nil) c_lenL) x_int r_I0b)) (fun e => ?_) (fun e => ?_)) (r_cat_str ?_)) dn
  · rw [Str.length_append]
    omega
  · have hg : gs ≠ [] := fun z => by
      subst z
      cases e
    refine (x_join (ys := gs.map fun g => (toString g : Str)) x_str ((x_lcI (ns := gs) (fun _ => true) (fun g => .str (toString g)) (i_list (x_var rfl)) (fun u hu => by cases hu; rfl) (by omega) fun n hn => ⟨t_yes, fun _ => x_cb (a_cons (x_var rfl) a_nil) (c_strI (log_small (by have := p3 n hn; omega) (p3 n hn).2))⟩).to ?_) ?_).to ?_
    · rw [List.filter_eq_self.mpr (fun _ _ => rfl), List.map_map]
      rfl
    · rw [h1, List.length_map]
      omega
    · unfold wordsT
      rw [if_neg hg]
  · have hg : gs = [] := by
      cases gs with
      | nil => rfl
      | cons x r =>
        have := of_decide_eq_false e
        simp at this
    refine x_str.to ?_
    unfold wordsT
    rw [if_pos hg]
  · rw [Str.length_append, Str.length_append]
    omega
theorem ok_bnd {f : Addr} {fd : FuncData} {kws : List (Str × V)} (T : Txt K mg Cl) (F : FunD K "_law_bounded" "_law_bounded" (defArgs s_bnd) (defBody s_bnd) (defScope s_bnd) [] kws f fd) : FnOk P w K mg base CX0 1 f fd ["bag", "second"] spBnd := by
  refine okP 0 F sc_bnd (fun _ _ => rfl) rfl fun cdv A outer s H E a hr hp => ⟨_, (pss_one (ps_ret (pe_op op_add (pe_op op_add (pe_callB (cr_max rfl) (by rfl) T.max (by decide +kernel) (pa_cons (pe_op op_cat (pe_op op_cat (pe_lst (pa_cons pe_int pa_nil)) (pe_ix ix_tup (pv 0) pe_int (fun _ _ => rfl))) (pe_ix ix_tup (pv 1) pe_int (fun _ _ => rfl))) pa_nil)) (pe_op op_mul (pe_op op_mul (pe_ix ix_tup (pv 0) pe_int (fun _ _ => rfl)) (pe_ix ix_tup (pv 1) pe_int (fun _ _ => rfl))) pe_int)) pe_int))), ?_⟩
  intro C M D dn _ _
  obtain ⟨p, gs, q, hs⟩ := a
  obtain ⟨p1, p2, q1, q2, g1, h1⟩ := hp
  dsimp only at p1 p2 q1 q2 g1 h1 dn
  show Go C M [.im (bagD p gs), .im (bagD q hs)] _ D
  have pq : p * q ≤ 1000000 * 1000000 ∧ 0 ≤ p * q := ⟨Int.mul_le_mul (by omega) (by omega) (by omega) (by omega), Int.mul_nonneg (by omega) (by omega)⟩
  have e1 : Ev (tOp rCat (tOp rCat (tLst (tCons (tC (.int 0)) tNil)) (tOp (rIxT K) (tVar 0) (tC (.int 1)))) (tOp (rIxT K) (tVar 1) (tC (.int 1)))) [.im (bagD p gs), .im (bagD q hs)] (Is (.lst ((0 :: (gs ++ hs)).map Y.D.int))) := by
    have z := x_op (x_op (x_lst (a_cons (x_int (env := [.im (bagD p gs), .im (bagD q hs)]) (i := 0)) a_nil)) (x_op (x_var (i := 0) rfl) x_int (r_ixT (K := K) (i := 1) (l := [.int p, .lst (gs.map Y.D.int)]) rfl)) (r_cat (by simp only [List.length_map, List.length_cons, List.length_nil]; omega))) (x_op (x_var (i := 1) rfl) x_int (r_ixT (K := K) (i := 1) (l := [.int q, .lst (hs.map Y.D.int)]) rfl)) (r_cat (by simp only [List.length_map, List.length_cons, List.length_nil, List.length_append]; omega))
    refine z.to ?_
    rw [List.map_cons, List.map_append]
    rfl
  refine g_ret ((e_op (P := fun d => ∃ m, m ∈ 0 :: (gs ++ hs) ∧ (∀ y ∈ 0 :: (gs ++ hs), y ≤ m) ∧ d = .int (m + p * q * 2)) (R := Is (.int 1)) (S := fun d => ∃ m, m ∈ 0 :: (gs ++ hs) ∧ (∀ y ∈ 0 :: (gs ++ hs), y ≤ m) ∧ d = .int (m + p * q * 2 + 1)) (e_op (P := fun d => ∃ m, m ∈ 0 :: (gs ++ hs) ∧ (∀ y ∈ 0 :: (gs ++ hs), y ≤ m) ∧ d = .int m) (R := Is (.int (p * q * 2))) (x_cb (a_cons e1 a_nil) (c_max (by simp))) (x_op (x_op (x_op (x_var rfl) x_int (r_ixT rfl)) (x_op (x_var rfl) x_int (r_ixT rfl)) (r_Ii (.inl ⟨by omega, by omega⟩))) x_int (r_Ii (.inl ⟨by omega, by omega⟩))) ?_) x_int ?_)) dn
  · rintro x y ⟨m, m1, m2, rfl⟩ rfl
    exact r_I0i.imp fun d hd => ⟨m, m1, m2, hd⟩
  · rintro x y ⟨m, m1, m2, rfl⟩ rfl
    exact r_I0i.imp fun d hd => ⟨m, m1, m2, hd⟩
end
end Y

set_option Elab.async false
set_option linter.all false
set_option maxRecDepth 100000
set_option maxHeartbeats 4000000
/-! Z12: _law_wrong, _law_gap_list. -/
namespace Y
open PySem L2
section
variable {C : Ctx} {M : List Addr} {env : List En}
theorem for_core {σ : L2.St} {H1 : Hp} {J : It} {St : List Addr → Hp → Prop} {D : Ends} {xs : List Y.D} {j : Nat} {tb : TS} (I : Nat → List En → Prop) (A1 : At C M env σ H1) (S : Src J xs St) (s1 : St M H1) (h0 : I 0 env)
    (hs : ∀ i d env', xs[i]? = some d → I i env' → ∀ (C' : Ctx) (D' : Ends), (∀ P, Done C D P → Done C' D' P) → (∀ env2, I (i + 1) env2 → Nx C' M env2 D'.nx) → (∀ env2, I (i + 1) env2 → Nx C' M env2 D'.ct) →
      (∀ env2, Nx C M env2 D.nx → Nx C' M env2 D'.bk) → Go C' M (env'.set j (.im d)) tb D')
    (hd : ∀ env', I xs.length env' → Nx C M env' D.nx) : tFor (fun _ H R => R J H) (gName j) tb D σ H1 := by
  refine ⟨fun i m σ' H' => m = xs.length - i ∧ i ≤ xs.length ∧ ∃ env', I i env' ∧ At C M env' σ' H' ∧ St M H', ⟨xs.length, by simp, Nat.zero_le _, env, h0, A1, s1⟩, ?_⟩
  rintro i m σ2 H2 ⟨rfl, hi, env2, i2, B, st⟩
  by_cases hlt : i < xs.length
  · refine .inr ⟨S.go _ _ i st hlt, fun σ' H' => i + 1 ≤ xs.length ∧ ∃ env', I (i + 1) env' ∧ At C M env' σ' H' ∧ St M H', fun σ' H' ⟨g1, g2⟩ => ⟨xs.length - (i + 1), by omega, rfl, g1, g2⟩, fun x H3 y => ?_⟩
    obtain ⟨rfl, rx⟩ := S.yld _ _ i x H3 st y
    have rd := rx _ (List.getElem?_eq_getElem hlt)
    have B2 := B.puti j rd
    have keep : ∀ {env3 : List En} {σ3 : L2.St} {H4 : Hp}, At (inner M H3 (env2.set j (.im xs[i])) C.gh) M env3 σ3 H4 → St M H4 := fun {env3 σ3 H4} Z => S.mono _ _ _ Z.ext st
    refine hs i xs[i] env2 (List.getElem?_eq_getElem hlt) i2 _ _ (fun P dn M' env' σ' H' v d hp Z r => ?_) (fun env3 i3 σ3 H4 Z => ?_) (fun env3 i3 σ3 H4 Z => ?_) (fun env3 q3 σ3 H4 Z => ?_) _ _ B2.into
    · exact dn M' env' σ' H' v d hp (At.out' B2 Z) r
    · exact ⟨hlt, env3, i3, B2.out Z fun _ h => h, keep Z⟩
    · exact ⟨hlt, env3, i3, B2.out Z fun _ h => h, keep Z⟩
    · exact q3 σ3 H4 (B2.out Z fun _ h => h)
  · have ei : i = xs.length := by omega
    subst ei
    exact .inl ⟨S.stop _ _ st, hd env2 i2 _ _ B⟩
/-- a for over a list that is known by what holds of it -/
theorem g_forL {K : PySem.W.Frag} {D : Ends} {tl : TE} {P : Y.D → Prop} {j : Nat} {tb : TS} (h : Ev tl env P) (k : ∀ d, P d → ∃ (xs : List Y.D) (I : Nat → List En → Prop), d = .lst xs ∧ I 0 env ∧
    (∀ i d env', xs[i]? = some d → I i env' → ∀ (C' : Ctx) (D' : Ends), (∀ P, Done C D P → Done C' D' P) → (∀ env2, I (i + 1) env2 → Nx C' M env2 D'.nx) → Go C' M (env'.set j (.im d)) tb D') ∧
    (∀ env', I xs.length env' → Nx C M env' D.nx)) : Go C M env (tFor (iList K tl) (gName j) tb) D := fun σ H A =>
  h C M σ H A _ fun v d H1 p1 A1 e1 r1 => by
    obtain ⟨xs, I, rfl, h0, hs, hd⟩ := k d p1
    obtain ⟨p, vs, rfl, hn, hp, rl⟩ := id r1.lst_inv
    exact ⟨p, rfl, ⟨vs, SqL.of hp⟩, for_core I A1 (src_list (K := K)) r1 h0 (fun i d env' a b C' D' e f _ _ => hs i d env' a b C' D' e f) hd⟩
end
theorem get_ints {gs : List Int} {i : Nat} {d : D} (hi : (gs.map D.int)[i]? = some d) : ∃ g, gs[i]? = some g ∧ d = .int g := by
  rw [List.getElem?_map] at hi
  cases e0 : gs[i]? with
  | none =>
    rw [e0] at hi
    cases hi
  | some g =>
    rw [e0] at hi
    exact ⟨g, rfl, (Option.some.inj hi).symm⟩
theorem lacks_rng {p g : Int} {gs : List Int} (hp : 1 ≤ p) (hg : g % p = 0) : Lacks (g / p) p gs ↔ ∃ o, o ∈ rngC p g p ∧ g % o = 0 ∧ o ∉ gs := by
  have eg : p * (g / p) = g := Int.mul_ediv_cancel_of_emod_eq_zero hg
  constructor
  · rintro ⟨k, h1, h2, h3, h4⟩
    refine ⟨p * k, (mem_rngC hp).mpr ⟨(k - 1).toNat, ?_, ?_⟩, ?_, h4⟩
    · have e : (((k - 1).toNat : Nat) : Int) = k - 1 := by omega
      rw [e, Int.sub_mul, Int.mul_comm k p]
      omega
    · have := mul_lt_of hp h2
      omega
    · obtain ⟨c, hc⟩ := Int.dvd_of_emod_eq_zero h3
      rw [← eg, hc, ← Int.mul_assoc]
      exact Int.mul_emod_right ..
  · rintro ⟨o, h1, h2, h3⟩
    obtain ⟨k, rfl, hk⟩ := (mem_rngC hp).mp h1
    have e : p + (k : Int) * p = p * ((k : Int) + 1) := by rw [Int.mul_add, Int.mul_one, Int.mul_comm]; omega
    rw [e] at h2 h3 hk
    refine ⟨(k : Int) + 1, by omega, ?_, ?_, h3⟩
    · by_cases z : (k : Int) + 1 < g / p
      · exact z
      · have : p * (g / p) ≤ p * ((k : Int) + 1) := Int.mul_le_mul_of_nonneg_left (by omega) (by omega)
        omega
    · obtain ⟨c, hc⟩ := Int.dvd_of_emod_eq_zero h2
      have : p * (g / p) = p * (((k : Int) + 1) * c) := by rw [eg, ← Int.mul_assoc]; exact hc
      have := Int.eq_of_mul_eq_mul_left (by omega) this
      rw [this]
      exact Int.mul_emod_right ..
theorem filter_ne {α : Type} {l : List α} {f : α → Bool} : (!decide (l.filter f = [])) = true ↔ ∃ o, o ∈ l ∧ f o = true := by
  constructor
  · intro h
    have hn : l.filter f ≠ [] := by
      intro z
      rw [decide_eq_true z] at h
      cases h
    obtain ⟨x, hx⟩ := List.exists_mem_of_ne_nil _ hn
    exact ⟨x, (List.mem_filter.mp hx).1, (List.mem_filter.mp hx).2⟩
  · rintro ⟨o, h1, h2⟩
    have hn : l.filter f ≠ [] := fun z => by
      have := List.mem_filter.mpr ⟨h1, h2⟩
      rw [z] at this
      cases this
    rw [decide_eq_false hn]
    rfl
section
variable {P : Program} {w : World} {K : PySem.W.Frag} {mg : Str → Option Value} {base : Heap} {Cl : Addr}
theorem ok_lwrong {f : Addr} {fd : FuncData} {kws : List (Str × V)} (T : Txt K mg Cl) (F : FunD K "_law_wrong" "_law_wrong" (defArgs s_lwrong) (defBody s_lwrong) (defScope s_lwrong) [] kws f fd) : FnOk P w K mg base CX0 1 f fd ["size", "missing"] spLWrong := by
  refine okP 2 F sc_lwrong (fun _ _ => rfl) rfl fun cdv A outer s H E a hr hp => ⟨_, (pss_cons (ps_for PassesOwn.never rfl (pi_list (pe_callB cr_sortedI (by rfl) T.sorted (by decide +kernel) (pa_cons (pv 1) pa_nil))) (pg_name (i := 2) sc_lwrong.nd rfl (Or.inr rfl))
 (pss_one (ps_if (PW.pt (pw_or (pt_cmpR op_ne (pe_op op_mod (pe_callTy call_int1 (by rfl) T.int (by decide +kernel) (pa_cons (pv 2) pa_nil)) (pv 0)) pe_int (nomark _)) (pw_or1 (pt_cmpR (op_neD hr.units) (pe_lc (own := [("one", 3)]) (g := gName 3) rfl sc_lwrong.nd (pi_range3 (by rfl) T.range (pa_cons (pv 0) (pa_cons (pv 2) (pa_cons (pv 0) pa_nil)))) (blkOk_by (own := [("one", 3)]) (N := n_lwrong) (sc := defScope s_lwrong) (by decide +kernel)) (fun _ _ _ _ _ => pg_name (i := 3) sc_lwrong.nd rfl (Or.inl rfl)) (fun _ _ _ _ _ => (pts_one (PW.pt (pw_and (pt_cmpR op_eq (pe_op op_mod (pe_callTy call_int1 (by rfl) T.int (by decide +kernel) (pa_cons (pv 2) pa_nil)) (pv 3)) pe_int (nomark _)) (pw_and1 (pt_cmpR (show OpR _ (compareOp .NotIn) (rIn K true) from op_notIn_seq) (pv 3) (pv 1) rfl)))))) (fun _ _ _ _ _ => (pv 3))) (pe_lst pa_nil) (nomark _))))) (pss_one (ps_ret (pv 2))) pss_nil)))
 (pss_one (ps_ret pe_non))), ?_⟩
  intro C M D dn _ _
  obtain ⟨p, gs⟩ := a
  obtain ⟨p1, p2, p3, p4⟩ := hp
  dsimp only at p1 p2 p3 p4 dn
  show Go C M [.im (.int p), .im (.lst (gs.map Y.D.int)), .no, .no] _ D
  refine g_seq (g_forL (x_cb (a_cons (x_var rfl) a_nil) c_sortedI) ?_)
  rintro _ ⟨ns, hperm, hsrt, rfl⟩
  refine ⟨ns.map Y.D.int, fun i env => ∃ e2, env = [.im (.int p), .im (.lst (gs.map Y.D.int)), e2, .no] ∧ e2.addr = none ∧ ∀ g ∈ ns.take i, ¬ BadG p gs g, rfl, ⟨.no, rfl, rfl, fun g hg => (nomatch hg)⟩, ?_, ?_⟩
  · rintro i d env hi ⟨e2, rfl, he, iv⟩ C' D' dn' nx'
    obtain ⟨g, hg, rfl⟩ := get_ints hi
    have hmem := List.mem_of_getElem? hg
    have gb := p3 g (hperm.mem_iff.mp hmem)
    show Go C' M [.im (.int p), .im (.lst (gs.map Y.D.int)), .im (.int g), .no] _ D'
    have hbad : ∀ t : Bool, (t = (!decide (g % p = 0)) → (t = false → g % p = 0) ∧ (t = true → g % p ≠ 0)) := fun t ht => by
      subst ht
      exact ⟨fun z => by simpa using z, fun z => by simpa using z⟩
    refine g_if (T := fun t => t = true ↔ BadG p gs g) (t_orP (P2 := fun t => t = true ↔ ∃ o, o ∈ rngC p g p ∧ (decide (g % o = 0) && !decide (o ∈ gs)) = true) (t_test (x_op (x_op (x_cb (a_cons (x_var rfl) a_nil) c_int) (x_var rfl) (r_Ii (by omega))) x_int r_neI)) (fun e => ?_) (fun e => ?_) (fun t e ht => ?_)) (fun ht => ?_) (fun ht => g_next ?_)
    · refine (t_test (x_op (x_lcI (ns := rngC p g p) (fun o => decide (g % o = 0) && !decide (o ∈ gs)) Y.D.int (i_rngC (a_cons (x_var rfl) (a_cons (x_var rfl) (a_cons (x_var rfl) a_nil))) p1 (by omega) (by omega) (by omega) (by omega) (by omega)) (fun u hu => by cases hu; rfl) (by have := rngC_len (a := p) (b := g) p1; omega) fun o ho => ⟨t_and (t_test (x_op (x_op (x_cb (a_cons (x_var rfl) a_nil) c_int) (x_var rfl) (r_Ii ?_)) x_int r_eqI)) fun _ => t_test (x_op (x_var rfl) (x_var rfl) r_notInL), fun _ => x_var rfl⟩) (x_lst a_nil) (r_neLI (ms := [])))).imp fun t ht => ?_
      · obtain ⟨k, rfl, _⟩ := (mem_rngC p1).mp ho
        have : 0 ≤ (k : Int) * p := Int.mul_nonneg (by omega) (by omega)
        show 0 < p + (k : Int) * p
        omega
      · rw [ht]
        exact filter_ne
    · exact ⟨fun _ => .inl ((hbad true e).2 rfl), fun _ => rfl⟩
    · have hz := (hbad false e).1 rfl
      rw [ht]
      constructor
      · rintro ⟨o, h1, h2⟩
        have h3 := Bool.and_eq_true_iff.mp h2
        exact .inr ((lacks_rng p1 hz).mpr ⟨o, h1, of_decide_eq_true h3.1, by simpa using h3.2⟩)
      · rintro (z | z)
        · exact absurd hz z
        · obtain ⟨o, h1, h2, h3⟩ := (lacks_rng p1 hz).mp z
          exact ⟨o, h1, by rw [decide_eq_true h2, decide_eq_false h3]; rfl⟩
    · refine g_ret (x_var rfl) ((dn' _ dn).imp ?_)
      intro d hd
      refine ⟨some g, ⟨hperm.mem_iff.mp hmem, ht.mp rfl, fun x hx hlt => ?_⟩, hd⟩
      have hx2 := hperm.mem_iff.mpr hx
      obtain ⟨k, hk, ek⟩ := List.mem_iff_getElem.mp hx2
      have hil := (List.getElem?_eq_some_iff.mp hg).1
      have eg := (List.getElem?_eq_some_iff.mp hg).2
      have hki : k < i := by
        by_cases z : k < i
        · exact z
        · by_cases y : k = i
          · subst y
            rw [eg] at ek
            omega
          · have := List.pairwise_iff_getElem.mp hsrt i k hil hk (by omega)
            rw [eg, ek] at this
            omega
      exact iv x (by rw [← ek]; exact List.mem_take_iff_getElem.mpr ⟨k, by omega, rfl⟩)
    · refine nx' _ ⟨_, rfl, rfl, fun x hx => ?_⟩
      rw [take_more hg] at hx
      rcases List.mem_append.mp hx with z | z
      · exact iv x z
      · rw [List.mem_singleton.mp z]
        intro y
        have := ht.mpr y
        cases this
  · rintro env ⟨e2, rfl, he, iv⟩
    refine g_retN (dn.imp ?_)
    intro d hd
    rw [List.length_map, List.take_length] at iv
    exact ⟨none, fun g hg => iv g (hperm.mem_iff.mpr hg), hd⟩
end
end Y

set_option Elab.async false
set_option linter.all false
set_option maxRecDepth 100000
set_option maxHeartbeats 4000000
/-! Z13: _law_gap_list. -/
namespace Y
open PySem L2
abbrev n_gl : List Str := ["jar", "size", "many", "top", "made", "turn", "num", "one"]
theorem sc_gl : FnScope n_gl ["jar", "size", "many", "top"] (defScope s_gl) := ⟨rfl, rfl, rfl, by decide +kernel, rfl, by decide +kernel, by decide +kernel⟩
/-- of the multiples of the size up to top: closed, few of them in the upper half -/
def GapS (size top : Int) (n : Nat) (L : List Int) : Prop := Clo size L ∧ (∀ g ∈ L, ∃ k, 1 ≤ k ∧ k ≤ top ∧ g = size * k) ∧ ∃ big : List Int, big.length ≤ n ∧ ∀ g ∈ L, g ∈ big ∨ ∃ k, 1 ≤ k ∧ 2 * k ≤ top ∧ g = size * k
structure GlA where
  size : Int
  many : Int
  top : Int
def spGl : Sp := spJ (α := GlA) (fun a => [.int a.size, .int a.many, .int a.top]) (fun a => 1 ≤ a.size ∧ a.size ≤ 10000 ∧ 0 ≤ a.many ∧ a.many ≤ 100 ∧ 1 ≤ a.top ∧ a.top ≤ 1000) (fun a d => ∃ L : List Int, L.Pairwise (· < ·) ∧ GapS a.size a.top a.many.toNat L ∧ d = .lst (L.map D.int))
theorem mem_rng1 {n o : Int} : o ∈ rng 1 1 (n + 1 - 1).toNat ↔ 1 ≤ o ∧ o ≤ n := by
  unfold rng
  constructor
  · intro h
    obtain ⟨k, hk, rfl⟩ := List.mem_map.mp h
    have := List.mem_range.mp hk
    omega
  · intro h
    exact List.mem_map.mpr ⟨(o - 1).toNat, List.mem_range.mpr (by omega), by omega⟩
theorem rng1_nodup (n : Nat) : (rng 1 1 n).Nodup := (rng_pair (by omega) n).imp fun h => by omega
def newG (size num : Int) (made : List Int) : List Int := ((rng 1 1 (num + 1 - 1).toNat).filter fun o => decide (num % o = 0) && !decide (size * o ∈ made)).map (size * ·)
theorem mem_newG {size num g : Int} {made : List Int} : g ∈ newG size num made ↔ ∃ o, 1 ≤ o ∧ o ≤ num ∧ num % o = 0 ∧ size * o ∉ made ∧ g = size * o := by
  unfold newG
  constructor
  · intro h
    obtain ⟨o, ho, rfl⟩ := List.mem_map.mp h
    have h1 := List.mem_filter.mp ho
    have h2 := mem_rng1.mp h1.1
    have h3 := Bool.and_eq_true_iff.mp h1.2
    exact ⟨o, h2.1, h2.2, of_decide_eq_true h3.1, by simpa using h3.2, rfl⟩
  · rintro ⟨o, h1, h2, h3, h4, rfl⟩
    exact List.mem_map.mpr ⟨o, List.mem_filter.mpr ⟨mem_rng1.mpr ⟨h1, h2⟩, by rw [decide_eq_true h3, decide_eq_false h4]; rfl⟩, rfl⟩
theorem newG_nodup {size num : Int} {made : List Int} (hs : 1 ≤ size) (h : made.Nodup) : (made ++ newG size num made).Nodup := by
  rw [List.nodup_append]
  refine ⟨h, ?_, fun a ha b hb e => ?_⟩
  · unfold newG
    refine List.Pairwise.map _ (fun a b hab e => hab ?_) ((rng1_nodup _).filter _)
    exact Int.eq_of_mul_eq_mul_left (by omega) e
  · obtain ⟨o, _, _, _, h4, rfl⟩ := mem_newG.mp hb
    exact h4 (e ▸ ha)
theorem newG_gapS {size top num : Int} {n : Nat} {made : List Int} (hs : 1 ≤ size) (h : GapS size top n made) (hn : num ≤ top) : GapS size top (n + 1) (made ++ newG size num made) := by
  obtain ⟨h1, h2, big, h3, h4⟩ := h
  have hin : ∀ o, 1 ≤ o → o ≤ num → num % o = 0 → size * o ∈ made ++ newG size num made := fun o a b c => by
    by_cases z : size * o ∈ made
    · exact List.mem_append_left _ z
    · exact List.mem_append_right _ (mem_newG.mpr ⟨o, a, b, c, z, rfl⟩)
  refine ⟨?_, fun g hg => ?_, big ++ [size * num], by rw [List.length_append, List.length_singleton]; omega, fun g hg => ?_⟩
  · rw [clo_mul hs]
    intro g hg
    rcases List.mem_append.mp hg with z | z
    · obtain ⟨m, e, k⟩ := (clo_mul hs).mp h1 g z
      exact ⟨m, e, fun a b c d e => List.mem_append_left _ (k a b c d e)⟩
    · obtain ⟨o, o1, o2, o3, _, rfl⟩ := mem_newG.mp z
      refine ⟨o, rfl, fun k c k1 e kl => hin k k1 (by omega) ?_⟩
      obtain ⟨q, hq⟩ := Int.dvd_of_emod_eq_zero o3
      rw [hq, e, Int.mul_assoc]
      exact Int.mul_emod_right ..
  · rcases List.mem_append.mp hg with z | z
    · exact h2 g z
    · obtain ⟨o, o1, o2, o3, _, rfl⟩ := mem_newG.mp z
      exact ⟨o, o1, by omega, rfl⟩
  · rcases List.mem_append.mp hg with z | z
    · rcases h4 g z with y | y
      · exact .inl (List.mem_append_left _ y)
      · exact .inr y
    · obtain ⟨o, o1, o2, o3, _, rfl⟩ := mem_newG.mp z
      by_cases e : o = num
      · exact .inl (List.mem_append_right _ (by rw [e]; exact List.mem_singleton.mpr rfl))
      · refine .inr ⟨o, o1, ?_, rfl⟩
        obtain ⟨q, hq⟩ := Int.dvd_of_emod_eq_zero o3
        have q2 : 2 ≤ q := by
          by_cases z : 2 ≤ q
          · exact z
          · have : o * q ≤ o * 1 := Int.mul_le_mul_of_nonneg_left (by omega) (by omega)
            omega
        have : o * 2 ≤ o * q := Int.mul_le_mul_of_nonneg_left q2 (by omega)
        omega
section
variable {P : Program} {w : World} {K : PySem.W.Frag} {mg : Str → Option Value} {base : Heap} {Cl : Addr}
theorem ok_gl {f f2 : Addr} {fd fd2 : FuncData} {kws : List (Str × V)} (T : Txt K mg Cl) (F : FunD K "_law_gap_list" "_law_gap_list" (defArgs s_gl) (defBody s_gl) (defScope s_gl) [] kws f fd) (dDraw : Dk P w K mg base CX0 "_law_draw" 1 f2 fd2 ["jar", "many"] spDraw) : FnOk P w K mg base CX0 2 f fd ["jar", "size", "many", "top"] spGl := by
  refine okJ 4 F sc_gl (fun _ _ => rfl) rfl fun cdv A outer s H E a hr hp => ⟨_, (pss_cons (ps_set (i := 4) sc_gl.nd rfl (Or.inr rfl) (pe_lst pa_nil))
 (pss_cons (ps_for PassesOwn.never rfl (pi_range1 (by rfl) T.range (pa_cons (pv 2) pa_nil)) (pg_name (i := 5) sc_gl.nd rfl (Or.inl rfl))
 (pss_cons (ps_set (i := 6) sc_gl.nd rfl (Or.inr rfl) (pe_op op_add pe_int (pe_call dDraw.ok (hr.mono (by decide)) (by rfl) dDraw.mg dDraw.kp dDraw.bi .nil pass0 (pa_cons (pv 0) (pa_cons (pv 3) pa_nil)))))
 (pss_one (ps_set (i := 4) sc_gl.nd rfl (Or.inr rfl) (pe_op op_cat (pv 4) (pe_lc (own := [("one", 7)]) (g := gName 7) rfl sc_gl.nd (pi_range2 (by rfl) T.range (pa_cons pe_int (pa_cons (pe_op op_add (pv 6) pe_int) pa_nil))) (blkOk_by (own := [("one", 7)]) (N := n_gl) (sc := defScope s_gl) (by decide +kernel)) (fun _ _ _ _ _ => pg_name (i := 7) sc_gl.nd rfl (Or.inl rfl)) (fun _ _ _ _ _ => (pts_one (PW.pt (pw_and (pt_cmpR op_eq (pe_op op_mod (pe_callTy call_int1 (by rfl) T.int (by decide +kernel) (pa_cons (pv 6) pa_nil)) (pv 7)) pe_int (nomark _)) (pw_and1 (pt_cmpR (show OpR _ (compareOp .NotIn) (rIn K true) from op_notIn_seq) (pe_op op_mul (pv 1) (pv 7)) (pv 4) rfl)))))) (fun _ _ _ _ _ => (pe_op op_mul (pv 1) (pv 7)))))))))
 (pss_one (ps_ret (pe_callB cr_sortedI (by rfl) T.sorted (by decide +kernel) (pa_cons (pv 4) pa_nil)))))), ?_⟩
  intro C M D j dn
  obtain ⟨size, many, tp⟩ := a
  obtain ⟨s1, s2, m1, m2, t1, t2⟩ := hp
  dsimp only at s1 s2 m1 m2 t1 t2
  show Go C M [.jar j, .im (.int size), .im (.int many), .im (.int tp), .no, .no, .no, .no] _ D
  refine g_seq (g_set (x_lst a_nil) ?_)
  dsimp only
  refine g_seq (g_for (fun i env => ∃ (made : List Int) (e5 e6 : En), env = [.jar j, .im (.int size), .im (.int many), .im (.int tp), .im (.lst (made.map Y.D.int)), e5, e6, .no] ∧ e5.addr = none ∧ e6.addr = none ∧ made.Nodup ∧ GapS size tp i made ∧ made.length ≤ i * 1000) (i_rng1 (a_cons (x_var rfl) a_nil) (by omega)) ⟨[], .no, .no, rfl, rfl, rfl, List.nodup_nil, ⟨fun g hg => (nomatch hg), fun g hg => (nomatch hg), [], Nat.le_refl _, fun g hg => (nomatch hg)⟩, Nat.zero_le _⟩ ?_ ?_)
  · rintro i d env hi ⟨made, e5, e6, rfl, h5, h6, nd, gs, hlen⟩ C' D' dn' nx' _ _
    have hil : i < 100 := by
      have := (List.getElem?_eq_some_iff.mp hi).1
      rw [List.length_map, rng_len] at this
      omega
    show Go C' M [.jar j, .im (.int size), .im (.int many), .im (.int tp), .im (.lst (made.map Y.D.int)), .im d, e6, .no] _ D'
    refine g_seq (g_asg (e_op (P := Is (.int 1)) (R := fun d => ∃ k, 0 ≤ k ∧ k < tp ∧ d = .int k) (S := fun d => ∃ k, 1 ≤ k ∧ k ≤ tp ∧ d = .int k) x_int (x_jar (α := Int) (a := tp) rfl (a_cons (x_var rfl) a_nil) ⟨t1, by omega⟩) ?_) ?_)
    · rintro x y rfl ⟨k, k0, k1, rfl⟩
      exact r_I0i.imp fun d hd => ⟨1 + k, by omega, by omega, hd⟩
    rintro _ ⟨num, n1, n2, rfl⟩
    dsimp only
    have hnl : (newG size num made).length ≤ 1000 := by
      unfold newG
      rw [List.length_map]
      refine Nat.le_trans (List.length_filter_le ..) ?_
      rw [rng_len]
      omega
    refine g_set (d := .lst ((made ++ newG size num made).map Y.D.int)) ((x_op (x_var rfl) ((x_lcI (ns := rng 1 1 (num + 1 - 1).toNat) (fun o => decide (num % o = 0) && !decide (size * o ∈ made)) (fun o => .int (size * o)) (i_rng2 (a_cons x_int (a_cons (x_op (x_var rfl) x_int r_I0i) a_nil)) (by omega) (by omega)) (fun u hu => by cases hu; rfl) (by rw [rng_len]; omega) fun o ho => ⟨t_and (t_test (x_op (x_op (x_cb (a_cons (x_var rfl) a_nil) c_int) (x_var rfl) (r_Ii ?_)) x_int r_eqI)) fun _ => t_test (x_op (x_op (x_var rfl) (x_var rfl) (r_Ii (.inl ⟨by omega, by omega⟩))) (x_var rfl) r_notInL), fun _ => x_op (x_var rfl) (x_var rfl) (r_Ii (.inl ⟨by omega, by omega⟩))⟩).to (y := .lst ((newG size num made).map Y.D.int)) ?_) (r_cat ?_)).to ?_) (nx' _ ⟨made ++ newG size num made, _, _, rfl, rfl, rfl, newG_nodup s1 nd, newG_gapS s1 gs n2, ?_⟩)
    · exact (by have := (mem_rng1.mp ho).1; omega : 0 < o)
    · unfold newG
      rw [List.map_map]
      rfl
    · rw [List.length_map, List.length_map]
      omega
    · rw [List.map_append]
    · rw [List.length_append]
      omega
  · rintro env ⟨made, e5, e6, rfl, h5, h6, nd, gs, hlen⟩
    rw [List.length_map, rng_len] at gs
    refine g_retJ (x_cb (a_cons (x_var rfl) a_nil) c_sortedI) rfl fun M env σ H v d hd => dn M env σ H v d ?_
    obtain ⟨ns, hperm, hsrt, rfl⟩ := hd
    have nd2 : ns.Nodup := hperm.nodup_iff.mpr nd
    refine ⟨ns, ?_, ⟨gs.1.ext fun k => hperm.mem_iff, fun g hg => gs.2.1 g (hperm.mem_iff.mp hg), ?_⟩, rfl⟩
    · exact (List.pairwise_and_iff.mpr ⟨hsrt, nd2⟩).imp fun h => by omega
    · obtain ⟨big, h3, h4⟩ := gs.2.2
      exact ⟨big, h3, fun g hg => h4 g (hperm.mem_iff.mp hg)⟩
end
end Y

set_option Elab.async false
set_option linter.all false
set_option maxRecDepth 100000
set_option maxHeartbeats 4000000
/-! Z14: _law_like of equal data. -/
namespace Y
open PySem L2
abbrev n_like : List Str := ["told", "due", "kinds", "pos"]
theorem sc_like : FnScope n_like ["told", "due"] (defScope s_like) := ⟨rfl, rfl, rfl, by decide +kernel, rfl, by decide +kernel, by decide +kernel⟩
def D.lf : D → Bool
  | .bl _ => true
  | .int _ => true
  | .str _ => true
  | _ => false
/-- data of lists and tuples, at most n deep -/
def Lkd : Nat → D → Prop
  | 0, d => d.lf = true
  | n + 1, d => d.lf = true ∨ ∃ l : List D, (d = .lst l ∨ d = .tup l) ∧ l.length < 1000000 ∧ ∀ x ∈ l, Lkd n x
def spLike (n : Nat) : Sp := spP (α := D) (fun d => [d, d]) (fun d => Lkd n d) (fun _ d => d = .bl true)
theorem like_elt {n : Nat} {E0 : XK} {r : R2} {x d : D} {o : Int} (hr : RV r x (.int o) (Is d)) (hd : Lkd n d) : EvT (tNot (tB (tCall (spLike n) [] E0 (tCons (tOp r (tVar 0) (tVar 3)) (tCons (tOp r (tVar 1) (tVar 3)) tNil))))) [.im x, .im x, .no, .im (.int o)] (Is false) :=
  t_not (a := true) (t_B (x_call (α := D) (a := d) (a_cons (x_op (x_var rfl) (x_var rfl) hr) (a_cons (x_op (x_var rfl) (x_var rfl) hr) a_nil)) hd))
theorem mem_rng0 {n : Nat} {o : Int} (h : o ∈ rng 0 1 ((n : Int)).toNat) : ∃ k : Nat, o = (k : Int) ∧ k < n := by
  unfold rng at h
  obtain ⟨k, hk, rfl⟩ := List.mem_map.mp h
  have := List.mem_range.mp hk
  exact ⟨k, by omega, by omega⟩
section
variable {P : Program} {w : World} {K : PySem.W.Frag} {mg : Str → Option Value} {base : Heap} {Cl : Addr}
theorem shaped_b4 (a b c d : Bool) : SeqAt.shaped (Y.D.lst [.bl a, .bl b, .bl c, .bl d]).pd = true := rfl
theorem eqv_self {d : PyData} (h : SeqAt.shaped d = true) : PyData.eqv d d = true := SeqAt.eqv_refl d (SeqAt.canLay_of_shaped h)
/-- the leaf's way -/
theorem like_leaf {f : Addr} {scv : Value} {A : Around} {outer : List Env} {s : Shared} {H : Hp} {E : XK} {n : Nat} (T : Txt K mg Cl) (hr : Room n (A.deeper (PyProof.Rows.envOfC "_law_like" (defScope s_like) s.heap.objs.size f scv))) {a : Y.D} (ha : a.lf = true) :
    ∃ t, PSs (cxOf CX0 P w K mg base n_like "_law_like" (defScope s_like) f scv A outer s H E).nox (defBody s_like) t ∧ ∀ (C : Ctx) (M : List Addr) (D : Ends), Done C D (Is (.bl true)) → Go C M [.im a, .im a, .no, .no] t D := by
  refine ⟨_, (pss_cons (ps_if (PW.pt (pw_or (pt_cmpR op_isN (pv 1) pe_non (nomark _)) (pw_or1 (pt_val (pe_callB call_isiT (by rfl) T.isinstance (by decide +kernel) (pa_cons (pv 1) (pa_cons (pe_tup (pa_cons (pe_bltn (by rfl) T.int (by decide +kernel) (v := .ty "int") rfl) (pa_cons (pe_bltn (by rfl) T.str (by decide +kernel) (v := .ty "str") rfl) pa_nil))) pa_nil))))))) (pss_cons (ps_set (i := 2) sc_like.nd rfl (Or.inl rfl) (pe_lst (pa_cons (pe_cmpR op_isN (pv 1) pe_non (nomark _)) (pa_cons (pe_callB call_isi (by rfl) T.isinstance (by decide +kernel) (pa_cons (pv 1) (pa_cons (pe_bltn (by rfl) T.bool (by decide +kernel) (v := .ty "bool") rfl) pa_nil))) (pa_cons (pe_callB call_isi (by rfl) T.isinstance (by decide +kernel) (pa_cons (pv 1) (pa_cons (pe_bltn (by rfl) T.int (by decide +kernel) (v := .ty "int") rfl) pa_nil))) (pa_cons (pe_callB call_isi (by rfl) T.isinstance (by decide +kernel) (pa_cons (pv 1) (pa_cons (pe_bltn (by rfl) T.str (by decide +kernel) (v := .ty "str") rfl) pa_nil))) pa_nil))))))
 (pss_one (ps_ret (pe_and (pe_cmpR (op_eqD hr.units) (pe_lst (pa_cons (pe_cmpR op_isN (pv 0) pe_non (nomark _)) (pa_cons (pe_callB call_isi (by rfl) T.isinstance (by decide +kernel) (pa_cons (pv 0) (pa_cons (pe_bltn (by rfl) T.bool (by decide +kernel) (v := .ty "bool") rfl) pa_nil))) (pa_cons (pe_callB call_isi (by rfl) T.isinstance (by decide +kernel) (pa_cons (pv 0) (pa_cons (pe_bltn (by rfl) T.int (by decide +kernel) (v := .ty "int") rfl) pa_nil))) (pa_cons (pe_callB call_isi (by rfl) T.isinstance (by decide +kernel) (pa_cons (pv 0) (pa_cons (pe_bltn (by rfl) T.str (by decide +kernel) (v := .ty "str") rfl) pa_nil))) pa_nil))))) (pv 2) (nomark _)) (pe_one (pe_cmpR op_eq (pv 0) (pv 1) (nomark _))))))) pss_nil) pss_never), ?_⟩
  intro C M D dn
  have facts : ∃ (m : String) (b1 b2 b3 : Bool), a.ty = some m ∧ kitB m "bool" = some b1 ∧ kitB m "int" = some b2 ∧ kitB m "str" = some b3 ∧ (b2 || b3) = true ∧ RV rEq a a (Is (.bl true)) := by
    cases a with
    | bl b => exact ⟨"bool", true, true, false, rfl, (by decide +kernel), (by decide +kernel), (by decide +kernel), rfl, r_eqB.imp fun d hd => by rw [hd, decide_eq_true rfl]⟩
    | int b => exact ⟨"int", false, true, false, rfl, (by decide +kernel), (by decide +kernel), (by decide +kernel), rfl, r_eqI.imp fun d hd => by rw [hd, decide_eq_true rfl]⟩
    | str b => exact ⟨"str", false, false, true, rfl, (by decide +kernel), (by decide +kernel), (by decide +kernel), rfl, r_eqS.imp fun d hd => by rw [hd, decide_eq_true rfl]⟩
    | non => cases ha
    | ref b => cases ha
    | lst b => cases ha
    | tup b => cases ha
    | dct b => cases ha
    | obj b c => cases ha
    | exc b c d => cases ha
  obtain ⟨m, b1, b2, b3, hm, h1, h2, h3, hor, hEq⟩ := facts
  refine g_seq (g_ifb (b := a.isN || (b2 || b3)) (t_or (t_test (x_op (x_var rfl) x_non r_isN)) fun _ => t_B (e_isi2 (K := K) (x_var rfl) hm h2 h3)) (fun e => ?_) (fun e => ?_))
  · refine g_seq (g_set (x_lst (a_cons (x_op (x_var rfl) x_non r_isN) (a_cons (e_isi (K := K) (x_var rfl) hm h1) (a_cons (e_isi (K := K) (x_var rfl) hm h2) (a_cons (e_isi (K := K) (x_var rfl) hm h3) a_nil)))) (by show 4 ≤ 16000000; decide)) ?_)
    dsimp only
    refine g_ret (x_andV (x_op (x_lst (a_cons (x_op (x_var rfl) x_non r_isN) (a_cons (e_isi (K := K) (x_var rfl) hm h1) (a_cons (e_isi (K := K) (x_var rfl) hm h2) (a_cons (e_isi (K := K) (x_var rfl) hm h3) a_nil)))) (by show 4 ≤ 16000000; decide)) (x_var rfl) (r_eqD rfl rfl (shaped_b4 ..) (shaped_b4 ..))) fun _ => x_op (x_var rfl) (x_var rfl) hEq) (dn.imp fun d hd => ?_)
    rw [hd, eqv_self (shaped_b4 ..)]
    rfl
  · rw [hor, Bool.or_true] at e
    cases e
theorem ok_like0 {f : Addr} {fd : FuncData} {kws : List (Str × V)} (T : Txt K mg Cl) (F : FunD K "_law_like" "_law_like" (defArgs s_like) (defBody s_like) (defScope s_like) [] kws f fd) : FnOk P w K mg base CX0 1 f fd ["told", "due"] (spLike 0) := by
  refine okP 2 F sc_like (fun _ _ => rfl) rfl fun cdv A outer s H E a hr hp => ?_
  obtain ⟨t, ht, hg⟩ := like_leaf (P := P) (w := w) (base := base) (outer := outer) (H := H) (E := E) T hr hp
  exact ⟨t, ht, fun C M D dn _ _ => hg C M D dn⟩
theorem ok_like_of {f : Addr} {fd : FuncData} {kws : List (Str × V)} (T : Txt K mg Cl) (F : FunD K "_law_like" "_law_like" (defArgs s_like) (defBody s_like) (defScope s_like) [] kws f fd) (n : Nat)
    (dLike : Dk P w K mg base CX0 "_law_like" (n + 1) f fd ["told", "due"] (spLike n)) : FnOk P w K mg base CX0 (n + 2) f fd ["told", "due"] (spLike (n + 1)) := by
  refine okP 2 F sc_like (fun _ _ => rfl) rfl fun cdv A outer s H E a hr hp => ?_
  rcases hp with hp | ⟨l, hd, hl, hx⟩
  · obtain ⟨t, ht, hg⟩ := like_leaf (P := P) (w := w) (base := base) (outer := outer) (H := H) (E := E) T hr hp
    exact ⟨t, ht, fun C M D dn _ _ => hg C M D dn⟩
  · rcases hd with rfl | rfl
    · refine ⟨_, (pss_cons (ps_if (PW.pt (pw_or (pt_cmpR op_isN (pv 1) pe_non (nomark _)) (pw_or1 (pt_val (pe_callB call_isiT (by rfl) T.isinstance (by decide +kernel) (pa_cons (pv 1) (pa_cons (pe_tup (pa_cons (pe_bltn (by rfl) T.int (by decide +kernel) (v := .ty "int") rfl) (pa_cons (pe_bltn (by rfl) T.str (by decide +kernel) (v := .ty "str") rfl) pa_nil))) pa_nil))))))) (pss_cons (ps_set (i := 2) sc_like.nd rfl (Or.inl rfl) (pe_lst (pa_cons (pe_cmpR op_isN (pv 1) pe_non (nomark _)) (pa_cons (pe_callB call_isi (by rfl) T.isinstance (by decide +kernel) (pa_cons (pv 1) (pa_cons (pe_bltn (by rfl) T.bool (by decide +kernel) (v := .ty "bool") rfl) pa_nil))) (pa_cons (pe_callB call_isi (by rfl) T.isinstance (by decide +kernel) (pa_cons (pv 1) (pa_cons (pe_bltn (by rfl) T.int (by decide +kernel) (v := .ty "int") rfl) pa_nil))) (pa_cons (pe_callB call_isi (by rfl) T.isinstance (by decide +kernel) (pa_cons (pv 1) (pa_cons (pe_bltn (by rfl) T.str (by decide +kernel) (v := .ty "str") rfl) pa_nil))) pa_nil))))))
 (pss_one (ps_ret (pe_and (pe_cmpR (op_eqD hr.units) (pe_lst (pa_cons (pe_cmpR op_isN (pv 0) pe_non (nomark _)) (pa_cons (pe_callB call_isi (by rfl) T.isinstance (by decide +kernel) (pa_cons (pv 0) (pa_cons (pe_bltn (by rfl) T.bool (by decide +kernel) (v := .ty "bool") rfl) pa_nil))) (pa_cons (pe_callB call_isi (by rfl) T.isinstance (by decide +kernel) (pa_cons (pv 0) (pa_cons (pe_bltn (by rfl) T.int (by decide +kernel) (v := .ty "int") rfl) pa_nil))) (pa_cons (pe_callB call_isi (by rfl) T.isinstance (by decide +kernel) (pa_cons (pv 0) (pa_cons (pe_bltn (by rfl) T.str (by decide +kernel) (v := .ty "str") rfl) pa_nil))) pa_nil))))) (pv 2) (nomark _)) (pe_one (pe_cmpR op_eq (pv 0) (pv 1) (nomark _))))))) pss_nil)
 (pss_cons (ps_if (PW.pt (pw_or (pt_cmpR op_ne (pe_callB call_isi (by rfl) T.isinstance (by decide +kernel) (pa_cons (pv 0) (pa_cons (pe_bltn (by rfl) T.list (by decide +kernel) (v := .ty "list") rfl) pa_nil))) (pe_callB call_isi (by rfl) T.isinstance (by decide +kernel) (pa_cons (pv 1) (pa_cons (pe_bltn (by rfl) T.list (by decide +kernel) (v := .ty "list") rfl) pa_nil))) (nomark _)) (pw_or (pt_cmpR op_ne (pe_callB call_isi (by rfl) T.isinstance (by decide +kernel) (pa_cons (pv 0) (pa_cons (pe_bltn (by rfl) T.tuple (by decide +kernel) (v := .ty "tuple") rfl) pa_nil))) (pe_callB call_isi (by rfl) T.isinstance (by decide +kernel) (pa_cons (pv 1) (pa_cons (pe_bltn (by rfl) T.tuple (by decide +kernel) (v := .ty "tuple") rfl) pa_nil))) (nomark _)) (pw_or1 (pt_not (pt_val (pe_callB call_isiT (by rfl) T.isinstance (by decide +kernel) (pa_cons (pv 0) (pa_cons (pe_tup (pa_cons (pe_bltn (by rfl) T.list (by decide +kernel) (v := .ty "list") rfl) (pa_cons (pe_bltn (by rfl) T.tuple (by decide +kernel) (v := .ty "tuple") rfl) pa_nil))) pa_nil))))))))) (pss_one (ps_ret pe_bl)) pss_nil)
 (pss_one (ps_ret (pe_and (pe_cmpR op_eq (pe_callB call_len_seq (by rfl) T.len (by decide +kernel) (pa_cons (pv 0) pa_nil)) (pe_callB call_len_seq (by rfl) T.len (by decide +kernel) (pa_cons (pv 1) pa_nil)) (nomark _)) (pe_one (pe_cmpR (op_eqD hr.units) (pe_lc (own := [("pos", 3)]) (g := gName 3) rfl sc_like.nd (pi_range1 (by rfl) T.range (pa_cons (pe_callB call_len_seq (by rfl) T.len (by decide +kernel) (pa_cons (pv 1) pa_nil)) pa_nil)) (blkOk_by (own := [("pos", 3)]) (N := n_like) (sc := defScope s_like) (by decide +kernel)) (fun _ _ _ _ _ => pg_name (i := 3) sc_like.nd rfl (Or.inl rfl)) (fun _ _ _ _ _ => (pts_one (pt_not (pt_val (pe_call dLike.ok (hr.mono (Nat.le_refl _)) (by rfl) dLike.mg dLike.kp dLike.bi .nil pass0 (pa_cons (pe_ix (show IxR _ (rIxL K) from ix_list) (pv 0) (pv 3) (fun _ _ => rfl)) (pa_cons (pe_ix (show IxR _ (rIxL K) from ix_list) (pv 1) (pv 3) (fun _ _ => rfl)) pa_nil))))))) (fun _ _ _ _ _ => (pv 3))) (pe_lst pa_nil) (nomark _)))))))), ?_⟩
      intro C M D dn _ _
      show Go C M [.im (.lst l), .im (.lst l), .no, .no] _ D
      refine g_seq (g_ifb (t_or (t_test (x_op (x_var rfl) x_non r_isN)) fun _ => t_B (e_isi2 (m := "list") (x_var rfl) rfl (by decide +kernel : kitB "list" "int" = some false) (by decide +kernel : kitB "list" "str" = some false))) (fun e => by cases e) (fun _ => g_next ?_))
      dsimp only
      refine g_seq (g_ifb (t_or (t_test (x_op (e_isi (m := "list") (x_var rfl) rfl (by decide +kernel : kitB "list" "list" = some true)) (e_isi (m := "list") (x_var rfl) rfl (by decide +kernel : kitB "list" "list" = some true)) r_neB)) fun _ => t_or (t_test (x_op (e_isi (m := "list") (x_var rfl) rfl (by decide +kernel : kitB "list" "tuple" = some false)) (e_isi (m := "list") (x_var rfl) rfl (by decide +kernel : kitB "list" "tuple" = some false)) r_neB)) fun _ => t_not (t_B (e_isi2 (m := "list") (x_var rfl) rfl (by decide +kernel : kitB "list" "list" = some true) (by decide +kernel : kitB "list" "tuple" = some false)))) (fun e => by cases e) (fun _ => g_next ?_))
      dsimp only
      refine g_ret (x_andV (x_op (x_cb (a_cons (x_var rfl) a_nil) c_lenL) (x_cb (a_cons (x_var rfl) a_nil) c_lenL) r_eqI) fun _ => x_op ((x_lcI (ns := rng 0 1 ((l.length : Int)).toNat) (fun _ => false) Y.D.int (i_rng1 (a_cons (x_cb (a_cons (x_var rfl) a_nil) c_lenL) a_nil) (by omega)) (fun u hu => by cases hu; rfl) (by rw [rng_len]; omega) fun o ho => ⟨?_, fun z => (by cases z)⟩).to (y := .lst []) ?_) (x_lst a_nil) (r_eqLI (ns := []) (ms := []))) (dn.imp fun d hd => ?_)
      · obtain ⟨k, rfl, hk⟩ := mem_rng0 ho
        exact like_elt (r_ixL (atI_of (List.getElem?_eq_getElem hk))) (hx _ (List.getElem_mem hk))
      · rw [List.filter_eq_nil_iff.mpr (fun _ _ => by decide)]
        rfl
      · rw [hd, decide_eq_true rfl, decide_eq_true rfl]
        rfl
    · refine ⟨_, (pss_cons (ps_if (PW.pt (pw_or (pt_cmpR op_isN (pv 1) pe_non (nomark _)) (pw_or1 (pt_val (pe_callB call_isiT (by rfl) T.isinstance (by decide +kernel) (pa_cons (pv 1) (pa_cons (pe_tup (pa_cons (pe_bltn (by rfl) T.int (by decide +kernel) (v := .ty "int") rfl) (pa_cons (pe_bltn (by rfl) T.str (by decide +kernel) (v := .ty "str") rfl) pa_nil))) pa_nil))))))) (pss_cons (ps_set (i := 2) sc_like.nd rfl (Or.inl rfl) (pe_lst (pa_cons (pe_cmpR op_isN (pv 1) pe_non (nomark _)) (pa_cons (pe_callB call_isi (by rfl) T.isinstance (by decide +kernel) (pa_cons (pv 1) (pa_cons (pe_bltn (by rfl) T.bool (by decide +kernel) (v := .ty "bool") rfl) pa_nil))) (pa_cons (pe_callB call_isi (by rfl) T.isinstance (by decide +kernel) (pa_cons (pv 1) (pa_cons (pe_bltn (by rfl) T.int (by decide +kernel) (v := .ty "int") rfl) pa_nil))) (pa_cons (pe_callB call_isi (by rfl) T.isinstance (by decide +kernel) (pa_cons (pv 1) (pa_cons (pe_bltn (by rfl) T.str (by decide +kernel) (v := .ty "str") rfl) pa_nil))) pa_nil))))))
 (pss_one (ps_ret (pe_and (pe_cmpR (op_eqD hr.units) (pe_lst (pa_cons (pe_cmpR op_isN (pv 0) pe_non (nomark _)) (pa_cons (pe_callB call_isi (by rfl) T.isinstance (by decide +kernel) (pa_cons (pv 0) (pa_cons (pe_bltn (by rfl) T.bool (by decide +kernel) (v := .ty "bool") rfl) pa_nil))) (pa_cons (pe_callB call_isi (by rfl) T.isinstance (by decide +kernel) (pa_cons (pv 0) (pa_cons (pe_bltn (by rfl) T.int (by decide +kernel) (v := .ty "int") rfl) pa_nil))) (pa_cons (pe_callB call_isi (by rfl) T.isinstance (by decide +kernel) (pa_cons (pv 0) (pa_cons (pe_bltn (by rfl) T.str (by decide +kernel) (v := .ty "str") rfl) pa_nil))) pa_nil))))) (pv 2) (nomark _)) (pe_one (pe_cmpR op_eq (pv 0) (pv 1) (nomark _))))))) pss_nil)
 (pss_cons (ps_if (PW.pt (pw_or (pt_cmpR op_ne (pe_callB call_isi (by rfl) T.isinstance (by decide +kernel) (pa_cons (pv 0) (pa_cons (pe_bltn (by rfl) T.list (by decide +kernel) (v := .ty "list") rfl) pa_nil))) (pe_callB call_isi (by rfl) T.isinstance (by decide +kernel) (pa_cons (pv 1) (pa_cons (pe_bltn (by rfl) T.list (by decide +kernel) (v := .ty "list") rfl) pa_nil))) (nomark _)) (pw_or (pt_cmpR op_ne (pe_callB call_isi (by rfl) T.isinstance (by decide +kernel) (pa_cons (pv 0) (pa_cons (pe_bltn (by rfl) T.tuple (by decide +kernel) (v := .ty "tuple") rfl) pa_nil))) (pe_callB call_isi (by rfl) T.isinstance (by decide +kernel) (pa_cons (pv 1) (pa_cons (pe_bltn (by rfl) T.tuple (by decide +kernel) (v := .ty "tuple") rfl) pa_nil))) (nomark _)) (pw_or1 (pt_not (pt_val (pe_callB call_isiT (by rfl) T.isinstance (by decide +kernel) (pa_cons (pv 0) (pa_cons (pe_tup (pa_cons (pe_bltn (by rfl) T.list (by decide +kernel) (v := .ty "list") rfl) (pa_cons (pe_bltn (by rfl) T.tuple (by decide +kernel) (v := .ty "tuple") rfl) pa_nil))) pa_nil))))))))) (pss_one (ps_ret pe_bl)) pss_nil)
 (pss_one (ps_ret (pe_and (pe_cmpR op_eq (pe_callB call_len_seq (by rfl) T.len (by decide +kernel) (pa_cons (pv 0) pa_nil)) (pe_callB call_len_seq (by rfl) T.len (by decide +kernel) (pa_cons (pv 1) pa_nil)) (nomark _)) (pe_one (pe_cmpR (op_eqD hr.units) (pe_lc (own := [("pos", 3)]) (g := gName 3) rfl sc_like.nd (pi_range1 (by rfl) T.range (pa_cons (pe_callB call_len_seq (by rfl) T.len (by decide +kernel) (pa_cons (pv 1) pa_nil)) pa_nil)) (blkOk_by (own := [("pos", 3)]) (N := n_like) (sc := defScope s_like) (by decide +kernel)) (fun _ _ _ _ _ => pg_name (i := 3) sc_like.nd rfl (Or.inl rfl)) (fun _ _ _ _ _ => (pts_one (pt_not (pt_val (pe_call dLike.ok (hr.mono (Nat.le_refl _)) (by rfl) dLike.mg dLike.kp dLike.bi .nil pass0 (pa_cons (pe_ix (show IxR _ (rIxT K) from ix_tup) (pv 0) (pv 3) (fun _ _ => rfl)) (pa_cons (pe_ix (show IxR _ (rIxT K) from ix_tup) (pv 1) (pv 3) (fun _ _ => rfl)) pa_nil))))))) (fun _ _ _ _ _ => (pv 3))) (pe_lst pa_nil) (nomark _)))))))), ?_⟩
      intro C M D dn _ _
      show Go C M [.im (.tup l), .im (.tup l), .no, .no] _ D
      refine g_seq (g_ifb (t_or (t_test (x_op (x_var rfl) x_non r_isN)) fun _ => t_B (e_isi2 (m := "tuple") (x_var rfl) rfl (by decide +kernel : kitB "tuple" "int" = some false) (by decide +kernel : kitB "tuple" "str" = some false))) (fun e => by cases e) (fun _ => g_next ?_))
      dsimp only
      refine g_seq (g_ifb (t_or (t_test (x_op (e_isi (m := "tuple") (x_var rfl) rfl (by decide +kernel : kitB "tuple" "list" = some false)) (e_isi (m := "tuple") (x_var rfl) rfl (by decide +kernel : kitB "tuple" "list" = some false)) r_neB)) fun _ => t_or (t_test (x_op (e_isi (m := "tuple") (x_var rfl) rfl (by decide +kernel : kitB "tuple" "tuple" = some true)) (e_isi (m := "tuple") (x_var rfl) rfl (by decide +kernel : kitB "tuple" "tuple" = some true)) r_neB)) fun _ => t_not (t_B (e_isi2 (m := "tuple") (x_var rfl) rfl (by decide +kernel : kitB "tuple" "list" = some false) (by decide +kernel : kitB "tuple" "tuple" = some true)))) (fun e => by cases e) (fun _ => g_next ?_))
      dsimp only
      refine g_ret (x_andV (x_op (x_cb (a_cons (x_var rfl) a_nil) c_lenT) (x_cb (a_cons (x_var rfl) a_nil) c_lenT) r_eqI) fun _ => x_op ((x_lcI (ns := rng 0 1 ((l.length : Int)).toNat) (fun _ => false) Y.D.int (i_rng1 (a_cons (x_cb (a_cons (x_var rfl) a_nil) c_lenT) a_nil) (by omega)) (fun u hu => by cases hu; rfl) (by rw [rng_len]; omega) fun o ho => ⟨?_, fun z => (by cases z)⟩).to (y := .lst []) ?_) (x_lst a_nil) (r_eqLI (ns := []) (ms := []))) (dn.imp fun d hd => ?_)
      · obtain ⟨k, rfl, hk⟩ := mem_rng0 ho
        exact like_elt (r_ixT (atI_of (List.getElem?_eq_getElem hk))) (hx _ (List.getElem_mem hk))
      · rw [List.filter_eq_nil_iff.mpr (fun _ _ => by decide)]
        rfl
      · rw [hd, decide_eq_true rfl, decide_eq_true rfl]
        rfl
end
end Y

set_option Elab.async false
set_option linter.all false
set_option maxRecDepth 100000
set_option maxHeartbeats 4000000
/-! Z15: _law_is_bag. -/
namespace Y
open PySem L2
abbrev n_ib : List Str := ["told", "bag", "word"]
theorem sc_ib : FnScope n_ib ["told", "bag"] (defScope s_ib) := ⟨rfl, rfl, rfl, by decide +kernel, rfl, by decide +kernel, by decide +kernel⟩
def spIsBag (Cl : Addr) : Sp := spP (α := LenA) (fun a => [lenD Cl a.p a.gs, bagD a.p a.gs]) (fun a => LenOk a.p a.gs) (fun _ d => d = .bl true)
theorem lkd_leaf {n : Nat} {d : D} (h : d.lf = true) : Lkd n d := by
  cases n with
  | zero => exact h
  | succ n => exact .inl h
theorem lkd_tupI {n : Nat} (gs : List Int) (h : gs.length < 1000000) : Lkd (n + 1) (.tup (gs.map D.int)) := .inr ⟨_, .inr rfl, by rw [List.length_map]; exact h, fun x hx => by
  obtain ⟨g, _, rfl⟩ := List.mem_map.mp hx
  exact lkd_leaf rfl⟩
theorem lkd_lstI {n : Nat} (gs : List Int) (h : gs.length < 1000000) : Lkd (n + 1) (.lst (gs.map D.int)) := .inr ⟨_, .inl rfl, by rw [List.length_map]; exact h, fun x hx => by
  obtain ⟨g, _, rfl⟩ := List.mem_map.mp hx
  exact lkd_leaf rfl⟩
theorem LenOk.ok {p : Int} {gs : List Int} (a : LenOk p gs) : LenA.Ok ⟨p, gs⟩ := ⟨a.p1, by have := a.p2; show p < 1000000000; omega, fun g hg => by have := a.pos g hg; omega, by have := a.len; show gs.length < 1000; omega⟩
theorem LenOk.init {K : PySem.W.Frag} {p : Int} {gs : List Int} (a : LenOk p gs) : InitA.Ok K ⟨p, gs, .lst⟩ := ⟨a.p1, by have := a.p2; show p < 1000000000; omega, fun g hg => by have := a.pos g hg; omega, by have := a.len; show gs.length ≤ 1000; omega, ⟨gs, fun _ h => h, a.len⟩, trivial⟩
theorem LenOk.same {p : Int} {gs S : List Int} (a : LenOk p gs) (h : Srt S gs) : S = gs := h.uniq (Srt.self a.srt)
section
variable {P : Program} {w : World} {K : PySem.W.Frag} {mg : Str → Option Value} {base : Heap} {Cl CB T0 : Addr} {fI : Addr} {fdI : FuncData} {dv : Value} {g0 : List Value → List Value → List Value}
theorem ok_ib {f f1 f2 f3 f4 f5 : Addr} {fd fd1 fd2 fd3 fd4 fd5 : FuncData} {kws : List (Str × V)} (T : Txt K mg Cl) (I : IsiC K Cl) (nF : PySem.W.notFirst K Cl (.type "str") = true) (F : FunD K "_law_is_bag" "_law_is_bag" (defArgs s_ib) (defBody s_ib) (defScope s_ib) [] kws f fd)
    (dInit : DInit P w K base mg Cl CB T0 fI fdI dv g0) (dWord : Dk P w K mg base CX0 "_law_lengths_word" 1 f1 fd1 ["size", "missing"] spWord) (dLike : Dk P w K mg base CX0 "_law_like" 3 f2 fd2 ["told", "due"] (spLike 2))
    (mText : Mt P w K mg base CX0 Cl "text" 1 f3 fd3 ["self"] (spText Cl)) (mStr : Mt P w K mg base CX0 Cl "__str__" 2 f4 fd4 ["self"] (spText Cl)) (mEq : Mt P w K mg base CX0 Cl "__eq__" 1 f5 fd5 ["self", "other"] (spEq Cl)) :
    FnOk P w K mg base CX0 6 f fd ["told", "bag"] (spIsBag Cl) := by
  refine okP 1 F sc_ib (fun _ _ => rfl) rfl fun cdv A outer s H E a hr hp => ⟨_, (pss_cons (ps_set (i := 2) sc_ib.nd rfl (Or.inl rfl) (pe_call dWord.ok (hr.mono (by decide)) (by rfl) dWord.mg dWord.kp dWord.bi .nil pass0 (pa_cons (pe_ix ix_tup (pv 1) pe_int (fun _ _ => rfl)) (pa_cons (pe_ix ix_tup (pv 1) pe_int (fun _ _ => rfl)) pa_nil))))
 (pss_cons (ps_if (PW.pt (pw_or (pt_not (pt_val (pe_callB call_isi (by rfl) T.isinstance (by decide +kernel) (pa_cons (pv 0) (pa_cons (pe_glob (by rfl) T.Lengths (v := V.ref Cl) rfl) pa_nil))))) (pw_or1 (pt_not (pt_val (pe_call dLike.ok (hr.mono (by decide)) (by rfl) dLike.mg dLike.kp dLike.bi .nil pass0 (pa_cons (pe_lst (pa_cons (pe_fld (pv 0) rfl) (pa_cons (pe_fld (pv 0) rfl) (pa_cons (pe_meth0 (pv 0) T.cl mText.me mText.ok (hr.mono (by decide)) mText.bi .nil pass0) (pa_cons (pe_callTy (call_strOwn mStr.ok (hr.mono (by decide)) mStr.me.1 mStr.me.2 mStr.bi pass0) (by rfl) T.str (by decide +kernel) (pa_cons (pv 0) pa_nil)) pa_nil))))) (pa_cons (pe_lst (pa_cons (pe_ix ix_tup (pv 1) pe_int (fun _ _ => rfl)) (pa_cons (pe_callTy call_tuple_of (by rfl) T.tuple (by decide +kernel) (pa_cons (pe_ix ix_tup (pv 1) pe_int (fun _ _ => rfl)) pa_nil)) (pa_cons (pv 2) (pa_cons (pv 2) pa_nil))))) pa_nil)))))))) (pss_one (ps_ret pe_bl)) pss_nil)
 (pss_one (ps_ret (pe_and (pe_cmpR op_isBl (pe_cmpR (op_ownEq mEq.ok (hr.mono (by decide)) mEq.me.1 mEq.me.2 mEq.bi pass0) (pv 0) (pe_make dInit.mks dInit.ok (hr.mono (by decide)) (by rfl) T.Lengths dInit.bi .nil passN (pa_cons (pe_ix ix_tup (pv 1) pe_int (fun _ _ => rfl)) (pa_cons (pe_ix ix_tup (pv 1) pe_int (fun _ _ => rfl)) pa_nil))) (nomark _)) pe_bl (nomark _)) (pe_one (pe_cmpR op_isBl (pe_cmpR (op_ownEq mEq.ok (hr.mono (by decide)) mEq.me.1 mEq.me.2 mEq.bi pass0) (pv 0) (pv 2) (nomark _)) pe_bl (nomark _)))))))), ?_⟩
  intro C M D dn _ _
  obtain ⟨p, gs⟩ := a
  dsimp only at hp dn
  show Go C M [.im (lenD Cl p gs), .im (bagD p gs), .no] _ D
  have hok := hp.ok
  have hl := hp.len
  refine g_seq (g_set (x_call (α := LenA) (a := ⟨p, gs⟩) (a_cons (x_op (x_var rfl) x_int (r_ixT rfl)) (a_cons (x_op (x_var rfl) x_int (r_ixT rfl)) a_nil)) hok) ?_)
  dsimp only
  have hd : Lkd 2 (.lst [.int p, .tup (gs.map Y.D.int), .str (textT p gs), .str (textT p gs)]) := .inr ⟨_, .inl rfl, by show 4 < 1000000; decide, fun x hx => by
    simp only [List.mem_cons, List.not_mem_nil, or_false] at hx
    rcases hx with rfl | rfl | rfl | rfl
    · exact lkd_leaf rfl
    · exact lkd_tupI gs (by omega)
    · exact lkd_leaf rfl
    · exact lkd_leaf rfl⟩
  refine g_seq (g_ifb (t_or (t_not (t_B (e_isiO I (x_var rfl)))) fun _ => t_not (a := true) (t_B (x_call (α := Y.D) (a := .lst [.int p, .tup (gs.map Y.D.int), .str (textT p gs), .str (textT p gs)]) (a_cons (x_lst (a_cons (x_fld T.cl T.nP (x_var rfl) rfl) (a_cons (x_fld T.cl T.nG (x_var rfl) rfl) (a_cons (x_meth (α := LenA) (a := ⟨p, gs⟩) (x_var rfl) rfl a_nil rfl hok) (a_cons (x_cb (a_cons (x_var rfl) a_nil) (c_strOwn (α := LenA) (a := ⟨p, gs⟩) rfl hok fun d hd => ⟨_, hd, rfl⟩)) a_nil)))) (by show 4 ≤ 16000000; decide)) (a_cons (x_lst (a_cons (x_op (x_var rfl) x_int (r_ixT rfl)) (a_cons (x_cb (a_cons (x_op (x_var rfl) x_int (r_ixT rfl)) a_nil) c_tuple) (a_cons (x_var rfl) (a_cons (x_var rfl) a_nil)))) (by show 4 ≤ 16000000; decide)) a_nil)) hd))) (fun e => by cases e) (fun _ => g_next ?_))
  dsimp only
  refine g_ret (x_andV (a := true) (b := true) ?_ fun _ => ?_) dn
  · refine ((e_op (P := fun d => d = .bl true) (R := Is (.bl true)) (S := Is (.bl true)) (e_op (P := Is (lenD Cl p gs)) (R := fun d => d = lenD Cl p gs) (S := fun d => d = .bl true) (x_var rfl) ((x_make (a := ⟨p, gs, .lst⟩) (a_cons (x_op (x_var rfl) x_int (r_ixT rfl)) (a_cons (x_op (x_var rfl) x_int (r_ixT rfl)) a_nil)) hp.init (good_of_clo hp.p1 hp.clo)).imp ?_) ?_) x_bl ?_))
    · rintro d ⟨S, hS, hd⟩
      rw [hd, hp.same hS]
    · rintro x y rfl rfl
      exact r_ownEq (α := EqA) (a := ⟨p, gs, .inl (p, gs)⟩) rfl (.inl ⟨_, rfl⟩) trivial fun d hd => by
        rw [hd]
        show Y.D.bl (decide (p = p) && decide (gs = gs)) = _
        rw [decide_eq_true rfl, decide_eq_true rfl]
        rfl
    · rintro x y rfl rfl
      exact r_isB
  · refine (x_op (x := .bl false) (x_op (x_var rfl) (x_var rfl) (r_ownEq (α := EqA) (a := ⟨p, gs, .inr (textT p gs)⟩) rfl (.inr ⟨_, rfl, nF⟩) trivial fun d hd => hd)) x_bl r_isB)
end
end Y

set_option Elab.async false
set_option linter.all false
set_option maxHeartbeats 4000000
/-! M2: plain mathematics of pairs of lengths. -/
namespace Y
theorem hasL_iff {p n : Int} {gs : List Int} : hasL p gs n = true ↔ n ≥ p ∧ n % p = 0 ∧ n ∉ gs := by
  unfold hasL
  simp
theorem hasB_iff {p n : Int} {gs : List Int} : hasB p gs n = true ↔ n > 0 ∧ n % p = 0 ∧ n ∉ gs := by
  unfold hasB
  simp
theorem hasLB {p n : Int} {gs : List Int} (hp : 1 ≤ p) : hasL p gs n = hasB p gs n := by
  rw [Bool.eq_iff_iff, hasL_iff, hasB_iff]
  refine and_congr_left fun h => ⟨fun z => by omega, fun z => ?_⟩
  obtain ⟨q, rfl⟩ := Int.dvd_of_emod_eq_zero h.1
  have q1 : 1 ≤ q := pos_of_mul hp (by omega)
  have : p * 1 ≤ p * q := Int.mul_le_mul_of_nonneg_left q1 (by omega)
  omega
/-- multiples of p from p on, below b -/
theorem mem_mul {p b x : Int} (hp : 1 ≤ p) : x ∈ rngC p b p ↔ x > 0 ∧ x % p = 0 ∧ x < b := by
  rw [mem_rngC hp]
  constructor
  · rintro ⟨k, rfl, h⟩
    have kp : 0 ≤ (k : Int) * p := Int.mul_nonneg (by omega) (by omega)
    refine ⟨by omega, ?_, h⟩
    have e : p + (k : Int) * p = p * ((k : Int) + 1) := by rw [Int.mul_add, Int.mul_one, Int.mul_comm]; omega
    rw [e]
    exact Int.mul_emod_right ..
  · rintro ⟨h1, h2, h3⟩
    obtain ⟨q, rfl⟩ := Int.dvd_of_emod_eq_zero h2
    have q1 : 1 ≤ q := pos_of_mul hp (by omega)
    refine ⟨(q - 1).toNat, ?_, h3⟩
    have e : (((q - 1).toNat : Nat) : Int) = q - 1 := by omega
    rw [e, Int.sub_mul, Int.one_mul, Int.mul_comm q p]
    omega
theorem bool_eq {a b : Bool} (h : a = true ↔ b = true) : a = b := Bool.eq_iff_iff.mpr h
/-- a bound above all gaps of both -/
def Bnd (p q : Int) (gs hs : List Int) (top : Int) : Prop := ∃ m, m ∈ 0 :: (gs ++ hs) ∧ (∀ y ∈ 0 :: (gs ++ hs), y ≤ m) ∧ top = m + p * q * 2 + 1
theorem less_iff {p q top : Int} {gs hs : List Int} (a : LenOk p gs) (b : LenOk q hs) (ht : Bnd p q gs hs top) : decide (((rngC p top p).filter fun n => hasB p gs n && !hasB q hs n) = []) = withinL p gs q hs := by
  obtain ⟨m, m1, m2, rfl⟩ := ht
  have ap := a.p1
  have bp := b.p1
  have m0 : 0 ≤ m := m2 0 (List.mem_cons_self ..)
  have pq : p ≤ p * q := by
    have : p * 1 ≤ p * q := Int.mul_le_mul_of_nonneg_left bp (by omega)
    omega
  have mg : ∀ y ∈ gs, y ≤ m := fun y hy => m2 y (List.mem_cons_of_mem _ (List.mem_append_left _ hy))
  refine bool_eq ⟨fun h => ?_, fun h => ?_⟩
  · have h0 := of_decide_eq_true h
    have none : ∀ n, n > 0 → n % p = 0 → n < m + p * q * 2 + 1 → n ∉ gs → n % q = 0 ∧ n ∉ hs := fun n n1 n2 n3 n4 => by
      have hB : hasB p gs n = true := hasB_iff.mpr ⟨n1, n2, n4⟩
      have z := List.filter_eq_nil_iff.mp h0 n ((mem_mul ap).mpr ⟨n1, n2, n3⟩)
      rw [hB] at z
      have : hasB q hs n = true := by
        cases e : hasB q hs n with
        | true => rfl
        | false =>
          rw [e] at z
          exact absurd rfl z
      exact ⟨(hasB_iff.mp this).2.1, (hasB_iff.mp this).2.2⟩
    -- two multiples of p above all gaps
    have k1 : p * (m / p) ≤ m := Int.mul_ediv_self_le (by omega)
    have k2 : m < p * (m / p) + p := Int.lt_mul_ediv_self_add (by omega)
    have k0 : 0 ≤ p * (m / p) := Int.mul_nonneg (by omega) (Int.ediv_nonneg m0 (by omega))
    have e1 : p * (m / p + 1) = p * (m / p) + p := by rw [Int.mul_add, Int.mul_one]
    have e2 : p * (m / p + 2) = p * (m / p) + p * 2 := by rw [Int.mul_add]
    have c1 := (none (p * (m / p + 1)) (by omega) (Int.mul_emod_right ..) (by omega) (fun z => by have := mg _ z; omega)).1
    have c2 := (none (p * (m / p + 2)) (by omega) (Int.mul_emod_right ..) (by omega) (fun z => by have := mg _ z; omega)).1
    have hpq : p % q = 0 := by
      have e : p * (m / p + 2) - p * (m / p + 1) = p := by omega
      rw [← e, Int.sub_emod, c1, c2]
      simp
    unfold withinL
    rw [decide_eq_true hpq, Bool.true_and]
    refine List.all_eq_true.mpr fun g hg => ?_
    cases e : hasL p gs g with
    | false => rfl
    | true =>
      rw [hasLB ap] at e
      have z := hasB_iff.mp e
      exact absurd hg (none g z.1 z.2.1 (by have := m2 g (List.mem_cons_of_mem _ (List.mem_append_right _ hg)); omega) z.2.2).2
  · unfold withinL at h
    obtain ⟨h1, h2⟩ := Bool.and_eq_true_iff.mp h
    have hpq := of_decide_eq_true h1
    refine decide_eq_true (List.filter_eq_nil_iff.mpr fun n hn => ?_)
    intro z
    obtain ⟨z1, z2⟩ := Bool.and_eq_true_iff.mp z
    have y := hasB_iff.mp z1
    have nq : n % q = 0 := by
      obtain ⟨c, rfl⟩ := Int.dvd_of_emod_eq_zero y.2.1
      obtain ⟨d, hd⟩ := Int.dvd_of_emod_eq_zero hpq
      rw [hd, Int.mul_assoc]
      exact Int.mul_emod_right ..
    have nh : n ∈ hs := by
      by_cases e : n ∈ hs
      · exact e
      · rw [hasB_iff.mpr ⟨y.1, nq, e⟩] at z2
        cases z2
    have := List.all_eq_true.mp h2 n nh
    rw [hasLB ap, z1] at this
    cases this
theorem within_self {p : Int} {gs : List Int} (hp : 1 ≤ p) : withinL p gs p gs = true := by
  unfold withinL
  rw [decide_eq_true (Int.emod_self), Bool.true_and]
  refine List.all_eq_true.mpr fun g hg => ?_
  cases e : hasL p gs g with
  | false => rfl
  | true => exact absurd hg (hasL_iff.mp e).2.2
theorem lcm_dvd {p q : Int} (hp : 1 ≤ p) (hq : 1 ≤ q) {x : Int} : x % (Nat.lcm p.natAbs q.natAbs : Nat) = 0 ↔ x % p = 0 ∧ x % q = 0 := by
  have e : ∀ (a y : Int), y % a = 0 ↔ a.natAbs ∣ y.natAbs := fun a y => by
    rw [Int.natAbs_dvd_natAbs]
    exact ⟨Int.dvd_of_emod_eq_zero, Int.emod_eq_zero_of_dvd⟩
  have hl : 1 ≤ ((Nat.lcm p.natAbs q.natAbs : Nat) : Int) := by
    have := Nat.lcm_pos (m := p.natAbs) (n := q.natAbs) (by omega) (by omega)
    omega
  rw [e, e p, e q, Int.natAbs_natCast]
  exact ⟨fun h => ⟨Nat.dvd_trans (Nat.dvd_lcm_left ..) h, Nat.dvd_trans (Nat.dvd_lcm_right ..) h⟩, fun h => Nat.lcm_dvd h.1 h.2⟩
theorem common_srt {p q top : Int} {gs hs : List Int} (a : LenOk p gs) (b : LenOk q hs) (ht : Bnd p q gs hs top) : Srt ((rngC (Nat.lcm p.natAbs q.natAbs : Nat) top (Nat.lcm p.natAbs q.natAbs : Nat)).filter fun n => !(hasB p gs n && hasB q hs n)) (bothL p q gs hs) := by
  obtain ⟨m, m1, m2, rfl⟩ := ht
  have ap := a.p1
  have bp := b.p1
  have hl : 1 ≤ ((Nat.lcm p.natAbs q.natAbs : Nat) : Int) := (lcm_pos ap bp a.p2 b.p2).1
  have pq : 0 ≤ p * q := Int.mul_nonneg (by omega) (by omega)
  refine ⟨(rng_pair hl _).filter _, fun k => ?_⟩
  rw [List.mem_filter, mem_mul hl]
  unfold bothL
  rw [List.mem_filter]
  constructor
  · rintro ⟨⟨k1, k2, k3⟩, k4⟩
    refine ⟨?_, decide_eq_true k2⟩
    obtain ⟨d1, d2⟩ := (lcm_dvd ap bp).mp k2
    by_cases e1 : k ∈ gs
    · exact List.mem_append_left _ e1
    · by_cases e2 : k ∈ hs
      · exact List.mem_append_right _ e2
      · rw [hasB_iff.mpr ⟨k1, d1, e1⟩, hasB_iff.mpr ⟨k1, d2, e2⟩] at k4
        cases k4
  · rintro ⟨k1, k2⟩
    have k2 := of_decide_eq_true k2
    have pos : 1 ≤ k := by
      rcases List.mem_append.mp k1 with z | z
      · exact (a.pos k z).1
      · exact (b.pos k z).1
    refine ⟨⟨by omega, k2, by have := m2 k (List.mem_cons_of_mem _ k1); omega⟩, ?_⟩
    rcases List.mem_append.mp k1 with z | z
    · have : hasB p gs k = false := by
        cases e : hasB p gs k with
        | false => rfl
        | true => exact absurd z (hasB_iff.mp e).2.2
      rw [this]
      rfl
    · have : hasB q hs k = false := by
        cases e : hasB q hs k with
        | false => rfl
        | true => exact absurd z (hasB_iff.mp e).2.2
      rw [this, Bool.and_false]
      rfl
theorem both_self {p : Int} {gs : List Int} (a : LenOk p gs) : ((Nat.lcm p.natAbs p.natAbs : Nat) : Int) = p ∧ Srt gs (bothL p p gs gs) := by
  have ap := a.p1
  have e : ((Nat.lcm p.natAbs p.natAbs : Nat) : Int) = p := by
    rw [Nat.lcm_self]
    omega
  refine ⟨e, a.srt, fun k => ?_⟩
  unfold bothL
  rw [List.mem_filter, e, List.mem_append, or_self]
  exact ⟨fun h => ⟨h, decide_eq_true (a.clo k h).1⟩, fun h => h.1⟩
theorem lcm_div {p q : Int} (hp : 1 ≤ p) (hq : 1 ≤ q) : p * q / (Nat.gcd p.natAbs q.natAbs : Nat) = (Nat.lcm p.natAbs q.natAbs : Nat) := by
  unfold Nat.lcm
  have e : p * q = ((p.natAbs * q.natAbs : Nat) : Int) := by
    rw [Int.natCast_mul]
    congr 1 <;> omega
  rw [e]
  exact (Int.natCast_ediv ..).symm
end Y

set_option Elab.async false
set_option linter.all false
set_option maxRecDepth 100000
set_option maxHeartbeats 8000000
/-! Z16: _law_pair_holds. -/
namespace Y
open PySem L2
abbrev n_ph : List Str := ["one", "two", "bag", "second", "top", "less", "size", "common", "num"]
theorem sc_ph : FnScope n_ph ["one", "two", "bag", "second"] (defScope s_ph) := ⟨rfl, rfl, rfl, by decide +kernel, rfl, by decide +kernel, by decide +kernel⟩
/-- two lengths beside each other -/
structure PairOk (p : Int) (gs : List Int) (q : Int) (hs : List Int) : Prop where
  a : LenOk p gs
  b : LenOk q hs
  p2 : p ≤ 150
  q2 : q ≤ 150
  un : ∃ L : List Int, (∀ k, k ∈ bothL p q gs hs → k ∈ L) ∧ L.length < 64
def spPair (Cl : Addr) : Sp := spP (α := TwoA) (fun a => [lenD Cl a.p a.gs, lenD Cl a.q a.hs, bagD a.p a.gs, bagD a.q a.hs]) (fun a => PairOk a.p a.gs a.q a.hs) (fun _ d => d = .bl true)
theorem PairOk.len {p q : Int} {gs hs S : List Int} (h : PairOk p gs q hs) (s : Srt S (bothL p q gs hs)) : LenOk (Nat.lcm p.natAbs q.natAbs : Nat) S where
  p1 := (lcm_pos h.a.p1 h.b.p1 h.a.p2 h.b.p2).1
  p2 := by
    have b : Nat.lcm p.natAbs q.natAbs ≤ p.natAbs * q.natAbs := by
      unfold Nat.lcm
      exact Nat.div_le_self ..
    have h1 := h.p2
    have h2 := h.q2
    have h3 := h.a.p1
    have h4 := h.b.p1
    have c : p.natAbs * q.natAbs ≤ 150 * 150 := Nat.mul_le_mul (by omega) (by omega)
    omega
  srt := s.1
  clo := (clo_both h.a h.b).ext s.2
  pos := fun g hg => by
    have z := (List.mem_filter.mp ((s.2 g).mp hg)).1
    rcases List.mem_append.mp z with z | z
    · exact h.a.pos g z
    · exact h.b.pos g z
  len := by
    obtain ⟨L, hL, hl⟩ := h.un
    have := nodup_len s.nodup (L := L) fun k hk => hL k ((s.2 k).mp hk)
    omega
theorem r_eqBag {K : PySem.W.Frag} {p q : Int} {gs hs : List Int} : RV (rEqD K) (bagD p gs) (bagD q hs) (Is (.bl (decide (p = q) && decide (gs = hs)))) := by
  have sh : ∀ (p : Int) (gs : List Int), SeqAt.shaped (bagD p gs).pd = true := fun p gs => by
    show ((true && (PyData.canLayAll0 (D.pds (gs.map D.int)) && true)) && decide (max 0 (max (PyData.depthAll (D.pds (gs.map D.int)) + 1) 0) + 1 ≤ 64)) = true
    rw [pds_ints, lay_ints, depth_ints]
    rfl
  have ip : ∀ (p : Int) (gs : List Int), (bagD p gs).isP = true := fun p gs => by
    show (true && (D.isPs (gs.map D.int) && true)) = true
    rw [isPs_ints]
    rfl
  refine (r_eqD (ip p gs) (ip q hs) (sh p gs) (sh q hs)).imp fun d hd => ?_
  rw [hd]
  show D.bl ((p == q) && (PyData.eqvAll (D.pds (gs.map D.int)) (D.pds (hs.map D.int)) && true)) = _
  rw [pds_ints, pds_ints, eqv_ints, Bool.and_true]
  congr 2
section
variable {P : Program} {w : World} {K : PySem.W.Frag} {mg : Str → Option Value} {base : Heap} {Cl CB T0 : Addr}
theorem ok_ph {f f1 f2 f3 f4 f5 f6 f7 f8 : Addr} {fd fd1 fd2 fd3 fd4 fd5 fd6 fd7 fd8 : FuncData} {kws : List (Str × V)} {g1 g2 : List Value → List Value → List Value} (T : Txt K mg Cl) (F : FunD K "_law_pair_holds" "_law_pair_holds" (defArgs s_ph) (defBody s_ph) (defScope s_ph) [] kws f fd)
    (dBounded : Dk P w K mg base CX0 "_law_bounded" 1 f1 fd1 ["bag", "second"] spBnd) (dLike : Dk P w K mg base CX0 "_law_like" 3 f2 fd2 ["told", "due"] (spLike 2)) (dHas : Dk P w K mg base CX0 "_law_has" 1 f3 fd3 ["bag", "num"] spLHas)
    (dDiv : Dk P w K mg base CX0 "_law_divisor" 1 f4 fd4 ["top", "low"] spDiv) (dIsBag : Dk P w K mg base CX0 "_law_is_bag" 6 f5 fd5 ["told", "bag"] (spIsBag Cl)) (mWithin : Mt P w K mg base CX0 Cl "within" 2 f6 fd6 ["self", "other"] (spWithin Cl)) (kWithin : KBn K fd6 ["self", "other"] 1 ["other"] g1 (fun vs zs => vs ++ zs))
    (mBoth : Mt P w K mg base CX0 Cl "both" 6 f7 fd7 ["self", "other"] (spBoth Cl)) (kBoth : KBn K fd7 ["self", "other"] 1 ["other"] g2 (fun vs zs => vs ++ zs)) (mEq : Mt P w K mg base CX0 Cl "__eq__" 1 f8 fd8 ["self", "other"] (spEq Cl)) :
    FnOk P w K mg base CX0 7 f fd ["one", "two", "bag", "second"] (spPair Cl) := by
  refine okP 5 F sc_ph (fun _ _ => rfl) rfl fun cdv A outer s H E a hr hp => ⟨_, (pss_cons (ps_set (i := 4) sc_ph.nd rfl (Or.inl rfl) (pe_call dBounded.ok (hr.mono (by decide)) (by rfl) dBounded.mg dBounded.kp dBounded.bi .nil pass0 (pa_cons (pv 2) (pa_cons (pv 3) pa_nil))))
 (pss_cons (ps_set (i := 5) sc_ph.nd rfl (Or.inl rfl) (pe_cmpR (op_eqD hr.units) (pe_lc (own := [("num", 8)]) (g := gName 8) rfl sc_ph.nd (pi_range3 (by rfl) T.range (pa_cons (pe_ix ix_tup (pv 2) pe_int (fun _ _ => rfl)) (pa_cons (pv 4) (pa_cons (pe_ix ix_tup (pv 2) pe_int (fun _ _ => rfl)) pa_nil)))) (blkOk_by (own := [("num", 8)]) (N := n_ph) (sc := defScope s_ph) (by decide +kernel)) (fun _ _ _ _ _ => pg_name (i := 8) sc_ph.nd rfl (Or.inl rfl)) (fun _ _ _ _ _ => (pts_one (PW.pt (pw_and (pt_val (pe_call dHas.ok (hr.mono (by decide)) (by rfl) dHas.mg dHas.kp dHas.bi .nil pass0 (pa_cons (pv 2) (pa_cons (pv 8) pa_nil)))) (pw_and1 (pt_not (pt_val (pe_call dHas.ok (hr.mono (by decide)) (by rfl) dHas.mg dHas.kp dHas.bi .nil pass0 (pa_cons (pv 3) (pa_cons (pv 8) pa_nil)))))))))) (fun _ _ _ _ _ => (pv 8))) (pe_lst pa_nil) (nomark _)))
 (pss_cons (ps_set (i := 6) sc_ph.nd rfl (Or.inl rfl) (pe_op op_fdiv (pe_op op_mul (pe_ix ix_tup (pv 2) pe_int (fun _ _ => rfl)) (pe_ix ix_tup (pv 3) pe_int (fun _ _ => rfl))) (pe_call dDiv.ok (hr.mono (by decide)) (by rfl) dDiv.mg dDiv.kp dDiv.bi .nil pass0 (pa_cons (pe_ix ix_tup (pv 2) pe_int (fun _ _ => rfl)) (pa_cons (pe_ix ix_tup (pv 3) pe_int (fun _ _ => rfl)) pa_nil)))))
 (pss_cons (ps_set (i := 7) sc_ph.nd rfl (Or.inl rfl) (pe_tup (pa_cons (pv 6) (pa_cons (pe_lc (own := [("num", 8)]) (g := gName 8) rfl sc_ph.nd (pi_range3 (by rfl) T.range (pa_cons (pv 6) (pa_cons (pv 4) (pa_cons (pv 6) pa_nil)))) (blkOk_by (own := [("num", 8)]) (N := n_ph) (sc := defScope s_ph) (by decide +kernel)) (fun _ _ _ _ _ => pg_name (i := 8) sc_ph.nd rfl (Or.inl rfl)) (fun _ _ _ _ _ => (pts_one (pt_not (PW.pt (pw_and (pt_val (pe_call dHas.ok (hr.mono (by decide)) (by rfl) dHas.mg dHas.kp dHas.bi .nil pass0 (pa_cons (pv 2) (pa_cons (pv 8) pa_nil)))) (pw_and1 (pt_val (pe_call dHas.ok (hr.mono (by decide)) (by rfl) dHas.mg dHas.kp dHas.bi .nil pass0 (pa_cons (pv 3) (pa_cons (pv 8) pa_nil)))))))))) (fun _ _ _ _ _ => (pv 8))) pa_nil))))
 (pss_cons (ps_if (PW.pt (pw_or (pt_not (pt_val (pe_call dLike.ok (hr.mono (by decide)) (by rfl) dLike.mg dLike.kp dLike.bi .nil pass0 (pa_cons (pe_lst (pa_cons (pe_meth (pv 0) T.cl mWithin.me mWithin.ok (hr.mono (by decide)) mWithin.bi .nil pass0 (pa_cons (pv 1) pa_nil)) (pa_cons (y_methK (pv 0) T.cl mWithin.me mWithin.ok (hr.mono (by decide)) kWithin pass0 (pk_cons (pv 1) pk_nil)) (pa_cons (pe_meth (pv 0) T.cl mWithin.me mWithin.ok (hr.mono (by decide)) mWithin.bi .nil pass0 (pa_cons (pv 0) pa_nil)) pa_nil)))) (pa_cons (pe_lst (pa_cons (pv 5) (pa_cons (pv 5) (pa_cons pe_bl pa_nil)))) pa_nil))))) (pw_or1 (pt_not (pt_val (pe_call dIsBag.ok (hr.mono (by decide)) (by rfl) dIsBag.mg dIsBag.kp dIsBag.bi .nil pass0 (pa_cons (pe_meth (pv 0) T.cl mBoth.me mBoth.ok (hr.mono (by decide)) mBoth.bi .nil pass0 (pa_cons (pv 1) pa_nil)) (pa_cons (pv 7) pa_nil)))))))) (pss_one (ps_ret pe_bl)) pss_nil)
 (pss_one (ps_ret (pe_and (pe_call dLike.ok (hr.mono (by decide)) (by rfl) dLike.mg dLike.kp dLike.bi .nil pass0 (pa_cons (pe_cmpR (op_ownEq mEq.ok (hr.mono (by decide)) mEq.me.1 mEq.me.2 mEq.bi pass0) (pv 0) (pv 1) (nomark _)) (pa_cons (pe_cmpR (op_eqD hr.units) (pv 2) (pv 3) (nomark _)) pa_nil))) (pe_one (pe_call dIsBag.ok (hr.mono (by decide)) (by rfl) dIsBag.mg dIsBag.kp dIsBag.bi .nil pass0 (pa_cons (y_methK (pv 0) T.cl mBoth.me mBoth.ok (hr.mono (by decide)) kBoth pass0 (pk_cons (pv 0) pk_nil)) (pa_cons (pv 2) pa_nil)))))))))))), ?_⟩
  intro C M D dn _ _
  obtain ⟨p, gs, q, hs⟩ := a
  dsimp only at hp dn
  show Go C M [.im (lenD Cl p gs), .im (lenD Cl q hs), .im (bagD p gs), .im (bagD q hs), .no, .no, .no, .no, .no] _ D
  have ap := hp.a.p1; have ap2 := hp.p2; have al := hp.a.len
  have bp := hp.b.p1; have bp2 := hp.q2; have bl := hp.b.len
  refine g_seq (g_asg (x_call (α := TwoA) (a := ⟨p, gs, q, hs⟩) (a_cons (x_var rfl) (a_cons (x_var rfl) a_nil)) ⟨ap, by show p < 1000000; omega, bp, by show q < 1000000; omega, by show gs.length < 1000; omega, by show hs.length < 1000; omega⟩) ?_)
  rintro _ ⟨m, m1, m2, rfl⟩
  dsimp only at m1 m2 ⊢
  have hB : Bnd p q gs hs (m + p * q * 2 + 1) := ⟨m, m1, m2, rfl⟩
  have pq : p * q ≤ 150 * 150 ∧ 0 ≤ p * q := ⟨Int.mul_le_mul (by omega) (by omega) (by omega) (by omega), Int.mul_nonneg (by omega) (by omega)⟩
  have mb : 0 ≤ m ∧ m ≤ 1000000 := by
    refine ⟨m2 0 (List.mem_cons_self ..), ?_⟩
    rcases List.mem_cons.mp m1 with z | z
    · omega
    · rcases List.mem_append.mp z with z | z
      · exact (hp.a.pos m z).2
      · exact (hp.b.pos m z).2
  have tb : 1 ≤ m + p * q * 2 + 1 ∧ m + p * q * 2 + 1 ≤ 2000000 := by omega
  generalize m + p * q * 2 + 1 = tp at hB tb
  -- less
  refine g_seq (g_set (d := .bl (withinL p gs q hs)) ((x_op ((x_lcI (ns := rngC p tp p) (fun n => hasB p gs n && !hasB q hs n) Y.D.int (i_rngC (a_cons (x_op (x_var rfl) x_int (r_ixT rfl)) (a_cons (x_var rfl) (a_cons (x_op (x_var rfl) x_int (r_ixT rfl)) a_nil))) ap (by omega) (by omega) (by omega) (by omega) (by omega)) (fun u hu => by cases hu; rfl) (by have := rngC_len (a := p) (b := tp) ap; omega) fun o ho => ⟨t_and (t_B (x_call (α := HasA) (a := ⟨p, gs, o⟩) (a_cons (x_var rfl) (a_cons (x_var rfl) a_nil)) ap)) fun _ => t_not (t_B (x_call (α := HasA) (a := ⟨q, hs, o⟩) (a_cons (x_var rfl) (a_cons (x_var rfl) a_nil)) bp)), fun _ => x_var rfl⟩)) (x_lst a_nil) (r_eqLI (ms := []))).to (by rw [less_iff hp.a hp.b hB])) ?_)
  dsimp only
  -- size
  have hgcd : (Nat.gcd p.natAbs q.natAbs : Nat) ≤ p.natAbs := Nat.gcd_le_left _ (by omega)
  have hgcd0 : 0 < (Nat.gcd p.natAbs q.natAbs : Nat) := Nat.gcd_pos_of_pos_left _ (by omega)
  refine g_seq (g_set (d := .int (Nat.lcm p.natAbs q.natAbs : Nat)) ((x_op (x_op (x_op (x_var rfl) x_int (r_ixT rfl)) (x_op (x_var rfl) x_int (r_ixT rfl)) (r_Ii (.inl ⟨by omega, by omega⟩))) (x_call (α := Int × Int) (a := (p, q)) (a_cons (x_op (x_var rfl) x_int (r_ixT rfl)) (a_cons (x_op (x_var rfl) x_int (r_ixT rfl)) a_nil)) ⟨by show 0 ≤ p; omega, by show 0 ≤ q; omega⟩) (r_Ii (⟨by show (0 : Int) < (Nat.gcd p.natAbs q.natAbs : Nat); omega, by show ((Nat.gcd p.natAbs q.natAbs : Nat) : Int) < 1073741824; omega⟩ : CDiv _ _))).to (by rw [← lcm_div ap bp])) ?_)
  dsimp only
  have hl := lcm_pos ap bp hp.a.p2 hp.b.p2
  have hlz := hp.len (common_srt hp.a hp.b hB)
  have hlp2 := hlz.p2
  generalize eL : ((Nat.lcm p.natAbs q.natAbs : Nat) : Int) = lc at hl hlz hlp2
  -- common
  refine g_seq (g_set (d := bagD lc ((rngC lc tp lc).filter fun n => !(hasB p gs n && hasB q hs n))) (x_tup (a_cons (x_var rfl) (a_cons (x_lcI (ns := rngC lc tp lc) (fun n => !(hasB p gs n && hasB q hs n)) Y.D.int (i_rngC (a_cons (x_var rfl) (a_cons (x_var rfl) (a_cons (x_var rfl) a_nil))) hl.1 (by omega) (by omega) (by omega) (by omega) (by omega)) (fun u hu => by cases hu; rfl) (by have := rngC_len (a := lc) (b := tp) hl.1; omega) fun o ho => ⟨t_not (t_and (t_B (x_call (α := HasA) (a := ⟨p, gs, o⟩) (a_cons (x_var rfl) (a_cons (x_var rfl) a_nil)) ap)) fun _ => t_B (x_call (α := HasA) (a := ⟨q, hs, o⟩) (a_cons (x_var rfl) (a_cons (x_var rfl) a_nil)) bp)), fun _ => x_var rfl⟩) a_nil)) (by show 2 ≤ 16000000; decide)) ?_)
  dsimp only
  have hcs := common_srt hp.a hp.b hB
  rw [eL] at hcs
  generalize eC : (rngC lc tp lc).filter (fun n => !(hasB p gs n && hasB q hs n)) = cl at hlz hcs
  have lk1 : Lkd 2 (.lst [.bl (withinL p gs q hs), .bl (withinL p gs q hs), .bl true]) := .inr ⟨_, .inl rfl, by show 3 < 1000000; decide, fun x hx => by
    simp only [List.mem_cons, List.not_mem_nil, or_false] at hx
    rcases hx with rfl | rfl | rfl <;> exact lkd_leaf rfl⟩
  refine g_seq (g_ifb (t_or (t_not (a := true) (t_B (x_call (α := Y.D) (a := .lst [.bl (withinL p gs q hs), .bl (withinL p gs q hs), .bl true]) (a_cons (x_lst (a_cons (x_meth (α := TwoA) (a := ⟨p, gs, q, hs⟩) (x_var rfl) rfl (a_cons (x_var rfl) a_nil) rfl ⟨ap, bp⟩) (a_cons (x_methK (α := TwoA) (a := ⟨p, gs, q, hs⟩) (x_var rfl) rfl (a_cons (x_var rfl) a_nil) rfl rfl ⟨ap, bp⟩) (a_cons ((x_meth (α := TwoA) (a := ⟨p, gs, p, gs⟩) (x_var rfl) rfl (a_cons (x_var rfl) a_nil) rfl ⟨ap, ap⟩).imp ?_) a_nil))) (by show 3 ≤ 16000000; decide)) (a_cons (x_lst (a_cons (x_var rfl) (a_cons (x_var rfl) (a_cons x_bl a_nil))) (by show 3 ≤ 16000000; decide)) a_nil)) lk1))) fun _ => t_not (a := true) (t_B (x_call (α := LenA) (a := ⟨lc, cl⟩) (a_cons ((x_meth (α := TwoA) (a := ⟨p, gs, q, hs⟩) (x_var rfl) rfl (a_cons (x_var rfl) a_nil) rfl ⟨hp.a, hp.b, hp.un⟩).imp ?_) (a_cons (x_var rfl) a_nil)) hlz))) (fun e => by cases e) (fun _ => g_next ?_))
  · intro d hd
    rw [hd, within_self ap]
  · rintro d ⟨S, hS, hd⟩
    rw [hd, hS.uniq hcs]
    show lenD Cl ((Nat.lcm p.natAbs q.natAbs : Nat) : Int) cl = _
    rw [eL]
  dsimp only
  obtain ⟨eP, sP⟩ := both_self hp.a
  have un2 : ∃ L : List Int, (∀ k, k ∈ bothL p p gs gs → k ∈ L) ∧ L.length < 64 := ⟨gs, fun k hk => (sP.2 k).mpr hk, al⟩
  refine g_ret (x_andV (a := true) (b := true) (x_call (α := Y.D) (a := .bl (decide (p = q) && decide (gs = hs))) (a_cons (x_op (x_var rfl) (x_var rfl) (r_ownEq (α := EqA) (a := ⟨p, gs, .inl (q, hs)⟩) rfl (.inl ⟨_, rfl⟩) trivial fun d hd => hd)) (a_cons (x_op (x_var rfl) (x_var rfl) r_eqBag) a_nil)) (lkd_leaf rfl)) fun _ => x_call (α := LenA) (a := ⟨p, gs⟩) (a_cons ((x_methK (α := TwoA) (a := ⟨p, gs, p, gs⟩) (x_var rfl) rfl (a_cons (x_var rfl) a_nil) rfl rfl ⟨hp.a, hp.a, un2⟩).imp ?_) (a_cons (x_var rfl) a_nil)) hp.a) dn
  rintro d ⟨S, hS, hd⟩
  rw [hd, hS.uniq sP]
  show lenD Cl ((Nat.lcm p.natAbs p.natAbs : Nat) : Int) gs = _
  rw [eP]
end
end Y

set_option Elab.async false
set_option linter.all false
set_option maxRecDepth 100000
set_option maxHeartbeats 4000000
/-! Y18: a def that is called while one told exception is handled. -/
namespace Y
open PySem PySem.Spec PyProof.Rows L2 L2H
/-- as FnH, of one handled exception p -/
structure FnHp (P : Program) (w : World) (K : PySem.W.Frag) (mg : Str → Option Value) (base : Heap) (CX : CXT) (p : Addr × Obj) (k : Nat) (f : Addr) (fd : FuncData) (ps : List Str) (sp : Sp) : Prop where
  len : ∀ vs H Q E, sp vs H Q E → vs.length = ps.length
  run : ∀ (A : Around) (outer : List Env) (s : Shared) (H : Hp) (args : Args) (us : List Value) (vs : List V) (Q : VK) (E : XK), RoomH k A → Hot1 A p → PinOk outer H s p → Env0 P w K mg base A outer s H → BindsTo s fd args (ps.zip us) → Vals vs us → sp vs H Q E →
    codeAny (model P w) A (.call (.ref f) args) (CR CX outer P w H s Q E) s
theorem fn_ofHp {P : Program} {w : World} {K : PySem.W.Frag} {mg : Str → Option Value} {base : Heap} {CX : CXT} {p : Addr × Obj} {x qual : Str} {params : Arguments} {body : List Stmt} {scope : Scope} {dvs : List V} {kws : List (Str × V)} {f : Addr} {fd : FuncData} {N ps : List Str} {k : Nat} {sp : Sp}
    (F : FunD K x qual params body scope dvs kws f fd) (S : FnScope N ps scope) (len : ∀ vs H Q E, sp vs H Q E → vs.length = ps.length)
    (hb : ∀ (cdv : Value) (A : Around) (outer : List Env) (s : Shared) (H : Hp) (vs : List V) (Q : VK) (E : XK), Hot1 A p → RoomH k (A.deeper (envOfC qual scope s.heap.objs.size f cdv)) → sp vs H Q E →
      ∃ t, PSs (cxH CX P w K mg base N qual scope f cdv A outer s H E p) body t ∧ t { nx := fun _ H' => Q .non H', rt := Q } (L2.start N vs) H) : FnHp P w K mg base CX p (k + 1) f fd ps sp := by
  obtain ⟨oc, od, dV, kV, doc, pm, an, cdv, ct, osl, rfl, lk, code, _, _⟩ := F.ex
  refine ⟨len, fun A outer s H args us vs Q E hr hot pin e0 bnd r prom => ?_⟩
  have hl := len _ _ _ _ prom
  have KX : K.In s.heap := e0.mod.kin.keeps fun b o e => (e0.bs b o e).1
  have lim : s.heap.NoLimit := e0.mod.nolimit.keeps fun b o e => (e0.bs b o e).1
  have kinds : ∀ y ∈ ps.zip us, scope.names.lookup y.1 = some .local ∨ (scope.names.lookup y.1 = some .cell ∧ ((cellsFrom (s.heap.objs.size + 1) scope.names []).lookup y.1).isSome = true) := fun ⟨n, v⟩ hy =>
    (S.par n (List.of_mem_zip hy).1).elim .inl fun q => .inr ⟨q, PySem.W.cellsFrom_some _ _ _ (.inl q)⟩
  refine codeAny_call_function hr.depth (KX _ _ lk) rfl S.co S.gen rfl (PySem.W.codeRec_of KX code) (bnd _ _ _ _ ?_)
  refine wpAny_newFunctionEnv_cells S.kind kinds fun env he s1 entry => ?_
  subst he
  refine ⟨lim.keeps entry.toInCall.keep, codeAny_func ?_⟩
  obtain ⟨t, ht, hq⟩ := hb cdv A outer s H vs Q E hot (hr.deeper _) prom
  have I : Inv (cxH CX P w K mg base N qual scope f cdv A outer s H E p) [] (L2.start N vs) H s1 := inv_startH S pin e0 hl r entry
  refine wpAny_mono (ht.run [] s1 (L2.start N vs) H _ I hq) (fun fl s2 post => ?_) fun e s2 post => post
  cases fl with
  | ret u =>
    obtain ⟨v, σ2, H2, J, rv, q⟩ := post
    exact ⟨v, H2, J.os, J.bare, J.base, J.hok, rv, q⟩
  | next =>
    obtain ⟨σ2, H2, J, q⟩ := post
    exact ⟨V.non, H2, J.os, J.bare, J.base, J.hok, rfl, q⟩
  | brk =>
    obtain ⟨_, _, _, q⟩ := post
    exact False.elim q
  | cont =>
    obtain ⟨_, _, _, q⟩ := post
    exact False.elim q
section
variable {X : Cx} {CX : CXT} {p : Addr × Obj} {k : Nat} {f : Addr} {fd : FuncData} {ps : List Str} {sp : Sp} {E : XK} {x : Str} {q pos : Pos} {e : Expr} {es : List Expr} {t : TA}
theorem pe_callHp (F : FnHp X.prog X.w X.K X.mg X.base CX p k f fd ps sp) (hr : RoomH k X.A) (hot : Hot1 X.A p) (hp : p ∈ X.pn) (gl : Gl X x) (hm : X.mg x = some (.ref f)) (kp : PySem.W.keepIn X.K (.ref f) = true) (bi : Binds X.K fd ps []) (hx : Passes CX X E)
    (pa : PA X (e :: es) t) (hdb : (x == ("__debug__" : Str)) = false := by decide) (st : starEach (e :: es) X.env = (false, eval e X.env) :: starEach es X.env := by rfl) (pl : (backTo pos (starEach es X.env)).any (·.1) = false := by rfl) :
    PE X (.Call (.Name x q) (e :: es) [] pos) (tCall sp [] E t) := by
  refine ⟨fun pins s σ H Q I h => ?_⟩
  refine wpAny_Call_Name_kw (ld_glob I gl hm ?_ hdb)
  refine PySem.W.callWith_K (h₀ := X.base) I.ok.mod.kin kp (thn (pa.run pos pins s σ H _ I h) fun us s1 ⟨vs, H1, I1, r, prom⟩ => ⟨I1.kIn, ?_⟩) st pl
  have prom : sp (vs ++ []) H1 Q E := prom
  rw [List.append_nil] at prom
  have hl : us.length = ps.length := by rw [← r.length]; exact F.len _ _ _ _ prom
  have b := bi s1 us I1.kIn (by rw [List.append_nil]; exact hl)
  rw [List.append_nil] at b
  have P1 := I1.pin p (List.mem_append_left _ hp)
  have pin : PinOk X.stack H1 s1 p := ⟨P1.1, P1.2.1, fun hm => (List.mem_cons.mp (I1.stkSub p.1 hm)).elim P1.2.2.1 P1.2.2.2.1, P1.2.2.2.2⟩
  refine wpAny_call (codeAny_mono (F.run X.A X.stack s1 H1 ⟨us, []⟩ us vs Q E hr hot pin I1.env0 b r prom) fun r s2 post => ?_)
  cases r with
  | error e => exact hx pins σ H1 s1 e s2 I1 post
  | ok fl =>
    cases fl with
    | ret u => exact I1.after post
    | next => exact False.elim post
    | brk => exact False.elim post
    | cont => exact False.elim post
end
/-- THE FORM of such a def -/
theorem okPH {α : Type} {args : α → List Y.D} {pre : α → Prop} {res : α → Y.D → Prop} {P : Program} {w : World} {K : PySem.W.Frag} {mg : Str → Option Value} {base : Heap} {CX : CXT} {p : Addr × Obj} {x qual : Str} {params : Arguments} {body : List Stmt} {scope : Scope} {dvs : List V} {kws : List (Str × V)} {f : Addr} {fd : FuncData} {N ps : List Str} {k : Nat}
    (n : Nat) (F : FunD K x qual params body scope dvs kws f fd) (S : FnScope N ps scope) (hl : ∀ a, pre a → (args a).length = ps.length) (hn : N.length = ps.length + n)
    (hb : ∀ (cdv : Value) (A : Around) (outer : List Env) (s : Shared) (H : Hp) (E : XK) (a : α), Hot1 A p → RoomH k (A.deeper (envOfC qual scope s.heap.objs.size f cdv)) → pre a →
      ∃ t, PSs (cxH CX P w K mg base N qual scope f cdv A outer s H E p) body t ∧ ∀ (C : Ctx) (M : List Addr) (D : Ends), Done C D (res a) → Go C M ((args a).map En.im ++ List.replicate n .no) t D) :
    FnHp P w K mg base CX p (k + 1) f fd ps (spP args pre res) := by
  refine fn_ofHp F S (fun vs H Q E h => ?_) (fun cdv A outer s H vs Q E hot hr h => ?_)
  · obtain ⟨M, a, h1, _, h2, _⟩ := h
    rw [h1.length, hl a h2]
  · obtain ⟨M, a, h1, h2, h3, h4⟩ := h
    obtain ⟨t, ht, hg⟩ := hb cdv A outer s H E a hot hr h3
    exact ⟨t, ht, hg ⟨M, H, [], []⟩ M _ (fun M' env σ H' v d hd B r => h4 v d H' hd B.alls (r.sub B.sub)) _ _ (start_at n h1 h2 (by rw [hl a h3, hn]))⟩
theorem e_isX {K : PySem.W.Frag} {env : List En} {te : TE} {D a dx : Addr} {fs : List (Str × V)} {c : V} {cv : Value} {b : Bool} (h : Ev te env (Is (.exc a dx fs))) (hc : ClsV c cv) (hk : PySem.W.kitOne K (.ref D) cv = some b) : Ev (tCB (rIsX K D a dx) (tCons te (tCons (tC c) tNil))) env (Is (.bl b)) := fun C M σ H A Q q =>
  h C M σ H A _ fun v d0 H1 p1 A1 e1 r1 => by
    subst p1
    cases r1 with
    | exc n r => exact ⟨c, cv, b, fs, rfl, hc, r, hk, q _ _ H1 rfl A1 e1 (.bl b)⟩
end Y

set_option Elab.async false
set_option linter.all false
set_option maxRecDepth 100000
set_option maxHeartbeats 8000000
/-! Z17: _law_class of a BadLengths that is handled. -/
namespace Y
open PySem L2 L2H
abbrev n_cls : List Str := ["e", "kinds", "one"]
theorem sc_cls : FnScope n_cls ["e"] (defScope s_cls) := ⟨rfl, rfl, rfl, by decide +kernel, rfl, by decide +kernel, by decide +kernel⟩
/-- what the module's names of classes hold, and how BadLengths (at CB) stands to them -/
structure ExF (K : PySem.W.Frag) (mgs : Str → Option Value) (CB : Addr) (cl : Str → Addr) : Prop where
  xc : ExcC K CB
  mg : ∀ n, n ∈ exNames → mgs n = some (.ref (cl n))
  is : ∀ n, n ∈ exNames → PySem.W.kitOne K (.ref CB) (.ref (cl n)) = some (isOf n)
  bValueError : mgs "ValueError" = none
  bLookupError : mgs "LookupError" = none
  ve : PySem.W.kitOne K (.ref CB) (.type "ValueError") = some true
  le : PySem.W.kitOne K (.ref CB) (.type "LookupError") = some false
def mk (q : Str × Bool) : D := .tup [.str q.1, .bl q.2]
def exPairs : List (Str × Bool) := exNames.map (fun n => (n, isOf n)) ++ [(("ValueError" : Str), true), (("LookupError" : Str), false)]
def clsD : D := .lst [.str "BadLengths", .str "RingError", .str "ValueError"]
def spClass (a dx : Addr) (fs : List (Str × V)) : Sp := spP (α := Unit) (fun _ => [.exc a dx fs]) (fun _ => True) (fun _ d => d = clsD)
theorem x_kind {K : PySem.W.Frag} {env : List En} {te : TE} {D0 a dx : Addr} {fs : List (Str × V)} {c : V} {cv : Value} {b : Bool} {n : Str} (h : Ev te env (Is (.exc a dx fs))) (hc : ClsV c cv) (hk : PySem.W.kitOne K (.ref D0) cv = some b) :
    Ev (tTup (tCons (tC (.str n)) (tCons (tCB (rIsX K D0 a dx) (tCons te (tCons (tC c) tNil))) tNil))) env (Is (mk (n, b))) := x_tup (a_cons x_str (a_cons (e_isX h hc hk) a_nil)) (by show 2 ≤ 16000000; decide)
def d0 : D → D
  | .tup (x :: _) => x
  | _ => .non
def d1 : D → Bool
  | .tup [_, .bl b] => b
  | _ => false
theorem cls_of : ((exPairs.map mk).filter d1).map d0 = [.str "BadLengths", .str "RingError", .str "ValueError"] := by
  have h : ∀ l : List (Str × Bool), ((l.map mk).filter d1).map d0 = (l.filter (·.2)).map fun q => D.str q.1 := fun l => by
    induction l with
    | nil => rfl
    | cons q l ih =>
      rw [List.map_cons, List.filter_cons, List.filter_cons]
      show List.map d0 (if q.2 = true then mk q :: _ else _) = List.map _ (if q.2 = true then q :: _ else _)
      by_cases e : q.2 = true
      · rw [if_pos e, if_pos e, List.map_cons, List.map_cons, ih]
        rfl
      · rw [if_neg e, if_neg e, ih]
  have e : exPairs.filter (·.2) = [(("BadLengths" : Str), true), (("RingError" : Str), true), (("ValueError" : Str), true)] := by decide +kernel
  rw [h, e]
  rfl
section
variable {P : Program} {w : World} {K : PySem.W.Frag} {mg : Str → Option Value} {base : Heap} {Cl CB : Addr} {cl : Str → Addr}
theorem ok_cls {f : Addr} {fd : FuncData} {kws : List (Str × V)} (T : Txt K mg Cl) (XF : ExF K mg CB cl) (F : FunD K "_law_class" "_law_class" (defArgs s_cls) (defBody s_cls) (defScope s_cls) [] kws f fd) {a dx : Addr} {oe : Obj} (hz : Zc (.ref CB) (some dx) oe) (hf : ∃ vs, oe.data = .fields vs) (fs : List (Str × V)) :
    FnHp P w K mg base CX0 (a, oe) 1 f fd ["e"] (spClass a dx fs) := by
  refine okPH 2 F sc_cls (fun _ _ => rfl) rfl fun cdv A outer s H E _ hot1 hr _ => ?_
  have hp : (a, oe) ∈ (cxH CX0 P w K mg base n_cls "_law_class" (defScope s_cls) f cdv A outer s H E (a, oe)).pn := List.mem_singleton.mpr rfl
  have hot : HotC (cxH CX0 P w K mg base n_cls "_law_class" (defScope s_cls) f cdv A outer s H E (a, oe)) := ⟨(a, oe), ⟨hot1.1, hot1.2⟩, hp⟩
  refine ⟨_, (pss_cons (ps_set (i := 1) sc_cls.nd rfl (Or.inl rfl) (pe_lst (pa_cons (pe_tup (pa_cons pe_str (pa_cons (pe_callB (call_isX XF.xc hz hf hp) (by rfl) T.isinstance (by decide +kernel) (pa_cons (pv 0) (pa_cons (pe_glob (by rfl) (XF.mg "BadRow" (by decide +kernel)) (v := V.ref _) rfl) pa_nil))) pa_nil))) (pa_cons (pe_tup (pa_cons pe_str (pa_cons (pe_callB (call_isX XF.xc hz hf hp) (by rfl) T.isinstance (by decide +kernel) (pa_cons (pv 0) (pa_cons (pe_glob (by rfl) (XF.mg "BadWeb" (by decide +kernel)) (v := V.ref _) rfl) pa_nil))) pa_nil))) (pa_cons (pe_tup (pa_cons pe_str (pa_cons (pe_callB (call_isX XF.xc hz hf hp) (by rfl) T.isinstance (by decide +kernel) (pa_cons (pv 0) (pa_cons (pe_glob (by rfl) (XF.mg "BadBook" (by decide +kernel)) (v := V.ref _) rfl) pa_nil))) pa_nil))) (pa_cons (pe_tup (pa_cons pe_str (pa_cons (pe_callB (call_isX XF.xc hz hf hp) (by rfl) T.isinstance (by decide +kernel) (pa_cons (pv 0) (pa_cons (pe_glob (by rfl) (XF.mg "BadLengths" (by decide +kernel)) (v := V.ref _) rfl) pa_nil))) pa_nil))) pa_nil))))))
 (pss_cons (ps_set (i := 1) sc_cls.nd rfl (Or.inl rfl) (pe_op op_cat (pv 1) (pe_lst (pa_cons (pe_tup (pa_cons pe_str (pa_cons (pe_callB (call_isX XF.xc hz hf hp) (by rfl) T.isinstance (by decide +kernel) (pa_cons (pv 0) (pa_cons (pe_glob (by rfl) (XF.mg "BadKind" (by decide +kernel)) (v := V.ref _) rfl) pa_nil))) pa_nil))) (pa_cons (pe_tup (pa_cons pe_str (pa_cons (pe_callB (call_isX XF.xc hz hf hp) (by rfl) T.isinstance (by decide +kernel) (pa_cons (pv 0) (pa_cons (pe_glob (by rfl) (XF.mg "BadWish" (by decide +kernel)) (v := V.ref _) rfl) pa_nil))) pa_nil))) (pa_cons (pe_tup (pa_cons pe_str (pa_cons (pe_callB (call_isX XF.xc hz hf hp) (by rfl) T.isinstance (by decide +kernel) (pa_cons (pv 0) (pa_cons (pe_glob (by rfl) (XF.mg "BadLot" (by decide +kernel)) (v := V.ref _) rfl) pa_nil))) pa_nil))) (pa_cons (pe_tup (pa_cons pe_str (pa_cons (pe_callB (call_isX XF.xc hz hf hp) (by rfl) T.isinstance (by decide +kernel) (pa_cons (pv 0) (pa_cons (pe_glob (by rfl) (XF.mg "BadTable" (by decide +kernel)) (v := V.ref _) rfl) pa_nil))) pa_nil))) pa_nil)))))))
 (pss_cons (ps_set (i := 1) sc_cls.nd rfl (Or.inl rfl) (pe_op op_cat (pv 1) (pe_lst (pa_cons (pe_tup (pa_cons pe_str (pa_cons (pe_callB (call_isX XF.xc hz hf hp) (by rfl) T.isinstance (by decide +kernel) (pa_cons (pv 0) (pa_cons (pe_glob (by rfl) (XF.mg "BadForm" (by decide +kernel)) (v := V.ref _) rfl) pa_nil))) pa_nil))) (pa_cons (pe_tup (pa_cons pe_str (pa_cons (pe_callB (call_isX XF.xc hz hf hp) (by rfl) T.isinstance (by decide +kernel) (pa_cons (pv 0) (pa_cons (pe_glob (by rfl) (XF.mg "BadScript" (by decide +kernel)) (v := V.ref _) rfl) pa_nil))) pa_nil))) (pa_cons (pe_tup (pa_cons pe_str (pa_cons (pe_callB (call_isX XF.xc hz hf hp) (by rfl) T.isinstance (by decide +kernel) (pa_cons (pv 0) (pa_cons (pe_glob (by rfl) (XF.mg "NotWalk" (by decide +kernel)) (v := V.ref _) rfl) pa_nil))) pa_nil))) (pa_cons (pe_tup (pa_cons pe_str (pa_cons (pe_callB (call_isX XF.xc hz hf hp) (by rfl) T.isinstance (by decide +kernel) (pa_cons (pv 0) (pa_cons (pe_glob (by rfl) (XF.mg "NotRing" (by decide +kernel)) (v := V.ref _) rfl) pa_nil))) pa_nil))) pa_nil)))))))
 (pss_cons (ps_set (i := 1) sc_cls.nd rfl (Or.inl rfl) (pe_op op_cat (pv 1) (pe_lst (pa_cons (pe_tup (pa_cons pe_str (pa_cons (pe_callB (call_isX XF.xc hz hf hp) (by rfl) T.isinstance (by decide +kernel) (pa_cons (pv 0) (pa_cons (pe_glob (by rfl) (XF.mg "NotForm" (by decide +kernel)) (v := V.ref _) rfl) pa_nil))) pa_nil))) (pa_cons (pe_tup (pa_cons pe_str (pa_cons (pe_callB (call_isX XF.xc hz hf hp) (by rfl) T.isinstance (by decide +kernel) (pa_cons (pv 0) (pa_cons (pe_glob (by rfl) (XF.mg "NotKind" (by decide +kernel)) (v := V.ref _) rfl) pa_nil))) pa_nil))) (pa_cons (pe_tup (pa_cons pe_str (pa_cons (pe_callB (call_isX XF.xc hz hf hp) (by rfl) T.isinstance (by decide +kernel) (pa_cons (pv 0) (pa_cons (pe_glob (by rfl) (XF.mg "NotBar" (by decide +kernel)) (v := V.ref _) rfl) pa_nil))) pa_nil))) (pa_cons (pe_tup (pa_cons pe_str (pa_cons (pe_callB (call_isX XF.xc hz hf hp) (by rfl) T.isinstance (by decide +kernel) (pa_cons (pv 0) (pa_cons (pe_glob (by rfl) (XF.mg "NotRight" (by decide +kernel)) (v := V.ref _) rfl) pa_nil))) pa_nil))) pa_nil)))))))
 (pss_cons (ps_set (i := 1) sc_cls.nd rfl (Or.inl rfl) (pe_op op_cat (pv 1) (pe_lst (pa_cons (pe_tup (pa_cons pe_str (pa_cons (pe_callB (call_isX XF.xc hz hf hp) (by rfl) T.isinstance (by decide +kernel) (pa_cons (pv 0) (pa_cons (pe_glob (by rfl) (XF.mg "Clash" (by decide +kernel)) (v := V.ref _) rfl) pa_nil))) pa_nil))) (pa_cons (pe_tup (pa_cons pe_str (pa_cons (pe_callB (call_isX XF.xc hz hf hp) (by rfl) T.isinstance (by decide +kernel) (pa_cons (pv 0) (pa_cons (pe_glob (by rfl) (XF.mg "NoKind" (by decide +kernel)) (v := V.ref _) rfl) pa_nil))) pa_nil))) (pa_cons (pe_tup (pa_cons pe_str (pa_cons (pe_callB (call_isX XF.xc hz hf hp) (by rfl) T.isinstance (by decide +kernel) (pa_cons (pv 0) (pa_cons (pe_glob (by rfl) (XF.mg "NoWeld" (by decide +kernel)) (v := V.ref _) rfl) pa_nil))) pa_nil))) (pa_cons (pe_tup (pa_cons pe_str (pa_cons (pe_callB (call_isX XF.xc hz hf hp) (by rfl) T.isinstance (by decide +kernel) (pa_cons (pv 0) (pa_cons (pe_glob (by rfl) (XF.mg "Unlike" (by decide +kernel)) (v := V.ref _) rfl) pa_nil))) pa_nil))) pa_nil)))))))
 (pss_cons (ps_set (i := 1) sc_cls.nd rfl (Or.inl rfl) (pe_op op_cat (pv 1) (pe_lst (pa_cons (pe_tup (pa_cons pe_str (pa_cons (pe_callB (call_isX XF.xc hz hf hp) (by rfl) T.isinstance (by decide +kernel) (pa_cons (pv 0) (pa_cons (pe_glob (by rfl) (XF.mg "TooMany" (by decide +kernel)) (v := V.ref _) rfl) pa_nil))) pa_nil))) (pa_cons (pe_tup (pa_cons pe_str (pa_cons (pe_callB (call_isX XF.xc hz hf hp) (by rfl) T.isinstance (by decide +kernel) (pa_cons (pv 0) (pa_cons (pe_glob (by rfl) (XF.mg "NoSuch" (by decide +kernel)) (v := V.ref _) rfl) pa_nil))) pa_nil))) (pa_cons (pe_tup (pa_cons pe_str (pa_cons (pe_callB (call_isX XF.xc hz hf hp) (by rfl) T.isinstance (by decide +kernel) (pa_cons (pv 0) (pa_cons (pe_glob (by rfl) (XF.mg "Ended" (by decide +kernel)) (v := V.ref _) rfl) pa_nil))) pa_nil))) pa_nil))))))
 (pss_cons (ps_set (i := 1) sc_cls.nd rfl (Or.inl rfl) (pe_op op_cat (pv 1) (pe_lst (pa_cons (pe_tup (pa_cons pe_str (pa_cons (pe_callB (call_isX XF.xc hz hf hp) (by rfl) T.isinstance (by decide +kernel) (pa_cons (pv 0) (pa_cons (pe_glob (by rfl) (XF.mg "RingError" (by decide +kernel)) (v := V.ref _) rfl) pa_nil))) pa_nil))) (pa_cons (pe_tup (pa_cons pe_str (pa_cons (pe_callB (call_isX XF.xc hz hf hp) (by rfl) T.isinstance (by decide +kernel) (pa_cons (pv 0) (pa_cons (pe_bltn (by rfl) XF.bValueError (by decide +kernel) (v := .ty "ValueError") rfl) pa_nil))) pa_nil))) (pa_cons (pe_tup (pa_cons pe_str (pa_cons (pe_callB (call_isX XF.xc hz hf hp) (by rfl) T.isinstance (by decide +kernel) (pa_cons (pv 0) (pa_cons (pe_bltn (by rfl) XF.bLookupError (by decide +kernel) (v := .ty "LookupError") rfl) pa_nil))) pa_nil))) pa_nil))))))
 (pss_one (ps_ret (pe_lcH (own := [("one", 2)]) (g := gName 2) hot sc_cls.nd ((pv 1)) (blkOk_by (own := [("one", 2)]) (N := n_cls) (sc := defScope s_cls) (by decide +kernel)) (fun _ _ _ _ _ => pg_name (i := 2) sc_cls.nd rfl (Or.inl rfl)) (fun _ _ _ _ _ => (pts_one (pt_val (pe_ix (show IxR _ (rIxT K) from ix_tup) (pv 2) pe_int (fun _ _ => rfl))))) (fun _ _ _ _ _ => (pe_ix (show IxR _ (rIxT K) from ix_tup) (pv 2) pe_int (fun _ _ => rfl))))))))))))), ?_⟩
  intro C M D dn
  show Go C M [.im (.exc a dx fs), .no, .no] _ D
  -- BadRow ..
  refine g_seq (g_set (x_lst (a_cons (x_kind (x_var rfl) (.own _) (XF.is "BadRow" (by decide +kernel))) (a_cons (x_kind (x_var rfl) (.own _) (XF.is "BadWeb" (by decide +kernel))) (a_cons (x_kind (x_var rfl) (.own _) (XF.is "BadBook" (by decide +kernel))) (a_cons (x_kind (x_var rfl) (.own _) (XF.is "BadLengths" (by decide +kernel))) a_nil)))) (by show 4 ≤ 16000000; decide)) ?_)
  dsimp only
  -- BadKind ..
  refine g_seq (g_set (x_op (x_var rfl) (x_lst (a_cons (x_kind (x_var rfl) (.own _) (XF.is "BadKind" (by decide +kernel))) (a_cons (x_kind (x_var rfl) (.own _) (XF.is "BadWish" (by decide +kernel))) (a_cons (x_kind (x_var rfl) (.own _) (XF.is "BadLot" (by decide +kernel))) (a_cons (x_kind (x_var rfl) (.own _) (XF.is "BadTable" (by decide +kernel))) a_nil)))) (by show 4 ≤ 16000000; decide)) (r_cat (by show 4 + 4 ≤ 16000000; decide))) ?_)
  dsimp only
  -- BadForm ..
  refine g_seq (g_set (x_op (x_var rfl) (x_lst (a_cons (x_kind (x_var rfl) (.own _) (XF.is "BadForm" (by decide +kernel))) (a_cons (x_kind (x_var rfl) (.own _) (XF.is "BadScript" (by decide +kernel))) (a_cons (x_kind (x_var rfl) (.own _) (XF.is "NotWalk" (by decide +kernel))) (a_cons (x_kind (x_var rfl) (.own _) (XF.is "NotRing" (by decide +kernel))) a_nil)))) (by show 4 ≤ 16000000; decide)) (r_cat (by show 8 + 4 ≤ 16000000; decide))) ?_)
  dsimp only
  -- NotForm ..
  refine g_seq (g_set (x_op (x_var rfl) (x_lst (a_cons (x_kind (x_var rfl) (.own _) (XF.is "NotForm" (by decide +kernel))) (a_cons (x_kind (x_var rfl) (.own _) (XF.is "NotKind" (by decide +kernel))) (a_cons (x_kind (x_var rfl) (.own _) (XF.is "NotBar" (by decide +kernel))) (a_cons (x_kind (x_var rfl) (.own _) (XF.is "NotRight" (by decide +kernel))) a_nil)))) (by show 4 ≤ 16000000; decide)) (r_cat (by show 12 + 4 ≤ 16000000; decide))) ?_)
  dsimp only
  -- Clash ..
  refine g_seq (g_set (x_op (x_var rfl) (x_lst (a_cons (x_kind (x_var rfl) (.own _) (XF.is "Clash" (by decide +kernel))) (a_cons (x_kind (x_var rfl) (.own _) (XF.is "NoKind" (by decide +kernel))) (a_cons (x_kind (x_var rfl) (.own _) (XF.is "NoWeld" (by decide +kernel))) (a_cons (x_kind (x_var rfl) (.own _) (XF.is "Unlike" (by decide +kernel))) a_nil)))) (by show 4 ≤ 16000000; decide)) (r_cat (by show 16 + 4 ≤ 16000000; decide))) ?_)
  dsimp only
  -- TooMany ..
  refine g_seq (g_set (x_op (x_var rfl) (x_lst (a_cons (x_kind (x_var rfl) (.own _) (XF.is "TooMany" (by decide +kernel))) (a_cons (x_kind (x_var rfl) (.own _) (XF.is "NoSuch" (by decide +kernel))) (a_cons (x_kind (x_var rfl) (.own _) (XF.is "Ended" (by decide +kernel))) a_nil))) (by show 3 ≤ 16000000; decide)) (r_cat (by show 20 + 3 ≤ 16000000; decide))) ?_)
  dsimp only
  -- RingError ..
  refine g_seq (g_set (x_op (x_var rfl) (x_lst (a_cons (x_kind (x_var rfl) (.own _) (XF.is "RingError" (by decide +kernel))) (a_cons (x_kind (x_var rfl) (.ty "ValueError") XF.ve) (a_cons (x_kind (x_var rfl) (.ty "LookupError") XF.le) a_nil))) (by show 3 ≤ 16000000; decide)) (r_cat (by show 23 + 3 ≤ 16000000; decide))) ?_)
  dsimp only
  refine g_ret ((x_lc (xs := exPairs.map mk) d1 d0 (i_list (x_var rfl)) (fun u hu => by cases hu; rfl) (by show 26 ≤ 16000000; decide) fun d hd => ?_).to ?_) dn
  · obtain ⟨q, _, rfl⟩ := List.mem_map.mp hd
    exact ⟨t_B (x_op (x_var rfl) x_int (r_ixT rfl)), fun _ => x_op (x_var rfl) x_int (r_ixT rfl)⟩
  · rw [cls_of]
    rfl
end
end Y

set_option Elab.async false
set_option linter.all false
set_option maxRecDepth 100000
set_option maxHeartbeats 4000000
/-! Y19: a lambda called two defs below its maker. -/
namespace Y
open PySem PySem.Spec PyProof.Rows L2 LamX
/-- frames that are younger than the first state do not count -/
theorem un_narrow {fs fs' ex : List Addr} {H H' : Hp} {h h' : Heap} (u : Un fs' ex H H' h h') (k : ∀ b ∈ fs', b ∈ fs ∨ h.objs.size ≤ b) : Un fs ex H H' h h' where
  keep := fun b o q n hb hx => u.keep b o q n (fun z => (k b z).elim hb fun y => Nat.lt_irrefl _ (Nat.lt_of_lt_of_le (Heap.lt_size q) y)) hx
  slot := fun b o q n _ hx => u.any q n hx
  free := u.free
  there := u.there
  tups := u.tups
  frzs := u.frzs
  tbls := u.tbls
/-- a lambda that stands at f: made in X -/
structure LamAt (X : Cx) (pins : List (Addr × Obj)) (σ : L2.St) (H : Hp) (s : Shared) (params : Arguments) (body : Expr) (scope : Scope) (pm : Value) (c' : Addr) (ctv : Value) (f : Addr) : Prop where
  I : Inv X pins σ H s
  L : LamS X.env.scope scope
  at_ : s.heap.get? f = some (PySem.W.kla_obj "<lambda>" (X.env.qual ++ "<lambda>") params body scope (cloFrom X.env.cells scope.names []) pm c' ctv)
  no : H f = none
  nofr : f ∉ frs X.stack
/-- the context of its body: what is raised there has the context None -/
def lamN (X : Cx) (A : Around) (outer : List Env) (s : Shared) (H : Hp) (E : XK) (scope : Scope) (f c' : Addr) : Cx :=
  (lamCx X A outer s H E scope f c').tr [] (fun e s' => wpAny (model X.prog X.w) (A.deeper (lamEnv X scope s.heap.objs.size f c')) (leaving (lamEnv X scope s.heap.objs.size f c') e) (fun _ s'' => L2N.CX X.prog X.w outer H s E e s'') (fun e' s'' => L2N.CX X.prog X.w outer H s E e' s'') s')
theorem lamN_takes {X : Cx} {A : Around} {outer : List Env} {s : Shared} {H : Hp} {E : XK} {scope : Scope} {f c' : Addr} : L2N.Takes (lamN X A outer s H E scope f c') (fun cls d _ H' => E cls d H') :=
  L2N.takes_of (X := lamN X A outer s H E scope f c') rfl rfl rfl rfl
section
variable {X : Cx} {pins : List (Addr × Obj)} {σ : L2.St} {H : Hp} {s : Shared}
theorem pe_act2 {CXg : CXT} {Eg : XK} {Ng : List Str} {qg : Str} {sg : Scope} {g f c' : Addr} {cdg pm ctv : Value} {params : Arguments} {body : Expr} {scope : Scope} {k i : Nat} {a : Str} {pn : List (Addr × Obj)} {xe : Value → Shared → Prop} {W : WX} {tb : XK → TE} {p1 p2 : Pos}
    {A2 : Around} {outer2 : List Env} {s2 : Shared} {H2 : Hp} (LA : LamAt X pins σ H s params body scope pm c' ctv f) (chain : ∀ HZ hZ, Un (frs outer2) [] H2 HZ s2.heap hZ → Un (frs X.stack) [] H HZ s.heap hZ)
    (hbind : bindArgs (PySem.W.kla_fn "<lambda>" (X.env.qual ++ "<lambda>") params body scope (cloFrom X.env.cells scope.names []) pm (.ref c') ctv) ⟨[], []⟩ = pure [])
    (tk : L2N.Takes ((cxOf CXg X.prog X.w X.K X.mg X.base Ng qg sg g cdg A2 outer2 s2 H2 Eg).tr pn xe) W) (hr : Room (k + 1) (A2.deeper (envOfC qg sg s2.heap.objs.size g cdg)))
    (hb : ∀ (E : XK) (A : Around) (outer : List Env) (s : Shared) (H : Hp), Room k (A.deeper (lamEnv X scope s.heap.objs.size f c')) → PE (lamN X A outer s H E scope f c') body (tb E))
    (hN : Ng[i]? = some a) (hv : Vis sg a) (hd : (a == ("__debug__" : Str)) = false := by decide) (hcd : (a == ("__classdict__" : Str)) = false := by decide) :
    PE ((cxOf CXg X.prog X.w X.K X.mg X.base Ng qg sg g cdg A2 outer2 s2 H2 Eg).tr pn xe) (.Call (.Name a p1) [] [] p2) (fun σZ HZ Q => ∃ E : XK, (∀ cls d H', E cls d H' → W cls d σZ H') ∧ σZ[i]? = some (some (.ref f)) ∧ HZ c' = some (CodeO c' (X.env.qual ++ "<lambda>")) ∧ tb E σ HZ Q) := by
  refine ⟨fun pinsZ sZ σZ HZ Q IZ rd => ?_⟩
  obtain ⟨E, hW, rd1, rd2, rd3⟩ := rd
  refine wpAny_Call_Name_kw (thn ((pe_var (pos := p1) (i := i) hN hv hd hcd).run pinsZ sZ σZ HZ (fun v H1 => v = .ref f ∧ H1 = HZ) IZ ⟨.ref f, rd1, rfl, rfl⟩) fun u s1 ⟨v, H1, I1, r1, q1⟩ => ?_)
  obtain ⟨ev, eH⟩ := q1
  subst ev
  rw [eH] at I1
  obtain rfl : u = Value.ref f := r1
  have un : Un (frs X.stack) [] H HZ s.heap s1.heap := chain _ _ I1.base
  have of1 := un.keep f _ LA.at_ LA.no LA.nofr (fun z => nomatch (show f ∈ ([] : List Addr) from z))
  refine PySem.W.callWith_F0 ⟨_, _, _, _, of1⟩ ?_
  obtain ⟨⟨oc, vs, t, g1, g2, g3⟩, _, _⟩ := I1.hok c' _ rd2
  have rc : codeAny (model X.prog X.w) (A2.deeper (envOfC qg sg s2.heap.objs.size g cdg)) (.call (.ref f) ⟨[], []⟩) (CR (L2N.CX X.prog X.w) (envOfC qg sg s2.heap.objs.size g cdg :: outer2) X.prog X.w HZ s1 Q E) s1 := by
    refine PySem.W.kla_callFunE hr.depth of1 rfl LA.L.co LA.L.gen rfl ⟨c', oc, vs, t, rfl, g1, g2, g3⟩ ?_
    rw [hbind]
    refine wpAny_pure (wpAny_newFunctionEnv (fun y hy => (LA.L.own y hy).2) (fun y hy => absurd hy (by simp)) (fun h1 ns sb => ⟨I1.nolimit.fresh _ sb, ?_⟩) LA.L.kind)
    show codeAny _ _ (.expr body (lamEnv X scope s1.heap.objs.size f c')) _ _
    have kp : ∀ b o, s1.heap.get? b = some o → h1.get? b = some o := fun b o e => sb.extBut b o (Nat.ne_of_lt (Heap.lt_size e)) (Heap.get?_push_of_some _ e)
    have J : Inv (lamCx X (A2.deeper (envOfC qg sg s2.heap.objs.size g cdg)) (envOfC qg sg s2.heap.objs.size g cdg :: outer2) s1 HZ E scope f c') [] σ HZ { s1 with heap := h1, toks := s1.toks + ([] : List (Str × Value)).length } :=
      lam_start2 LA.I LA.L I1.env0 hr.hd un ns kp
    have J2 := J.toTry (fun e s' => wpAny (model X.prog X.w) ((A2.deeper (envOfC qg sg s2.heap.objs.size g cdg)).deeper (lamEnv X scope s1.heap.objs.size f c')) (leaving (lamEnv X scope s1.heap.objs.size f c') e) (fun _ s'' => L2N.CX X.prog X.w (envOfC qg sg s2.heap.objs.size g cdg :: outer2) HZ s1 E e s'') (fun e' s'' => L2N.CX X.prog X.w (envOfC qg sg s2.heap.objs.size g cdg :: outer2) HZ s1 E e' s'') s')
    refine PySem.W.kla_codeExpr (wpAny_mono ((hb E _ _ s1 HZ (hr.deeper _)).run [] _ _ HZ Q J2 rd3) (fun v s' post => ?_) fun e s' post => post)
    obtain ⟨z, H', J', rv, q⟩ := post
    exact ⟨z, H', J'.os, J'.bare, J'.base, J'.hok, rv, q⟩
  refine wpAny_call (codeAny_mono rc fun r s' post => ?_)
  cases r with
  | error e => exact tk e s' (L2N.XE.of_call I1 (fun cls d H' h => hW cls d H' h) post)
  | ok fl =>
    cases fl with
    | ret u => exact I1.after post
    | next => exact False.elim post
    | brk => exact False.elim post
    | cont => exact False.elim post
end
end Y

set_option Elab.async false
set_option linter.all false
set_option maxRecDepth 100000
set_option maxHeartbeats 8000000
/-! Z18: _law_fault of a lambda that raises BadLengths. -/
namespace Y
open PySem PySem.Spec PyProof.Rows L2 L2H LamX
abbrev n_fault : List Str := ["deed", "e", "word"]
theorem sc_fault : FnScope n_fault ["deed"] (defScope s_fault) := ⟨rfl, rfl, rfl, by decide +kernel, rfl, by decide +kernel, by decide +kernel⟩
/-- len of a list or tuple, its reading -/
abbrev rLen (K : PySem.W.Frag) : List V → Hp → VK → Prop := fun xs H Q => ∃ p ys, xs = [V.ref p] ∧ (SqL K H p ys ∨ SqT K H p ys) ∧ Q (.int ys.length) H
theorem e_xf {env : List En} {te : TE} {a dx CB : Addr} {f : Str} {g : Int} (h : Ev te env (Is (.exc a dx [(f, .int g)]))) : Ev (tXf a (.ref CB) (some dx) CB f te) env (Is (.int g)) := fun C M σ H A Q q =>
  h C M σ H A _ fun v d0 H1 p1 A1 e1 r1 => by
    subst p1
    cases r1 with
    | exc n r => exact ⟨rfl, rfl, dx, _, .int g, rfl, r, by rw [List.lookup_cons, beq_self_eq_true], q _ _ H1 rfl A1 e1 (.int g)⟩
theorem inV_strs (k : Str) : ∀ ns : List Str, inV (.str k) (ns.map V.str) = decide (k ∈ ns)
  | [] => by simp [inV]
  | n :: r => by
    have ih := inV_strs k r
    unfold inV at ih ⊢
    rw [List.map_cons, List.any_cons, ih]
    have e : eqV (.str n) (.str k) = decide (n = k) := by
      simp only [eqV]
      by_cases h : n = k
      · simp [h]
      · simp [h]
    rw [e]
    by_cases h : k = n
    · subst h
      simp
    · have h2 : ¬ n = k := fun z => h z.symm
      simp [h, h2]
theorem r_inS {K : PySem.W.Frag} {k : Str} {ns : List Str} : RV (rIn K false) (.str k) (.lst (ns.map D.str)) (Is (.bl (decide (k ∈ ns)))) := fun M H u v t h1 h2 Q q => by
  rw [h1.str_inv]
  obtain ⟨p, vs, rfl, n, hp, rl⟩ := h2.lst_inv
  have e := rl.strs
  subst e
  have flat : (ns.map V.str).all flatV = true := by
    rw [List.all_eq_true]
    intro v hv
    obtain ⟨n, _, rfl⟩ := List.mem_map.mp hv
    rfl
  exact ⟨p, _, rfl, .inl (SqL.of hp), rfl, flat, by rw [inV_strs]; exact q _ _ H rfl (All.refl H) (.bl _)⟩
def faultSuite : List Stmt := match defBody s_fault with
  | .Try _ (.ExceptHandler _ _ b _ :: _) _ _ _ :: _ => b
  | _ => []
theorem hotS {X : Cx} {a : Addr} {oe : Obj} {pn : List (Addr × Obj)} {cls : Value} {d : Option Addr} (hz : L2N.Zn cls d oe) (hf : ∃ vs, oe.data = .fields vs) : Hot1 (X.suite a ((a, oe) :: pn)).A (a, oe) := by
  obtain ⟨vs, hv⟩ := hf
  exact ⟨rfl, vs, hv, hz.2.2 vs hv⟩
/-- the suite that catches BadLengths -/
theorem suite_ex {P : Program} {w : World} {K : PySem.W.Frag} {mg : Str → Option Value} {base : Heap} {Cl CB : Addr} {cl : Str → Addr} {f fc : Addr} {fdc : FuncData} {cdv : Value} {A : Around} {outer : List Env} {s : Shared} {H : Hp} {E : XK} (T : Txt K mg Cl) (XC : XfC K CB) (hno : PySem.W.findIn K (.ref CB) "gap" = some none)
    (mc : mg "_law_class" = some (.ref fc)) (kc : PySem.W.keepIn K (.ref fc) = true) (bc : L2.Binds K fdc ["e"] []) (hcl : ∀ (a dx : Addr) (oe : Obj) (fs : List (Str × V)), Zc (.ref CB) (some dx) oe → (∃ vs, oe.data = .fields vs) → FnHp P w K mg base L2.CX0 (a, oe) 1 fc fdc ["e"] (spClass a dx fs))
    (hr : Room 1 (A.deeper (envOfC "_law_fault" (defScope s_fault) s.heap.objs.size f cdv))) :
    ∃ tS : Addr → Addr → Int → TS, (∀ (a : Addr) (oe : Obj) (dx : Addr) (g : Int) (pn : List (Addr × Obj)), L2N.Zn (.ref CB) (some dx) oe → (∃ vs, oe.data = .fields vs) → PSs ((cxOf L2.CX0 P w K mg base n_fault "_law_fault" (defScope s_fault) f cdv A outer s H E).suite a ((a, oe) :: pn)) faultSuite (tS a dx g)) ∧
      ∀ a dx g C M D, Done C D (Is (.tup [.str "BadLengths", .int g])) → Go C M [.no, .im (.exc a dx [("gap", .int g)]), .no] (tS a dx g) D := by
  refine ⟨fun a dx g => _, fun a oe dx g pn hz hf =>
    pss_cons (ps_if (PW.pt (pw_or (pt_cmpR op_ne (pe_callB (show CallR _ (.builtin "len") (rLen K) from call_len_seq) (by rfl) T.len (by decide +kernel) (pa_cons
          (pe_callHp (hcl a dx oe [("gap", .int g)] hz.zc hf) (roomH_mark hr _) (hotS hz hf) List.mem_cons_self (by rfl) mc kc bc pass0 (pa_cons (pv 1) pa_nil)) pa_nil)) pe_int (nomark _))
        (pw_or1 (pt_cmpR (show OpR _ (compareOp .NotEq) (rNeD K) from op_neD hr.units) (pe_slice (show SlR _ (rSlL K) from sl_list)
          (pe_callHp (hcl a dx oe [("gap", .int g)] hz.zc hf) (roomH_mark hr _) (hotS hz hf) List.mem_cons_self (by rfl) mc kc bc pass0 (pa_cons (pv 1) pa_nil)) (po_some pe_int) po_none) (pe_lst (pa_cons pe_str (pa_cons pe_str pa_nil))) (nomark _))))) pss_never pss_nil)
    (pss_cons (ps_set (i := 2) sc_fault.nd rfl (Or.inl rfl) (pe_ix (show IxR _ (rIxL K) from ix_list)
          (pe_callHp (hcl a dx oe [("gap", .int g)] hz.zc hf) (roomH_mark hr _) (hotS hz hf) List.mem_cons_self (by rfl) mc kc bc pass0 (pa_cons (pv 1) pa_nil)) pe_int (fun _ _ => rfl)))
    (pss_cons (ps_if (pt_cmpR (show OpR _ (compareOp .In) (rIn K false) from op_in_seq) (pv 2) (pe_lst (pa_cons pe_str (pa_cons pe_str (pa_cons pe_str pa_nil)))) rfl) pss_never pss_nil)
    (pss_cons (ps_if (pt_cmpR op_eq (pv 2) pe_str (nomark _)) pss_never pss_nil)
    (pss_cons (ps_if (pt_cmpR op_eq (pv 2) pe_str (nomark _)) (pss_one (ps_ret (pe_tup (pa_cons (pv 2) (pa_cons (pe_xf XC hno hz.zc hf (pv 1)) pa_nil))))) pss_nil)
      pss_never)))), fun a dx g C M D dn => ?_⟩
  have hcls : ∀ {E0 : XK} {e2 : En}, Ev (tCall (spClass a dx [("gap", .int g)]) [] E0 (tCons (tVar 1) tNil)) [.no, .im (.exc a dx [("gap", .int g)]), e2] (Is (.lst [.str "BadLengths", .str "RingError", .str "ValueError"])) := fun {E0 e2} => x_call (α := Unit) (a := ()) (a_cons (x_var rfl) a_nil) trivial
  refine g_seq (g_ifb (t_or (t_test (x_op (x_cb (a_cons hcls a_nil) c_lenL) x_int r_neI)) fun _ => t_test (x_op (x := .lst [.str "RingError", .str "ValueError"]) (x_slL hcls (o_some x_int) o_no) (x_lst (a_cons x_str (a_cons x_str a_nil))) (r_neD rfl rfl (by decide +kernel) (by decide +kernel)))) (fun e => absurd e (by decide +kernel)) (fun _ => g_next ?_))
  dsimp only
  refine g_seq (g_set (d := .str "BadLengths") (x_op hcls x_int (r_ixL rfl)) ?_)
  dsimp only
  refine g_seq (g_ifb (t_test (x_op (x_var rfl) (x_lst (a_cons x_str (a_cons x_str (a_cons x_str a_nil)))) (r_inS (ns := ["BadRow", "BadBook", "NotWalk"])))) (fun e => absurd e (by decide +kernel)) (fun _ => g_next ?_))
  dsimp only
  refine g_seq (g_ifb (t_test (x_op (x_var rfl) x_str r_eqS)) (fun e => absurd e (by decide +kernel)) (fun _ => g_next ?_))
  dsimp only
  refine g_seq (g_ifb (t_test (x_op (x_var rfl) x_str r_eqS)) (fun _ => ?_) (fun e => absurd e (by decide +kernel)))
  exact g_ret (x_tup (a_cons (x_var rfl) (a_cons (e_xf (x_var rfl)) a_nil)) (by show 2 ≤ 16000000; decide)) dn
/-- _law_fault(deed), deed a lambda that raises BadLengths(g) -/
theorem run_fault {X : Cx} {pins : List (Addr × Obj)} {σ : L2.St} {H : Hp} {s : Shared} {params : Arguments} {body : Expr} {scope : Scope} {pm ctv : Value} {c' fl : Addr} (LA : LamAt X pins σ H s params body scope pm c' ctv fl)
    {Cl CB : Addr} {cl : Str → Addr} {f fc : Addr} {fd fdc : FuncData} {kws : List (Str × V)} (T : Txt X.K X.mg Cl) (XC : XfC X.K CB) (hno : PySem.W.findIn X.K (.ref CB) "gap" = some none) (mring : X.mg "RingError" = some (.ref (cl "RingError"))) (ring : PySem.W.exmOne X.K (.ref CB) (.ref (cl "RingError")) = some true)
    (mc : X.mg "_law_class" = some (.ref fc)) (kc : PySem.W.keepIn X.K (.ref fc) = true) (bc : L2.Binds X.K fdc ["e"] []) (hcl : ∀ (a dx : Addr) (oe : Obj) (fs : List (Str × V)), Zc (.ref CB) (some dx) oe → (∃ vs, oe.data = .fields vs) → FnHp X.prog X.w X.K X.mg X.base L2.CX0 (a, oe) 1 fc fdc ["e"] (spClass a dx fs))
    (F : FunD X.K "_law_fault" "_law_fault" (defArgs s_fault) (defBody s_fault) (defScope s_fault) [] kws f fd) (bi : L2.Binds X.K fd ["deed"] [])
    {k : Nat} {A : Around} {outer : List Env} {sB : Shared} {HB : Hp} (hk : 1 ≤ k + 1) (e0 : Env0 X.prog X.w X.K X.mg X.base A outer sB HB) (hr : Room (k + 2) A) (chain : ∀ HZ hZ, Un (frs outer) [] HB HZ sB.heap hZ → Un (frs X.stack) [] H HZ s.heap hZ)
    (co : HB c' = some (CodeO c' (X.env.qual ++ "<lambda>"))) (hbind : bindArgs (PySem.W.kla_fn "<lambda>" (X.env.qual ++ "<lambda>") params body scope (cloFrom X.env.cells scope.names []) pm (.ref c') ctv) ⟨[], []⟩ = pure [])
    {tb : XK → TE} (hb : ∀ (E : XK) (A : Around) (outer : List Env) (s : Shared) (H : Hp), Room k (A.deeper (lamEnv X scope s.heap.objs.size fl c')) → PE (lamN X A outer s H E scope fl c') body (tb E)) {g : Int}
    (rd : ∀ (E : XK) (Q : VK), (∀ d H', All HB H' → HB d = none → H' d = some (.xd [("gap", .int g)]) → E (.ref CB) (some d) H') → tb E σ HB Q)
    {Q : VK} (fin : ∀ v H', All HB H' → Rep [] H' v (.tup [.str "BadLengths", .int g]) → Q v H') :
    codeAny (model X.prog X.w) A (.call (.ref f) ⟨[.ref fl], []⟩) (CR L2.CX0 outer X.prog X.w HB sB Q L2.E0) sB := by
  obtain ⟨oc, od, dV, kV, doc, pm2, an, cdv, ct, osl, rfl, lk, code, _, _⟩ := F.ex
  have KX : X.K.In sB.heap := e0.mod.kin.keeps fun b o e => (e0.bs b o e).1
  refine run_ofS (k := k + 1) (N := n_fault) (ps := ["deed"]) (us := [.ref fl]) (vs := [.ref fl]) lk code sc_fault hr e0 (bi sB [.ref fl] KX rfl) (.cons rfl .nil) rfl fun hr2 => ?_
  obtain ⟨tS, hS, gS⟩ := suite_ex (P := X.prog) (w := X.w) (base := X.base) (f := f) (cdv := cdv) (A := A) (outer := outer) (s := sB) (H := HB) (E := L2.E0) (cl := cl) T XC hno mc kc bc hcl (hr2.mono hk)
  refine ⟨_, pss_cons (ps_try_as1 (i := 1) (c := .ref (cl "RingError")) (ts := fun a cls d D σ H => ∃ dx, cls = Value.ref CB ∧ d = some dx ∧ tS a dx g D σ H) rfl rfl sc_fault.nd rfl rfl ⟨by rfl, by decide, .inl mring⟩
      (tb := fun W D σZ HZ => ∃ E : XK, (∀ cls d H', E cls d H' → W cls d σZ H') ∧ σZ[0]? = some (some (.ref fl)) ∧ HZ c' = some (CodeO c' (X.env.qual ++ "<lambda>")) ∧ tb E σ HZ fun _ H' => D.nx σZ H')
      (fun W pn xe tk _ => ⟨fun pinsZ sZ σZ HZ D I rdZ => ?_⟩)
      (fun a oe cls d pn hz hf => ⟨fun pinsS sS σS HS D I rdS => ?_⟩)) pss_never, ?_⟩
  · obtain ⟨E, hW, z1, z2, z3⟩ := rdZ
    exact (pss_one (ps_expr (pe_act2 (i := 0) LA chain hbind tk hr2 hb rfl (.inl rfl)))).run pinsZ sZ σZ HZ D I ⟨E, hW, z1, z2, z3⟩
  · obtain ⟨dx, rfl, rfl, z⟩ := rdS
    exact (hS a oe dx g pn hz hf).run pinsS sS σS HS D I z
  · refine ⟨fun cls d H' => cls = .ref CB ∧ ∃ dd, d = some dd ∧ All HB H' ∧ H' dd = some (.xd [("gap", .int g)]), ?_, rfl, co, rd _ _ fun d H' h1 h2 h3 => ⟨rfl, d, rfl, h1, h3⟩⟩
    rintro cls d H' ⟨rfl, dd, rfl, al, hd⟩
    refine ⟨ring, fun a _ => ⟨dd, rfl, rfl, ?_⟩⟩
    have A0 : At ⟨[], H', [], []⟩ [] [.no, .im (.exc a dd [("gap", .int g)]), .no] ((L2.start n_fault [.ref fl]).set 1 (some (.ref a))) H' := by
      have A1 : At ⟨[], H', [], []⟩ [] [.im (.ref fl), .no, .no] (L2.start n_fault [.ref fl]) H' := start_at (ds := [.ref fl]) 2 (.cons (.ref fl) .nil) (fun x hx => nomatch hx) rfl
      exact (A1.puti 1 (d := .exc a dd [("gap", .int g)]) (.exc (fun z => nomatch z) hd)).weak rfl fun i e he => by
        match i, he with
        | 0, he => exact .inl (Option.some.inj he).symm
        | 1, he => exact .inr he
        | 2, he => exact .inr he
    exact gS a dd g ⟨[], H', [], []⟩ [] _ (fun M env σ2 H2 v d hd2 B r => fin v H2 (al.trans B.alls) (by rw [← hd2]; exact r.sub fun _ h => nomatch h)) _ _ A0
end Y

set_option Elab.async false
set_option linter.all false
set_option maxRecDepth 100000
set_option maxHeartbeats 8000000
/-! Z19: _law_refused(lambda: .., ('BadLengths', due)). -/
namespace Y
open PySem PySem.Spec PyProof.Rows L2 L2H LamX
abbrev n_ref : List Str := ["deed", "due"]
theorem sc_ref : FnScope n_ref ["deed", "due"] (defScope s_ref) := ⟨rfl, rfl, rfl, by decide +kernel, rfl, by decide +kernel, by decide +kernel⟩
/-- what the faults' defs must be -/
structure Flt (P : Program) (w : World) (K : PySem.W.Frag) (mgs : Str → Option Value) (base : Heap) (CB : Addr) (cl : Str → Addr) (f fc fr fL : Addr) (fd fdc fdr fdL : FuncData) : Prop where
  XC : XfC K CB
  hno : PySem.W.findIn K (.ref CB) "gap" = some none
  mring : mgs "RingError" = some (.ref (cl "RingError"))
  ring : PySem.W.exmOne K (.ref CB) (.ref (cl "RingError")) = some true
  mc : mgs "_law_class" = some (.ref fc)
  kc : PySem.W.keepIn K (.ref fc) = true
  bc : L2.Binds K fdc ["e"] []
  hcl : ∀ (a dx : Addr) (oe : Obj) (fs : List (Str × V)), Zc (.ref CB) (some dx) oe → (∃ vs, oe.data = .fields vs) → FnHp P w K mgs base L2.CX0 (a, oe) 1 fc fdc ["e"] (spClass a dx fs)
  F : ∃ kws, FunD K "_law_fault" "_law_fault" (defArgs s_fault) (defBody s_fault) (defScope s_fault) [] kws f fd
  bf : L2.Binds K fd ["deed"] []
  mf : mgs "_law_fault" = some (.ref f)
  kf : PySem.W.keepIn K (.ref f) = true
  R : ∃ kws, FunD K "_law_refused" "_law_refused" (defArgs s_ref) (defBody s_ref) (defScope s_ref) [] kws fr fdr
  br : L2.Binds K fdr ["deed", "due"] []
  mr : mgs "_law_refused" = some (.ref fr)
  kr : PySem.W.keepIn K (.ref fr) = true
  like : Dk P w K mgs base L2.CX0 "_law_like" 3 fL fdL ["told", "due"] (spLike 2)
/-- the reading: tb the lambda body's -/
def tRef (CB : Addr) (TT : List (Addr × Str)) (i : Nat) (tb : XK → TE) : TE := fun σ H Q => Tabs TT H ∧ ∃ g : Int, σ[i]? = some (some (.int g)) ∧
  (∀ (H1 : Hp) (E : XK) (Q' : VK), ExtN H H1 → (∀ d H', All H1 H' → H1 d = none → H' d = some (.xd [("gap", .int g)]) → E (.ref CB) (some d) H') → tb E σ H1 Q') ∧ ∀ H', ExtN H H' → Q (.bl true) H'
theorem rep_any {M : List Addr} {H : Hp} {v : V} {d : D} (r : Rep M H v d) : Rep [] H v d := r.sub fun _ h => nomatch h
theorem pe_refused {X : Cx} {Cl CB : Addr} {cl : Str → Addr} {f fc fr fL : Addr} {fd fdc fdr fdL : FuncData} (T : Txt X.K X.mg Cl) (B : Flt X.prog X.w X.K X.mg X.base CB cl f fc fr fL fd fdc fdr fdL) {TT : List (Addr × Str)} {c Pt : Addr} {params : Arguments} {body tup : Expr} {scope : Scope} {p1 lpos pos : Pos} {i : Nat} {tb : XK → TE}
    (gl : Gl X "_law_refused") (TB : TabB X.base X.mg c Pt) (hcode : X.env.code = .ref c) (hmT : (Pt, X.env.qual ++ "<lambda>") ∈ TT) (hu : ∀ p ∈ TT, p.1 = Pt → p.2 = X.env.qual ++ "<lambda>") (hr : Room 8 X.A) (L : LamS X.env.scope scope) (hdef : defaultsOf params X.env = ([], []))
    (hbind : ∀ (q : Str) (cl : List (Str × Addr)) (pm cv ctv : Value), bindArgs (PySem.W.kla_fn "<lambda>" q params body scope cl pm cv ctv) ⟨[], []⟩ = pure [])
    (hb : ∀ (E : XK) (A : Around) (outer : List Env) (s : Shared) (H : Hp) (fl c' : Addr), Room 5 (A.deeper (lamEnv X scope s.heap.objs.size fl c')) → PE (lamN X A outer s H E scope fl c') body (tb E))
    (pt : PA X [tup] (tCons (tTup (tCons (tC (.str "BadLengths")) (tCons (tVar i) tNil))) tNil)) (pl : (backTo pos (starEach [tup] X.env)).any (·.1) = false := by rfl) :
    PE X (.Call (.Name "_law_refused" p1) [.Lambda params body scope lpos, tup] [] pos) (tRef CB TT i tb) := by
  refine ⟨fun pins s σ H Q I rd => ?_⟩
  obtain ⟨tabs, g, hg, rd1, fin⟩ := rd
  refine wpAny_Call_Name_kw (ld_glob I gl B.mr ?_ (by decide))
  refine PySem.W.callWith_K (h₀ := X.base) I.ok.mod.kin B.kr ?_ (by rfl) pl
  show wpAny _ _ (spliced ((false, eval (.Lambda params body scope lpos) X.env) :: backTo pos (starEach [tup] X.env))) _ _ s
  refine Calls.spliced_cons (lam_make2 I TB hcode hmT hu tabs hdef (L.has I.ok) fun fl c' pm ctv H1 s1 I1 eN T1 at_ no nofr co => ?_)
  -- the lambda's object stays through the tuple's making
  have nL : fl ≠ X.env.locals := fun z => by
    obtain ⟨m, ⟨o, es, ep, ho, hd, _⟩, _⟩ := I1.loc
    rw [z] at at_
    rw [at_] at ho
    cases ho
    cases hd
  have nF : fl ∉ X.fs := fun z => nofr (by
    rcases I1.ok.stk with e | ⟨e, hf⟩
    · rw [e]; exact z
    · rw [e]
      unfold frs
      rw [List.filterMap_cons, hf]
      exact List.mem_cons_of_mem _ z)
  have J1 : Inv X ((fl, _) :: pins) σ H1 s1 := I1.pins_of fun p hp => by
    rcases List.mem_cons.mp hp with e | e
    · rw [e]
      exact ⟨at_, no, nL, nF, fun v z => nomatch z⟩
    · exact I1.pin p (List.mem_append_right _ e)
  refine thn (pt.run pos _ s1 σ H1 (fun vs H2 => ∃ p, vs = [.ref p] ∧ H1 p = none ∧ H2 = upd H1 p (.tup [.str "BadLengths", .int g])) J1 ⟨.int g, hg, by show 2 ≤ sizeLine; decide, fun p hp => ⟨p, rfl, hp, rfl⟩⟩) fun us s2 ⟨vs, H2, I2, r2, p, e1, e2, e3⟩ => ⟨I2.kIn, ?_⟩
  obtain ⟨kws, FR⟩ := B.R
  obtain ⟨oc, od, dV, kV, doc, pm2, an, cdv, ct, osl, rfl, lk, code, _, _⟩ := FR.ex
  obtain ⟨kws2, FF⟩ := B.F
  subst e1
  subst e3
  obtain ⟨u, rfl, ru⟩ : ∃ u, us = [u] ∧ L2.RelV (.ref p) u := by
    cases r2 with
    | cons a b =>
      cases b
      exact ⟨_, rfl, a⟩
  have eN2 : ExtN H (upd H1 p (.tup [.str "BadLengths", .int g])) := eN.trans (ExtN.of fun b o q => by rw [upd_ne (ne_of_none q e2)]; exact q)
  have co2 : upd H1 p (.tup [.str "BadLengths", .int g]) c' = some (CodeO c' (X.env.qual ++ "<lambda>")) := by rw [upd_ne (ne_of_none co e2)]; exact co
  have PL := I2.pin (fl, _) (List.mem_append_right _ List.mem_cons_self)
  have LA : LamAt X ((fl, _) :: pins) σ (upd H1 p (.tup [.str "BadLengths", .int g])) s2 params body scope pm c' ctv fl := ⟨I2, L, PL.1, PL.2.1, nofr⟩
  have rc : codeAny (model X.prog X.w) X.A (.call (.ref fr) ⟨[.ref fl, u], []⟩) (CR L2.CX0 X.stack X.prog X.w (upd H1 p (.tup [.str "BadLengths", .int g])) s2 Q L2.E0) s2 := by
    refine run_ofS (k := 7) (N := n_ref) (ps := ["deed", "due"]) (us := [.ref fl, u]) (vs := [.ref fl, .ref p]) lk code sc_ref hr I2.env0 (B.br s2 [.ref fl, u] I2.kIn rfl) (.cons rfl (.cons ru .nil)) rfl fun hr2 => ?_
    have PF : ∀ a b c : Pos, PE (cxOf L2.CX0 X.prog X.w X.K X.mg X.base n_ref "_law_refused" (defScope s_ref) fr cdv X.A X.stack s2 (upd H1 p (.tup [.str "BadLengths", .int g])) L2.E0) (.Call (.Name "_law_fault" a) [.Name "deed" b] [] c)
        (fun σZ HZ QZ => σZ[0]? = some (some (.ref fl)) ∧ (∀ b o, upd H1 p (.tup [.str "BadLengths", .int g]) b = some o → HZ b = some o) ∧ ∀ v H', All HZ H' → Rep [] H' v (.tup [.str "BadLengths", .int g]) → QZ v H') := by
      refine fun a b c => ⟨fun pinsZ sZ σZ HZ QZ IZ rd => ?_⟩
      obtain ⟨z1, z2, z3⟩ := rd
      refine wpAny_Call_Name_kw (ld_glob IZ (by rfl) B.mf ?_ (by decide))
      refine PySem.W.callWith_K (h₀ := X.base) IZ.ok.mod.kin B.kf (thn ((pa_cons (pv 0) pa_nil).run _ pinsZ sZ σZ HZ (fun vs H3 => vs = [.ref fl] ∧ H3 = HZ) IZ ⟨.ref fl, z1, rfl, rfl⟩) fun us s3 ⟨vs, H3, I3, r4, e4, e5⟩ => ⟨I3.kIn, ?_⟩) (by rfl) (by rfl)
      subst e4
      subst e5
      obtain rfl : us = [.ref fl] := by
        cases r4 with
        | cons a b =>
          cases b
          obtain rfl := a
          rfl
      have b0 := I3.base
      refine wpAny_call (codeAny_mono (run_fault (k := 5) (g := g) (tb := tb) LA T B.XC B.hno B.mring B.ring B.mc B.kc B.bc B.hcl FF B.bf (by decide) I3.env0 hr2 (fun HZ' hZ u => ?_) (z2 _ _ co2) (hbind _ _ _ _ _) (fun E A outer s H hr3 => hb E A outer s H fl c' hr3) (fun E Q' wish => rd1 _ E Q' (eN2.trans (ExtN.of z2)) wish) z3) fun r s4 post => ?_)
      · refine un_narrow (fs' := frs (envOfC "_law_refused" (defScope s_ref) s2.heap.objs.size fr cdv :: X.stack)) ((b0.mono (fun b hb => ?_) fun b hb => hb).trans u) fun b hb => ?_
        · exact List.mem_cons_of_mem _ hb
        · rcases List.mem_cons.mp hb with e | e
          · exact .inr (by rw [e]; exact Nat.le_refl _)
          · exact .inl e
      · cases r with
        | error e => exact (show False from post).elim
        | ok fl =>
          cases fl with
          | ret u => exact I3.after post
          | next => exact False.elim post
          | brk => exact False.elim post
          | cont => exact False.elim post
    refine ⟨_, pss_one (ps_ret (pe_call B.like.ok (hr2.mono (by decide)) (by rfl) B.like.mg B.like.kp B.like.bi .nil pass0 (pa_cons (PF _ _ _) (pa_cons (pv 1) pa_nil)))), rfl, fun b o h => h, fun v H' al rv => ?_⟩
    have hp2 : H' p = some (.tup [.str "BadLengths", .int g]) := al _ _ upd_same
    refine ⟨.ref p, rfl, [], .tup [.str "BadLengths", .int g], .cons rv (.cons (.tup (fun z => nomatch z) hp2 (.cons (.str _) (.cons (.int _) .nil))) .nil), (fun x hx => nomatch hx), .inr ⟨_, .inr rfl, by show 2 < 1000000; decide, fun x hx => ?_⟩, fun v2 d H2 hd al2 r2 => ?_⟩
    · rcases List.mem_cons.mp hx with e | hx
      · rw [e]
        exact .inl rfl
      · rw [List.mem_singleton.mp hx]
        exact .inl rfl
    · obtain rfl : d = .bl true := hd
      have e := r2.bl_inv
      rw [e]
      exact fin _ (eN2.trans (ExtN.of fun b o q => al2 _ _ (al _ _ q)))
  refine wpAny_call (codeAny_mono rc fun r s3 post => ?_)
  cases r with
  | error e => exact (show False from post).elim
  | ok fl =>
    cases fl with
    | ret u =>
      obtain ⟨x, H3, I3, r3, q3⟩ := I2.after post
      exact ⟨x, H3, I3.pins_of fun p hp => I3.pin p (List.mem_append_right _ (List.mem_cons_of_mem _ hp)), r3, q3⟩
    | next => exact False.elim post
    | brk => exact False.elim post
    | cont => exact False.elim post
end Y

set_option Elab.async false
set_option linter.all false
set_option maxRecDepth 100000
set_option maxHeartbeats 1000000
/-! Z20: law, what it needs; its last part. -/
namespace Y
open PySem PySem.Spec PyProof.Rows L2 L2H LamX
abbrev n_law : List Str := ["script", "jar", "bags", "turn", "size", "road", "step", "made", "bag", "given", "told", "two", "top", "all_", "many", "far", "bent", "due", "num", "one"]
theorem sc_law : FnScope n_law ["script"] (defScope s_law) := ⟨rfl, rfl, rfl, by decide +kernel, rfl, by decide +kernel, by decide +kernel⟩
/-- all that law calls -/
structure LawC (P : Program) (w : World) (K : PySem.W.Frag) (mg : Str → Option Value) (base : Heap) (Cl CB T0 : Addr) (cl : Str → Addr) (f : Str → Addr) (fd : Str → FuncData) (dv : Value) (g0 gL gP : List Value → List Value → List Value) : Prop where
  T : Txt K mg Cl
  dInit : DInit P w K base mg Cl CB T0 (f "Lengths.__init__") (fd "Lengths.__init__") dv g0
  dJar : Dk P w K mg base CX0 "_law_jar" 1 (f "_law_jar") (fd "_law_jar") ["script"] (spJar0 K)
  dDraw : Dk P w K mg base CX0 "_law_draw" 1 (f "_law_draw") (fd "_law_draw") ["jar", "many"] spDraw
  dPick : Dk P w K mg base CX0 "_law_pick" 2 (f "_law_pick") (fd "_law_pick") ["jar", "menu"] spPick
  dMixed : Dk P w K mg base CX0 "_law_mixed" 2 (f "_law_mixed") (fd "_law_mixed") ["jar", "things"] spMixed
  dDiv : Dk P w K mg base CX0 "_law_divisor" 1 (f "_law_divisor") (fd "_law_divisor") ["top", "low"] spDiv
  dGapList : Dk P w K mg base CX0 "_law_gap_list" 2 (f "_law_gap_list") (fd "_law_gap_list") ["jar", "size", "many", "top"] spGl
  dLWrong : Dk P w K mg base CX0 "_law_wrong" 1 (f "_law_wrong") (fd "_law_wrong") ["size", "missing"] spLWrong
  dHas : Dk P w K mg base CX0 "_law_has" 1 (f "_law_has") (fd "_law_has") ["bag", "num"] spLHas
  dIsBag : Dk P w K mg base CX0 "_law_is_bag" 6 (f "_law_is_bag") (fd "_law_is_bag") ["told", "bag"] (spIsBag Cl)
  dLike : Dk P w K mg base CX0 "_law_like" 3 (f "_law_like") (fd "_law_like") ["told", "due"] (spLike 2)
  dPair : Dk P w K mg base CX0 "_law_pair_holds" 7 (f "_law_pair_holds") (fd "_law_pair_holds") ["one", "two", "bag", "second"] (spPair Cl)
  mHas : Mt P w K mg base CX0 Cl "__contains__" 1 (f "Lengths.__contains__") (fd "Lengths.__contains__") ["self", "number"] (spHas Cl)
  mLeast : Mt P w K mg base CX0 Cl "least" 1 (f "Lengths.least") (fd "Lengths.least") ["self", "count"] (spLeast Cl)
  kLeast : KBn K (fd "Lengths.least") ["self", "count"] 1 ["count"] gL (fun vs zs => vs ++ zs)
  mTimes : Mt P w K mg base CX0 Cl "times" 6 (f "Lengths.times") (fd "Lengths.times") ["self", "k"] (spTimes Cl)
  mParts : Mt P w K mg base CX0 Cl "parts" 6 (f "Lengths.parts") (fd "Lengths.parts") ["self", "k"] (spParts Cl)
  kParts : KBn K (fd "Lengths.parts") ["self", "k"] 1 ["k"] gP (fun vs zs => vs ++ zs)
  flt : Flt P w K mg base CB cl (f "_law_fault") (f "_law_class") (f "_law_refused") (f "_law_like") (fd "_law_fault") (fd "_law_class") (fd "_law_refused") (fd "_law_like")
/-! a heap whose tables may have grown -/
mutual
theorem Rep.extN {M : List Addr} {H H' : Hp} (e : ExtN H H') : ∀ {v : V} {d : D}, Rep M H v d → Rep M H' v d
  | _, _, .non => .non
  | _, _, .bl b => .bl b
  | _, _, .int b => .int b
  | _, _, .str b => .str b
  | _, _, .ref b => .ref b
  | _, _, .lst n r l => .lst n (e _ _ r (fun _ z => nomatch z)) (RepL.extN e l)
  | _, _, .tup n r l => .tup n (e _ _ r (fun _ z => nomatch z)) (RepL.extN e l)
  | _, _, .dct n r l => .dct n (e _ _ r (fun _ z => nomatch z)) (RepK.extN e l)
  | _, _, .exc n r => .exc n (e _ _ r (fun _ z => nomatch z))
  | _, _, .obj n r l => .obj n (e _ _ r (fun _ z => nomatch z)) (RepF.extN e l)
theorem RepL.extN {M : List Addr} {H H' : Hp} (e : ExtN H H') : ∀ {v : List V} {d : List D}, RepL M H v d → RepL M H' v d
  | _, _, .nil => .nil
  | _, _, .cons r l => .cons (Rep.extN e r) (RepL.extN e l)
theorem RepK.extN {M : List Addr} {H H' : Hp} (e : ExtN H H') : ∀ {v : List (Key × V)} {d : List (Int × D)}, RepK M H v d → RepK M H' v d
  | _, _, .nil => .nil
  | _, _, .cons r l => .cons (Rep.extN e r) (RepK.extN e l)
theorem RepF.extN {M : List Addr} {H H' : Hp} (e : ExtN H H') : ∀ {v : List (Str × V)} {d : List (Str × D)}, RepF M H v d → RepF M H' v d
  | _, _, .nil => .nil
  | _, _, .cons r l => .cons (Rep.extN e r) (RepF.extN e l)
end
theorem At.lone {C : Ctx} {M : List Addr} {env env2 : List En} {σ : L2.St} {H H' : Hp} (A : At C M env σ H) (e : ExtN H H') (hl : env2.length = env.length) (h : ∀ (i : Nat) (en : En), env2[i]? = some en → en = .no ∨ ∃ d, en = .im d ∧ env[i]? = some en) : At ⟨[], H', [], []⟩ [] env2 σ H' where
  len := by rw [A.len, hl]
  sl := fun i en he x hx => by
    rcases h i en he with z | ⟨d, z, z2⟩
    · subst z
      trivial
    · subst z
      obtain ⟨v, hv, r⟩ := A.sl i _ z2 x hx
      exact ⟨v, hv, rep_any (r.extN e)⟩
  nd := fun i j en u p h1 _ h3 _ => by
    rcases h i en h1 with z | ⟨d, z, _⟩ <;> subst z <;> cases h3
  gh := fun q hq => nomatch hq
  tr := fun a ha => nomatch ha
  sub := fun _ h => h
  fresh := fun a h => nomatch h
  ext := Ext.refl _ _
  keep := fun _ _ _ => rfl
/-- only some slots are kept -/
def keepE : List Bool → List En → List En
  | _, [] => []
  | [], _ :: es => .no :: keepE [] es
  | b :: bs, e :: es => (match b with | true => e | false => .no) :: keepE bs es
theorem keepE_len : ∀ (bs : List Bool) (env : List En), (keepE bs env).length = env.length
  | _, [] => by cases ‹List Bool› <;> rfl
  | [], _ :: es => congrArg (· + 1) (keepE_len [] es)
  | b :: bs, _ :: es => congrArg (· + 1) (keepE_len bs es)
theorem keepE_get : ∀ (bs : List Bool) (env : List En) (i : Nat) (e : En), (keepE bs env)[i]? = some e → e = .no ∨ env[i]? = some e
  | bs, [], i, e, h => by cases bs <;> cases h
  | [], _ :: es, 0, e, h => .inl (Option.some.inj h).symm
  | [], _ :: es, i + 1, e, h => by
    rw [List.getElem?_cons_succ]
    exact keepE_get [] es i e h
  | true :: bs, _ :: es, 0, e, h => .inr h
  | false :: bs, _ :: es, 0, e, h => .inl (Option.some.inj h).symm
  | true :: bs, _ :: es, i + 1, e, h => by
    rw [List.getElem?_cons_succ]
    exact keepE_get bs es i e h
  | false :: bs, _ :: es, i + 1, e, h => by
    rw [List.getElem?_cons_succ]
    exact keepE_get bs es i e h
def noOwn : En → Bool
  | .no => true
  | .im _ => true
  | _ => false
theorem At.lone' {C : Ctx} {M : List Addr} {env : List En} {σ : L2.St} {H H' : Hp} (bs : List Bool) (A : At C M env σ H) (e : ExtN H H') (h : (keepE bs env).all noOwn = true) : At ⟨[], H', [], []⟩ [] (keepE bs env) σ H' :=
  A.lone e (keepE_len bs env) fun i en he => by
    have q := List.all_eq_true.mp h en (List.mem_of_getElem? he)
    cases en with
    | no => exact .inl rfl
    | im d =>
      rcases keepE_get bs env i _ he with z | z
      · cases z
      · exact .inr ⟨d, rfl, z⟩
    | mu p l => cases q
    | md p l => cases q
    | jar p => cases q
theorem g_keep {C : Ctx} {M : List Addr} {env : List En} {k : L2.St → Hp → Prop} (bs : List Bool) (h : Nx C M (keepE bs env) k) : Nx C M env k := fun σ H A => h σ H (A.weak (keepE_len bs env) (keepE_get bs env))
theorem make_bad {env : List En} {σ : L2.St} {H : Hp} {Cl CB : Addr} {K : PySem.W.Frag} {t : TA} {a : InitA} {g : Int} {E : XK} {Q : VK} (A : At ⟨[], H, [], []⟩ [] env σ H) (h : EvA t env (Is [.int a.p, a.k.d a.gs])) (ok : a.Ok K) (bad : ∀ S, Srt S a.gs → wrongF a.p [] S = some g)
    (qe : ∀ d H2, All H H2 → H d = none → H2 d = some (.xd [("gap", .int g)]) → E (.ref CB) (some d) H2) : tMake Cl (spInit K Cl CB) [] E t σ H Q :=
  h _ _ σ H A _ fun ws ds H1 p1 A1 e1 r1 x dx hx hdx ne => by
    rw [List.append_nil]
    rw [p1] at r1
    have al : All H H1 := fun b o hb => e1 b o (fun z => nomatch z) hb
    refine make_core A1 r1 ok (fun v H2 S h1 h2 => by rw [bad S h1] at h2; cases h2) (fun S g2 h1 h2 d H2 h3 h4 h5 => ?_) hx hdx ne
    rw [bad S h1] at h2
    cases h2
    refine qe d H2 (al.trans h3) ?_ h5
    cases q : H d with
    | none => rfl
    | some o =>
      rw [al d o q] at h4
      cases h4
/-! the wrong gap, told twice -/
theorem least_none {p : Int} {xs : List Int} (h : LeastBad p xs none) : Clo p xs := clo_iff.mpr h
theorem least_some {p g : Int} {xs S : List Int} (hp : 1 ≤ p) (h : LeastBad p xs (some g)) (hS : Srt S xs) : wrongF p [] S = some g := by
  obtain ⟨h1, h2, h3⟩ := h
  cases e : wrongF p [] S with
  | none =>
    have q := (wrongF_none hp (known := []) (r := S) hS.1).mp e g ((hS.2 g).mpr h1)
    exact absurd ((BadG.ext hS.2).mpr h2) q
  | some w =>
    obtain ⟨w1, w2, w3⟩ := wrongF_some hp (known := []) (r := S) hS.1 e
    have b : BadG p xs w := (BadG.ext hS.2).mp w2
    have a1 : ¬ w < g := fun z => h3 w ((hS.2 w).mp w1) z b
    have a2 : ¬ g < w := fun z => w3 g ((hS.2 g).mpr h1) z ((BadG.ext hS.2).mpr h2)
    congr 1
    omega
theorem srt_perm {S xs ys : List Int} (h : Srt S xs) (p : xs.Perm ys) : Srt S ys := ⟨h.1, fun k => (h.2 k).trans p.mem_iff⟩
section
variable {P : Program} {w : World} {K : PySem.W.Frag} {mg : Str → Option Value} {base : Heap} {Cl CB T0 : Addr} {cl : Str → Addr} {f : Str → Addr} {fd : Str → FuncData} {dv : Value} {g0 gL gP : List Value → List Value → List Value}
/-- the context of law's body -/
abbrev lawX (P : Program) (w : World) (K : PySem.W.Frag) (mg : Str → Option Value) (base : Heap) (fl c : Addr) (A : Around) (outer : List Env) (s : Shared) (H : Hp) (E : XK) : Cx := (cxOf CX0 P w K mg base n_law "law" (defScope s_law) fl (.ref c) A outer s H E).nox
theorem law_19 (L : LawC P w K mg base Cl CB T0 cl f fd dv g0 gL gP) {fl c Pt : Addr} {A : Around} {outer : List Env} {s : Shared} {H : Hp} {E : XK} (TB : TabB base mg c Pt)
    (hr : Room 8 (A.deeper (envOfC "law" (defScope s_law) s.heap.objs.size fl (.ref c)))) :
    ∃ t, PSs (lawX P w K mg base fl c A outer s H E) ((defBody s_law).drop 19) t ∧ ∀ (H0 : Hp) (M : List Addr) (D : Ends) (j : Addr) (p : Int) (gs : List Int), TabS H0 Pt ((lawX P w K mg base fl c A outer s H E).env.qual ++ "<lambda>") → (∀ H', D.rt (.bl true) H') → LenOk p gs → p ≤ 36 → (∀ g ∈ gs, g ≤ 100000) → gs.length ≤ 50 →
      Go ⟨[], H0, [], []⟩ M [.no, .jar j, .no, .no, .no, .no, .no, .no, .im (bagD p gs), .no, .no, .no, .no, .no, .no, .no, .no, .no, .no, .im (lenD Cl p gs)] t D := by
  obtain ⟨T, dInit, dJar, dDraw, dPick, dMixed, dDiv, dGapList, dLWrong, dHas, dIsBag, dLike, dPair, mHas, mLeast, kLeast, mTimes, mParts, kParts, flt⟩ := L
  refine ⟨_, (pss_cons (ps_set (i := 16) sc_law.nd rfl (Or.inr rfl) (pe_op op_cat (pe_ix ix_tup (pv 8) pe_int (fun _ _ => rfl)) (pe_lst (pa_cons (pe_call dPick.ok (hr.mono (by decide)) (by rfl) dPick.mg dPick.kp dPick.bi .nil pass0 (pa_cons (pv 1) (pa_cons (pe_lst (pa_cons (pe_op op_mul (pe_ix ix_tup (pv 8) pe_int (fun _ _ => rfl)) (pe_op op_add pe_int (pe_call dDraw.ok (hr.mono (by decide)) (by rfl) dDraw.mg dDraw.kp dDraw.bi .nil pass0 (pa_cons (pv 1) (pa_cons pe_int pa_nil))))) (pa_cons (pe_op op_add pe_int (pe_call dDraw.ok (hr.mono (by decide)) (by rfl) dDraw.mg dDraw.kp dDraw.bi .nil pass0 (pa_cons (pv 1) (pa_cons pe_int pa_nil)))) (pa_cons (pe_op op_add (pe_ix ix_tup (pv 8) pe_int (fun _ _ => rfl)) pe_int) pa_nil)))) pa_nil))) pa_nil))))
 (pss_cons (ps_set (i := 16) sc_law.nd rfl (Or.inr rfl) (pe_ifExp (pt_cmpR op_eq (pe_call dDraw.ok (hr.mono (by decide)) (by rfl) dDraw.mg dDraw.kp dDraw.bi .nil pass0 (pa_cons (pv 1) (pa_cons pe_int pa_nil))) pe_int (nomark _)) (pe_lc (own := [("num", 18)]) (g := gName 18) rfl sc_law.nd (pi_list (pv 16)) (blkOk_by (own := [("num", 18)]) (N := n_law) (sc := defScope s_law) (by decide +kernel)) (fun _ _ _ _ _ => pg_name (i := 18) sc_law.nd rfl (Or.inl rfl)) (fun _ _ _ _ _ => (pts_one (pt_cmpR op_ne (pv 18) (pe_ix (show IxR _ (rIxL K) from ix_list) (pv 16) pe_int (fun _ _ => rfl)) (nomark _)))) (fun _ _ _ _ _ => (pv 18))) (pv 16)))
 (pss_cons (ps_set (i := 9) sc_law.nd rfl (Or.inr rfl) (pe_call dMixed.ok (hr.mono (by decide)) (by rfl) dMixed.mg dMixed.kp dMixed.bi .nil pass0 (pa_cons (pv 1) (pa_cons (pv 16) pa_nil))))
 (pss_cons (ps_set (i := 17) sc_law.nd rfl (Or.inl rfl) (pe_call dLWrong.ok (hr.mono (by decide)) (by rfl) dLWrong.mg dLWrong.kp dLWrong.bi .nil pass0 (pa_cons (pe_ix ix_tup (pv 8) pe_int (fun _ _ => rfl)) (pa_cons (pv 16) pa_nil))))
 (pss_cons (ps_if (pt_cmpR op_isN (pv 17) pe_non (nomark _)) (pss_one (ps_ret (pe_call dIsBag.ok (hr.mono (by decide)) (by rfl) dIsBag.mg dIsBag.kp dIsBag.bi .nil pass0 (pa_cons (pe_make dInit.mks dInit.ok (hr.mono (by decide)) (by rfl) T.Lengths dInit.bi .nil passN (pa_cons (pe_ix ix_tup (pv 8) pe_int (fun _ _ => rfl)) (pa_cons (pv 9) pa_nil))) (pa_cons (pe_tup (pa_cons (pe_ix ix_tup (pv 8) pe_int (fun _ _ => rfl)) (pa_cons (pe_callB (cr_sortedSet rfl) (by rfl) T.sorted (by decide +kernel) (pa_cons (pe_callTy (call_setI rfl) (by rfl) T.set (by decide +kernel) (pa_cons (pv 16) pa_nil)) pa_nil)) pa_nil))) pa_nil))))) pss_nil)
 (pss_one (ps_ret (pe_and (pe_refused (X := lawX P w K mg base fl c A outer s H E) (TT := [(Pt, (lawX P w K mg base fl c A outer s H E).env.qual ++ "<lambda>")]) (tb := fun E => tMake Cl (spInit K Cl CB) [] E (tCons (tOp (rIxT K) (tVar 8) (tC (.int 0))) (tCons (tVar 9) tNil))) T flt (by rfl) TB rfl (List.mem_singleton.mpr rfl) (fun q hq _ => congrArg Prod.snd (List.mem_singleton.mp hq)) (hr.mono (by decide)) (LamX.lamS_by (sc := defScope s_law) (by decide +kernel)) rfl (fun _ _ _ _ _ => rfl) (fun E A outer s H fl c' hr5 => pe_make dInit.mks dInit.ok (hr5.mono (by decide)) (by rfl) T.Lengths dInit.bi .nil (L2N.passes_call lamN_takes fun _ _ _ _ h => h) (pa_cons (pe_ix (show IxR _ (rIxT K) from ix_tup) (pv 8) pe_int (fun _ _ => rfl)) (pa_cons (pv 9) pa_nil))) (pa_cons (pe_tup (pa_cons pe_str (pa_cons (pv 17) pa_nil))) pa_nil)) (pe_one (pe_call dIsBag.ok (hr.mono (by decide)) (by rfl) dIsBag.mg dIsBag.kp dIsBag.bi .nil pass0 (pa_cons (pv 19) (pa_cons (pv 8) pa_nil)))))))))))), ?_⟩
  intro H0 M D j p gs tab fin ok p36 g5 gl
  have p1 := ok.p1
  have dn : ∀ C, Done C D (Is (.bl true)) := fun C M env σ H v d hd A r => by
    rw [hd] at r
    rw [r.bl_inv]
    exact fin H
  -- bent
  refine g_seq (g_asg (P := fun d => ∃ k : Int, 1 ≤ k ∧ k ≤ 5000 ∧ d = .lst ((gs ++ [k]).map Y.D.int)) (e_op (P := Is (.lst (gs.map Y.D.int))) (R := fun d => ∃ k : Int, 1 ≤ k ∧ k ≤ 5000 ∧ d = .lst [.int k]) (x_op (x_var rfl) x_int (r_ixT rfl))
    ((e_lst (T := fun ds => ∃ k : Int, 1 ≤ k ∧ k ≤ 5000 ∧ ds = [.int k]) (a_consP (e_jar (T := fun ds => ∃ k1 k2 : Int, 0 ≤ k1 ∧ k1 < 60 ∧ 0 ≤ k2 ∧ k2 < 90 ∧ ds = [.lst ([p * (60 + k1), 1 + k2, p + 1].map Y.D.int)]) (S := fun d => ∃ k : Int, 1 ≤ k ∧ k ≤ 5000 ∧ d = .int k) rfl
      (a_consP (e_lst (T := fun ds => ∃ k1 k2 : Int, 0 ≤ k1 ∧ k1 < 60 ∧ 0 ≤ k2 ∧ k2 < 90 ∧ ds = [.int (p * (60 + k1)), .int (1 + k2), .int (p + 1)])
        (a_consP (e_op (P := Is (.int p)) (R := fun d => ∃ k : Int, 0 ≤ k ∧ k < 60 ∧ d = .int (60 + k)) (S := fun d => ∃ k : Int, 0 ≤ k ∧ k < 60 ∧ d = .int (p * (60 + k))) (x_op (x_var rfl) x_int (r_ixT rfl)) (e_op (P := Is (.int 60)) x_int (x_jar (α := Int) (a := 60) rfl (a_cons x_int a_nil) ⟨by decide, by decide⟩) ?_) ?_)
          (a_consP (T := Is [.int (p + 1)]) (U := fun ds => ∃ k2 : Int, 0 ≤ k2 ∧ k2 < 90 ∧ ds = [.int (1 + k2), .int (p + 1)]) (e_op (P := Is (.int 1)) (S := fun d => ∃ k : Int, 0 ≤ k ∧ k < 90 ∧ d = .int (1 + k)) x_int (x_jar (α := Int) (a := 90) rfl (a_cons x_int a_nil) ⟨by decide, by decide⟩) ?_) (a_cons (x_op (x_op (x_var rfl) x_int (r_ixT rfl)) x_int r_I0i) a_nil) ?_) ?_) ?_) (T := Is []) a_nil ?_) ?_) (T := Is []) a_nil ?_) ?_).imp ?_) ?_) ?_)
  · rintro x y rfl ⟨k, k0, k1, rfl⟩
    exact r_I0i.imp fun d hd => ⟨k, k0, k1, hd⟩
  · rintro x y rfl ⟨k, k0, k1, rfl⟩
    exact (r_Ii (.inl ⟨by omega, by omega⟩)).imp fun d hd => ⟨k, k0, k1, hd⟩
  · rintro x y rfl ⟨k, k0, k1, rfl⟩
    exact r_I0i.imp fun d hd => ⟨k, k0, k1, hd⟩
  · rintro d ds ⟨k, k0, k1, rfl⟩ rfl
    exact ⟨k, k0, k1, rfl⟩
  · rintro d ds ⟨k, k0, k1, rfl⟩ ⟨k2, k3, k4, rfl⟩
    exact ⟨k, k2, k0, k1, k3, k4, rfl⟩
  · rintro ds ⟨k, k2, k0, k1, k3, k4, rfl⟩
    show 3 ≤ 16000000
    decide
  · rintro d ds ⟨_, ⟨k, k2, k0, k1, k3, k4, rfl⟩, rfl⟩ rfl
    exact ⟨k, k2, k0, k1, k3, k4, rfl⟩
  · rintro ds ⟨k, k2, k0, k1, k3, k4, rfl⟩
    refine ⟨[p * (60 + k), 1 + k2, p + 1], rfl, ⟨(fun z => nomatch z), by show 3 < 1000; decide⟩, fun d ⟨q, hq, hd⟩ => ⟨q, ?_, ?_, hd⟩⟩
    · simp only [List.mem_cons, List.not_mem_nil, or_false] at hq
      rcases hq with rfl | rfl | rfl
      · exact Int.mul_pos (by omega) (by omega)
      · omega
      · omega
    · simp only [List.mem_cons, List.not_mem_nil, or_false] at hq
      rcases hq with rfl | rfl | rfl
      · have : p * (60 + k) ≤ 36 * 120 := Int.mul_le_mul p36 (by omega) (by omega) (by omega)
        omega
      · omega
      · omega
  · rintro d ds ⟨k, k0, k1, rfl⟩ rfl
    exact ⟨k, k0, k1, rfl⟩
  · rintro ds ⟨k, k0, k1, rfl⟩
    show 1 ≤ 16000000
    decide
  · rintro d ⟨_, ⟨k, k0, k1, rfl⟩, rfl⟩
    exact ⟨k, k0, k1, rfl⟩
  · rintro x y rfl ⟨k, k0, k1, rfl⟩
    refine (r_cat (b := [.int k]) (by rw [List.length_map, List.length_cons, List.length_nil]; omega)).imp fun d hd => ⟨k, k0, k1, by rw [hd, List.map_append]; rfl⟩
  rintro _ ⟨k, k0, k1, rfl⟩
  obtain ⟨h0, r, e⟩ : ∃ h0 r, gs ++ [k] = h0 :: r := by
    cases gs with
    | nil => exact ⟨_, _, rfl⟩
    | cons a b => exact ⟨_, _, rfl⟩
  have bp : ∀ x ∈ gs ++ [k], 1 ≤ x ∧ x ≤ 100000 := fun x hx => by
    rcases List.mem_append.mp hx with z | z
    · exact ⟨(ok.pos x z).1, g5 x z⟩
    · rw [List.mem_singleton.mp z]
      omega
  have bl : (gs ++ [k]).length ≤ 51 := by
    rw [List.length_append, List.length_singleton]
    omega
  rw [e] at bp bl ⊢
  dsimp only
  show Nx _ _ [.no, .jar j, .no, .no, .no, .no, .no, .no, .im (bagD p gs), .no, .no, .no, .no, .no, .no, .no, .im (.lst ((h0 :: r).map Y.D.int)), .no, .no, .im (lenD Cl p gs)] _
  -- bent, perhaps without its first
  refine g_seq (g_asg (P := fun d => ∃ l : List Int, (∀ x ∈ l, x ∈ h0 :: r) ∧ l.length ≤ 51 ∧ d = .lst (l.map Y.D.int)) (e_if (T := fun _ => True) (t_testP (e_op (P := fun d => ∃ k : Int, 0 ≤ k ∧ k < 2 ∧ d = .int k) (R := Is (.int 0)) (x_jar (α := Int) (a := 2) rfl (a_cons x_int a_nil) ⟨by decide, by decide⟩) x_int ?_)) (fun _ => (x_lcI (ns := h0 :: r) (fun n => !decide (n = h0)) Y.D.int (i_list (x_var rfl)) (fun u hu => by cases hu; rfl) (by omega) fun o ho => ⟨t_test (x_op (x_var rfl) (x_op (x_var rfl) x_int (r_ixL (d := .int h0) (atI_of (j := 0) rfl))) r_neI), fun _ => x_var rfl⟩).imp ?_) (fun _ => (x_var rfl).imp ?_)) ?_)
  · rintro x y ⟨k, _, _, rfl⟩ rfl
    exact r_eqI.imp fun d hd => ⟨_, trivial, hd⟩
  · rintro d rfl
    exact ⟨_, fun x hx => (List.mem_filter.mp hx).1, Nat.le_trans (List.length_filter_le ..) bl, rfl⟩
  · rintro d rfl
    exact ⟨_, fun x hx => hx, bl, rfl⟩
  rintro _ ⟨l, l1, l2, rfl⟩
  dsimp only
  -- given
  refine g_seq (g_asg (x_jar (α := List Int) (a := l) rfl (a_cons (x_var rfl) a_nil) (by show l.length < 1000; omega)) ?_)
  rintro _ ⟨gv, hg, rfl⟩
  dsimp only
  have gl2 : gv.length ≤ 51 := by rw [hg.length_eq]; exact l2
  have gb : ∀ x ∈ gv, 1 ≤ x ∧ x ≤ 100000 := fun x hx => bp x (l1 x (hg.mem_iff.mp hx))
  have lb : ∀ x ∈ l, 1 ≤ x ∧ x ≤ 100000 := fun x hx => bp x (l1 x hx)
  have iok : InitA.Ok K ⟨p, gv, .lst⟩ := ⟨p1, by show p < 1000000000; omega, fun g hg => by have := gb g hg; omega, by show gv.length ≤ 1000; omega, ⟨gv, fun k hk => hk, by omega⟩, trivial⟩
  -- due
  refine g_seq (g_asg (x_call (α := LenA) (a := ⟨p, l⟩) (a_cons (x_op (x_var rfl) x_int (r_ixT rfl)) (a_cons (x_var rfl) a_nil)) ⟨p1, by show p < 1000000; omega, fun g hg => by have := lb g hg; omega, by show l.length < 1000; omega⟩) ?_)
  rintro _ ⟨due, hd, rfl⟩
  dsimp only at hd ⊢
  cases due with
  | none =>
    refine g_seq (g_ifb (b := true) (t_test (x_op (x_var rfl) x_non r_isN)) (fun _ => ?_) (fun z => nomatch z))
    have cl1 : Clo p l := least_none hd
    refine g_ret (e_call (T := fun ds => ∃ S, Srt S l ∧ ds = [lenD Cl p S, bagD p S]) (a_consP (T := fun ds => ∃ S, Srt S l ∧ ds = [bagD p S]) (x_make (a := ⟨p, gv, .lst⟩) (a_cons (x_op (x_var rfl) x_int (r_ixT rfl)) (a_cons (x_var rfl) a_nil)) iok (good_of_clo p1 (cl1.ext fun k => hg.mem_iff)))
      (a_consP (T := Is []) (e_tup (T := fun ds => ∃ S : List Int, Srt S l ∧ ds = [.int p, .lst (S.map Y.D.int)]) (a_consP (T := fun ds => ∃ S : List Int, Srt S l ∧ ds = [.lst (S.map Y.D.int)]) (x_op (x_var rfl) x_int (r_ixT rfl)) (a_consP (T := Is []) (x_sortedSet (x_var rfl) (by omega) ⟨l, fun k hk => hk, by omega⟩) a_nil ?_) ?_) ?_) a_nil ?_) ?_) ?_) (dn _)
    · rintro d ds ⟨S, hS, rfl⟩ rfl
      exact ⟨S, hS, rfl⟩
    · rintro d ds rfl ⟨S, hS, rfl⟩
      exact ⟨S, hS, rfl⟩
    · rintro ds ⟨S, hS, rfl⟩
      show 2 ≤ 16000000
      decide
    · rintro d ds ⟨_, ⟨S, hS, rfl⟩, rfl⟩ rfl
      exact ⟨S, hS, rfl⟩
    · rintro d ds ⟨S, hS, rfl⟩ ⟨S2, hS2, rfl⟩
      refine ⟨S2, hS2, ?_⟩
      rw [(srt_perm hS hg).uniq hS2]
    · rintro ds ⟨S, hS, rfl⟩
      have sl := nodup_len hS.nodup (L := l) fun k hk => (hS.2 k).mp hk
      exact ⟨⟨p, S⟩, rfl, ⟨p1, by show p ≤ 30000; omega, hS.1, cl1.ext hS.2, fun g hg => by have := lb g ((hS.2 g).mp hg); omega, by show S.length < 64; omega⟩, fun d hd => hd⟩
  | some g =>
    refine g_seq (g_ifb (b := false) (t_test (x_op (x_var rfl) x_non r_isN)) (fun z => nomatch z) (fun _ => g_next ?_))
    intro σ H A
    have al : All H0 H := A.alls
    obtain ⟨v, hv, rv⟩ := A.get (i := 17) (d := .int g) rfl
    cases rv.int_inv
    have nb : (keepE [false, false, false, false, false, false, false, false, true, true, false, false, false, false, false, false, false, false, false, true] [.no, .jar j, .no, .no, .no, .no, .no, .no, .im (bagD p gs), .im (.lst (gv.map Y.D.int)), .no, .no, .no, .no, .no, .no, .im (.lst (l.map Y.D.int)), .im (.int g), .no, .im (lenD Cl p gs)]).all noOwn = true := rfl
    refine ⟨fun q hq => by rw [List.mem_singleton.mp hq]; exact tab.ext al, g, hv, fun H1 E2 Q2 eN wish => ?_, fun H1 eN => ⟨true, rfl, ?_⟩⟩
    · exact make_bad (a := ⟨p, gv, .lst⟩) (A.lone' _ eN nb) (a_cons (x_op (x_var rfl) x_int (r_ixT rfl)) (a_cons (x_var rfl) a_nil)) iok (fun S hS => least_some p1 hd (srt_perm hS hg)) fun d H2 a1 a2 a3 => wish d H2 a1 a2 a3
    · rw [if_pos rfl]
      exact x_call (α := LenA) (a := ⟨p, gs⟩) (a_cons (x_var rfl) (a_cons (x_var rfl) a_nil)) ok _ _ σ H1 (A.lone' _ eN nb) _ fun v d H2 hd A2 e2 r2 => by
        rw [hd] at r2
        rw [r2.bl_inv]
        exact fin H2
end
end Y

set_option Elab.async false
set_option linter.all false
set_option maxHeartbeats 4000000
/-! M3: plain mathematics of the middle part of law. -/
namespace Y
open PySem L2
theorem leastF_pre {p : Int} {gs : List Int} : ∀ {n i : Nat}, i ≤ n → ∃ t, leastF p gs n = leastF p gs i ++ t
  | 0, i, h => ⟨[], by rw [show i = 0 by omega, List.append_nil]⟩
  | n + 1, i, h => by
    by_cases e : i = n + 1
    · exact ⟨[], by rw [e, List.append_nil]⟩
    · obtain ⟨t, ht⟩ := leastF_pre (p := p) (gs := gs) (show i ≤ n by omega)
      refine ⟨t ++ [p * ((n : Int) + 1)].filter fun k => !decide (k ∈ gs), ?_⟩
      rw [← List.append_assoc, ← ht]
      unfold leastF
      rw [mults_succ, List.filter_append]
theorem leastF_take {p : Int} {gs : List Int} {n i k : Nat} (hk : (leastF p gs i).length = k) (hn : k ≤ (leastF p gs n).length) : leastF p gs i = (leastF p gs n).take k := by
  by_cases h : i ≤ n
  · obtain ⟨t, e⟩ := leastF_pre (p := p) (gs := gs) h
    rw [e, ← hk, List.take_left]
  · obtain ⟨t, e⟩ := leastF_pre (p := p) (gs := gs) (show n ≤ i by omega)
    have el : k = (leastF p gs n).length + t.length := by rw [← hk, e, List.length_append]
    have t0 : t = [] := List.eq_nil_iff_length_eq_zero.mpr (by omega)
    rw [e, t0, List.append_nil, List.take_of_length_le (by rw [t0, List.length_nil] at el; omega)]
theorem mults_rng (p : Int) (n : Nat) : mults p n = rng p p n := by
  unfold mults rng
  refine List.map_congr_left fun j _ => ?_
  rw [Int.mul_add, Int.mul_one, Int.mul_comm]
  omega
theorem mem_mults {p x : Int} {n : Nat} (hp : 1 ≤ p) : x ∈ mults p n ↔ 1 ≤ x ∧ x % p = 0 ∧ x ≤ p * n := by
  unfold mults
  rw [List.mem_map]
  constructor
  · rintro ⟨j, hj, rfl⟩
    have := List.mem_range.mp hj
    have a : p * 1 ≤ p * ((j : Int) + 1) := Int.mul_le_mul_of_nonneg_left (by omega) (by omega)
    exact ⟨by omega, Int.mul_emod_right .., Int.mul_le_mul_of_nonneg_left (by omega) (by omega)⟩
  · rintro ⟨h1, h2, h3⟩
    obtain ⟨q, rfl⟩ := Int.dvd_of_emod_eq_zero h2
    have q1 : 1 ≤ q := pos_of_mul hp (by omega)
    have q2 : q ≤ n := Int.le_of_mul_le_mul_left h3 (by omega)
    refine ⟨(q - 1).toNat, List.mem_range.mpr (by omega), ?_⟩
    rw [show (((q - 1).toNat : Nat) : Int) + 1 = q by omega]
theorem mem_leastF {p x : Int} {gs : List Int} {n : Nat} (hp : 1 ≤ p) : x ∈ leastF p gs n ↔ (1 ≤ x ∧ x % p = 0 ∧ x ≤ p * n) ∧ x ∉ gs := by
  unfold leastF
  rw [List.mem_filter, mem_mults hp]
  simp
theorem leastF_srt {p : Int} {gs : List Int} (hp : 1 ≤ p) (n : Nat) : (leastF p gs n).Pairwise (· < ·) := by
  unfold leastF
  rw [mults_rng]
  exact (rng_pair hp n).filter _
/-- of the gaps, all up to m, many multiples are left -/
theorem leastF_many {p m : Int} {gs : List Int} (hp : 1 ≤ p) (nd : gs.Nodup) (hg : ∀ g ∈ gs, 1 ≤ g ∧ g % p = 0 ∧ g ≤ m) (m0 : 0 ≤ m) (n : Nat) : n ≤ (leastF p gs n).length + (m / p).toNat := by
  have h1 := leastF_len (gs := gs) hp n
  have q0 : 0 ≤ m / p := Int.ediv_nonneg m0 (by omega)
  have h2 : gs.length ≤ (mults p (m / p).toNat).length := nodup_len nd fun g h => (mem_mults hp).mpr ⟨(hg g h).1, (hg g h).2.1, by
    obtain ⟨q, e⟩ := Int.dvd_of_emod_eq_zero (hg g h).2.1
    have : q ≤ m / p := (Int.le_ediv_iff_mul_le (by omega)).mpr (by rw [Int.mul_comm, ← e]; exact (hg g h).2.2)
    rw [e, show (((m / p).toNat : Nat) : Int) = m / p by omega]
    exact Int.mul_le_mul_of_nonneg_left this (by omega)⟩
  have h3 : (mults p (m / p).toNat).length = (m / p).toNat := by rw [mults_rng, rng_len]
  omega
/-- the numbers below T that a bag has -/
theorem all_eq {p : Int} {gs : List Int} {N : Nat} (hp : 1 ≤ p) : (rng 1 1 N).filter (fun n => hasB p gs n) = leastF p gs (N / p.toNat) := by
  refine sorted_ext ((rng_pair (by decide) N).filter _) (leastF_srt hp _) fun k => ?_
  rw [List.mem_filter, hasB_iff, mem_leastF hp]
  have e : p = (p.toNat : Int) := by omega
  have hN : p * ((N / p.toNat : Nat) : Int) ≤ N := by
    rw [e]
    exact_mod_cast Nat.mul_div_le N p.toNat
  constructor
  · rintro ⟨h1, h2, h3, h4⟩
    have hk : k ≤ N := by
      unfold rng at h1
      obtain ⟨j, hj, rfl⟩ := List.mem_map.mp h1
      have := List.mem_range.mp hj
      omega
    refine ⟨⟨by omega, h3, ?_⟩, h4⟩
    obtain ⟨q, rfl⟩ := Int.dvd_of_emod_eq_zero h3
    have q1 : 1 ≤ q := pos_of_mul hp (by omega)
    refine Int.mul_le_mul_of_nonneg_left ?_ (by omega)
    have : q.toNat ≤ N / p.toNat := (Nat.le_div_iff_mul_le (by omega)).mpr (by
      have e2 : ((q.toNat * p.toNat : Nat) : Int) = p * q := by
        rw [Int.natCast_mul, ← e, show ((q.toNat : Nat) : Int) = q by omega, Int.mul_comm]
      omega)
    omega
  · rintro ⟨⟨h1, h2, h3⟩, h4⟩
    refine ⟨?_, by omega, h2, h4⟩
    unfold rng
    exact List.mem_map.mpr ⟨(k - 1).toNat, List.mem_range.mpr (by omega), by omega⟩
theorem far_eq {s : Int} {far : List Int} (hs : 1 ≤ s) : (rngC s (s * 60) s).filter (fun n => !decide (n ∈ far)) = leastF s far 59 := by
  refine sorted_ext ((rng_pair hs _).filter _) (leastF_srt hs _) fun k => ?_
  rw [List.mem_filter, mem_mul hs, mem_leastF hs]
  simp only [Bool.not_eq_true', decide_eq_false_iff_not]
  refine and_congr_left fun _ => ⟨fun ⟨h1, h2, h3⟩ => ⟨by omega, h2, ?_⟩, fun ⟨h1, h2, h3⟩ => ⟨by omega, h2, ?_⟩⟩
  · obtain ⟨q, rfl⟩ := Int.dvd_of_emod_eq_zero h2
    have : q < 60 := Int.lt_of_mul_lt_mul_left h3 (by omega)
    exact Int.mul_le_mul_of_nonneg_left (by omega) (by omega)
  · have : s * (59 : Nat) < s * 60 := Int.mul_lt_mul_of_pos_left (by decide) (by omega)
    omega
theorem cut_take (L : List Int) {k : Int} (hk : 0 ≤ k) : cutD (L.map D.int) none (some k) = (L.take k.toNat).map D.int := by
  obtain ⟨n, rfl⟩ : ∃ n : Nat, k = n := ⟨k.toNat, by omega⟩
  unfold cutD
  rw [HT.sIx_none, HT.sIx_nat, List.drop_zero, Nat.sub_zero, ← List.map_take, Int.toNat_natCast]
  congr 1
  rw [List.length_map]
  by_cases h : n ≤ L.length
  · rw [Nat.min_eq_left h]
  · rw [Nat.min_eq_right (by omega), List.take_length, List.take_of_length_le (by omega)]
/-! times -/
theorem times_srt {k : Int} {gs : List Int} (hk : 1 ≤ k) (h : gs.Pairwise (· < ·)) : Srt (gs.map (k * ·)) (gs.map (k * ·)) :=
  Srt.self (List.Pairwise.map _ (fun a b hab => Int.mul_lt_mul_of_pos_left hab (by omega)) h)
theorem times_ok {p k : Int} {gs : List Int} (a : LenOk p gs) (k1 : 1 ≤ k) (k2 : k ≤ 100) (p2 : p ≤ 300) (hg : ∀ g ∈ gs, g ≤ 10000) : LenOk (p * k) (gs.map (k * ·)) where
  p1 := mul_pos1 a.p1 k1
  p2 := by
    have : p * k ≤ 300 * 100 := Int.mul_le_mul p2 k2 (by omega) (by omega)
    omega
  srt := (times_srt k1 a.srt).1
  clo := by
    have := clo_times a.p1 k1 a.clo
    rw [Int.mul_comm]
    exact this
  pos := fun x hx => by
    obtain ⟨g, hg1, rfl⟩ := List.mem_map.mp hx
    have q := a.pos g hg1
    have q2 := hg g hg1
    have q3 : k * g ≤ 100 * 10000 := Int.mul_le_mul k2 q2 (by omega) (by omega)
    have q4 : 1 ≤ k * g := mul_pos1 k1 q.1
    omega
  len := by
    rw [List.length_map]
    exact a.len
/-! parts -/
theorem parts_mem {k y : Int} {gs : List Int} (k1 : 1 ≤ k) : y ∈ partsL gs k ↔ k * y ∈ gs := by
  unfold partsL
  constructor
  · intro h
    obtain ⟨g, hg, rfl⟩ := List.mem_map.mp h
    have hg2 := List.mem_filter.mp hg
    have e := of_decide_eq_true hg2.2
    rw [Int.mul_ediv_cancel_of_emod_eq_zero e]
    exact hg2.1
  · intro h
    exact List.mem_map.mpr ⟨k * y, List.mem_filter.mpr ⟨h, decide_eq_true (Int.mul_emod_right ..)⟩, Int.mul_ediv_cancel_left _ (by omega)⟩
theorem parts_ok {p k tp : Int} {gs : List Int} (a : LenOk p gs) (k1 : 1 ≤ k) (ht : ∀ g ∈ gs, g ≤ tp) :
    let s := p / (Nat.gcd p.natAbs k.natAbs : Nat)
    1 ≤ s ∧ s ≤ p ∧ Srt ((rngC s (tp + 1) s).filter fun n => decide (k * n ∈ gs)) (partsL gs k) ∧ LenOk s ((rngC s (tp + 1) s).filter fun n => decide (k * n ∈ gs)) := by
  intro s
  have ap := a.p1
  obtain ⟨d, p', k', ed, d1, pp1, kk1, ep, ek, hc⟩ := gcd_split ap k1
  have es : s = p' := by
    show p / (Nat.gcd p.natAbs k.natAbs : Nat) = p'
    rw [← ed, ep]
    exact Int.mul_ediv_cancel_left _ (by omega)
  have ple : p' ≤ p := by
    have : 1 * p' ≤ d * p' := Int.mul_le_mul_of_nonneg_right d1 (by omega)
    omega
  rw [es]
  have mem : ∀ y, y ∈ (rngC p' (tp + 1) p').filter (fun n => decide (k * n ∈ gs)) ↔ k * y ∈ gs := fun y => by
    rw [List.mem_filter, mem_mul pp1, decide_eq_true_iff]
    refine ⟨fun h => h.2, fun h => ⟨?_, h⟩⟩
    have g1 := (a.pos _ h).1
    have g2 := ht _ h
    have y1 : 1 ≤ y := pos_of_mul k1 g1
    have y2 : 1 * y ≤ k * y := Int.mul_le_mul_of_nonneg_right k1 (by omega)
    have g3 := (a.clo _ h).1
    obtain ⟨b, hb⟩ := Int.dvd_of_emod_eq_zero g3
    have e : k' * y = p' * b := by
      rw [ek, ep, Int.mul_assoc, Int.mul_assoc] at hb
      exact Int.eq_of_mul_eq_mul_left (by omega) hb
    obtain ⟨q, hq⟩ := hc _ _ e
    exact ⟨by omega, by rw [hq]; exact Int.mul_emod_right .., by omega⟩
  have srt : Srt ((rngC p' (tp + 1) p').filter fun n => decide (k * n ∈ gs)) (partsL gs k) := ⟨(rng_pair pp1 _).filter _, fun y => (mem y).trans (parts_mem k1).symm⟩
  refine ⟨pp1, ple, srt, pp1, by have := a.p2; omega, srt.1, clo_parts d1 pp1 kk1 ep ek hc a.clo mem, fun y hy => ?_, ?_⟩
  · have h := (mem y).mp hy
    have g1 := a.pos _ h
    have y1 : 1 ≤ y := pos_of_mul k1 g1.1
    have y2 : 1 * y ≤ k * y := Int.mul_le_mul_of_nonneg_right k1 (by omega)
    omega
  · have q := nodup_len srt.nodup (L := partsL gs k) fun x hx => (srt.2 x).mp hx
    have q2 : (partsL gs k).length ≤ gs.length := by
      unfold partsL
      rw [List.length_map]
      exact List.length_filter_le ..
    have := a.len
    omega
/-! far gaps -/
def cloB (p : Int) (xs : List Int) : Bool := xs.all fun g => decide (g % p = 0) && (List.range (g / p).toNat).all fun k => decide (k = 0) || (!decide ((g / p) % (k : Int) = 0) || decide (p * (k : Int) ∈ xs))
theorem clo_of {p : Int} {xs : List Int} (h : cloB p xs = true) : Clo p xs := fun g hg => by
  have q := List.all_eq_true.mp h g hg
  rw [Bool.and_eq_true, decide_eq_true_iff, List.all_eq_true] at q
  refine ⟨q.1, fun k k1 k2 k3 => ?_⟩
  have z := q.2 k.toNat (List.mem_range.mpr (by omega))
  rw [show ((k.toNat : Nat) : Int) = k by omega] at z
  simp only [Bool.or_eq_true, decide_eq_true_iff, Bool.not_eq_true', decide_eq_false_iff_not] at z
  rcases z with z | z | z
  · omega
  · exact absurd k3 z
  · exact z
def farL (s : Int) : List Int := ([1, 2, 5, 10, 25, 50].filter fun n => decide (s * n ≤ 2000)).map (s * ·)
def farB (s : Int) : Bool := decide (1 ≤ s) && (decide (s ≤ 30000) && (decide ((farL s).Pairwise (· < ·)) && (cloB s (farL s) && ((farL s).all fun g => decide (1 ≤ g) && decide (g ≤ 1000000)) && decide ((farL s).length < 10))))
theorem far_ok {s : Int} (h : s ∈ ([1, 2000, 1999, 40] : List Int)) : LenOk s (farL s) ∧ (farL s).length < 10 ∧ s ≤ 2000 := by
  have hb : farB s = true ∧ s ≤ 2000 := by
    simp only [List.mem_cons, List.not_mem_nil, or_false] at h
    rcases h with rfl | rfl | rfl | rfl <;> decide +kernel
  obtain ⟨hb, h2⟩ := hb
  unfold farB at hb
  simp only [Bool.and_eq_true, decide_eq_true_iff, List.all_eq_true] at hb
  obtain ⟨a1, a2, a3, ⟨a4, a5⟩, a6⟩ := hb
  exact ⟨⟨a1, a2, a3, clo_of a4, a5, by omega⟩, a6, h2⟩
end Y

set_option Elab.async false
set_option linter.all false
set_option maxRecDepth 100000
set_option maxHeartbeats 2000000
/-! Z21: law, its middle part (least, times, parts, far). -/
namespace Y
open PySem PySem.Spec PyProof.Rows L2 L2H LamX
section
variable {P : Program} {w : World} {K : PySem.W.Frag} {mg : Str → Option Value} {base : Heap} {Cl CB T0 : Addr} {cl : Str → Addr} {f : Str → Addr} {fd : Str → FuncData} {dv : Value} {g0 gL gP : List Value → List Value → List Value}
theorem lkd2 {a b : List Int} (ha : a.length < 1000000) (hb : b.length < 1000000) : Lkd 2 (.lst [.lst (a.map Y.D.int), .lst (b.map Y.D.int)]) := .inr ⟨_, .inl rfl, by show 2 < 1000000; decide, fun x hx => by
  simp only [List.mem_cons, List.not_mem_nil, or_false] at hx
  rcases hx with rfl | rfl
  · exact lkd_lstI _ ha
  · exact lkd_lstI _ hb⟩
theorem law_13 (L : LawC P w K mg base Cl CB T0 cl f fd dv g0 gL gP) {fl c Pt : Addr} {A : Around} {outer : List Env} {s : Shared} {H : Hp} {E : XK} (TB : TabB base mg c Pt)
    (hr : Room 8 (A.deeper (envOfC "law" (defScope s_law) s.heap.objs.size fl (.ref c)))) :
    ∃ t, PSs (lawX P w K mg base fl c A outer s H E) ((defBody s_law).drop 13) t ∧ ∀ (H0 : Hp) (M : List Addr) (D : Ends) (j : Addr) (p tp : Int) (gs all : List Int), TabS H0 Pt ((lawX P w K mg base fl c A outer s H E).env.qual ++ "<lambda>") → (∀ H', D.rt (.bl true) H') → LenOk p gs → p ≤ 36 → (∀ g ∈ gs, g ≤ 5000) → gs.length ≤ 50 →
      (∀ g ∈ gs, g ≤ tp) → 0 ≤ tp → tp ≤ 20000 → (∃ n, all = leastF p gs n) → 40 ≤ all.length → all.length ≤ 100000 →
      Go ⟨[], H0, [], []⟩ M [.no, .jar j, .no, .no, .no, .no, .no, .no, .im (bagD p gs), .no, .no, .no, .im (.int tp), .im (.lst (all.map Y.D.int)), .no, .no, .no, .no, .no, .im (lenD Cl p gs)] t D := by
  obtain ⟨t19, w19, ht19⟩ := law_19 (A := A) (outer := outer) (s := s) (H := H) (E := E) (fl := fl) L TB hr
  obtain ⟨T, dInit, dJar, dDraw, dPick, dMixed, dDiv, dGapList, dLWrong, dHas, dIsBag, dLike, dPair, mHas, mLeast, kLeast, mTimes, mParts, kParts, flt⟩ := L
  refine ⟨_, (pss_cons (ps_set (i := 14) sc_law.nd rfl (Or.inl rfl) (pe_call dPick.ok (hr.mono (by decide)) (by rfl) dPick.mg dPick.kp dPick.bi .nil pass0 (pa_cons (pv 1) (pa_cons (pe_lst (pa_cons pe_int (pa_cons pe_int (pa_cons pe_int (pa_cons pe_int (pa_cons pe_int (pa_cons pe_int pa_nil))))))) pa_nil))))
 (pss_cons (ps_if (pt_not (pt_val (pe_call dLike.ok (hr.mono (by decide)) (by rfl) dLike.mg dLike.kp dLike.bi .nil pass0 (pa_cons (pe_lst (pa_cons (pe_meth (pv 19) T.cl mLeast.me mLeast.ok (hr.mono (by decide)) mLeast.bi .nil pass0 (pa_cons (pv 14) pa_nil)) (pa_cons (y_methK (pv 19) T.cl mLeast.me mLeast.ok (hr.mono (by decide)) kLeast pass0 (pk_cons pe_int pk_nil)) pa_nil))) (pa_cons (pe_lst (pa_cons (pe_slice sl_list (pv 13) po_none (po_some (pv 14))) (pa_cons (pe_slice sl_list (pv 13) po_none (po_some pe_int)) pa_nil))) pa_nil))))) (pss_one (ps_ret pe_bl)) pss_nil)
 (pss_cons (ps_for PassesOwn.never rfl (pi_list (pe_lst (pa_cons pe_int (pa_cons (pe_op op_add pe_int (pe_call dDraw.ok (hr.mono (by decide)) (by rfl) dDraw.mg dDraw.kp dDraw.bi .nil pass0 (pa_cons (pv 1) (pa_cons pe_int pa_nil)))) pa_nil)))) (pg_name (i := 6) sc_law.nd rfl (Or.inr rfl))
 (pss_cons (ps_set (i := 4) sc_law.nd rfl (Or.inr rfl) (pe_op op_fdiv (pe_ix ix_tup (pv 8) pe_int (fun _ _ => rfl)) (pe_call dDiv.ok (hr.mono (by decide)) (by rfl) dDiv.mg dDiv.kp dDiv.bi .nil pass0 (pa_cons (pe_ix ix_tup (pv 8) pe_int (fun _ _ => rfl)) (pa_cons (pv 6) pa_nil)))))
 (pss_cons (ps_if (pt_not (pt_val (pe_call dIsBag.ok (hr.mono (by decide)) (by rfl) dIsBag.mg dIsBag.kp dIsBag.bi .nil pass0 (pa_cons (pe_meth (pv 19) T.cl mTimes.me mTimes.ok (hr.mono (by decide)) mTimes.bi .nil pass0 (pa_cons (pv 6) pa_nil)) (pa_cons (pe_tup (pa_cons (pe_op op_mul (pe_ix ix_tup (pv 8) pe_int (fun _ _ => rfl)) (pv 6)) (pa_cons (pe_lc (own := [("num", 18)]) (g := gName 18) rfl sc_law.nd (pi_list (pe_ix ix_tup (pv 8) pe_int (fun _ _ => rfl))) (blkOk_by (own := [("num", 18)]) (N := n_law) (sc := defScope s_law) (by decide +kernel)) (fun _ _ _ _ _ => pg_name (i := 18) sc_law.nd rfl (Or.inl rfl)) (fun _ _ _ _ _ => pts_nil) (fun _ _ _ _ _ => (pe_op op_mul (pv 18) (pv 6)))) pa_nil))) pa_nil))))) (pss_one (ps_ret pe_bl)) pss_nil)
 (pss_one (ps_if (pt_not (pt_val (pe_call dIsBag.ok (hr.mono (by decide)) (by rfl) dIsBag.mg dIsBag.kp dIsBag.bi .nil pass0 (pa_cons (y_methK (pv 19) T.cl mParts.me mParts.ok (hr.mono (by decide)) kParts pass0 (pk_cons (pv 6) pk_nil)) (pa_cons (pe_tup (pa_cons (pv 4) (pa_cons (pe_lc (own := [("num", 18)]) (g := gName 18) rfl sc_law.nd (pi_range3 (by rfl) T.range (pa_cons (pv 4) (pa_cons (pe_op op_add (pv 12) pe_int) (pa_cons (pv 4) pa_nil)))) (blkOk_by (own := [("num", 18)]) (N := n_law) (sc := defScope s_law) (by decide +kernel)) (fun _ _ _ _ _ => pg_name (i := 18) sc_law.nd rfl (Or.inl rfl)) (fun _ _ _ _ _ => (pts_one (pt_cmpR (show OpR _ (compareOp .In) (rIn K false) from op_in_seq) (pe_op op_mul (pv 6) (pv 18)) (pe_ix (show IxR _ (rIxT K) from ix_tup) (pv 8) pe_int (fun _ _ => rfl)) rfl))) (fun _ _ _ _ _ => (pv 18))) pa_nil))) pa_nil))))) (pss_one (ps_ret pe_bl)) pss_nil)))))
 (pss_cons (ps_set (i := 4) sc_law.nd rfl (Or.inr rfl) (pe_call dPick.ok (hr.mono (by decide)) (by rfl) dPick.mg dPick.kp dPick.bi .nil pass0 (pa_cons (pv 1) (pa_cons (pe_lst (pa_cons pe_int (pa_cons pe_int (pa_cons pe_int (pa_cons pe_int pa_nil))))) pa_nil))))
 (pss_cons (ps_set (i := 15) sc_law.nd rfl (Or.inr rfl) (pe_lc (own := [("num", 18)]) (g := gName 18) rfl sc_law.nd (pi_list (pe_lst (pa_cons pe_int (pa_cons pe_int (pa_cons pe_int (pa_cons pe_int (pa_cons pe_int (pa_cons pe_int pa_nil)))))))) (blkOk_by (own := [("num", 18)]) (N := n_law) (sc := defScope s_law) (by decide +kernel)) (fun _ _ _ _ _ => pg_name (i := 18) sc_law.nd rfl (Or.inl rfl)) (fun _ _ _ _ _ => (pts_one (pt_cmpR op_le (pe_op op_mul (pv 4) (pv 18)) pe_int (nomark _)))) (fun _ _ _ _ _ => (pe_op op_mul (pv 4) (pv 18)))))
 (pss_cons (ps_if (PW.pt (pw_or (pt_not (pt_val (pe_call dIsBag.ok (hr.mono (by decide)) (by rfl) dIsBag.mg dIsBag.kp dIsBag.bi .nil pass0 (pa_cons (pe_make dInit.mks dInit.ok (hr.mono (by decide)) (by rfl) T.Lengths dInit.bi .nil passN (pa_cons (pv 4) (pa_cons (pe_revL (pv 15)) pa_nil))) (pa_cons (pe_tup (pa_cons (pv 4) (pa_cons (pv 15) pa_nil))) pa_nil))))) (pw_or1 (pt_not (pt_val (pe_call dLike.ok (hr.mono (by decide)) (by rfl) dLike.mg dLike.kp dLike.bi .nil pass0 (pa_cons (pe_meth (pe_make dInit.mks dInit.ok (hr.mono (by decide)) (by rfl) T.Lengths dInit.bi .nil passN (pa_cons (pv 4) (pa_cons (pe_callTy call_list_of (by rfl) T.list (by decide +kernel) (pa_cons (pv 15) pa_nil)) pa_nil))) T.cl mLeast.me mLeast.ok (hr.mono (by decide)) mLeast.bi .nil pass0 (pa_cons pe_int pa_nil)) (pa_cons (pe_slice sl_list (pe_lc (own := [("num", 18)]) (g := gName 18) rfl sc_law.nd (pi_range3 (by rfl) T.range (pa_cons (pv 4) (pa_cons (pe_op op_mul (pv 4) pe_int) (pa_cons (pv 4) pa_nil)))) (blkOk_by (own := [("num", 18)]) (N := n_law) (sc := defScope s_law) (by decide +kernel)) (fun _ _ _ _ _ => pg_name (i := 18) sc_law.nd rfl (Or.inl rfl)) (fun _ _ _ _ _ => (pts_one (pt_cmpR (show OpR _ (compareOp .NotIn) (rIn K true) from op_notIn_seq) (pv 18) (pv 15) rfl))) (fun _ _ _ _ _ => (pv 18))) po_none (po_some pe_int)) pa_nil)))))))) (pss_one (ps_ret pe_bl)) pss_nil)
 w19)))))), ?_⟩
  intro H0 M D j p tp gs all tab fin ok p36 g5 gl gtp tp0 tp1 hall al40 alm
  have p1 := ok.p1
  have ll : ∀ (i k : Nat), (leastF p gs i).length = k → k ≤ 40 → leastF p gs i = all.take k := fun i k h1 h2 => by
    obtain ⟨n, rfl⟩ := hall
    exact leastF_take h1 (by omega)
  -- many
  refine g_seq (g_asg (x_jar (α := List Int) (a := [0, 1, 2, 5, 12, 40]) rfl (a_cons (x_lst (a_cons x_int (a_cons x_int (a_cons x_int (a_cons x_int (a_cons x_int (a_cons x_int a_nil)))))) (by show 6 ≤ 16000000; decide)) a_nil) ⟨(fun z => nomatch z), by show 6 < 1000; decide⟩) ?_)
  rintro _ ⟨k, hk, rfl⟩
  have kb : 0 ≤ k ∧ k ≤ 40 := by
    simp only [List.mem_cons, List.not_mem_nil, or_false] at hk
    omega
  dsimp only
  have e1 : ∀ (k : Int), 0 ≤ k → k ≤ 40 → ∀ d, (∃ i, ((leastF p gs i).length : Int) = k ∧ d = Y.D.lst ((leastF p gs i).map Y.D.int)) → d = .lst ((all.take k.toNat).map Y.D.int) := fun k k0 k1 d ⟨i, hi, hd⟩ => by
    rw [hd, ll i k.toNat (by omega) (by omega)]
  refine g_seq (g_ifb (b := false) (t_not (a := true) (t_B (x_call (α := Y.D) (a := .lst [.lst ((all.take k.toNat).map Y.D.int), .lst ((all.take 1).map Y.D.int)])
    (a_cons (x_lst (a_cons ((x_meth (α := CntA) (a := ⟨p, gs, k⟩) (x_var rfl) rfl (a_cons (x_var rfl) a_nil) rfl ⟨p1, kb.1, by show k ≤ 1000; omega⟩).imp (e1 k kb.1 kb.2)) (a_cons ((x_methK (α := CntA) (a := ⟨p, gs, 1⟩) (x_var rfl) rfl (a_cons x_int a_nil) rfl rfl ⟨p1, by show (0 : Int) ≤ 1; decide, by show (1 : Int) ≤ 1000; decide⟩).imp (e1 1 (by decide) (by decide))) a_nil)) (by show 2 ≤ 16000000; decide))
      (a_cons (x_lst (a_cons ((x_slL (x_var rfl) o_no (o_some (x_var rfl))).to (by rw [cut_take _ kb.1])) (a_cons ((x_slL (x_var rfl) o_no (o_some x_int)).to (by rw [cut_take _ (by decide)]; rfl)) a_nil)) (by show 2 ≤ 16000000; decide)) a_nil)) (lkd2 (by rw [List.length_take]; omega) (by rw [List.length_take]; omega))))) (fun z => nomatch z) (fun _ => g_next ?_))
  dsimp only
  -- steps
  refine g_seq (g_forL (P := fun d => ∃ k : Int, 0 ≤ k ∧ k < 12 ∧ d = .lst [.int 1, .int (1 + k)]) ((e_lst (T := fun ds => ∃ k : Int, 0 ≤ k ∧ k < 12 ∧ ds = [.int 1, .int (1 + k)]) (a_consP (P := Is (.int 1)) (T := fun ds => ∃ k : Int, 0 ≤ k ∧ k < 12 ∧ ds = [.int (1 + k)]) x_int (a_consP (T := Is []) (e_op (P := Is (.int 1)) (S := fun d => ∃ k : Int, 0 ≤ k ∧ k < 12 ∧ d = .int (1 + k)) x_int (x_jar (α := Int) (a := 12) rfl (a_cons x_int a_nil) ⟨by decide, by decide⟩) ?_) a_nil ?_) ?_) ?_).imp ?_) ?_)
  · rintro x y rfl ⟨k, k0, k1, rfl⟩
    exact r_I0i.imp fun d hd => ⟨k, k0, k1, hd⟩
  · rintro d ds ⟨k, k0, k1, rfl⟩ rfl
    exact ⟨k, k0, k1, rfl⟩
  · rintro d ds rfl ⟨k, k0, k1, rfl⟩
    exact ⟨k, k0, k1, rfl⟩
  · rintro ds ⟨k, k0, k1, rfl⟩
    show 2 ≤ 16000000
    decide
  · rintro d ⟨_, ⟨k, k0, k1, rfl⟩, rfl⟩
    exact ⟨k, k0, k1, rfl⟩
  rintro _ ⟨ks, ks0, ks1, rfl⟩
  refine ⟨_, fun i env => ∃ (e4 e6 : En), env = [.no, .jar j, .no, .no, e4, .no, e6, .no, .im (bagD p gs), .no, .no, .no, .im (.int tp), .im (.lst (all.map Y.D.int)), .im (.int k), .no, .no, .no, .no, .im (lenD Cl p gs)] ∧ e4.addr = none ∧ e6.addr = none, rfl, ⟨.no, .no, rfl, rfl, rfl⟩, ?_, ?_⟩
  · rintro i d env hi ⟨e4, e6, rfl, h4, h6⟩ C' D' dn' nx'
    obtain ⟨st, st1, st2, rfl⟩ : ∃ st : Int, 1 ≤ st ∧ st ≤ 12 ∧ d = .int st := by
      have hm := List.mem_of_getElem? hi
      simp only [List.mem_cons, List.not_mem_nil, or_false] at hm
      rcases hm with rfl | rfl
      · exact ⟨1, by omega, by omega, rfl⟩
      · exact ⟨1 + ks, by omega, by omega, rfl⟩
    show Go C' M [.no, .jar j, .no, .no, e4, .no, .im (.int st), .no, .im (bagD p gs), .no, .no, .no, .im (.int tp), .im (.lst (all.map Y.D.int)), .im (.int k), .no, .no, .no, .no, .im (lenD Cl p gs)] _ D'
    have hgcd : (Nat.gcd p.natAbs st.natAbs : Nat) ≤ p.natAbs := Nat.gcd_le_left _ (by omega)
    have hgcd0 : 0 < (Nat.gcd p.natAbs st.natAbs : Nat) := Nat.gcd_pos_of_pos_left _ (by omega)
    obtain ⟨s1, s2, s3, s4⟩ := parts_ok (tp := tp) ok st1 gtp
    refine g_seq (g_set (d := .int (p / (Nat.gcd p.natAbs st.natAbs : Nat))) (x_op (x_op (x_var rfl) x_int (r_ixT rfl)) (x_call (α := Int × Int) (a := (p, st)) (a_cons (x_op (x_var rfl) x_int (r_ixT rfl)) (a_cons (x_var rfl) a_nil)) ⟨by show 0 ≤ p; omega, by show 0 ≤ st; omega⟩) (r_Ii (⟨by show (0 : Int) < (Nat.gcd p.natAbs st.natAbs : Nat); omega, by show ((Nat.gcd p.natAbs st.natAbs : Nat) : Int) < 1073741824; omega⟩ : CDiv _ _))) ?_)
    dsimp only
    generalize eS : p / (Nat.gcd p.natAbs st.natAbs : Nat) = sz at s1 s2 s3 s4
    -- times
    refine g_seq (g_ifb (b := false) (t_not (a := true) (t_B (x_call (α := LenA) (a := ⟨p * st, gs.map (st * ·)⟩) (a_cons ((x_meth (α := CntA) (a := ⟨p, gs, st⟩) (x_var rfl) rfl (a_cons (x_var rfl) a_nil) rfl ⟨ok, st1, by show st ≤ 100; omega⟩).imp ?_)
      (a_cons (x_tup (a_cons (x_op (x_op (x_var rfl) x_int (r_ixT rfl)) (x_var rfl) (r_Ii (.inl ⟨by omega, by omega⟩))) (a_cons ((x_lcI (ns := gs) (fun _ => true) (fun n => .int (n * st)) (i_list (x_op (x_var rfl) x_int (r_ixT rfl))) (fun u hu => by cases hu; rfl) (by omega) fun o ho => ⟨t_yes, fun _ => x_op (x_var rfl) (x_var rfl) (r_Ii (.inl ⟨by have := ok.pos o ho; omega, by have := ok.pos o ho; omega⟩))⟩).to ?_) a_nil)) (by show 2 ≤ 16000000; decide)) a_nil)) (times_ok ok st1 (by omega) (by omega) fun g hg => by have := g5 g hg; omega)))) (fun z => nomatch z) (fun _ => g_next ?_))
    · rintro d ⟨S, hS, rfl⟩
      rw [hS.uniq (times_srt st1 ok.srt)]
      show lenD Cl (st * p) _ = lenD Cl (p * st) _
      rw [Int.mul_comm]
    · rw [List.filter_eq_self.mpr fun _ _ => rfl, List.map_map]
      congr 1
      refine List.map_congr_left fun n _ => ?_
      show Y.D.int (n * st) = Y.D.int (st * n)
      rw [Int.mul_comm]
    dsimp only
    -- parts
    refine g_ifb (b := false) (t_not (a := true) (t_B (x_call (α := LenA) (a := ⟨sz, (rngC sz (tp + 1) sz).filter fun n => decide (st * n ∈ gs)⟩) (a_cons ((x_methK (α := CntA) (a := ⟨p, gs, st⟩) (x_var rfl) rfl (a_cons (x_var rfl) a_nil) rfl rfl ⟨ok, st1, by show st ≤ 100; omega⟩).imp ?_)
      (a_cons (x_tup (a_cons (x_var rfl) (a_cons (x_lcI (ns := rngC sz (tp + 1) sz) (fun n => decide (st * n ∈ gs)) Y.D.int (i_rngC (a_cons (x_var rfl) (a_cons (x_op (x_var rfl) x_int r_I0i) (a_cons (x_var rfl) a_nil))) s1 (by omega) (by omega) (by omega) (by omega) (by omega)) (fun u hu => by cases hu; rfl) (by have := rngC_len (a := sz) (b := tp + 1) s1; omega) fun o ho => ⟨t_test (x_op (x_op (x_var rfl) (x_var rfl) (r_Ii (.inl ⟨by omega, by obtain ⟨z1, _, z3⟩ := (mem_mul s1).mp ho; omega⟩))) (x_op (x_var rfl) x_int (r_ixT rfl)) (r_inL (neg := false))), fun _ => x_var rfl⟩) a_nil)) (by show 2 ≤ 16000000; decide)) a_nil)) s4))) (fun z => nomatch z) (fun _ => g_next (nx' _ ⟨_, _, rfl, rfl, rfl⟩))
    rintro d ⟨S, hS, rfl⟩
    rw [hS.uniq s3]
    show lenD Cl (p / (Nat.gcd p.natAbs st.natAbs : Nat)) _ = _
    rw [eS]
  rintro env ⟨e4, e6, rfl, h4, h6⟩
  -- far
  refine g_seq (g_asg (x_jar (α := List Int) (a := [1, 2000, 1999, 40]) rfl (a_cons (x_lst (a_cons x_int (a_cons x_int (a_cons x_int (a_cons x_int a_nil)))) (by show 4 ≤ 16000000; decide)) a_nil) ⟨(fun z => nomatch z), by show 4 < 1000; decide⟩) ?_)
  rintro _ ⟨sz, hs, rfl⟩
  obtain ⟨fk, fl10, sz2⟩ := far_ok hs
  have sz1 := fk.p1
  dsimp only
  have hb : ∀ o : Int, o ∈ ([1, 2, 5, 10, 25, 50] : List Int) → 0 ≤ o ∧ o ≤ 50 := fun o ho => by
    simp only [List.mem_cons, List.not_mem_nil, or_false] at ho
    omega
  refine g_seq (g_set (d := .lst ((farL sz).map Y.D.int)) ((x_lcI (ns := [1, 2, 5, 10, 25, 50]) (fun n => decide (sz * n ≤ 2000)) (fun n => .int (sz * n)) (i_list (x_lst (a_cons x_int (a_cons x_int (a_cons x_int (a_cons x_int (a_cons x_int (a_cons x_int a_nil)))))) (by show 6 ≤ 16000000; decide))) (fun u hu => by cases hu; rfl) (by show 6 ≤ 16000000; decide) fun o ho => ⟨t_test (x_op (x_op (x_var rfl) (x_var rfl) (r_Ii (.inl ⟨by omega, by have := hb o ho; omega⟩))) x_int r_I0b), fun _ => x_op (x_var rfl) (x_var rfl) (r_Ii (.inl ⟨by omega, by have := hb o ho; omega⟩))⟩).to ?_) ?_)
  · unfold farL
    rw [List.map_map]
    rfl
  dsimp only
  have cnt : 2 ≤ (leastF sz (farL sz) 59).length := by
    have := leastF_len (gs := farL sz) sz1 59
    omega
  have iok1 : InitA.Ok K ⟨sz, (farL sz).reverse, .lst⟩ := by
    obtain ⟨a1, a2, a3, a4, a5, a6⟩ := fk.init (K := K)
    refine ⟨a1, a2, fun g hg => a3 g (List.mem_reverse.mp hg), by show (farL sz).reverse.length ≤ 1000; rw [List.length_reverse]; omega, ⟨farL sz, fun k hk => List.mem_reverse.mp hk, by omega⟩, trivial⟩
  refine g_seq (g_ifb (b := false) (t_or (a := false) (b := false) (t_not (a := true) (t_B (x_call (α := LenA) (a := ⟨sz, farL sz⟩) (a_cons ((x_make (a := ⟨sz, (farL sz).reverse, .lst⟩) (a_cons (x_var rfl) (a_cons ((x_rev (x_var rfl)).to (by rw [← List.map_reverse]; rfl)) a_nil)) iok1 (good_of_clo sz1 (fk.clo.ext fun k => List.mem_reverse))).imp ?_) (a_cons (x_tup (a_cons (x_var rfl) (a_cons (x_var rfl) a_nil)) (by show 2 ≤ 16000000; decide)) a_nil)) fk))) fun _ =>
    t_not (a := true) (t_B (x_call (α := Y.D) (a := .lst (((leastF sz (farL sz) 59).take 2).map Y.D.int)) (a_cons ((x_meth (α := CntA) (a := ⟨sz, farL sz, 2⟩) ((x_make (a := ⟨sz, farL sz, .lst⟩) (a_cons (x_var rfl) (a_cons (x_cb (a_cons (x_var rfl) a_nil) c_list) a_nil)) fk.init (good_of_clo sz1 fk.clo)).imp ?_) rfl (a_cons x_int a_nil) rfl ⟨sz1, by show (0 : Int) ≤ 2; decide, by show (2 : Int) ≤ 1000; decide⟩).imp ?_)
      (a_cons ((x_slL ((x_lcI (ns := rngC sz (sz * 60) sz) (fun n => !decide (n ∈ farL sz)) Y.D.int (i_rngC (a_cons (x_var rfl) (a_cons (x_op (x_var rfl) x_int (r_Ii (.inl ⟨by omega, by omega⟩))) (a_cons (x_var rfl) a_nil))) sz1 (by omega) (by omega) (by omega) (by omega) (by omega)) (fun u hu => by cases hu; rfl) (by have := rngC_len (a := sz) (b := sz * 60) sz1; omega) fun o ho => ⟨t_test (x_op (x_var rfl) (x_var rfl) r_notInL), fun _ => x_var rfl⟩).to (by rw [far_eq sz1])) o_no (o_some x_int)).to (by rw [cut_take _ (by decide)]; rfl)) a_nil)) (lkd_lstI _ (by rw [List.length_take]; omega))))) (fun z => nomatch z) (fun _ => g_next ?_))
  · rintro d ⟨S, hS, rfl⟩
    rw [fk.same (srt_perm hS (List.reverse_perm _))]
  · rintro d ⟨S, hS, rfl⟩
    rw [fk.same hS]
    rfl
  · rintro d ⟨i, hi, rfl⟩
    rw [leastF_take (i := i) (n := 59) (k := 2) (by have : ((leastF sz (farL sz) i).length : Int) = 2 := hi; omega) cnt]
  dsimp only
  exact g_keep [false, true, false, false, false, false, false, false, true, false, false, false, false, false, false, false, false, false, false, true] (ht19 H0 M _ j p gs tab fin ok p36 (fun g hg => by have := g5 g hg; omega) gl)
end
end Y

set_option Elab.async false
set_option linter.all false
set_option maxRecDepth 100000
set_option maxHeartbeats 2000000
/-! Z22: law, the pair and its first bag. -/
namespace Y
open PySem PySem.Spec PyProof.Rows L2 L2H LamX
theorem g_unl2 {C : Ctx} {M : List Addr} {env : List En} {D : Ends} {te : TE} {K : PySem.W.Frag} {i j : Nat} {d e : Y.D} (h : Ev te env (Is (.lst [d, e]))) (k : Nx C M ((env.set i (.im d)).set j (.im e)) D.nx) : Go C M env (tAsg te (gUnl K 2 (gCons (gName i) (gCons (gName j) gNil)))) D := fun σ H A =>
  h C M σ H A _ fun v d0 H1 p1 A1 e1 r1 => by
    subst p1
    obtain ⟨p, vs, rfl, hn, hp, rl⟩ := r1.lst_inv
    cases rl with
    | cons r1 r2 =>
      cases r2 with
      | cons r2 r3 =>
        cases r3
        exact ⟨p, _, rfl, SqL.of hp, rfl, _, _, rfl, _, _, rfl, rfl, k _ _ ((A1.puti i r1).puti j r2)⟩
section
variable {P : Program} {w : World} {K : PySem.W.Frag} {mg : Str → Option Value} {base : Heap} {Cl CB T0 : Addr} {cl : Str → Addr} {f : Str → Addr} {fd : Str → FuncData} {dv : Value} {g0 gL gP : List Value → List Value → List Value}
theorem law_7 (L : LawC P w K mg base Cl CB T0 cl f fd dv g0 gL gP) {fl c Pt : Addr} {A : Around} {outer : List Env} {s : Shared} {H : Hp} {E : XK} (TB : TabB base mg c Pt)
    (hr : Room 8 (A.deeper (envOfC "law" (defScope s_law) s.heap.objs.size fl (.ref c)))) :
    ∃ t, PSs (lawX P w K mg base fl c A outer s H E) ((defBody s_law).drop 7) t ∧ ∀ (H0 : Hp) (M : List Addr) (D : Ends) (j : Addr) (p q : Int) (gs hs : List Int), TabS H0 Pt ((lawX P w K mg base fl c A outer s H E).env.qual ++ "<lambda>") → (∀ H', D.rt (.bl true) H') → PairOk p gs q hs → PairOk q hs p gs → p ≤ 36 → (∀ g ∈ gs, g ≤ 5000) → gs.length ≤ 50 →
      Go ⟨[], H0, [], []⟩ M [.no, .jar j, .im (.lst [bagD p gs, bagD q hs]), .no, .no, .no, .no, .im (.lst [lenD Cl p gs, lenD Cl q hs]), .no, .no, .no, .no, .no, .no, .no, .no, .no, .no, .no, .no] t D := by
  obtain ⟨t13, w13, ht13⟩ := law_13 (A := A) (outer := outer) (s := s) (H := H) (E := E) (fl := fl) L TB hr
  obtain ⟨T, dInit, dJar, dDraw, dPick, dMixed, dDiv, dGapList, dLWrong, dHas, dIsBag, dLike, dPair, mHas, mLeast, kLeast, mTimes, mParts, kParts, flt⟩ := L
  refine ⟨_, (pss_cons (ps_asg (pv 7) (pg_unl rfl (pgs_cons (pg_name (i := 19) sc_law.nd rfl (Or.inr rfl)) (pgs_cons (pg_name (i := 11) sc_law.nd rfl (Or.inl rfl)) pgs_nil))))
 (pss_cons (ps_if (PW.pt (pw_or (pt_not (pt_val (pe_call dPair.ok (hr.mono (by decide)) (by rfl) dPair.mg dPair.kp dPair.bi .nil pass0 (pa_cons (pv 19) (pa_cons (pv 11) (pa_cons (pe_ix ix_list (pv 2) pe_int (fun _ _ => rfl)) (pa_cons (pe_ix ix_list (pv 2) pe_int (fun _ _ => rfl)) pa_nil))))))) (pw_or1 (pt_not (pt_val (pe_call dPair.ok (hr.mono (by decide)) (by rfl) dPair.mg dPair.kp dPair.bi .nil pass0 (pa_cons (pv 11) (pa_cons (pv 19) (pa_cons (pe_ix ix_list (pv 2) pe_int (fun _ _ => rfl)) (pa_cons (pe_ix ix_list (pv 2) pe_int (fun _ _ => rfl)) pa_nil)))))))))) (pss_one (ps_ret pe_bl)) pss_nil)
 (pss_cons (ps_set (i := 8) sc_law.nd rfl (Or.inr rfl) (pe_ix ix_list (pv 2) pe_int (fun _ _ => rfl)))
 (pss_cons (ps_set (i := 12) sc_law.nd rfl (Or.inl rfl) (pe_op op_add (pe_callB (cr_max rfl) (by rfl) T.max (by decide +kernel) (pa_cons (pe_op op_cat (pe_lst (pa_cons pe_int pa_nil)) (pe_ix ix_tup (pv 8) pe_int (fun _ _ => rfl))) pa_nil)) (pe_op op_mul pe_int (pe_ix ix_tup (pv 8) pe_int (fun _ _ => rfl)))))
 (pss_cons (ps_setLc (i := 13) (own := [("num", 18)]) (g := gName 18) rfl sc_law.nd rfl rfl (sw_true rfl rfl rfl (by decide +kernel)) (pi_range2 (by rfl) T.range (pa_cons pe_int (pa_cons (pe_op op_add (pv 12) (pe_op op_mul pe_int (pe_ix ix_tup (pv 8) pe_int (fun _ _ => rfl)))) pa_nil))) (blkOk_by (own := [("num", 18)]) (N := n_law) (sc := defScope s_law) (by decide +kernel)) (fun _ _ _ _ _ => pg_name (i := 18) sc_law.nd rfl (Or.inl rfl)) (fun _ _ _ _ _ => (pts_one (pt_val (pe_call dHas.ok (hr.mono (by decide)) (by rfl) dHas.mg dHas.kp dHas.bi .nil pass0 (pa_cons (pv 8) (pa_cons (pv 18) pa_nil)))))) (fun _ _ _ _ _ => (pv 18)))
 (pss_cons (ps_if (PW.pt (pw_or (pt_cmpR (op_neD hr.units) (pe_lc (own := [("num", 18)]) (g := gName 18) rfl sc_law.nd (pi_range2 (by rfl) T.range (pa_cons (pe_un un_neg pe_int) (pa_cons (pv 12) pa_nil))) (blkOk_by (own := [("num", 18)]) (N := n_law) (sc := defScope s_law) (by decide +kernel)) (fun _ _ _ _ _ => pg_name (i := 18) sc_law.nd rfl (Or.inl rfl)) (fun _ _ _ _ _ => (pts_one (pt_cmpR op_ne (pe_cmpR (op_ownIn mHas.ok (hr.mono (by decide)) mHas.me.1 mHas.me.2 mHas.bi pass0) (pv 18) (pv 19) rfl) (pe_call dHas.ok (hr.mono (by decide)) (by rfl) dHas.mg dHas.kp dHas.bi .nil pass0 (pa_cons (pv 8) (pa_cons (pv 18) pa_nil))) (nomark _)))) (fun _ _ _ _ _ => (pv 18))) (pe_lst pa_nil) (nomark _)) (pw_or1 (pt_cmpR op_ne (pe_cmpR (op_ownIn mHas.ok (hr.mono (by decide)) mHas.me.1 mHas.me.2 mHas.bi pass0) pe_int (pv 19) rfl) (pe_call dHas.ok (hr.mono (by decide)) (by rfl) dHas.mg dHas.kp dHas.bi .nil pass0 (pa_cons (pv 8) (pa_cons pe_int pa_nil))) (nomark _))))) (pss_one (ps_ret pe_bl)) pss_nil)
 w13)))))), ?_⟩
  intro H0 M D j p q gs hs tab fin ok ok2 p36 g5 gl
  have p1 := ok.a.p1
  refine g_seq (g_unl2 (x_var rfl) ?_)
  dsimp only
  refine g_seq (g_ifb (b := false) (t_or (a := false) (b := false) (t_not (a := true) (t_B (x_call (α := TwoA) (a := ⟨p, gs, q, hs⟩) (a_cons (x_var rfl) (a_cons (x_var rfl) (a_cons (x_op (x_var rfl) x_int (r_ixL rfl)) (a_cons (x_op (x_var rfl) x_int (r_ixL rfl)) a_nil)))) ok))) fun _ =>
    t_not (a := true) (t_B (x_call (α := TwoA) (a := ⟨q, hs, p, gs⟩) (a_cons (x_var rfl) (a_cons (x_var rfl) (a_cons (x_op (x_var rfl) x_int (r_ixL rfl)) (a_cons (x_op (x_var rfl) x_int (r_ixL rfl)) a_nil)))) ok2))) (fun z => nomatch z) (fun _ => g_next ?_))
  dsimp only
  refine g_seq (g_set (d := bagD p gs) (x_op (x_var rfl) x_int (r_ixL rfl)) ?_)
  dsimp only
  -- top
  refine g_seq (g_asg (P := fun d => ∃ m, m ∈ 0 :: gs ∧ (∀ y ∈ 0 :: gs, y ≤ m) ∧ d = .int (m + 3 * p)) (e_op (P := fun d => ∃ m, m ∈ 0 :: gs ∧ (∀ y ∈ 0 :: gs, y ≤ m) ∧ d = .int m) (R := Is (.int (3 * p)))
    (x_cb (a_cons (x_op (x := .lst [.int 0]) (y := .lst (gs.map Y.D.int)) (S := Is (.lst ((0 :: gs).map Y.D.int))) (x_lst (a_cons x_int a_nil) (by show 1 ≤ 16000000; decide)) (x_op (x_var rfl) x_int (r_ixT rfl)) (r_cat (a := [.int 0]) (b := gs.map Y.D.int) (by rw [List.length_map, List.length_cons, List.length_nil]; omega))) a_nil) (c_max (ns := 0 :: gs) (fun z => nomatch z)))
    (x_op x_int (x_op (x_var rfl) x_int (r_ixT rfl)) (r_Ii (.inl ⟨by omega, by omega⟩))) ?_) ?_)
  · rintro x y ⟨m, m1, m2, rfl⟩ rfl
    exact r_I0i.imp fun d hd => ⟨m, m1, m2, hd⟩
  rintro _ ⟨m, m1, m2, rfl⟩
  dsimp only
  have mb : 0 ≤ m ∧ m ≤ 5000 := by
    refine ⟨m2 0 List.mem_cons_self, ?_⟩
    rcases List.mem_cons.mp m1 with z | z
    · omega
    · exact g5 m z
  have gm : ∀ g ∈ gs, g ≤ m := fun g hg => m2 g (List.mem_cons_of_mem _ hg)
  -- all_
  have many := leastF_many (gs := gs) p1 (ok.a.srt.imp fun z => by omega) (fun g hg => ⟨(ok.a.pos g hg).1, (ok.a.clo g hg).1, gm g hg⟩) mb.1 ((m + 3 * p + 40 * p - 1).toNat / p.toNat)
  have lo : (m / p).toNat + 42 ≤ (m + 3 * p + 40 * p - 1).toNat / p.toNat := by
    refine (Nat.le_div_iff_mul_le (by omega)).mpr ?_
    have q0 : 0 ≤ m / p := Int.ediv_nonneg mb.1 (by omega)
    have q1 : m / p * p ≤ m := Int.ediv_mul_le m (by omega)
    have e2 : ((((m / p).toNat + 42) * p.toNat : Nat) : Int) = m / p * p + 42 * p := by
      rw [Int.natCast_mul, Int.natCast_add, show (((m / p).toNat : Nat) : Int) = m / p by omega, show ((p.toNat : Nat) : Int) = p by omega, Int.add_mul]
      rfl
    omega
  have alen : (leastF p gs ((m + 3 * p + 40 * p - 1).toNat / p.toNat)).length ≤ 100000 := by
    rw [← all_eq p1]
    refine Nat.le_trans (List.length_filter_le ..) ?_
    rw [rng_len]
    omega
  refine g_seq (g_set (d := .lst ((leastF p gs ((m + 3 * p + 40 * p - 1).toNat / p.toNat)).map Y.D.int)) ((x_lcI (ns := rng 1 1 (m + 3 * p + 40 * p - 1).toNat) (fun n => hasB p gs n) Y.D.int (i_rng2 (a_cons x_int (a_cons (x_op (x_var rfl) (x_op x_int (x_op (x_var rfl) x_int (r_ixT rfl)) (r_Ii (.inl ⟨by omega, by omega⟩))) r_I0i) a_nil)) (by omega) (by omega)) (fun u hu => by cases hu; rfl) (by rw [rng_len]; omega) fun o ho => ⟨t_B (x_call (α := HasA) (a := ⟨p, gs, o⟩) (a_cons (x_var rfl) (a_cons (x_var rfl) a_nil)) p1), fun _ => x_var rfl⟩).to (by rw [all_eq p1])) ?_)
  dsimp only
  -- in
  have none : (rng (-3) 1 (m + 3 * p - (-3)).toNat).filter (fun o => !decide (hasL p gs o = hasB p gs o)) = [] := by
    refine List.filter_eq_nil_iff.mpr fun o _ => ?_
    rw [hasLB p1]
    simp
  refine g_seq (g_ifb (b := false) (t_or (a := false) (b := false) (t_test ((x_op ((x_lcI (ns := rng (-3) 1 (m + 3 * p - (-3)).toNat) (fun o => !decide (hasL p gs o = hasB p gs o)) Y.D.int (i_rng2 (a_cons (e_un (P := Is (.int 3)) x_int fun x hx => by rw [hx]; exact u_neg) (a_cons (x_var rfl) a_nil)) (by omega) (by omega)) (fun u hu => by cases hu; rfl) (by rw [rng_len]; omega) fun o ho => ⟨t_test (x_op (x_op (x_var rfl) (x_var rfl) (r_ownIn (α := HasA) (a := ⟨p, gs, o⟩) rfl p1 fun d hd => ⟨_, hd, rfl⟩)) (x_call (α := HasA) (a := ⟨p, gs, o⟩) (a_cons (x_var rfl) (a_cons (x_var rfl) a_nil)) p1) r_neB), fun _ => x_var rfl⟩).to (by rw [none])) (x_lst a_nil) (r_neLI (ns := []) (ms := []))).to rfl)) fun _ =>
    t_test ((x_op (x_op x_int (x_var rfl) (r_ownIn (α := HasA) (a := ⟨p, gs, 999999999⟩) rfl p1 fun d hd => ⟨_, hd, rfl⟩)) (x_call (α := HasA) (a := ⟨p, gs, 999999999⟩) (a_cons (x_var rfl) (a_cons x_int a_nil)) p1) r_neB).to ?_)) (fun z => nomatch z) (fun _ => g_next ?_))
  · show Y.D.bl (!decide (hasL p gs 999999999 = hasB p gs 999999999)) = _
    rw [hasLB p1, decide_eq_true rfl]
    rfl
  dsimp only
  exact g_keep [false, true, false, false, false, false, false, false, true, false, false, false, true, true, false, false, false, false, false, true] (ht13 H0 M _ j p (m + 3 * p) gs _ tab fin ok.a p36 g5 gl (fun g hg => by have := gm g hg; omega) (by omega) (by omega) ⟨_, rfl⟩ (by omega) alen)
end
end Y

set_option Elab.async false
set_option linter.all false
set_option maxHeartbeats 4000000
/-! M4: plain mathematics of the first part of law. -/
namespace Y
open PySem L2
theorem gapS_mono {s t : Int} {n m : Nat} {L : List Int} (h : GapS s t n L) (e : n ≤ m) : GapS s t m L := by
  obtain ⟨a, b, big, c, d⟩ := h
  exact ⟨a, b, big, by omega, d⟩
theorem mul_sixty {s : Int} (s1 : 1 ≤ s) (s2 : s ≤ 12) : s * (60 / s) ≤ 60 ∧ 1 ≤ 60 / s + 6 ∧ 60 / s + 6 ≤ 66 := by
  refine ⟨Int.mul_ediv_self_le (by omega), ?_, ?_⟩
  · have : 0 ≤ 60 / s := Int.ediv_nonneg (by decide) (by omega)
    omega
  · have : 60 / s ≤ 60 := Int.ediv_le_self _ (by decide)
    omega
theorem gapS_bound {s : Int} {L : List Int} (s1 : 1 ≤ s) (s2 : s ≤ 12) (h : GapS s (60 / s + 6) 3 L) : ∀ g ∈ L, 1 ≤ g ∧ g ≤ 132 := fun g hg => by
  obtain ⟨k, k1, k2, rfl⟩ := h.2.1 g hg
  obtain ⟨a, b, c⟩ := mul_sixty s1 s2
  have e : s * k ≤ s * (60 / s + 6) := Int.mul_le_mul_of_nonneg_left k2 (by omega)
  rw [Int.mul_add] at e
  have := mul_pos1 s1 k1
  omega
theorem gapS_len {s : Int} {L : List Int} (s1 : 1 ≤ s) (s2 : s ≤ 12) (nd : L.Nodup) (h : GapS s (60 / s + 6) 3 L) : L.length ≤ 36 := by
  obtain ⟨big, hb, hg⟩ := h.2.2
  obtain ⟨_, _, c⟩ := mul_sixty s1 s2
  have q := nodup_len nd (L := big ++ mults s 33) fun g h => by
    rcases hg g h with z | ⟨k, k1, k2, rfl⟩
    · exact List.mem_append_left _ z
    · exact List.mem_append_right _ ((mem_mults s1).mpr ⟨mul_pos1 s1 k1, Int.mul_emod_right .., Int.mul_le_mul_of_nonneg_left (by omega) (by omega)⟩)
  have e : (mults s 33).length = 33 := by rw [mults_rng, rng_len]
  rw [List.length_append, e] at q
  omega
theorem gapS_ok {s : Int} {L : List Int} (s1 : 1 ≤ s) (s2 : s ≤ 12) (srt : L.Pairwise (· < ·)) (h : GapS s (60 / s + 6) 3 L) : LenOk s L :=
  ⟨s1, by omega, srt, h.1, fun g hg => by have := gapS_bound s1 s2 h g hg; omega, by have := gapS_len s1 s2 (srt.imp fun z => by omega) h; omega⟩
theorem gapS_small {s x : Int} {L big : List Int} (s1 : 1 ≤ s) (hg : ∀ g ∈ L, g ∈ big ∨ ∃ k, 1 ≤ k ∧ 2 * k ≤ 60 / s + 6 ∧ g = s * k) (hx : x ∈ L) : x ∈ big ∨ (1 ≤ x ∧ 2 * x ≤ 60 + 6 * s) := by
  rcases hg x hx with z | ⟨k, k1, k2, rfl⟩
  · exact .inl z
  · refine .inr ⟨mul_pos1 s1 k1, ?_⟩
    have a : s * (60 / s) ≤ 60 := Int.mul_ediv_self_le (by omega)
    have e : s * (2 * k) ≤ s * (60 / s + 6) := Int.mul_le_mul_of_nonneg_left k2 (by omega)
    rw [Int.mul_add] at e
    have e2 : s * (2 * k) = 2 * (s * k) := by rw [← Int.mul_assoc, Int.mul_comm s 2, Int.mul_assoc]
    omega
theorem pair_un {s t : Int} {L R : List Int} (s1 : 1 ≤ s) (s2 : s ≤ 12) (t1 : 1 ≤ t) (t2 : t ≤ 12) (h : GapS s (60 / s + 6) 3 L) (h' : GapS t (60 / t + 6) 3 R) : ∃ U : List Int, (∀ k, k ∈ bothL s t L R → k ∈ U) ∧ U.length < 64 := by
  obtain ⟨b1, c1, d1⟩ := h.2.2
  obtain ⟨b2, c2, d2⟩ := h'.2.2
  have lp := lcm_pos s1 t1 (by omega) (by omega)
  have hd : ∀ x : Int, x % (Nat.lcm s.natAbs t.natAbs : Nat) = 0 ↔ x % s = 0 ∧ x % t = 0 := fun x => lcm_dvd s1 t1
  refine ⟨(b1 ++ b2) ++ mults (Nat.lcm s.natAbs t.natAbs : Nat) 33, fun x hx => ?_, ?_⟩
  · unfold bothL at hx
    obtain ⟨h1, h2⟩ := List.mem_filter.mp hx
    have h2 := of_decide_eq_true h2
    have small : ∀ z : Int, z = s ∨ z = t → 1 ≤ x ∧ 2 * x ≤ 60 + 6 * z → x ∈ mults (Nat.lcm s.natAbs t.natAbs : Nat) 33 := fun z hz ⟨x1, x2⟩ => by
      refine (mem_mults lp.1).mpr ⟨x1, h2, ?_⟩
      by_cases e : s = 1 ∧ t = 1
      · obtain ⟨rfl, rfl⟩ := e
        have : x ≤ 33 := by omega
        have e2 : ((Nat.lcm (1 : Int).natAbs (1 : Int).natAbs : Nat) : Int) = 1 := by decide
        rw [e2]
        omega
      · have l2 : 2 ≤ ((Nat.lcm s.natAbs t.natAbs : Nat) : Int) := by
          have a1 := Nat.le_of_dvd (by have := lp.1; omega : 0 < Nat.lcm s.natAbs t.natAbs) (Nat.dvd_lcm_left s.natAbs t.natAbs)
          have a2 := Nat.le_of_dvd (by have := lp.1; omega : 0 < Nat.lcm s.natAbs t.natAbs) (Nat.dvd_lcm_right s.natAbs t.natAbs)
          omega
        have : x ≤ 66 := by omega
        have e3 : 2 * ((33 : Nat) : Int) ≤ ((Nat.lcm s.natAbs t.natAbs : Nat) : Int) * ((33 : Nat) : Int) := Int.mul_le_mul_of_nonneg_right l2 (by decide)
        omega
    rcases List.mem_append.mp h1 with z | z
    · rcases gapS_small s1 d1 z with y | y
      · exact List.mem_append_left _ (List.mem_append_left _ y)
      · exact List.mem_append_right _ (small s (.inl rfl) y)
    · rcases gapS_small t1 d2 z with y | y
      · exact List.mem_append_left _ (List.mem_append_right _ y)
      · exact List.mem_append_right _ (small t (.inr rfl) y)
  · rw [List.length_append, List.length_append, mults_rng, rng_len]
    omega
theorem both_comm_un {s t : Int} {L R : List Int} (h : ∃ U : List Int, (∀ k, k ∈ bothL s t L R → k ∈ U) ∧ U.length < 64) : ∃ U : List Int, (∀ k, k ∈ bothL t s R L → k ∈ U) ∧ U.length < 64 := by
  obtain ⟨U, a, b⟩ := h
  refine ⟨U, fun k hk => a k ?_, b⟩
  unfold bothL at hk ⊢
  obtain ⟨h1, h2⟩ := List.mem_filter.mp hk
  refine List.mem_filter.mpr ⟨?_, by rw [Nat.lcm_comm]; exact h2⟩
  rcases List.mem_append.mp h1 with z | z
  · exact List.mem_append_right _ z
  · exact List.mem_append_left _ z
theorem sub_un {s t : Int} {L R : List Int} (a : LenOk s L) (h : ∀ x ∈ R, x ∈ L) : ∃ U : List Int, (∀ k, k ∈ bothL s t L R → k ∈ U) ∧ U.length < 64 :=
  ⟨L, fun k hk => by
    unfold bothL at hk
    rcases List.mem_append.mp (List.mem_filter.mp hk).1 with z | z
    · exact z
    · exact h k z, a.len⟩
/-- gaps up to each of which all is told -/
def goodTo (q : Int) (X : List Int) (n : Int) : Prop := Clo q (X.filter fun o => decide (o ≤ n))
theorem good_clo {q : Int} {X Y : List Int} (q1 : 1 ≤ q) (hY : ∀ n, n ∈ Y ↔ n ∈ X ∧ goodTo q X n) : Clo q Y := fun g hg => by
  obtain ⟨gX, gg⟩ := (hY g).mp hg
  have mem : ∀ {n x : Int}, x ∈ X.filter (fun o => decide (o ≤ n)) ↔ x ∈ X ∧ x ≤ n := fun {n x} => by rw [List.mem_filter, decide_eq_true_iff]
  have low : ∀ {h k : Int}, h % q = 0 → k < h / q → q * k ≤ h := fun {h k} e hk => by
    have := Int.mul_le_mul_of_nonneg_left (Int.le_of_lt hk) (by omega : 0 ≤ q)
    rw [Int.mul_ediv_cancel_of_emod_eq_zero e] at this
    exact this
  obtain ⟨e1, e2⟩ := gg g (mem.mpr ⟨gX, Int.le_refl _⟩)
  refine ⟨e1, fun k k1 k2 k3 => ?_⟩
  obtain ⟨kX, kg⟩ := mem.mp (e2 k k1 k2 k3)
  refine (hY _).mpr ⟨kX, fun h hh => ?_⟩
  obtain ⟨hX, hk⟩ := mem.mp hh
  obtain ⟨f1, f2⟩ := gg h (mem.mpr ⟨hX, Int.le_trans hk kg⟩)
  refine ⟨f1, fun j j1 j2 j3 => ?_⟩
  exact mem.mpr ⟨(mem.mp (f2 j j1 j2 j3)).1, Int.le_trans (low f1 j2) hk⟩
theorem good_ok {s q : Int} {L Y : List Int} (a : LenOk s L) (q1 : 1 ≤ q) (q2 : q ≤ 36) (srt : Y.Pairwise (· < ·)) (sub : ∀ x ∈ Y, x ∈ L) (clo : Clo q Y) : LenOk q Y :=
  ⟨q1, by omega, srt, clo, fun g hg => a.pos g (sub g hg), by have := nodup_len (srt.imp fun z => by omega) (L := L) sub; have := a.len; omega⟩
theorem pairs_ok {s t : Int} {L R : List Int} (a : LenOk s L) (b : LenOk t R) (s2 : s ≤ 36) (t2 : t ≤ 36) (un : ∃ U : List Int, (∀ k, k ∈ bothL s t L R → k ∈ U) ∧ U.length < 64) : PairOk s L t R ∧ PairOk t R s L :=
  ⟨⟨a, b, by omega, by omega, un⟩, ⟨b, a, by omega, by omega, both_comm_un un⟩⟩
end Y

set_option Elab.async false
set_option linter.all false
set_option maxRecDepth 100000
set_option maxHeartbeats 2000000
/-! Z23: law, the two made. -/
namespace Y
open PySem PySem.Spec PyProof.Rows L2 L2H LamX
section
variable {P : Program} {w : World} {K : PySem.W.Frag} {mg : Str → Option Value} {base : Heap} {Cl CB T0 : Addr} {cl : Str → Addr} {f : Str → Addr} {fd : Str → FuncData} {dv : Value} {g0 gL gP : List Value → List Value → List Value}
theorem law_5 (L : LawC P w K mg base Cl CB T0 cl f fd dv g0 gL gP) {fl c Pt : Addr} {A : Around} {outer : List Env} {s : Shared} {H : Hp} {E : XK} (TB : TabB base mg c Pt)
    (hr : Room 8 (A.deeper (envOfC "law" (defScope s_law) s.heap.objs.size fl (.ref c)))) :
    ∃ t, PSs (lawX P w K mg base fl c A outer s H E) ((defBody s_law).drop 5) t ∧ ∀ (H0 : Hp) (M : List Addr) (D : Ends) (j : Addr) (p q : Int) (gs hs : List Int), TabS H0 Pt ((lawX P w K mg base fl c A outer s H E).env.qual ++ "<lambda>") → (∀ H', D.rt (.bl true) H') → PairOk p gs q hs → PairOk q hs p gs → p ≤ 36 → (∀ g ∈ gs, g ≤ 5000) → gs.length ≤ 50 →
      Go ⟨[], H0, [], []⟩ M [.no, .jar j, .im (.lst [bagD p gs, bagD q hs]), .no, .no, .no, .no, .no, .no, .no, .no, .no, .no, .no, .no, .no, .no, .no, .no, .no] t D := by
  obtain ⟨t7, w7, ht7⟩ := law_7 (A := A) (outer := outer) (s := s) (H := H) (E := E) (fl := fl) L TB hr
  obtain ⟨T, dInit, dJar, dDraw, dPick, dMixed, dDiv, dGapList, dLWrong, dHas, dIsBag, dLike, dPair, mHas, mLeast, kLeast, mTimes, mParts, kParts, flt⟩ := L
  refine ⟨_, (pss_cons (ps_set (i := 7) sc_law.nd rfl (Or.inl rfl) (pe_lst pa_nil))
 (pss_cons (ps_for PassesOwn.never rfl (pi_list (pv 2)) (pg_name (i := 8) sc_law.nd rfl (Or.inr rfl))
 (pss_cons (ps_set (i := 9) sc_law.nd rfl (Or.inr rfl) (pe_call dMixed.ok (hr.mono (by decide)) (by rfl) dMixed.mg dMixed.kp dMixed.bi .nil pass0 (pa_cons (pv 1) (pa_cons (pe_op op_cat (pe_ix ix_tup (pv 8) pe_int (fun _ _ => rfl)) (pe_lc (own := [("num", 18)]) (g := gName 18) rfl sc_law.nd (pi_list (pe_ix ix_tup (pv 8) pe_int (fun _ _ => rfl))) (blkOk_by (own := [("num", 18)]) (N := n_law) (sc := defScope s_law) (by decide +kernel)) (fun _ _ _ _ _ => pg_name (i := 18) sc_law.nd rfl (Or.inl rfl)) (fun _ _ _ _ _ => (pts_one (pt_cmpR op_eq (pe_call dDraw.ok (hr.mono (by decide)) (by rfl) dDraw.mg dDraw.kp dDraw.bi .nil pass0 (pa_cons (pv 1) (pa_cons pe_int pa_nil))) pe_int (nomark _)))) (fun _ _ _ _ _ => (pv 18)))) pa_nil))))
 (pss_cons (ps_set (i := 10) sc_law.nd rfl (Or.inl rfl) (pe_ifExp (PW.pt (pw_or (pt_cmpR (op_neD hr.units) (pv 9) (pe_lst pa_nil) (nomark _)) (pw_or1 (pt_cmpR op_eq (pe_call dDraw.ok (hr.mono (by decide)) (by rfl) dDraw.mg dDraw.kp dDraw.bi .nil pass0 (pa_cons (pv 1) (pa_cons pe_int pa_nil))) pe_int (nomark _))))) (pe_make dInit.mks dInit.ok (hr.mono (by decide)) (by rfl) T.Lengths dInit.bi .nil passN (pa_cons (pe_ix ix_tup (pv 8) pe_int (fun _ _ => rfl)) (pa_cons (pe_callTy call_list_of (by rfl) T.list (by decide +kernel) (pa_cons (pv 9) pa_nil)) pa_nil))) (pe_make dInit.mks dInit.ok (hr.mono (by decide)) (by rfl) T.Lengths dInit.b1 dInit.v1 passN (pa_cons (pe_ix ix_tup (pv 8) pe_int (fun _ _ => rfl)) pa_nil))))
 (pss_cons (ps_if (PW.pt (pw_or (pt_not (pt_val (pe_call dIsBag.ok (hr.mono (by decide)) (by rfl) dIsBag.mg dIsBag.kp dIsBag.bi .nil pass0 (pa_cons (pv 10) (pa_cons (pv 8) pa_nil))))) (pw_or1 (pt_not (pt_val (pe_call dIsBag.ok (hr.mono (by decide)) (by rfl) dIsBag.mg dIsBag.kp dIsBag.bi .nil pass0 (pa_cons (pe_makeK0 dInit.mks dInit.ok (hr.mono (by decide)) (by rfl) T.Lengths dInit.kb passN (pk_cons (pe_ix ix_tup (pv 8) pe_int (fun _ _ => rfl)) (pk_cons (pe_callTy call_tuple_of (by rfl) T.tuple (by decide +kernel) (pa_cons (pv 9) pa_nil)) pk_nil))) (pa_cons (pv 8) pa_nil)))))))) (pss_one (ps_ret pe_bl)) pss_nil)
 (pss_one (ps_expr (pe_bm PySem.F.plainAttrs_list PySem.F.slot_list_append PySem.F.type_list_append mt_append (pv 7) (pa_cons (pv 10) pa_nil))))))))
 w7)), ?_⟩
  intro H0 M D j p q gs hs tab fin ok ok2 p36 g5 gl
  refine g_seq (g_asgN n_nil fun pm ds e np => ?_)
  subst e
  dsimp only
  refine g_seq (g_for (fun i env => ∃ e8 e9 e10 : En, env = [.no, .jar j, .im (.lst [bagD p gs, bagD q hs]), .no, .no, .no, .no, .mu pm ([lenD Cl p gs, lenD Cl q hs].take i), e8, e9, e10, .no, .no, .no, .no, .no, .no, .no, .no, .no] ∧ e8.addr = none ∧ e9.addr = none ∧ e10.addr = none) (i_list (x_var rfl)) ⟨.no, .no, .no, rfl, rfl, rfl, rfl⟩ ?_ ?_)
  · rintro i d env hi ⟨e8, e9, e10, rfl, h8, h9, h10⟩ C' D' dn' nx' _ _
    obtain ⟨p', G, hok, hd, ht, hil⟩ : ∃ (p' : Int) (G : List Int), LenOk p' G ∧ d = bagD p' G ∧ [lenD Cl p gs, lenD Cl q hs].take (i + 1) = [lenD Cl p gs, lenD Cl q hs].take i ++ [lenD Cl p' G] ∧ i < 2 := by
      match i, hi with
      | 0, hi => exact ⟨p, gs, ok.a, (Option.some.inj hi).symm, rfl, by decide⟩
      | 1, hi => exact ⟨q, hs, ok.b, (Option.some.inj hi).symm, rfl, by decide⟩
    subst hd
    have p1 := hok.p1; have p2 := hok.p2; have gln := hok.len
    show Go C' _ [.no, .jar j, .im (.lst [bagD p gs, bagD q hs]), .no, .no, .no, .no, .mu pm ([lenD Cl p gs, lenD Cl q hs].take i), .im (bagD p' G), e9, e10, .no, .no, .no, .no, .no, .no, .no, .no, .no] _ D'
    -- given
    refine g_seq (g_asg (P := fun d => ∃ gv : List Int, (∀ k, k ∈ gv ↔ k ∈ G) ∧ gv.length ≤ 200 ∧ d = .lst (gv.map Y.D.int)) (e_jar (T := fun ds => ∃ l : List Int, (∀ x ∈ l, x ∈ G) ∧ l.length ≤ 64 ∧ ds = [.lst ((G ++ l).map Y.D.int)]) rfl (a_consP (T := Is []) (e_op (P := Is (.lst (G.map Y.D.int))) (R := fun d => ∃ l : List Int, (∀ x ∈ l, x ∈ G) ∧ l.length ≤ 64 ∧ d = .lst (l.map Y.D.int)) (S := fun d => ∃ l : List Int, (∀ x ∈ l, x ∈ G) ∧ l.length ≤ 64 ∧ d = .lst ((G ++ l).map Y.D.int)) (x_op (x_var rfl) x_int (r_ixT rfl))
      ((e_lc (xs := G.map Y.D.int) (fun i acc => ∃ l : List Int, (∀ x ∈ l, x ∈ G) ∧ l.length ≤ i ∧ acc = l.map Y.D.int) (i_list (x_op (x_var rfl) x_int (r_ixT rfl))) (fun u hu => by cases hu; rfl) (by rw [List.length_map]; omega) ⟨[], (fun x hx => nomatch hx), Nat.le_refl _, rfl⟩ (fun i d acc hi ⟨l, l1, l2, l3⟩ => (t_testP (T := fun _ => True) (e_op (P := fun d => ∃ k : Int, 0 ≤ k ∧ k < 3 ∧ d = .int k) (R := Is (.int 0)) (x_jar (α := Int) (a := 3) rfl (a_cons x_int a_nil) ⟨by decide, by decide⟩) x_int ?_)).imp fun b _ => ⟨fun _ => (x_var rfl).imp ?_, fun _ => ⟨l, l1, by omega, l3⟩⟩)).imp ?_) ?_) a_nil ?_) ?_) ?_)
    · rintro x y ⟨k, _, _, rfl⟩ rfl
      exact r_eqI.imp fun d hd => ⟨_, trivial, hd⟩
    · rintro d' rfl
      obtain ⟨g, hg, rfl⟩ := get_ints hi
      refine ⟨l ++ [g], fun x hx => ?_, ?_, ?_⟩
      · rcases List.mem_append.mp hx with z | z
        · exact l1 x z
        · rw [List.mem_singleton.mp z]
          exact List.mem_of_getElem? hg
      · rw [List.length_append, List.length_singleton]
        omega
      · rw [l3, List.map_append]
        rfl
    · rintro d' ⟨acc, rfl, l, l1, l2, rfl⟩
      exact ⟨l, l1, by rw [List.length_map] at l2; omega, rfl⟩
    · rintro x y rfl ⟨l, l1, l2, rfl⟩
      exact (r_cat (by rw [List.length_map, List.length_map]; omega)).imp fun d' hd => ⟨l, l1, l2, by rw [hd, List.map_append]⟩
    · rintro d' ds ⟨l, l1, l2, rfl⟩ rfl
      exact ⟨l, l1, l2, rfl⟩
    · rintro ds ⟨l, l1, l2, rfl⟩
      refine ⟨G ++ l, rfl, by show (G ++ l).length < 1000; rw [List.length_append]; omega, fun d' ⟨gv, hg, hd⟩ => ⟨gv, fun k => ⟨fun hk => ?_, fun hk => hg.mem_iff.mpr (List.mem_append_left _ hk)⟩, ?_, hd⟩⟩
      · rcases List.mem_append.mp (hg.mem_iff.mp hk) with z | z
        · exact z
        · exact l1 k z
      · rw [hg.length_eq, List.length_append]
        omega
    rintro _ ⟨gv, hg, gvl, rfl⟩
    dsimp only
    have gS : Srt G gv := ⟨hok.srt, fun k => (hg k).symm⟩
    have iok : ∀ k : GK, (match k with | .dflt _ => False | _ => True) → InitA.Ok K ⟨p', gv, k⟩ := fun k hk => by
      refine ⟨p1, by show p' < 1000000000; omega, fun g h => by have := hok.pos g ((hg g).mp h); omega, by show gv.length ≤ 1000; omega, ⟨G, fun k hk => (hg k).mp hk, gln⟩, ?_⟩
      cases k with
      | lst => trivial
      | tup => trivial
      | dflt T => exact hk.elim
    have good := good_of_clo (xs := gv) p1 (hok.clo.ext hg)
    -- told
    refine g_seq (g_asg (P := Is (lenD Cl p' G)) (e_if (T := fun b => b = false → G = []) (t_orP (P1 := Is (!decide (gv = []))) (P2 := fun _ => True) (t_test (x_op (x_var rfl) (x_lst a_nil) (r_neLI (ns := gv) (ms := [])))) (fun _ => t_testP (e_op (P := fun d => ∃ k : Int, 0 ≤ k ∧ k < 2 ∧ d = .int k) (R := Is (.int 0)) (x_jar (α := Int) (a := 2) rfl (a_cons x_int a_nil) ⟨by decide, by decide⟩) x_int ?_)) ?_ ?_)
      (fun _ => (x_make (a := ⟨p', gv, .lst⟩) (a_cons (x_op (x_var rfl) x_int (r_ixT rfl)) (a_cons (x_cb (a_cons (x_var rfl) a_nil) c_list) a_nil)) (iok _ trivial) good).imp ?_)
      (fun e => (x_make1 (p := p') (T0 := T0) (a_cons (x_op (x_var rfl) x_int (r_ixT rfl)) a_nil) ⟨p1, by show p' < 1000000000; omega, (fun g h => nomatch h), Nat.zero_le _, ⟨[], (fun k hk => nomatch hk), by decide⟩, rfl, dInit.t0⟩).imp ?_)) ?_)
    · rintro x y ⟨k, _, _, rfl⟩ rfl
      exact r_eqI.imp fun d hd => ⟨_, trivial, hd⟩
    · exact fun _ z => nomatch z
    · intro b h1 _ _
      have hgv : gv = [] := by
        have : (!decide (gv = [])) = false := h1.symm
        simpa using this
      rw [hgv] at hg
      exact List.eq_nil_iff_forall_not_mem.mpr fun k hk => nomatch (hg k).mpr hk
    · rintro d' ⟨S, hS, rfl⟩
      rw [hS.uniq gS]
    · rintro d' rfl
      rw [e rfl]
    rintro _ rfl
    dsimp only
    refine g_seq (g_ifb (b := false) (t_or (a := false) (b := false) (t_not (a := true) (t_B (x_call (α := LenA) (a := ⟨p', G⟩) (a_cons (x_var rfl) (a_cons (x_var rfl) a_nil)) hok))) fun _ =>
      t_not (a := true) (t_B (x_call (α := LenA) (a := ⟨p', G⟩) (a_cons ((x_makeK (a := ⟨p', gv, .tup⟩) (a_cons (x_op (x_var rfl) x_int (r_ixT rfl)) (a_cons (x_cb (a_cons (x_var rfl) a_nil) c_tuple) a_nil)) (iok _ trivial) good (fun _ _ => rfl)).imp ?_) (a_cons (x_var rfl) a_nil)) hok))) (fun z => nomatch z) (fun _ => g_next ?_))
    · rintro d' ⟨S, hS, rfl⟩
      rw [hS.uniq gS]
    dsimp only
    refine g_app rfl (by have := List.length_take_le i [lenD Cl p gs, lenD Cl q hs]; have : [lenD Cl p gs, lenD Cl q hs].length = 2 := rfl; omega) (x_var rfl) fun d' hd => ?_
    rw [hd]
    refine nx' _ ⟨.im (bagD p' G), .im (.lst (gv.map Y.D.int)), .im (lenD Cl p' G), ?_, rfl, rfl, rfl⟩
    rw [ht]
    rfl
  · rintro env ⟨e8, e9, e10, rfl, h8, h9, h10⟩
    refine g_freeze (i := 7) (l := [lenD Cl p gs, lenD Cl q hs]) rfl (fun z => nomatch z) fun N hN => ?_
    exact g_keep [false, true, true, false, false, false, false, true] (ht7 H0 N _ j p q gs hs tab fin ok ok2 p36 g5 gl)
end
end Y

set_option Elab.async false
set_option linter.all false
set_option maxRecDepth 100000
set_option maxHeartbeats 2000000
/-! Z24: law, the road. -/
namespace Y
open PySem PySem.Spec PyProof.Rows L2 L2H LamX
section
variable {P : Program} {w : World} {K : PySem.W.Frag} {mg : Str → Option Value} {base : Heap} {Cl CB T0 : Addr} {cl : Str → Addr} {f : Str → Addr} {fd : Str → FuncData} {dv : Value} {g0 gL gP : List Value → List Value → List Value}
/-- the scope of the comprehension that holds another -/
def sc_in : Scope := { kind := .function, names := [(".0", .local), ("num", .cell), ("_law_wrong", .globalImplicit), ("bags", .free)], isGenerator := false, isCoroutine := false }
theorem look_rel {env : Env} {x : Str} {v : NameKind} : ∀ {names : List (Str × NameKind)}, names.lookup x = some v →
    (names.map fun (n, k) => if (k == NameKind.free && env.scope.kind == .function && env.kindOf n == some .cell) then (n, NameKind.cell) else (n, k)).lookup x = some v ∨ (v = .free ∧ (names.map fun (n, k) => if (k == NameKind.free && env.scope.kind == .function && env.kindOf n == some .cell) then (n, NameKind.cell) else (n, k)).lookup x = some .cell)
  | [], h => by cases h
  | (n, k) :: r, h => by
    have ih := @look_rel env x v r
    show List.lookup x ((if (k == NameKind.free && env.scope.kind == .function && env.kindOf n == some .cell) = true then (n, NameKind.cell) else (n, k)) :: _) = _ ∨ (v = .free ∧ List.lookup x ((if (k == NameKind.free && env.scope.kind == .function && env.kindOf n == some .cell) = true then (n, NameKind.cell) else (n, k)) :: _) = _)
    cases hx : x == n with
    | true =>
      simp only [List.lookup_cons, hx] at h
      cases h
      by_cases hc : (v == NameKind.free && env.scope.kind == .function && env.kindOf n == some .cell) = true
      · rw [if_pos hc]
        simp only [List.lookup_cons, hx]
        have e : v = NameKind.free := by
          simp only [Bool.and_eq_true, beq_iff_eq] at hc
          exact hc.1.1
        exact .inr ⟨e, trivial⟩
      · rw [if_neg hc]
        simp only [List.lookup_cons, hx]
        exact .inl trivial
    | false =>
      simp only [List.lookup_cons, hx] at h
      by_cases hc : (k == NameKind.free && env.scope.kind == .function && env.kindOf n == some .cell) = true
      · rw [if_pos hc]; simp only [List.lookup_cons, hx]; exact ih h
      · rw [if_neg hc]; simp only [List.lookup_cons, hx]; exact ih h
theorem blkOk_in {N : List Str} {sc scope : Scope} {own : List (Str × Nat)} {env : Env} (b : BlkOk N sc scope own) : BlkOk N (relabel sc env) scope own :=
  ⟨b.kind, b.uniq, b.ix, fun y hy e => by
    rcases b.free y hy e with z | z
    · rcases look_rel (env := env) z with w | ⟨w, _⟩
      · exact .inl w
      · cases w
    · rcases look_rel (env := env) z with w | ⟨_, w⟩
      · exact .inr w
      · exact .inl w, b.own⟩
/-- a bag as drawn -/
structure Drawn2 (s : Int) (L : List Int) : Prop where
  s1 : 1 ≤ s
  s2 : s ≤ 12
  srt : L.Pairwise (· < ·)
  gap : GapS s (60 / s + 6) 3 L
theorem law_3 (L : LawC P w K mg base Cl CB T0 cl f fd dv g0 gL gP) {fl c Pt : Addr} {A : Around} {outer : List Env} {s : Shared} {H : Hp} {E : XK} (TB : TabB base mg c Pt)
    (hr : Room 8 (A.deeper (envOfC "law" (defScope s_law) s.heap.objs.size fl (.ref c)))) :
    ∃ t, PSs (lawX P w K mg base fl c A outer s H E) ((defBody s_law).drop 3) t ∧ ∀ (H0 : Hp) (M : List Addr) (D : Ends) (j pb : Addr) (p q : Int) (gs hs : List Int), TabS H0 Pt ((lawX P w K mg base fl c A outer s H E).env.qual ++ "<lambda>") → (∀ H', D.rt (.bl true) H') → Drawn2 p gs → Drawn2 q hs →
      Go ⟨[], H0, [], []⟩ M [.no, .jar j, .mu pb [bagD p gs, bagD q hs], .no, .no, .no, .no, .no, .no, .no, .no, .no, .no, .no, .no, .no, .no, .no, .no, .no] t D := by
  obtain ⟨t5, w5, ht5⟩ := law_5 (A := A) (outer := outer) (s := s) (H := H) (E := E) (fl := fl) L TB hr
  obtain ⟨T, dInit, dJar, dDraw, dPick, dMixed, dDiv, dGapList, dLWrong, dHas, dIsBag, dLike, dPair, mHas, mLeast, kLeast, mTimes, mParts, kParts, flt⟩ := L
  refine ⟨_, (pss_cons (ps_set (i := 5) sc_law.nd rfl (Or.inl rfl) (pe_call dDraw.ok (hr.mono (by decide)) (by rfl) dDraw.mg dDraw.kp dDraw.bi .nil pass0 (pa_cons (pv 1) (pa_cons pe_int pa_nil))))
 (pss_cons (ps_if (pt_cmpR op_lt (pv 5) pe_int (nomark _)) (pss_cons (ps_set (i := 6) sc_law.nd rfl (Or.inr rfl) (pe_op op_add pe_int (pe_call dDraw.ok (hr.mono (by decide)) (by rfl) dDraw.mg dDraw.kp dDraw.bi .nil pass0 (pa_cons (pv 1) (pa_cons pe_int pa_nil)))))
 (pss_cons (ps_asg (pe_ix ix_list (pe_lst (pa_cons (pe_ix ix_list (pv 2) pe_int (fun _ _ => rfl)) (pa_cons (pe_tup (pa_cons (pe_ix ix_tup (pe_ix ix_list (pv 2) pe_int (fun _ _ => rfl)) pe_int (fun _ _ => rfl)) (pa_cons (pe_lc (own := [("num", 18)]) (g := gName 18) rfl sc_law.nd (pi_list (pe_ix ix_tup (pe_ix ix_list (pv 2) pe_int (fun _ _ => rfl)) pe_int (fun _ _ => rfl))) (blkOk_by (own := [("num", 18)]) (N := n_law) (sc := defScope s_law) (by decide +kernel)) (fun _ _ _ _ _ => pg_name (i := 18) sc_law.nd rfl (Or.inl rfl)) (fun _ _ _ _ _ => (pts_one (pt_cmpR op_lt (pv 18) (pe_op op_mul (pe_ix (show IxR _ (rIxT K) from ix_tup) (pe_ix (show IxR _ (rIxL K) from ix_list) (pv 2) pe_int (fun _ _ => rfl)) pe_int (fun _ _ => rfl)) pe_int) (nomark _)))) (fun _ _ _ _ _ => (pv 18))) pa_nil))) (pa_cons (pe_tup (pa_cons (pe_op op_mul (pe_ix ix_tup (pe_ix ix_list (pv 2) pe_int (fun _ _ => rfl)) pe_int (fun _ _ => rfl)) (pv 6)) (pa_cons (pe_lc (own := [("num", 18)]) (g := gName 18) rfl sc_law.nd (pi_list (pe_ix ix_tup (pe_ix ix_list (pv 2) pe_int (fun _ _ => rfl)) pe_int (fun _ _ => rfl))) (blkOk_by (own := [("num", 18)]) (N := n_law) (sc := defScope s_law) (by decide +kernel)) (fun _ _ _ _ _ => pg_name (i := 18) sc_law.nd rfl (Or.inl rfl)) (fun _ _ _ _ _ => (pts_one (pt_cmpR op_eq (pe_op op_mod (pe_callTy call_int1 (by rfl) T.int (by decide +kernel) (pa_cons (pv 18) pa_nil)) (pe_op op_mul (pe_ix (show IxR _ (rIxT K) from ix_tup) (pe_ix (show IxR _ (rIxL K) from ix_list) (pv 2) pe_int (fun _ _ => rfl)) pe_int (fun _ _ => rfl)) (pv 6))) pe_int (nomark _)))) (fun _ _ _ _ _ => (pv 18))) pa_nil))) pa_nil)))) (pv 5) (fun _ _ => rfl)) (pg_sub (pv 2) pe_int set_list))
 (pss_one (ps_asg (pe_tup (pa_cons (pe_ix ix_tup (pe_ix ix_list (pv 2) pe_int (fun _ _ => rfl)) pe_int (fun _ _ => rfl)) (pa_cons (pe_lc (own := [("num", 18)]) (g := gName 18) rfl sc_law.nd (pi_list (pe_ix ix_tup (pe_ix ix_list (pv 2) pe_int (fun _ _ => rfl)) pe_int (fun _ _ => rfl))) (blkOk_by (own := [("num", 18)]) (N := n_law) (sc := defScope s_law) (by decide +kernel)) (fun _ _ _ _ _ => pg_name (i := 18) sc_law.nd rfl (Or.inr rfl)) (fun _ _ _ _ _ => (pts_one (pt_cmpR op_isN (pe_call dLWrong.ok (hr.mono (by decide)) (by rfl) dLWrong.mg dLWrong.kp dLWrong.bi .nil pass0 (pa_cons (pe_ix (show IxR _ (rIxT K) from ix_tup) (pe_ix (show IxR _ (rIxL K) from ix_list) (pv 2) pe_int (fun _ _ => rfl)) pe_int (fun _ _ => rfl)) (pa_cons (by refine pe_lc (own := [("one", 19)]) (g := gName 19) (wi := iList K (tOp (rIxT K) (tOp (rIxL K) (tVar 2) (tC (.int 1))) (tC (.int 1)))) rfl sc_law.nd (pi_list ?_) (blkOk_in (blkOk_by (own := [("one", 19)]) (N := n_law) (sc := sc_in) (by decide +kernel))) (fun _ _ _ _ _ => pg_name (i := 19) sc_law.nd rfl (Or.inl rfl)) (fun _ _ _ _ _ => pts_one (pt_cmpR op_le (pv 19) (pv 18) (nomark _))) (fun _ _ _ _ _ => pv 19); refine pe_ix (r := rIxT K) ?_ ?_ pe_int (fun _ _ => rfl); exact ix_tup; refine pe_ix (r := rIxL K) ?_ (pv 2) pe_int (fun _ _ => rfl); exact ix_list) pa_nil))) pe_non (nomark _)))) (fun _ _ _ _ _ => (pv 18))) pa_nil))) (pg_sub (pv 2) pe_int set_list))))) pss_nil)
 w5)), ?_⟩
  intro H0 M D j pb p q gs hs tab fin b1 b2
  have p1 := b1.s1; have p2 := b1.s2
  have ok1 := gapS_ok b1.s1 b1.s2 b1.srt b1.gap
  have ok2 := gapS_ok b2.s1 b2.s2 b2.srt b2.gap
  have gb := gapS_bound b1.s1 b1.s2 b1.gap
  have gl := gapS_len b1.s1 b1.s2 (b1.srt.imp fun z => by omega) b1.gap
  -- what is reached
  have fin2 : ∀ (e5 e6 : En) (q2 : Int) (Y2 : List Int), PairOk p gs q2 Y2 → PairOk q2 Y2 p gs → Nx ⟨[], H0, [], []⟩ M [.no, .jar j, .mu pb [bagD p gs, bagD q2 Y2], .no, .no, e5, e6, .no, .no, .no, .no, .no, .no, .no, .no, .no, .no, .no, .no, .no] (t5 D) := fun e5 e6 q2 Y2 o1 o2 => by
    refine g_freeze (i := 2) (l := [bagD p gs, bagD q2 Y2]) rfl (fun z => nomatch z) fun N hN => ?_
    exact g_keep [false, true, true] (ht5 H0 N D j p q2 gs Y2 tab fin o1 o2 (by omega) (fun g hg => by have := gb g hg; omega) (by omega))
  refine g_seq (g_asg (x_jar (α := Int) (a := 5) rfl (a_cons x_int a_nil) ⟨by decide, by decide⟩) ?_)
  rintro _ ⟨road, r0, r1, rfl⟩
  dsimp only
  refine g_seq (g_ifb (b := decide (road < 3)) (t_test (x_op (x_var rfl) x_int r_I0b)) (fun hlt => ?_) (fun hlt => g_next ?_))
  rotate_left
  · obtain ⟨o1, o2⟩ := pairs_ok ok1 ok2 (by omega) (by have := b2.s2; omega) (pair_un b1.s1 b1.s2 b2.s1 b2.s2 b1.gap b2.gap)
    exact fin2 _ _ q hs o1 o2
  have r3 : road < 3 := of_decide_eq_true hlt
  -- step
  refine g_seq (g_asg (P := fun d => ∃ k : Int, 1 ≤ k ∧ k ≤ 3 ∧ d = .int k) (e_op (P := Is (.int 1)) (R := fun d => ∃ k : Int, 0 ≤ k ∧ k < 3 ∧ d = .int k) x_int (x_jar (α := Int) (a := 3) rfl (a_cons x_int a_nil) ⟨by decide, by decide⟩) ?_) ?_)
  · rintro x y rfl ⟨k, k0, k1, rfl⟩
    exact r_I0i.imp fun d hd => ⟨1 + k, by omega, by omega, hd⟩
  rintro _ ⟨st, st1, st3, rfl⟩
  dsimp only
  have pst : 1 ≤ p * st ∧ p * st ≤ 36 := ⟨mul_pos1 p1 st1, Int.mul_le_mul p2 st3 (by omega) (by omega)⟩
  obtain ⟨q2, X, hq1, hq2, hX, hXs, hat⟩ : ∃ (q2 : Int) (X : List Int), 1 ≤ q2 ∧ q2 ≤ 36 ∧ (∀ x ∈ X, x ∈ gs) ∧ X.Pairwise (· < ·) ∧ atI [bagD p gs, bagD p (gs.filter fun n => decide (n < p * 4)), bagD (p * st) (gs.filter fun n => decide (n % (p * st) = 0))] road = some (bagD q2 X) := by
    have h3 : road = 0 ∨ road = 1 ∨ road = 2 := by omega
    rcases h3 with rfl | rfl | rfl
    · exact ⟨p, gs, p1, by omega, fun x hx => hx, b1.srt, atI_of (j := 0) rfl⟩
    · exact ⟨p, _, p1, by omega, fun x hx => (List.mem_filter.mp hx).1, b1.srt.filter _, atI_of (j := 1) rfl⟩
    · exact ⟨p * st, _, pst.1, pst.2, fun x hx => (List.mem_filter.mp hx).1, b1.srt.filter _, atI_of (j := 2) rfl⟩
  refine g_seq (g_setI (j := 1) (P := Is (bagD q2 X)) rfl (by show 1 < 2; decide) (x_op (x_lst (a_cons (x_ixM rfl x_int (atI_of (j := 0) rfl)) (a_cons
      (x_tup (a_cons (x_op (x_ixM rfl x_int (atI_of (j := 0) rfl)) x_int (r_ixT rfl)) (a_cons (x_lcI (ns := gs) (fun n => decide (n < p * 4)) Y.D.int (i_list (x_op (x_ixM rfl x_int (atI_of (j := 0) rfl)) x_int (r_ixT rfl))) (fun u hu => by cases hu; rfl) (by omega) fun o ho => ⟨t_test (x_op (x_var rfl) (x_op (x_op (x_ixM rfl x_int (atI_of (j := 0) rfl)) x_int (r_ixT rfl)) x_int (r_Ii (.inl ⟨by omega, by omega⟩))) r_I0b), fun _ => x_var rfl⟩) a_nil)) (by show 2 ≤ 16000000; decide))
      (a_cons (x_tup (a_cons (x_op (x_op (x_ixM rfl x_int (atI_of (j := 0) rfl)) x_int (r_ixT rfl)) (x_var rfl) (r_Ii (.inl ⟨by omega, by omega⟩))) (a_cons (x_lcI (ns := gs) (fun n => decide (n % (p * st) = 0)) Y.D.int (i_list (x_op (x_ixM rfl x_int (atI_of (j := 0) rfl)) x_int (r_ixT rfl))) (fun u hu => by cases hu; rfl) (by omega) fun o ho => ⟨t_test (x_op (x_op (x_cb (a_cons (x_var rfl) a_nil) c_int) (x_op (x_op (x_ixM rfl x_int (atI_of (j := 0) rfl)) x_int (r_ixT rfl)) (x_var rfl) (r_Ii (.inl ⟨by omega, by omega⟩))) (r_Ii (by omega))) x_int r_eqI), fun _ => x_var rfl⟩) a_nil)) (by show 2 ≤ 16000000; decide)) a_nil))) (by show 3 ≤ 16000000; decide)) (x_var rfl) (r_ixL hat)) ?_)
  rintro _ rfl
  dsimp only
  have Xl : X.length ≤ 36 := Nat.le_trans (nodup_len (hXs.imp fun z => by omega) hX) gl
  open Classical in
  refine g_setI (j := 1) (P := Is (bagD q2 (X.filter fun n => decide (goodTo q2 X n)))) rfl (by show 1 < 2; decide) (x_tup (a_cons (x_op (x_ixM rfl x_int (atI_of (j := 1) rfl)) x_int (r_ixT rfl)) (a_cons (x_lcI (ns := X) (fun n => decide (goodTo q2 X n)) Y.D.int (i_list (x_op (x_ixM rfl x_int (atI_of (j := 1) rfl)) x_int (r_ixT rfl))) (fun u hu => by cases hu; rfl) (by omega) fun o ho => ⟨t_test (e_op (P := fun d => ∃ r, LeastBad q2 (X.filter fun k => decide (k ≤ o)) r ∧ d = oD r) (R := Is .non)
    (x_call (α := LenA) (a := ⟨q2, X.filter fun k => decide (k ≤ o)⟩) (a_cons (x_op (x_ixM rfl x_int (atI_of (j := 1) rfl)) x_int (r_ixT rfl)) (a_cons (x_lcI (ns := X) (fun k => decide (k ≤ o)) Y.D.int (i_list (x_op (x_ixM rfl x_int (atI_of (j := 1) rfl)) x_int (r_ixT rfl))) (fun u hu => by cases hu; rfl) (by omega) fun o2 ho2 => ⟨t_test (x_op (x_var rfl) (x_var rfl) r_I0b), fun _ => x_var rfl⟩) a_nil)) ⟨hq1, by show q2 < 1000000; omega, fun g hg => by have := gb g (hX g (List.mem_filter.mp hg).1); omega, by show (X.filter _).length < 1000; exact Nat.lt_of_le_of_lt (List.length_filter_le ..) (by omega)⟩) x_non ?_), fun _ => x_var rfl⟩) a_nil)) (by show 2 ≤ 16000000; decide)) ?_
  · rintro x y ⟨r, hr2, rfl⟩ rfl
    refine r_isN.imp fun d hd => ?_
    rw [hd]
    show Y.D.bl (oD r).isN = Y.D.bl (decide (goodTo q2 X o))
    cases r with
    | none => rw [decide_eq_true (show goodTo q2 X o from clo_iff.mpr hr2)]; rfl
    | some b => rw [decide_eq_false (show ¬ goodTo q2 X o from fun z => clo_iff.mp z b hr2.1 hr2.2.1)]; rfl
  rintro _ rfl
  dsimp only
  have ok3 := good_ok (Y := X.filter fun n => @decide (goodTo q2 X n) (Classical.propDecidable _)) ok1 hq1 hq2 (hXs.filter _) (fun x hx => hX x (List.mem_filter.mp hx).1) (good_clo (X := X) hq1 fun n => by rw [List.mem_filter]; exact and_congr_right fun _ => @decide_eq_true_iff _ (Classical.propDecidable _))
  obtain ⟨o1, o2⟩ := pairs_ok ok1 ok3 (by omega) hq2 (sub_un ok1 fun x hx => hX x (List.mem_filter.mp hx).1)
  exact fin2 _ _ _ _ o1 o2
end
end Y

set_option Elab.async false
set_option linter.all false
set_option maxRecDepth 100000
set_option maxHeartbeats 2000000
/-! Z25: law, from its start. -/
namespace Y
open PySem PySem.Spec PyProof.Rows L2 L2H LamX
/-- what law is promised, and promises -/
def spLaw (K : PySem.W.Frag) (Pt : Addr) : Sp := fun vs H Q _ => ∃ (a : Addr) (ns : List Int), vs = [.ref a] ∧ (∀ H', All H H' → SqL K H' a (ns.map V.int)) ∧ ns.length ≤ 63 ∧ H Pt = some (.tbl #[]) ∧ ∀ H', Q (.bl true) H'
section
variable {P : Program} {w : World} {K : PySem.W.Frag} {mg : Str → Option Value} {base : Heap} {Cl CB T0 : Addr} {cl : Str → Addr} {f : Str → Addr} {fd : Str → FuncData} {dv : Value} {g0 gL gP : List Value → List Value → List Value}
theorem law_0 (L : LawC P w K mg base Cl CB T0 cl f fd dv g0 gL gP) {fl c Pt : Addr} {A : Around} {outer : List Env} {s : Shared} {H : Hp} {E : XK} (TB : TabB base mg c Pt)
    (hr : Room 8 (A.deeper (envOfC "law" (defScope s_law) s.heap.objs.size fl (.ref c)))) :
    ∃ t, PSs (lawX P w K mg base fl c A outer s H E) (defBody s_law) t ∧ ∀ (a : Addr) (ns : List Int) (Q : VK), (∀ H', All H H' → SqL K H' a (ns.map V.int)) → ns.length ≤ 63 → H Pt = some (.tbl #[]) → (∀ H', Q (.bl true) H') →
      t { nx := fun _ H' => Q .non H', rt := Q } (L2.start n_law [.ref a]) H := by
  obtain ⟨t3, w3, ht3⟩ := law_3 (A := A) (outer := outer) (s := s) (H := H) (E := E) (fl := fl) L TB hr
  obtain ⟨T, dInit, dJar, dDraw, dPick, dMixed, dDiv, dGapList, dLWrong, dHas, dIsBag, dLike, dPair, mHas, mLeast, kLeast, mTimes, mParts, kParts, flt⟩ := L
  refine ⟨_, (pss_cons (ps_set (i := 1) sc_law.nd rfl (Or.inr rfl) (pe_call dJar.ok (hr.mono (by decide)) (by rfl) dJar.mg dJar.kp dJar.bi .nil pass0 (pa_cons (pv 0) pa_nil)))
 (pss_cons (ps_set (i := 2) sc_law.nd rfl (Or.inr rfl) (pe_lst pa_nil))
 (pss_cons (ps_for PassesOwn.never rfl (pi_range1 (by rfl) T.range (pa_cons pe_int pa_nil)) (pg_name (i := 3) sc_law.nd rfl (Or.inl rfl))
 (pss_cons (ps_set (i := 4) sc_law.nd rfl (Or.inr rfl) (pe_op op_add pe_int (pe_call dDraw.ok (hr.mono (by decide)) (by rfl) dDraw.mg dDraw.kp dDraw.bi .nil pass0 (pa_cons (pv 1) (pa_cons pe_int pa_nil)))))
 (pss_one (ps_expr (pe_bm PySem.F.plainAttrs_list PySem.F.slot_list_append PySem.F.type_list_append mt_append (pv 2) (pa_cons (pe_tup (pa_cons (pv 4) (pa_cons (pe_call dGapList.ok (hr.mono (by decide)) (by rfl) dGapList.mg dGapList.kp dGapList.bi .nil pass0 (pa_cons (pv 1) (pa_cons (pv 4) (pa_cons (pe_call dDraw.ok (hr.mono (by decide)) (by rfl) dDraw.mg dDraw.kp dDraw.bi .nil pass0 (pa_cons (pv 1) (pa_cons pe_int pa_nil))) (pa_cons (pe_op op_add (pe_op op_fdiv pe_int (pv 4)) pe_int) pa_nil))))) pa_nil))) pa_nil))))))
 w3))), ?_⟩
  intro a ns Q hS hl hP fin
  have tab : TabS H Pt ((lawX P w K mg base fl c A outer s H E).env.qual ++ "<lambda>") := TabS.nil hP
  have A0 : At ⟨[], H, [], []⟩ [] [.im (.ref a), .no, .no, .no, .no, .no, .no, .no, .no, .no, .no, .no, .no, .no, .no, .no, .no, .no, .no, .no] (L2.start n_law [.ref a]) H := start_at (ds := [.ref a]) 19 (.cons (.ref a) .nil) (fun x hx => nomatch hx) rfl
  refine ⟨.ref a, rfl, a, ns, rfl, hS, hl, fun j H1 hj al jr => ?_⟩
  obtain ⟨B, nj, oj⟩ := A0.open2 al hj (by obtain ⟨_, _, _, _, _, _, _, z, _⟩ := jr; rw [z]; exact fun y => nomatch y)
  have jr2 : Jar [j] H1 j := by
    obtain ⟨c0, cells, ix, left, dig, mix, cnt, h1, h2, h3, h4⟩ := jr
    refine ⟨c0, cells, ix, left, dig, mix, cnt, h1, fun z => ?_, h3, h4⟩
    rw [List.mem_singleton.mp z, h1] at h3
    have e : [V.ref j, .int ix, .int left, .int dig, .int mix, .int cnt] = cells.map V.int := by
      rw [← List.mem_singleton.mp z]
      injection Option.some.inj h3
    cases cells with
    | nil => cases e
    | cons x r => cases e
  have B1 := B.put 1 (v := .ref j) (e := .jar j) ⟨rfl, List.mem_cons_self, oj, jr2⟩ (fun i u p hi hu hp => by
    cases hp
    match i, hi, hu with
    | 0, hi, hu => cases hu; exact fun z => nomatch z
    | 1, hi, hu => exact absurd rfl hi
    | i + 2, hi, hu =>
      have hu : (List.replicate 18 En.no)[i]? = some u := hu
      rw [List.getElem?_replicate] at hu
      split at hu
      · cases hu
        exact fun z => nomatch z
      · cases hu)
  unfold gName
  dsimp only
  refine (?_ : Go ⟨[], H, [], []⟩ [j] [.im (.ref a), .jar j, .no, .no, .no, .no, .no, .no, .no, .no, .no, .no, .no, .no, .no, .no, .no, .no, .no, .no] _ _) _ _ B1
  -- bags
  refine g_seq (g_asgN n_nil fun pb ds e np => ?_)
  subst e
  dsimp only
  refine g_seq (g_for (fun i env => ∃ (bl : List (Int × List Int)) (e3 e4 : En), env = [.im (.ref a), .jar j, .mu pb (bl.map fun z => bagD z.1 z.2), e3, e4, .no, .no, .no, .no, .no, .no, .no, .no, .no, .no, .no, .no, .no, .no, .no] ∧ bl.length = i ∧ (∀ z ∈ bl, Drawn2 z.1 z.2) ∧ e3.addr = none ∧ e4.addr = none) (i_rng1 (a_cons x_int a_nil) (by decide)) ⟨[], .no, .no, rfl, rfl, (fun z hz => nomatch hz), rfl, rfl⟩ ?_ ?_)
  · rintro i d env hi ⟨bl, e3, e4, rfl, hbl, hb, h3, h4⟩ C' D' dn' nx' _ _
    have i2 : i < 2 := (List.getElem?_eq_some_iff.mp hi).1
    obtain ⟨iv, rfl⟩ : ∃ iv, d = .int iv := by
      obtain ⟨n, _, e⟩ := List.mem_map.mp (List.mem_of_getElem? hi)
      exact ⟨n, e.symm⟩
    show Go C' _ [.im (.ref a), .jar j, .mu pb (bl.map fun z => bagD z.1 z.2), .im (.int iv), e4, .no, .no, .no, .no, .no, .no, .no, .no, .no, .no, .no, .no, .no, .no, .no] _ D'
    refine g_seq (g_asg (P := fun d => ∃ k : Int, 1 ≤ k ∧ k ≤ 12 ∧ d = .int k) (e_op (P := Is (.int 1)) (R := fun d => ∃ k : Int, 0 ≤ k ∧ k < 12 ∧ d = .int k) x_int (x_jar (α := Int) (a := 12) rfl (a_cons x_int a_nil) ⟨by decide, by decide⟩) ?_) ?_)
    · rintro x y rfl ⟨k, k0, k1, rfl⟩
      exact r_I0i.imp fun d hd => ⟨1 + k, by omega, by omega, hd⟩
    rintro _ ⟨sz, s1, s2, rfl⟩
    dsimp only
    obtain ⟨_, m1, m2⟩ := mul_sixty s1 s2
    refine g_app (P := fun d => ∃ G : List Int, G.Pairwise (· < ·) ∧ GapS sz (60 / sz + 6) 3 G ∧ d = bagD sz G) rfl (by rw [List.length_map]; omega) ((e_tup (T := fun ds => ∃ G : List Int, G.Pairwise (· < ·) ∧ GapS sz (60 / sz + 6) 3 G ∧ ds = [.int sz, .lst (G.map Y.D.int)]) (a_consP (P := Is (.int sz)) (T := fun ds => ∃ G : List Int, G.Pairwise (· < ·) ∧ GapS sz (60 / sz + 6) 3 G ∧ ds = [.lst (G.map Y.D.int)]) (x_var rfl) (a_consP (T := Is []) (e_jar (T := fun ds => ∃ k : Int, 0 ≤ k ∧ k < 4 ∧ ds = [.int sz, .int k, .int (60 / sz + 6)]) (S := fun d => ∃ G : List Int, G.Pairwise (· < ·) ∧ GapS sz (60 / sz + 6) 3 G ∧ d = .lst (G.map Y.D.int)) rfl
      (a_consP (P := Is (.int sz)) (T := fun ds => ∃ k : Int, 0 ≤ k ∧ k < 4 ∧ ds = [.int k, .int (60 / sz + 6)]) (x_var rfl) (a_consP (T := Is [.int (60 / sz + 6)]) (x_jar (α := Int) (a := 4) rfl (a_cons x_int a_nil) ⟨by decide, by decide⟩) (a_cons (x_op (x_op x_int (x_var rfl) (r_Ii (⟨by omega, by omega⟩ : CDiv _ _))) x_int r_I0i) a_nil) ?_) ?_) ?_) a_nil ?_) ?_) ?_).imp ?_) fun d' hd => ?_
    · rintro d ds ⟨k, k0, k1, rfl⟩ rfl
      exact ⟨k, k0, k1, rfl⟩
    · rintro d ds rfl ⟨k, k0, k1, rfl⟩
      exact ⟨k, k0, k1, rfl⟩
    · rintro ds ⟨k, k0, k1, rfl⟩
      refine ⟨⟨sz, k, 60 / sz + 6⟩, rfl, ⟨s1, by show sz ≤ 10000; omega, k0, by show k ≤ 100; omega, m1, by show 60 / sz + 6 ≤ 1000; omega⟩, fun d ⟨G, h1, h2, h3⟩ => ⟨G, h1, gapS_mono h2 (by show k.toNat ≤ 3; omega), h3⟩⟩
    · rintro d ds ⟨G, h1, h2, rfl⟩ rfl
      exact ⟨G, h1, h2, rfl⟩
    · rintro d ds rfl ⟨G, h1, h2, rfl⟩
      exact ⟨G, h1, h2, rfl⟩
    · rintro ds ⟨G, h1, h2, rfl⟩
      show 2 ≤ 16000000
      decide
    · rintro d ⟨_, ⟨G, h1, h2, rfl⟩, rfl⟩
      exact ⟨G, h1, h2, rfl⟩
    obtain ⟨G, h1, h2, rfl⟩ := hd
    refine nx' _ ⟨bl ++ [(sz, G)], .im (.int iv), .im (.int sz), ?_, ?_, fun z hz => ?_, rfl, rfl⟩
    · rw [List.map_append]
      rfl
    · rw [List.length_append, List.length_singleton, hbl]
    · rcases List.mem_append.mp hz with y | y
      · exact hb z y
      · rw [List.mem_singleton.mp y]
        exact ⟨s1, s2, h1, h2⟩
  · rintro env ⟨bl, e3, e4, rfl, hbl, hb, h3, h4⟩
    obtain ⟨z0, z1, rfl⟩ : ∃ z0 z1, bl = [z0, z1] := by
      have e : bl.length = 2 := hbl
      match bl, e with
      | [x, y], _ => exact ⟨x, y, rfl⟩
    exact g_keep [false, true, true] (ht3 H _ _ j pb z0.1 z1.1 z0.2 z1.2 tab fin (hb z0 List.mem_cons_self) (hb z1 (List.mem_cons_of_mem _ List.mem_cons_self)))
theorem ok_law (L : LawC P w K mg base Cl CB T0 cl f fd dv g0 gL gP) {fl c Pt : Addr} {fdl : FuncData} {kws : List (Str × V)} (TB : TabB base mg c Pt) (F : FunD K "law" "law" (defArgs s_law) (defBody s_law) (defScope s_law) [] kws fl fdl) (hc : fdl.code = .ref c) :
    FnOk P w K mg base CX0 9 fl fdl ["script"] (spLaw K Pt) := by
  obtain ⟨oc, od, dV, kV, doc, pm, an, cdv, ct, osl, rfl, lk, code, _, _⟩ := F.ex
  have hc : cdv = .ref c := hc
  subst hc
  refine ⟨fun vs H Q E h => ?_, fun A outer s H args us vs Q E hr e0 bnd r prom => ?_⟩
  · obtain ⟨a, ns, rfl, _⟩ := h
    rfl
  · have len : vs.length = ["script"].length := by
      obtain ⟨a, ns, rfl, _⟩ := prom
      rfl
    refine run_ofS (k := 8) (N := n_law) lk code sc_law hr e0 bnd r len fun hr2 => ?_
    obtain ⟨a, ns, rfl, h1, h2, h3, h4⟩ := prom
    obtain ⟨t, ht, hq⟩ := law_0 (A := A) (outer := outer) (s := s) (H := H) (E := E) (fl := fl) L TB hr2
    exact ⟨t, PSs.nox ht, hq a ns Q h1 h2 h3 h4⟩
end
end Y

set_option Elab.async false
set_option linter.all false
set_option maxRecDepth 100000
set_option maxHeartbeats 2000000
/-! H1: what the head tells beside the kit's facts. -/
namespace Y
open PySem PySem.Spec PyProof.Rows L2
theorem oexB_ok {K : PySem.W.Frag} {C : Addr} (h : oexB K C = true) : OexC K C := by
  unfold oexB at h
  obtain ⟨h1, h⟩ := Bool.and_eq_true_iff.mp h
  obtain ⟨h2, h⟩ := Bool.and_eq_true_iff.mp h
  obtain ⟨h3, h⟩ := Bool.and_eq_true_iff.mp h
  obtain ⟨h4, h5⟩ := Bool.and_eq_true_iff.mp h
  refine ⟨?_, of_decide_eq_true h2, of_decide_eq_true h3, of_decide_eq_true h4, h5⟩
  split at h1
  · rename_i t d cd k0 k1 k2 k3 n k5 e
    simp only [Bool.and_eq_true, decide_eq_true_iff, Bool.not_eq_true'] at h1
    obtain ⟨rfl, rfl, a1, a2, a3⟩ := h1
    obtain ⟨nm, bs, mro, ns, qn, hd, sn, sb, ab, col, del⟩ := cd
    dsimp only at a1 a2 a3
    subst a1 a2
    split at a3
    · rename_i c bm
      rw [Bool.and_eq_true, decide_eq_true_iff] at a3
      obtain ⟨rfl, a4⟩ := a3
      exact ⟨_, _, _, _, _, _, _, _, _, _, _, _, _, _, _, e, a4⟩
    · cases a3
  · cases h1
end Y

set_option Elab.async false
set_option linter.all false
set_option maxRecDepth 100000
set_option maxHeartbeats 2000000
/-! H4: from the head's facts to LawC. Printed by wip/tools/mkh4.py. -/
namespace Y
open PySem PySem.Spec PyProof.Rows L2 L2H LamX
theorem t0_of {K : PySem.W.Frag} {a : Addr} (h : seqTB K a = true) (H : Hp) : SqT K H a [] := by
  unfold seqTB at h
  split at h
  · rename_i c d its n sl e
    obtain ⟨h1, h2⟩ := Bool.and_eq_true_iff.mp h
    have e2 := of_decide_eq_true h2
    refine .inr ⟨_, its, n, e, congrArg Value.type (of_decide_eq_true h1), rfl, ?_, ?_⟩
    · rw [← Array.length_toList, e2]
      exact Nat.zero_le _
    · rw [e2]
      exact .nil
  · cases h
theorem excB_ok {K : PySem.W.Frag} {C : Addr} (h : excB K C = true) : PySem.W.findIn K (.ref C) "__class__" = some (some (.builtin "object.__class__")) ∧ PySem.W.specialIn K (.builtin "object.__class__") "__get__" = some (some (.builtin "getset_descriptor.__get__")) ∧ PySem.W.takesIn K (.builtin "object.__class__") = some true ∧ PySem.W.mroIn K C (.type "object") = some true := by
  unfold excB at h
  obtain ⟨h1, h⟩ := Bool.and_eq_true_iff.mp h
  obtain ⟨h2, h⟩ := Bool.and_eq_true_iff.mp h
  obtain ⟨h3, h4⟩ := Bool.and_eq_true_iff.mp h
  exact ⟨of_decide_eq_true h1, of_decide_eq_true h2, of_decide_eq_true h3, of_decide_eq_true h4⟩
/-- the extra facts -/
structure ExW (K : PySem.W.Frag) : Prop where
  ox : OexC K (He.ga K "BadLengths")
  xf : L2.XfC K (He.ga K "BadLengths")
  eB : excB K (He.ga K "BadLengths") = true
  eL : excB K (He.ga K "Lengths") = true
  kit : ∀ n, n ∈ exNames → PySem.W.kitOne K (.ref (He.ga K "BadLengths")) (.ref (He.ga K n)) = some (isOf n)
  ve : PySem.W.kitOne K (.ref (He.ga K "BadLengths")) (.type "ValueError") = some true
  le : PySem.W.kitOne K (.ref (He.ga K "BadLengths")) (.type "LookupError") = some false
  st : PySem.W.kitOne K (.type "str") (.ref (He.ga K "Lengths")) = some false
  nf : PySem.W.notFirst K (He.ga K "Lengths") (.type "str") = true
  iC : PySem.W.findIn K (.ref (He.ga K "BadLengths")) "__init__" = some (some (.ref (He.ma K (He.ga K "BadLengths") "__init__")))
  tI : PySem.W.typeIn K (.ref (He.ma K (He.ga K "BadLengths") "__init__")) = some (.type "function")
  gcd : PySem.W.nsIn K mainGlobals "gcd" = some (some (.builtin "math.gcd"))
  lcm : PySem.W.nsIn K mainGlobals "lcm" = some (some (.builtin "math.lcm"))
  t0 : ∀ H, SqT K H (He.dflAt ("Lengths", some "__init__") 0 K) []
theorem exW {K : PySem.W.Frag} (h : exB K = true) : ExW K := by
  unfold exB at h
  obtain ⟨h1, h⟩ := Bool.and_eq_true_iff.mp h
  obtain ⟨h2, h⟩ := Bool.and_eq_true_iff.mp h
  obtain ⟨h3, h⟩ := Bool.and_eq_true_iff.mp h
  obtain ⟨h4, h⟩ := Bool.and_eq_true_iff.mp h
  obtain ⟨h5, h⟩ := Bool.and_eq_true_iff.mp h
  obtain ⟨h6, h⟩ := Bool.and_eq_true_iff.mp h
  obtain ⟨h7, h⟩ := Bool.and_eq_true_iff.mp h
  obtain ⟨h8, h⟩ := Bool.and_eq_true_iff.mp h
  obtain ⟨h9, h⟩ := Bool.and_eq_true_iff.mp h
  obtain ⟨h10, h⟩ := Bool.and_eq_true_iff.mp h
  obtain ⟨h11, h⟩ := Bool.and_eq_true_iff.mp h
  obtain ⟨h12, h⟩ := Bool.and_eq_true_iff.mp h
  obtain ⟨h13, h14⟩ := Bool.and_eq_true_iff.mp h
  exact ⟨oexB_ok h1, L2.xfB_ok h2, h3, h4, fun n hn => of_decide_eq_true (List.all_eq_true.mp h5 n hn), of_decide_eq_true h6, of_decide_eq_true h7, of_decide_eq_true h8, h9, of_decide_eq_true h10, of_decide_eq_true h11, He.eqO_ok h12, He.eqO_ok h13, fun H => t0_of h14 H⟩
theorem exGlo : exNames.map He.Fa.glo = (fa07.drop 21).take 24 := rfl
theorem glo_in {n : Str} (hn : n ∈ exNames) : He.Fa.glo n ∈ fa07 := by
  have h : He.Fa.glo n ∈ exNames.map He.Fa.glo := List.mem_map.mpr ⟨n, hn, rfl⟩
  rw [exGlo] at h
  exact List.mem_of_mem_drop (List.mem_of_mem_take h)
theorem SqL.all {K : PySem.W.Frag} {H H' : Hp} {a : Addr} {xs : List V} (h : SqL K H a xs) (al : All H H') : SqL K H' a xs := by
  rcases h with (h | ⟨o, h⟩) | h
  · exact .inl (.inl (al _ _ h))
  · exact .inl (.inr ⟨o, al _ _ h⟩)
  · exact .inr h
section
variable {P : Program} {w : World} {K : PySem.W.Frag} {h : Heap} {mg : Str → Option Value}
def fT07 (K : PySem.W.Frag) : List (Str × Addr) := [("_lacks_divisor", He.fAd K d_lacks.at_), ("_wrong_gap", He.fAd K d_wrong.at_), ("_kept", He.fAd K d_kept.at_), ("_law_jar", He.fAd K d_jar.at_), ("_law_draw", He.fAd K d_draw.at_), ("_law_pick", He.fAd K d_pick.at_), ("_law_mixed", He.fAd K d_mixed.at_), ("_law_divisor", He.fAd K d_div.at_), ("_law_like", He.fAd K d_like.at_), ("_law_class", He.fAd K d_cls.at_), ("_law_fault", He.fAd K d_fault.at_), ("_law_refused", He.fAd K d_ref.at_), ("_law_lengths_word", He.fAd K d_word.at_), ("_law_gap_list", He.fAd K d_gl.at_), ("_law_wrong", He.fAd K d_lwrong.at_), ("_law_has", He.fAd K d_lhas.at_), ("_law_is_bag", He.fAd K d_ib.at_), ("_law_bounded", He.fAd K d_bnd.at_), ("_law_pair_holds", He.fAd K d_ph.at_), ("law", He.fAd K d_law.at_), ("BadLengths.__init__", He.fAd K d_bad.at_), ("Lengths.__init__", He.fAd K d_init.at_), ("Lengths.__contains__", He.fAd K d_has.at_), ("Lengths.__eq__", He.fAd K d_eq.at_), ("Lengths.__str__", He.fAd K d_str.at_), ("Lengths.within", He.fAd K d_within.at_), ("Lengths.least", He.fAd K d_least.at_), ("Lengths.both", He.fAd K d_both.at_), ("Lengths.times", He.fAd K d_times.at_), ("Lengths.parts", He.fAd K d_parts.at_), ("Lengths.text", He.fAd K d_text.at_)]
def f07 (K : PySem.W.Frag) (x : Str) : Addr := ((fT07 K).lookup x).getD 0
/-- the defs -/
structure Defs (K : PySem.W.Frag) (fd : Nat → FuncData) : Prop where
  Flacks : FunD K "_lacks_divisor" "_lacks_divisor" (defArgs s_lacks) (defBody s_lacks) (defScope s_lacks) [] [] (He.ga K "_lacks_divisor") (fd 0)
  Fwrong : FunD K "_wrong_gap" "_wrong_gap" (defArgs s_wrong) (defBody s_wrong) (defScope s_wrong) [] [] (He.ga K "_wrong_gap") (fd 1)
  Fkept : FunD K "_kept" "_kept" (defArgs s_kept) (defBody s_kept) (defScope s_kept) [] [] (He.ga K "_kept") (fd 2)
  Fjar : FunD K "_law_jar" "_law_jar" (defArgs s_jar) (defBody s_jar) (defScope s_jar) [] [] (He.ga K "_law_jar") (fd 3)
  Fdraw : FunD K "_law_draw" "_law_draw" (defArgs s_draw) (defBody s_draw) (defScope s_draw) [] [] (He.ga K "_law_draw") (fd 4)
  Fpick : FunD K "_law_pick" "_law_pick" (defArgs s_pick) (defBody s_pick) (defScope s_pick) [] [] (He.ga K "_law_pick") (fd 5)
  Fmixed : FunD K "_law_mixed" "_law_mixed" (defArgs s_mixed) (defBody s_mixed) (defScope s_mixed) [] [] (He.ga K "_law_mixed") (fd 6)
  Fdiv : FunD K "_law_divisor" "_law_divisor" (defArgs s_div) (defBody s_div) (defScope s_div) [] [] (He.ga K "_law_divisor") (fd 7)
  Flike : FunD K "_law_like" "_law_like" (defArgs s_like) (defBody s_like) (defScope s_like) [] [] (He.ga K "_law_like") (fd 8)
  Fcls : FunD K "_law_class" "_law_class" (defArgs s_cls) (defBody s_cls) (defScope s_cls) [] [] (He.ga K "_law_class") (fd 9)
  Ffault : FunD K "_law_fault" "_law_fault" (defArgs s_fault) (defBody s_fault) (defScope s_fault) [] [] (He.ga K "_law_fault") (fd 10)
  Fref : FunD K "_law_refused" "_law_refused" (defArgs s_ref) (defBody s_ref) (defScope s_ref) [] [] (He.ga K "_law_refused") (fd 11)
  Fword : FunD K "_law_lengths_word" "_law_lengths_word" (defArgs s_word) (defBody s_word) (defScope s_word) [] [] (He.ga K "_law_lengths_word") (fd 12)
  Fgl : FunD K "_law_gap_list" "_law_gap_list" (defArgs s_gl) (defBody s_gl) (defScope s_gl) [] [] (He.ga K "_law_gap_list") (fd 13)
  Flwrong : FunD K "_law_wrong" "_law_wrong" (defArgs s_lwrong) (defBody s_lwrong) (defScope s_lwrong) [] [] (He.ga K "_law_wrong") (fd 14)
  Flhas : FunD K "_law_has" "_law_has" (defArgs s_lhas) (defBody s_lhas) (defScope s_lhas) [] [] (He.ga K "_law_has") (fd 15)
  Fib : FunD K "_law_is_bag" "_law_is_bag" (defArgs s_ib) (defBody s_ib) (defScope s_ib) [] [] (He.ga K "_law_is_bag") (fd 16)
  Fbnd : FunD K "_law_bounded" "_law_bounded" (defArgs s_bnd) (defBody s_bnd) (defScope s_bnd) [] [] (He.ga K "_law_bounded") (fd 17)
  Fph : FunD K "_law_pair_holds" "_law_pair_holds" (defArgs s_ph) (defBody s_ph) (defScope s_ph) [] [] (He.ga K "_law_pair_holds") (fd 18)
  Flaw : FunD K "law" "law" (defArgs s_law) (defBody s_law) (defScope s_law) [] [] (He.ga K "law") (fd 19)
  Fbad : FunD K "__init__" "BadLengths.__init__" (defArgs s_bad) (defBody s_bad) (defScope s_bad) [] [] (He.ma K (He.ga K "BadLengths") "__init__") (fd 20)
  Finit : FunD K "__init__" "Lengths.__init__" (defArgs s_init) (defBody s_init) (defScope s_init) [.ref (He.dflAt ("Lengths", some "__init__") 0 K)] [] (He.ma K (He.ga K "Lengths") "__init__") (fd 21)
  Fhas : FunD K "__contains__" "Lengths.__contains__" (defArgs s_has) (defBody s_has) (defScope s_has) [] [] (He.ma K (He.ga K "Lengths") "__contains__") (fd 22)
  Feq : FunD K "__eq__" "Lengths.__eq__" (defArgs s_eq) (defBody s_eq) (defScope s_eq) [] [] (He.ma K (He.ga K "Lengths") "__eq__") (fd 23)
  Fstr : FunD K "__str__" "Lengths.__str__" (defArgs s_str) (defBody s_str) (defScope s_str) [] [] (He.ma K (He.ga K "Lengths") "__str__") (fd 24)
  Fwithin : FunD K "within" "Lengths.within" (defArgs s_within) (defBody s_within) (defScope s_within) [] [] (He.ma K (He.ga K "Lengths") "within") (fd 25)
  Fleast : FunD K "least" "Lengths.least" (defArgs s_least) (defBody s_least) (defScope s_least) [] [] (He.ma K (He.ga K "Lengths") "least") (fd 26)
  Fboth : FunD K "both" "Lengths.both" (defArgs s_both) (defBody s_both) (defScope s_both) [] [] (He.ma K (He.ga K "Lengths") "both") (fd 27)
  Ftimes : FunD K "times" "Lengths.times" (defArgs s_times) (defBody s_times) (defScope s_times) [] [] (He.ma K (He.ga K "Lengths") "times") (fd 28)
  Fparts : FunD K "parts" "Lengths.parts" (defArgs s_parts) (defBody s_parts) (defScope s_parts) [] [] (He.ma K (He.ga K "Lengths") "parts") (fd 29)
  Ftext : FunD K "text" "Lengths.text" (defArgs s_text) (defBody s_text) (defScope s_text) [] [] (He.ma K (He.ga K "Lengths") "text") (fd 30)
theorem defs07 (c : He.SaysD fa07 fn07 K) : ∃ fd : Nat → FuncData, Defs K fd := by
  obtain ⟨e0, F0⟩ := c.def_ 0 (d := d_lacks) rfl
  obtain ⟨e1, F1⟩ := c.def_ 1 (d := d_wrong) rfl
  obtain ⟨e2, F2⟩ := c.def_ 2 (d := d_kept) rfl
  obtain ⟨e3, F3⟩ := c.def_ 3 (d := d_jar) rfl
  obtain ⟨e4, F4⟩ := c.def_ 4 (d := d_draw) rfl
  obtain ⟨e5, F5⟩ := c.def_ 5 (d := d_pick) rfl
  obtain ⟨e6, F6⟩ := c.def_ 6 (d := d_mixed) rfl
  obtain ⟨e7, F7⟩ := c.def_ 7 (d := d_div) rfl
  obtain ⟨e8, F8⟩ := c.def_ 8 (d := d_like) rfl
  obtain ⟨e9, F9⟩ := c.def_ 9 (d := d_cls) rfl
  obtain ⟨e10, F10⟩ := c.def_ 10 (d := d_fault) rfl
  obtain ⟨e11, F11⟩ := c.def_ 11 (d := d_ref) rfl
  obtain ⟨e12, F12⟩ := c.def_ 12 (d := d_word) rfl
  obtain ⟨e13, F13⟩ := c.def_ 13 (d := d_gl) rfl
  obtain ⟨e14, F14⟩ := c.def_ 14 (d := d_lwrong) rfl
  obtain ⟨e15, F15⟩ := c.def_ 15 (d := d_lhas) rfl
  obtain ⟨e16, F16⟩ := c.def_ 16 (d := d_ib) rfl
  obtain ⟨e17, F17⟩ := c.def_ 17 (d := d_bnd) rfl
  obtain ⟨e18, F18⟩ := c.def_ 18 (d := d_ph) rfl
  obtain ⟨e19, F19⟩ := c.def_ 19 (d := d_law) rfl
  obtain ⟨e20, F20⟩ := c.def_ 20 (d := d_bad) rfl
  obtain ⟨e21, F21⟩ := c.def_ 21 (d := d_init) rfl
  obtain ⟨e22, F22⟩ := c.def_ 22 (d := d_has) rfl
  obtain ⟨e23, F23⟩ := c.def_ 23 (d := d_eq) rfl
  obtain ⟨e24, F24⟩ := c.def_ 24 (d := d_str) rfl
  obtain ⟨e25, F25⟩ := c.def_ 25 (d := d_within) rfl
  obtain ⟨e26, F26⟩ := c.def_ 26 (d := d_least) rfl
  obtain ⟨e27, F27⟩ := c.def_ 27 (d := d_both) rfl
  obtain ⟨e28, F28⟩ := c.def_ 28 (d := d_times) rfl
  obtain ⟨e29, F29⟩ := c.def_ 29 (d := d_parts) rfl
  obtain ⟨e30, F30⟩ := c.def_ 30 (d := d_text) rfl
  exact ⟨fun i => [e0, e1, e2, e3, e4, e5, e6, e7, e8, e9, e10, e11, e12, e13, e14, e15, e16, e17, e18, e19, e20, e21, e22, e23, e24, e25, e26, e27, e28, e29, e30].getD i e0, F0, F1, F2, F3, F4, F5, F6, F7, F8, F9, F10, F11, F12, F13, F14, F15, F16, F17, F18, F19, F20, F21, F22, F23, F24, F25, F26, F27, F28, F29, F30⟩
/-- what the names stand for -/
structure Nms (K : PySem.W.Frag) (mg : Str → Option Value) : Prop where
  glacks : mg "_lacks_divisor" = some (.ref (He.ga K "_lacks_divisor"))
  gwrong : mg "_wrong_gap" = some (.ref (He.ga K "_wrong_gap"))
  gkept : mg "_kept" = some (.ref (He.ga K "_kept"))
  gjar : mg "_law_jar" = some (.ref (He.ga K "_law_jar"))
  gdraw : mg "_law_draw" = some (.ref (He.ga K "_law_draw"))
  gpick : mg "_law_pick" = some (.ref (He.ga K "_law_pick"))
  gmixed : mg "_law_mixed" = some (.ref (He.ga K "_law_mixed"))
  gdiv : mg "_law_divisor" = some (.ref (He.ga K "_law_divisor"))
  glike : mg "_law_like" = some (.ref (He.ga K "_law_like"))
  gcls : mg "_law_class" = some (.ref (He.ga K "_law_class"))
  gfault : mg "_law_fault" = some (.ref (He.ga K "_law_fault"))
  gref : mg "_law_refused" = some (.ref (He.ga K "_law_refused"))
  gword : mg "_law_lengths_word" = some (.ref (He.ga K "_law_lengths_word"))
  ggl : mg "_law_gap_list" = some (.ref (He.ga K "_law_gap_list"))
  glwrong : mg "_law_wrong" = some (.ref (He.ga K "_law_wrong"))
  glhas : mg "_law_has" = some (.ref (He.ga K "_law_has"))
  gib : mg "_law_is_bag" = some (.ref (He.ga K "_law_is_bag"))
  gbnd : mg "_law_bounded" = some (.ref (He.ga K "_law_bounded"))
  gph : mg "_law_pair_holds" = some (.ref (He.ga K "_law_pair_holds"))
  glaw : mg "law" = some (.ref (He.ga K "law"))
  mhas : Meth K (He.ga K "Lengths") "__contains__" (He.ma K (He.ga K "Lengths") "__contains__")
  meq : Meth K (He.ga K "Lengths") "__eq__" (He.ma K (He.ga K "Lengths") "__eq__")
  mstr : Meth K (He.ga K "Lengths") "__str__" (He.ma K (He.ga K "Lengths") "__str__")
  mwithin : Meth K (He.ga K "Lengths") "within" (He.ma K (He.ga K "Lengths") "within")
  mleast : Meth K (He.ga K "Lengths") "least" (He.ma K (He.ga K "Lengths") "least")
  mboth : Meth K (He.ga K "Lengths") "both" (He.ma K (He.ga K "Lengths") "both")
  mtimes : Meth K (He.ga K "Lengths") "times" (He.ma K (He.ga K "Lengths") "times")
  mparts : Meth K (He.ga K "Lengths") "parts" (He.ma K (He.ga K "Lengths") "parts")
  mtext : Meth K (He.ga K "Lengths") "text" (He.ma K (He.ga K "Lengths") "text")
  mkr : Mk K (He.ga K "Lengths") (He.ma K (He.ga K "Lengths") "__init__")
  T : Txt K mg (He.ga K "Lengths")
  B : BadC K mg (He.ga K "BadLengths")
  XF : ExF K mg (He.ga K "BadLengths") (He.ga K)
  I : IsiC K (He.ga K "Lengths")
  ring : PySem.W.exmOne K (.ref (He.ga K "BadLengths")) (.ref (He.ga K "RingError")) = some true
theorem nms07 (X : K.In h) (G : h.Ns mainGlobals mg) (c : He.SaysD fa07 fn07 K) (e : ExW K) : Nms K mg := by
  have cl : Cls K (He.ga K "Lengths") := He.cls_ok (c.fact 59 (f := .cls "Lengths") rfl)
  have gx : ∀ n, n ∈ exNames → mg n = some (.ref (He.ga K n)) := fun n hn => He.glo_ok X G (c.facts (glo_in hn))
  obtain ⟨b1, b2, b3, b4⟩ := excB_ok e.eB
  obtain ⟨l1, l2, l3, l4⟩ := excB_ok e.eL
  exact ⟨He.glo_ok X G (c.fact 0 (f := .glo "_lacks_divisor") rfl),
    He.glo_ok X G (c.fact 1 (f := .glo "_wrong_gap") rfl),
    He.glo_ok X G (c.fact 2 (f := .glo "_kept") rfl),
    He.glo_ok X G (c.fact 3 (f := .glo "_law_jar") rfl),
    He.glo_ok X G (c.fact 4 (f := .glo "_law_draw") rfl),
    He.glo_ok X G (c.fact 5 (f := .glo "_law_pick") rfl),
    He.glo_ok X G (c.fact 6 (f := .glo "_law_mixed") rfl),
    He.glo_ok X G (c.fact 7 (f := .glo "_law_divisor") rfl),
    He.glo_ok X G (c.fact 8 (f := .glo "_law_like") rfl),
    He.glo_ok X G (c.fact 9 (f := .glo "_law_class") rfl),
    He.glo_ok X G (c.fact 10 (f := .glo "_law_fault") rfl),
    He.glo_ok X G (c.fact 11 (f := .glo "_law_refused") rfl),
    He.glo_ok X G (c.fact 12 (f := .glo "_law_lengths_word") rfl),
    He.glo_ok X G (c.fact 13 (f := .glo "_law_gap_list") rfl),
    He.glo_ok X G (c.fact 14 (f := .glo "_law_wrong") rfl),
    He.glo_ok X G (c.fact 15 (f := .glo "_law_has") rfl),
    He.glo_ok X G (c.fact 16 (f := .glo "_law_is_bag") rfl),
    He.glo_ok X G (c.fact 17 (f := .glo "_law_bounded") rfl),
    He.glo_ok X G (c.fact 18 (f := .glo "_law_pair_holds") rfl),
    He.glo_ok X G (c.fact 19 (f := .glo "law") rfl),
    He.meth_ok (c.fact 66 (f := .meth "Lengths" "__contains__") rfl),
    He.meth_ok (c.fact 67 (f := .meth "Lengths" "__eq__") rfl),
    He.meth_ok (c.fact 68 (f := .meth "Lengths" "__str__") rfl),
    He.meth_ok (c.fact 69 (f := .meth "Lengths" "within") rfl),
    He.meth_ok (c.fact 70 (f := .meth "Lengths" "least") rfl),
    He.meth_ok (c.fact 71 (f := .meth "Lengths" "both") rfl),
    He.meth_ok (c.fact 72 (f := .meth "Lengths" "times") rfl),
    He.meth_ok (c.fact 73 (f := .meth "Lengths" "parts") rfl),
    He.meth_ok (c.fact 74 (f := .meth "Lengths" "text") rfl),
    He.mkr_ok (c.fact 64 (f := .mkr "Lengths") rfl),
    ⟨cl, He.noat_ok (c.fact 60 (f := .noat "Lengths" "period") rfl), He.noat_ok (c.fact 61 (f := .noat "Lengths" "gaps") rfl), He.noat_ok (c.fact 62 (f := .noat "Lengths" "_known") rfl), He.glo_ok X G (c.fact 20 (f := .glo "Lengths") rfl), He.free_ok X G (c.fact 45 (f := .free "int") rfl), He.free_ok X G (c.fact 46 (f := .free "str") rfl), He.free_ok X G (c.fact 47 (f := .free "bool") rfl), He.free_ok X G (c.fact 48 (f := .free "len") rfl), He.free_ok X G (c.fact 49 (f := .free "list") rfl), He.free_ok X G (c.fact 50 (f := .free "tuple") rfl), He.free_ok X G (c.fact 51 (f := .free "max") rfl), He.free_ok X G (c.fact 52 (f := .free "set") rfl), He.free_ok X G (c.fact 53 (f := .free "sorted") rfl), He.free_ok X G (c.fact 54 (f := .free "isinstance") rfl), He.free_ok X G (c.fact 55 (f := .free "range") rfl), He.free_ok X G (c.fact 56 (f := .free "dict") rfl), PySem.W.mg_of X G e.gcd, PySem.W.mg_of X G e.lcm⟩,
    ⟨e.ox, He.noat_ok (c.fact 63 (f := .noat "BadLengths" "gap") rfl), He.glo_ok X G (c.fact 24 (f := .glo "BadLengths") rfl)⟩,
    ⟨⟨e.xf.1, e.xf.2, e.xf.3, e.xf.4, b1, b2, b3, b4⟩, gx, e.kit, He.free_ok X G (c.fact 57 (f := .free "ValueError") rfl), He.free_ok X G (c.fact 58 (f := .free "LookupError") rfl), e.ve, e.le⟩,
    ⟨cl, l1, l2, l3, l4⟩,
    He.exm_ok (c.fact 65 (f := .exm "BadLengths" "RingError" true) rfl)⟩
end
theorem kb_ofK {K : PySem.W.Frag} {f : Addr} {fd : FuncData} {x qual y z : Str} {params : Arguments} {body : List Stmt} {scope : Scope} {kws : List (Str × V)} (F : FunD K x qual params body scope [] kws f fd)
    (h : ∀ (kV doc pm : Value) (an : Option Addr) (cdv ct : Value) (u w : Value), bindArgs (PySem.W.fnOf x qual params body scope .none kV doc pm an cdv ct) ⟨[u], [(z, w)]⟩ = pure [(y, u), (z, w)]) : KBn K fd [y, z] 1 [z] (fun us ws => us ++ ws) (fun vs zs => vs ++ zs) := by
  obtain ⟨oc, od, dV, kV, doc, pm, an, cdv, ct, osl, rfl, lk, hcd, hD, hK⟩ := F.ex
  rcases hD with ⟨_, rfl⟩ | ⟨e, _⟩
  · refine ⟨fun s us ws X l1 l2 => ?_, fun r1 r2 => r1.append r2⟩
    match us, ws, l1, l2 with
    | [u], [w], _, _ => exact .of_eq (h kV doc pm an cdv ct u w)
  · exact absurd rfl e
section
variable {P : Program} {w : World} {K : PySem.W.Frag} {mg : Str → Option Value} {base : Heap} {fd : Nat → FuncData}
theorem lawc07 (e : ExW K) (N : Nms K mg) (F : Defs K fd) : ∃ (f : Str → Addr) (fe : Str → FuncData) (dv : Value) (g0 gL gP : List Value → List Value → List Value), LawC P w K mg base (He.ga K "Lengths") (He.ga K "BadLengths") (He.dflAt ("Lengths", some "__init__") 0 K) (He.ga K) f fe dv g0 gL gP := by
  have blacks : Binds K (fd 0) ["part", "period", "known"] [] := F.Flacks.bindsN fun _ _ _ _ _ _ us hl => match us, hl with | [_, _, _], _ => rfl
  have bwrong : Binds K (fd 1) ["period", "gaps"] [] := F.Fwrong.bindsN fun _ _ _ _ _ _ us hl => match us, hl with | [_, _], _ => rfl
  have bkept : Binds K (fd 2) ["worth"] [] := F.Fkept.bindsN fun _ _ _ _ _ _ us hl => match us, hl with | [_], _ => rfl
  have bjar : Binds K (fd 3) ["script"] [] := F.Fjar.bindsN fun _ _ _ _ _ _ us hl => match us, hl with | [_], _ => rfl
  have bdraw : Binds K (fd 4) ["jar", "many"] [] := F.Fdraw.bindsN fun _ _ _ _ _ _ us hl => match us, hl with | [_, _], _ => rfl
  have bpick : Binds K (fd 5) ["jar", "menu"] [] := F.Fpick.bindsN fun _ _ _ _ _ _ us hl => match us, hl with | [_, _], _ => rfl
  have bmixed : Binds K (fd 6) ["jar", "things"] [] := F.Fmixed.bindsN fun _ _ _ _ _ _ us hl => match us, hl with | [_, _], _ => rfl
  have bdiv : Binds K (fd 7) ["top", "low"] [] := F.Fdiv.bindsN fun _ _ _ _ _ _ us hl => match us, hl with | [_, _], _ => rfl
  have blike : Binds K (fd 8) ["told", "due"] [] := F.Flike.bindsN fun _ _ _ _ _ _ us hl => match us, hl with | [_, _], _ => rfl
  have bcls : Binds K (fd 9) ["e"] [] := F.Fcls.bindsN fun _ _ _ _ _ _ us hl => match us, hl with | [_], _ => rfl
  have bfault : Binds K (fd 10) ["deed"] [] := F.Ffault.bindsN fun _ _ _ _ _ _ us hl => match us, hl with | [_], _ => rfl
  have bref : Binds K (fd 11) ["deed", "due"] [] := F.Fref.bindsN fun _ _ _ _ _ _ us hl => match us, hl with | [_, _], _ => rfl
  have bword : Binds K (fd 12) ["size", "missing"] [] := F.Fword.bindsN fun _ _ _ _ _ _ us hl => match us, hl with | [_, _], _ => rfl
  have bgl : Binds K (fd 13) ["jar", "size", "many", "top"] [] := F.Fgl.bindsN fun _ _ _ _ _ _ us hl => match us, hl with | [_, _, _, _], _ => rfl
  have blwrong : Binds K (fd 14) ["size", "missing"] [] := F.Flwrong.bindsN fun _ _ _ _ _ _ us hl => match us, hl with | [_, _], _ => rfl
  have blhas : Binds K (fd 15) ["bag", "num"] [] := F.Flhas.bindsN fun _ _ _ _ _ _ us hl => match us, hl with | [_, _], _ => rfl
  have bib : Binds K (fd 16) ["told", "bag"] [] := F.Fib.bindsN fun _ _ _ _ _ _ us hl => match us, hl with | [_, _], _ => rfl
  have bbnd : Binds K (fd 17) ["bag", "second"] [] := F.Fbnd.bindsN fun _ _ _ _ _ _ us hl => match us, hl with | [_, _], _ => rfl
  have bph : Binds K (fd 18) ["one", "two", "bag", "second"] [] := F.Fph.bindsN fun _ _ _ _ _ _ us hl => match us, hl with | [_, _, _, _], _ => rfl
  have bbad : Binds K (fd 20) ["self", "gap"] [] := F.Fbad.bindsN fun _ _ _ _ _ _ us hl => match us, hl with | [_, _], _ => rfl
  have bhas : Binds K (fd 22) ["self", "number"] [] := F.Fhas.bindsN fun _ _ _ _ _ _ us hl => match us, hl with | [_, _], _ => rfl
  have beq : Binds K (fd 23) ["self", "other"] [] := F.Feq.bindsN fun _ _ _ _ _ _ us hl => match us, hl with | [_, _], _ => rfl
  have bstr : Binds K (fd 24) ["self"] [] := F.Fstr.bindsN fun _ _ _ _ _ _ us hl => match us, hl with | [_], _ => rfl
  have bwithin : Binds K (fd 25) ["self", "other"] [] := F.Fwithin.bindsN fun _ _ _ _ _ _ us hl => match us, hl with | [_, _], _ => rfl
  have bleast : Binds K (fd 26) ["self", "count"] [] := F.Fleast.bindsN fun _ _ _ _ _ _ us hl => match us, hl with | [_, _], _ => rfl
  have bboth : Binds K (fd 27) ["self", "other"] [] := F.Fboth.bindsN fun _ _ _ _ _ _ us hl => match us, hl with | [_, _], _ => rfl
  have btimes : Binds K (fd 28) ["self", "k"] [] := F.Ftimes.bindsN fun _ _ _ _ _ _ us hl => match us, hl with | [_, _], _ => rfl
  have bparts : Binds K (fd 29) ["self", "k"] [] := F.Fparts.bindsN fun _ _ _ _ _ _ us hl => match us, hl with | [_, _], _ => rfl
  have btext : Binds K (fd 30) ["self"] [] := F.Ftext.bindsN fun _ _ _ _ _ _ us hl => match us, hl with | [_], _ => rfl
  have Dlacks : Dk P w K mg base CX0 "_lacks_divisor" 1 (He.ga K "_lacks_divisor") (fd 0) ["part", "period", "known"] spLacks := ⟨N.glacks, F.Flacks.kp, blacks, ok_lacks F.Flacks⟩
  have Dwrong : Dk P w K mg base CX0 "_wrong_gap" 2 (He.ga K "_wrong_gap") (fd 1) ["period", "gaps"] spWrong := ⟨N.gwrong, F.Fwrong.kp, bwrong, ok_wrong F.Fwrong Dlacks⟩
  have Dkept : Dk P w K mg base CX0 "_kept" 1 (He.ga K "_kept") (fd 2) ["worth"] spKept := ⟨N.gkept, F.Fkept.kp, bkept, ok_kept N.T F.Fkept⟩
  have DB : DBad P w K mg base (He.ga K "BadLengths") (He.ma K (He.ga K "BadLengths") "__init__") (fd 20) := ⟨N.B, e.iC, e.tI, bbad, ok_bad N.B F.Fbad Dkept⟩
  have bI : Binds K (fd 21) ["self", "period", "gaps"] [] := by
    obtain ⟨ds, v, b⟩ := F.Finit.binds1 (ps := ["self", "period", "gaps"]) 3 1 (by simp) rfl fun T kV doc pm an cdv ct us its h1 h2 => match us, h1, its, h2 with | [_, _, _], _, [_], _ => ⟨_, rfl, rfl⟩
    cases v
    exact b
  obtain ⟨ds, v1, b1⟩ := F.Finit.binds1 (ps := ["self", "period", "gaps"]) 2 0 (by simp) rfl fun T kV doc pm an cdv ct us its h1 h2 => match us, h1, its, h2 with | [_, _], _, [_], _ => ⟨_, rfl, rfl⟩
  obtain ⟨dv, rfl⟩ : ∃ dv, ds = [dv] := by
    cases v1 with
    | cons a b => cases b; exact ⟨_, rfl⟩
  obtain ⟨its, kI⟩ := F.Finit.kbindsD (ps := ["self", "period", "gaps"]) 1 ["period", "gaps"] (fun us _ ws => us ++ ws) (by simp) (fun r1 _ r3 => r1.append r3) fun T kV doc pm an cdv ct us its ws h1 h2 h3 => match us, h1, its, h2, ws, h3 with | [_], _, [_], _, [_, _], _ => ⟨_, rfl, rfl⟩
  have DI : DInit P w K base mg (He.ga K "Lengths") (He.ga K "BadLengths") (He.dflAt ("Lengths", some "__init__") 0 K) (He.ma K (He.ga K "Lengths") "__init__") (fd 21) dv (fun us ws => us ++ ws) := ⟨N.mkr, ok_init N.T F.Finit Dwrong DB, bI, b1, v1, kI, e.t0⟩
  have Mhas : Mt P w K mg base CX0 (He.ga K "Lengths") "__contains__" 1 (He.ma K (He.ga K "Lengths") "__contains__") (fd 22) ["self", "number"] (spHas (He.ga K "Lengths")) := ⟨N.mhas, bhas, ok_has N.T F.Fhas⟩
  have Meq : Mt P w K mg base CX0 (He.ga K "Lengths") "__eq__" 1 (He.ma K (He.ga K "Lengths") "__eq__") (fd 23) ["self", "other"] (spEq (He.ga K "Lengths")) := ⟨N.meq, beq, ok_eq N.T N.I e.st F.Feq⟩
  have Mtext : Mt P w K mg base CX0 (He.ga K "Lengths") "text" 1 (He.ma K (He.ga K "Lengths") "text") (fd 30) ["self"] (spText (He.ga K "Lengths")) := ⟨N.mtext, btext, ok_text N.T F.Ftext⟩
  have Mstr : Mt P w K mg base CX0 (He.ga K "Lengths") "__str__" 2 (He.ma K (He.ga K "Lengths") "__str__") (fd 24) ["self"] (spText (He.ga K "Lengths")) := ⟨N.mstr, bstr, ok_str N.T F.Fstr Mtext⟩
  have Mwithin : Mt P w K mg base CX0 (He.ga K "Lengths") "within" 2 (He.ma K (He.ga K "Lengths") "within") (fd 25) ["self", "other"] (spWithin (He.ga K "Lengths")) := ⟨N.mwithin, bwithin, ok_within N.T F.Fwithin Mhas⟩
  have Mleast : Mt P w K mg base CX0 (He.ga K "Lengths") "least" 1 (He.ma K (He.ga K "Lengths") "least") (fd 26) ["self", "count"] (spLeast (He.ga K "Lengths")) := ⟨N.mleast, bleast, ok_least N.T F.Fleast⟩
  have Mboth : Mt P w K mg base CX0 (He.ga K "Lengths") "both" 6 (He.ma K (He.ga K "Lengths") "both") (fd 27) ["self", "other"] (spBoth (He.ga K "Lengths")) := ⟨N.mboth, bboth, ok_both N.T F.Fboth DI⟩
  have Mtimes : Mt P w K mg base CX0 (He.ga K "Lengths") "times" 6 (He.ma K (He.ga K "Lengths") "times") (fd 28) ["self", "k"] (spTimes (He.ga K "Lengths")) := ⟨N.mtimes, btimes, ok_times N.T F.Ftimes DI⟩
  have Mparts : Mt P w K mg base CX0 (He.ga K "Lengths") "parts" 6 (He.ma K (He.ga K "Lengths") "parts") (fd 29) ["self", "k"] (spParts (He.ga K "Lengths")) := ⟨N.mparts, bparts, ok_parts N.T F.Fparts DI⟩
  have Djar : Dk P w K mg base CX0 "_law_jar" 1 (He.ga K "_law_jar") (fd 3) ["script"] (spJar0 K) := ⟨N.gjar, F.Fjar.kp, bjar, ok_jar N.T F.Fjar⟩
  have Ddraw : Dk P w K mg base CX0 "_law_draw" 1 (He.ga K "_law_draw") (fd 4) ["jar", "many"] spDraw := ⟨N.gdraw, F.Fdraw.kp, bdraw, ok_draw N.T F.Fdraw⟩
  have Dpick : Dk P w K mg base CX0 "_law_pick" 2 (He.ga K "_law_pick") (fd 5) ["jar", "menu"] spPick := ⟨N.gpick, F.Fpick.kp, bpick, ok_pick N.T F.Fpick Ddraw⟩
  have Dmixed : Dk P w K mg base CX0 "_law_mixed" 2 (He.ga K "_law_mixed") (fd 6) ["jar", "things"] spMixed := ⟨N.gmixed, F.Fmixed.kp, bmixed, ok_mixed N.T F.Fmixed Ddraw⟩
  have Ddiv : Dk P w K mg base CX0 "_law_divisor" 1 (He.ga K "_law_divisor") (fd 7) ["top", "low"] spDiv := ⟨N.gdiv, F.Fdiv.kp, bdiv, ok_div N.T F.Fdiv⟩
  have L0 : Dk P w K mg base CX0 "_law_like" 1 (He.ga K "_law_like") (fd 8) ["told", "due"] (spLike 0) := ⟨N.glike, F.Flike.kp, blike, ok_like0 N.T F.Flike⟩
  have L1 : Dk P w K mg base CX0 "_law_like" 2 (He.ga K "_law_like") (fd 8) ["told", "due"] (spLike 1) := ⟨N.glike, F.Flike.kp, blike, ok_like_of N.T F.Flike 0 L0⟩
  have Dlike : Dk P w K mg base CX0 "_law_like" 3 (He.ga K "_law_like") (fd 8) ["told", "due"] (spLike 2) := ⟨N.glike, F.Flike.kp, blike, ok_like_of N.T F.Flike 1 L1⟩
  have Dword : Dk P w K mg base CX0 "_law_lengths_word" 1 (He.ga K "_law_lengths_word") (fd 12) ["size", "missing"] spWord := ⟨N.gword, F.Fword.kp, bword, ok_word N.T F.Fword⟩
  have Dgl : Dk P w K mg base CX0 "_law_gap_list" 2 (He.ga K "_law_gap_list") (fd 13) ["jar", "size", "many", "top"] spGl := ⟨N.ggl, F.Fgl.kp, bgl, ok_gl N.T F.Fgl Ddraw⟩
  have Dlwrong : Dk P w K mg base CX0 "_law_wrong" 1 (He.ga K "_law_wrong") (fd 14) ["size", "missing"] spLWrong := ⟨N.glwrong, F.Flwrong.kp, blwrong, ok_lwrong N.T F.Flwrong⟩
  have Dlhas : Dk P w K mg base CX0 "_law_has" 1 (He.ga K "_law_has") (fd 15) ["bag", "num"] spLHas := ⟨N.glhas, F.Flhas.kp, blhas, ok_lhas N.T F.Flhas⟩
  have Dib : Dk P w K mg base CX0 "_law_is_bag" 6 (He.ga K "_law_is_bag") (fd 16) ["told", "bag"] (spIsBag (He.ga K "Lengths")) := ⟨N.gib, F.Fib.kp, bib, ok_ib N.T N.I e.nf F.Fib DI Dword Dlike Mtext Mstr Meq⟩
  have Dbnd : Dk P w K mg base CX0 "_law_bounded" 1 (He.ga K "_law_bounded") (fd 17) ["bag", "second"] spBnd := ⟨N.gbnd, F.Fbnd.kp, bbnd, ok_bnd N.T F.Fbnd⟩
  have kwithin : KBn K (fd 25) ["self", "other"] 1 ["other"] (fun us ws => us ++ ws) (fun vs zs => vs ++ zs) := kb_ofK F.Fwithin fun _ _ _ _ _ _ _ _ => rfl
  have kboth : KBn K (fd 27) ["self", "other"] 1 ["other"] (fun us ws => us ++ ws) (fun vs zs => vs ++ zs) := kb_ofK F.Fboth fun _ _ _ _ _ _ _ _ => rfl
  have kleast : KBn K (fd 26) ["self", "count"] 1 ["count"] (fun us ws => us ++ ws) (fun vs zs => vs ++ zs) := kb_ofK F.Fleast fun _ _ _ _ _ _ _ _ => rfl
  have kparts : KBn K (fd 29) ["self", "k"] 1 ["k"] (fun us ws => us ++ ws) (fun vs zs => vs ++ zs) := kb_ofK F.Fparts fun _ _ _ _ _ _ _ _ => rfl
  have Dph : Dk P w K mg base CX0 "_law_pair_holds" 7 (He.ga K "_law_pair_holds") (fd 18) ["one", "two", "bag", "second"] (spPair (He.ga K "Lengths")) := ⟨N.gph, F.Fph.kp, bph, ok_ph N.T F.Fph Dbnd Dlike Dlhas Ddiv Dib Mwithin kwithin Mboth kboth Meq⟩
  have FL : Flt P w K mg base (He.ga K "BadLengths") (He.ga K) (He.ga K "_law_fault") (He.ga K "_law_class") (He.ga K "_law_refused") (He.ga K "_law_like") (fd 10) (fd 9) (fd 11) (fd 8) :=
    ⟨e.xf, N.B.ng, N.XF.mg "RingError" (by decide), N.ring, N.gcls, F.Fcls.kp, bcls, fun a dx oe fs hz hf => ok_cls N.T N.XF F.Fcls hz hf fs, ⟨[], F.Ffault⟩, bfault, N.gfault, F.Ffault.kp, ⟨[], F.Fref⟩, bref, N.gref, F.Fref.kp, Dlike⟩
  refine ⟨fun x => (([("Lengths.__init__", He.ma K (He.ga K "Lengths") "__init__"), ("_law_jar", He.ga K "_law_jar"), ("_law_draw", He.ga K "_law_draw"), ("_law_pick", He.ga K "_law_pick"), ("_law_mixed", He.ga K "_law_mixed"), ("_law_divisor", He.ga K "_law_divisor"), ("_law_gap_list", He.ga K "_law_gap_list"), ("_law_wrong", He.ga K "_law_wrong"), ("_law_has", He.ga K "_law_has"), ("_law_is_bag", He.ga K "_law_is_bag"), ("_law_like", He.ga K "_law_like"), ("_law_pair_holds", He.ga K "_law_pair_holds"), ("Lengths.__contains__", He.ma K (He.ga K "Lengths") "__contains__"), ("Lengths.least", He.ma K (He.ga K "Lengths") "least"), ("Lengths.times", He.ma K (He.ga K "Lengths") "times"), ("Lengths.parts", He.ma K (He.ga K "Lengths") "parts"), ("_law_fault", He.ga K "_law_fault"), ("_law_class", He.ga K "_law_class"), ("_law_refused", He.ga K "_law_refused")] : List (Str × Addr)).lookup x).getD 0,
    fun x => (([("Lengths.__init__", fd 21), ("_law_jar", fd 3), ("_law_draw", fd 4), ("_law_pick", fd 5), ("_law_mixed", fd 6), ("_law_divisor", fd 7), ("_law_gap_list", fd 13), ("_law_wrong", fd 14), ("_law_has", fd 15), ("_law_is_bag", fd 16), ("_law_like", fd 8), ("_law_pair_holds", fd 18), ("Lengths.__contains__", fd 22), ("Lengths.least", fd 26), ("Lengths.times", fd 28), ("Lengths.parts", fd 29), ("_law_fault", fd 10), ("_law_class", fd 9), ("_law_refused", fd 11)] : List (Str × FuncData)).lookup x).getD (fd 0), dv, (fun us ws => us ++ ws), (fun us ws => us ++ ws), (fun us ws => us ++ ws), ?_⟩
  exact ⟨N.T, DI, Djar, Ddraw, Dpick, Dmixed, Ddiv, Dgl, Dlwrong, Dlhas, Dib, Dlike, Dph, Mhas, Mleast, kleast, Mtimes, Mparts, kparts, FL⟩
end
end Y

set_option Elab.async false
set_option linter.all false
set_option maxRecDepth 100000
set_option maxHeartbeats 2000000
/-! H5: the head's facts, the end of k07. -/
namespace Y
open PySem PySem.Spec PyProof.Rows L2 L2H LamX
theorem at07 {w : World} {K : PySem.W.Frag} {h : Heap} {mg : Str → Option Value} {fa : Addr} (X : K.In h) (G : h.Ns mainGlobals mg) (hfa : mg ("law" : Str) = some (.ref fa)) (c : He.SaysX fa07 fn07 [] tf07 exB w h K) :
    LawAtS PySem.Challenge.rw_ringsallow_k07_lengths_as_sets_of_number w K CX0 9 63 "script" mg fa h := by
  have e := exW c.more
  have N := nms07 X G c.t.d e
  obtain ⟨fd, F⟩ := defs07 c.t.d
  have ef := hfa.symm.trans N.glaw
  obtain rfl : fa = He.ga K "law" := by injection ef with ef; injection ef
  have b := FunD.bindsA (ps := ["script"]) F.Flaw fun _ _ _ _ _ _ us hl => match us, hl with | [_], _ => rfl
  obtain ⟨cc, hc⟩ : ∃ cc, (fd 19).code = .ref cc := by
    obtain ⟨oc, od, dV, kV, doc, pm, an, cdv, ct, osl, q, lk, hcd, _, _⟩ := F.Flaw.ex
    obtain ⟨cc, hcc⟩ := He.codeIn_ref hcd
    exact ⟨cc, by rw [q]; exact hcc⟩
  obtain ⟨Pt, ecs⟩ : ∃ Pt, He.cT K ("law", none) = (cc, Pt) := by
    refine ⟨_, Prod.ext ?_ rfl⟩
    obtain ⟨oc, od, dV, kV, doc, pm, an, cdv, ct, osl, q, lk, hcd, _, _⟩ := F.Flaw.ex
    exact He.codeOf_eq (p := ("law", none)) lk hc
  have m1 : (("law", none) : He.Defn) ∈ tf07 := List.mem_singleton.mpr rfl
  have h1 := c.hd _ m1
  have h2 := c.out _ m1
  have h3 := c.empty _ m1
  rw [ecs] at h1 h2 h3
  refine ⟨fd 19, [(cc, Pt)], spLaw K Pt, fun p hp => ?_, fun p hp => ?_, fun p hp => ?_, fun s u => b s [u] rfl, fun H a ns hl _ hP hS => ?_, fun base X2 G2 TB => ?_⟩
  · rw [List.mem_singleton.mp hp]; exact h3
  · rw [List.mem_singleton.mp hp]; exact h2
  · rw [List.mem_singleton.mp hp]; exact PySem.W.codeHd_of_K X h1
  · exact ⟨a, ns, rfl, fun H' al => SqL.all hS al, hl, hP _ (List.mem_singleton.mpr rfl), fun _ => rfl⟩
  · obtain ⟨f, fe, dv, g0, gL, gP, L⟩ := lawc07 (P := PySem.Challenge.rw_ringsallow_k07_lengths_as_sets_of_number.prog) (w := w) (mg := mg) (base := base) e N F
    exact ok_law L (TB _ (List.mem_singleton.mpr rfl)) F.Flaw hc
end Y
open PySem PySem.W PySem.Calls PyProof.Rows
theorem PySem.Challenge.cw_ringsallow_k07_lengths_as_sets_of_number_holds : PySem.Challenge.rw_ringsallow_k07_lengths_as_sets_of_number.Holds := by
  w_on; o_law
  refine HandSHeadRun.head_imp (r := OpenLaw.row PySem.Challenge.rw_ringsallow_k07_lengths_as_sets_of_number) (q := view (OpenLaw.row PySem.Challenge.rw_ringsallow_k07_lengths_as_sets_of_number).prog [0, 48]) (H := Y.hk07) (ob := Y.ob07) (M := 7200) (loose := Y.nm07) (d := HandSHeadRun.topDef (OpenLaw.row PySem.Challenge.rw_ringsallow_k07_lengths_as_sets_of_number).prog 48) (kwd := []) Y.ob07_eq
    Y.run07 (by kernel_rfl) (by kernel_rfl) (by kernel_rfl) (by rfl) (by first | assumption | decide +kernel) (by decide +kernel) ⟨rfl, rfl, rfl, rfl, rfl, by decide +kernel⟩ ?hw ?hc
  case hw => w_witness2
  case hc =>
    refine LamX.walk_ofTsE (l := PySem.Challenge.rw_ringsallow_k07_lengths_as_sets_of_number) (n := 63) (k := 9) (x := "script") (CX := fun _ => L2.CX0) rfl (by decide) (by kernel_rfl) ⟨rfl, by decide, by decide⟩ ?F (fun _ _ _ _ _ z => z)
    intro w mg fa h Y0 G hmg0
    obtain ⟨K, KX, c⟩ := Y0
    have hmg : mg ("law" : PySem.Str) = some (.ref fa) := by
      have e : (HandSHeadRun.topDef (OpenLaw.row PySem.Challenge.rw_ringsallow_k07_lengths_as_sets_of_number).prog 48).name = ("law" : PySem.Str) := by kernel_rfl
      rw [← e]
      exact hmg0
    exact ⟨K, KX, Y.at07 KX G hmg c⟩

