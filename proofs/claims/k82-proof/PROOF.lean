import PyProof.Rows.All
import Wide.All
import OpenK.AllK
import Wide.FinOn
import HandS.ForExc
import HandS.ForMost
import HandS.IsInst
import HandS.Strs
import HandS.Walk
import HandS.Flow
import PySem.Challenge.RW_doorhouses_k82_whole_texts_of_machines
import KE.GoesEnum
import HandS.TupAny
import HandS.Conv
import HandS.Zip
import HandS.DictComp
import HandS.SetKeys
import KE.KeyNested
import KE.KDictPairs
import HandS.CallRecv
import HandS.OwnEq
import HandS.Codes
import KE.KSuper
import KE.KExcSuper
import HandS.ExcInit
import KE.KDictZip
import HandS.SetFor
import HandS.Text
import KE.IntTextLaws
import HandS.Deep
import HandS.Small
import KE.KDictKeyed
import KE.KDictCopyH
import HandS.RaiseMore
import HandS.Lambda
import KE.KExcIs
import HandS.TryMany
import HandS.TupLe
import HandS.EndTab
import PyProof.Rows.RegFStrParts
import KE.KNestM
set_option Elab.async false
set_option maxRecDepth 100001
set_option maxHeartbeats 4100000
namespace T82
open PySem L2
/-! ### data that never change: None, bools, ints, texts, tuples of these -/
mutual
def Im (K : PySem.W.Frag) (H : Hp) : PyData → V → Prop
  | .none, v => v = .non
  | .bool b, v => v = .bl b
  | .int i, v => v = .int i
  | .str s, v => v = .str s
  | .tuple ds, v => ∃ p xs, v = .ref p ∧ SqT K H p xs ∧ ImAll K H ds xs
  | .list _, _ => False
  | .dict _, _ => False
def ImAll (K : PySem.W.Frag) (H : Hp) : List PyData → List V → Prop
  | [], vs => vs = []
  | d :: ds, vs => ∃ v vs', vs = v :: vs' ∧ Im K H d v ∧ ImAll K H ds vs'
end
def Keep (H H' : Hp) : Prop := ∀ b xs, Rd H b (.tup xs) → Rd H' b (.tup xs)
/-- all but at D is as it was -/
def But (D : Addr) (H H' : Hp) : Prop := ∀ b o, b ≠ D → H b = some o → H' b = some o
section
variable {K : PySem.W.Frag} {H H' H1 H2 : Hp} {D a : Addr} {o : HO} {xs : List V} {v : V} {d : PyData} {ds : List PyData}
theorem Keep.refl (H : Hp) : Keep H H := fun _ _ h => h
theorem Keep.trans (x : Keep H H1) (y : Keep H1 H2) : Keep H H2 := fun b xs h => y b xs (x b xs h)
theorem Same.keep (s : Same H H') : Keep H H' := fun b xs h => by
  rcases h with h | ⟨o, h⟩
  · exact .inl (s _ _ h)
  · exact .inr ⟨o, s _ _ h⟩
theorem Keep.upd (h : ∀ xs, ¬ Rd H a (.tup xs)) : Keep H (upd H a o) := fun b xs r => by
  have n : b ≠ a := fun e => h xs (e ▸ r)
  rcases r with r | ⟨u, r⟩
  · exact .inl (by rw [upd_ne n]; exact r)
  · exact .inr ⟨u, by rw [upd_ne n]; exact r⟩
theorem notup_none (h : H a = none) : ∀ xs, ¬ Rd H a (.tup xs) := fun xs r => by
  rcases r with r | ⟨u, r⟩ <;> rw [h] at r <;> cases r
theorem notup_lst (h : H a = some (.lst xs)) : ∀ ys, ¬ Rd H a (.tup ys) := fun ys r => by
  rcases r with r | ⟨u, r⟩ <;> rw [h] at r <;> cases r
theorem Keep.new (h : H a = none) : Keep H (L2.upd H a o) := Keep.upd (notup_none h)
theorem Keep.sq (k : Keep H H') (h : SqT K H a xs) : SqT K H' a xs := by
  rcases h with h | h
  · exact .inl (k _ _ h)
  · exact .inr h
theorem But.same (b : But D H H') (n : H D = none) : Same H H' := fun c o h => b c o (ne_of_none h n) h
theorem But.keep (b : But D H H') (n : ∀ ys, ¬ Rd H D (.tup ys)) : Keep H H' := fun c xs r => by
  have ne : c ≠ D := fun e => n xs (e ▸ r)
  rcases r with r | ⟨o, r⟩
  · exact .inl (b _ _ ne r)
  · exact .inr ⟨o, b _ _ ne r⟩
mutual
theorem Im.mono (k : Keep H H') : ∀ (d : PyData) (v : V), Im K H d v → Im K H' d v
  | .none, _, h => h
  | .bool _, _, h => h
  | .int _, _, h => h
  | .str _, _, h => h
  | .tuple ds, v, h => by
    simp only [Im] at h ⊢
    obtain ⟨p, xs, e, q, r⟩ := h
    exact ⟨p, xs, e, k.sq q, ImAll.mono k ds xs r⟩
  | .list _, _, h => by simp only [Im] at h
  | .dict _, _, h => by simp only [Im] at h
theorem ImAll.mono (k : Keep H H') : ∀ (ds : List PyData) (vs : List V), ImAll K H ds vs → ImAll K H' ds vs
  | [], _, h => h
  | d :: ds, vs, h => by
    simp only [ImAll] at h ⊢
    obtain ⟨v, vs', e, q, r⟩ := h
    exact ⟨v, vs', e, Im.mono k d v q, ImAll.mono k ds vs' r⟩
end
mutual
theorem Im.dp : ∀ (d : PyData) (v : V), Im K H d v → Dp K H v d
  | .none, _, h => by simp only [Im] at h; subst h; exact .non
  | .bool b, _, h => by simp only [Im] at h; subst h; exact .bl b
  | .int b, _, h => by simp only [Im] at h; subst h; exact .int b
  | .str b, _, h => by simp only [Im] at h; subst h; exact .str b
  | .tuple ds, v, h => by
    simp only [Im] at h
    obtain ⟨p, xs, rfl, q, r⟩ := h
    exact .tup q (ImAll.dp ds xs r)
  | .list _, _, h => by simp only [Im] at h
  | .dict _, _, h => by simp only [Im] at h
theorem ImAll.dp : ∀ (ds : List PyData) (vs : List V), ImAll K H ds vs → DpAll K H vs ds
  | [], _, h => by simp only [ImAll] at h; subst h; exact .nil
  | d :: ds, vs, h => by
    simp only [ImAll] at h
    obtain ⟨v, vs', rfl, q, r⟩ := h
    exact .cons (Im.dp d v q) (ImAll.dp ds vs' r)
end
theorem im_int {i : Int} : Im K H (.int i) (.int i) := by simp only [Im]
theorem im_str {i : Str} : Im K H (.str i) (.str i) := by simp only [Im]
theorem im_bl {i : Bool} : Im K H (.bool i) (.bl i) := by simp only [Im]
theorem im_non : Im K H .none .non := by simp only [Im]
theorem im_tup (h : SqT K H a xs) (r : ImAll K H ds xs) : Im K H (.tuple ds) (.ref a) := by
  simp only [Im]
  exact ⟨a, xs, rfl, h, r⟩
theorem Im.int_ {i : Int} (h : Im K H (.int i) v) : v = .int i := by simpa only [Im] using h
theorem Im.str_ {i : Str} (h : Im K H (.str i) v) : v = .str i := by simpa only [Im] using h
theorem Im.bl_ {i : Bool} (h : Im K H (.bool i) v) : v = .bl i := by simpa only [Im] using h
theorem Im.non_ (h : Im K H .none v) : v = .non := by simpa only [Im] using h
theorem Im.tup_ (h : Im K H (.tuple ds) v) : ∃ p xs, v = .ref p ∧ SqT K H p xs ∧ ImAll K H ds xs := by simpa only [Im] using h
theorem ia_nil : ImAll K H [] [] := by simp only [ImAll]
theorem ia_cons {vs : List V} (h : Im K H d v) (r : ImAll K H ds vs) : ImAll K H (d :: ds) (v :: vs) := by
  simp only [ImAll]
  exact ⟨v, vs, rfl, h, r⟩
theorem ImAll.nil_ {vs : List V} (h : ImAll K H [] vs) : vs = [] := by simpa only [ImAll] using h
theorem ImAll.cons_ {vs : List V} (h : ImAll K H (d :: ds) vs) : ∃ v vs', vs = v :: vs' ∧ Im K H d v ∧ ImAll K H ds vs' := by simpa only [ImAll] using h
theorem ImAll.len : ∀ {ds : List PyData} {vs : List V}, ImAll K H ds vs → vs.length = ds.length
  | [], _, h => by rw [h.nil_]; rfl
  | d :: ds, vs, h => by
    obtain ⟨v, vs', rfl, _, r⟩ := h.cons_
    simp [ImAll.len r]
theorem ImAll.get : ∀ {ds : List PyData} {vs : List V} {i : Nat} {d : PyData}, ImAll K H ds vs → ds[i]? = some d → ∃ v, vs[i]? = some v ∧ Im K H d v
  | [], _, _, _, _, e => by simp at e
  | d :: ds, vs, 0, _, h, e => by
    obtain ⟨v, vs', rfl, q, r⟩ := h.cons_
    simp at e
    subst e
    exact ⟨v, rfl, q⟩
  | d :: ds, vs, i + 1, _, h, e => by
    obtain ⟨v, vs', rfl, q, r⟩ := h.cons_
    simp at e
    obtain ⟨u, h1, h2⟩ := ImAll.get r e
    exact ⟨u, by simpa using h1, h2⟩
theorem ImAll.app : ∀ {ds es : List PyData} {vs us : List V}, ImAll K H ds vs → ImAll K H es us → ImAll K H (ds ++ es) (vs ++ us)
  | [], _, _, _, h, h' => by rw [h.nil_]; exact h'
  | d :: ds, es, vs, us, h, h' => by
    obtain ⟨v, vs', rfl, q, r⟩ := h.cons_
    exact ia_cons q (ImAll.app r h')
theorem ImAll.drop : ∀ {ds : List PyData} {vs : List V} (n : Nat), ImAll K H ds vs → ImAll K H (ds.drop n) (vs.drop n)
  | _, _, 0, h => by simpa using h
  | [], vs, n + 1, h => by rw [h.nil_]; simpa using ia_nil
  | d :: ds, vs, n + 1, h => by
    obtain ⟨v, vs', rfl, q, r⟩ := h.cons_
    simpa using ImAll.drop n r
theorem ImAll.take : ∀ {ds : List PyData} {vs : List V} (n : Nat), ImAll K H ds vs → ImAll K H (ds.take n) (vs.take n)
  | _, _, 0, _ => by simpa using ia_nil
  | [], vs, n + 1, h => by rw [h.nil_]; simpa using ia_nil
  | d :: ds, vs, n + 1, h => by
    obtain ⟨v, vs', rfl, q, r⟩ := h.cons_
    simpa using ia_cons q (ImAll.take n r)
end
/-! ### a comprehension without tests whose element is reckoned without changing what stands -/
section
variable {K : PySem.W.Frag} {J : It} {n : Nat} {G : Hp → Prop} {Y : Nat → Hp → V → Hp → Prop}
theorem lc_im (w : Walk J n G Y) {g : TG} {te : TE} {vs : List Nat} {σ : L2.St} {H1 : Hp} {D : Addr} {Qd : Hp → Prop} (nD : H1 D = none) (ds : List PyData) (hn : ds.length = n) (sz : n ≤ 100000)
    (hG : ∀ H, But D H1 H → G H)
    (hs : ∀ i d x H H', ds[i]? = some d → But D H1 H → H D ≠ none → Y i H x H' → Same H H' ∧ ∀ N : VK, (∀ y H4, Same H' H4 → Im K H4 d y → N y H4) → g x (wipe σ vs) H' fun σ2 H2 => wipe σ2 vs = wipe σ vs ∧ te σ2 H2 N)
    (hd : ∀ H ys, But D H1 H → H D = some (.lst ys) → ImAll K H ds ys → Qd H) :
    ∃ W : Nat → Nat → Hp → Prop, (∃ m, W 0 m (upd H1 D (.lst []))) ∧ ∀ i m H, W i m H →
      (J.stop i H ∧ Qd H) ∨ (J.go i H ∧ ∃ Nx : Hp → Prop, (∀ H', Nx H' → ∃ m', m' < m ∧ W (i + 1) m' H') ∧ ∀ x H', J.yld i H x H' → g x (wipe σ vs) H' fun σ2 H2 => wipe σ2 vs = wipe σ vs ∧ tYes σ2 H2 fun b H3 =>
        if b = true then te σ2 H3 fun y H4 => ∃ acc, H4 D = some (.lst acc) ∧ acc.length < sizeLine ∧ Nx (upd H4 D (.lst (acc ++ [y]))) else Nx H3) := by
  refine lc_it w (fun i H => But D H1 H ∧ ∃ ys, H D = some (.lst ys) ∧ ImAll K H (ds.take i) ys) ⟨fun b o ne h => by rw [upd_ne ne]; exact h, [], upd_same, by simpa using ia_nil⟩ (fun i H _ p => hG H p.1) (fun i x H H' hi p y => ?_) (fun H p => ?_)
  · obtain ⟨b, ys, hy, r⟩ := p
    have hlt : i < ds.length := by omega
    obtain ⟨s1, q⟩ := hs i ds[i] x H H' (by simp [hlt]) b (by rw [hy]; simp) y
    have q := q (fun y H4 => ∃ acc, H4 D = some (.lst acc) ∧ acc.length < sizeLine ∧ (But D H1 (upd H4 D (.lst (acc ++ [y]))) ∧ ∃ ys, (upd H4 D (.lst (acc ++ [y]))) D = some (.lst ys) ∧ ImAll K (upd H4 D (.lst (acc ++ [y]))) (ds.take (i + 1)) ys)) ?_
    · refine cast ?_ q
      rfl
    · intro y H4 s4 hy4
      have hD4 : H4 D = some (.lst ys) := s4 _ _ (s1 _ _ hy)
      have kp : Keep H4 (upd H4 D (.lst (ys ++ [y]))) := Keep.upd (notup_lst hD4)
      have k0 : Keep H H4 := (Same.keep s1).trans (Same.keep s4)
      have lz : ys.length ≤ 100000 := by
        have := r.len
        simp at this
        omega
      refine ⟨ys, hD4, Nat.lt_of_le_of_lt lz (by decide), fun c o ne h => by rw [upd_ne ne]; exact s4 _ _ (s1 _ _ (b c o ne h)), ys ++ [y], upd_same, ?_⟩
      rw [List.take_succ, List.getElem?_eq_getElem hlt]
      exact ImAll.app (ImAll.mono (k0.trans kp) _ _ r) (ia_cons (Im.mono kp _ _ hy4) ia_nil)
  · obtain ⟨b, ys, hy, r⟩ := p
    rw [← hn, List.take_length] at r
    exact hd H ys b hy r
end
end T82
namespace T82
open PySem L2
def top (i : Nat) : Stmt := PySem.Challenge.pw_doorhouses_k82_whole_texts_of_machines.main.body.getD i (.Pass ⟨0, 0, 0, 0⟩)
abbrev s_is_integer : Stmt := top 4
abbrev s_is_within : Stmt := top 5
abbrev s_is_name : Stmt := top 6
abbrev s_is_tuple : Stmt := top 7
abbrev s_are_unlike : Stmt := top 8
abbrev s_is_unknown : Stmt := top 18
abbrev s_is_word : Stmt := top 19
abbrev s_is_called : Stmt := top 20
abbrev s_size_of : Stmt := top 21
abbrev s_parts_of : Stmt := top 22
abbrev s_numbers_in : Stmt := top 23
abbrev s_is_built : Stmt := top 28
abbrev s_check_built : Stmt := top 29
abbrev s_shape_of_name : Stmt := top 30
abbrev s_Machine_init : Stmt := inClass (top 31) 0
abbrev s_Machine_is_rule : Stmt := inClass (top 31) 1
abbrev s_Machine_eq : Stmt := inClass (top 31) 2
abbrev s_state_of : Stmt := top 32
abbrev s_state : Stmt := top 33
abbrev s_takes : Stmt := top 34
abbrev s_Order_init : Stmt := inClass (top 36) 0
abbrev s_Order_is_greater : Stmt := inClass (top 36) 1
abbrev s_Order_looked : Stmt := inClass (top 36) 2
abbrev s_are_words : Stmt := top 44
abbrev s_are_sealed : Stmt := top 45
abbrev s_are_heads : Stmt := top 46
abbrev s_Shape_init : Stmt := inClass (top 47) 0
abbrev s_Shape_kind_of : Stmt := inClass (top 47) 2
abbrev s_Shape_is_asker : Stmt := inClass (top 47) 3
abbrev s_Shape_told : Stmt := inClass (top 47) 4
abbrev s_Shape_told_together : Stmt := inClass (top 47) 5
abbrev s_Shape_told_beside : Stmt := inClass (top 47) 6
abbrev s_Shape_kind_by : Stmt := inClass (top 47) 7
abbrev s_is_law : Stmt := top 48
abbrev s_Door_init : Stmt := inClass (top 49) 0
abbrev s_Door_eq : Stmt := inClass (top 49) 1
abbrev s_number_of : Stmt := top 53
abbrev s_lines_of : Stmt := top 54
abbrev s_machine_text : Stmt := top 55
abbrev s_rule_line : Stmt := top 56
abbrev s_last_line : Stmt := top 57
abbrev s_read_machine : Stmt := top 58
abbrev s__law_tape : Stmt := top 60
abbrev s__law_pick : Stmt := top 61
abbrev s__law_any : Stmt := top 62
abbrev s__law_mixed : Stmt := top 63
abbrev s__law_parts : Stmt := top 64
abbrev s__law_told : Stmt := top 65
abbrev s__law_states : Stmt := top 66
abbrev s__law_keys : Stmt := top 67
abbrev s__law_rules : Stmt := top 68
abbrev s__law_text : Stmt := top 69
abbrev s__law_term : Stmt := top 70
abbrev s__law_state : Stmt := top 71
abbrev s__law_is_read_alike : Stmt := top 72
abbrev s__law_joined : Stmt := top 73
abbrev s__law_is_misread : Stmt := top 74
abbrev s__law_is_no_machine : Stmt := top 75
abbrev s__law_known_right : Stmt := top 76
abbrev s_law : Stmt := top 77
/-- what the top has left -/
structure Tx (K : PySem.W.Frag) (mg : Str → Option Value) where
  t_ValueError : mg "ValueError" = none
  t_abs : mg "abs" = none
  t_all : mg "all" = none
  t_any : mg "any" = none
  t_bool : mg "bool" = none
  t_dict : mg "dict" = none
  t_enumerate : mg "enumerate" = none
  t_int : mg "int" = none
  t_isinstance : mg "isinstance" = none
  t_len : mg "len" = none
  t_list : mg "list" = none
  t_range : mg "range" = none
  t_repr : mg "repr" = none
  t_set : mg "set" = none
  t_sorted : mg "sorted" = none
  t_str : mg "str" = none
  t_sum : mg "sum" = none
  t_super : mg "super" = none
  t_tuple : mg "tuple" = none
  t_zip : mg "zip" = none
  k_LETTERS : Tok
  c_LETTERS : mg "LETTERS" = some (.str "abcdefghijklmnopqrstuvwxyz" k_LETTERS)
  k_MOST_LETTERS : Tok
  c_MOST_LETTERS : mg "MOST_LETTERS" = some (.int 8 k_MOST_LETTERS)
  k_MOST_NUMBER : Tok
  c_MOST_NUMBER : mg "MOST_NUMBER" = some (.int 999 k_MOST_NUMBER)
  k_UNKNOWN : Tok
  c_UNKNOWN : mg "UNKNOWN" = some (.str "?" k_UNKNOWN)
  k_MOST_STATES : Tok
  c_MOST_STATES : mg "MOST_STATES" = some (.int 60 k_MOST_STATES)
  k_MOST_RULES : Tok
  c_MOST_RULES : mg "MOST_RULES" = some (.int 600 k_MOST_RULES)
  k_MOST_PARTS : Tok
  c_MOST_PARTS : mg "MOST_PARTS" = some (.int 60 k_MOST_PARTS)
  k_MOST_KINDS : Tok
  c_MOST_KINDS : mg "MOST_KINDS" = some (.int 4 k_MOST_KINDS)
  k_MOST_WORDS : Tok
  c_MOST_WORDS : mg "MOST_WORDS" = some (.int 4 k_MOST_WORDS)
  k_MOST_HEADS : Tok
  c_MOST_HEADS : mg "MOST_HEADS" = some (.int 12 k_MOST_HEADS)
  k_MOST_LAWS : Tok
  c_MOST_LAWS : mg "MOST_LAWS" = some (.int 16 k_MOST_LAWS)
  k_MOST_LAW_PARTS : Tok
  c_MOST_LAW_PARTS : mg "MOST_LAW_PARTS" = some (.int 30 k_MOST_LAW_PARTS)
  k_MOST_SHAPE : Tok
  c_MOST_SHAPE : mg "MOST_SHAPE" = some (.int 3 k_MOST_SHAPE)
  k_FIGURES : Tok
  c_FIGURES : mg "FIGURES" = some (.str "0123456789" k_FIGURES)
  k_MOST_FIGURES : Tok
  c_MOST_FIGURES : mg "MOST_FIGURES" = some (.int 3 k_MOST_FIGURES)
  C_DoorError : Addr
  m_DoorError : mg "DoorError" = some (.ref C_DoorError)
  C_BadDoor : Addr
  m_BadDoor : mg "BadDoor" = some (.ref C_BadDoor)
  C_BadText : Addr
  m_BadText : mg "BadText" = some (.ref C_BadText)
  C_BadMachine : Addr
  m_BadMachine : mg "BadMachine" = some (.ref C_BadMachine)
  C_NoBuilt : Addr
  m_NoBuilt : mg "NoBuilt" = some (.ref C_NoBuilt)
  C_Machine : Addr
  m_Machine : mg "Machine" = some (.ref C_Machine)
  C_Order : Addr
  m_Order : mg "Order" = some (.ref C_Order)
  C_Shape : Addr
  m_Shape : mg "Shape" = some (.ref C_Shape)
  C_Door : Addr
  m_Door : mg "Door" = some (.ref C_Door)
  f_is_integer : Addr
  d_is_integer : FuncData
  F_is_integer : Fun K "is_integer" "is_integer" s_is_integer f_is_integer d_is_integer
  m_is_integer : mg "is_integer" = some (.ref f_is_integer)
  f_is_within : Addr
  d_is_within : FuncData
  F_is_within : Fun K "is_within" "is_within" s_is_within f_is_within d_is_within
  m_is_within : mg "is_within" = some (.ref f_is_within)
  f_is_name : Addr
  d_is_name : FuncData
  F_is_name : Fun K "is_name" "is_name" s_is_name f_is_name d_is_name
  m_is_name : mg "is_name" = some (.ref f_is_name)
  f_is_tuple : Addr
  d_is_tuple : FuncData
  F_is_tuple : Fun K "is_tuple" "is_tuple" s_is_tuple f_is_tuple d_is_tuple
  m_is_tuple : mg "is_tuple" = some (.ref f_is_tuple)
  f_are_unlike : Addr
  d_are_unlike : FuncData
  F_are_unlike : Fun K "are_unlike" "are_unlike" s_are_unlike f_are_unlike d_are_unlike
  m_are_unlike : mg "are_unlike" = some (.ref f_are_unlike)
  f_is_unknown : Addr
  d_is_unknown : FuncData
  F_is_unknown : Fun K "is_unknown" "is_unknown" s_is_unknown f_is_unknown d_is_unknown
  m_is_unknown : mg "is_unknown" = some (.ref f_is_unknown)
  f_is_word : Addr
  d_is_word : FuncData
  F_is_word : Fun K "is_word" "is_word" s_is_word f_is_word d_is_word
  m_is_word : mg "is_word" = some (.ref f_is_word)
  f_is_called : Addr
  d_is_called : FuncData
  F_is_called : Fun K "is_called" "is_called" s_is_called f_is_called d_is_called
  m_is_called : mg "is_called" = some (.ref f_is_called)
  f_size_of : Addr
  d_size_of : FuncData
  F_size_of : Fun K "size_of" "size_of" s_size_of f_size_of d_size_of
  m_size_of : mg "size_of" = some (.ref f_size_of)
  f_parts_of : Addr
  d_parts_of : FuncData
  F_parts_of : Fun K "parts_of" "parts_of" s_parts_of f_parts_of d_parts_of
  m_parts_of : mg "parts_of" = some (.ref f_parts_of)
  f_numbers_in : Addr
  d_numbers_in : FuncData
  F_numbers_in : Fun K "numbers_in" "numbers_in" s_numbers_in f_numbers_in d_numbers_in
  m_numbers_in : mg "numbers_in" = some (.ref f_numbers_in)
  f_is_built : Addr
  d_is_built : FuncData
  F_is_built : Fun K "is_built" "is_built" s_is_built f_is_built d_is_built
  m_is_built : mg "is_built" = some (.ref f_is_built)
  f_check_built : Addr
  d_check_built : FuncData
  F_check_built : Fun K "check_built" "check_built" s_check_built f_check_built d_check_built
  m_check_built : mg "check_built" = some (.ref f_check_built)
  f_shape_of_name : Addr
  d_shape_of_name : FuncData
  F_shape_of_name : Fun K "shape_of_name" "shape_of_name" s_shape_of_name f_shape_of_name d_shape_of_name
  m_shape_of_name : mg "shape_of_name" = some (.ref f_shape_of_name)
  f_Machine_init : Addr
  d_Machine_init : FuncData
  F_Machine_init : Fun K "__init__" "Machine.__init__" s_Machine_init f_Machine_init d_Machine_init
  M_Machine : Mk K C_Machine f_Machine_init
  f_Machine_is_rule : Addr
  d_Machine_is_rule : FuncData
  F_Machine_is_rule : Fun K "is_rule" "Machine.is_rule" s_Machine_is_rule f_Machine_is_rule d_Machine_is_rule
  M_Machine_is_rule : Meth K C_Machine "is_rule" f_Machine_is_rule
  f_Machine_eq : Addr
  d_Machine_eq : FuncData
  F_Machine_eq : Fun K "__eq__" "Machine.__eq__" s_Machine_eq f_Machine_eq d_Machine_eq
  f_state_of : Addr
  d_state_of : FuncData
  F_state_of : Fun K "state_of" "state_of" s_state_of f_state_of d_state_of
  m_state_of : mg "state_of" = some (.ref f_state_of)
  f_state : Addr
  d_state : FuncData
  F_state : Fun K "state" "state" s_state f_state d_state
  m_state : mg "state" = some (.ref f_state)
  f_takes : Addr
  d_takes : FuncData
  F_takes : Fun K "takes" "takes" s_takes f_takes d_takes
  m_takes : mg "takes" = some (.ref f_takes)
  f_Order_init : Addr
  d_Order_init : FuncData
  F_Order_init : Fun K "__init__" "Order.__init__" s_Order_init f_Order_init d_Order_init
  M_Order : Mk K C_Order f_Order_init
  f_Order_is_greater : Addr
  d_Order_is_greater : FuncData
  F_Order_is_greater : Fun K "is_greater" "Order.is_greater" s_Order_is_greater f_Order_is_greater d_Order_is_greater
  M_Order_is_greater : Meth K C_Order "is_greater" f_Order_is_greater
  f_Order_looked : Addr
  d_Order_looked : FuncData
  F_Order_looked : Fun K "looked" "Order.looked" s_Order_looked f_Order_looked d_Order_looked
  M_Order_looked : Meth K C_Order "looked" f_Order_looked
  f_are_words : Addr
  d_are_words : FuncData
  F_are_words : Fun K "are_words" "are_words" s_are_words f_are_words d_are_words
  m_are_words : mg "are_words" = some (.ref f_are_words)
  f_are_sealed : Addr
  d_are_sealed : FuncData
  F_are_sealed : Fun K "are_sealed" "are_sealed" s_are_sealed f_are_sealed d_are_sealed
  m_are_sealed : mg "are_sealed" = some (.ref f_are_sealed)
  f_are_heads : Addr
  d_are_heads : FuncData
  F_are_heads : Fun K "are_heads" "are_heads" s_are_heads f_are_heads d_are_heads
  m_are_heads : mg "are_heads" = some (.ref f_are_heads)
  f_Shape_init : Addr
  d_Shape_init : FuncData
  F_Shape_init : Fun K "__init__" "Shape.__init__" s_Shape_init f_Shape_init d_Shape_init
  M_Shape : Mk K C_Shape f_Shape_init
  f_Shape_kind_of : Addr
  d_Shape_kind_of : FuncData
  F_Shape_kind_of : Fun K "kind_of" "Shape.kind_of" s_Shape_kind_of f_Shape_kind_of d_Shape_kind_of
  M_Shape_kind_of : Meth K C_Shape "kind_of" f_Shape_kind_of
  f_Shape_is_asker : Addr
  d_Shape_is_asker : FuncData
  F_Shape_is_asker : Fun K "is_asker" "Shape.is_asker" s_Shape_is_asker f_Shape_is_asker d_Shape_is_asker
  M_Shape_is_asker : Meth K C_Shape "is_asker" f_Shape_is_asker
  f_Shape_told : Addr
  d_Shape_told : FuncData
  F_Shape_told : Fun K "told" "Shape.told" s_Shape_told f_Shape_told d_Shape_told
  M_Shape_told : Meth K C_Shape "told" f_Shape_told
  f_Shape_told_together : Addr
  d_Shape_told_together : FuncData
  F_Shape_told_together : Fun K "told_together" "Shape.told_together" s_Shape_told_together f_Shape_told_together d_Shape_told_together
  M_Shape_told_together : Meth K C_Shape "told_together" f_Shape_told_together
  f_Shape_told_beside : Addr
  d_Shape_told_beside : FuncData
  F_Shape_told_beside : Fun K "told_beside" "Shape.told_beside" s_Shape_told_beside f_Shape_told_beside d_Shape_told_beside
  M_Shape_told_beside : Meth K C_Shape "told_beside" f_Shape_told_beside
  f_Shape_kind_by : Addr
  d_Shape_kind_by : FuncData
  F_Shape_kind_by : Fun K "kind_by" "Shape.kind_by" s_Shape_kind_by f_Shape_kind_by d_Shape_kind_by
  M_Shape_kind_by : Meth K C_Shape "kind_by" f_Shape_kind_by
  f_is_law : Addr
  d_is_law : FuncData
  F_is_law : Fun K "is_law" "is_law" s_is_law f_is_law d_is_law
  m_is_law : mg "is_law" = some (.ref f_is_law)
  f_Door_init : Addr
  d_Door_init : FuncData
  F_Door_init : Fun K "__init__" "Door.__init__" s_Door_init f_Door_init d_Door_init
  M_Door : Mk K C_Door f_Door_init
  f_Door_eq : Addr
  d_Door_eq : FuncData
  F_Door_eq : Fun K "__eq__" "Door.__eq__" s_Door_eq f_Door_eq d_Door_eq
  f_number_of : Addr
  d_number_of : FuncData
  F_number_of : Fun K "number_of" "number_of" s_number_of f_number_of d_number_of
  m_number_of : mg "number_of" = some (.ref f_number_of)
  f_lines_of : Addr
  d_lines_of : FuncData
  F_lines_of : Fun K "lines_of" "lines_of" s_lines_of f_lines_of d_lines_of
  m_lines_of : mg "lines_of" = some (.ref f_lines_of)
  f_machine_text : Addr
  d_machine_text : FuncData
  F_machine_text : Fun K "machine_text" "machine_text" s_machine_text f_machine_text d_machine_text
  m_machine_text : mg "machine_text" = some (.ref f_machine_text)
  f_rule_line : Addr
  d_rule_line : FuncData
  F_rule_line : Fun K "rule_line" "rule_line" s_rule_line f_rule_line d_rule_line
  m_rule_line : mg "rule_line" = some (.ref f_rule_line)
  f_last_line : Addr
  d_last_line : FuncData
  F_last_line : Fun K "last_line" "last_line" s_last_line f_last_line d_last_line
  m_last_line : mg "last_line" = some (.ref f_last_line)
  f_read_machine : Addr
  d_read_machine : FuncData
  F_read_machine : Fun K "read_machine" "read_machine" s_read_machine f_read_machine d_read_machine
  m_read_machine : mg "read_machine" = some (.ref f_read_machine)
  f__law_tape : Addr
  d__law_tape : FuncData
  F__law_tape : Fun K "_law_tape" "_law_tape" s__law_tape f__law_tape d__law_tape
  m__law_tape : mg "_law_tape" = some (.ref f__law_tape)
  f__law_pick : Addr
  d__law_pick : FuncData
  F__law_pick : Fun K "_law_pick" "_law_pick" s__law_pick f__law_pick d__law_pick
  m__law_pick : mg "_law_pick" = some (.ref f__law_pick)
  f__law_any : Addr
  d__law_any : FuncData
  F__law_any : Fun K "_law_any" "_law_any" s__law_any f__law_any d__law_any
  m__law_any : mg "_law_any" = some (.ref f__law_any)
  f__law_mixed : Addr
  d__law_mixed : FuncData
  F__law_mixed : Fun K "_law_mixed" "_law_mixed" s__law_mixed f__law_mixed d__law_mixed
  m__law_mixed : mg "_law_mixed" = some (.ref f__law_mixed)
  f__law_parts : Addr
  d__law_parts : FuncData
  F__law_parts : Fun K "_law_parts" "_law_parts" s__law_parts f__law_parts d__law_parts
  m__law_parts : mg "_law_parts" = some (.ref f__law_parts)
  f__law_told : Addr
  d__law_told : FuncData
  F__law_told : Fun K "_law_told" "_law_told" s__law_told f__law_told d__law_told
  m__law_told : mg "_law_told" = some (.ref f__law_told)
  f__law_states : Addr
  d__law_states : FuncData
  F__law_states : Fun K "_law_states" "_law_states" s__law_states f__law_states d__law_states
  m__law_states : mg "_law_states" = some (.ref f__law_states)
  f__law_keys : Addr
  d__law_keys : FuncData
  F__law_keys : Fun K "_law_keys" "_law_keys" s__law_keys f__law_keys d__law_keys
  m__law_keys : mg "_law_keys" = some (.ref f__law_keys)
  f__law_rules : Addr
  d__law_rules : FuncData
  F__law_rules : Fun K "_law_rules" "_law_rules" s__law_rules f__law_rules d__law_rules
  m__law_rules : mg "_law_rules" = some (.ref f__law_rules)
  f__law_text : Addr
  d__law_text : FuncData
  F__law_text : Fun K "_law_text" "_law_text" s__law_text f__law_text d__law_text
  m__law_text : mg "_law_text" = some (.ref f__law_text)
  f__law_term : Addr
  d__law_term : FuncData
  F__law_term : Fun K "_law_term" "_law_term" s__law_term f__law_term d__law_term
  m__law_term : mg "_law_term" = some (.ref f__law_term)
  f__law_state : Addr
  d__law_state : FuncData
  F__law_state : Fun K "_law_state" "_law_state" s__law_state f__law_state d__law_state
  m__law_state : mg "_law_state" = some (.ref f__law_state)
  f__law_is_read_alike : Addr
  d__law_is_read_alike : FuncData
  F__law_is_read_alike : Fun K "_law_is_read_alike" "_law_is_read_alike" s__law_is_read_alike f__law_is_read_alike d__law_is_read_alike
  m__law_is_read_alike : mg "_law_is_read_alike" = some (.ref f__law_is_read_alike)
  f__law_joined : Addr
  d__law_joined : FuncData
  F__law_joined : Fun K "_law_joined" "_law_joined" s__law_joined f__law_joined d__law_joined
  m__law_joined : mg "_law_joined" = some (.ref f__law_joined)
  f__law_is_misread : Addr
  d__law_is_misread : FuncData
  F__law_is_misread : Fun K "_law_is_misread" "_law_is_misread" s__law_is_misread f__law_is_misread d__law_is_misread
  m__law_is_misread : mg "_law_is_misread" = some (.ref f__law_is_misread)
  f__law_is_no_machine : Addr
  d__law_is_no_machine : FuncData
  F__law_is_no_machine : Fun K "_law_is_no_machine" "_law_is_no_machine" s__law_is_no_machine f__law_is_no_machine d__law_is_no_machine
  m__law_is_no_machine : mg "_law_is_no_machine" = some (.ref f__law_is_no_machine)
  f__law_known_right : Addr
  d__law_known_right : FuncData
  F__law_known_right : Fun K "_law_known_right" "_law_known_right" s__law_known_right f__law_known_right d__law_known_right
  m__law_known_right : mg "_law_known_right" = some (.ref f__law_known_right)
  f_law : Addr
  d_law : FuncData
  F_law : Fun K "law" "law" s_law f_law d_law
  m_law : mg "law" = some (.ref f_law)
  cl_Machine : Cls K C_Machine
  n_Machine_door : NoAttr K C_Machine "door"
  n_Machine_leads : NoAttr K C_Machine "leads"
  n_Machine_state_kinds : NoAttr K C_Machine "state_kinds"
  n_Machine_order_told : NoAttr K C_Machine "order_told"
  n_Machine_rules : NoAttr K C_Machine "rules"
  n_Machine_last : NoAttr K C_Machine "last"
  cl_Order : Cls K C_Order
  n_Order_rank : NoAttr K C_Order "rank"
  n_Order_found : NoAttr K C_Order "found"
  cl_Shape : Cls K C_Shape
  n_Shape_sealed : NoAttr K C_Shape "sealed"
  n_Shape_word_kinds : NoAttr K C_Shape "word_kinds"
  n_Shape_lots : NoAttr K C_Shape "lots"
  n_Shape_heads : NoAttr K C_Shape "heads"
  n_Shape_rank : NoAttr K C_Shape "rank"
  cl_Door : Cls K C_Door
  n_Door_shape : NoAttr K C_Door "shape"
  n_Door_words : NoAttr K C_Door "words"
  n_Door_sealed : NoAttr K C_Door "sealed"
  n_Door_heads : NoAttr K C_Door "heads"
  n_Door_laws : NoAttr K C_Door "laws"
  n_Door_meeting : NoAttr K C_Door "meeting"
section
variable {K : PySem.W.Frag} {mg : Str → Option Value}
theorem Tx.b_is_integer (T : Tx K mg) : Binds K T.d_is_integer ["thing"] [] := T.F_is_integer.binds (ps := ["thing"]) fun _ _ _ _ _ _ us hl => match us, hl with | [_], _ => rfl
theorem Tx.b_is_within (T : Tx K mg) : Binds K T.d_is_within ["thing", "least", "most"] [] := T.F_is_within.binds (ps := ["thing", "least", "most"]) fun _ _ _ _ _ _ us hl => match us, hl with | [_, _, _], _ => rfl
theorem Tx.b_is_name (T : Tx K mg) : Binds K T.d_is_name ["thing"] [] := T.F_is_name.binds (ps := ["thing"]) fun _ _ _ _ _ _ us hl => match us, hl with | [_], _ => rfl
theorem Tx.b_is_tuple (T : Tx K mg) : Binds K T.d_is_tuple ["thing", "least", "most"] [] := T.F_is_tuple.binds (ps := ["thing", "least", "most"]) fun _ _ _ _ _ _ us hl => match us, hl with | [_, _, _], _ => rfl
theorem Tx.b_are_unlike (T : Tx K mg) : Binds K T.d_are_unlike ["items"] [] := T.F_are_unlike.binds (ps := ["items"]) fun _ _ _ _ _ _ us hl => match us, hl with | [_], _ => rfl
theorem Tx.b_is_unknown (T : Tx K mg) : Binds K T.d_is_unknown ["thing"] [] := T.F_is_unknown.binds (ps := ["thing"]) fun _ _ _ _ _ _ us hl => match us, hl with | [_], _ => rfl
theorem Tx.b_is_word (T : Tx K mg) : Binds K T.d_is_word ["term"] [] := T.F_is_word.binds (ps := ["term"]) fun _ _ _ _ _ _ us hl => match us, hl with | [_], _ => rfl
theorem Tx.b_is_called (T : Tx K mg) : Binds K T.d_is_called ["term"] [] := T.F_is_called.binds (ps := ["term"]) fun _ _ _ _ _ _ us hl => match us, hl with | [_], _ => rfl
theorem Tx.b_size_of (T : Tx K mg) : Binds K T.d_size_of ["term"] [] := T.F_size_of.binds (ps := ["term"]) fun _ _ _ _ _ _ us hl => match us, hl with | [_], _ => rfl
theorem Tx.b_parts_of (T : Tx K mg) : Binds K T.d_parts_of ["term"] [] := T.F_parts_of.binds (ps := ["term"]) fun _ _ _ _ _ _ us hl => match us, hl with | [_], _ => rfl
theorem Tx.b_numbers_in (T : Tx K mg) : Binds K T.d_numbers_in ["term"] [] := T.F_numbers_in.binds (ps := ["term"]) fun _ _ _ _ _ _ us hl => match us, hl with | [_], _ => rfl
theorem Tx.b_is_built (T : Tx K mg) : Binds K T.d_is_built ["door", "thing", "nested"] [] := T.F_is_built.binds (ps := ["door", "thing", "nested"]) fun _ _ _ _ _ _ us hl => match us, hl with | [_, _, _], _ => rfl
theorem Tx.b_check_built (T : Tx K mg) : Binds K T.d_check_built ["door", "thing"] [] := T.F_check_built.binds (ps := ["door", "thing"]) fun _ _ _ _ _ _ us hl => match us, hl with | [_, _], _ => rfl
theorem Tx.b_shape_of_name (T : Tx K mg) : Binds K T.d_shape_of_name ["door", "name"] [] := T.F_shape_of_name.binds (ps := ["door", "name"]) fun _ _ _ _ _ _ us hl => match us, hl with | [_, _], _ => rfl
theorem Tx.b_Machine_init (T : Tx K mg) : Binds K T.d_Machine_init ["self", "door", "rules", "last"] [] := T.F_Machine_init.binds (ps := ["self", "door", "rules", "last"]) fun _ _ _ _ _ _ us hl => match us, hl with | [_, _, _, _], _ => rfl
theorem Tx.b_Machine_is_rule (T : Tx K mg) : Binds K T.d_Machine_is_rule ["self", "thing"] [] := T.F_Machine_is_rule.binds (ps := ["self", "thing"]) fun _ _ _ _ _ _ us hl => match us, hl with | [_, _], _ => rfl
theorem Tx.b_Machine_eq (T : Tx K mg) : Binds K T.d_Machine_eq ["self", "other"] [] := T.F_Machine_eq.binds (ps := ["self", "other"]) fun _ _ _ _ _ _ us hl => match us, hl with | [_, _], _ => rfl
theorem Tx.b_state_of (T : Tx K mg) : Binds K T.d_state_of ["machine", "term"] [] := T.F_state_of.binds (ps := ["machine", "term"]) fun _ _ _ _ _ _ us hl => match us, hl with | [_, _], _ => rfl
theorem Tx.b_state (T : Tx K mg) : Binds K T.d_state ["machine", "term"] [] := T.F_state.binds (ps := ["machine", "term"]) fun _ _ _ _ _ _ us hl => match us, hl with | [_, _], _ => rfl
theorem Tx.b_takes (T : Tx K mg) : Binds K T.d_takes ["machine", "term"] [] := T.F_takes.binds (ps := ["machine", "term"]) fun _ _ _ _ _ _ us hl => match us, hl with | [_, _], _ => rfl
theorem Tx.b_Order_init (T : Tx K mg) : Binds K T.d_Order_init ["self", "rank"] [] := T.F_Order_init.binds (ps := ["self", "rank"]) fun _ _ _ _ _ _ us hl => match us, hl with | [_, _], _ => rfl
theorem Tx.b_Order_is_greater (T : Tx K mg) : Binds K T.d_Order_is_greater ["self", "one", "other"] [] := T.F_Order_is_greater.binds (ps := ["self", "one", "other"]) fun _ _ _ _ _ _ us hl => match us, hl with | [_, _, _], _ => rfl
theorem Tx.b_Order_looked (T : Tx K mg) : Binds K T.d_Order_looked ["self", "one", "other"] [] := T.F_Order_looked.binds (ps := ["self", "one", "other"]) fun _ _ _ _ _ _ us hl => match us, hl with | [_, _, _], _ => rfl
theorem Tx.b_are_words (T : Tx K mg) : Binds K T.d_are_words ["thing"] [] := T.F_are_words.binds (ps := ["thing"]) fun _ _ _ _ _ _ us hl => match us, hl with | [_], _ => rfl
theorem Tx.b_are_sealed (T : Tx K mg) : Binds K T.d_are_sealed ["thing", "words"] [] := T.F_are_sealed.binds (ps := ["thing", "words"]) fun _ _ _ _ _ _ us hl => match us, hl with | [_, _], _ => rfl
theorem Tx.b_are_heads (T : Tx K mg) : Binds K T.d_are_heads ["thing", "kinds", "words"] [] := T.F_are_heads.binds (ps := ["thing", "kinds", "words"]) fun _ _ _ _ _ _ us hl => match us, hl with | [_, _, _], _ => rfl
theorem Tx.b_Shape_init (T : Tx K mg) : Binds K T.d_Shape_init ["self", "words", "sealed", "heads"] [] := T.F_Shape_init.binds (ps := ["self", "words", "sealed", "heads"]) fun _ _ _ _ _ _ us hl => match us, hl with | [_, _, _, _], _ => rfl
theorem Tx.b_Shape_kind_of (T : Tx K mg) : Binds K T.d_Shape_kind_of ["self", "term"] [] := T.F_Shape_kind_of.binds (ps := ["self", "term"]) fun _ _ _ _ _ _ us hl => match us, hl with | [_, _], _ => rfl
theorem Tx.b_Shape_is_asker (T : Tx K mg) : Binds K T.d_Shape_is_asker ["self", "term"] [] := T.F_Shape_is_asker.binds (ps := ["self", "term"]) fun _ _ _ _ _ _ us hl => match us, hl with | [_, _], _ => rfl
theorem Tx.b_Shape_told (T : Tx K mg) : Binds K T.d_Shape_told ["self", "thing", "kind", "found"] [] := T.F_Shape_told.binds (ps := ["self", "thing", "kind", "found"]) fun _ _ _ _ _ _ us hl => match us, hl with | [_, _, _, _], _ => rfl
theorem Tx.b_Shape_told_together (T : Tx K mg) : Binds K T.d_Shape_told_together ["self", "pairs"] [] := T.F_Shape_told_together.binds (ps := ["self", "pairs"]) fun _ _ _ _ _ _ us hl => match us, hl with | [_, _], _ => rfl
theorem Tx.b_Shape_told_beside (T : Tx K mg) : Binds K T.d_Shape_told_beside ["self", "one", "other"] [] := T.F_Shape_told_beside.binds (ps := ["self", "one", "other"]) fun _ _ _ _ _ _ us hl => match us, hl with | [_, _, _], _ => rfl
theorem Tx.b_Shape_kind_by (T : Tx K mg) : Binds K T.d_Shape_kind_by ["self", "found", "term"] [] := T.F_Shape_kind_by.binds (ps := ["self", "found", "term"]) fun _ _ _ _ _ _ us hl => match us, hl with | [_, _, _], _ => rfl
theorem Tx.b_is_law (T : Tx K mg) : Binds K T.d_is_law ["shape", "thing"] [] := T.F_is_law.binds (ps := ["shape", "thing"]) fun _ _ _ _ _ _ us hl => match us, hl with | [_, _], _ => rfl
theorem Tx.b_Door_init (T : Tx K mg) : Binds K T.d_Door_init ["self", "words", "sealed", "heads", "laws"] [] := T.F_Door_init.binds (ps := ["self", "words", "sealed", "heads", "laws"]) fun _ _ _ _ _ _ us hl => match us, hl with | [_, _, _, _, _], _ => rfl
theorem Tx.b_Door_eq (T : Tx K mg) : Binds K T.d_Door_eq ["self", "other"] [] := T.F_Door_eq.binds (ps := ["self", "other"]) fun _ _ _ _ _ _ us hl => match us, hl with | [_, _], _ => rfl
theorem Tx.b_number_of (T : Tx K mg) : Binds K T.d_number_of ["word"] [] := T.F_number_of.binds (ps := ["word"]) fun _ _ _ _ _ _ us hl => match us, hl with | [_], _ => rfl
theorem Tx.b_lines_of (T : Tx K mg) : Binds K T.d_lines_of ["text"] [] := T.F_lines_of.binds (ps := ["text"]) fun _ _ _ _ _ _ us hl => match us, hl with | [_], _ => rfl
theorem Tx.b_machine_text (T : Tx K mg) : Binds K T.d_machine_text ["machine"] [] := T.F_machine_text.binds (ps := ["machine"]) fun _ _ _ _ _ _ us hl => match us, hl with | [_], _ => rfl
theorem Tx.b_rule_line (T : Tx K mg) : Binds K T.d_rule_line ["line"] [] := T.F_rule_line.binds (ps := ["line"]) fun _ _ _ _ _ _ us hl => match us, hl with | [_], _ => rfl
theorem Tx.b_last_line (T : Tx K mg) : Binds K T.d_last_line ["line"] [] := T.F_last_line.binds (ps := ["line"]) fun _ _ _ _ _ _ us hl => match us, hl with | [_], _ => rfl
theorem Tx.b_read_machine (T : Tx K mg) : Binds K T.d_read_machine ["door", "text"] [] := T.F_read_machine.binds (ps := ["door", "text"]) fun _ _ _ _ _ _ us hl => match us, hl with | [_, _], _ => rfl
theorem Tx.b__law_tape (T : Tx K mg) : Binds K T.d__law_tape ["script"] [] := T.F__law_tape.binds (ps := ["script"]) fun _ _ _ _ _ _ us hl => match us, hl with | [_], _ => rfl
theorem Tx.b__law_pick (T : Tx K mg) : Binds K T.d__law_pick ["tape", "many"] [] := T.F__law_pick.binds (ps := ["tape", "many"]) fun _ _ _ _ _ _ us hl => match us, hl with | [_, _], _ => rfl
theorem Tx.b__law_any (T : Tx K mg) : Binds K T.d__law_any ["tape", "things"] [] := T.F__law_any.binds (ps := ["tape", "things"]) fun _ _ _ _ _ _ us hl => match us, hl with | [_, _], _ => rfl
theorem Tx.b__law_mixed (T : Tx K mg) : Binds K T.d__law_mixed ["tape", "things"] [] := T.F__law_mixed.binds (ps := ["tape", "things"]) fun _ _ _ _ _ _ us hl => match us, hl with | [_, _], _ => rfl
theorem Tx.b__law_parts (T : Tx K mg) : Binds K T.d__law_parts ["tape"] [] := T.F__law_parts.binds (ps := ["tape"]) fun _ _ _ _ _ _ us hl => match us, hl with | [_], _ => rfl
theorem Tx.b__law_told (T : Tx K mg) : Binds K T.d__law_told ["call"] [] := T.F__law_told.binds (ps := ["call"]) fun _ _ _ _ _ _ us hl => match us, hl with | [_], _ => rfl
theorem Tx.b__law_states (T : Tx K mg) : Binds K T.d__law_states ["tape", "kinds"] [] := T.F__law_states.binds (ps := ["tape", "kinds"]) fun _ _ _ _ _ _ us hl => match us, hl with | [_, _], _ => rfl
theorem Tx.b__law_keys (T : Tx K mg) : Binds K T.d__law_keys ["states", "name", "kinds"] [] := T.F__law_keys.binds (ps := ["states", "name", "kinds"]) fun _ _ _ _ _ _ us hl => match us, hl with | [_, _, _], _ => rfl
theorem Tx.b__law_rules (T : Tx K mg) : Binds K T.d__law_rules ["tape", "parts", "states"] [] := T.F__law_rules.binds (ps := ["tape", "parts", "states"]) fun _ _ _ _ _ _ us hl => match us, hl with | [_, _, _], _ => rfl
theorem Tx.b__law_text (T : Tx K mg) : Binds K T.d__law_text ["rules", "last"] [] := T.F__law_text.binds (ps := ["rules", "last"]) fun _ _ _ _ _ _ us hl => match us, hl with | [_, _], _ => rfl
theorem Tx.b__law_term (T : Tx K mg) : Binds K T.d__law_term ["tape", "parts", "kind", "deep"] [] := T.F__law_term.binds (ps := ["tape", "parts", "kind", "deep"]) fun _ _ _ _ _ _ us hl => match us, hl with | [_, _, _, _], _ => rfl
theorem Tx.b__law_state (T : Tx K mg) : Binds K T.d__law_state ["rules", "term"] [] := T.F__law_state.binds (ps := ["rules", "term"]) fun _ _ _ _ _ _ us hl => match us, hl with | [_, _], _ => rfl
theorem Tx.b__law_is_read_alike (T : Tx K mg) : Binds K T.d__law_is_read_alike ["tape", "parts", "machine", "rules", "last"] [] := T.F__law_is_read_alike.binds (ps := ["tape", "parts", "machine", "rules", "last"]) fun _ _ _ _ _ _ us hl => match us, hl with | [_, _, _, _, _], _ => rfl
theorem Tx.b__law_joined (T : Tx K mg) : Binds K T.d__law_joined ["lines"] [] := T.F__law_joined.binds (ps := ["lines"]) fun _ _ _ _ _ _ us hl => match us, hl with | [_], _ => rfl
theorem Tx.b__law_is_misread (T : Tx K mg) : Binds K T.d__law_is_misread ["tape", "door", "lines"] [] := T.F__law_is_misread.binds (ps := ["tape", "door", "lines"]) fun _ _ _ _ _ _ us hl => match us, hl with | [_, _, _], _ => rfl
theorem Tx.b__law_is_no_machine (T : Tx K mg) : Binds K T.d__law_is_no_machine ["tape", "door", "states", "rules", "last"] [] := T.F__law_is_no_machine.binds (ps := ["tape", "door", "states", "rules", "last"]) fun _ _ _ _ _ _ us hl => match us, hl with | [_, _, _, _, _], _ => rfl
theorem Tx.b__law_known_right (T : Tx K mg) : Binds K T.d__law_known_right [] [] := T.F__law_known_right.binds (ps := []) fun _ _ _ _ _ _ us hl => match us, hl with | [], _ => rfl
theorem Tx.b_law (T : Tx K mg) : Binds K T.d_law ["script"] [] := T.F_law.binds (ps := ["script"]) fun _ _ _ _ _ _ us hl => match us, hl with | [_], _ => rfl
end
end T82
namespace T82
open PySem L2
section
variable {P : Program} {w : World} {K : PySem.W.Frag} {mg : Str → Option Value} {base : Heap}
theorem rI {i : Int} {t : Tok} : RelV (.int i) (.int i t) := ⟨t, rfl⟩
theorem rS {i : Str} {t : Tok} : RelV (.str i) (.str i t) := ⟨t, rfl⟩
theorem tyT {H : Hp} {p : Addr} {xs : List V} (h : SqT K H p xs) : TyX K H (.ref p) (.type "tuple") := by
  rcases h with (h | ⟨o, h⟩) | ⟨o, its, n, h, hc, _⟩
  · exact .base (.tup h)
  · exact .fTuple h
  · exact .kTuple h hc
theorem sc_is_integer : FnScope ["thing"] ["thing"] (defScope s_is_integer) := ⟨rfl, rfl, rfl, by decide +kernel, rfl, by decide +kernel, by decide +kernel⟩
def sp_is_integer : Sp := fun vs H Q _ => ∃ i, vs = [.int i] ∧ Q (.bl true) H
theorem ok_is_integer (T : Tx K mg) : FnOk P w K mg base CX0 1 T.f_is_integer T.d_is_integer ["thing"] sp_is_integer := by
  refine T.F_is_integer.ok sc_is_integer (fun vs H Q E h => ?_) (fun cdv A outer s H vs Q E hr h => ?_)
  · obtain ⟨i, rfl, _⟩ := h
    rfl
  · obtain ⟨i, rfl, k⟩ := h
    refine ⟨_, pss_one (ps_ret (pe_and (pe_callB call_isi (by rfl) T.t_isinstance (by decide +kernel) (pa_cons (pv 0) (pa_cons (pe_bltn (by rfl) T.t_int (by decide +kernel) (show RelV (.ty "int") (.type "int") from rfl)) pa_nil)))
      (pe_one (pe_not (pe_callB call_isi (by rfl) T.t_isinstance (by decide +kernel) (pa_cons (pv 0) (pa_cons (pe_bltn (by rfl) T.t_bool (by decide +kernel) (show RelV (.ty "bool") (.type "bool") from rfl)) pa_nil))))))), ?_⟩
    refine ⟨_, rfl, _, _, _, _, true, rfl, .ty _, .base (.int i), kit_ty (by decide +kernel), _, rfl, iteT ?_⟩
    exact ⟨_, rfl, _, _, _, _, false, rfl, .ty _, .base (.int i), kit_ty (by decide +kernel), _, rfl, k⟩
theorem sc_is_within : FnScope ["thing", "least", "most"] ["thing", "least", "most"] (defScope s_is_within) := ⟨rfl, rfl, rfl, by decide +kernel, rfl, by decide +kernel, by decide +kernel⟩
def sp_is_within : Sp := fun vs H Q _ => ∃ i a b, vs = [.int i, .int a, .int b] ∧ Q (.bl (decide (a ≤ i) && decide (i ≤ b))) H
theorem ok_is_within (T : Tx K mg) : FnOk P w K mg base CX0 2 T.f_is_within T.d_is_within ["thing", "least", "most"] sp_is_within := by
  refine T.F_is_within.ok sc_is_within (fun vs H Q E h => ?_) (fun cdv A outer s H vs Q E hr h => ?_)
  · obtain ⟨i, a, b, rfl, _⟩ := h
    rfl
  · obtain ⟨i, a, b, rfl, k⟩ := h
    refine ⟨_, pss_one (ps_ret (pe_and (pe_call (ok_is_integer T) hr (by rfl) T.m_is_integer T.F_is_integer.kp T.b_is_integer .nil pass0 (pa_cons (pv 0) pa_nil)) (pe_one (pe_chain op_le op_le (pv 1) (pv 0) (pv 2))))), ?_⟩
    refine ⟨_, rfl, i, rfl, _, rfl, iteT ?_⟩
    refine ⟨_, rfl, _, rfl, _, _, rfl, rfl, _, rfl, ?_⟩
    by_cases h1 : a ≤ i
    · rw [decide_eq_true h1] at k ⊢
      exact iteT ⟨_, rfl, _, _, rfl, rfl, k⟩
    · rw [decide_eq_false h1] at k ⊢
      exact iteF k
theorem sc_is_tuple : FnScope ["thing", "least", "most"] ["thing", "least", "most"] (defScope s_is_tuple) := ⟨rfl, rfl, rfl, by decide +kernel, rfl, by decide +kernel, by decide +kernel⟩
def sp_is_tuple (K : PySem.W.Frag) : Sp := fun vs H Q _ => ∃ v a b, vs = [v, .int a, .int b] ∧
  ((∃ s, v = .str s ∧ Q (.bl false) H) ∨ (∃ p xs, v = .ref p ∧ SqT K H p xs ∧ Q (.bl (decide (a ≤ (xs.length : Int)) && decide ((xs.length : Int) ≤ b))) H))
theorem ok_is_tuple (T : Tx K mg) : FnOk P w K mg base CX0 1 T.f_is_tuple T.d_is_tuple ["thing", "least", "most"] (sp_is_tuple K) := by
  refine T.F_is_tuple.ok sc_is_tuple (fun vs H Q E h => ?_) (fun cdv A outer s H vs Q E hr h => ?_)
  · obtain ⟨v, a, b, rfl, _⟩ := h
    rfl
  · obtain ⟨v, a, b, rfl, k⟩ := h
    refine ⟨_, pss_one (ps_ret (pe_and (pe_callB call_isi (by rfl) T.t_isinstance (by decide +kernel) (pa_cons (pv 0) (pa_cons (pe_bltn (by rfl) T.t_tuple (by decide +kernel) (show RelV (.ty "tuple") (.type "tuple") from rfl)) pa_nil)))
      (pe_one (pe_chain op_le op_le (pv 1) (pe_callB call_len (by rfl) T.t_len PySem.boot_len (pa_cons (pv 0) pa_nil)) (pv 2))))), ?_⟩
    rcases k with ⟨s, rfl, k⟩ | ⟨p, xs, rfl, hq, k⟩
    · exact ⟨_, rfl, _, _, _, _, false, rfl, .ty _, .base (.str s), kit_ty (by decide +kernel), _, rfl, iteF k⟩
    · refine ⟨_, rfl, _, _, _, _, true, rfl, .ty _, tyT hq, kit_ty (by decide +kernel), _, rfl, iteT ?_⟩
      refine ⟨_, rfl, _, rfl, _, xs.length, rfl, .inr ⟨xs, hq, rfl⟩, _, _, rfl, rfl, _, rfl, ?_⟩
      by_cases h1 : a ≤ (xs.length : Int)
      · rw [decide_eq_true h1] at k ⊢
        exact iteT ⟨_, rfl, _, _, rfl, rfl, k⟩
      · rw [decide_eq_false h1] at k ⊢
        exact iteF k
theorem ImAll.bools {H : Hp} : ∀ {bs : List Bool} {ys : List V}, ImAll K H (bs.map PyData.bool) ys → ys = bs.map V.bl
  | [], _, h => h.nil_
  | b :: bs, ys, h => by
    obtain ⟨v, vs, rfl, q, r⟩ := ImAll.cons_ (ds := bs.map PyData.bool) h
    rw [q.bl_, ImAll.bools r]
    rfl
theorem ImAll.strs {H : Hp} : ∀ {bs : List Str} {ys : List V}, ImAll K H (bs.map PyData.str) ys → ys = bs.map V.str
  | [], _, h => h.nil_
  | b :: bs, ys, h => by
    obtain ⟨v, vs, rfl, q, r⟩ := ImAll.cons_ (ds := bs.map PyData.str) h
    rw [q.str_, ImAll.strs r]
    rfl
/-! ### is_name -/
def letter (c : Nat) : Bool := decide (c ∈ ("abcdefghijklmnopqrstuvwxyz" : Str).cps.toList)
def nameB (s : Str) : Bool := decide (1 ≤ (s.length : Int)) && decide ((s.length : Int) ≤ 8) && s.cps.toList.all letter
theorem sc_is_name : FnScope ["thing", "sign"] ["thing"] (defScope s_is_name) := ⟨rfl, rfl, rfl, by decide +kernel, rfl, by decide +kernel, by decide +kernel⟩
def sp_is_name : Sp := fun vs H Q _ => ∃ s : Str, vs = [.str s] ∧ s.length ≤ 100000 ∧ ∀ H', Same H H' → Q (.bl (nameB s)) H'
theorem ok_is_name (T : Tx K mg) : FnOk P w K mg base CX0 1 T.f_is_name T.d_is_name ["thing"] sp_is_name := by
  refine T.F_is_name.ok sc_is_name (fun vs H Q E h => ?_) (fun cdv A outer s H vs Q E hr h => ?_)
  · obtain ⟨v, rfl, _⟩ := h
    rfl
  · obtain ⟨z, rfl, hz, k⟩ := h
    refine ⟨_, pss_one (ps_ret (pe_and (pe_callB call_isi (by rfl) T.t_isinstance (by decide +kernel) (pa_cons (pv 0) (pa_cons (pe_bltn (by rfl) T.t_str (by decide +kernel) (show RelV (.ty "str") (.type "str") from rfl)) pa_nil)))
      (pe_and (pe_chain op_le op_le pe_int (pe_callB call_len (by rfl) T.t_len PySem.boot_len (pa_cons (pv 0) pa_nil)) (pe_glob rfl T.c_MOST_LETTERS rI))
      (pe_one (pe_callB (cr_all rfl) (by rfl) T.t_all (by decide +kernel) (pa_cons (pe_lc (own := [("sign", 1)]) (g := gName 1) (tt := tYes) rfl sc_is_name.nd (pi_str (pv 0)) (blkOk_by (N := ["thing", "sign"]) (sc := defScope s_is_name) (by decide +kernel))
        (fun _ _ _ _ _ => pg_name (i := 1) sc_is_name.nd rfl (Or.inl rfl)) (fun _ _ _ _ _ => pts_nil) (fun _ _ _ _ _ => pe_cmpR op_in_sign (pv 1) (pe_glob rfl T.c_LETTERS rS) rfl)) pa_nil)))))), ?_⟩
    refine ⟨_, rfl, _, _, _, _, true, rfl, .ty _, .base (.str z), kit_ty (by decide +kernel), _, rfl, iteT ?_⟩
    refine ⟨_, rfl, .str z, z.length, rfl, ⟨Nat.le_trans hz (by decide), rfl⟩, _, _, rfl, rfl, _, rfl, ?_⟩
    unfold nameB at k
    by_cases h1 : 1 ≤ (z.length : Int)
    · rw [decide_eq_true h1] at k ⊢
      refine iteT ⟨_, _, rfl, rfl, _, rfl, ?_⟩
      by_cases h2 : (z.length : Int) ≤ 8
      · rw [decide_eq_true h2] at k ⊢
        refine iteT ⟨_, rfl, z, rfl, fun D hD => lc_im (K := K) walk_str hD (z.cps.toList.map fun c => PyData.bool (letter c)) (by simp) (by have := hz; simp only [Str.length] at this; exact this) (fun _ _ => trivial) ?_ ?_⟩
        · rintro i d x H2 H2' hd hb hne ⟨rfl, c, hc, rfl⟩
          refine ⟨Same.refl _, fun N hN => ⟨rfl, _, rfl, c, _, rfl, rfl, hN _ _ (Same.refl _) ?_⟩⟩
          rw [List.getElem?_map, Array.getElem?_toList, hc] at hd
          cases hd
          exact im_bl
        · intro H2 ys hb hy hr
          rw [show (z.cps.toList.map fun c => PyData.bool (letter c)) = (z.cps.toList.map letter).map PyData.bool by simp] at hr
          rw [hr.bools] at hy
          refine ⟨D, z.cps.toList.map letter, rfl, .inl (.inl hy), ?_⟩
          have := k H2 (hb.same hD)
          simpa using this
      · rw [decide_eq_false h2] at k ⊢
        exact iteF (by simpa using k H (Same.refl _))
    · rw [decide_eq_false h1] at k ⊢
      exact iteF ⟨_, rfl, iteF (by simpa using k H (Same.refl _))⟩
end
end T82
namespace T82
open PySem L2
theorem itt {b : Bool} {A B : Prop} (h : b = true) (k : A) : if b = true then A else B := by rw [if_pos h]; exact k
theorem itf {b : Bool} {A B : Prop} (h : b = false) (k : B) : if b = true then A else B := by rw [if_neg (by rw [h]; exact Bool.false_ne_true)]; exact k
/-! ### terms -/
inductive Tm where
  | w (s : Str)
  | u (n : Int)
  | c (f : Str) (as : List Tm)
mutual
def Tm.d : Tm → PyData
  | .w s => .str s
  | .u n => .tuple [.str "?", .int n]
  | .c f as => .tuple (.str f :: Tm.ds as)
def Tm.ds : List Tm → List PyData
  | [] => []
  | t :: ts => Tm.d t :: Tm.ds ts
end
mutual
def Tm.ok : Tm → Prop
  | .w s => s.length ≤ 100000
  | .u _ => True
  | .c f as => f ≠ "?" ∧ f.length ≤ 100000 ∧ as.length ≤ 100 ∧ Tm.oks as
def Tm.oks : List Tm → Prop
  | [] => True
  | t :: ts => Tm.ok t ∧ Tm.oks ts
end
mutual
def Tm.depth : Tm → Nat
  | .w _ => 1
  | .u _ => 1
  | .c _ as => 1 + Tm.depths as
def Tm.depths : List Tm → Nat
  | [] => 0
  | t :: ts => max (Tm.depth t) (Tm.depths ts)
end
mutual
def Tm.size : Tm → Nat
  | .w _ => 1
  | .u _ => 1
  | .c _ as => 1 + Tm.sizes as
def Tm.sizes : List Tm → Nat
  | [] => 0
  | t :: ts => Tm.size t + Tm.sizes ts
end
def Tm.isU : Tm → Bool
  | .u n => decide (0 ≤ n) && decide (n ≤ 999)
  | _ => false
def Tm.isW : Tm → Bool
  | .w _ => true
  | _ => false
def Tm.isC : Tm → Bool
  | .c _ _ => true
  | _ => false
theorem Tm.ds_map : ∀ as : List Tm, Tm.ds as = as.map Tm.d
  | [] => rfl
  | t :: ts => by rw [Tm.ds, Tm.ds_map ts]; rfl
theorem Tm.oks_mem : ∀ {as : List Tm}, Tm.oks as → ∀ t ∈ as, t.ok
  | [], _, _, h => by cases h
  | t :: ts, h, x, hx => by
    rw [Tm.oks] at h
    rcases List.mem_cons.mp hx with rfl | hx
    · exact h.1
    · exact Tm.oks_mem h.2 x hx
theorem Tm.depths_mem : ∀ {as : List Tm}, ∀ t ∈ as, t.depth ≤ Tm.depths as
  | [], _, h => by cases h
  | t :: ts, x, hx => by
    rw [Tm.depths]
    rcases List.mem_cons.mp hx with rfl | hx
    · exact Nat.le_max_left _ _
    · exact Nat.le_trans (Tm.depths_mem x hx) (Nat.le_max_right _ _)
theorem Tm.sizes_sum : ∀ as : List Tm, Tm.sizes as = (as.map Tm.size).sum
  | [] => rfl
  | t :: ts => by rw [Tm.sizes, Tm.sizes_sum ts]; rfl
section
variable {P : Program} {w : World} {K : PySem.W.Frag} {mg : Str → Option Value} {base : Heap}
/-- a term that begins with a text stands as a tuple whose first item is the text -/
theorem Tm.c_at {H : Hp} {f : Str} {as : List Tm} {v : V} (h : Im K H (Tm.c f as).d v) : ∃ p xs, v = .ref p ∧ SqT K H p (.str f :: xs) ∧ ImAll K H (as.map Tm.d) xs := by
  rw [Tm.d] at h
  obtain ⟨p, ys, rfl, q, r⟩ := h.tup_
  obtain ⟨x, xs, rfl, h1, h2⟩ := r.cons_
  rw [h1.str_] at q
  exact ⟨p, xs, rfl, q, by rw [← Tm.ds_map]; exact h2⟩
theorem Tm.u_at {H : Hp} {n : Int} {v : V} (h : Im K H (Tm.u n).d v) : ∃ p, v = .ref p ∧ SqT K H p [.str "?", .int n] := by
  rw [Tm.d] at h
  obtain ⟨p, ys, rfl, q, r⟩ := h.tup_
  obtain ⟨x, xs, rfl, h1, h2⟩ := r.cons_
  obtain ⟨y, zs, rfl, h3, h4⟩ := h2.cons_
  rw [h1.str_, h3.int_, h4.nil_] at q
  exact ⟨p, rfl, q⟩
theorem Tm.w_at {H : Hp} {s : Str} {v : V} (h : Im K H (Tm.w s).d v) : v = .str s := by
  rw [Tm.d] at h
  exact h.str_
theorem at0 {x : V} {xs : List V} : atI (x :: xs) 0 = some x := atI_nat (j := 0) rfl
theorem at1 {x y : V} {xs : List V} : atI (x :: y :: xs) 1 = some y := atI_nat (j := 1) rfl
/-! ### is_word -/
theorem sc_is_word : FnScope ["term"] ["term"] (defScope s_is_word) := ⟨rfl, rfl, rfl, by decide +kernel, rfl, by decide +kernel, by decide +kernel⟩
def sp_is_word (K : PySem.W.Frag) : Sp := fun vs H Q _ => ∃ v t, vs = [v] ∧ Im K H (Tm.d t) v ∧ Q (.bl t.isW) H
theorem ok_is_word (T : Tx K mg) : FnOk P w K mg base CX0 1 T.f_is_word T.d_is_word ["term"] (sp_is_word K) := by
  refine T.F_is_word.ok sc_is_word (fun vs H Q E h => ?_) (fun cdv A outer s H vs Q E hr h => ?_)
  · obtain ⟨v, t, rfl, _⟩ := h
    rfl
  · obtain ⟨v, t, rfl, ht, k⟩ := h
    refine ⟨_, pss_one (ps_ret (pe_callB call_isi (by rfl) T.t_isinstance (by decide +kernel) (pa_cons (pv 0) (pa_cons (pe_bltn (by rfl) T.t_str (by decide +kernel) (show RelV (.ty "str") (.type "str") from rfl)) pa_nil)))), ?_⟩
    cases t with
    | w s =>
      rw [Tm.w_at ht]
      exact ⟨_, rfl, _, _, _, _, true, rfl, .ty _, .base (.str s), kit_ty (by decide +kernel), k⟩
    | u n =>
      obtain ⟨p, rfl, q⟩ := Tm.u_at ht
      exact ⟨_, rfl, _, _, _, _, false, rfl, .ty _, tyT q, kit_ty (by decide +kernel), k⟩
    | c f as =>
      obtain ⟨p, xs, rfl, q, r⟩ := Tm.c_at ht
      exact ⟨_, rfl, _, _, _, _, false, rfl, .ty _, tyT q, kit_ty (by decide +kernel), k⟩
/-! ### is_unknown -/
theorem sc_is_unknown : FnScope ["thing"] ["thing"] (defScope s_is_unknown) := ⟨rfl, rfl, rfl, by decide +kernel, rfl, by decide +kernel, by decide +kernel⟩
def sp_is_unknown (K : PySem.W.Frag) : Sp := fun vs H Q _ => ∃ v t, vs = [v] ∧ Im K H (Tm.d t) v ∧ t.ok ∧ Q (.bl t.isU) H
theorem ok_is_unknown (T : Tx K mg) : FnOk P w K mg base CX0 3 T.f_is_unknown T.d_is_unknown ["thing"] (sp_is_unknown K) := by
  refine T.F_is_unknown.ok sc_is_unknown (fun vs H Q E h => ?_) (fun cdv A outer s H vs Q E hr h => ?_)
  · obtain ⟨v, t, rfl, _⟩ := h
    rfl
  · obtain ⟨v, t, rfl, ht, hk, k⟩ := h
    refine ⟨_, pss_cons (ps_if (PW.pt (pw_or (pt_not (pt_val (pe_call (ok_is_tuple T) (hr.mono (by decide)) (by rfl) T.m_is_tuple T.F_is_tuple.kp T.b_is_tuple .nil pass0 (pa_cons (pv 0) (pa_cons pe_int (pa_cons pe_int pa_nil))))))
        (pw_or (pt_not (pt_val (pe_callB call_isi (by rfl) T.t_isinstance (by decide +kernel) (pa_cons (pe_ix ix_tup (pv 0) pe_int (fun _ _ => rfl)) (pa_cons (pe_bltn (by rfl) T.t_str (by decide +kernel) (show RelV (.ty "str") (.type "str") from rfl)) pa_nil)))))
        (pw_or1 (pt_cmpR op_ne (pe_ix ix_tup (pv 0) pe_int (fun _ _ => rfl)) (pe_glob rfl T.c_UNKNOWN rS) (nomark _)))))) (pss_one (ps_ret pe_bl)) pss_nil)
      (pss_one (ps_ret (pe_call (ok_is_within T) hr (by rfl) T.m_is_within T.F_is_within.kp T.b_is_within .nil pass0 (pa_cons (pe_ix ix_tup (pv 0) pe_int (fun _ _ => rfl)) (pa_cons pe_int (pa_cons (pe_glob rfl T.c_MOST_NUMBER rI) pa_nil)))))), ?_⟩
    cases t with
    | w s =>
      rw [Tm.w_at ht]
      exact ⟨_, rfl, _, _, _, rfl, .inl ⟨s, rfl, _, rfl, iteT (iteT k)⟩⟩
    | u n =>
      obtain ⟨p, rfl, q⟩ := Tm.u_at ht
      refine ⟨_, rfl, _, _, _, rfl, .inr ⟨p, _, rfl, q, _, rfl, iteF ?_⟩⟩
      refine ⟨_, rfl, p, _, 0, _, rfl, rfl, q, at0, _, _, _, _, true, rfl, .ty _, .base (.str _), kit_ty (by decide +kernel), _, rfl, iteF ?_⟩
      refine ⟨_, rfl, p, _, 0, _, rfl, rfl, q, at0, rfl, _, rfl, iteF ?_⟩
      exact ⟨_, rfl, p, _, 1, _, rfl, rfl, q, at1, n, 0, 999, rfl, k⟩
    | c f as =>
      obtain ⟨p, xs, rfl, q, r⟩ := Tm.c_at ht
      rw [Tm.ok] at hk
      by_cases hl : xs.length = 1
      · refine ⟨_, rfl, _, _, _, rfl, .inr ⟨p, _, rfl, q, _, rfl, itf (by simp [hl]) ?_⟩⟩
        refine ⟨_, rfl, p, _, 0, _, rfl, rfl, q, at0, _, _, _, _, true, rfl, .ty _, .base (.str _), kit_ty (by decide +kernel), _, rfl, iteF ?_⟩
        exact ⟨_, rfl, p, _, 0, _, rfl, rfl, q, at0, rfl, _, rfl, itt (by simp [hk.1]) k⟩
      · refine ⟨_, rfl, _, _, _, rfl, .inr ⟨p, _, rfl, q, _, rfl, itt ?_ (iteT k)⟩⟩
        simp only [List.length_cons, Bool.not_eq_true', Bool.and_eq_false_iff, decide_eq_false_iff_not]
        omega
end
end T82
namespace T82
open PySem L2
theorem cut1 (x : V) (xs : List V) : cutV (x :: xs) (some 1) none = xs := by
  unfold cutV HT.sIx
  simp
theorem cut1_not (x : V) (xs : List V) : ¬ (HT.sIx (x :: xs).length 0 (some 1) = 0 ∧ HT.sIx (x :: xs).length (x :: xs).length none = (x :: xs).length) := by
  unfold HT.sIx
  simp
theorem sum_cast : ∀ as : List Tm, (as.map fun t => (t.size : Int)).sum = (((as.map Tm.size).sum : Nat) : Int)
  | [] => rfl
  | t :: ts => by simp [sum_cast ts]
theorem sk {H H' : Hp} (s : Same H H') : Keep H H' := Same.keep s
section
variable {P : Program} {w : World} {K : PySem.W.Frag} {mg : Str → Option Value} {base : Heap}
theorem Tm.depth_pos (t : Tm) : 1 ≤ t.depth := by
  cases t with
  | w s => rw [Tm.depth]; exact Nat.le_refl _
  | u n => rw [Tm.depth]; exact Nat.le_refl _
  | c f as => rw [Tm.depth]; omega
theorem ImAll.ints {H : Hp} : ∀ {bs : List Int} {ys : List V}, ImAll K H (bs.map PyData.int) ys → ys = bs.map V.int
  | [], _, h => h.nil_
  | b :: bs, ys, h => by
    obtain ⟨v, vs, rfl, q, r⟩ := ImAll.cons_ (ds := bs.map PyData.int) h
    rw [q.int_, ImAll.ints r]
    rfl
/-! ### is_called -/
theorem sc_is_called : FnScope ["term"] ["term"] (defScope s_is_called) := ⟨rfl, rfl, rfl, by decide +kernel, rfl, by decide +kernel, by decide +kernel⟩
def sp_is_called (K : PySem.W.Frag) : Sp := fun vs H Q _ => ∃ v t, vs = [v] ∧ Im K H (Tm.d t) v ∧ t.ok ∧ Q (.bl t.isC) H
theorem ok_is_called (T : Tx K mg) : FnOk P w K mg base CX0 2 T.f_is_called T.d_is_called ["term"] (sp_is_called K) := by
  refine T.F_is_called.ok sc_is_called (fun vs H Q E h => ?_) (fun cdv A outer s H vs Q E hr h => ?_)
  · obtain ⟨v, t, rfl, _⟩ := h
    rfl
  · obtain ⟨v, t, rfl, ht, hk, k⟩ := h
    refine ⟨_, pss_one (ps_ret (pe_and (pe_not (pe_call (ok_is_word T) hr (by rfl) T.m_is_word T.F_is_word.kp T.b_is_word .nil pass0 (pa_cons (pv 0) pa_nil)))
      (pe_one (pe_cmpR op_ne (pe_ix ix_tup (pv 0) pe_int (fun _ _ => rfl)) (pe_glob rfl T.c_UNKNOWN rS) (nomark _))))), ?_⟩
    refine ⟨_, rfl, v, t, rfl, ht, _, rfl, _, rfl, ?_⟩
    cases t with
    | w s => exact iteF k
    | u n =>
      obtain ⟨p, rfl, q⟩ := Tm.u_at ht
      exact iteT ⟨_, rfl, p, _, 0, _, rfl, rfl, q, at0, rfl, k⟩
    | c f as =>
      obtain ⟨p, xs, rfl, q, r⟩ := Tm.c_at ht
      rw [Tm.ok] at hk
      refine iteT ⟨_, rfl, p, _, 0, _, rfl, rfl, q, at0, rfl, ?_⟩
      have e : (!decide (V.str f = V.str "?")) = true := by simp [hk.1]
      have k' : Q (.bl true) H := k
      rw [← e] at k'
      exact k'
/-! ### size_of -/
theorem sc_size_of : FnScope ["term", "part"] ["term"] (defScope s_size_of) := ⟨rfl, rfl, rfl, by decide +kernel, rfl, by decide +kernel, by decide +kernel⟩
def sp_size_of (K : PySem.W.Frag) (n : Nat) : Sp := fun vs H Q _ => ∃ v t, vs = [v] ∧ Im K H (Tm.d t) v ∧ t.ok ∧ t.depth ≤ n ∧ ∀ H', Same H H' → Q (.int t.size) H'
theorem ok_size_of (T : Tx K mg) : ∀ n, FnOk P w K mg base CX0 (n + 3) T.f_size_of T.d_size_of ["term"] (sp_size_of K n)
  | 0 => T.F_size_of.ok sc_size_of (fun vs H Q E h => by
      obtain ⟨v, t, rfl, _⟩ := h
      rfl) (fun cdv A outer s H vs Q E hr h => by
      obtain ⟨v, t, rfl, ht, hk, hd, k⟩ := h
      have := t.depth_pos
      omega)
  | n + 1 => by
    have ih := ok_size_of T n
    refine T.F_size_of.ok sc_size_of (fun vs H Q E h => ?_) (fun cdv A outer s H vs Q E hr h => ?_)
    · obtain ⟨v, t, rfl, _⟩ := h
      rfl
    · obtain ⟨v, t, rfl, ht, hk, hd, k⟩ := h
      refine ⟨_, pss_cons (ps_if (pt_not (pt_val (pe_call (ok_is_called T) (hr.mono (by omega)) (by rfl) T.m_is_called T.F_is_called.kp T.b_is_called .nil pass0 (pa_cons (pv 0) pa_nil)))) (pss_one (ps_ret pe_int)) pss_nil)
        (pss_one (ps_ret (pe_op op_add pe_int (pe_callB (cr_sum rfl) (by rfl) T.t_sum (by decide +kernel) (pa_cons (pe_lc (own := [("part", 1)]) (g := gName 1) (tt := tYes) rfl sc_size_of.nd (pi_tup (pe_slice sl_tup (pv 0) (po_some pe_int) po_none)) (blkOk_by (N := ["term", "part"]) (sc := defScope s_size_of) (by decide +kernel))
          (fun _ _ _ _ _ => pg_name (i := 1) sc_size_of.nd rfl (Or.inl rfl)) (fun _ _ _ _ _ => pts_nil) (fun _ _ _ _ _ => pe_call ih hr (by rfl) T.m_size_of T.F_size_of.kp T.b_size_of .nil pass0 (pa_cons (pv 1) pa_nil))) pa_nil))))), ?_⟩
      refine ⟨_, rfl, v, t, rfl, ht, hk, _, rfl, ?_⟩
      cases t with
      | w s => exact iteT (k H (Same.refl _))
      | u m => exact iteT (k H (Same.refl _))
      | c f as =>
        obtain ⟨p, xs, rfl, q, r⟩ := Tm.c_at ht
        rw [Tm.ok] at hk
        rw [Tm.depth] at hd
        refine iteF ⟨_, rfl, _, rfl, p, _, rfl, q, cut1_not _ _, fun p2 hp2 => ?_⟩
        rw [cut1]
        have s1 : Same H (upd H p2 (.tup xs)) := fun b o e => by rw [upd_ne (ne_of_none e hp2)]; exact e
        have r1 := ImAll.mono (sk s1) _ _ r
        refine ⟨p2, rfl, ⟨xs, .inl (.inl upd_same)⟩, fun D hD => lc_im (K := K) walk_tup hD (as.map fun t => PyData.int t.size) (by simp [r.len]) (by have := r.len; simp at this; omega) (fun H2 hb => (sk (hb.same hD)).sq (.inl (.inl upd_same))) ?_ ?_⟩
        · rintro i d x H2 H2' hd' hb hne ⟨rfl, hx⟩
          refine ⟨Same.refl _, fun N hN => ⟨rfl, _, rfl, ?_⟩⟩
          rw [List.getElem?_map] at hd'
          cases ea : as[i]? with
          | none => rw [ea] at hd'; cases hd'
          | some t =>
            rw [ea] at hd'
            cases hd'
            have hm : t ∈ as := List.mem_of_getElem? ea
            obtain ⟨v, e1, e2⟩ := r1.get (i := i) (d := t.d) (by rw [List.getElem?_map, ea]; rfl)
            rw [hx] at e1
            cases e1
            refine ⟨x, t, rfl, Im.mono (sk (hb.same hD)) _ _ e2, Tm.oks_mem hk.2.2.2 t hm, ?_, fun H3 s3 => hN _ _ s3 im_int⟩
            have := Tm.depths_mem t hm
            omega
        · intro H2 ys hb hy hr2
          rw [show (as.map fun t => PyData.int t.size) = (as.map fun t => (t.size : Int)).map PyData.int by simp] at hr2
          rw [hr2.ints] at hy
          refine ⟨D, as.map fun t => (t.size : Int), rfl, .inl (.inl hy), _, _, rfl, rfl, ?_⟩
          have e : (1 : Int) + (as.map fun t => (t.size : Int)).sum = ((Tm.c f as).size : Int) := by
            rw [Tm.size, Tm.sizes_sum]
            simp only [Int.natCast_add, Int.natCast_one]
            congr 1
            exact sum_cast as
          have k' := k H2 (s1.trans (hb.same hD))
          rw [← e] at k'
          exact k'
end
end T82
namespace T82
open PySem L2 PyProof.Rows
/-! ### enumerate over a tuple -/
/-- one turn: a new pair of the turn's number and the item there -/
def ItE (K : PySem.W.Frag) (c : Addr) : It where
  go := fun n G => ∃ ws w, SqT K G c ws ∧ ws[n]? = some w
  yld := fun n G u G' => ∃ T w, u = .ref T ∧ G T = none ∧ G' = upd G T (.tup [.int (n : Nat), w]) ∧ ∀ ws, SqT K G c ws → ws[n]? = some w
  stop := fun n G => ∃ ws, SqT K G c ws ∧ ws.length = n
theorem turn_enumT {P : Program} {w : World} {K : PySem.W.Frag} {es : List Expr} {k2 : Nat} {q2 : Pos} (c en nx : Addr) :
    Turn P w K (.Tuple es k2 q2) (ItE K c) [en, nx] en (fun n g => (∃ was, IsEnum g en nx ((n : Nat) : Int) was) ∧ g.IsTupleIter nx c n ∧ en ≠ nx ∧ en ≠ c ∧ c ≠ nx) where
  mem := List.mem_cons_self ..
  obj := fun n g z d hd => by
    obtain ⟨⟨was, h1⟩, ⟨o, ho, hc, hf⟩, _⟩ := z
    simp only [List.mem_cons, List.not_mem_nil, or_false] at hd
    rcases hd with rfl | rfl
    · exact ⟨_, h1, fun v q => nomatch q⟩
    · exact ⟨o, ho, fun v q => by rw [hf] at q; cases q⟩
  keep := fun n g g' z hk => by
    obtain ⟨⟨was, h1⟩, h2, h3⟩ := z
    exact ⟨⟨was, hk _ (List.mem_cons_self ..) _ h1⟩, h2.at fun o q => hk _ (List.mem_cons_of_mem _ (List.mem_cons_self ..)) o q, h3⟩
  item := by
    intro X eP eW eK calm n pins s σ H E I ff z go
    subst eP eW eK
    obtain ⟨⟨was, h1⟩, h2, ne, nec, nxc⟩ := z
    obtain ⟨ws, w0, hq, hw⟩ := go
    obtain ⟨vs, rel, tupl, _⟩ := I.tuple hq
    obtain ⟨v, hv, rv⟩ := rel.get hw
    have len : n < vs.toArray.size := by
      have := (List.getElem?_eq_some_iff.mp hv).1
      simpa using this
    have lt1 : en < s.heap.objs.size := Heap.lt_size h1
    have lt2 : nx < s.heap.objs.size := by obtain ⟨_, q, _⟩ := h2; exact Heap.lt_size q
    refine wpAny_pyNext_enum_itemD (Draws.tuple (A := X.A.in1) (I.ok.hd calm) nx c nxc vs.toArray) h1 ⟨h2, tupl⟩ len ne (by simp [ne, nec]) fun x g tk hx out st tup _ kept => ?_
    have ex : x = v := by
      have hx' : vs[n]? = some x := by simpa using hx
      rw [hv] at hx'
      exact (Option.some.inj hx').symm
    subst ex
    refine ⟨_, rfl, wpAny_letOwnedTupleGo_enum (s := { s with heap := g, toks := tk + 1 }) out fun g2 en2 same => ?_⟩
    have tup2 : g2.get? s.heap.objs.size = some { cls := .type "tuple", data := .seq #[.int n tk, x] } := (same.2 _ (Nat.ne_of_gt lt1)).trans tup
    have obj : ObjOk X.prog X.w (upd H s.heap.objs.size (.tup [.int (n : Nat), w0])) g2 s.heap.objs.size (.tup [.int (n : Nat), w0]) :=
      ⟨by show 2 ≤ sizeLine; decide, [.int n tk, x], .cons ⟨_, rfl⟩ (.cons rv .nil), ⟨_, tup2, rfl, _, rfl⟩⟩
    have I2 : Inv X pins σ (upd H s.heap.objs.size (.tup [.int (n : Nat), w0])) { s with heap := g2, toks := tk + 1 } :=
      I.turnedNew (ch := [en, nx]) (fun d o no q => by
        simp only [List.mem_cons, List.not_mem_nil, or_false, not_or] at no
        exact (same.2 d no.1).trans (kept d o no.1 no.2 q)) ff (Nat.le_refl _) obj
    refine ⟨.ref s.heap.objs.size, _, I2, rfl, ⟨_, w0, rfl, I.hok.fresh (Nat.le_refl _), rfl, fun ys hy => by rw [I.tuple_inj hy hq]; exact hw⟩, ⟨⟨x, ?_⟩, st.1.at fun o q => (same.2 nx (Ne.symm ne)).trans q, ne, nec, nxc⟩, fun d hd => ?_⟩
    · rw [show ((n + 1 : Nat) : Int) = (n : Int) + 1 by omega]
      exact en2
    · have lt : d < s.heap.objs.size := by
        simp only [List.mem_cons, List.not_mem_nil, or_false] at hd
        rcases hd with rfl | rfl
        · exact lt1
        · exact lt2
      rw [upd_ne (Nat.ne_of_lt lt)]
      exact (ff d hd).1
  done := by
    intro X eP eW eK calm n pins s σ H E I ff z stop
    subst eP eW eK
    obtain ⟨⟨was, h1⟩, h2, ne, nec, nxc⟩ := z
    obtain ⟨ws, hq, hl⟩ := stop
    obtain ⟨vs, rel, tupl, _⟩ := I.tuple hq
    have len : vs.toArray.size = n := by
      have := rel.length
      simp
      omega
    subst len
    obtain ⟨f0, f1, f2, f3, f4, f5⟩ := ff nx (List.mem_cons_of_mem _ (List.mem_cons_self ..))
    exact wpAny_pyNext_enum_endD (Draws.tuple (A := X.A.in1) (I.ok.hd calm) nx c nxc vs.toArray) h1 ⟨h2, tupl⟩ fun g same => ⟨rfl, I.turned (t' := s.toks) (fun d o no q => same d o no q) f0 f1 f3 f4 f5⟩
  self := fun A n s Q E z h => by
    obtain ⟨⟨_, h1⟩, _⟩ := z
    exact wpAny_pyIter_enum h1 h
set_option maxHeartbeats 8000000 in
theorem enum_new1 {v : Value} {ob : Obj} {G : Heap → Prop} (B : Begins v ob G) :
    Meets (Builtin.«enumerate.__new__» ⟨[.type "enumerate", v], []⟩) (fun _ R z => G z.heap ∧
      R (.ok (.ret (.ref (z.heap.push ob).objs.size))) { z with heap := (z.heap.push ob).push { cls := .type "enumerate", data := .fields #[.none, .bool false, .ref z.heap.objs.size, rawInt 0, .none, .none] } }) := by
  refine .of_wp fun prog w A R z hz => ?_
  obtain ⟨hp, gs, dr, tk, os⟩ := z
  obtain ⟨g0, hR⟩ := hz
  have subE := sub_enumerate
  have begin1 : ∀ {A' : Around} {E : Value → Shared → Prop} {Q : Value → Shared → Prop}, Q (.ref hp.objs.size) ⟨hp.push ob, gs, dr, tk, os⟩ → wpAny (model prog w) A' (pyIter v) Q E ⟨hp, gs, dr, tk, os⟩ :=
    fun q => B.iter prog w _ _ ⟨hp, gs, dr, tk, os⟩ _ g0 q
  wp_walk using begin1
  refine wpAny_stack_any fun _ => wpAny_pure ?_
  split
  · next c _ _ _ _ _ =>
    cases (c == Value.type "enumerate") <;> (wp_walk using begin1; exact ⟨_, rfl, hR⟩)
  · wp_walk using begin1
    exact ⟨_, rfl, hR⟩
theorem enum_call1 {prog : Program} {w : World} {A : Around} {E : Value → Shared → Prop} {z : Shared} {v : Value} {ob : Obj} {G : Heap → Prop} {Q : Value → Shared → Prop} (B : Begins v ob G) (g0 : G z.heap)
    (go : ∀ g, IsEnum g (z.heap.objs.size + 1) z.heap.objs.size 0 .none → g.get? z.heap.objs.size = some ob → (∀ d o, z.heap.get? d = some o → g.get? d = some o) → Q (.ref (z.heap.objs.size + 1)) { z with heap := g }) :
    wpAny (model prog w) A (call (.type "enumerate") [v]) Q E z := by
  refine callType_new F.called_enumerate (by decide) (F.typeCall_enumerate_1 _) (F.newCall_enumerate_1 _) (fun o => F.args_object_init_2 o _) F.entry_enumerate_new (enum_new1 B) ⟨g0, ?_⟩
  have sz : (z.heap.push ob).objs.size = z.heap.objs.size + 1 := Heap.size_push ..
  show _ ∧ _
  rw [sz]
  have en : IsEnum ((z.heap.push ob).push { cls := .type "enumerate", data := .fields #[.none, .bool false, .ref z.heap.objs.size, rawInt 0, .none, .none] }) (z.heap.objs.size + 1) z.heap.objs.size 0 .none := by
    have q := Heap.get?_push_size (z.heap.push ob) (o := { cls := .type "enumerate", data := .fields #[.none, .bool false, .ref z.heap.objs.size, rawInt 0, .none, .none] }) rfl
    rwa [sz] at q
  exact ⟨⟨_, en, rfl⟩, go _ en (Heap.get?_push_of_some _ (Heap.get?_push_size _ B.free)) fun d o q => Heap.get?_push_of_some _ (Heap.get?_push_of_some _ q)⟩
def iE (K : PySem.W.Frag) (ta : TA) : TI := fun σ H R => ta σ H fun us G => ∃ c ws, us = [.ref c] ∧ SqT K G c ws ∧ R (ItE K c) G
theorem pi_enumT {X : Cx} {e : Expr} {ta : TA} {p q q2 : Pos} {es : List Expr} {k2 : Nat} (gl : Gl X "enumerate") (nm : X.mg "enumerate" = none) (arg : PA X [e] ta) (se : starEach [e] X.env = [(false, eval e X.env)] := by rfl) :
    PI X (.Tuple es k2 q2) (.Call (.Name "enumerate" p) [e] [] q) (iE X.K ta) := by
  refine ⟨fun pins s σ H R I h => ?_⟩
  refine Call_ (ld_blt I gl nm boot_enumerate (callWith_type1 (thn (arg.run q pins s σ H _ I h) fun us s1 z => ?_) se rfl))
  obtain ⟨vs, G, I1, rel, c, ws, rfl, hq, go⟩ := z
  cases rel with
  | cons r rest =>
    cases rest
    cases r
    obtain ⟨its, _, tupl, _⟩ := I1.tuple hq
    refine enum_call1 (begins_tuple c its.toArray) tupl fun g en nx kept => wpAny_pyIter_enum en ?_
    have cl : c < s1.heap.objs.size := by
      obtain ⟨o, q, _⟩ := tupl
      exact Heap.lt_size q
    have I2 : Inv X pins σ G { s1 with heap := g } := I1.kept (t' := s1.toks) kept
    refine ⟨s1.heap.objs.size + 1, [s1.heap.objs.size + 1, s1.heap.objs.size], _, _, G, rfl, I2, turn_enumT c (s1.heap.objs.size + 1) s1.heap.objs.size, ⟨⟨.none, en⟩, ⟨_, nx, rfl, rfl⟩, Nat.succ_ne_self _, fun z => ?_, Nat.ne_of_lt cl⟩, fun d hd => ?_, go⟩
    · exact absurd z.symm (Nat.ne_of_lt (Nat.lt_succ_of_lt cl))
    · have le : s1.heap.objs.size ≤ d := by
        simp only [List.mem_cons, List.not_mem_nil, or_false] at hd
        rcases hd with rfl | rfl
        · exact Nat.le_succ _
        · exact Nat.le_refl _
      exact I1.fpOk le (I1.hok.fresh le)
theorem walk_enumT {K : PySem.W.Frag} {c : Addr} {ws : List V} : Walk (ItE K c) ws.length (fun H => SqT K H c ws) (YPair (fun i => some (.int (i : Nat))) (fun i => ws[i]?)) := by
  refine ⟨fun i _ lt q => ⟨ws, ws[i], q, by simp [lt]⟩, fun _ q => ⟨ws, q, rfl⟩, fun i H v G _ q y => ?_⟩
  obtain ⟨T, x, e1, e2, e3, e4⟩ := y
  exact ⟨T, .int (i : Nat), x, e1, e2, e3, rfl, e4 ws q⟩
end T82
namespace T82
open PySem L2
/-! ### parts_of -/
mutual
def Tm.parts : Tm → List (List Int × Tm)
  | .w s => [([], .w s)]
  | .u n => [([], .u n)]
  | .c f as => ([], .c f as) :: Tm.partsL 1 as
def Tm.partsL : Nat → List Tm → List (List Int × Tm)
  | _, [] => []
  | k, t :: ts => (Tm.parts t).map (fun q => (((k : Int) :: q.1, q.2) : List Int × Tm)) ++ Tm.partsL (k + 1) ts
end
mutual
theorem Tm.parts_len : ∀ t : Tm, t.parts.length = t.size
  | .w s => by rw [Tm.parts, Tm.size]; rfl
  | .u n => by rw [Tm.parts, Tm.size]; rfl
  | .c f as => by rw [Tm.parts, Tm.size, List.length_cons, Tm.partsL_len 1 as]; omega
theorem Tm.partsL_len : ∀ (k : Nat) (as : List Tm), (Tm.partsL k as).length = Tm.sizes as
  | _, [] => by rw [Tm.partsL, Tm.sizes]; rfl
  | k, t :: ts => by rw [Tm.partsL, Tm.sizes, List.length_append, List.length_map, Tm.parts_len t, Tm.partsL_len (k + 1) ts]
end
def pd (q : List Int × Tm) : PyData := .tuple [.tuple (q.1.map PyData.int), q.2.d]
theorem Tm.partsL_take : ∀ (as : List Tm) (k i : Nat) (t : Tm), as[i]? = some t → Tm.partsL k (as.take (i + 1)) = Tm.partsL k (as.take i) ++ t.parts.map fun q => (((k : Int) + (i : Nat)) :: q.1, q.2)
  | [], _, _, _, h => by simp at h
  | a :: as, k, 0, t, h => by
    simp at h
    subst h
    simp [Tm.partsL]
  | a :: as, k, i + 1, t, h => by
    simp at h
    have := Tm.partsL_take as (k + 1) i t h
    rw [List.take_succ_cons, List.take_succ_cons, Tm.partsL, Tm.partsL, this, List.append_assoc]
    congr 2
    apply List.map_congr_left
    intro q _
    congr 2
    omega
theorem Tm.sizes_mem : ∀ {as : List Tm}, ∀ t ∈ as, t.size ≤ Tm.sizes as
  | [], _, h => by cases h
  | t :: ts, x, hx => by
    rw [Tm.sizes]
    rcases List.mem_cons.mp hx with rfl | hx
    · exact Nat.le_add_right _ _
    · exact Nat.le_trans (Tm.sizes_mem x hx) (Nat.le_add_left _ _)
theorem Tm.sizes_take : ∀ (as : List Tm) (i : Nat) (t : Tm), as[i]? = some t → Tm.sizes (as.take i) + t.size ≤ Tm.sizes as
  | [], _, _, h => by simp at h
  | a :: as, 0, t, h => by
    simp at h
    subst h
    simp [Tm.sizes]
  | a :: as, i + 1, t, h => by
    simp at h
    have := Tm.sizes_take as i t h
    rw [List.take_succ_cons, Tm.sizes, Tm.sizes]
    omega
theorem sn {H : Hp} {a : Addr} {o : HO} (h : H a = none) : Same H (upd H a o) := fun b u e => by rw [upd_ne (ne_of_none e h)]; exact e
mutual
theorem Tm.parts_path : ∀ (t : Tm) (q : List Int × Tm), q ∈ t.parts → q.1.length < t.size
  | .w s, q, h => by
    rw [Tm.parts, List.mem_singleton] at h
    subst h
    rw [Tm.size]
    exact Nat.zero_lt_one
  | .u s, q, h => by
    rw [Tm.parts, List.mem_singleton] at h
    subst h
    rw [Tm.size]
    exact Nat.zero_lt_one
  | .c f as, q, h => by
    rw [Tm.parts, List.mem_cons] at h
    rw [Tm.size]
    rcases h with rfl | h
    · show 0 < _
      omega
    · have := Tm.partsL_path 1 as q h
      omega
theorem Tm.partsL_path : ∀ (k : Nat) (as : List Tm) (q : List Int × Tm), q ∈ Tm.partsL k as → q.1.length ≤ Tm.sizes as
  | _, [], q, h => by
    rw [Tm.partsL] at h
    cases h
  | k, t :: ts, q, h => by
    rw [Tm.partsL, List.mem_append, List.mem_map] at h
    rw [Tm.sizes]
    rcases h with ⟨q0, h, rfl⟩ | h
    · have := Tm.parts_path t q0 h
      show q0.1.length + 1 ≤ _
      omega
    · have := Tm.partsL_path (k + 1) ts q h
      omega
end
section
variable {P : Program} {w : World} {K : PySem.W.Frag} {mg : Str → Option Value} {base : Heap}
theorem Im.ints {H : Hp} {is : List Int} {p : Addr} {xs : List V} (hq : SqT K H p xs) (h : ImAll K H (is.map PyData.int) xs) : SqT K H p (is.map V.int) := by
  rw [h.ints] at hq
  exact hq
theorem pd_at {H : Hp} {q : List Int × Tm} {v : V} (h : Im K H (pd q) v) : ∃ p a t, v = .ref p ∧ SqT K H p [.ref a, t] ∧ SqT K H a (q.1.map V.int) ∧ Im K H q.2.d t := by
  unfold pd at h
  obtain ⟨p, ys, rfl, h1, r⟩ := h.tup_
  obtain ⟨x, xs, rfl, h2, r2⟩ := r.cons_
  obtain ⟨y, zs, rfl, h3, h4⟩ := r2.cons_
  obtain ⟨a, us, rfl, h5, r5⟩ := h2.tup_
  rw [h4.nil_] at h1
  exact ⟨p, a, y, rfl, h1, Im.ints h5 r5, h3⟩
theorem im_ints {H : Hp} : ∀ {is : List Int}, ImAll K H (is.map PyData.int) (is.map V.int)
  | [] => ia_nil
  | _ :: _ => ia_cons im_int im_ints
theorem pd_im {H : Hp} {q : List Int × Tm} {p a : Addr} {t : V} (h1 : SqT K H p [.ref a, t]) (h2 : SqT K H a (q.1.map V.int)) (h3 : Im K H q.2.d t) : Im K H (pd q) (.ref p) :=
  im_tup h1 (ia_cons (im_tup h2 im_ints) (ia_cons h3 ia_nil))
theorem sc_parts_of : FnScope ["term", "found", "number", "part", "place", "inner"] ["term"] (defScope s_parts_of) := ⟨rfl, rfl, rfl, by decide +kernel, rfl, by decide +kernel, by decide +kernel⟩
def sp_parts_of (K : PySem.W.Frag) (n : Nat) : Sp := fun vs H Q _ => ∃ v t, vs = [v] ∧ Im K H (Tm.d t) v ∧ t.ok ∧ t.depth ≤ n ∧ t.size ≤ 1000 ∧
  ∀ H' p ys, Same H H' → H p = none → H' p = some (.lst ys) → ImAll K H' (t.parts.map pd) ys → Q (.ref p) H'
theorem ok_parts_of (T : Tx K mg) : ∀ n, FnOk P w K mg base CX0 (n + 3) T.f_parts_of T.d_parts_of ["term"] (sp_parts_of K n)
  | 0 => T.F_parts_of.ok sc_parts_of (fun vs H Q E h => by
      obtain ⟨v, t, rfl, _⟩ := h
      rfl) (fun cdv A outer s H vs Q E hr h => by
      obtain ⟨v, t, rfl, ht, hk, hd, k⟩ := h
      have := t.depth_pos
      omega)
  | n + 1 => by
    have ih := ok_parts_of T n
    refine T.F_parts_of.ok sc_parts_of (fun vs H Q E h => ?_) (fun cdv A outer s H vs Q E hr h => ?_)
    · obtain ⟨v, t, rfl, _⟩ := h
      rfl
    · obtain ⟨v, t, rfl, ht, hk, hd, hz, k⟩ := h
      refine ⟨_, pss_cons (ps_set (i := 1) sc_parts_of.nd rfl (.inl rfl) (pe_lst (pa_cons (pe_tup (pa_cons (pe_tup pa_nil) (pa_cons (pv 0) pa_nil))) pa_nil)))
        (pss_cons (ps_if (pt_val (pe_call (ok_is_called T) (hr.mono (by omega)) (by rfl) T.m_is_called T.F_is_called.kp T.b_is_called .nil pass0 (pa_cons (pv 0) pa_nil)))
          (pss_one (ps_for PassesOwn.never rfl (pi_enumT (by rfl) T.t_enumerate (pa_cons (pe_slice sl_tup (pv 0) (po_some pe_int) po_none) pa_nil))
            (pg_tup rfl (pgs_cons (pg_name (i := 2) sc_parts_of.nd rfl (Or.inr rfl)) (pgs_cons (pg_name (i := 3) sc_parts_of.nd rfl (Or.inl rfl)) pgs_nil)))
            (pss_one (ps_expr (pe_bm PySem.F.plainAttrs_list PySem.F.slot_list_extend PySem.F.type_list_extend mt_extend (pv 1) (pa_cons
              (pe_lc (own := [("place", 4), ("inner", 5)]) (g := gTup K 2 (gCons (gName 4) (gCons (gName 5) gNil))) (tt := tYes) rfl sc_parts_of.nd (pi_list (pe_call ih hr (by rfl) T.m_parts_of T.F_parts_of.kp T.b_parts_of .nil pass0 (pa_cons (pv 3) pa_nil)))
                (blkOk_by (N := ["term", "found", "number", "part", "place", "inner"]) (sc := defScope s_parts_of) (by decide +kernel))
                (fun _ _ _ _ _ => pg_tup rfl (pgs_cons (pg_name (i := 4) sc_parts_of.nd rfl (Or.inl rfl)) (pgs_cons (pg_name (i := 5) sc_parts_of.nd rfl (Or.inl rfl)) pgs_nil))) (fun _ _ _ _ _ => pts_nil)
                (fun _ _ _ _ _ => pe_tup (pa_cons (pe_op (show OpR _ _ (rCatA K) from op_catA) (pe_tup (pa_cons (pe_op op_add (pv 2) pe_int) pa_nil)) (pv 4)) (pa_cons (pv 5) pa_nil)))) pa_nil))))))
          pss_nil)
        (pss_one (ps_ret (pv 1)))), ?_⟩
      refine ⟨by show 0 ≤ sizeLine; decide, fun p0 h0 => ⟨_, rfl, by show 2 ≤ sizeLine; decide, fun p1 h1 => ⟨by show 1 ≤ sizeLine; decide, fun F hF => ?_⟩⟩⟩
      have a1 := sn (o := .tup []) h0
      have a2 := sn (o := .tup [.ref p0, v]) h1
      have a3 := sn (o := .lst [.ref p1]) hF
      have s3 := (a1.trans a2).trans a3
      have hF0 : H F = none := (a1.trans a2).free hF
      have hp0 := a3 _ _ (a2 _ _ (upd_same (H := H) (a := p0) (o := .tup [])))
      have hp1 := a3 _ _ (upd_same (H := upd H p0 (.tup [])) (a := p1) (o := .tup [.ref p0, v]))
      generalize hG : upd (upd (upd H p0 (.tup [])) p1 (.tup [.ref p0, v])) F (.lst [.ref p1]) = G at s3 hp0 hp1
      have hFG : G F = some (.lst [.ref p1]) := by rw [← hG]; exact upd_same
      have first : ImAll K G [pd ([], t)] [.ref p1] := ia_cons (pd_im (q := ([], t)) (.inl (.inl hp1)) (.inl (.inl hp0)) (Im.mono (sk s3) _ _ ht)) ia_nil
      refine ⟨_, rfl, v, t, rfl, Im.mono (sk s3) _ _ ht, hk, _, rfl, ?_⟩
      cases t with
      | w z => exact iteF ⟨_, rfl, k _ _ _ s3 hF0 hFG first⟩
      | u z => exact iteF ⟨_, rfl, k _ _ _ s3 hF0 hFG first⟩
      | c f as =>
        obtain ⟨p, xs, rfl, q, r⟩ := Tm.c_at (Im.mono (sk s3) _ _ ht)
        have hk2 := hk
        rw [Tm.ok] at hk2
        rw [Tm.depth] at hd
        rw [Tm.size] at hz
        have hlen : xs.length = as.length := by have := r.len; simpa using this
        refine iteT ⟨_, rfl, _, rfl, p, _, rfl, q, cut1_not _ _, fun p2 hp2 => ?_⟩
        rw [cut1]
        have s4 := sn (o := .tup xs) hp2
        have hp2x : upd G p2 (.tup xs) p2 = some (.tup xs) := upd_same
        generalize hG2 : upd G p2 (.tup xs) = G2 at s4 hp2x
        have r2 := ImAll.mono (sk s4) _ _ r
        have hv2 : Im K G2 (Tm.c f as).d (.ref p) := Im.mono (sk (s3.trans s4)) _ _ ht
        refine ⟨p2, xs, rfl, .inl (.inl hp2x), ?_⟩
        refine for_it (walk_enumT (K := K) (c := p2) (ws := xs)) (fun i σ H2 => But F G2 H2 ∧ (∃ b c, σ = [some (.ref p), some (.ref F), b, c, none, none]) ∧ ∃ ys, H2 F = some (.lst ys) ∧ ImAll K H2 ((([], Tm.c f as) :: Tm.partsL 1 (as.take i)).map pd) ys) ?_ ?_ ?_ ?_
        · refine ⟨fun _ _ _ h => h, ⟨none, none, rfl⟩, _, s4 _ _ hFG, ?_⟩
          simp only [List.take_zero, Tm.partsL, List.map_cons, List.map_nil]
          exact ImAll.mono (sk s4) _ _ first
        · rintro i σ H2 hi ⟨hb, _⟩
          exact (hb.keep (notup_lst (s4 _ _ hFG))).sq (.inl (.inl hp2x))
        · rintro i x σ H2 H3 hi ⟨hb, ⟨b, c, rfl⟩, ys, hy, hr2⟩ ⟨T3, x3, y3, rfl, hT3, rfl, e3, hx⟩
          cases e3
          obtain ⟨t2, ht2⟩ : ∃ t2, as[i]? = some t2 := ⟨as[i], by simp [show i < as.length by omega]⟩
          have hx : xs[i]? = some y3 := hx
          have hm : t2 ∈ as := List.mem_of_getElem? ht2
          obtain ⟨v2, e1, e2⟩ := r2.get (i := i) (d := t2.d) (by rw [List.getElem?_map, ht2]; rfl)
          rw [hx] at e1
          cases e1
          have s5 := sn (o := .tup [.int (i : Nat), y3]) hT3
          have hy3 := s5 _ _ hy
          have hr3 := ImAll.mono (sk s5) _ _ hr2
          have im3 : Im K (upd H2 T3 (.tup [.int (i : Nat), y3])) t2.d y3 := Im.mono (sk s5) _ _ (Im.mono (hb.keep (notup_lst (s4 _ _ hFG))) _ _ e2)
          refine ⟨T3, _, rfl, .inl (.inl upd_same), rfl, _, _, rfl, _, _, rfl, rfl, ?_⟩
          generalize hG3 : upd H2 T3 (.tup [.int (i : Nat), y3]) = G3 at s5 hy3 hr3 im3
          have d1 := Tm.depths_mem t2 hm
          have d2 := Tm.sizes_mem t2 hm
          refine ⟨_, rfl, .inl ⟨rfl, _, SqL.of hy3⟩, ?_⟩
          refine ⟨_, rfl, y3, t2, rfl, im3, Tm.oks_mem hk2.2.2.2 t2 hm, by omega, by omega, fun G4 L zs s6 hL0 hL hz2 => ?_⟩
          refine ⟨L, rfl, ⟨_, SqL.of hL⟩, fun D hD => lc_im (K := K) (walk_list (K := K) (a := L) (xs := zs)) hD (t2.parts.map fun q => pd (((i : Int) + 1) :: q.1, q.2)) (by simpa using hz2.len.symm) (by have := hz2.len; have := Tm.parts_len t2; simp at *; omega) (fun H5 hb5 => SqL.of (hb5.same hD _ _ hL)) ?_ ?_⟩
          · rintro j d x H5 H6 hd5 hb5 hne5 ⟨rfl, hx5⟩
            rw [List.getElem?_map] at hd5
            cases eq5 : t2.parts[j]? with
            | none => rw [eq5] at hd5; cases hd5
            | some q5 =>
              rw [eq5] at hd5
              cases hd5
              have hq5 : q5 ∈ t2.parts := List.mem_of_getElem? eq5
              have path := Tm.parts_path t2 q5 hq5
              obtain ⟨v5, e5, im5⟩ := hz2.get (i := j) (d := pd q5) (by rw [List.getElem?_map, eq5]; rfl)
              rw [hx5] at e5
              cases e5
              obtain ⟨pp, pa, pt5, rfl, sq1, sq2, im6⟩ := pd_at (Im.mono (sk (hb5.same hD)) _ _ im5)
              refine ⟨Same.refl _, fun N hN => ⟨pp, _, rfl, sq1, rfl, _, _, rfl, _, _, rfl, rfl, rfl, ?_⟩⟩
              refine ⟨_, rfl, _, _, rfl, rfl, by show 1 ≤ sizeLine; decide, fun u1 hu1 => ⟨_, rfl, ?_⟩⟩
              have s7 := sn (o := .tup [.int ((i : Int) + 1)]) hu1
              refine ⟨u1, pa, _, _, rfl, rfl, .inl (.inl upd_same), (sk s7).sq sq2, ?_, (fun z => by cases z), fun _ he => ?_, fun _ _ u2 hu2 => ?_⟩
              · have e : sizeLine = 16777216 := sizeLine_eq
                rw [e]
                simp
                omega
              · refine ⟨_, rfl, by show 2 ≤ sizeLine; decide, fun u3 hu3 => hN _ _ (s7.trans (sn hu3)) ?_⟩
                have e0 : q5.1 = [] := by simpa using he
                refine pd_im (.inl (.inl upd_same)) ((sk (sn hu3)).sq ?_) (Im.mono (sk (s7.trans (sn hu3))) _ _ im6)
                rw [e0]
                exact .inl (.inl upd_same)
              · have s8 := sn (o := .tup ([.int ((i : Int) + 1)] ++ q5.1.map V.int)) hu2
                refine ⟨_, rfl, by show 2 ≤ sizeLine; decide, fun u3 hu3 => hN _ _ ((s7.trans s8).trans (sn hu3)) ?_⟩
                refine pd_im (.inl (.inl upd_same)) ((sk (sn hu3)).sq ?_) (Im.mono (sk ((s7.trans s8).trans (sn hu3))) _ _ im6)
                exact .inl (.inl upd_same)
          · intro H5 zs5 hb5 hz5 im5
            have hFD : F ≠ D := ne_of_none (s6 _ _ hy3) hD
            have hy5 := hb5 _ _ hFD (s6 _ _ hy3)
            refine ⟨F, D, _, _, rfl, rfl, hy5, hz5, ?_, fun b o ne e => ?_, ⟨_, _, rfl⟩, _, upd_same, ?_⟩
            · have e : sizeLine = 16777216 := sizeLine_eq
              rw [e, hr2.len, im5.len]
              have l1 := Tm.partsL_len 1 (as.take i)
              have l2 := Tm.sizes_take as i t2 ht2
              have l3 := Tm.parts_len t2
              simp
              omega
            · rw [upd_ne ne]
              exact hb5.same hD _ _ (s6 _ _ (s5 _ _ (hb _ _ ne e)))
            · have kp : Keep H5 (upd H5 F (.lst (ys ++ zs5))) := Keep.upd (notup_lst hy5)
              rw [Tm.partsL_take as 1 i t2 ht2, ← List.cons_append, List.map_append, List.map_map]
              refine ImAll.app (ImAll.mono (((sk s6).trans (sk (hb5.same hD))).trans kp) _ _ hr3) ?_
              have := ImAll.mono kp _ _ im5
              refine cast ?_ this
              congr 1
              apply List.map_congr_left
              intro q _
              show pd (_ :: q.1, q.2) = pd (_ :: q.1, q.2)
              rw [show ((1 : Nat) : Int) + (i : Nat) = (i : Int) + 1 by omega]
        · rintro σ H2 ⟨hb, ⟨b, c, rfl⟩, ys, hy, hr2⟩
          rw [hlen, List.take_length] at hr2
          exact ⟨_, rfl, k _ _ _ (fun b o e => hb b o (ne_of_none e hF0) ((s3.trans s4) b o e)) hF0 hy hr2⟩
end
end T82
namespace T82
open PySem L2
section
variable {P : Program} {w : World} {K : PySem.W.Frag} {mg : Str → Option Value} {base : Heap}
/-! ### numbers_in: of a word alone -/
theorem sc_numbers_in : FnScope ["term", "found", "place", "part"] ["term"] (defScope s_numbers_in) := ⟨rfl, rfl, rfl, by decide +kernel, rfl, by decide +kernel, by decide +kernel⟩
def sp_numbers_in : Sp := fun vs H Q _ => ∃ z : Str, vs = [.str z] ∧ z.length ≤ 100000 ∧ ∀ H' p, Same H H' → H p = none → H' p = some (.lst []) → Q (.ref p) H'
theorem ok_numbers_in (T : Tx K mg) : FnOk P w K mg base CX0 5 T.f_numbers_in T.d_numbers_in ["term"] sp_numbers_in := by
  refine T.F_numbers_in.ok sc_numbers_in (fun vs H Q E h => ?_) (fun cdv A outer s H vs Q E hr h => ?_)
  · obtain ⟨z, rfl, _⟩ := h
    rfl
  · obtain ⟨z, rfl, hz, k⟩ := h
    refine ⟨_, pss_cons (ps_set (i := 1) sc_numbers_in.nd rfl (.inl rfl) pe_dnewK)
      (pss_cons (ps_for PassesOwn.never rfl (pi_list (pe_call (ok_parts_of T 1) hr (by rfl) T.m_parts_of T.F_parts_of.kp T.b_parts_of .nil pass0 (pa_cons (pv 0) pa_nil)))
        (pg_tup rfl (pgs_cons (pg_name (i := 2) sc_numbers_in.nd rfl (Or.inl rfl)) (pgs_cons (pg_name (i := 3) sc_numbers_in.nd rfl (Or.inl rfl)) pgs_nil)))
        (pss_one (ps_if (pt_val (pe_call (ok_is_unknown T) (hr.mono (by decide)) (by rfl) T.m_is_unknown T.F_is_unknown.kp T.b_is_unknown .nil pass0 (pa_cons (pv 3) pa_nil))) (pss_one ps_never) pss_nil)))
      (pss_one (ps_ret (pe_callTy (call_list_dK rfl) (by rfl) T.t_list (by decide +kernel) (pa_cons (pv 1) pa_nil))))), ?_⟩
    refine fun d hd => ?_
    have s1 := sn (o := .dK []) hd
    refine ⟨_, rfl, .str z, .w z, rfl, by rw [Tm.d]; exact im_str, by rw [Tm.ok]; exact hz, by rw [Tm.depth]; exact Nat.le_refl _, by rw [Tm.size]; decide, fun H1 p ys s2 hp hy im => ?_⟩
    rw [Tm.parts] at im
    obtain ⟨v, vs, rfl, im1, im2⟩ := im.cons_
    rw [im2.nil_] at hy
    have hd1 : H1 d = some (.dK []) := s2 _ _ upd_same
    refine ⟨p, rfl, ⟨_, SqL.of hy⟩, ?_⟩
    refine for_it (walk_list (K := K) (a := p) (xs := [v])) (fun i σ H2 => H2 = H1 ∧ ∃ b c, σ = [some (.str z), some (.ref d), b, c]) ⟨rfl, none, none, rfl⟩ ?_ ?_ ?_
    · rintro i σ H2 hi ⟨rfl, _⟩
      exact SqL.of hy
    · rintro i x σ H2 H3 hi ⟨rfl, b, c, rfl⟩ ⟨rfl, hx⟩
      have e0 : i = 0 := by
        have : i < 1 := hi
        omega
      subst e0
      cases hx
      obtain ⟨pp, a, t, rfl, q1, q2, im3⟩ := pd_at im1
      refine ⟨pp, _, rfl, q1, rfl, _, _, rfl, _, _, rfl, rfl, ?_⟩
      refine ⟨_, rfl, t, .w z, rfl, im3, by rw [Tm.ok]; exact hz, _, rfl, iteF ⟨rfl, _, _, rfl⟩⟩
    · rintro σ H2 ⟨rfl, b, c, rfl⟩
      refine ⟨_, rfl, d, [], rfl, hd1, fun q hq => k _ _ ((s1.trans s2).trans (sn hq)) ((s1.trans s2).free hq) upd_same⟩
end
end T82
/-! ### len(set(texts)) of texts that are unlike -/
namespace T82
open PySem L2 PyProof.Rows
open PySem.Spec
abbrev noSet (led : Bool) : Obj := { cls := .type "set", dict := none, data := .set #[] 0 (.fresh 0 0 led) }
theorem among_succ {ts : List Str} {i : Nat} (lt : i < ts.length) (z : Str) :
    ((ts.take i).any (· == z) || decide (z = ts.getD i Str.empty)) = (ts.take (i + 1)).any (· == z) := by
  rw [List.take_add_one, List.getElem?_eq_getElem lt, List.any_append, List.getD_eq_getElem?_getD, List.getElem?_eq_getElem lt]
  congr 1
  show decide (z = ts[i]) = (ts[i] == z || false)
  rw [Bool.or_false]
  by_cases e : z = ts[i]
  · rw [decide_eq_true e, e]
    exact (beq_self_eq_true _).symm
  · rw [decide_eq_false e]
    exact (beq_eq_false_iff_ne.mpr (fun q => e q.symm)).symm
theorem among_new {ts : List Str} (nd : ts.Nodup) {i : Nat} (lt : i < ts.length) : (ts.take i).any (· == ts.getD i Str.empty) = false := by
  rw [List.getD_eq_getElem?_getD, List.getElem?_eq_getElem lt]
  show (ts.take i).any (· == ts[i]) = false
  rw [List.any_eq_false]
  intro x hx q
  have q : x = ts[i] := beq_iff_eq.mp q
  rw [q] at hx
  obtain ⟨j, hj, e⟩ := List.mem_iff_getElem.mp hx
  rw [List.getElem_take] at e
  simp at hj
  exact (List.pairwise_iff_getElem.mp nd) j i (by omega) lt (by omega) e
section
variable {prog : Program} {w : World} {A : Around} {R : Result → Shared → Prop} {it : Addr} {fp wr : List Addr} {G : Array GenState → Array GenState → Prop} {n : Nat} {P : Nat → Value → Prop} {St : Nat → Shared → Prop}
theorem fill_set (W : WalksS prog w A.in1 it fp wr G n P St) (D : Addr) (apart : D ∉ fp) (ts : List Str) (nd : ts.Nodup) (len : ts.length = n) (few : n ≤ 1000)
    (vals : ∀ i v, P i v → ∃ t, v = .str (ts.getD i Str.empty) t) :
    ∀ (k i : Nat) (z : Shared), n - i = k → i ≤ n → St i z → z.heap.SetOf (PySem.strKind prog w) D (fun q => (ts.take i).any (· == q)) i →
      (∀ z', Moved (D :: wr) G z z' → z'.heap.SetOf (PySem.strKind prog w) D (fun q => (ts.take n).any (· == q)) n → R (.ok (.ret .none)) z') →
      codeAny (model prog w) A (.builtin "set.update.loop" ⟨[.ref D, .ref it], []⟩) R z
  | 0, i, z, hk, hi, st, hS, fin => by
    have ei : i = n := by omega
    subst ei
    refine codeAny_builtin PyProof.Rows.F.entry_set_update_loop ?_
    rw [Around.under_plainId PyProof.Rows.F.plain_set_update_loop]
    show wpAny _ A.in1 (pyNext (.ref it) >>= _) _ _ z
    refine wpAny_bind (W.done z _ _ st fun z1 mv => ?_)
    show wpAny _ A.in1 (ret Value.none) _ _ z1
    refine wpAny_pure (fin z1 (mv.mono fun d hd => List.mem_cons_of_mem _ hd) ?_)
    obtain ⟨o, es, ep, t, ho, more⟩ := hS
    exact ⟨o, es, ep, t, mv.heap D _ (fun q => apart (W.sub _ q)) ho, more⟩
  | k + 1, i, z, hk, hi, st, hS, fin => by
    have lt : i < n := by omega
    have notw : D ∉ wr := fun q => apart (W.sub _ q)
    refine codeAny_builtin PyProof.Rows.F.entry_set_update_loop ?_
    rw [Around.under_plainId PyProof.Rows.F.plain_set_update_loop]
    show wpAny _ A.in1 (pyNext (.ref it) >>= _) _ _ z
    refine wpAny_bind (W.item i z _ _ lt st fun v z1 pv st1 mv => ?_)
    obtain ⟨t, rfl⟩ := vals i v pv
    have hS1 : z1.heap.SetOf (PySem.strKind prog w) D (fun q => (ts.take i).any (· == q)) i := by
      obtain ⟨o, es, ep, tb, ho, more⟩ := hS
      exact ⟨o, es, ep, tb, mv.heap D _ notw ho, more⟩
    show wpAny _ A.in1 (holding [Value.str (ts.getD i Str.empty) t] (setAdd D (.str (ts.getD i Str.empty) t)) >>= _) _ _ z1
    refine wpAny_bind (wpAny_holding ?_)
    unfold setAdd
    refine wpAny_holding (wpAny_bind ((PySem.strKind prog w).pyHash (k := ts.getD i Str.empty) (strKind_is _ _ _ _) ?_))
    refine wpAny_setAddHashed_of (knd := PySem.strKind prog w) (s := { z1 with toks := z1.toks + 1 }) (strKind_is _ _ _ _) rfl hS1 (show i + 1 < 4096 by omega) fun g same hS2 => ?_
    have hS3 : g.SetOf (PySem.strKind prog w) D (fun q => (ts.take (i + 1)).any (· == q)) (i + 1) := by
      refine SetOf_congr hS2 (fun q => among_succ (by omega) q) ?_
      rw [among_new nd (by omega)]
      rfl
    refine wpAny_pure ⟨plainId_quiet PyProof.Rows.F.plain_set_update_loop _, fill_set W D apart ts nd len few vals k (i + 1) _ (by omega) lt (W.frame _ z1 _ _ st1 (Nat.le_succ _) fun d hd o e => ?_) hS3 fun z2 mv2 hS4 => ?_⟩
    · have ne : d ≠ D := fun q => apart (q ▸ hd)
      exact (same.2 d ne).trans e
    · refine fin z2 (Moved.trans W.gtrans ((mv.mono fun d hd => List.mem_cons_of_mem _ hd).then_heap (Nat.le_succ _) fun d o hd e => ?_) mv2) hS4
      have ne : d ≠ D := fun q => hd (q ▸ List.mem_cons_self)
      exact (same.2 d ne).trans e
end
section
variable {prog : Program} {w : World} {A : Around} {E : Value → Shared → Prop} {z : Shared}
set_option maxHeartbeats 4800000 in
theorem set_of_list {c : Addr} {vs : Array Value} {ts : List Str} {Q : Value → Shared → Prop} (calm : A.handled = none) (src : z.heap.IsList c vs) (are : PyProof.Rows.StrsAre vs.toList ts) (nd : ts.Nodup) (few : ts.length ≤ 1000)
    (go : ∀ (g : Heap) (tk : Nat), g.SetOf (PySem.strKind prog w) z.heap.objs.size (fun q => (ts.take vs.size).any (· == q)) vs.size → (∀ d o, d < z.heap.objs.size → z.heap.get? d = some o → g.get? d = some o) → Q (.ref z.heap.objs.size) { z with heap := g, toks := tk }) :
    wpAny (model prog w) A (call (.type "set") [.ref c]) Q E z := by
  obtain ⟨c1, c2, c3⟩ := PySem.F.called_set.mro
  have made1 := PySem.F.called_set.made
  have sub1 := PySem.F.called_set.sub
  refine wpAny_call (codeAny_of_tree ?_)
  show wpAny _ _ (callAny (.type "set") _) _ _ _
  refine wpAny_pure ⟨Code.quiet_builtin _ (by decide +kernel), codeAny_builtin PySem.F.entry_type_call ?_⟩
  rw [Around.under_plain (weight_type_call_type "set" [.ref c] []) rfl]
  have no1 := PySem.F.called_set.notType
  have can1 := PySem.F.called_set.canCreate
  have tc1 := PySem.F.typeCall_set_1 (.ref c)
  repeat (any_goals (first | assumption | wp_step))
  refine codeAny_mono (code_set_new_1 (.ref c) (E := E) (Q₁ := fun ob z1 => ∃ led : Bool, ob = .ref z.heap.objs.size ∧ z1 = { z with heap := z.heap.push (noSet led) }) fun led => ⟨led, rfl, rfl⟩) fun r z1 hr => ?_
  cases r with
  | error e => exact hr
  | ok fl =>
    cases fl with
    | ret ob =>
      obtain ⟨led, rfl, rfl⟩ := hr
      have atD : (z.heap.push (noSet led)).get? z.heap.objs.size = some (noSet led) := Heap.get?_push_size _ rfl
      have tyD : Shared.TypeIs { z with heap := z.heap.push (noSet led) } (.ref z.heap.objs.size) "set" := ⟨_, atD, rfl⟩
      have look1 := PySem.F.called_set.init.lookup
      have bind1 := PySem.F.called_set.init.bind (.ref z.heap.objs.size)
      repeat (any_goals (first | assumption | wp_step))
      refine codeAny_mono (codeAny_call_builtin (R := wants (fun r z2 => r = .none ∧ ∃ g tk, z2 = { z with heap := g, toks := tk } ∧ g.SetOf (PySem.strKind prog w) z.heap.objs.size (fun q => (ts.take vs.size).any (· == q)) vs.size ∧
          (∀ d o, d < z.heap.objs.size → z.heap.get? d = some o → g.get? d = some o)) E) PySem.F.called_set.init.plain PySem.F.entry_set_init (check_set_init_1 tyD ?_)) fun r2 z2 hr2 => ?_
      · obtain ⟨⟨oc, od, ob, os⟩, there, isc, n0, isd⟩ := src
        simp only at isc isd
        subst isc isd
        have there1 : (z.heap.push (noSet led)).get? c = some { cls := .type "list", dict := od, data := .seq vs n0, slots := os } := Heap.get?_push_of_some _ there
        have sub2 := PySem.F.sub_list_set
        have sub3 := PySem.F.sub_list_frozenset
        have nodict : (Value.type "list" == Value.type "dict") = false := by decide
        have src1 : (z.heap.push (noSet led)).IsList c vs := ⟨_, there1, rfl, n0, rfl⟩
        unfold Builtin.«set.__init__» noKeywords Builtin.Frozenset.updateFrom
        generalize hit : pyIter = itf
        wp_walk
        subst hit
        refine wpAny_pyIter_list src1 (wpAny_bind (wpAny_runValue ?_))
        have below : c < z.heap.objs.size := Heap.lt_size there
        have sizes : (z.heap.push (noSet led)).objs.size = z.heap.objs.size + 1 := Heap.size_push ..
        have calm3 : A.in1.in1.in1.handled = none := by simp [calm]
        have apart1 : c ≠ (z.heap.push (noSet led)).objs.size := by
          rw [sizes]
          exact Nat.ne_of_lt (Nat.lt_succ_of_lt below)
        have apart2 : z.heap.objs.size ∉ [(z.heap.push (noSet led)).objs.size, c] := by
          rw [sizes]
          simp only [List.mem_cons, List.not_mem_nil, or_false, not_or]
          exact ⟨Nat.ne_of_lt (Nat.lt_succ_self _), Nat.ne_of_gt below⟩
        have len : ts.length = vs.size := by rw [← StrsAre.len_eq are, Array.length_toList]
        refine fill_set ((Walks.list calm3 _ c apart1 vs).toS) z.heap.objs.size apart2 ts nd len (by omega)
          (fun i v hv => SS.strs_at are i v (by rw [Array.getElem?_toList]; exact hv)) (vs.size - 0) 0 _ (by omega) (Nat.zero_le _)
          ⟨⟨_, Heap.get?_push_size _ rfl, rfl, rfl⟩, (src1.push _)⟩ ?start ?fin
        case start =>
          have g0 : ((z.heap.push (noSet led)).push { cls := .type "list_iterator", data := .fields #[.ref c, .int 0 0] }).get? z.heap.objs.size = some (noSet led) := Heap.get?_push_of_some _ atD
          exact PyProof.Rows.SetOf_congr ((PyProof.Rows.setObjOf_fresh (knd := PySem.strKind prog w) led).setOf g0 (by decide)) (fun _ => rfl) rfl
        case fin =>
          rintro ⟨g, gs, dr, tk, os2⟩ mv full
          have e1 : gs = z.gens := mv.gens
          have e2 : dr = z.drawn := mv.drawn
          have e3 : os2 = z.os := mv.os
          subst e1 e2 e3
          show wpAny _ _ _ _ _ _
          refine wpAny_pure ?_
          show wpAny _ _ (ret Value.none) _ _ _
          refine wpAny_pure ⟨rfl, g, tk, rfl, full, fun d o hd e => ?_⟩
          refine mv.heap d o ?_ (Heap.get?_push_of_some _ (Heap.get?_push_of_some _ e))
          rw [sizes]
          simp only [List.mem_cons, List.not_mem_nil, or_false, not_or]
          exact ⟨Nat.ne_of_lt hd, Nat.ne_of_lt (Nat.lt_succ_of_lt hd)⟩
      · cases r2 with
        | error e => exact hr2
        | ok fl2 =>
          cases fl2 with
          | ret r =>
            obtain ⟨rfl, g, tk, rfl, full, kept⟩ := hr2
            repeat (any_goals (first | assumption | wp_step))
            exact go _ _ full kept
          | _ => exact hr2.elim
    | _ => exact hr.elim
set_option maxHeartbeats 4800000 in
theorem set_of_tuple {c : Addr} {vs : Array Value} {ts : List Str} {Q : Value → Shared → Prop} (calm : A.handled = none) (src : z.heap.IsTuple c vs) (are : PyProof.Rows.StrsAre vs.toList ts) (nd : ts.Nodup) (few : ts.length ≤ 1000)
    (go : ∀ (g : Heap) (tk : Nat), g.SetOf (PySem.strKind prog w) z.heap.objs.size (fun q => (ts.take vs.size).any (· == q)) vs.size → (∀ d o, d < z.heap.objs.size → z.heap.get? d = some o → g.get? d = some o) → Q (.ref z.heap.objs.size) { z with heap := g, toks := tk }) :
    wpAny (model prog w) A (call (.type "set") [.ref c]) Q E z := by
  obtain ⟨c1, c2, c3⟩ := PySem.F.called_set.mro
  have made1 := PySem.F.called_set.made
  have sub1 := PySem.F.called_set.sub
  refine wpAny_call (codeAny_of_tree ?_)
  show wpAny _ _ (callAny (.type "set") _) _ _ _
  refine wpAny_pure ⟨Code.quiet_builtin _ (by decide +kernel), codeAny_builtin PySem.F.entry_type_call ?_⟩
  rw [Around.under_plain (weight_type_call_type "set" [.ref c] []) rfl]
  have no1 := PySem.F.called_set.notType
  have can1 := PySem.F.called_set.canCreate
  have tc1 := PySem.F.typeCall_set_1 (.ref c)
  repeat (any_goals (first | assumption | wp_step))
  refine codeAny_mono (code_set_new_1 (.ref c) (E := E) (Q₁ := fun ob z1 => ∃ led : Bool, ob = .ref z.heap.objs.size ∧ z1 = { z with heap := z.heap.push (noSet led) }) fun led => ⟨led, rfl, rfl⟩) fun r z1 hr => ?_
  cases r with
  | error e => exact hr
  | ok fl =>
    cases fl with
    | ret ob =>
      obtain ⟨led, rfl, rfl⟩ := hr
      have atD : (z.heap.push (noSet led)).get? z.heap.objs.size = some (noSet led) := Heap.get?_push_size _ rfl
      have tyD : Shared.TypeIs { z with heap := z.heap.push (noSet led) } (.ref z.heap.objs.size) "set" := ⟨_, atD, rfl⟩
      have look1 := PySem.F.called_set.init.lookup
      have bind1 := PySem.F.called_set.init.bind (.ref z.heap.objs.size)
      repeat (any_goals (first | assumption | wp_step))
      refine codeAny_mono (codeAny_call_builtin (R := wants (fun r z2 => r = .none ∧ ∃ g tk, z2 = { z with heap := g, toks := tk } ∧ g.SetOf (PySem.strKind prog w) z.heap.objs.size (fun q => (ts.take vs.size).any (· == q)) vs.size ∧
          (∀ d o, d < z.heap.objs.size → z.heap.get? d = some o → g.get? d = some o)) E) PySem.F.called_set.init.plain PySem.F.entry_set_init (check_set_init_1 tyD ?_)) fun r2 z2 hr2 => ?_
      · obtain ⟨⟨oc, od, ob, os⟩, there, isc, n0, isd⟩ := src
        simp only at isc isd
        subst isc isd
        have there1 : (z.heap.push (noSet led)).get? c = some { cls := .type "tuple", dict := od, data := .seq vs n0, slots := os } := Heap.get?_push_of_some _ there
        have sub2 := PySem.F.sub_tuple_set
        have sub3 := PySem.F.sub_tuple_frozenset
        have nodict : (Value.type "tuple" == Value.type "dict") = false := by decide
        have src1 : (z.heap.push (noSet led)).IsTuple c vs := ⟨_, there1, rfl, n0, rfl⟩
        unfold Builtin.«set.__init__» noKeywords Builtin.Frozenset.updateFrom
        generalize hit : pyIter = itf
        wp_walk
        subst hit
        refine wpAny_pyIter_tuple src1 (wpAny_bind (wpAny_runValue ?_))
        have below : c < z.heap.objs.size := Heap.lt_size there
        have sizes : (z.heap.push (noSet led)).objs.size = z.heap.objs.size + 1 := Heap.size_push ..
        have calm3 : A.in1.in1.in1.handled = none := by simp [calm]
        have apart1 : c ≠ (z.heap.push (noSet led)).objs.size := by
          rw [sizes]
          exact Nat.ne_of_lt (Nat.lt_succ_of_lt below)
        have apart2 : z.heap.objs.size ∉ [(z.heap.push (noSet led)).objs.size, c] := by
          rw [sizes]
          simp only [List.mem_cons, List.not_mem_nil, or_false, not_or]
          exact ⟨Nat.ne_of_lt (Nat.lt_succ_self _), Nat.ne_of_gt below⟩
        have len : ts.length = vs.size := by rw [← StrsAre.len_eq are, Array.length_toList]
        refine fill_set ((Walks.tuple calm3 _ c apart1 vs).toS) z.heap.objs.size apart2 ts nd len (by omega)
          (fun i v hv => SS.strs_at are i v (by rw [Array.getElem?_toList]; exact hv)) (vs.size - 0) 0 _ (by omega) (Nat.zero_le _)
          ⟨⟨_, Heap.get?_push_size _ rfl, rfl, rfl⟩, (src1.push _)⟩ ?start ?fin
        case start =>
          have g0 : ((z.heap.push (noSet led)).push { cls := .type "tuple_iterator", data := .fields #[.ref c, .int 0 0] }).get? z.heap.objs.size = some (noSet led) := Heap.get?_push_of_some _ atD
          exact PyProof.Rows.SetOf_congr ((PyProof.Rows.setObjOf_fresh (knd := PySem.strKind prog w) led).setOf g0 (by decide)) (fun _ => rfl) rfl
        case fin =>
          rintro ⟨g, gs, dr, tk, os2⟩ mv full
          have e1 : gs = z.gens := mv.gens
          have e2 : dr = z.drawn := mv.drawn
          have e3 : os2 = z.os := mv.os
          subst e1 e2 e3
          show wpAny _ _ _ _ _ _
          refine wpAny_pure ?_
          show wpAny _ _ (ret Value.none) _ _ _
          refine wpAny_pure ⟨rfl, g, tk, rfl, full, fun d o hd e => ?_⟩
          refine mv.heap d o ?_ (Heap.get?_push_of_some _ (Heap.get?_push_of_some _ e))
          rw [sizes]
          simp only [List.mem_cons, List.not_mem_nil, or_false, not_or]
          exact ⟨Nat.ne_of_lt hd, Nat.ne_of_lt (Nat.lt_succ_of_lt hd)⟩
      · cases r2 with
        | error e => exact hr2
        | ok fl2 =>
          cases fl2 with
          | ret r =>
            obtain ⟨rfl, g, tk, rfl, full, kept⟩ := hr2
            repeat (any_goals (first | assumption | wp_step))
            exact go _ _ full kept
          | _ => exact hr2.elim
    | _ => exact hr.elim
end
def tLens (K : PySem.W.Frag) (ta : TE) : TE := fun σ H Q => ta σ H fun x G => ∃ c, ∃ ts : List Str, x = .ref c ∧ (SqL K G c (ts.map V.str) ∨ SqT K G c (ts.map V.str)) ∧ ts.Nodup ∧ ts.length ≤ 1000 ∧ Q (.int ts.length) G
theorem pe_lens {X : Cx} {a : Expr} {ta : TE} {p p2 q pos : Pos} (calm : X.calm = true) (gl : Gl X "len") (nl : X.mg "len" = none) (gs : Gl X "set") (ns : X.mg "set" = none) (arg : PE X a ta)
    (na : starEach [a] X.env = (false, eval a X.env) :: starEach [] X.env := by rfl) : PE X (.Call (.Name "len" p) [.Call (.Name "set" p2) [a] [] q] [] pos) (tLens X.K ta) := by
  refine ⟨fun pins s σ H Q I h => Call_ (ld_blt I gl nl boot_len ?_)⟩
  refine callWith_builtin1 (args_cons ?_ rfl) rfl rfl
  refine Call_ (ld_blt I gs ns boot_set (callWith_type1 (args_cons (thn (arg.run pins s σ H _ I h) fun v s1 z => args_nil ?_) na) na rfl))
  obtain ⟨x, G, I1, r1, c, ts, rfl, hq, nd, few, go⟩ := z
  cases r1
  have fin : ∀ (its : List Value), Vals (ts.map V.str) its → ∀ (g : Heap) (tk : Nat), g.SetOf (PySem.strKind X.prog X.w) s1.heap.objs.size (fun k => (ts.take its.toArray.size).any (· == k)) its.toArray.size → (∀ d o, d < s1.heap.objs.size → s1.heap.get? d = some o → g.get? d = some o) →
      wpAny (model X.prog X.w) X.A (spliced (backTo pos (starEach [] X.env))) (fun vs s₂ => wpAny (model X.prog X.w) X.A (call (.builtin "len") (Value.ref s1.heap.objs.size :: vs)) (EP X pins σ Q) X.xe s₂) X.xe { s1 with heap := g, toks := tk } := by
    intro its r g tk full kept
    refine args_nil ?_
    have len : its.toArray.size = ts.length := by
      have := r.length
      rw [List.length_map] at this
      rw [List.size_toArray]
      exact this.symm
    rw [len] at full
    obtain ⟨o, es, ep, t, ho, hex, hd, _, _, _, hf, hn⟩ := full
    have I2 : Inv X pins σ G { s1 with heap := g, toks := tk } := I1.kept fun d o e => kept d o (Heap.lt_size e) e
    exact call_len_set ho hex hd hf (by rw [hn]; omega) ⟨.int ts.length, G, I2.tok _, ⟨_, by rw [hn]⟩, go⟩
  rcases hq with hq | hq
  · obtain ⟨its, r, pl, _⟩ := I1.list hq
    exact set_of_list (I1.ok.hd calm) pl.isList (by simpa using strsAre_of r) nd few fun g tk hS hk => fin its r g tk hS hk
  · obtain ⟨its, r, pl, _⟩ := I1.tuple hq
    exact set_of_tuple (I1.ok.hd calm) pl (by simpa using strsAre_of r) nd few fun g tk hS hk => fin its r g tk hS hk
section
variable {P : Program} {w : World} {K : PySem.W.Frag} {mg : Str → Option Value} {base : Heap}
/-! ### are_unlike -/
theorem sc_are_unlike : FnScope ["items"] ["items"] (defScope s_are_unlike) := ⟨rfl, rfl, rfl, by decide +kernel, rfl, by decide +kernel, by decide +kernel⟩
def sp_are_unlike (K : PySem.W.Frag) : Sp := fun vs H Q _ => ∃ c, ∃ ts : List Str, vs = [.ref c] ∧ (SqL K H c (ts.map V.str) ∨ SqT K H c (ts.map V.str)) ∧ ts.Nodup ∧ ts.length ≤ 1000 ∧ Q (.bl true) H
theorem ok_are_unlike (T : Tx K mg) : FnOk P w K mg base CX0 1 T.f_are_unlike T.d_are_unlike ["items"] (sp_are_unlike K) := by
  refine T.F_are_unlike.ok sc_are_unlike (fun vs H Q E h => ?_) (fun cdv A outer s H vs Q E hr h => ?_)
  · obtain ⟨c, ts, rfl, _⟩ := h
    rfl
  · obtain ⟨c, ts, rfl, hq, nd, few, k⟩ := h
    refine ⟨_, pss_one (ps_ret (pe_cmpR op_eq (pe_lens rfl (by rfl) T.t_len (by rfl) T.t_set (pv 0)) (pe_callB call_len_seq (by rfl) T.t_len PySem.boot_len (pa_cons (pv 0) pa_nil)) (nomark _))), ?_⟩
    refine ⟨_, rfl, c, ts, rfl, hq, nd, few, ?_⟩
    refine ⟨_, rfl, c, _, rfl, hq, rfl, ?_⟩
    rw [List.length_map, decide_eq_true (rfl : V.int ts.length = V.int ts.length)]
    exact k
end
end T82
/-! ### sum([t], ()) -/
namespace T82
open PySem L2 PyProof.Rows
open PySem.Spec
theorem sum_args2 (a b : Value) : argsOk "sum" ⟨[a, b], []⟩ := by
  unfold argsOk
  kernel_rfl
theorem tup_nostr : isSubtype (.type "tuple") (.type "str") = pure false := by
  rw [isSubtype_type]
  kernel_rfl
theorem tup_nobytes : isSubtype (.type "tuple") (.type "bytes") = pure false := by
  rw [isSubtype_type]
  kernel_rfl
theorem tup_noarr : isSubtype (.type "tuple") (.type "bytearray") = pure false := by
  rw [isSubtype_type]
  kernel_rfl
section
variable {prog : Program} {w : World} {A : Around} {E : Value → Shared → Prop} {z : Shared}
theorem sum_end {I S : Addr} {tot : Addr} {c : Nat} {fp wr : List Addr} {G : Array GenState → Array GenState → Prop} {n : Nat} {P : Nat → Value → Prop} {St : Nat → Shared → Prop} {R : Result → Shared → Prop}
    (W : WalksS prog w A.in1 I fp wr G n P St) (st : St n z) (hS : z.heap.get? S = some { cls := .type "list", dict := none, data := .seq #[.ref tot] c, slots := #[] })
    (go : ∀ z', Moved wr G z z' → R (.ok (.ret (.ref tot))) z') : codeAny (model prog w) A (.builtin "sum.loop" ⟨[.ref I, .ref S, rawInt 2, rawInt 0], []⟩) R z := by
  refine codeAny_builtin F.entry_sum_loop ?_
  rw [Around.under_plainId F.plain_sum_loop _]
  show wpAny _ A.in1 (seqItems? (.ref S) >>= _) _ _ z
  refine wpAny_bind (wpAny_seqItems hS rfl ?_)
  show wpAny _ A.in1 (tryCatch (pyNext (.ref I)) _ >>= _) _ _ z
  refine wpAny_bind (wpAny_tryCatch (W.done z _ _ st fun z1 mv => ?_))
  exact wpAny_pure (go z1 mv)
theorem sum_one {l e t : Addr} {ws : List Value} {Q : Value → Shared → Prop} (calm : A.handled = none) (hl : z.heap.IsList l #[.ref t]) (he : IsTup z.heap e ([] : List Value).toArray) (ht : IsTup z.heap t ws.toArray)
    (go : ∀ g tk, (∀ b o, z.heap.get? b = some o → g.get? b = some o) → Q (.ref t) { z with heap := g, toks := tk }) :
    wpAny (model prog w) A (call (.builtin "sum") [.ref l, .ref e]) Q E z := by
  refine call_function_tree F.kind_sum F.plain_sum F.entry_sum (sum_args2 _ _) ?_
  unfold Builtin.«sum»
  simp only [List.length_cons, List.length_nil]
  rw [if_neg (by decide)]
  refine wpAny_bind (wpAny_of_eq (show Builtin.Builtins.bindParams "sum" ["start"] 0 ⟨[.ref e], []⟩ = pure [some (.ref e)] from rfl) ?_)
  refine wpAny_bind (wpAny_pyIter_list hl ?_)
  have tye : Shared.TypeIs { z with heap := z.heap.push { cls := .type "list_iterator", data := .fields #[.ref l, .int 0 0] } } (.ref e) "tuple" := by
    obtain ⟨o, ho, hc, _⟩ := he
    exact ⟨o, Heap.get?_push_of_some _ ho, hc⟩
  refine wpAny_bind (wpAny_pure ?_)
  simp only [List.forIn_cons, List.forIn_nil]
  refine wpAny_bind (wpAny_bind (wpAny_bind (wpAny_isInstance (T := "tuple") (b := false) tye tup_nostr ?_)))
  simp only [Bool.false_eq_true, if_false]
  refine wpAny_pure (wpAny_bind (wpAny_bind (wpAny_isInstance (T := "tuple") (b := false) tye tup_nobytes ?_)))
  simp only [Bool.false_eq_true, if_false]
  refine wpAny_pure (wpAny_bind (wpAny_bind (wpAny_isInstance (T := "tuple") (b := false) tye tup_noarr ?_)))
  simp only [Bool.false_eq_true, if_false]
  refine wpAny_pure (wpAny_pure (wpAny_bind (wpAny_newObj_type ?_)))
  obtain ⟨ol, hol, hcl, nl, hdl⟩ := id hl
  have below : l < z.heap.objs.size := Heap.lt_size hol
  have sz1 : (z.heap.push { cls := .type "list_iterator", data := .fields #[.ref l, .int 0 0] }).objs.size = z.heap.objs.size + 1 := Heap.size_push ..
  have W := (Walks.list (prog := prog) (w := w) (A := A.in1) (show A.in1.handled = none from calm) z.heap.objs.size l (Nat.ne_of_lt below) #[.ref t]).toS
  refine wpAny_pure ⟨plainId_quiet F.plain_sum_loop _, ?_⟩
  refine codeAny_builtin F.entry_sum_loop ?_
  rw [Around.under_plainId F.plain_sum_loop _]
  refine wpAny_bind (wpAny_seqItems (Heap.get?_push_size _ rfl) rfl ?_)
  show wpAny _ A.in1 (tryCatch (pyNext (.ref z.heap.objs.size)) _ >>= _) _ _ _
  refine wpAny_bind (wpAny_tryCatch (W.item 0 _ _ _ (show 0 < 1 from Nat.zero_lt_one) ⟨⟨_, Heap.get?_push_of_some _ (Heap.get?_push_size _ rfl), rfl, rfl⟩, (hl.push _).push _⟩ fun v z1 hv st1 mv => ?_))
  have ev : v = .ref t := by
    have : some (Value.ref t) = some v := hv
    exact (Option.some.inj this).symm
  subst ev
  have eI : ∀ b o, z.heap.get? b = some o → z1.heap.get? b = some o := fun b o q =>
    mv.heap b o (by rw [List.mem_singleton]; exact Nat.ne_of_lt (Heap.lt_size q)) (Heap.get?_push_of_some _ (Heap.get?_push_of_some _ q))
  have he1 : IsTup z1.heap e ([] : List Value).toArray := by
    obtain ⟨o, ho, more⟩ := he
    exact ⟨o, eI _ _ ho, more⟩
  have ht1 : IsTup z1.heap t ws.toArray := by
    obtain ⟨o, ho, more⟩ := ht
    exact ⟨o, eI _ _ ho, more⟩
  have apart : (z.heap.push { cls := .type "list_iterator", data := .fields #[.ref l, .int 0 0] }).objs.size ∉ [z.heap.objs.size] := by
    rw [sz1, List.mem_singleton]
    exact Nat.succ_ne_self _
  have hS1 := mv.heap _ _ apart (Heap.get?_push_size _ rfl)
  show wpAny _ A.in1 ((holding [Value.ref t] (binaryOp .Add (.ref e) (.ref t))).attempt >>= _) _ _ _
  refine wpAny_bind (wpAny_attempt (wpAny_holding (cat_tup0 he1 ht1 ?_)))
  refine wpAny_bind (wpAny_updateSeq hS1 rfl ?_)
  refine wpAny_bind (wpAny_letGo ?_)
  have hS2 := Heap.get?_update_self (Obj.mapSeq fun _ => #[Value.ref t]) hS1 rfl
  refine wpAny_bind (wpAny_updateSeq hS2 rfl (wpAny_pure ⟨plainId_quiet F.plain_sum_loop _, ?_⟩))
  have hS3 := Heap.get?_update_self (Obj.mapSeq fun _ => #[Value.ref t]) hS2 rfl
  refine sum_end W (W.frame 1 z1 _ _ st1 (Nat.le_refl _) fun b hb o q => ?_) hS3 fun z4 mv4 => ?_
  · have ne : (z.heap.push { cls := .type "list_iterator", data := .fields #[.ref l, .int 0 0] }).objs.size ≠ b := by
      rw [sz1]
      simp only [List.mem_cons, List.not_mem_nil, or_false] at hb
      rcases hb with rfl | rfl
      · exact Nat.succ_ne_self _
      · exact Nat.ne_of_gt (Nat.lt_succ_of_lt below)
    exact (Heap.get?_update_other _ _ ne).trans ((Heap.get?_update_other _ _ ne).trans q)
  · obtain ⟨g4, gs4, dr4, tk4, os4⟩ := z4
    have e1 : gs4 = z.gens := mv4.gens.trans mv.gens
    have e2 : dr4 = z.drawn := mv4.drawn.trans mv.drawn
    have e3 : os4 = z.os := mv4.os.trans mv.os
    subst e1 e2 e3
    refine go g4 tk4 fun b o q => mv4.heap b o ?_ ?_
    · rw [List.mem_singleton]
      exact Nat.ne_of_lt (Heap.lt_size q)
    · have ne : (z.heap.push { cls := .type "list_iterator", data := .fields #[.ref l, .int 0 0] }).objs.size ≠ b := by
        rw [sz1]
        exact Nat.ne_of_gt (Nat.lt_succ_of_lt (Heap.lt_size q))
      exact (Heap.get?_update_other _ _ ne).trans ((Heap.get?_update_other _ _ ne).trans (eI b o q))
end
def rSum1 (K : PySem.W.Frag) : List V → Hp → VK → Prop := fun us H Q => ∃ l e t ws, us = [.ref l, .ref e] ∧ SqL K H l [.ref t] ∧ SqT K H e [] ∧ SqT K H t ws ∧ Q (.ref t) H
theorem cr_sum1 {X : Cx} (calm : X.calm = true) : CallR X (.builtin "sum") (rSum1 X.K) := by
  intro pins s σ H us vs Q I r h
  obtain ⟨l, e, t, ws, rfl, hl, he, ht, go⟩ := h
  obtain ⟨its, rv, pl, _⟩ := I.list hl
  obtain ⟨its2, rv2, pl2, _⟩ := I.tuple he
  obtain ⟨its3, rv3, pl3, _⟩ := I.tuple ht
  cases rv2
  cases rv with
  | cons r1 rr =>
    cases rr
    cases r1
    cases r with
    | cons r1 rr =>
      cases r1
      cases rr with
      | cons r1 rr =>
        cases r1
        cases rr
        exact sum_one (I.ok.hd calm) pl.isList pl2 pl3 fun g tk kept => ⟨.ref t, H, I.kept kept, rfl, go⟩
end T82
/-! ### the layer's rules with the written part named -/
namespace T82
open PySem L2
section
variable {X : Cx} {K : PySem.W.Frag} (e : X.K = K)
include e
theorem cAll (hc : X.calm = true) : CallR X (.builtin "all") (rAll K) := by subst e; exact cr_all hc
theorem cAny (hc : X.calm = true) : CallR X (.builtin "any") (rAny K) := by subst e; exact cr_any hc
theorem cSum1 (hc : X.calm = true) : CallR X (.builtin "sum") (rSum1 K) := by subst e; exact cr_sum1 hc
theorem cSum (hc : X.calm = true) : CallR X (.builtin "sum") (rSum K) := by subst e; exact cr_sum hc
theorem cIsi : CallR X (.builtin "isinstance") (rIsi K) := by subst e; exact call_isi
def rLn (K : PySem.W.Frag) : List V → Hp → VK → Prop := fun us H Q => ∃ p ys, us = [.ref p] ∧ (SqL K H p ys ∨ SqT K H p ys) ∧ Q (.int ys.length) H
theorem cLen : CallR X (.builtin "len") (rLn K) := by subst e; exact call_len_seq
def rToL (K : PySem.W.Frag) : List V → Hp → VK → Prop := fun us H Q => ∃ p ys, us = [.ref p] ∧ (SqL K H p ys ∨ SqT K H p ys) ∧ ∀ l, H l = none → Q (.ref l) (upd H l (.lst ys))
theorem tList : CallR X (.type "list") (rToL K) := by subst e; exact call_list_of
def rToT (K : PySem.W.Frag) : List V → Hp → VK → Prop := fun us H Q => ∃ p ys, us = [.ref p] ∧ ((SqL K H p ys ∧ ∀ l, H l = none → Q (.ref l) (upd H l (.tup ys))) ∨ (SqT K H p ys ∧ Q (.ref p) H))
theorem tTup : CallR X (.type "tuple") (rToT K) := by subst e; exact call_tuple_of
theorem iT : IxR X (rIxT K) := by subst e; exact ix_tup
theorem iL : IxR X (rIxL K) := by subst e; exact ix_list
theorem sT : SlR X (rSlA K) := by subst e; exact sl_tupA
theorem sL : SlR X (rSlL K) := by subst e; exact sl_list
theorem oIn : OpR X (compareOp .In) (rIn K false) := by subst e; exact op_in_seq
theorem oNotIn : OpR X (compareOp .NotIn) (rIn K true) := by subst e; exact op_notIn_seq
theorem oCatT : OpR X (binaryOp .Add) (rCatA K) := by subst e; exact op_catA
theorem oEqD (hu : X.A.units + 64 < cLine) : OpR X (compareOp .Eq) (rEqD K) := by subst e; exact op_eqD hu
theorem oNeD (hu : X.A.units + 64 < cLine) : OpR X (compareOp .NotEq) (rNeD K) := by subst e; exact op_neD hu
theorem wT {tg l : Expr} {tl : TE} (hl : PE X l tl) : PI X tg l (iTup K tl) := by subst e; exact pi_tup hl
theorem wL {tg l : Expr} {tl : TE} (hl : PE X l tl) : PI X tg l (iList K tl) := by subst e; exact pi_list hl
theorem wE {a : Expr} {ta : TA} {p q q2 : Pos} {es : List Expr} {k2 : Nat} (gl : Gl X "enumerate") (nm : X.mg "enumerate" = none) (arg : PA X [a] ta) (se : starEach [a] X.env = [(false, eval a X.env)] := by rfl) :
    PI X (.Tuple es k2 q2) (.Call (.Name "enumerate" p) [a] [] q) (iE K ta) := by subst e; exact pi_enumT gl nm arg se
theorem wZ {a b : Expr} {ta : TA} {p q q2 : Pos} {es : List Expr} {k2 : Nat} (gl : Gl X "zip") (nm : X.mg "zip" = none) (arg : PA X [a, b] ta)
    (h1 : starEach [a, b] X.env = (false, eval a X.env) :: starEach [b] X.env := by rfl) (h2 : (backTo q (starEach [b] X.env)).any (·.1) = false := by rfl) :
    PI X (.Tuple es k2 q2) (.Call (.Name "zip" p) [a, b] [] q) (RZ.iZipA K ta) := by subst e; exact RZ.pi_zipA gl nm arg h1 h2
theorem eFld {o : Expr} {f : Str} {ta : TE} {pos : Pos} (ho : PE X o ta) (hb : attributeBase o f X.env (eval o X.env) = eval o X.env) : PE X (.Attribute o f pos) (tFld K ta f) := by subst e; exact pe_fld ho hb
end
end T82
namespace T82
open PySem L2
section
variable {J : It} {n : Nat} {G : Hp → Prop} {Y : Nat → Hp → V → Hp → Prop}
/-- all of the comprehension's items are True -/
theorem lc_true {K : PySem.W.Frag} (w : Walk J n G Y) {g : TG} {te : TE} {vs : List Nat} {σ : L2.St} {H1 : Hp} {D : Addr} {Qd : Hp → Prop} (nD : H1 D = none) (sz : n ≤ 100000)
    (hG : ∀ H, But D H1 H → G H)
    (hs : ∀ i x H H', i < n → But D H1 H → H D ≠ none → Y i H x H' → Same H H' ∧ ∀ N : VK, (∀ H4, Same H' H4 → N (.bl true) H4) → g x (wipe σ vs) H' fun σ2 H2 => wipe σ2 vs = wipe σ vs ∧ te σ2 H2 N)
    (hd : ∀ (H : Hp) (bs : List Bool), Same H1 H → SqL K H D (bs.map V.bl) → bs.all id = true → Qd H) :
    ∃ W : Nat → Nat → Hp → Prop, (∃ m, W 0 m (upd H1 D (.lst []))) ∧ ∀ i m H, W i m H →
      (J.stop i H ∧ Qd H) ∨ (J.go i H ∧ ∃ Nx : Hp → Prop, (∀ H', Nx H' → ∃ m', m' < m ∧ W (i + 1) m' H') ∧ ∀ x H', J.yld i H x H' → g x (wipe σ vs) H' fun σ2 H2 => wipe σ2 vs = wipe σ vs ∧ tYes σ2 H2 fun b H3 =>
        if b = true then te σ2 H3 fun y H4 => ∃ acc, H4 D = some (.lst acc) ∧ acc.length < sizeLine ∧ Nx (upd H4 D (.lst (acc ++ [y]))) else Nx H3) := by
  refine lc_im (K := K) w nD (List.replicate n (PyData.bool true)) (by simp) sz hG (fun i d x H H' hd' hb hne y => ?_) (fun H ys hb hy im => ?_)
  · have lt : i < n := by
      have := (List.getElem?_eq_some_iff.mp hd').1
      simpa using this
    rw [List.getElem?_replicate, if_pos lt] at hd'
    cases hd'
    obtain ⟨s1, q⟩ := hs i x H H' lt hb hne y
    exact ⟨s1, fun N hN => q N fun H4 s4 => hN _ _ s4 im_bl⟩
  · have e : (List.replicate n (PyData.bool true)) = (List.replicate n true).map PyData.bool := by simp
    rw [e] at im
    rw [im.bools] at hy
    exact hd H (List.replicate n true) (hb.same nD) (SqL.of hy) (by simp)
/-- the comprehension's items are these texts -/
theorem lc_strs {K : PySem.W.Frag} (w : Walk J n G Y) {g : TG} {te : TE} {vs : List Nat} {σ : L2.St} {H1 : Hp} {D : Addr} {Qd : Hp → Prop} (zs : List Str) (len : zs.length = n) (nD : H1 D = none) (sz : n ≤ 100000)
    (hG : ∀ H, But D H1 H → G H)
    (hs : ∀ i z x H H', zs[i]? = some z → But D H1 H → H D ≠ none → Y i H x H' → Same H H' ∧ ∀ N : VK, (∀ H4, Same H' H4 → N (.str z) H4) → g x (wipe σ vs) H' fun σ2 H2 => wipe σ2 vs = wipe σ vs ∧ te σ2 H2 N)
    (hd : ∀ H, But D H1 H → H D = some (.lst (zs.map V.str)) → Qd H) :
    ∃ W : Nat → Nat → Hp → Prop, (∃ m, W 0 m (upd H1 D (.lst []))) ∧ ∀ i m H, W i m H →
      (J.stop i H ∧ Qd H) ∨ (J.go i H ∧ ∃ Nx : Hp → Prop, (∀ H', Nx H' → ∃ m', m' < m ∧ W (i + 1) m' H') ∧ ∀ x H', J.yld i H x H' → g x (wipe σ vs) H' fun σ2 H2 => wipe σ2 vs = wipe σ vs ∧ tYes σ2 H2 fun b H3 =>
        if b = true then te σ2 H3 fun y H4 => ∃ acc, H4 D = some (.lst acc) ∧ acc.length < sizeLine ∧ Nx (upd H4 D (.lst (acc ++ [y]))) else Nx H3) := by
  refine lc_im (K := K) w nD (zs.map PyData.str) (by simpa using len) sz hG (fun i d x H H' hd' hb hne y => ?_) (fun H ys hb hy im => ?_)
  · rw [List.getElem?_map] at hd'
    cases ez : zs[i]? with
    | none => rw [ez] at hd'; cases hd'
    | some z =>
      rw [ez] at hd'
      cases hd'
      obtain ⟨s1, q⟩ := hs i z x H H' ez hb hne y
      exact ⟨s1, fun N hN => q N fun H4 s4 => hN _ _ s4 im_str⟩
  · rw [im.strs] at hy
    exact hd H hb hy
end
/-! ### the drawn doors -/
structure Hd where
  name : Str
  kinds : List Str
  kind : Str
def Hd.d (h : Hd) : PyData := .tuple [.str h.name, .tuple (h.kinds.map PyData.str), .str h.kind]
structure Dor where
  sealed : List Str
  heads : List Hd
  law : Bool
def wordsD : PyData := .tuple [.tuple [.str "bit", .tuple [.str "no", .str "yes"]]]
def Dor.sealedD (d : Dor) : PyData := .tuple (d.sealed.map PyData.str)
def Dor.headsD (d : Dor) : PyData := .tuple (d.heads.map Hd.d)
def lawL : Tm := .c "ask" [.c "f" [.u 0]]
def lawR : Tm := .w "yes"
def lawD : PyData := .tuple [lawL.d, lawR.d]
def Dor.lawsD (d : Dor) : PyData := .tuple (if d.law = true then [lawD] else [])
def okName (z : Str) : Prop := nameB z = true ∧ z.length ≤ 100000
structure Dor.good (d : Dor) : Prop where
  sealed1 : 1 ≤ d.sealed.length
  sealed4 : d.sealed.length ≤ 3
  sealedN : ∀ z ∈ d.sealed, okName z
  kindsU : (("bit" : Str) :: d.sealed).Nodup
  heads1 : 1 ≤ d.heads.length
  heads12 : d.heads.length ≤ 12
  headsN : ∀ h ∈ d.heads, okName h.name ∧ h.name ≠ "no" ∧ h.name ≠ "yes" ∧ h.kinds.length ≤ 3
  headsK : ∀ h ∈ d.heads, ∀ k ∈ h.kinds ++ [h.kind], k ∈ ("bit" : Str) :: d.sealed
  headsU : (d.heads.map Hd.name).Nodup
  lawIn : d.law = true → (⟨"ask", ["s"], "bit"⟩ : Hd) ∈ d.heads ∧ (⟨"f", ["s"], "s"⟩ : Hd) ∈ d.heads
theorem okBit : okName "bit" := ⟨by decide +kernel, by decide +kernel⟩
theorem okNo : okName "no" := ⟨by decide +kernel, by decide +kernel⟩
theorem okYes : okName "yes" := ⟨by decide +kernel, by decide +kernel⟩
section
variable {P : Program} {w : World} {K : PySem.W.Frag} {mg : Str → Option Value} {base : Heap}
theorem words_at {H : Hp} {v : V} (h : Im K H wordsD v) : ∃ p q r, v = .ref p ∧ SqT K H p [.ref q] ∧ SqT K H q [.str "bit", .ref r] ∧ SqT K H r [.str "no", .str "yes"] := by
  unfold wordsD at h
  obtain ⟨p, xs, rfl, h1, r1⟩ := h.tup_
  obtain ⟨x, xs, rfl, h2, r2⟩ := r1.cons_
  obtain ⟨q, ys, rfl, h3, r3⟩ := h2.tup_
  obtain ⟨y, ys, rfl, h4, r4⟩ := r3.cons_
  obtain ⟨y2, ys, rfl, h5, r5⟩ := r4.cons_
  obtain ⟨r, zs, rfl, h6, r6⟩ := h5.tup_
  have e : zs = [V.str "no", V.str "yes"] := ImAll.strs (bs := ["no", "yes"]) r6
  rw [h4.str_, r5.nil_] at h3
  rw [r2.nil_] at h1
  rw [e] at h6
  exact ⟨p, q, r, rfl, h1, h3, h6⟩
theorem keepT {H H' : Hp} (s : Same H H') {a : Addr} {xs : List V} (h : SqT K H a xs) : SqT K H' a xs := (sk s).sq h
/-! ### are_words -/
abbrev nm_are_words : List Str := ["thing", "name", "some", "item", "word"]
theorem sc_are_words : FnScope nm_are_words ["thing"] (defScope s_are_words) := ⟨rfl, rfl, rfl, by decide +kernel, rfl, by decide +kernel, by decide +kernel⟩
def sp_are_words (K : PySem.W.Frag) : Sp := fun vs H Q _ => ∃ v, vs = [v] ∧ Im K H wordsD v ∧ ∀ H', Same H H' → Q (.bl true) H'
theorem ok_are_words (T : Tx K mg) : FnOk P w K mg base CX0 2 T.f_are_words T.d_are_words ["thing"] (sp_are_words K) := by
  refine T.F_are_words.ok sc_are_words (fun vs H Q E h => ?_) (fun cdv A outer s H vs Q E hr h => ?_)
  · obtain ⟨v, rfl, _⟩ := h
    rfl
  · obtain ⟨v, rfl, hv, k⟩ := h
    refine ⟨_, (pss_cons (ps_if (PW.pt (pw_or (pt_not (pt_val (pe_call (ok_is_tuple T) (hr.mono (by decide)) (by rfl) T.m_is_tuple T.F_is_tuple.kp T.b_is_tuple .nil pass0 (pa_cons (pv 0) (pa_cons pe_int (pa_cons (pe_glob rfl T.c_MOST_KINDS rI) pa_nil)))))) (pw_or1 (pt_not (pt_val (pe_callB (cAll (K := K) rfl rfl) (by rfl) T.t_all (by decide +kernel) (pa_cons (pe_lc (own := [("item", 3)]) (g := gName 3) (tt := tYes) rfl sc_are_words.nd (wT (K := K) rfl (pv 0)) (blkOk_by (N := nm_are_words) (sc := defScope s_are_words) (by decide +kernel)) (fun _ _ _ _ _ => (pg_name (i := 3) sc_are_words.nd rfl (Or.inl rfl))) (fun _ _ _ _ _ => pts_nil) (fun _ _ _ _ _ => (pe_and (pe_call (ok_is_tuple T) (hr.mono (by decide)) (by rfl) T.m_is_tuple T.F_is_tuple.kp T.b_is_tuple .nil pass0 (pa_cons (pv 3) (pa_cons pe_int (pa_cons pe_int pa_nil)))) (pe_one (pe_call (ok_is_name T) (hr.mono (by decide)) (by rfl) T.m_is_name T.F_is_name.kp T.b_is_name .nil pass0 (pa_cons (pe_ix (iT (K := K) rfl) (pv 3) pe_int (fun _ _ => rfl)) pa_nil)))))) pa_nil))))))) (pss_one (ps_ret pe_bl)) pss_nil)
    (pss_cons (ps_if (pt_not (pt_val (pe_callB (cAll (K := K) rfl rfl) (by rfl) T.t_all (by decide +kernel) (pa_cons (pe_lc (own := [("name", 1), ("some", 2)]) (g := gTup K 2 (gCons (gName 1) (gCons (gName 2) gNil))) (tt := tYes) rfl sc_are_words.nd (wT (K := K) rfl (pv 0)) (blkOk_by (N := nm_are_words) (sc := defScope s_are_words) (by decide +kernel)) (fun _ _ _ _ _ => (pg_tup rfl (pgs_cons (pg_name (i := 1) sc_are_words.nd rfl (Or.inl rfl)) (pgs_cons (pg_name (i := 2) sc_are_words.nd rfl (Or.inl rfl)) pgs_nil)))) (fun _ _ _ _ _ => pts_nil) (fun _ _ _ _ _ => (pe_and (pe_call (ok_is_tuple T) (hr.mono (by decide)) (by rfl) T.m_is_tuple T.F_is_tuple.kp T.b_is_tuple .nil pass0 (pa_cons (pv 2) (pa_cons pe_int (pa_cons (pe_glob rfl T.c_MOST_WORDS rI) pa_nil)))) (pe_one (pe_callB (cAll (K := K) rfl rfl) (by rfl) T.t_all (by decide +kernel) (pa_cons (pe_lc (own := [("word", 4)]) (g := gName 4) (tt := tYes) rfl sc_are_words.nd (wT (K := K) rfl (pv 2)) (blkOk_by (N := nm_are_words) (sc := ({ kind := .function, names := [(".0", .local), ("name", .local), ("some", .local), ("is_tuple", .globalImplicit), ("MOST_WORDS", .globalImplicit), ("all", .globalImplicit)], isGenerator := false, isCoroutine := false } : Scope)) (by decide +kernel)) (fun _ _ _ _ _ => (pg_name (i := 4) sc_are_words.nd rfl (Or.inl rfl))) (fun _ _ _ _ _ => pts_nil) (fun _ _ _ _ _ => (pe_call (ok_is_name T) (hr.mono (by decide)) (by rfl) T.m_is_name T.F_is_name.kp T.b_is_name .nil pass0 (pa_cons (pv 4) pa_nil)))) pa_nil)))))) pa_nil)))) (pss_one (ps_ret pe_bl)) pss_nil)
    (pss_one (ps_ret (pe_and (pe_call (ok_are_unlike T) (hr.mono (by decide)) (by rfl) T.m_are_unlike T.F_are_unlike.kp T.b_are_unlike .nil pass0 (pa_cons (pe_lc (own := [("name", 1), ("some", 2)]) (g := gTup K 2 (gCons (gName 1) (gCons (gName 2) gNil))) (tt := tYes) rfl sc_are_words.nd (wT (K := K) rfl (pv 0)) (blkOk_by (N := nm_are_words) (sc := defScope s_are_words) (by decide +kernel)) (fun _ _ _ _ _ => (pg_tup rfl (pgs_cons (pg_name (i := 1) sc_are_words.nd rfl (Or.inl rfl)) (pgs_cons (pg_name (i := 2) sc_are_words.nd rfl (Or.inl rfl)) pgs_nil)))) (fun _ _ _ _ _ => pts_nil) (fun _ _ _ _ _ => (pv 1))) pa_nil)) (pe_one (pe_call (ok_are_unlike T) (hr.mono (by decide)) (by rfl) T.m_are_unlike T.F_are_unlike.kp T.b_are_unlike .nil pass0 (pa_cons (pe_callB (cSum1 (K := K) rfl rfl) (by rfl) T.t_sum (by decide +kernel) (pa_cons (pe_lc (own := [("name", 1), ("some", 2)]) (g := gTup K 2 (gCons (gName 1) (gCons (gName 2) gNil))) (tt := tYes) rfl sc_are_words.nd (wT (K := K) rfl (pv 0)) (blkOk_by (N := nm_are_words) (sc := defScope s_are_words) (by decide +kernel)) (fun _ _ _ _ _ => (pg_tup rfl (pgs_cons (pg_name (i := 1) sc_are_words.nd rfl (Or.inl rfl)) (pgs_cons (pg_name (i := 2) sc_are_words.nd rfl (Or.inl rfl)) pgs_nil)))) (fun _ _ _ _ _ => pts_nil) (fun _ _ _ _ _ => (pv 2))) (pa_cons (pe_tup pa_nil) pa_nil))) pa_nil)))))))), ?_⟩
    obtain ⟨p, q, r, rfl, sp, sq, sr⟩ := words_at hv
    refine ⟨_, rfl, _, _, _, rfl, .inr ⟨p, _, rfl, sp, _, rfl, iteF ?_⟩⟩
    refine ⟨_, rfl, p, rfl, ⟨_, sp⟩, fun D hD => lc_true (K := K) (walk_tup (K := K) (a := p) (xs := [.ref q])) hD (show 1 ≤ 100000 by decide) (fun H2 hb => keepT (hb.same hD) sp) ?_ ?_⟩
    · rintro i x H2 H3 hi hb hne ⟨rfl, hx⟩
      have e0 : i = 0 := by
        have : i < 1 := hi
        omega
      subst e0
      cases hx
      have s2 := hb.same hD
      refine ⟨Same.refl _, fun N hN => ⟨rfl, _, rfl, _, _, _, rfl, .inr ⟨q, _, rfl, keepT s2 sq, _, rfl, iteT ?_⟩⟩⟩
      refine ⟨_, rfl, q, _, 0, _, rfl, rfl, keepT s2 sq, at0, "bit", rfl, okBit.2, fun H4 s4 => ?_⟩
      rw [okBit.1]
      exact hN H4 s4
    · intro H2 bs s2 hl ha
      refine ⟨D, bs, rfl, hl, ?_⟩
      rw [ha]
      refine ⟨_, rfl, iteF ?_⟩
      refine ⟨_, rfl, p, rfl, ⟨_, keepT s2 sp⟩, fun D3 hD3 => lc_true (K := K) (walk_tup (K := K) (a := p) (xs := [.ref q])) hD3 (show 1 ≤ 100000 by decide) (fun H3 hb => keepT (s2.trans (hb.same hD3)) sp) ?_ ?_⟩
      · rintro i x H3 H4 hi hb hne ⟨rfl, hx⟩
        have e0 : i = 0 := by
          have : i < 1 := hi
          omega
        subst e0
        cases hx
        have s3 := s2.trans (hb.same hD3)
        refine ⟨Same.refl _, fun N hN => ⟨q, _, rfl, keepT s3 sq, rfl, _, _, rfl, _, _, rfl, rfl, rfl, ?_⟩⟩
        refine ⟨_, rfl, _, _, _, rfl, .inr ⟨r, _, rfl, keepT s3 sr, _, rfl, iteT ?_⟩⟩
        refine ⟨_, rfl, r, rfl, ⟨_, keepT s3 sr⟩, fun D4 hD4 => lc_true (K := K) (walk_tup (K := K) (a := r) (xs := [.str "no", .str "yes"])) hD4 (show 2 ≤ 100000 by decide) (fun H5 hb5 => keepT (s3.trans (hb5.same hD4)) sr) ?_ ?_⟩
        · rintro j y H5 H6 hj hb5 hne5 ⟨rfl, hy⟩
          have both : ∃ z : Str, y = .str z ∧ okName z := by
            match j, hy with
            | 0, hy => cases hy; exact ⟨_, rfl, okNo⟩
            | 1, hy => cases hy; exact ⟨_, rfl, okYes⟩
          obtain ⟨z, rfl, hz⟩ := both
          refine ⟨Same.refl _, fun N hN => ⟨rfl, _, rfl, z, rfl, hz.2, fun H7 s7 => ?_⟩⟩
          rw [hz.1]
          exact hN H7 s7
        · intro H5 bs5 s5 hl5 ha5
          refine ⟨D4, bs5, rfl, hl5, ?_⟩
          rw [ha5]
          exact hN H5 s5
      · intro H3 bs3 s3 hl3 ha3
        refine ⟨D3, bs3, rfl, hl3, ?_⟩
        rw [ha3]
        refine ⟨_, rfl, iteF ?_⟩
        have s4 := s2.trans s3
        refine ⟨_, rfl, p, rfl, ⟨_, keepT s4 sp⟩, fun D5 hD5 => lc_strs (K := K) (walk_tup (K := K) (a := p) (xs := [.ref q])) ["bit"] rfl hD5 (show 1 ≤ 100000 by decide) (fun H5 hb => keepT (s4.trans (hb.same hD5)) sp) ?_ ?_⟩
        · rintro i z x H5 H6 hz hb hne ⟨rfl, hx⟩
          have e0 : i = 0 := by
            have := (List.getElem?_eq_some_iff.mp hz).1
            have : i < 1 := this
            omega
          subst e0
          cases hx
          cases hz
          have s5 := s4.trans (hb.same hD5)
          exact ⟨Same.refl _, fun N hN => ⟨q, _, rfl, keepT s5 sq, rfl, _, _, rfl, _, _, rfl, rfl, rfl, _, rfl, hN _ (Same.refl _)⟩⟩
        · intro H5 hb5 hl5
          refine ⟨D5, ["bit"], rfl, .inl (SqL.of hl5), by simp, by decide, ?_⟩
          have s5 := s4.trans (hb5.same hD5)
          refine ⟨_, rfl, iteT ?_⟩
          refine ⟨_, rfl, p, rfl, ⟨_, keepT s5 sp⟩, fun D6 hD6 => lc_im (K := K) (walk_tup (K := K) (a := p) (xs := [.ref q])) hD6 [PyData.tuple [.str "no", .str "yes"]] rfl (show 1 ≤ 100000 by decide) (fun H6 hb => keepT (s5.trans (hb.same hD6)) sp) ?_ ?_⟩
          · rintro i d x H6 H7 hd hb hne ⟨rfl, hx⟩
            have e0 : i = 0 := by
              have := (List.getElem?_eq_some_iff.mp hd).1
              have : i < 1 := this
              omega
            subst e0
            cases hx
            cases hd
            have s6 := s5.trans (hb.same hD6)
            exact ⟨Same.refl _, fun N hN => ⟨q, _, rfl, keepT s6 sq, rfl, _, _, rfl, _, _, rfl, rfl, rfl, _, rfl, hN _ _ (Same.refl _) (im_tup (keepT s6 sr) (ia_cons im_str (ia_cons im_str ia_nil)))⟩⟩
          · intro H6 ys hb6 hl6 im
            obtain ⟨v6, vs6, rfl, im6, im7⟩ := im.cons_
            rw [im7.nil_] at hl6
            obtain ⟨r6, ws, rfl, sr6, im8⟩ := im6.tup_
            have e6 : ws = [V.str "no", V.str "yes"] := ImAll.strs (bs := ["no", "yes"]) im8
            subst e6
            have s6 := s5.trans (hb6.same hD6)
            refine ⟨by show 0 ≤ sizeLine; decide, fun e he => ?_⟩
            have s7 := sn (o := .tup []) he
            refine ⟨D6, e, r6, _, rfl, SqL.of (s7 _ _ hl6), .inl (.inl upd_same), keepT s7 sr6, ?_⟩
            exact ⟨r6, ["no", "yes"], rfl, .inr (keepT s7 sr6), by decide, by decide, k _ (s6.trans s7)⟩
end
end T82
namespace T82
open PySem L2
theorem keepL {K : PySem.W.Frag} {H H' : Hp} (s : Same H H') {a : Addr} {xs : List V} (h : SqL K H a xs) : SqL K H' a xs := s.seq h
section
variable {X : Cx} {K : PySem.W.Frag} (e : X.K = K)
include e
/-- t + u: at some place stands the whole -/
def rCatU (K : PySem.W.Frag) : R2 := fun x y H Q => ∃ a b xs ys, x = .ref a ∧ y = .ref b ∧ SqT K H a xs ∧ SqT K H b ys ∧ xs.length + ys.length ≤ sizeLine ∧ ∀ t H', Same H H' → SqT K H' t (xs ++ ys) → Q (.ref t) H'
theorem oCatU : OpR X (binaryOp .Add) (rCatU K) := by
  subst e
  intro pins s σ H x y v u Q I rx ry h
  obtain ⟨a, b, xs, ys, rfl, rfl, ha, hb, hz, go⟩ := h
  refine op_catA pins s σ H _ _ v u Q I rx ry ⟨a, b, xs, ys, rfl, rfl, ha, hb, hz, fun z => ?_, fun _ z => ?_, fun _ _ p hp => go p _ (sn hp) (.inl (.inl upd_same))⟩
  · subst z
    exact go b H (Same.refl _) hb
  · subst z
    exact go a H (Same.refl _) (by rw [List.append_nil]; exact ha)
def rSlU (K : PySem.W.Frag) : V → Option Int → Option Int → Hp → VK → Prop := fun x lo hi H Q => ∃ a xs, x = .ref a ∧ SqT K H a xs ∧ ∀ t H', Same H H' → SqT K H' t (cutV xs lo hi) → Q (.ref t) H'
theorem sU : SlR X (rSlU K) := by
  subst e
  intro pins s σ H x v vl vu lo hi sl Q I rx hs pl pu h
  obtain ⟨a, xs, rfl, ha, go⟩ := h
  refine sl_tupA pins s σ H _ v vl vu lo hi sl Q I rx hs pl pu ⟨a, xs, rfl, ha, fun z => ?_, fun _ p hp => go p _ (sn hp) (.inl (.inl upd_same))⟩
  refine go a H (Same.refl _) ?_
  have : cutV xs lo hi = xs := by
    unfold cutV
    rw [z.1, z.2]
    simp
  rw [this]
  exact ha
end
theorem one_strs {zs : List Str} : zs.map V.str = zs.map V.str := rfl
end T82
namespace T82
open PySem L2
section
theorem inV_strs (z : Str) : ∀ zs : List Str, inV (.str z) (zs.map V.str) = decide (z ∈ zs)
  | [] => by simp [inV]
  | y :: ys => by
    have ih := inV_strs z ys
    unfold inV at ih ⊢
    rw [List.map_cons, List.any_cons, ih]
    show ((y == z) || _) = _
    by_cases e : y = z
    · subst e
      simp
    · have e2 : (y == z) = false := beq_eq_false_iff_ne.mpr e
      rw [e2, Bool.false_or]
      have : z ≠ y := fun q => e q.symm
      simp [this]
theorem flat_of_strs (zs : List Str) : (zs.map V.str).all flatV = true := by simp [flatV]
variable {P : Program} {w : World} {K : PySem.W.Frag} {mg : Str → Option Value} {base : Heap}
theorem strs_im {H : Hp} : ∀ {zs : List Str}, ImAll K H (zs.map PyData.str) (zs.map V.str)
  | [] => ia_nil
  | _ :: _ => ia_cons im_str strs_im
theorem strs_at2 {H : Hp} {zs : List Str} {v : V} (h : Im K H (.tuple (zs.map PyData.str)) v) : ∃ p, v = .ref p ∧ SqT K H p (zs.map V.str) := by
  obtain ⟨p, xs, rfl, q, r⟩ := h.tup_
  rw [r.strs] at q
  exact ⟨p, rfl, q⟩
/-! ### are_sealed -/
abbrev nm_are_sealed : List Str := ["thing", "words", "name", "some", "item"]
theorem sc_are_sealed : FnScope nm_are_sealed ["thing", "words"] (defScope s_are_sealed) := ⟨rfl, rfl, rfl, by decide +kernel, rfl, by decide +kernel, by decide +kernel⟩
def sp_are_sealed (K : PySem.W.Frag) : Sp := fun vs H Q _ => ∃ v u d, vs = [v, u] ∧ Dor.good d ∧ Im K H d.sealedD v ∧ Im K H wordsD u ∧ ∀ H', Same H H' → Q (.bl true) H'
theorem ok_are_sealed (T : Tx K mg) : FnOk P w K mg base CX0 2 T.f_are_sealed T.d_are_sealed ["thing", "words"] (sp_are_sealed K) := by
  refine T.F_are_sealed.ok sc_are_sealed (fun vs H Q E h => ?_) (fun cdv A outer s H vs Q E hr h => ?_)
  · obtain ⟨v, u, d, rfl, _⟩ := h
    rfl
  · obtain ⟨v, u, d, rfl, gd, hv, hu, k⟩ := h
    refine ⟨_, (pss_cons (ps_if (PW.pt (pw_or (pt_not (pt_val (pe_call (ok_is_tuple T) (hr.mono (by decide)) (by rfl) T.m_is_tuple T.F_is_tuple.kp T.b_is_tuple .nil pass0 (pa_cons (pv 0) (pa_cons pe_int (pa_cons (pe_glob rfl T.c_MOST_KINDS rI) pa_nil)))))) (pw_or1 (pt_not (pt_val (pe_callB (cAll (K := K) rfl rfl) (by rfl) T.t_all (by decide +kernel) (pa_cons (pe_lc (own := [("item", 4)]) (g := gName 4) (tt := tYes) rfl sc_are_sealed.nd (wT (K := K) rfl (pv 0)) (blkOk_by (N := nm_are_sealed) (sc := defScope s_are_sealed) (by decide +kernel)) (fun _ _ _ _ _ => (pg_name (i := 4) sc_are_sealed.nd rfl (Or.inl rfl))) (fun _ _ _ _ _ => pts_nil) (fun _ _ _ _ _ => (pe_call (ok_is_name T) (hr.mono (by decide)) (by rfl) T.m_is_name T.F_is_name.kp T.b_is_name .nil pass0 (pa_cons (pv 4) pa_nil)))) pa_nil))))))) (pss_one (ps_ret pe_bl)) pss_nil)
    (pss_one (ps_ret (pe_call (ok_are_unlike T) (hr.mono (by decide)) (by rfl) T.m_are_unlike T.F_are_unlike.kp T.b_are_unlike .nil pass0 (pa_cons (pe_op op_cat (pe_lc (own := [("name", 2), ("some", 3)]) (g := gTup K 2 (gCons (gName 2) (gCons (gName 3) gNil))) (tt := tYes) rfl sc_are_sealed.nd (wT (K := K) rfl (pv 1)) (blkOk_by (N := nm_are_sealed) (sc := defScope s_are_sealed) (by decide +kernel)) (fun _ _ _ _ _ => (pg_tup rfl (pgs_cons (pg_name (i := 2) sc_are_sealed.nd rfl (Or.inl rfl)) (pgs_cons (pg_name (i := 3) sc_are_sealed.nd rfl (Or.inl rfl)) pgs_nil)))) (fun _ _ _ _ _ => pts_nil) (fun _ _ _ _ _ => (pv 2))) (pe_callTy (tList (K := K) rfl) (by rfl) T.t_list (by decide +kernel) (pa_cons (pv 0) pa_nil))) pa_nil))))), ?_⟩
    obtain ⟨a, rfl, sa⟩ := strs_at2 hv
    obtain ⟨p, q, r, rfl, sp, sq, sr⟩ := words_at hu
    have l1 := gd.sealed1
    have l2 := gd.sealed4
    refine ⟨_, rfl, _, _, _, rfl, .inr ⟨a, _, rfl, sa, _, rfl, itf ?_ ?_⟩⟩
    · simp only [List.length_map, Bool.not_eq_false', Bool.and_eq_true, decide_eq_true_eq]
      omega
    refine ⟨_, rfl, a, rfl, ⟨_, sa⟩, fun D hD => lc_true (K := K) (walk_tup (K := K) (a := a) (xs := d.sealed.map V.str)) hD (by rw [List.length_map]; omega) (fun H2 hb => keepT (hb.same hD) sa) ?_ ?_⟩
    · rintro i x H2 H3 hi hb hne ⟨rfl, hx⟩
      rw [List.getElem?_map] at hx
      cases ez : d.sealed[i]? with
      | none => rw [ez] at hx; cases hx
      | some z =>
        rw [ez] at hx
        cases hx
        have okz := gd.sealedN z (List.mem_of_getElem? ez)
        refine ⟨Same.refl _, fun N hN => ⟨rfl, _, rfl, z, rfl, okz.2, fun H4 s4 => ?_⟩⟩
        rw [okz.1]
        exact hN H4 s4
    · intro H2 bs s2 hl ha
      refine ⟨D, bs, rfl, hl, ?_⟩
      rw [ha]
      refine ⟨_, rfl, iteF ?_⟩
      refine ⟨_, rfl, p, rfl, ⟨_, keepT s2 sp⟩, fun D3 hD3 => lc_strs (K := K) (walk_tup (K := K) (a := p) (xs := [.ref q])) ["bit"] rfl hD3 (show 1 ≤ 100000 by decide) (fun H3 hb => keepT (s2.trans (hb.same hD3)) sp) ?_ ?_⟩
      · rintro i z x H3 H4 hz hb hne ⟨rfl, hx⟩
        have e0 : i = 0 := by
          have := (List.getElem?_eq_some_iff.mp hz).1
          have : i < 1 := this
          omega
        subst e0
        cases hx
        cases hz
        have s3 := s2.trans (hb.same hD3)
        exact ⟨Same.refl _, fun N hN => ⟨q, _, rfl, keepT s3 sq, rfl, _, _, rfl, _, _, rfl, rfl, rfl, _, rfl, hN _ (Same.refl _)⟩⟩
      · intro H3 hb3 hl3
        have s3 := s2.trans (hb3.same hD3)
        refine ⟨_, rfl, a, _, rfl, .inr (keepT s3 sa), fun D4 hD4 => ?_⟩
        have s4 := sn (o := .lst (d.sealed.map V.str)) hD4
        have hl4 := s4 _ _ hl3
        refine ⟨D3, D4, _, _, rfl, rfl, hl4, upd_same, ?_, fun D5 hD5 => ?_⟩
        · have e : sizeLine = 16777216 := sizeLine_eq
          rw [e]
          simp
          omega
        · refine ⟨D5, ("bit" : Str) :: d.sealed, rfl, .inl (SqL.of (upd_same (o := .lst (List.map V.str [("bit" : Str)] ++ d.sealed.map V.str)))), gd.kindsU, ?_, k _ ((s3.trans s4).trans (sn hD5))⟩
          simp
          omega
/-! ### are_heads -/
abbrev nm_are_heads : List Str := ["thing", "kinds", "words", "item", "kind"]
theorem sc_are_heads : FnScope nm_are_heads ["thing", "kinds", "words"] (defScope s_are_heads) := ⟨rfl, rfl, rfl, by decide +kernel, rfl, by decide +kernel, by decide +kernel⟩
theorem hd_at {H : Hp} {h : Hd} {v : V} (q : Im K H h.d v) : ∃ p a, v = .ref p ∧ SqT K H p [.str h.name, .ref a, .str h.kind] ∧ SqT K H a (h.kinds.map V.str) := by
  unfold Hd.d at q
  obtain ⟨p, xs, rfl, h1, r1⟩ := q.tup_
  obtain ⟨x, xs, rfl, h2, r2⟩ := r1.cons_
  obtain ⟨y, xs, rfl, h3, r3⟩ := r2.cons_
  obtain ⟨z, xs, rfl, h4, r4⟩ := r3.cons_
  obtain ⟨a, rfl, h5⟩ := strs_at2 h3
  rw [h2.str_, h4.str_, r4.nil_] at h1
  exact ⟨p, a, rfl, h1, h5⟩
theorem at2 {x y z : V} {xs : List V} : atI (x :: y :: z :: xs) 2 = some z := atI_nat (j := 2) rfl
def sp_are_heads (K : PySem.W.Frag) : Sp := fun vs H Q _ => ∃ v c e d, vs = [v, .ref c, .ref e] ∧ Dor.good d ∧ Im K H d.headsD v ∧ SqL K H c ((("bit" : Str) :: d.sealed).map V.str) ∧ SqT K H e [.str "no", .str "yes"] ∧ ∀ H', Same H H' → Q (.bl true) H'
theorem ok_are_heads (T : Tx K mg) : FnOk P w K mg base CX0 2 T.f_are_heads T.d_are_heads ["thing", "kinds", "words"] (sp_are_heads K) := by
  refine T.F_are_heads.ok sc_are_heads (fun vs H Q E h => ?_) (fun cdv A outer s H vs Q E hr h => ?_)
  · obtain ⟨v, c, e, d, rfl, _⟩ := h
    rfl
  · obtain ⟨v, c, e, d, rfl, gd, hv, hc, he, k⟩ := h
    refine ⟨_, (pss_cons (ps_if (pt_not (pt_val (pe_call (ok_is_tuple T) (hr.mono (by decide)) (by rfl) T.m_is_tuple T.F_is_tuple.kp T.b_is_tuple .nil pass0 (pa_cons (pv 0) (pa_cons pe_int (pa_cons (pe_glob rfl T.c_MOST_HEADS rI) pa_nil)))))) (pss_one (ps_ret pe_bl)) pss_nil)
    (pss_cons (ps_for PassesOwn.never rfl (wT (K := K) rfl (pv 0)) (pg_name (i := 3) sc_are_heads.nd rfl (Or.inl rfl))
      (pss_cons (ps_if (PW.pt (pw_or (pt_not (pt_val (pe_call (ok_is_tuple T) (hr.mono (by decide)) (by rfl) T.m_is_tuple T.F_is_tuple.kp T.b_is_tuple .nil pass0 (pa_cons (pv 3) (pa_cons pe_int (pa_cons pe_int pa_nil)))))) (pw_or (pt_not (pt_val (pe_call (ok_is_name T) (hr.mono (by decide)) (by rfl) T.m_is_name T.F_is_name.kp T.b_is_name .nil pass0 (pa_cons (pe_ix (iT (K := K) rfl) (pv 3) pe_int (fun _ _ => rfl)) pa_nil)))) (pw_or (pt_cmpR (oIn (K := K) rfl) (pe_ix (iT (K := K) rfl) (pv 3) pe_int (fun _ _ => rfl)) (pv 2) rfl) (pw_or1 (pt_not (pt_val (pe_call (ok_is_tuple T) (hr.mono (by decide)) (by rfl) T.m_is_tuple T.F_is_tuple.kp T.b_is_tuple .nil pass0 (pa_cons (pe_ix (iT (K := K) rfl) (pv 3) pe_int (fun _ _ => rfl)) (pa_cons pe_int (pa_cons (pe_glob rfl T.c_MOST_SHAPE rI) pa_nil))))))))))) (pss_one (ps_ret pe_bl)) pss_nil)
      (pss_one (ps_if (pt_not (pt_val (pe_callB (cAll (K := K) rfl rfl) (by rfl) T.t_all (by decide +kernel) (pa_cons (pe_lc (own := [("kind", 4)]) (g := gName 4) (tt := tYes) rfl sc_are_heads.nd (wT (K := K) rfl (pe_op (oCatU (K := K) rfl) (pe_ix (iT (K := K) rfl) (pv 3) pe_int (fun _ _ => rfl)) (pe_tup (pa_cons (pe_ix (iT (K := K) rfl) (pv 3) pe_int (fun _ _ => rfl)) pa_nil)))) (blkOk_by (N := nm_are_heads) (sc := defScope s_are_heads) (by decide +kernel)) (fun _ _ _ _ _ => (pg_name (i := 4) sc_are_heads.nd rfl (Or.inl rfl))) (fun _ _ _ _ _ => pts_nil) (fun _ _ _ _ _ => (pe_and (pe_call (ok_is_name T) (hr.mono (by decide)) (by rfl) T.m_is_name T.F_is_name.kp T.b_is_name .nil pass0 (pa_cons (pv 4) pa_nil)) (pe_one (pe_cmpR (oIn (K := K) rfl) (pv 4) (pv 1) rfl))))) pa_nil)))) (pss_one (ps_ret pe_bl)) pss_nil))))
    (pss_one (ps_ret (pe_call (ok_are_unlike T) (hr.mono (by decide)) (by rfl) T.m_are_unlike T.F_are_unlike.kp T.b_are_unlike .nil pass0 (pa_cons (pe_lc (own := [("item", 3)]) (g := gName 3) (tt := tYes) rfl sc_are_heads.nd (wT (K := K) rfl (pv 0)) (blkOk_by (N := nm_are_heads) (sc := defScope s_are_heads) (by decide +kernel)) (fun _ _ _ _ _ => (pg_name (i := 3) sc_are_heads.nd rfl (Or.inl rfl))) (fun _ _ _ _ _ => pts_nil) (fun _ _ _ _ _ => (pe_ix (iT (K := K) rfl) (pv 3) pe_int (fun _ _ => rfl)))) pa_nil)))))), ?_⟩
    obtain ⟨p, xs, rfl, sp, ims⟩ := hv.tup_
    have len : xs.length = d.heads.length := by have := ims.len; simpa using this
    have l1 := gd.heads1
    have l2 := gd.heads12
    refine ⟨_, rfl, _, _, _, rfl, .inr ⟨p, _, rfl, sp, _, rfl, itf ?_ ?_⟩⟩
    · simp only [Bool.not_eq_false', Bool.and_eq_true, decide_eq_true_eq]
      omega
    refine ⟨_, rfl, p, rfl, ⟨_, sp⟩, ?_⟩
    refine for_it (walk_tup (K := K) (a := p) (xs := xs)) (fun i σ H2 => Same H H2 ∧ ∃ b, σ = [some (.ref p), some (.ref c), some (.ref e), b, none]) ⟨Same.refl _, none, rfl⟩ (fun i σ H2 _ z => keepT z.1 sp) ?_ ?_
    · rintro i x σ H2 H3 hi ⟨s2, b, rfl⟩ ⟨rfl, hx⟩
      obtain ⟨h0, eh⟩ : ∃ h0, d.heads[i]? = some h0 := ⟨d.heads[i], by simp [show i < d.heads.length by omega]⟩
      have mem := List.mem_of_getElem? eh
      obtain ⟨v, e1, im⟩ := ims.get (i := i) (d := h0.d) (by rw [List.getElem?_map, eh]; rfl)
      rw [hx] at e1
      cases e1
      obtain ⟨q, a, rfl, sq, sa⟩ := hd_at (Im.mono (sk s2) _ _ im)
      obtain ⟨⟨n1, n2⟩, n3, n4, n5⟩ := gd.headsN h0 mem
      refine ⟨_, rfl, _, _, _, rfl, .inr ⟨q, _, rfl, sq, _, rfl, iteF ?_⟩⟩
      refine ⟨_, rfl, q, _, 0, _, rfl, rfl, sq, at0, h0.name, rfl, n2, fun H4 s4 => ?_⟩
      rw [n1]
      refine ⟨_, rfl, iteF ?_⟩
      have sq4 := keepT s4 sq
      refine ⟨_, rfl, q, _, 0, _, rfl, rfl, sq4, at0, _, rfl, e, _, rfl, .inr (keepT (s2.trans s4) he), rfl, by decide, _, rfl, ?_⟩
      rw [show inV (.str h0.name) [V.str "no", V.str "yes"] = false by
        rw [show [V.str "no", V.str "yes"] = ([("no" : Str), "yes"] : List Str).map V.str from rfl, inV_strs]
        simp [n3, n4]]
      refine iteF ?_
      refine ⟨_, rfl, q, _, 1, _, rfl, rfl, sq4, at1, _, _, _, rfl, .inr ⟨a, _, rfl, keepT s4 sa, _, rfl, itf ?_ ?_⟩⟩
      · simp only [List.length_map, Bool.not_eq_false', Bool.and_eq_true, decide_eq_true_eq]
        omega
      refine ⟨_, rfl, q, _, 1, _, rfl, rfl, sq4, at1, ?_⟩
      refine ⟨_, rfl, q, _, 2, _, rfl, rfl, sq4, at2, by show 1 ≤ sizeLine; decide, fun u hu => ?_⟩
      have s5 := sn (o := .tup [.str h0.kind]) hu
      refine ⟨a, u, _, _, rfl, rfl, keepT (s4.trans s5) sa, .inl (.inl upd_same), ?_, fun t H6 s6 st => ?_⟩
      · rw [sizeLine_eq]
        simp
        omega
      have s7 := (s2.trans s4).trans (s5.trans s6)
      have e6 : h0.kinds.map V.str ++ [V.str h0.kind] = (h0.kinds ++ [h0.kind]).map V.str := by simp
      rw [e6] at st
      refine ⟨t, rfl, ⟨_, st⟩, fun D hD => lc_true (K := K) (walk_tup (K := K) (a := t) (xs := (h0.kinds ++ [h0.kind]).map V.str)) hD (by simp; omega) (fun H7 hb => keepT (hb.same hD) st) ?_ ?_⟩
      · rintro j x H7 H8 hj hb hne ⟨rfl, hx⟩
        rw [List.getElem?_map] at hx
        cases ez : (h0.kinds ++ [h0.kind])[j]? with
        | none => rw [ez] at hx; cases hx
        | some z =>
          rw [ez] at hx
          cases hx
          have inK := gd.headsK h0 mem z (List.mem_of_getElem? ez)
          have okz : okName z := by
            rcases List.mem_cons.mp inK with e0 | e0
            · rw [e0]
              exact okBit
            · exact gd.sealedN z e0
          refine ⟨Same.refl _, fun N hN => ⟨rfl, _, rfl, z, rfl, okz.2, fun H9 s9 => ?_⟩⟩
          rw [okz.1]
          refine ⟨_, rfl, iteT ?_⟩
          refine ⟨_, rfl, _, rfl, c, _, rfl, .inl (keepL ((s7.trans (hb.same hD)).trans s9) hc), rfl, flat_of_strs _, ?_⟩
          rw [inV_strs, decide_eq_true inK]
          exact hN _ s9
      · intro H7 bs s8 hl ha
        refine ⟨D, bs, rfl, hl, ?_⟩
        rw [ha]
        exact ⟨_, rfl, iteF ⟨s7.trans s8, _, rfl⟩⟩
    · rintro σ H2 ⟨s2, b, rfl⟩
      refine ⟨_, rfl, p, rfl, ⟨_, keepT s2 sp⟩, fun D hD => lc_strs (K := K) (walk_tup (K := K) (a := p) (xs := xs)) (d.heads.map Hd.name) (by simp [len]) hD (by omega) (fun H3 hb => keepT (s2.trans (hb.same hD)) sp) ?_ ?_⟩
      · rintro i z x H3 H4 hz hb hne ⟨rfl, hx⟩
        rw [List.getElem?_map] at hz
        cases eh : d.heads[i]? with
        | none => rw [eh] at hz; cases hz
        | some h0 =>
          rw [eh] at hz
          cases hz
          obtain ⟨v, e1, im⟩ := ims.get (i := i) (d := h0.d) (by rw [List.getElem?_map, eh]; rfl)
          rw [hx] at e1
          cases e1
          obtain ⟨q, a, rfl, sq, sa⟩ := hd_at (Im.mono (sk (s2.trans (hb.same hD))) _ _ im)
          exact ⟨Same.refl _, fun N hN => ⟨rfl, _, rfl, q, _, 0, _, rfl, rfl, sq, at0, hN _ (Same.refl _)⟩⟩
      · intro H3 hb hl
        exact ⟨D, _, rfl, .inl (SqL.of hl), gd.headsU, by simp; omega, k _ (s2.trans (hb.same hD))⟩
end
end T82
/-! ### {k: v for a in s for b in t}: two clauses, no test -/
namespace T82
open PySem L2 PyProof.Rows
open PySem.Spec
abbrev dc2 (kx vx ta sa tb sb : Expr) (scope : Scope) (pos : Pos) : Expr := .DictComp kx vx [⟨ta, sa, [], 0⟩, ⟨tb, sb, [], 0⟩] scope pos
section
variable {kx vx ta sa tb sb : Expr} {scope : Scope} {pos : Pos}
theorem outer_turn (it : Value) (D : Addr) (env : Env) : compTurn (dc2 kx vx ta sa tb sb scope pos) 0 it (.ref D) env = (do
    standAt sa.pos
    match ← pyNext it with
    | none => pure (.done .next)
    | some v =>
      letOwnedTupleGo ta it v
      assign ta env v
      let x ← eval sb env
      standAt sb.pos
      let x ← foldedSetIterable sb env x
      let _ ← runOwn (.compStart (dc2 kx vx ta sa tb sb scope pos) 1 (← holding [x] (pyIter x)) (.ref D) env) env
      again (.compLoop (dc2 kx vx ta sa tb sb scope pos) 0 it (.ref D) env)) := by rfl
theorem inner_turn (it : Value) (D : Addr) (env : Env) : compTurn (dc2 kx vx ta sa tb sb scope pos) 1 it (.ref D) env = (do
    standAt sb.pos
    match ← pyNext it with
    | none => pure (.done .next)
    | some v =>
      letOwnedTupleGo tb it v
      assign tb env v
      (do let kv ← eval kx env; let vv ← holding [kv] (eval vx env); standAt { kx.pos with endLine := vx.pos.endLine, endCol := vx.pos.endCol }; holding [kv, vv] (dictSet D kv vv))
      again (.compLoop (dc2 kx vx ta sa tb sb scope pos) 1 it (.ref D) env)) := by rfl
section
variable {prog : Program} {w : World} {A : Around} {R : Result → Shared → Prop} {z : Shared} {it : Value} {D : Addr} {env : Env}
abbrev noErr (prog : Program) (w : World) (A : Around) (env : Env) (R : Result → Shared → Prop) : Value → Shared → Prop := notedBy (model prog w) A env fun e s' => R (.error e) s'
theorem outer_loop (fold : ∀ x, foldedSetIterable sb env x = pure x) (J : Nat → Shared → Prop)
    (turn : ∀ n z, J n z → wpAny (model prog w) A (pyNext it) (fun r z1 => match r with
      | none => R (.ok .next) z1
      | some v => wpAny (model prog w) A (letOwnedTupleGo ta it v) (fun _ z2 => wpAny (model prog w) A (assign ta env v) (fun _ z3 =>
          wpAny (model prog w) A (eval sb env) (fun x z4 => wpAny (model prog w) A (pyIter x) (fun it1 z5 =>
              codeAny (model prog w) A (.compStart (dc2 kx vx ta sa tb sb scope pos) 1 it1 (.ref D) env) (fun r z6 => match r with
                | .ok _ => ∃ m, m < n ∧ J m z6
                | .error _ => False) z5) (noErr prog w A env R) z4) (noErr prog w A env R) z3) (noErr prog w A env R) z2) (noErr prog w A env R) z1) (noErr prog w A env R) z)
    (n : Nat) (h : J n z) : codeAny (model prog w) A (.compLoop (dc2 kx vx ta sa tb sb scope pos) 0 it (.ref D) env) R z := by
  refine codeAny_loop rfl J (fun n z hz => ?_) n h
  show wpAny _ A ((compTurn (dc2 kx vx ta sa tb sb scope pos) 0 it (.ref D) env).onRaise (fun x => do noteFrame x env; theTreesLotGoes x)) _ _ z
  refine wpAny_noted ?_
  rw [outer_turn]
  refine wpAny_bind (wpAny_standAt (wpAny_bind (wpAny_mono (turn n z hz) (fun r z1 h1 => ?_) fun _ _ q => q)))
  cases r with
  | none => exact wpAny_pure h1
  | some v =>
    refine wpAny_bind (wpAny_mono h1 (fun _ z2 h2 => wpAny_bind (wpAny_mono h2 (fun _ z3 h3 => wpAny_bind (wpAny_mono h3 (fun x z4 h4 => ?_) fun _ _ q => q)) fun _ _ q => q)) fun _ _ q => q)
    refine wpAny_bind (wpAny_standAt (wpAny_bind (wpAny_of_eq (fold x) (wpAny_bind (wpAny_holding (wpAny_mono h4 (fun it1 z5 h5 => ?_) fun _ _ q => q))))))
    refine wpAny_bind (wpAny_runOwn ?_)
    rw [Around.mark_none]
    refine codeAny_mono h5 fun r z6 hr => ?_
    cases r with
    | ok f => exact wpAny_pure ⟨rfl, hr⟩
    | error e => exact hr.elim
theorem inner_loop (J : Nat → Shared → Prop)
    (turn : ∀ n z, J n z → wpAny (model prog w) A (pyNext it) (fun r z1 => match r with
      | none => R (.ok .next) z1
      | some v => wpAny (model prog w) A (letOwnedTupleGo tb it v) (fun _ z2 => wpAny (model prog w) A (assign tb env v) (fun _ z3 =>
          wpAny (model prog w) A (eval kx env) (fun kv z4 => wpAny (model prog w) A (eval vx env) (fun vv z5 =>
              wpAny (model prog w) A (dictSet D kv vv) (fun _ z6 => ∃ m, m < n ∧ J m z6) (noErr prog w A env R) z5) (noErr prog w A env R) z4) (noErr prog w A env R) z3) (noErr prog w A env R) z2) (noErr prog w A env R) z1) (noErr prog w A env R) z)
    (n : Nat) (h : J n z) : codeAny (model prog w) A (.compLoop (dc2 kx vx ta sa tb sb scope pos) 1 it (.ref D) env) R z := by
  refine codeAny_loop rfl J (fun n z hz => ?_) n h
  show wpAny _ A ((compTurn (dc2 kx vx ta sa tb sb scope pos) 1 it (.ref D) env).onRaise (fun x => do noteFrame x env; theTreesLotGoes x)) _ _ z
  refine wpAny_noted ?_
  rw [inner_turn]
  refine wpAny_bind (wpAny_standAt (wpAny_bind (wpAny_mono (turn n z hz) (fun r z1 h1 => ?_) fun _ _ q => q)))
  cases r with
  | none => exact wpAny_pure h1
  | some v =>
    refine wpAny_bind (wpAny_mono h1 (fun _ z2 h2 => wpAny_bind (wpAny_mono h2 (fun _ z3 h3 => ?_) fun _ _ q => q)) fun _ _ q => q)
    exact wpAny_bind (wpAny_bind (wpAny_mono h3 (fun kv z4 h4 => wpAny_bind (wpAny_holding (wpAny_mono h4 (fun vv z5 h5 => wpAny_bind (wpAny_standAt (wpAny_holding (wpAny_mono h5 (fun _ z6 h6 => wpAny_pure ⟨rfl, h6⟩) fun _ _ q => q)))) fun _ _ q => q))) fun _ _ q => q))
theorem inner_start (h0 : codeAny (model prog w) A (.compLoop (dc2 kx vx ta sa tb sb scope pos) 1 it (.ref D) env) R z)
    (h : wpAny (model prog w) A (pyIter it) (fun it1 z1 => codeAny (model prog w) A (.compLoop (dc2 kx vx ta sa tb sb scope pos) 1 it1 (.ref D) env) R z1) (noErr prog w A env R) z) :
    codeAny (model prog w) A (.compStart (dc2 kx vx ta sa tb sb scope pos) 1 it (.ref D) env) R z := by
  refine codeAny_of_tree ?_
  show wpAny _ _ ((compStart (dc2 kx vx ta sa tb sb scope pos) 1 it (.ref D) env).onRaise (fun x => do noteFrame x env; standAt theWindowsPlace)) _ _ z
  refine wpAny_notedAt ?_
  unfold compStart
  show wpAny _ _ (ask >>= _) _ _ z
  refine wpAny_bind (wpAny_askSetting (wpAny_ite ?_))
  split
  · exact wpAny_bind (wpAny_pure (wpAny_pure (And.intro rfl h0)))
  · refine wpAny_bind (wpAny_rule ?_)
    show wpAny _ _ (standAt sb.pos >>= _) _ _ z
    exact wpAny_bind (wpAny_standAt (wpAny_bind (wpAny_mono h (fun it1 z1 q => wpAny_pure (And.intro rfl q)) fun _ _ q => q)))
end
end
section
variable {X : Cx}
/-- the reading: D the new dict; behind the first target the second source's own walk, from whose end Nx is reached -/
def tDd (wi : TI) (g : TG) (wi1 : TI) (g1 : TG) (tk tv : TE) (vs vs1 : List Nat) : TE := fun σ H Q => wi σ H fun J G => ∀ D, G D = none → ∃ W : Nat → Nat → Hp → Prop, (∃ m, W 0 m (upd G D (.dK []))) ∧ ∀ i m H, W i m H →
  (J.stop i H ∧ Q (.ref D) H) ∨ (J.go i H ∧ ∃ Nx : Hp → Prop, (∀ H', Nx H' → ∃ m', m' < m ∧ W (i + 1) m' H') ∧ ∀ x H', J.yld i H x H' → g x (wipe σ vs) H' fun σ2 H2 => wipe σ2 vs = wipe σ vs ∧
    wi1 σ2 H2 fun J1 H4 => ∃ W1 : Nat → Nat → Hp → Prop, (∃ m, W1 0 m H4) ∧ ∀ j k H, W1 j k H →
      (J1.stop j H ∧ Nx H) ∨ (J1.go j H ∧ ∃ Nx1 : Hp → Prop, (∀ H', Nx1 H' → ∃ k', k' < k ∧ W1 (j + 1) k' H') ∧ ∀ x H', J1.yld j H x H' → g1 x (wipe σ2 vs1) H' fun σ3 H5 => wipe σ3 vs1 = wipe σ2 vs1 ∧
        tk σ3 H5 fun y H6 => tv σ3 H6 fun u H7 => ∃ kvs k, y = kV k ∧ H7 D = some (.dK kvs) ∧ kvs.length < sizeLine ∧ Nx1 (upd H7 D (.dK (putK kvs k u)))))
abbrev inBlk (X : Cx) (scope : Scope) (Pr : Cx → Prop) : Prop := ∀ (s : Shared) (H : Hp) (C : Addr) (cl : List (Str × Addr)) (fp : List Addr), Pr (X.blk s H scope (compEnvC scope cl C X.env) fp)
theorem pe_dd {kx vx ta sa tb sb : Expr} {scope : Scope} {own : List (Str × Nat)} {vs1 : List Nat} {pos : Pos} {wi wi1 : TI} {g g1 : TG} {tk tv : TE} (calm : X.calm = true) (nd : X.N.Nodup) (first : PI X ta sa wi) (ok : BlkOk X.N X.env.scope scope own) (sub : ∀ i ∈ vs1, i ∈ own.map (·.2))
    (hg : inBlk X scope fun Y => PG Y ta g) (hi1 : inBlk X scope fun Y => PI Y tb sb wi1) (hg1 : inBlk X scope fun Y => PG Y tb g1) (hk : inBlk X scope fun Y => PE Y kx tk) (hv : inBlk X scope fun Y => PE Y vx tv)
    (fold : ∀ x, foldedSetIterable sa X.env x = pure x := by intro _; rfl) (fold1 : ∀ env x, foldedSetIterable sb env x = pure x := by intro _ _; rfl) :
    PE X (.DictComp kx vx [⟨ta, sa, [], 0⟩, ⟨tb, sb, [], 0⟩] scope pos) (tDd wi g wi1 g1 tk tv (own.map (·.2)) vs1) := by
  refine ⟨fun pins s σ H Q I h => ?_⟩
  rw [arm_eval_DictComp]
  have caught : ∀ y ∈ scope.names, y.2 = .free → ∃ c, X.env.cells.lookup y.1 = some c := fun y hy e =>
    (ok.free y hy e).elim (fun k => I.ok.has _ (.inl k)) fun k => I.ok.has _ (.inr k)
  refine wpAny_comprehension_free (use := none) rfl fold (closure_ok caught) ok.kind (fun y hy e => by rw [ok.uniq y hy, e]) (thn (first.run pins s σ H _ I h) fun _ z1 hx => thn hx fun _ z2 w2 => ?_)
  obtain ⟨it, fp, tn, J, H2, rfl, I2, T, st2, f2, q⟩ := w2
  refine wpAny_newObj_type (newEnv_comp ?_)
  generalize eD : z2.heap.objs.size = D
  have freeD : H2 D = none := I2.hok.fresh (Nat.le_of_eq eD)
  obtain ⟨W, ⟨m0, w0⟩, turn⟩ := q D freeD
  generalize ez3 : ({ z2 with heap := z2.heap.push { cls := .type "dict", data := .dict #[] } } : Shared) = z3
  have I3 : Inv X pins σ (upd H2 D (.dK [])) z3 := by
    subst ez3
    refine I2.laid (t' := z2.toks) (fun _ _ e => Heap.get?_push_of_some _ e) (Nat.le_of_eq eD) ?_
    subst eD
    exact dk_empty z2.heap I2.big
  have h3 : z3.heap = z2.heap.push { cls := .type "dict", data := .dict #[] } := by rw [← ez3]
  have f3 : ∀ b ∈ fp, FpOk X pins (upd H2 D (.dK [])) b ∧ b < z3.heap.objs.size := fun b hb => by
    have lt : b < z2.heap.objs.size := by
      obtain ⟨o, e, _⟩ := T.obj _ _ st2 b hb
      exact Heap.lt_size e
    refine ⟨⟨?_, (f2 b hb).2⟩, by rw [h3, Heap.size_push]; exact Nat.lt_succ_of_lt lt⟩
    rw [upd_ne (by rw [← eD]; exact Nat.ne_of_lt lt)]
    exact (f2 b hb).1
  have st3 : tn 0 z3.heap := T.keep _ _ _ st2 fun b _ o e => by rw [h3]; exact Heap.get?_push_of_some _ e
  have I4 := block_start I3 ok nd f3
  have pg := hg z3 (upd H2 D (.dK [])) z3.heap.objs.size (cellsFrom (z3.heap.objs.size + 1) scope.names (cloFrom X.env.cells scope.names [])) fp
  have pi1 := hi1 z3 (upd H2 D (.dK [])) z3.heap.objs.size (cellsFrom (z3.heap.objs.size + 1) scope.names (cloFrom X.env.cells scope.names [])) fp
  have pg1 := hg1 z3 (upd H2 D (.dK [])) z3.heap.objs.size (cellsFrom (z3.heap.objs.size + 1) scope.names (cloFrom X.env.cells scope.names [])) fp
  have pk := hk z3 (upd H2 D (.dK [])) z3.heap.objs.size (cellsFrom (z3.heap.objs.size + 1) scope.names (cloFrom X.env.cells scope.names [])) fp
  have pv := hv z3 (upd H2 D (.dK [])) z3.heap.objs.size (cellsFrom (z3.heap.objs.size + 1) scope.names (cloFrom X.env.cells scope.names [])) fp
  have nfp : ∀ b ∈ fp, (upd H2 D (.dK [])) b = none := fun b hb => (f3 b hb).1.1
  show codeAny _ _ (.compStart (dc2 kx vx ta sa tb sb scope pos) 0 (.ref it) (.ref D) (compEnvC scope (cellsFrom (z3.heap.objs.size + 1) scope.names (cloFrom X.env.cells scope.names [])) z3.heap.objs.size X.env)) (compPost (model X.prog X.w) X.A X.xe none _ (.ref D) z3.heap.objs.size) { z3 with heap := pushCells (z3.heap.push { cls := .type "dict", data := .dict #[] }) scope.names }
  generalize ece : compEnvC scope (cellsFrom (z3.heap.objs.size + 1) scope.names (cloFrom X.env.cells scope.names [])) z3.heap.objs.size X.env = ce at I4 pg pi1 pg1 pk pv ⊢
  have locs : ce.locals = z3.heap.objs.size := by subst ece; rfl
  generalize eH3 : upd H2 D (.dK []) = H3 at I3 I4 pg pi1 pg1 pk pv w0 nfp f3
  generalize ez4 : ({ z3 with heap := pushCells (z3.heap.push { cls := .type "dict", data := .dict #[] }) scope.names } : Shared) = z4 at I4 ⊢
  have st4 : tn 0 z4.heap := T.keep _ _ _ st3 fun b _ o e => by rw [← ez4]; exact pushCells_keeps _ _ _ _ (Heap.get?_push_of_some _ e)
  have stat : ∀ {σ' : L2.St} {H' : Hp} {z' : Shared}, Inv (X.blk z3 H3 scope ce fp) [] σ' H' z' → (∀ b ∈ fp, H' b = none) → ∀ b ∈ fp, FpOk (X.blk z3 H3 scope ce fp) [] H' b := fun {σ' H' z'} I' hn b hb =>
    ⟨hn b hb, (I'.ok.exf b hb).1, I'.ok.exfs b hb, .inl hb, fun x c e => (I'.ok.exf b hb).2 x c e, fun p hp => absurd (show p ∈ ([] : List (Addr × Obj)) ++ [] from hp) (by simp)⟩
  -- what stands at each turn of the outer loop
  let Jo : Nat → Shared → Prop := fun n z => ∃ i G, Inv (X.blk z3 H3 scope ce fp) [] (wipe σ (own.map (·.2))) G z ∧ tn i z.heap ∧ (∀ b ∈ fp, G b = none) ∧ W i n G
  have loop : codeAny (model X.prog X.w) X.A (.compLoop (dc2 kx vx ta sa tb sb scope pos) 0 (.ref it) (.ref D) ce) (compPost (model X.prog X.w) X.A X.xe none (EP X pins σ Q) (.ref D) z3.heap.objs.size) z4 := by
    refine outer_loop (fold1 ce) Jo ?_ m0 ⟨0, H3, I4, st4, nfp, w0⟩
    rintro n z5 ⟨i, H5, I5, st5, n5, w5⟩
    rcases turn i n H5 w5 with ⟨stop, qq⟩ | ⟨go, Nx, toNx, step⟩
    · refine thnF (T.done (X.blk z3 H3 scope ce fp) rfl rfl rfl calm i [] z5 _ H5 (fun _ _ => False) I5 (stat I5 n5) st5 stop) fun r z6 ⟨hr, I6⟩ => ?_
      subst hr
      have I7 : Inv X pins σ H5 z6 := I3.call' (ch := fp) I6.os I6.base I6.hok I6.bare fun b hb => ⟨(f3 b hb).1.2.2.2.1, (f3 b hb).1.2.1, (f3 b hb).1.2.2.2.2.1, (f3 b hb).1.2.2.2.2.2⟩
      have nC : H5 z3.heap.objs.size = none := by
        have y : H5 ce.locals = none := I6.free
        rwa [locs] at y
      obtain ⟨m, hn, _⟩ := I6.loc
      have hn : z6.heap.Ns ce.locals m := hn
      rw [locs] at hn
      obtain ⟨f0, f1, f2', f3', f4, f5⟩ := I3.fpOk (Nat.le_refl _) nC
      exact ⟨m, hn, fun g sb => ⟨.ref D, H5, I7.turned (t' := z6.toks) (fun b o hb e => (sb.2 b hb).trans e) f0 f1 f3' f4 f5, rfl, qq⟩⟩
    · refine thnF (T.item (X.blk z3 H3 scope ce fp) rfl rfl rfl calm i [] z5 _ H5 (fun _ _ => False) I5 (stat I5 n5) st5 go) fun r z6 ⟨u, hr, h6⟩ => ?_
      subst hr
      refine thnF h6 fun _ z7 ⟨x, H7, I7, r7, y7, st7, n7⟩ => ?_
      have I7' := I7.pinned (stat I7 n7) (T.obj _ _ st7)
      refine thnF (pg.run _ z7 _ H7 x u _ I7' r7 (step x H7 y7)) fun _ z8 ⟨σ8, H8, I8, hw8, q8⟩ => ?_
      refine thnF (pi1.run _ z8 σ8 H8 _ I8 q8) fun _ z10 hx => thnF hx fun _ z11 w11 => ?_
      obtain ⟨it1, fp1, tn1, J1, H11, rfl, I11, T1, st11, f11, W1, ⟨m1, w1⟩, turn1⟩ := w11
      have stat1 : ∀ {H' : Hp}, (∀ b ∈ fp1, H' b = none) → ∀ b ∈ fp1, FpOk (X.blk z3 H3 scope ce fp) ([] ++ pinsAt fp z7.heap) H' b := fun hn b hb => ⟨hn b hb, (f11 b hb).2⟩
      have known : ∀ (j : Nat) v, (wipe σ (own.map (·.2)))[j]? = some (some v) → (wipe σ8 vs1)[j]? = some (some v) := fun j v e => by
        rw [← hw8] at e
        obtain ⟨e1, e2⟩ := wipe_some e
        rw [wipe_out fun y => e2 (sub j y)]
        exact e1
      have loop1 : codeAny (model X.prog X.w) X.A (.compLoop (dc2 kx vx ta sa tb sb scope pos) 1 (.ref it1) (.ref D) ce) (fun r z => match r with
          | .ok _ => ∃ m, m < n ∧ Jo m z
          | .error _ => False) z11 := by
        refine inner_loop (fun k z => ∃ j G, Inv (X.blk z3 H3 scope ce fp) ([] ++ pinsAt fp z7.heap) (wipe σ8 vs1) G z ∧ tn1 j z.heap ∧ (∀ b ∈ fp1, G b = none) ∧ W1 j k G) ?_ m1 ⟨0, H11, I11.weak (wipe_length _ _) (fun j v e => (wipe_some e).1), st11, fun b hb => (f11 b hb).1, w1⟩
        rintro k z12 ⟨j, H12, I12, st12, n12, w12⟩
        rcases turn1 j k H12 w12 with ⟨stop1, nx⟩ | ⟨go1, Nx1, toNx1, step1⟩
        · refine thnF (T1.done (X.blk z3 H3 scope ce fp) rfl rfl rfl calm j _ z12 (wipe σ8 vs1) H12 (fun _ _ => False) I12 (stat1 n12) st12 stop1) fun r z13 ⟨hr, I13⟩ => ?_
          subst hr
          obtain ⟨m', hm, w'⟩ := toNx H12 nx
          have still : ∀ b ∈ fp, ∀ o, z7.heap.get? b = some o → z13.heap.get? b = some o ∧ H12 b = none := fun b hb o e =>
            let y := I13.pin (b, o) (List.mem_append_right _ (List.mem_append_right _ (mem_pinsAt hb e)))
            ⟨y.1, y.2.1⟩
          refine ⟨m', hm, i + 1, H12, (I13.unpinned (pins := [])).weak ?_ known, T.keep _ _ _ st7 fun b hb o e => (still b hb o e).1, fun b hb => ?_, w'⟩
          · rw [wipe_length σ8 vs1, ← wipe_length σ8 (own.map (·.2)), hw8]
          · obtain ⟨o, e, _⟩ := T.obj _ _ st7 b hb
            exact (still b hb o e).2
        · refine thnF (T1.item (X.blk z3 H3 scope ce fp) rfl rfl rfl calm j _ z12 (wipe σ8 vs1) H12 (fun _ _ => False) I12 (stat1 n12) st12 go1) fun r z13 ⟨u1, hr, h13⟩ => ?_
          subst hr
          refine thnF h13 fun _ z14 ⟨x1, H14, I14, r14, y14, st14, n14⟩ => ?_
          have I14' := I14.pinned (stat1 n14) (T1.obj _ _ st14)
          refine thnF (pg1.run _ z14 (wipe σ8 vs1) H14 x1 u1 _ I14' r14 (step1 x1 H14 y14)) fun _ z15 ⟨σ15, H15, I15, hw15, q15⟩ => ?_
          refine thnF (pk.run _ z15 σ15 H15 _ I15 q15) fun _ z16 ⟨yk, H16, I16, r16, q16⟩ => ?_
          refine thnF (pv.run _ z16 σ15 H16 _ I16 q16) fun _ z17 ⟨yv, H17, I17, r17, kvs, kk, ek, hD17, room, nx⟩ => ?_
          subst ek
          refine d_dictSet (X := X.blk z3 H3 scope ce fp) I17 hD17 room r16 r17 fun z18 I18 => ?_
          obtain ⟨k', hk', w'⟩ := toNx1 _ nx
          have still : ∀ b ∈ fp1, ∀ o, z14.heap.get? b = some o → z18.heap.get? b = some o ∧ (upd H17 D (.dK (putK kvs kk yv))) b = none := fun b hb o e =>
            let y := I18.pin (b, o) (List.mem_append_right _ (List.mem_append_right _ (mem_pinsAt hb e)))
            ⟨y.1, y.2.1⟩
          refine ⟨k', hk', j + 1, _, I18.unpinned.weak (by rw [← hw15, wipe_length]) (fun j v e => by rw [← hw15] at e; exact (wipe_some e).1), T1.keep _ _ _ st14 fun b hb o e => (still b hb o e).1, fun b hb => ?_, w'⟩
          obtain ⟨o, e, _⟩ := T1.obj _ _ st14 b hb
          exact (still b hb o e).2
      exact inner_start loop1 (T1.self X.A 0 _ _ _ st11 loop1)
  exact codeAny_compStart_dict loop (T.self X.A 0 _ _ _ st4 loop)
end
end T82
namespace T82
open PySem L2
/-! ### dicts with texts as keys and data that never change as values -/
def DkIm (K : PySem.W.Frag) (H : Hp) : List (Str × PyData) → List (Key × V) → Prop
  | [], kvs => kvs = []
  | e :: es, kvs => ∃ v r, kvs = (Sum.inr e.1, v) :: r ∧ Im K H e.2 v ∧ DkIm K H es r
section
variable {K : PySem.W.Frag} {H H' : Hp}
theorem DkIm.mono (k : Keep H H') : ∀ (es : List (Str × PyData)) (kvs : List (Key × V)), DkIm K H es kvs → DkIm K H' es kvs
  | [], _, h => h
  | e :: es, kvs, h => by
    simp only [DkIm] at h ⊢
    obtain ⟨v, r, rfl, h1, h2⟩ := h
    exact ⟨v, r, rfl, Im.mono k _ _ h1, DkIm.mono k es r h2⟩
theorem DkIm.app : ∀ {es fs : List (Str × PyData)} {kvs lvs : List (Key × V)}, DkIm K H es kvs → DkIm K H fs lvs → DkIm K H (es ++ fs) (kvs ++ lvs)
  | [], _, _, _, h, h' => by
    simp only [DkIm] at h
    subst h
    exact h'
  | e :: es, fs, kvs, lvs, h, h' => by
    simp only [DkIm] at h
    obtain ⟨v, r, rfl, h1, h2⟩ := h
    show DkIm K H (e :: (es ++ fs)) _
    simp only [DkIm]
    exact ⟨v, r ++ lvs, rfl, h1, DkIm.app h2 h'⟩
theorem DkIm.one {k : Str} {d : PyData} {v : V} (h : Im K H d v) : DkIm K H [(k, d)] [(Sum.inr k, v)] := by
  simp only [DkIm]
  exact ⟨v, [], rfl, h, rfl⟩
theorem DkIm.len : ∀ {es : List (Str × PyData)} {kvs : List (Key × V)}, DkIm K H es kvs → kvs.length = es.length
  | [], _, h => by
    simp only [DkIm] at h
    rw [h]
    rfl
  | e :: es, kvs, h => by
    simp only [DkIm] at h
    obtain ⟨v, r, rfl, h1, h2⟩ := h
    simp [DkIm.len h2]
/-- what is found under a text -/
theorem DkIm.get : ∀ {es : List (Str × PyData)} {kvs : List (Key × V)} (k : Str), DkIm K H es kvs → match es.lookup k with
    | none => valV kvs (Sum.inr k) = none
    | some d => ∃ v, valV kvs (Sum.inr k) = some v ∧ Im K H d v
  | [], _, k, h => by
    simp only [DkIm] at h
    subst h
    rfl
  | (k', d) :: es, kvs, k, h => by
    simp only [DkIm] at h
    obtain ⟨v, r, rfl, h1, h2⟩ := h
    have ih := DkIm.get k h2
    rw [List.lookup_cons]
    by_cases e : k' = k
    · subst e
      rw [beq_self_eq_true]
      exact ⟨v, valV_pos rfl, h1⟩
    · have e2 : (k == k') = false := beq_eq_false_iff_ne.mpr (fun q => e q.symm)
      rw [e2]
      have e3 : valV ((Sum.inr k', v) :: r) (Sum.inr k : Key) = valV r (Sum.inr k) := valV_neg (fun q => e (Sum.inr.inj q))
      rw [e3]
      exact ih
theorem DkIm.fresh {es : List (Str × PyData)} {kvs : List (Key × V)} {k : Str} (h : DkIm K H es kvs) (n : k ∉ es.map Prod.fst) : valV kvs (Sum.inr k) = none := by
  have := DkIm.get k h
  have e : es.lookup k = none := by
    rw [List.lookup_eq_none_iff]
    intro p hp
    rw [bne_iff_ne]
    intro q
    exact n (by rw [q]; exact List.mem_map_of_mem hp)
  rw [e] at this
  exact this
end
section
variable {J : It} {n : Nat} {G : Hp → Prop} {Y : Nat → Hp → V → Hp → Prop}
/-- a dict comprehension with unlike texts as keys -/
theorem dc_im {K : PySem.W.Frag} (w : Walk J n G Y) {g : TG} {tk tv : TE} {vs : List Nat} {σ : L2.St} {H1 : Hp} {D : Addr} {Qd : Hp → Prop} (es : List (Str × PyData)) (hn : es.length = n) (nd : (es.map Prod.fst).Nodup) (sz : n ≤ 100000)
    (hG : ∀ H, But D H1 H → G H)
    (hs : ∀ i e x H H', es[i]? = some e → But D H1 H → H D ≠ none → Y i H x H' → Same H H' ∧ ∀ N : V → V → Hp → Prop, (∀ z H4, Same H' H4 → Im K H4 e.2 z → N (.str e.1) z H4) → g x (wipe σ vs) H' fun σ2 H2 => wipe σ2 vs = wipe σ vs ∧ tk σ2 H2 fun y H3 => tv σ2 H3 fun z H4 => N y z H4)
    (hd : ∀ H kvs, But D H1 H → H D = some (.dK kvs) → DkIm K H es kvs → Qd H) :
    ∃ W : Nat → Nat → Hp → Prop, (∃ m, W 0 m (upd H1 D (.dK []))) ∧ ∀ i m H, W i m H →
      (J.stop i H ∧ Qd H) ∨ (J.go i H ∧ ∃ Nx : Hp → Prop, (∀ H', Nx H' → ∃ m', m' < m ∧ W (i + 1) m' H') ∧ ∀ x H', J.yld i H x H' → g x (wipe σ vs) H' fun σ2 H2 => wipe σ2 vs = wipe σ vs ∧ tYes σ2 H2 fun b H3 =>
        if b = true then tk σ2 H3 fun y H4 => tv σ2 H4 fun z H5 => ∃ kvs k, y = kV k ∧ H5 D = some (.dK kvs) ∧ kvs.length < sizeLine ∧ Nx (upd H5 D (.dK (putK kvs k z))) else Nx H3) := by
  refine ⟨fun i m H => m = n - i ∧ i ≤ n ∧ But D H1 H ∧ ∃ kvs, H D = some (.dK kvs) ∧ DkIm K H (es.take i) kvs, ⟨n, by simp, Nat.zero_le _, fun b o ne h => by rw [upd_ne ne]; exact h, [], upd_same, by simp [DkIm]⟩, ?_⟩
  rintro i m H ⟨rfl, hi, hb, kvs, hy, im⟩
  by_cases hlt : i < n
  · refine .inr ⟨w.goes i H hlt (hG H hb), fun H' => But D H1 H' ∧ ∃ kvs, H' D = some (.dK kvs) ∧ DkIm K H' (es.take (i + 1)) kvs, fun H' p' => ⟨n - (i + 1), by omega, rfl, hlt, p'⟩, fun x H' y => ?_⟩
    have hlt2 : i < es.length := by omega
    have y := w.yields i H x H' hlt (hG H hb) y
    obtain ⟨s1, q⟩ := hs i es[i] x H H' (by simp [hlt2]) hb (by rw [hy]; simp) y
    have q := q (fun y z H5 => ∃ kvs k, y = kV k ∧ H5 D = some (.dK kvs) ∧ kvs.length < sizeLine ∧ (But D H1 (upd H5 D (.dK (putK kvs k z))) ∧ ∃ kvs2, (upd H5 D (.dK (putK kvs k z))) D = some (.dK kvs2) ∧ DkIm K (upd H5 D (.dK (putK kvs k z))) (es.take (i + 1)) kvs2)) ?_
    · exact q
    · intro z H4 s4 hz
      have hD4 := s4 _ _ (s1 _ _ hy)
      have nt : ∀ ys, ¬ Rd H4 D (.tup ys) := fun ys r => by
        rcases r with r | ⟨u, r⟩ <;> rw [hD4] at r <;> cases r
      have kp : Keep H4 (upd H4 D (.dK (putK kvs (Sum.inr es[i].1) z))) := Keep.upd nt
      have im4 : DkIm K H4 (es.take i) kvs := DkIm.mono ((sk s1).trans (sk s4)) _ _ im
      have new : valV kvs (Sum.inr es[i].1 : Key) = none := by
        refine im4.fresh fun hm => ?_
        obtain ⟨p, hp, e⟩ := List.mem_map.mp hm
        obtain ⟨j, hj, e2⟩ := List.mem_iff_getElem.mp hp
        rw [List.getElem_take] at e2
        simp at hj
        have := (List.pairwise_iff_getElem.mp nd) j i (by simp; omega) (by simp; omega) (by omega)
        simp only [List.getElem_map] at this
        rw [e2] at this
        exact this e
      refine ⟨kvs, Sum.inr es[i].1, rfl, hD4, ?_, fun c o ne h => ?_, _, upd_same, ?_⟩
      · have := im.len
        rw [List.length_take] at this
        rw [sizeLine_eq]
        omega
      · rw [upd_ne ne]
        exact s4 _ _ (s1 _ _ (hb _ _ ne h))
      · rw [putK_new _ new] at kp ⊢
        rw [List.take_add_one, List.getElem?_eq_getElem hlt2]
        exact DkIm.app (DkIm.mono kp _ _ im4) (DkIm.one (Im.mono kp _ _ hz))
  · have e : i = n := by omega
    subst e
    rw [← hn, List.take_length] at im
    exact .inl ⟨w.stops H (hG H hb), hd H kvs hb hy im⟩
end
/-! ### the shape -/
def wordKindsE : List (Str × PyData) := [("no", .str "bit"), ("yes", .str "bit")]
def lotsE : List (Str × PyData) := [("bit", .tuple [.str "no", .str "yes"])]
def Hd.v (h : Hd) : PyData := .tuple [.tuple (h.kinds.map PyData.str), .str h.kind]
def Dor.headsE (d : Dor) : List (Str × PyData) := d.heads.map fun h => (h.name, h.v)
def Dor.rankE (d : Dor) : List (Str × PyData) := (d.heads.zipIdx).map fun p => (p.1.name, .int (p.2 : Nat))
def ShapeAt (K : PySem.W.Frag) (C : Addr) (H : Hp) (x : Addr) (d : Dor) : Prop := ∃ dx v a1 a2 a3 a4 k1 k2 k3 k4, H x = some (.ins C dx [("sealed", v), ("word_kinds", .ref a1), ("lots", .ref a2), ("heads", .ref a3), ("rank", .ref a4)]) ∧ Im K H d.sealedD v ∧
  H a1 = some (.dK k1) ∧ DkIm K H wordKindsE k1 ∧ H a2 = some (.dK k2) ∧ DkIm K H lotsE k2 ∧ H a3 = some (.dK k3) ∧ DkIm K H d.headsE k3 ∧ H a4 = some (.dK k4) ∧ DkIm K H d.rankE k4
theorem ShapeAt.mono {K : PySem.W.Frag} {C : Addr} {H H' : Hp} {x : Addr} {d : Dor} (s : Same H H') (h : ShapeAt K C H x d) : ShapeAt K C H' x d := by
  obtain ⟨dx, v, a1, a2, a3, a4, k1, k2, k3, k4, h0, h1, h2, h3, h4, h5, h6, h7, h8, h9⟩ := h
  exact ⟨dx, v, a1, a2, a3, a4, k1, k2, k3, k4, s _ _ h0, Im.mono (sk s) _ _ h1, s _ _ h2, DkIm.mono (sk s) _ _ h3, s _ _ h4, DkIm.mono (sk s) _ _ h5, s _ _ h6, DkIm.mono (sk s) _ _ h7, s _ _ h8, DkIm.mono (sk s) _ _ h9⟩
section
variable {P : Program} {w : World} {K : PySem.W.Frag} {mg : Str → Option Value} {base : Heap}
abbrev nm_Shape_init : List Str := ["self", "words", "sealed", "heads", "name", "some", "word", "kinds", "kind", "number", "item"]
theorem sc_Shape_init : FnScope nm_Shape_init ["self", "words", "sealed", "heads"] (defScope s_Shape_init) := ⟨rfl, rfl, rfl, by decide +kernel, rfl, by decide +kernel, by decide +kernel⟩
def sp_Shape_init (K : PySem.W.Frag) (C : Addr) : Sp := fun vs H Q _ => ∃ x dx u v h d, vs = [.ref x, u, v, h] ∧ Dor.good d ∧ H x = some (.ins C dx []) ∧ Im K H wordsD u ∧ Im K H d.sealedD v ∧ Im K H d.headsD h ∧ ∀ H', But x H H' → ShapeAt K C H' x d → Q .non H'
theorem ok_Shape_init (T : Tx K mg) : FnOk P w K mg base CX0 1 T.f_Shape_init T.d_Shape_init ["self", "words", "sealed", "heads"] (sp_Shape_init K T.C_Shape) := by
  refine T.F_Shape_init.ok sc_Shape_init (fun vs H Q E h => ?_) (fun cdv A outer s H vs Q E hr h => ?_)
  · obtain ⟨x, dx, u, v, h, d, rfl, _⟩ := h
    rfl
  · obtain ⟨x, dx, u, v, hh, d, rfl, gd, hx, hu, hv, hhd, k⟩ := h
    refine ⟨_, (pss_cons (ps_fld (pv 0) (pv 2) rfl)
    (pss_cons (ps_fld (pv 0) (pe_dd (own := [("name", 4), ("some", 5), ("word", 6)]) (vs1 := [6]) (g := gTup K 2 (gCons (gName 4) (gCons (gName 5) gNil))) (g1 := gName 6) rfl sc_Shape_init.nd (wT (K := K) rfl (pv 1)) (blkOk_by (N := nm_Shape_init) (sc := defScope s_Shape_init) (by decide +kernel)) (by decide) (fun _ _ _ _ _ => (pg_tup rfl (pgs_cons (pg_name (i := 4) sc_Shape_init.nd rfl (Or.inl rfl)) (pgs_cons (pg_name (i := 5) sc_Shape_init.nd rfl (Or.inl rfl)) pgs_nil)))) (fun _ _ _ _ _ => (wT (K := K) rfl (pv 5))) (fun _ _ _ _ _ => (pg_name (i := 6) sc_Shape_init.nd rfl (Or.inl rfl))) (fun _ _ _ _ _ => (pv 6)) (fun _ _ _ _ _ => (pv 4))) rfl)
    (pss_cons (ps_fld (pv 0) (pe_dc (own := [("name", 4), ("some", 5)]) (g := gTup K 2 (gCons (gName 4) (gCons (gName 5) gNil))) (tt := tYes) rfl sc_Shape_init.nd (wT (K := K) rfl (pv 1)) (blkOk_by (N := nm_Shape_init) (sc := defScope s_Shape_init) (by decide +kernel)) (fun _ _ _ _ _ => (pg_tup rfl (pgs_cons (pg_name (i := 4) sc_Shape_init.nd rfl (Or.inl rfl)) (pgs_cons (pg_name (i := 5) sc_Shape_init.nd rfl (Or.inl rfl)) pgs_nil)))) (fun _ _ _ _ _ => pts_nil) (fun _ _ _ _ _ => (pv 4)) (fun _ _ _ _ _ => (pv 5))) rfl)
    (pss_cons (ps_fld (pv 0) (pe_dc (own := [("name", 4), ("kinds", 7), ("kind", 8)]) (g := gTup K 3 (gCons (gName 4) (gCons (gName 7) (gCons (gName 8) gNil)))) (tt := tYes) rfl sc_Shape_init.nd (wT (K := K) rfl (pv 3)) (blkOk_by (N := nm_Shape_init) (sc := defScope s_Shape_init) (by decide +kernel)) (fun _ _ _ _ _ => (pg_tup rfl (pgs_cons (pg_name (i := 4) sc_Shape_init.nd rfl (Or.inl rfl)) (pgs_cons (pg_name (i := 7) sc_Shape_init.nd rfl (Or.inl rfl)) (pgs_cons (pg_name (i := 8) sc_Shape_init.nd rfl (Or.inl rfl)) pgs_nil))))) (fun _ _ _ _ _ => pts_nil) (fun _ _ _ _ _ => (pv 4)) (fun _ _ _ _ _ => (pe_tup (pa_cons (pv 7) (pa_cons (pv 8) pa_nil))))) rfl)
    (pss_one (ps_fld (pv 0) (pe_dc (own := [("number", 9), ("item", 10)]) (g := gTup K 2 (gCons (gName 9) (gCons (gName 10) gNil))) (tt := tYes) rfl sc_Shape_init.nd (wE (K := K) rfl (by rfl) T.t_enumerate (pa_cons (pv 3) pa_nil)) (blkOk_by (N := nm_Shape_init) (sc := defScope s_Shape_init) (by decide +kernel)) (fun _ _ _ _ _ => (pg_tup rfl (pgs_cons (pg_name (i := 9) sc_Shape_init.nd rfl (Or.inl rfl)) (pgs_cons (pg_name (i := 10) sc_Shape_init.nd rfl (Or.inl rfl)) pgs_nil)))) (fun _ _ _ _ _ => pts_nil) (fun _ _ _ _ _ => (pe_ix (iT (K := K) rfl) (pv 10) pe_int (fun _ _ => rfl))) (fun _ _ _ _ _ => (pv 9))) rfl)))))), ?_⟩
    obtain ⟨p, q, r, rfl, sp, sq, sr⟩ := words_at hu
    have notx : ∀ ys, ¬ Rd H x (.tup ys) := fun ys z => by
      rcases z with z | ⟨u, z⟩ <;> rw [hx] at z <;> cases z
    -- sealed
    refine ⟨_, rfl, _, rfl, x, _, dx, [], rfl, hx, T.cl_Shape, T.n_Shape_sealed, by decide, ?_⟩
    have b1 : But x H (upd H x (.ins T.C_Shape dx (putF "sealed" v []))) := fun c o ne e => by rw [upd_ne ne]; exact e
    have x1 : upd H x (.ins T.C_Shape dx (putF "sealed" v [])) x = some (.ins T.C_Shape dx [("sealed", v)]) := upd_same
    generalize upd H x (.ins T.C_Shape dx (putF "sealed" v [])) = H1 at b1 x1
    have kp1 := b1.keep notx
    -- word_kinds
    refine ⟨_, rfl, p, rfl, ⟨_, kp1.sq sp⟩, fun D hD => ?_⟩
    have tD : ∀ {H' : Hp} {ks : List (Key × V)}, H' D = some (.dK ks) → ∀ ys, ¬ Rd H' D (.tup ys) := fun e ys z => by
      rcases z with z | ⟨u, z⟩ <;> rw [e] at z <;> cases z
    let two : List (Key × V) := [(Sum.inr "no", .str "bit"), (Sum.inr "yes", .str "bit")]
    refine ⟨fun i m H' => m = 1 - i ∧ i ≤ 1 ∧ But D H1 H' ∧ H' D = some (.dK (two.take (2 * i))), ⟨1, rfl, by decide, fun c o ne e => by rw [upd_ne ne]; exact e, upd_same⟩, ?_⟩
    rintro i m H2 ⟨rfl, hi, hb, hy⟩
    have s2 : Same H1 H2 := hb.same hD
    by_cases i0 : i = 0
    · subst i0
      refine .inr ⟨⟨_, _, keepT s2 (kp1.sq sp), rfl⟩, fun H' => But D H1 H' ∧ H' D = some (.dK two), fun H' z => ⟨0, by decide, rfl, by decide, z.1, z.2⟩, ?_⟩
      rintro y H3 ⟨rfl, hy3⟩
      have e := hy3 _ (keepT s2 (kp1.sq sp))
      cases e
      refine ⟨q, _, rfl, keepT s2 (kp1.sq sq), rfl, _, _, rfl, _, _, rfl, rfl, rfl, ?_⟩
      refine ⟨_, rfl, r, rfl, ⟨_, keepT s2 (kp1.sq sr)⟩, ?_⟩
      refine ⟨fun j k H' => k = 2 - j ∧ j ≤ 2 ∧ But D H1 H' ∧ H' D = some (.dK (two.take j)), ⟨2, rfl, by decide, hb, hy⟩, ?_⟩
      rintro j k2 H4 ⟨rfl, hj, hb4, hy4⟩
      have s4 : Same H1 H4 := hb4.same hD
      by_cases j2 : j = 2
      · subst j2
        exact .inl ⟨⟨_, keepT s4 (kp1.sq sr), Nat.le_refl _⟩, hb4, hy4⟩
      · have lt : j < 2 := by omega
        refine .inr ⟨⟨[V.str "no", V.str "yes"], [V.str "no", V.str "yes"][j]'(by simpa using lt), keepT s4 (kp1.sq sr), by simp [lt]⟩, fun H' => But D H1 H' ∧ H' D = some (.dK (two.take (j + 1))), fun H' z => ⟨2 - (j + 1), by omega, rfl, by omega, z.1, z.2⟩, ?_⟩
        rintro y5 H5 ⟨rfl, hy5⟩
        have e5 := hy5 _ (keepT s4 (kp1.sq sr))
        have both : (j = 0 ∧ y5 = .str "no") ∨ (j = 1 ∧ y5 = .str "yes") := by
          match j, lt, e5 with
          | 0, _, e5 => cases e5; exact .inl ⟨rfl, rfl⟩
          | 1, _, e5 => cases e5; exact .inr ⟨rfl, rfl⟩
        rcases both with ⟨rfl, rfl⟩ | ⟨rfl, rfl⟩
        · refine ⟨rfl, _, rfl, _, rfl, _, Sum.inr "no", rfl, hy4, by decide, fun c o ne e => by rw [upd_ne ne]; exact hb4 _ _ ne e, ?_⟩
          exact upd_same
        · refine ⟨rfl, _, rfl, _, rfl, _, Sum.inr "yes", rfl, hy4, by decide, fun c o ne e => by rw [upd_ne ne]; exact hb4 _ _ ne e, ?_⟩
          exact upd_same
    have i1 : i = 1 := by omega
    subst i1
    refine .inl ⟨⟨_, keepT s2 (kp1.sq sp), Nat.le_refl _⟩, ?_⟩
    have x2 := s2 _ _ x1
    have neD : D ≠ x := fun z => by rw [z, x1] at hD; cases hD
    refine ⟨_, rfl, x, _, dx, _, rfl, x2, T.cl_Shape, T.n_Shape_word_kinds, (show 1 < 1000 by decide), ?_⟩
    have b3 : But x H (upd H2 x (.ins T.C_Shape dx (putF "word_kinds" (.ref D) [("sealed", v)]))) := fun c o ne e => by rw [upd_ne ne]; exact s2 _ _ (b1 _ _ ne e)
    have x3 : upd H2 x (.ins T.C_Shape dx (putF "word_kinds" (.ref D) [("sealed", v)])) x = some (.ins T.C_Shape dx [("sealed", v), ("word_kinds", .ref D)]) := upd_same
    have a1 : upd H2 x (.ins T.C_Shape dx (putF "word_kinds" (.ref D) [("sealed", v)])) D = some (.dK two) := by rw [upd_ne neD]; exact hy
    generalize upd H2 x (.ins T.C_Shape dx (putF "word_kinds" (.ref D) [("sealed", v)])) = H3 at b3 x3 a1
    have kp3 := b3.keep notx
    -- lots
    refine ⟨_, rfl, p, rfl, ⟨_, kp3.sq sp⟩, fun D2 hD2 => dc_im (K := K) (walk_tup (K := K) (a := p) (xs := [.ref q])) lotsE rfl (by simp [lotsE]) (show 1 ≤ 100000 by decide) (fun H4 hb => keepT (hb.same hD2) (kp3.sq sp)) ?_ ?_⟩
    · rintro j e y H4 H5 he hb hne ⟨rfl, hy4⟩
      have j0 : j = 0 := by
        have := (List.getElem?_eq_some_iff.mp he).1
        have : j < 1 := this
        omega
      subst j0
      cases hy4
      cases he
      have s4 := hb.same hD2
      exact ⟨Same.refl _, fun N hN => ⟨q, _, rfl, keepT s4 (kp3.sq sq), rfl, _, _, rfl, _, _, rfl, rfl, rfl, _, rfl, _, rfl, hN _ _ (Same.refl _) (im_tup (keepT s4 (kp3.sq sr)) (ia_cons im_str (ia_cons im_str ia_nil)))⟩⟩
    intro H4 k2 hb4 a2 im2
    have s4 := hb4.same hD2
    have x4 := s4 _ _ x3
    have neD2 : D2 ≠ x := fun z => by rw [z, x3] at hD2; cases hD2
    refine ⟨_, rfl, x, _, dx, _, rfl, x4, T.cl_Shape, T.n_Shape_lots, (show 2 < 1000 by decide), ?_⟩
    have nx4 : ∀ ys, ¬ Rd H4 x (.tup ys) := fun ys z => by
      rcases z with z | ⟨u, z⟩ <;> rw [x4] at z <;> cases z
    have b5 : But x H (upd H4 x (.ins T.C_Shape dx (putF "lots" (.ref D2) [("sealed", v), ("word_kinds", .ref D)]))) := fun c o ne e => by rw [upd_ne ne]; exact s4 _ _ (b3 _ _ ne e)
    have x5 : upd H4 x (.ins T.C_Shape dx (putF "lots" (.ref D2) [("sealed", v), ("word_kinds", .ref D)])) x = some (.ins T.C_Shape dx [("sealed", v), ("word_kinds", .ref D), ("lots", .ref D2)]) := upd_same
    have a1' : upd H4 x (.ins T.C_Shape dx (putF "lots" (.ref D2) [("sealed", v), ("word_kinds", .ref D)])) D = some (.dK two) := by rw [upd_ne neD]; exact s4 _ _ a1
    have a2' : upd H4 x (.ins T.C_Shape dx (putF "lots" (.ref D2) [("sealed", v), ("word_kinds", .ref D)])) D2 = some (.dK k2) := by rw [upd_ne neD2]; exact a2
    have im2' := DkIm.mono (Keep.upd (o := .ins T.C_Shape dx (putF "lots" (.ref D2) [("sealed", v), ("word_kinds", .ref D)])) nx4) _ _ im2
    generalize upd H4 x (.ins T.C_Shape dx (putF "lots" (.ref D2) [("sealed", v), ("word_kinds", .ref D)])) = H5 at b5 x5 a1' a2' im2'
    have kp5 := b5.keep notx
    -- heads
    obtain ⟨hp, hxs, rfl, hsp, hims⟩ := (Im.mono kp5 _ _ hhd).tup_
    have hlen : hxs.length = d.heads.length := by have := hims.len; simpa using this
    have l12 := gd.heads12
    refine ⟨_, rfl, hp, rfl, ⟨_, hsp⟩, fun D3 hD3 => dc_im (K := K) (walk_tup (K := K) (a := hp) (xs := hxs)) d.headsE (by simp [Dor.headsE, hlen]) (by rw [Dor.headsE, List.map_map]; exact gd.headsU) (by omega) (fun H6 hb => keepT (hb.same hD3) hsp) ?_ ?_⟩
    · rintro j e y H6 H7 he hb hne ⟨rfl, hy6⟩
      unfold Dor.headsE at he
      rw [List.getElem?_map] at he
      cases eh : d.heads[j]? with
      | none => rw [eh] at he; cases he
      | some h0 =>
        rw [eh] at he
        cases he
        have s6 := hb.same hD3
        obtain ⟨vv, e1, im⟩ := hims.get (i := j) (d := h0.d) (by rw [List.getElem?_map, eh]; rfl)
        rw [hy6] at e1
        cases e1
        obtain ⟨pp, aa, rfl, sq6, sa6⟩ := hd_at (Im.mono (sk s6) _ _ im)
        refine ⟨Same.refl _, fun N hN => ⟨pp, _, rfl, sq6, rfl, _, _, rfl, _, _, rfl, _, _, rfl, rfl, rfl, _, rfl, _, rfl, _, rfl, by show 2 ≤ sizeLine; decide, fun u8 hu8 => hN _ _ (sn hu8) ?_⟩⟩
        refine im_tup (.inl (.inl upd_same)) (ia_cons (im_tup (keepT (sn hu8) sa6) strs_im) (ia_cons im_str ia_nil))
    intro H6 k3 hb6 a3 im3
    have s6 := hb6.same hD3
    have x6 := s6 _ _ x5
    have neD3 : D3 ≠ x := fun z => by rw [z, x5] at hD3; cases hD3
    refine ⟨_, rfl, x, _, dx, _, rfl, x6, T.cl_Shape, T.n_Shape_heads, (show 3 < 1000 by decide), ?_⟩
    have nx6 : ∀ ys, ¬ Rd H6 x (.tup ys) := fun ys z => by
      rcases z with z | ⟨u, z⟩ <;> rw [x6] at z <;> cases z
    have keep6 := Keep.upd (o := .ins T.C_Shape dx (putF "heads" (.ref D3) [("sealed", v), ("word_kinds", .ref D), ("lots", .ref D2)])) nx6
    have b7 : But x H (upd H6 x (.ins T.C_Shape dx (putF "heads" (.ref D3) [("sealed", v), ("word_kinds", .ref D), ("lots", .ref D2)]))) := fun c o ne e => by rw [upd_ne ne]; exact s6 _ _ (b5 _ _ ne e)
    have x7 : upd H6 x (.ins T.C_Shape dx (putF "heads" (.ref D3) [("sealed", v), ("word_kinds", .ref D), ("lots", .ref D2)])) x = some (.ins T.C_Shape dx [("sealed", v), ("word_kinds", .ref D), ("lots", .ref D2), ("heads", .ref D3)]) := upd_same
    have a17 : upd H6 x (.ins T.C_Shape dx (putF "heads" (.ref D3) [("sealed", v), ("word_kinds", .ref D), ("lots", .ref D2)])) D = some (.dK two) := by rw [upd_ne neD]; exact s6 _ _ a1'
    have a27 : upd H6 x (.ins T.C_Shape dx (putF "heads" (.ref D3) [("sealed", v), ("word_kinds", .ref D), ("lots", .ref D2)])) D2 = some (.dK k2) := by rw [upd_ne neD2]; exact s6 _ _ a2'
    have a37 : upd H6 x (.ins T.C_Shape dx (putF "heads" (.ref D3) [("sealed", v), ("word_kinds", .ref D), ("lots", .ref D2)])) D3 = some (.dK k3) := by rw [upd_ne neD3]; exact a3
    have im27 := DkIm.mono ((sk s6).trans keep6) _ _ im2'
    have im37 := DkIm.mono keep6 _ _ im3
    have hsp7 := ((sk s6).trans keep6).sq hsp
    have hims7 := ImAll.mono ((sk s6).trans keep6) _ _ hims
    generalize upd H6 x (.ins T.C_Shape dx (putF "heads" (.ref D3) [("sealed", v), ("word_kinds", .ref D), ("lots", .ref D2)])) = H7 at b7 x7 a17 a27 a37 im27 im37 hsp7 hims7
    -- rank
    refine ⟨_, rfl, hp, hxs, rfl, hsp7, fun D4 hD4 => dc_im (K := K) (walk_enumT (K := K) (c := hp) (ws := hxs)) d.rankE (by simp [Dor.rankE, hlen]) ?_ (by omega) (fun H8 hb => keepT (hb.same hD4) hsp7) ?_ ?_⟩
    · have : (d.rankE.map Prod.fst) = d.heads.map Hd.name := by
        unfold Dor.rankE
        rw [List.map_map]
        have e : (Prod.fst ∘ fun (p : Hd × Nat) => (p.1.name, PyData.int (p.2 : Nat))) = Hd.name ∘ Prod.fst := rfl
        rw [e, ← List.map_map]
        simp
      rw [this]
      exact gd.headsU
    · rintro j e y H8 H9 he hb hne ⟨T8, a8, y8, rfl, hT8, rfl, e8, hy8⟩
      cases e8
      unfold Dor.rankE at he
      rw [List.getElem?_map] at he
      cases eh : d.heads.zipIdx[j]? with
      | none => rw [eh] at he; cases he
      | some h0 =>
        rw [eh] at he
        cases he
        rw [List.getElem?_zipIdx] at eh
        cases eh2 : d.heads[j]? with
        | none => rw [eh2] at eh; cases eh
        | some h1 =>
          rw [eh2] at eh
          cases eh
          have s8 := hb.same hD4
          have hy8 : hxs[j]? = some y8 := hy8
          obtain ⟨vv, e1, im⟩ := hims7.get (i := j) (d := h1.d) (by rw [List.getElem?_map, eh2]; rfl)
          rw [hy8] at e1
          cases e1
          have s9 := sn (o := .tup [.int (j : Nat), y8]) hT8
          obtain ⟨pp, aa, rfl, sq8, sa8⟩ := hd_at (Im.mono (sk (s8.trans s9)) _ _ im)
          refine ⟨s9, fun N hN => ⟨T8, _, rfl, .inl (.inl upd_same), rfl, _, _, rfl, _, _, rfl, rfl, rfl, _, rfl, pp, _, 0, _, rfl, rfl, sq8, at0, _, rfl, hN _ _ (Same.refl _) ?_⟩⟩
          have : ((0 + j : Nat) : Int) = (j : Nat) := by omega
          show Im K _ (.int ((0 + j : Nat) : Int)) _
          rw [this]
          exact im_int
    intro H8 k4 hb8 a4 im4
    have s8 := hb8.same hD4
    have x8 := s8 _ _ x7
    have neD4 : D4 ≠ x := fun z => by rw [z, x7] at hD4; cases hD4
    refine ⟨_, rfl, x, _, dx, _, rfl, x8, T.cl_Shape, T.n_Shape_rank, (show 4 < 1000 by decide), ?_⟩
    have nx8 : ∀ ys, ¬ Rd H8 x (.tup ys) := fun ys z => by
      rcases z with z | ⟨u, z⟩ <;> rw [x8] at z <;> cases z
    have keep8 := Keep.upd (o := .ins T.C_Shape dx (putF "rank" (.ref D4) [("sealed", v), ("word_kinds", .ref D), ("lots", .ref D2), ("heads", .ref D3)])) nx8
    refine k _ (fun c o ne e => by rw [upd_ne ne]; exact s8 _ _ (b7 _ _ ne e)) ⟨dx, v, D, D2, D3, D4, two, k2, k3, k4, upd_same, ?_, ?_, ?_, ?_, DkIm.mono ((sk s8).trans keep8) _ _ im27, ?_, DkIm.mono ((sk s8).trans keep8) _ _ im37, ?_, DkIm.mono keep8 _ _ im4⟩
    · exact Im.mono (((b7.keep notx).trans (sk s8)).trans keep8) _ _ hv
    · rw [upd_ne neD]; exact s8 _ _ a17
    · show DkIm K _ [("no", .str "bit"), ("yes", .str "bit")] _
      simp only [DkIm]
      exact ⟨_, _, rfl, im_str, _, _, rfl, im_str, rfl⟩
    · rw [upd_ne neD2]; exact s8 _ _ a27
    · rw [upd_ne neD3]; exact s8 _ _ a37
    · rw [upd_ne neD4]; exact a4
end
end T82
namespace T82
open PySem L2
theorem lookup_mem {β : Type} : ∀ {l : List (Str × β)} {k : Str} {v : β}, (l.map Prod.fst).Nodup → (k, v) ∈ l → l.lookup k = some v
  | [], _, _, _, h => by cases h
  | (k', v') :: l, k, v, nd, h => by
    rw [List.map_cons, List.nodup_cons] at nd
    rw [List.lookup_cons]
    rcases List.mem_cons.mp h with e | e
    · cases e
      rw [beq_self_eq_true]
    · have ne : k ≠ k' := fun q => nd.1 (by
        rw [← q]
        exact List.mem_map_of_mem (f := Prod.fst) (a := (k, v)) e)
      rw [beq_eq_false_iff_ne.mpr ne]
      exact lookup_mem nd.2 e
theorem Dor.heads_lookup {d : Dor} (gd : d.good) {h : Hd} (m : h ∈ d.heads) : d.headsE.lookup h.name = some h.v := by
  refine lookup_mem ?_ ?_
  · rw [Dor.headsE, List.map_map]
    exact gd.headsU
  · exact List.mem_map_of_mem (f := fun h : Hd => (h.name, h.v)) m
theorem dget_k {H : Hp} {a : Addr} {kvs : List (Key × V)} {z : Str} {v : V} (e : H a = some (.dK kvs)) (hv : valV kvs (Sum.inr z) = some v) : DGet H a (.str z) (some v) := by
  rw [← hv]
  exact DGet.k (k := Sum.inr z) e
section
variable {P : Program} {w : World} {K : PySem.W.Frag} {mg : Str → Option Value} {base : Heap}
theorem hv_at {H : Hp} {h : Hd} {v : V} (q : Im K H h.v v) : ∃ p a, v = .ref p ∧ SqT K H p [.ref a, .str h.kind] ∧ SqT K H a (h.kinds.map V.str) := by
  unfold Hd.v at q
  obtain ⟨p, xs, rfl, h1, r1⟩ := q.tup_
  obtain ⟨y, xs, rfl, h3, r3⟩ := r1.cons_
  obtain ⟨z, xs, rfl, h4, r4⟩ := r3.cons_
  obtain ⟨a, rfl, h5⟩ := strs_at2 h3
  rw [h4.str_, r4.nil_] at h1
  exact ⟨p, a, rfl, h1, h5⟩
/-- what a shape's heads tell of a head of the door -/
theorem ShapeAt.head {C x : Addr} {H : Hp} {d : Dor} (sh : ShapeAt K C H x d) (gd : d.good) {h : Hd} (m : h ∈ d.heads) :
    ∃ dx v a1 a2 a3 a4 k3 p a, H x = some (.ins C dx [("sealed", v), ("word_kinds", .ref a1), ("lots", .ref a2), ("heads", .ref a3), ("rank", .ref a4)]) ∧ H a3 = some (.dK k3) ∧ valV k3 (Sum.inr h.name) = some (.ref p) ∧ SqT K H p [.ref a, .str h.kind] ∧ SqT K H a (h.kinds.map V.str) := by
  obtain ⟨dx, v, a1, a2, a3, a4, k1, k2, k3, k4, h0, h1, h2, h3, h4, h5, h6, h7, h8, h9⟩ := sh
  have g := DkIm.get h.name h7
  rw [Dor.heads_lookup gd m] at g
  obtain ⟨vv, e1, e2⟩ := g
  obtain ⟨p, a, rfl, q1, q2⟩ := hv_at e2
  exact ⟨dx, v, a1, a2, a3, a4, k3, p, a, h0, h6, e1, q1, q2⟩
theorem ShapeAt.word {C x : Addr} {H : Hp} {d : Dor} (sh : ShapeAt K C H x d) {z : Str} (m : z = "no" ∨ z = "yes") :
    ∃ dx v a1 a2 a3 a4 k1, H x = some (.ins C dx [("sealed", v), ("word_kinds", .ref a1), ("lots", .ref a2), ("heads", .ref a3), ("rank", .ref a4)]) ∧ H a1 = some (.dK k1) ∧ valV k1 (Sum.inr z) = some (.str "bit") := by
  obtain ⟨dx, v, a1, a2, a3, a4, k1, k2, k3, k4, h0, h1, h2, h3, h4, h5, h6, h7, h8, h9⟩ := sh
  have g := DkIm.get z h3
  have e : wordKindsE.lookup z = some (.str "bit") := by
    rcases m with rfl | rfl <;> rfl
  rw [e] at g
  obtain ⟨vv, e1, e2⟩ := g
  rw [e2.str_] at e1
  exact ⟨dx, v, a1, a2, a3, a4, k1, h0, h2, e1⟩
/-! ### kind_of: of a word, of what a head of the door makes -/
def KindOf (d : Dor) (t : Tm) (k : Str) : Prop := (∃ z, t = .w z ∧ (z = "no" ∨ z = "yes") ∧ k = "bit") ∨ ∃ h as, h ∈ d.heads ∧ t = .c h.name as ∧ k = h.kind
abbrev nm_Shape_kind_of : List Str := ["self", "term"]
theorem sc_Shape_kind_of : FnScope nm_Shape_kind_of ["self", "term"] (defScope s_Shape_kind_of) := ⟨rfl, rfl, rfl, by decide +kernel, rfl, by decide +kernel, by decide +kernel⟩
def sp_Shape_kind_of (K : PySem.W.Frag) (C : Addr) : Sp := fun vs H Q _ => ∃ x v d t k, vs = [.ref x, v] ∧ Dor.good d ∧ ShapeAt K C H x d ∧ Im K H (Tm.d t) v ∧ t.ok ∧ KindOf d t k ∧ Q (.str k) H
theorem ok_Shape_kind_of (T : Tx K mg) : FnOk P w K mg base CX0 3 T.f_Shape_kind_of T.d_Shape_kind_of ["self", "term"] (sp_Shape_kind_of K T.C_Shape) := by
  refine T.F_Shape_kind_of.ok sc_Shape_kind_of (fun vs H Q E h => ?_) (fun cdv A outer s H vs Q E hr h => ?_)
  · obtain ⟨x, v, d, t, k, rfl, _⟩ := h
    rfl
  · obtain ⟨x, v, d, t, kd, rfl, gd, sh, ht, hk, kind, k⟩ := h
    refine ⟨_, (pss_cons (ps_if (pt_val (pe_call (ok_is_word T) (hr.mono (by decide)) (by rfl) T.m_is_word T.F_is_word.kp T.b_is_word .nil pass0 (pa_cons (pv 1) pa_nil))) (pss_one (ps_ret (pe_dget (hu_of hr) (eFld (K := K) rfl (pv 0) rfl) (pv 1) (fun _ _ => rfl)))) pss_nil)
    (pss_one (ps_ret (pe_ifExp (pt_val (pe_call (ok_is_called T) (hr.mono (by decide)) (by rfl) T.m_is_called T.F_is_called.kp T.b_is_called .nil pass0 (pa_cons (pv 1) pa_nil))) (pe_ix (iT (K := K) rfl) (pe_dget (hu_of hr) (eFld (K := K) rfl (pv 0) rfl) (pe_ix (iT (K := K) rfl) (pv 1) pe_int (fun _ _ => rfl)) (fun _ _ => rfl)) pe_int (fun _ _ => rfl)) pe_non)))), ?_⟩
    refine ⟨_, rfl, v, t, rfl, ht, _, rfl, ?_⟩
    rcases kind with ⟨z, rfl, hz, rfl⟩ | ⟨h0, as, m, rfl, rfl⟩
    · rw [Tm.w_at ht] at *
      obtain ⟨dx, vv, a1, a2, a3, a4, k1, e0, e1, e2⟩ := sh.word hz
      exact iteT ⟨_, rfl, x, _, dx, _, _, rfl, e0, T.cl_Shape, T.n_Shape_word_kinds, rfl, _, rfl, a1, _, rfl, dget_k e1 e2, k⟩
    · obtain ⟨dx, vv, a1, a2, a3, a4, k3, p, a, e0, e1, e2, e3, e4⟩ := sh.head gd m
      obtain ⟨q, xs, rfl, sq, r⟩ := Tm.c_at ht
      refine iteF ⟨_, rfl, _, _, rfl, ht, hk, _, rfl, iteT ?_⟩
      exact ⟨_, rfl, x, _, dx, _, _, rfl, e0, T.cl_Shape, T.n_Shape_heads, rfl, _, rfl, q, _, 0, _, rfl, rfl, sq, at0, a3, _, rfl, dget_k e1 e2, p, _, 1, _, rfl, rfl, e3, at1, k⟩
/-! ### is_asker: of the law's parts -/
abbrev nm_Shape_is_asker : List Str := ["self", "term"]
theorem sc_Shape_is_asker : FnScope nm_Shape_is_asker ["self", "term"] (defScope s_Shape_is_asker) := ⟨rfl, rfl, rfl, by decide +kernel, rfl, by decide +kernel, by decide +kernel⟩
def sp_Shape_is_asker (K : PySem.W.Frag) (C : Addr) : Sp := fun vs H Q _ => ∃ x v d t, vs = [.ref x, v] ∧ Dor.good d ∧ ShapeAt K C H x d ∧ Im K H (Tm.d t) v ∧ t.ok ∧ ((∃ n, t = .u n) ∨ ∃ h as, h ∈ d.heads ∧ t = .c h.name as ∧ h.kind = "s") ∧ Q (.bl false) H
theorem ok_Shape_is_asker (T : Tx K mg) : FnOk P w K mg base CX0 3 T.f_Shape_is_asker T.d_Shape_is_asker ["self", "term"] (sp_Shape_is_asker K T.C_Shape) := by
  refine T.F_Shape_is_asker.ok sc_Shape_is_asker (fun vs H Q E h => ?_) (fun cdv A outer s H vs Q E hr h => ?_)
  · obtain ⟨x, v, d, t, rfl, _⟩ := h
    rfl
  · obtain ⟨x, v, d, t, rfl, gd, sh, ht, hk, kind, k⟩ := h
    refine ⟨_, (pss_one (ps_ret (pe_and (pe_call (ok_is_called T) (hr.mono (by decide)) (by rfl) T.m_is_called T.F_is_called.kp T.b_is_called .nil pass0 (pa_cons (pv 1) pa_nil)) (pe_one (pe_cmp (pc_din (hu_of hr) (pe_ix (iT (K := K) rfl) (pe_dget (hu_of hr) (eFld (K := K) rfl (pv 0) rfl) (pe_ix (iT (K := K) rfl) (pv 1) pe_int (fun _ _ => rfl)) (fun _ _ => rfl)) pe_int (fun _ _ => rfl)) (eFld (K := K) rfl (pv 0) rfl))))))), ?_⟩
    refine ⟨_, rfl, v, t, rfl, ht, hk, _, rfl, ?_⟩
    rcases kind with ⟨n, rfl⟩ | ⟨h0, as, m, rfl, hk0⟩
    · exact iteF k
    · obtain ⟨dx, vv, a1, a2, a3, a4, k3, p, a, e0, e1, e2, e3, e4⟩ := sh.head gd m
      obtain ⟨q, xs, rfl, sq, r⟩ := Tm.c_at ht
      obtain ⟨dx', vv', a1', a2', a3', a4', k1', k2', k3', k4', f0, f1, f2, f3, f4, f5, f6, f7, f8, f9⟩ := sh
      refine iteT ⟨_, rfl, x, _, dx, _, _, rfl, e0, T.cl_Shape, T.n_Shape_heads, rfl, _, rfl, q, _, 0, _, rfl, rfl, sq, at0, a3, _, rfl, dget_k e1 e2, p, _, 1, _, rfl, rfl, e3, at1, _, rfl, x, _, dx', _, _, rfl, f0, T.cl_Shape, T.n_Shape_lots, rfl, a2', _, rfl, DGet.k (k := Sum.inr h0.kind) f4, ?_⟩
      have g := DkIm.get h0.kind f5
      rw [hk0] at g ⊢
      have e : lotsE.lookup ("s" : Str) = none := rfl
      rw [e] at g
      rw [g]
      exact k
end
end T82
namespace T82
open PySem L2
section
variable {P : Program} {w : World} {K : PySem.W.Frag} {mg : Str → Option Value} {base : Heap}
/-! ### told: of the one law's parts -/
def tnm : Nat → Tm
  | 0 => .u 0
  | 1 => .c "f" [.u 0]
  | _ => lawL
def knm : Nat → V
  | 0 => .str "s"
  | 1 => .str "s"
  | _ => .non
def hnm : Nat → Hd
  | 0 => ⟨"f", ["s"], "s"⟩
  | _ => ⟨"ask", ["s"], "bit"⟩
abbrev nm_Shape_told : List Str := ["self", "thing", "kind", "found", "kinds", "own", "part", "its"]
theorem sc_Shape_told : FnScope nm_Shape_told ["self", "thing", "kind", "found"] (defScope s_Shape_told) := ⟨rfl, rfl, rfl, by decide +kernel, rfl, by decide +kernel, by decide +kernel⟩
def sp_Shape_told (K : PySem.W.Frag) (C : Addr) (n : Nat) : Sp := fun vs H Q _ => ∃ x v kv a d, vs = [.ref x, v, kv, .ref a] ∧ Dor.good d ∧ d.law = true ∧ ShapeAt K C H x d ∧
  ((v = .str "yes" ∧ kv = .non ∧ ∀ H', Same H H' → Q (.bl true) H') ∨
   (n ≤ 2 ∧ Im K H (tnm n).d v ∧ kv = knm n ∧ H a = some (.dK []) ∧ ∀ H', But a H H' → H' a = some (.dK [(Sum.inl 0, .str "s")]) → Q (.bl true) H'))
theorem yes_turn {A B : Hp → Prop} {σ : L2.St} {H : Hp} (h : A H) : tYes σ H fun b G => if b = true then A G else B G := by
  show (if true = true then A H else B H)
  rw [if_pos rfl]
  exact h
theorem DkIm.ne {H : Hp} {e : Str × PyData} {es : List (Str × PyData)} {kvs : List (Key × V)} (h : DkIm K H (e :: es) kvs) : kvs ≠ [] := by
  intro z
  have := h.len
  rw [z] at this
  cases this
theorem ShapeAt.but {C x a : Addr} {H H' : Hp} {d : Dor} (sh : ShapeAt K C H x d) (gd : d.good) (ha : H a = some (.dK [])) (b : But a H H') : ShapeAt K C H' x d := by
  obtain ⟨dx, v, a1, a2, a3, a4, k1, k2, k3, k4, h0, h1, h2, h3, h4, h5, h6, h7, h8, h9⟩ := sh
  have kp : Keep H H' := b.keep fun ys z => by
    rcases z with z | ⟨u, z⟩ <;> rw [ha] at z <;> cases z
  have nx : x ≠ a := fun z => by rw [z, ha] at h0; cases h0
  have ne : ∀ {q : Addr} {ks : List (Key × V)}, H q = some (.dK ks) → ks ≠ [] → q ≠ a := fun e n z => by
    rw [z, ha] at e
    cases e
    exact n rfl
  have len := gd.heads1
  have n3 : k3 ≠ [] := fun z => by
    have := h7.len
    rw [z] at this
    simp [Dor.headsE] at this
    rw [← this] at len
    simp at len
  have n4 : k4 ≠ [] := fun z => by
    have := h9.len
    rw [z] at this
    simp [Dor.rankE] at this
    rw [← this] at len
    simp at len
  exact ⟨dx, v, a1, a2, a3, a4, k1, k2, k3, k4, b _ _ nx h0, Im.mono kp _ _ h1, b _ _ (ne h2 h3.ne) h2, DkIm.mono kp _ _ h3, b _ _ (ne h4 h5.ne) h4, DkIm.mono kp _ _ h5, b _ _ (ne h6 n3) h6, DkIm.mono kp _ _ h7, b _ _ (ne h8 n4) h8, DkIm.mono kp _ _ h9⟩
theorem told_yes {C x : Addr} {H : Hp} {d : Dor} (sh : ShapeAt K C H x d) : ∃ dx v a1 a2 a3 a4 k1, H x = some (.ins C dx [("sealed", v), ("word_kinds", .ref a1), ("lots", .ref a2), ("heads", .ref a3), ("rank", .ref a4)]) ∧ H a1 = some (.dK k1) ∧ valV k1 (Sum.inr "yes") = some (.str "bit") := sh.word (.inr rfl)
theorem ok_Shape_told (T : Tx K mg) : ∀ n, FnOk P w K mg base CX0 (n + 4) T.f_Shape_told T.d_Shape_told ["self", "thing", "kind", "found"] (sp_Shape_told K T.C_Shape n)
  | 0 => by
    refine T.F_Shape_told.ok sc_Shape_told (fun vs H Q E h => ?_) (fun cdv A outer s H vs Q E hr h => ?_)
    · obtain ⟨x, v, kv, a, d, rfl, _⟩ := h
      rfl
    · obtain ⟨x, v, kv, a, d, rfl, gd, hl, sh, hh⟩ := h
      refine ⟨_, (pss_cons (ps_if (pt_val (pe_callB (cIsi (K := K) rfl) (by rfl) T.t_isinstance (by decide +kernel) (pa_cons (pv 1) (pa_cons (pe_bltn (by rfl) T.t_str (by decide +kernel) (show RelV (.ty "str") (.type "str") from rfl)) pa_nil)))) (pss_one (ps_ret (pe_and (pe_cmp (pc_din (hu_of hr) (pv 1) (eFld (K := K) rfl (pv 0) rfl))) (pe_one (pe_cmpR (oIn (K := K) rfl) (pv 2) (pe_tup (pa_cons pe_non (pa_cons (pe_dget (hu_of hr) (eFld (K := K) rfl (pv 0) rfl) (pv 1) (fun _ _ => rfl)) pa_nil))) rfl))))) pss_nil)
    (pss_cons (ps_if (pt_val (pe_call (ok_is_unknown T) (hr.mono (by decide)) (by rfl) T.m_is_unknown T.F_is_unknown.kp T.b_is_unknown .nil pass0 (pa_cons (pv 1) pa_nil))) (pss_cons (ps_if (PW.pt (pw_and (pt_cmpR op_notN (pv 2) pe_non (nomark _)) (pw_and1 (pt_cmpR op_ne (pe_dsetd (pv 3) (pe_ix (iT (K := K) rfl) (pv 1) pe_int (fun _ _ => rfl)) (pv 2) ⟨rfl, rfl, rfl, rfl⟩) (pv 2) (nomark _))))) (pss_one (ps_ret pe_bl)) pss_nil)
      (pss_one (ps_ret pe_bl))) pss_nil)
    (pss_cons (ps_if (PW.pt (pw_or (pt_not (pt_val (pe_call (ok_is_tuple T) (hr.mono (by decide)) (by rfl) T.m_is_tuple T.F_is_tuple.kp T.b_is_tuple .nil pass0 (pa_cons (pv 1) (pa_cons pe_int (pa_cons (pe_op op_add (pe_glob rfl T.c_MOST_SHAPE rI) pe_int) pa_nil)))))) (pw_or (pt_not (pt_val (pe_callB (cIsi (K := K) rfl) (by rfl) T.t_isinstance (by decide +kernel) (pa_cons (pe_ix (iT (K := K) rfl) (pv 1) pe_int (fun _ _ => rfl)) (pa_cons (pe_bltn (by rfl) T.t_str (by decide +kernel) (show RelV (.ty "str") (.type "str") from rfl)) pa_nil))))) (pw_or1 (pt_cmp (pc_dnotin (hu_of hr) (pe_ix (iT (K := K) rfl) (pv 1) pe_int (fun _ _ => rfl)) (eFld (K := K) rfl (pv 0) rfl))))))) (pss_one (ps_ret pe_bl)) pss_nil)
    (pss_cons (ps_asg (pe_dget (hu_of hr) (eFld (K := K) rfl (pv 0) rfl) (pe_ix (iT (K := K) rfl) (pv 1) pe_int (fun _ _ => rfl)) (fun _ _ => rfl)) (pg_tup rfl (pgs_cons (pg_name (i := 4) sc_Shape_told.nd rfl (Or.inl rfl)) (pgs_cons (pg_name (i := 5) sc_Shape_told.nd rfl (Or.inl rfl)) pgs_nil))))
    (pss_cons (ps_if (PW.pt (pw_or (pt_cmpR op_ne (pe_callB (cLen (K := K) rfl) (by rfl) T.t_len (by decide +kernel) (pa_cons (pv 4) pa_nil)) (pe_op op_sub (pe_callB (cLen (K := K) rfl) (by rfl) T.t_len (by decide +kernel) (pa_cons (pv 1) pa_nil)) pe_int) (nomark _)) (pw_or1 (pt_cmpR (oNotIn (K := K) rfl) (pv 2) (pe_tup (pa_cons pe_non (pa_cons (pv 5) pa_nil))) rfl)))) (pss_one (ps_ret pe_bl)) pss_nil)
    (pss_one ps_never)))))), ?_⟩
      rcases hh with ⟨rfl, rfl, k⟩ | ⟨_, hv, rfl, ha, k⟩
      · obtain ⟨dx, vv, a1, a2, a3, a4, k1, e0, e1, e2⟩ := told_yes sh
        refine ⟨_, rfl, _, _, _, _, true, rfl, .ty _, .base (.str "yes"), kit_ty (by decide +kernel), _, rfl, iteT ?_⟩
        refine ⟨_, rfl, _, rfl, x, _, dx, _, _, rfl, e0, T.cl_Shape, T.n_Shape_word_kinds, rfl, a1, _, rfl, DGet.k (k := Sum.inr "yes") e1, ?_⟩
        rw [e2]
        refine ⟨_, rfl, iteT ?_⟩
        refine ⟨_, rfl, _, rfl, x, _, dx, _, _, rfl, e0, T.cl_Shape, T.n_Shape_word_kinds, rfl, _, rfl, a1, _, rfl, dget_k e1 e2, by show 2 ≤ sizeLine; decide, fun p hp => ?_⟩
        exact ⟨p, _, rfl, .inr (.inl (.inl upd_same)), rfl, by decide, k _ (sn hp)⟩
      · obtain ⟨p, rfl, q⟩ := Tm.u_at hv
        refine ⟨_, rfl, _, _, _, _, false, rfl, .ty _, tyT q, kit_ty (by decide +kernel), _, rfl, iteF ?_⟩
        refine ⟨_, rfl, _, .u 0, rfl, hv, by rw [Tm.ok]; trivial, _, rfl, iteT ?_⟩
        refine ⟨_, rfl, rfl, _, rfl, iteT ?_⟩
        refine ⟨_, rfl, a, rfl, .inl ⟨_, .inl ha⟩, _, rfl, p, _, 1, _, rfl, rfl, q, at1, _, rfl, [], Sum.inl 0, ha, rfl, by decide, (fun _ z => by cases z), fun _ => ?_⟩
        refine ⟨_, rfl, rfl, _, rfl, itf (by decide) ?_⟩
        exact k _ (fun c o ne e => by rw [upd_ne ne]; exact e) upd_same
  | n + 1 => by
    have ih := ok_Shape_told T n
    refine T.F_Shape_told.ok sc_Shape_told (fun vs H Q E h => ?_) (fun cdv A outer s H vs Q E hr h => ?_)
    · obtain ⟨x, v, kv, a, d, rfl, _⟩ := h
      rfl
    · obtain ⟨x, v, kv, a, d, rfl, gd, hl, sh, hh⟩ := h
      refine ⟨_, (pss_cons (ps_if (pt_val (pe_callB (cIsi (K := K) rfl) (by rfl) T.t_isinstance (by decide +kernel) (pa_cons (pv 1) (pa_cons (pe_bltn (by rfl) T.t_str (by decide +kernel) (show RelV (.ty "str") (.type "str") from rfl)) pa_nil)))) (pss_one (ps_ret (pe_and (pe_cmp (pc_din (hu_of hr) (pv 1) (eFld (K := K) rfl (pv 0) rfl))) (pe_one (pe_cmpR (oIn (K := K) rfl) (pv 2) (pe_tup (pa_cons pe_non (pa_cons (pe_dget (hu_of hr) (eFld (K := K) rfl (pv 0) rfl) (pv 1) (fun _ _ => rfl)) pa_nil))) rfl))))) pss_nil)
    (pss_cons (ps_if (pt_val (pe_call (ok_is_unknown T) (hr.mono (by omega)) (by rfl) T.m_is_unknown T.F_is_unknown.kp T.b_is_unknown .nil pass0 (pa_cons (pv 1) pa_nil))) (pss_cons (ps_if (PW.pt (pw_and (pt_cmpR op_notN (pv 2) pe_non (nomark _)) (pw_and1 (pt_cmpR op_ne (pe_dsetd (pv 3) (pe_ix (iT (K := K) rfl) (pv 1) pe_int (fun _ _ => rfl)) (pv 2) ⟨rfl, rfl, rfl, rfl⟩) (pv 2) (nomark _))))) (pss_one (ps_ret pe_bl)) pss_nil)
      (pss_one (ps_ret pe_bl))) pss_nil)
    (pss_cons (ps_if (PW.pt (pw_or (pt_not (pt_val (pe_call (ok_is_tuple T) (hr.mono (by omega)) (by rfl) T.m_is_tuple T.F_is_tuple.kp T.b_is_tuple .nil pass0 (pa_cons (pv 1) (pa_cons pe_int (pa_cons (pe_op op_add (pe_glob rfl T.c_MOST_SHAPE rI) pe_int) pa_nil)))))) (pw_or (pt_not (pt_val (pe_callB (cIsi (K := K) rfl) (by rfl) T.t_isinstance (by decide +kernel) (pa_cons (pe_ix (iT (K := K) rfl) (pv 1) pe_int (fun _ _ => rfl)) (pa_cons (pe_bltn (by rfl) T.t_str (by decide +kernel) (show RelV (.ty "str") (.type "str") from rfl)) pa_nil))))) (pw_or1 (pt_cmp (pc_dnotin (hu_of hr) (pe_ix (iT (K := K) rfl) (pv 1) pe_int (fun _ _ => rfl)) (eFld (K := K) rfl (pv 0) rfl))))))) (pss_one (ps_ret pe_bl)) pss_nil)
    (pss_cons (ps_asg (pe_dget (hu_of hr) (eFld (K := K) rfl (pv 0) rfl) (pe_ix (iT (K := K) rfl) (pv 1) pe_int (fun _ _ => rfl)) (fun _ _ => rfl)) (pg_tup rfl (pgs_cons (pg_name (i := 4) sc_Shape_told.nd rfl (Or.inl rfl)) (pgs_cons (pg_name (i := 5) sc_Shape_told.nd rfl (Or.inl rfl)) pgs_nil))))
    (pss_cons (ps_if (PW.pt (pw_or (pt_cmpR op_ne (pe_callB (cLen (K := K) rfl) (by rfl) T.t_len (by decide +kernel) (pa_cons (pv 4) pa_nil)) (pe_op op_sub (pe_callB (cLen (K := K) rfl) (by rfl) T.t_len (by decide +kernel) (pa_cons (pv 1) pa_nil)) pe_int) (nomark _)) (pw_or1 (pt_cmpR (oNotIn (K := K) rfl) (pv 2) (pe_tup (pa_cons pe_non (pa_cons (pv 5) pa_nil))) rfl)))) (pss_one (ps_ret pe_bl)) pss_nil)
    (pss_one (ps_ret (pe_callB (cAll (K := K) rfl rfl) (by rfl) T.t_all (by decide +kernel) (pa_cons (pe_lc (own := [("part", 6), ("its", 7)]) (g := gTup K 2 (gCons (gName 6) (gCons (gName 7) gNil))) (tt := tYes) rfl sc_Shape_told.nd (wZ (K := K) rfl (by rfl) T.t_zip (pa_cons (pe_slice (sU (K := K) rfl) (pv 1) (po_some pe_int) po_none) (pa_cons (pv 4) pa_nil))) (blkOk_by (N := nm_Shape_told) (sc := defScope s_Shape_told) (by decide +kernel)) (fun _ _ _ _ _ => (pg_tup rfl (pgs_cons (pg_name (i := 6) sc_Shape_told.nd rfl (Or.inl rfl)) (pgs_cons (pg_name (i := 7) sc_Shape_told.nd rfl (Or.inl rfl)) pgs_nil)))) (fun _ _ _ _ _ => pts_nil) (fun _ _ _ _ _ => (pe_meth (pv 0) T.cl_Shape T.M_Shape_told ih hr T.b_Shape_told .nil pass0 (pa_cons (pv 6) (pa_cons (pv 7) (pa_cons (pv 3) pa_nil)))))) pa_nil))))))))), ?_⟩
      rcases hh with ⟨rfl, rfl, k⟩ | ⟨hn, hv, rfl, ha, k⟩
      · obtain ⟨dx, vv, a1, a2, a3, a4, k1, e0, e1, e2⟩ := told_yes sh
        refine ⟨_, rfl, _, _, _, _, true, rfl, .ty _, .base (.str "yes"), kit_ty (by decide +kernel), _, rfl, iteT ?_⟩
        refine ⟨_, rfl, _, rfl, x, _, dx, _, _, rfl, e0, T.cl_Shape, T.n_Shape_word_kinds, rfl, a1, _, rfl, DGet.k (k := Sum.inr "yes") e1, ?_⟩
        rw [e2]
        refine ⟨_, rfl, iteT ?_⟩
        refine ⟨_, rfl, _, rfl, x, _, dx, _, _, rfl, e0, T.cl_Shape, T.n_Shape_word_kinds, rfl, _, rfl, a1, _, rfl, dget_k e1 e2, by show 2 ≤ sizeLine; decide, fun p hp => ?_⟩
        exact ⟨p, _, rfl, .inr (.inl (.inl upd_same)), rfl, by decide, k _ (sn hp)⟩
      · have n1 : n = 0 ∨ n = 1 := by omega
        have et : tnm (n + 1) = .c (hnm n).name [tnm n] := by rcases n1 with rfl | rfl <;> rfl
        have mem : hnm n ∈ d.heads := by
          rcases n1 with rfl | rfl
          · exact (gd.lawIn hl).2
          · exact (gd.lawIn hl).1
        have kin : inV (knm (n + 1)) [V.non, V.str (hnm n).kind] = true := by rcases n1 with rfl | rfl <;> decide
        have kfl : flatV (knm (n + 1)) = true := by rcases n1 with rfl | rfl <;> rfl
        have okt : (tnm (n + 1)).ok := by
          rcases n1 with rfl | rfl
          · simp only [tnm, Tm.ok, Tm.oks]
            decide
          · simp only [tnm, lawL, Tm.ok, Tm.oks]
            decide
        have kinds1 : (hnm n).kinds = [("s" : Str)] := by rcases n1 with rfl | rfl <;> rfl
        have kn : knm n = V.str "s" := by rcases n1 with rfl | rfl <;> rfl
        rw [et] at hv okt
        obtain ⟨p, xs, rfl, sq, im⟩ := Tm.c_at hv
        obtain ⟨y, ys, rfl, imy, im2⟩ := im.cons_
        rw [im2.nil_] at sq
        obtain ⟨dx, vv, a1, a2, a3, a4, k3, hp, ka, e0, e1, e2, e3, e4⟩ := sh.head gd mem
        rw [kinds1] at e4
        refine ⟨_, rfl, _, _, _, _, false, rfl, .ty _, tyT sq, kit_ty (by decide +kernel), _, rfl, iteF ?_⟩
        refine ⟨_, rfl, _, _, rfl, hv, okt, _, rfl, iteF ?_⟩
        refine ⟨_, rfl, _, _, rfl, rfl, _, _, _, rfl, .inr ⟨p, _, rfl, sq, _, rfl, iteF ?_⟩⟩
        refine ⟨_, rfl, p, _, 0, _, rfl, rfl, sq, at0, _, _, _, _, true, rfl, .ty _, .base (.str _), kit_ty (by decide +kernel), _, rfl, iteF ?_⟩
        refine ⟨_, rfl, p, _, 0, _, rfl, rfl, sq, at0, _, rfl, x, _, dx, _, _, rfl, e0, T.cl_Shape, T.n_Shape_heads, rfl, a3, _, rfl, DGet.k (k := Sum.inr (hnm n).name) e1, ?_⟩
        rw [e2]
        refine ⟨_, rfl, iteF ?_⟩
        refine ⟨_, rfl, x, _, dx, _, _, rfl, e0, T.cl_Shape, T.n_Shape_heads, rfl, _, rfl, p, _, 0, _, rfl, rfl, sq, at0, a3, _, rfl, dget_k e1 e2, ?_⟩
        refine ⟨hp, _, rfl, e3, rfl, _, _, rfl, _, _, rfl, rfl, ?_⟩
        refine ⟨_, rfl, ka, _, rfl, .inr e4, _, rfl, p, _, rfl, .inr sq, _, _, rfl, rfl, rfl, _, rfl, iteF ?_⟩
        refine ⟨_, rfl, _, rfl, by show 2 ≤ sizeLine; decide, fun pt hpt => ⟨pt, _, rfl, .inr (.inl (.inl upd_same)), kfl, rfl, ?_⟩⟩
        rw [kin]
        refine ⟨_, rfl, iteF ?_⟩
        have s5 := sn (o := .tup [.non, .str (hnm n).kind]) hpt
        generalize upd H pt (.tup [.non, .str (hnm n).kind]) = H5 at s5
        refine ⟨_, rfl, _, rfl, p, _, rfl, keepT s5 sq, fun t6 H6 s6 st6 => ?_⟩
        rw [cut1] at st6
        have s56 := s5.trans s6
        refine ⟨_, rfl, t6, ka, _, _, rfl, .inr ⟨st6, keepT s56 e4, fun D hD => ?_⟩⟩
        have ha6 := s56 _ _ ha
        have neD : a ≠ D := ne_of_none ha6 hD
        have noT : ∀ {G : Hp} {ks : List (Key × V)}, G a = some (.dK ks) → ∀ ys, ¬ Rd G a (.tup ys) := fun e ys z => by
          rcases z with z | ⟨u, z⟩ <;> rw [e] at z <;> cases z
        have wz : Walk (RZ.ItzT K t6 ka) 1 (fun H => SqT K H t6 [y] ∧ SqT K H ka [V.str "s"]) (YPair (fun i => [y][i]?) (fun i => [V.str "s"][i]?)) := by
          refine ⟨fun i G hi z => ?_, fun G z => ⟨_, _, z.1, z.2, .inl (Nat.le_refl _)⟩, fun i G v G' hi z yl => ?_⟩
          · have i0 : i = 0 := by omega
            subst i0
            exact ⟨_, _, _, _, z.1, z.2, rfl, rfl⟩
          · obtain ⟨T1, x1, y1, h1, h2, h3, h4, h5⟩ := yl
            exact ⟨T1, x1, y1, h1, h2, h3, h4 _ z.1, h5 _ z.2⟩
        refine lc_it wz (fun i G => But a H6 G ∧ G D = some (.lst (if i = 0 then [] else [.bl true])) ∧ G a = some (.dK (if i = 0 then [] else [(Sum.inl 0, .str "s")]))) ?_ ?_ ?_ ?_
        · refine ⟨fun b o _ e => by rw [upd_ne (ne_of_none e hD)]; exact e, upd_same, ?_⟩
          rw [upd_ne neD]
          exact ha6
        · rintro i G _ ⟨hb, _⟩
          exact ⟨(hb.keep (noT ha6)).sq st6, (hb.keep (noT ha6)).sq (keepT s56 e4)⟩
        · rintro i v G G' hi ⟨hb, hGD, hGa⟩ ⟨T1, x1, y1, rfl, hT1, rfl, h4, h5⟩
          have i0 : i = 0 := by omega
          subst i0
          cases h4
          cases h5
          have s7 := sn (o := .tup [y, .str "s"]) hT1
          have shG : ShapeAt K T.C_Shape (upd G T1 (.tup [y, .str "s"])) x d := ((sh.mono s56).but gd ha6 hb).mono s7
          refine ⟨T1, _, rfl, .inl (.inl upd_same), rfl, _, _, rfl, _, _, rfl, rfl, rfl, ?_⟩
          refine yes_turn ?_
          have hGa7 := s7 _ _ hGa
          have hGD7 := s7 _ _ hGD
          have imG : Im K (upd G T1 (.tup [y, .str "s"])) (tnm n).d y := Im.mono (((sk s56).trans (hb.keep (noT ha6))).trans (sk s7)) _ _ imy
          have b7 : But a H6 (upd G T1 (.tup [y, .str "s"])) := fun c o ne e => s7 _ _ (hb c o ne e)
          generalize upd G T1 (.tup [y, .str "s"]) = G7 at shG hGa7 hGD7 imG b7
          obtain ⟨dx2, v2, b1, b2, b3, b4, l1, l2, l3, l4, f0, _⟩ := id shG
          refine ⟨_, rfl, x, dx2, _, rfl, f0, rfl, _, rfl, _, rfl, _, rfl, ?_⟩
          refine ⟨x, y, .str "s", a, d, rfl, gd, hl, shG, .inr ⟨by omega, imG, kn.symm, hGa7, fun H8 b8 a8 => ?_⟩⟩
          refine ⟨[], b8 _ _ neD.symm hGD7, by decide, fun c o ne e => ?_, upd_same, ?_⟩
          · rw [upd_ne (ne_of_none e hD)]
            exact b8 _ _ ne (b7 _ _ ne e)
          · rw [upd_ne neD]
            exact a8
        · rintro G ⟨hb, hGD, hGa⟩
          exact ⟨D, [true], rfl, SqL.of hGD, k G (fun c o ne e => hb _ _ ne (s56 _ _ e)) hGa⟩
end
end T82
namespace T82
open PySem L2
section
variable {P : Program} {w : World} {K : PySem.W.Frag} {mg : Str → Option Value} {base : Heap}
theorem tnm_ok (n : Nat) : (tnm n).ok := by
  match n with
  | 0 => simp only [tnm, Tm.ok]
  | 1 =>
    simp only [tnm, Tm.ok, Tm.oks]
    decide
  | n + 2 =>
    simp only [tnm, lawL, Tm.ok, Tm.oks]
    decide
theorem lawR_ok : lawR.ok := by
  simp only [lawR, Tm.ok]
  decide
theorem lawL_ok : lawL.ok := tnm_ok 2
theorem notup_dk {H : Hp} {a : Addr} {ks : List (Key × V)} (e : H a = some (.dK ks)) : ∀ ys, ¬ Rd H a (.tup ys) := fun ys z => by
  rcases z with z | ⟨u, z⟩ <;> rw [e] at z <;> cases z
/-! ### told_together -/
abbrev nm_Shape_told_together : List Str := ["self", "pairs", "found", "thing", "kind"]
theorem sc_Shape_told_together : FnScope nm_Shape_told_together ["self", "pairs"] (defScope s_Shape_told_together) := ⟨rfl, rfl, rfl, by decide +kernel, rfl, by decide +kernel, by decide +kernel⟩
def sp_Shape_told_together (K : PySem.W.Frag) (C : Addr) : Sp := fun vs H Q _ => ∃ x pl q1 q2 lv d, vs = [.ref x, .ref pl] ∧ Dor.good d ∧ d.law = true ∧ ShapeAt K C H x d ∧ SqL K H pl [.ref q1, .ref q2] ∧ SqT K H q1 [lv, .non] ∧ SqT K H q2 [.str "yes", .non] ∧ Im K H lawL.d lv ∧
  ∀ H' a, Same H H' → H' a = some (.dK [(Sum.inl 0, .str "s")]) → Q (.ref a) H'
theorem ok_Shape_told_together (T : Tx K mg) : FnOk P w K mg base CX0 7 T.f_Shape_told_together T.d_Shape_told_together ["self", "pairs"] (sp_Shape_told_together K T.C_Shape) := by
  refine T.F_Shape_told_together.ok sc_Shape_told_together (fun vs H Q E h => ?_) (fun cdv A outer s H vs Q E hr h => ?_)
  · obtain ⟨x, pl, q1, q2, lv, d, rfl, _⟩ := h
    rfl
  · obtain ⟨x, pl, q1, q2, lv, d, rfl, gd, hl, sh, spl, sq1, sq2, hlv, k⟩ := h
    refine ⟨_, (pss_cons (ps_set (i := 2) sc_Shape_told_together.nd rfl (Or.inr rfl) pe_dnewK)
    (pss_cons (ps_if (pt_not (pt_val (pe_callB (cAll (K := K) rfl rfl) (by rfl) T.t_all (by decide +kernel) (pa_cons (pe_lc (own := [("thing", 3), ("kind", 4)]) (g := gTup K 2 (gCons (gName 3) (gCons (gName 4) gNil))) (tt := tYes) rfl sc_Shape_told_together.nd (wL (K := K) rfl (pv 1)) (blkOk_by (N := nm_Shape_told_together) (sc := defScope s_Shape_told_together) (by decide +kernel)) (fun _ _ _ _ _ => (pg_tup rfl (pgs_cons (pg_name (i := 3) sc_Shape_told_together.nd rfl (Or.inl rfl)) (pgs_cons (pg_name (i := 4) sc_Shape_told_together.nd rfl (Or.inl rfl)) pgs_nil)))) (fun _ _ _ _ _ => pts_nil) (fun _ _ _ _ _ => (pe_meth (pv 0) T.cl_Shape T.M_Shape_told (ok_Shape_told T 2) (hr.mono (by decide)) T.b_Shape_told .nil pass0 (pa_cons (pv 3) (pa_cons (pv 4) (pa_cons (pv 2) pa_nil)))))) pa_nil)))) (pss_one (ps_ret pe_non)) pss_nil)
    (pss_one (ps_ret (pe_ifExp (pt_val (pe_callB (cAll (K := K) rfl rfl) (by rfl) T.t_all (by decide +kernel) (pa_cons (pe_lc (own := [("thing", 3), ("kind", 4)]) (g := gTup K 2 (gCons (gName 3) (gCons (gName 4) gNil))) (tt := tYes) rfl sc_Shape_told_together.nd (wL (K := K) rfl (pv 1)) (blkOk_by (N := nm_Shape_told_together) (sc := defScope s_Shape_told_together) (by decide +kernel)) (fun _ _ _ _ _ => (pg_tup rfl (pgs_cons (pg_name (i := 3) sc_Shape_told_together.nd rfl (Or.inl rfl)) (pgs_cons (pg_name (i := 4) sc_Shape_told_together.nd rfl (Or.inl rfl)) pgs_nil)))) (fun _ _ _ _ _ => pts_nil) (fun _ _ _ _ _ => (pe_or (pe_not (pe_call (ok_is_unknown T) (hr.mono (by decide)) (by rfl) T.m_is_unknown T.F_is_unknown.kp T.b_is_unknown .nil pass0 (pa_cons (pv 3) pa_nil))) (pe_one (pe_cmp (pc_din (hu_of hr) (pe_ix (iT (K := K) rfl) (pv 3) pe_int (fun _ _ => rfl)) (pv 2))))))) pa_nil))) (pv 2) pe_non))))), ?_⟩
    refine fun a ha => ?_
    have s1 := sn (o := .dK []) ha
    have a1 : upd H a (.dK []) a = some (.dK []) := upd_same
    generalize upd H a (.dK []) = H1 at s1 a1
    refine ⟨_, rfl, pl, rfl, ⟨_, keepL s1 spl⟩, fun D hD => ?_⟩
    have neD : a ≠ D := ne_of_none a1 hD
    have still : ∀ {G : Hp}, But a H1 G → SqL K G pl [.ref q1, .ref q2] := fun {G} hb => by
      have := keepL s1 spl
      rcases this with (z | ⟨o, z⟩) | z
      · exact .inl (.inl (hb _ _ (fun e => by rw [e, a1] at z; cases z) z))
      · exact .inl (.inr ⟨o, hb _ _ (fun e => by rw [e, a1] at z; cases z) z⟩)
      · exact .inr z
    refine lc_it (walk_list (K := K) (a := pl) (xs := [.ref q1, .ref q2])) (fun i G => But a H1 G ∧ G D = some (.lst (List.replicate i (.bl true))) ∧ G a = some (.dK (if i = 0 then [] else [(Sum.inl 0, .str "s")]))) ?_ (fun i G _ z => still z.1) ?_ ?_
    · refine ⟨fun b o _ e => by rw [upd_ne (ne_of_none e hD)]; exact e, upd_same, ?_⟩
      rw [upd_ne neD]
      exact a1
    · rintro i y G0 G hi ⟨hb, hGD, hGa⟩ ⟨rfl, hy⟩
      have kp : Keep H G := (sk s1).trans (hb.keep (notup_dk a1))
      have shG : ShapeAt K T.C_Shape G x d := (sh.mono s1).but gd a1 hb
      obtain ⟨dx2, v2, b1, b2, b3, b4, l1, l2, l3, l4, f0, _⟩ := id shG
      have i01 : i = 0 ∨ i = 1 := by
        have : i < 2 := hi
        omega
      rcases i01 with rfl | rfl
      · cases hy
        refine ⟨q1, _, rfl, kp.sq sq1, rfl, _, _, rfl, _, _, rfl, rfl, rfl, yes_turn ?_⟩
        refine ⟨_, rfl, x, dx2, _, rfl, f0, rfl, _, rfl, _, rfl, _, rfl, ?_⟩
        refine ⟨x, lv, .non, a, d, rfl, gd, hl, shG, .inr ⟨by decide, Im.mono kp _ _ hlv, rfl, hGa, fun H8 b8 a8 => ?_⟩⟩
        refine ⟨_, b8 _ _ neD.symm hGD, by decide, fun c o ne e => ?_, upd_same, ?_⟩
        · rw [upd_ne (ne_of_none e hD)]
          exact b8 _ _ ne (hb _ _ ne e)
        · rw [upd_ne neD]
          exact a8
      · cases hy
        refine ⟨q2, _, rfl, kp.sq sq2, rfl, _, _, rfl, _, _, rfl, rfl, rfl, yes_turn ?_⟩
        refine ⟨_, rfl, x, dx2, _, rfl, f0, rfl, _, rfl, _, rfl, _, rfl, ?_⟩
        refine ⟨x, .str "yes", .non, a, d, rfl, gd, hl, shG, .inl ⟨rfl, rfl, fun H8 s8 => ?_⟩⟩
        refine ⟨_, s8 _ _ hGD, by decide, fun c o ne e => ?_, upd_same, ?_⟩
        · rw [upd_ne (ne_of_none e hD)]
          exact s8 _ _ (hb _ _ ne e)
        · rw [upd_ne neD]
          exact s8 _ _ hGa
    · rintro G ⟨hb, hGD, hGa⟩
      refine ⟨D, [true, true], rfl, SqL.of hGD, _, rfl, iteF ?_⟩
      have kp : Keep H G := (sk s1).trans (hb.keep (notup_dk a1))
      have sHG : Same H G := fun c o e => hb _ _ (ne_of_none e ha) (s1 _ _ e)
      refine ⟨_, rfl, pl, rfl, ⟨_, still hb⟩, fun D2 hD2 => lc_true (K := K) (walk_list (K := K) (a := pl) (xs := [.ref q1, .ref q2])) hD2 (show 2 ≤ 100000 by decide) (fun G2 hb2 => keepL (hb2.same hD2) (still hb)) ?_ ?_⟩
      · rintro i y G0 G2 hi hb2 hne ⟨rfl, hy⟩
        have kp2 : Keep H G2 := kp.trans (sk (hb2.same hD2))
        have i01 : i = 0 ∨ i = 1 := by
          have : i < 2 := hi
          omega
        rcases i01 with rfl | rfl
        · cases hy
          refine ⟨Same.refl _, fun N hN => ⟨q1, _, rfl, kp2.sq sq1, rfl, _, _, rfl, _, _, rfl, rfl, rfl, ?_⟩⟩
          exact ⟨_, rfl, lv, lawL, rfl, Im.mono kp2 _ _ hlv, lawL_ok, _, rfl, _, rfl, iteT (hN _ (Same.refl _))⟩
        · cases hy
          refine ⟨Same.refl _, fun N hN => ⟨q2, _, rfl, kp2.sq sq2, rfl, _, _, rfl, _, _, rfl, rfl, rfl, ?_⟩⟩
          exact ⟨_, rfl, _, lawR, rfl, im_str, lawR_ok, _, rfl, _, rfl, iteT (hN _ (Same.refl _))⟩
      · intro G2 bs s2 hl2 ha2
        refine ⟨D2, bs, rfl, hl2, ?_⟩
        rw [ha2]
        exact ⟨_, rfl, iteT ⟨_, rfl, k G2 a (sHG.trans s2) (s2 _ _ hGa)⟩⟩
/-! ### kind_by: of what is no unknown -/
abbrev nm_Shape_kind_by : List Str := ["self", "found", "term"]
theorem sc_Shape_kind_by : FnScope nm_Shape_kind_by ["self", "found", "term"] (defScope s_Shape_kind_by) := ⟨rfl, rfl, rfl, by decide +kernel, rfl, by decide +kernel, by decide +kernel⟩
def sp_Shape_kind_by (K : PySem.W.Frag) (C : Addr) : Sp := fun vs H Q _ => ∃ x fv v d t k, vs = [.ref x, fv, v] ∧ Dor.good d ∧ ShapeAt K C H x d ∧ Im K H (Tm.d t) v ∧ t.ok ∧ KindOf d t k ∧ Q (.str k) H
theorem ok_Shape_kind_by (T : Tx K mg) : FnOk P w K mg base CX0 4 T.f_Shape_kind_by T.d_Shape_kind_by ["self", "found", "term"] (sp_Shape_kind_by K T.C_Shape) := by
  refine T.F_Shape_kind_by.ok sc_Shape_kind_by (fun vs H Q E h => ?_) (fun cdv A outer s H vs Q E hr h => ?_)
  · obtain ⟨x, fv, v, d, t, k, rfl, _⟩ := h
    rfl
  · obtain ⟨x, fv, v, d, t, kd, rfl, gd, sh, ht, hk, kind, k⟩ := h
    refine ⟨_, (pss_one (ps_ret (pe_ifExp (pt_val (pe_call (ok_is_unknown T) (hr.mono (by decide)) (by rfl) T.m_is_unknown T.F_is_unknown.kp T.b_is_unknown .nil pass0 (pa_cons (pv 2) pa_nil))) (pe_dget2 (hu_of hr) (pv 1) (pe_ix (iT (K := K) rfl) (pv 2) pe_int (fun _ _ => rfl)) pe_non ⟨rfl, rfl, rfl, rfl⟩) (pe_meth (pv 0) T.cl_Shape T.M_Shape_kind_of (ok_Shape_kind_of T) (hr.mono (by decide)) T.b_Shape_kind_of .nil pass0 (pa_cons (pv 2) pa_nil))))), ?_⟩
    refine ⟨_, rfl, v, t, rfl, ht, hk, ?_⟩
    have nu : t.isU = false := by
      rcases kind with ⟨z, rfl, _⟩ | ⟨h, as, _, rfl, _⟩ <;> rfl
    rw [nu]
    obtain ⟨dx2, v2, b1, b2, b3, b4, l1, l2, l3, l4, f0, _⟩ := id sh
    exact ⟨_, rfl, iteF ⟨_, rfl, x, dx2, _, rfl, f0, rfl, _, rfl, x, v, d, t, kd, rfl, gd, sh, ht, hk, kind, k⟩⟩
/-! ### told_beside -/
abbrev nm_Shape_told_beside : List Str := ["self", "one", "other", "found", "kinds"]
theorem sc_Shape_told_beside : FnScope nm_Shape_told_beside ["self", "one", "other"] (defScope s_Shape_told_beside) := ⟨rfl, rfl, rfl, by decide +kernel, rfl, by decide +kernel, by decide +kernel⟩
def sp_Shape_told_beside (K : PySem.W.Frag) (C : Addr) : Sp := fun vs H Q _ => ∃ x lv d, vs = [.ref x, lv, .str "yes"] ∧ Dor.good d ∧ d.law = true ∧ ShapeAt K C H x d ∧ Im K H lawL.d lv ∧ ∀ H' a, Same H H' → Q (.ref a) H'
theorem ok_Shape_told_beside (T : Tx K mg) : FnOk P w K mg base CX0 8 T.f_Shape_told_beside T.d_Shape_told_beside ["self", "one", "other"] (sp_Shape_told_beside K T.C_Shape) := by
  refine T.F_Shape_told_beside.ok sc_Shape_told_beside (fun vs H Q E h => ?_) (fun cdv A outer s H vs Q E hr h => ?_)
  · obtain ⟨x, lv, d, rfl, _⟩ := h
    rfl
  · obtain ⟨x, lv, d, rfl, gd, hl, sh, hlv, k⟩ := h
    refine ⟨_, (pss_cons (ps_set (i := 3) sc_Shape_told_beside.nd rfl (.inl rfl) (pe_meth (pv 0) T.cl_Shape T.M_Shape_told_together (ok_Shape_told_together T) (hr.mono (by decide)) T.b_Shape_told_together .nil pass0 (pa_cons (pe_lst (pa_cons (pe_tup (pa_cons (pv 1) (pa_cons pe_non pa_nil))) (pa_cons (pe_tup (pa_cons (pv 2) (pa_cons pe_non pa_nil))) pa_nil))) pa_nil)))
    (pss_cons (ps_set (i := 4) sc_Shape_told_beside.nd rfl (.inl rfl) (pe_ifExp (pt_cmpR op_notN (pv 3) pe_non (nomark _)) (pe_lst (pa_cons (pe_meth (pv 0) T.cl_Shape T.M_Shape_kind_by (ok_Shape_kind_by T) (hr.mono (by decide)) T.b_Shape_kind_by .nil pass0 (pa_cons (pv 3) (pa_cons (pv 1) pa_nil))) (pa_cons (pe_meth (pv 0) T.cl_Shape T.M_Shape_kind_by (ok_Shape_kind_by T) (hr.mono (by decide)) T.b_Shape_kind_by .nil pass0 (pa_cons (pv 3) (pa_cons (pv 2) pa_nil))) pa_nil))) (pe_lst (pa_cons pe_non (pa_cons pe_non pa_nil)))))
    (pss_cons (ps_if (pt_cmpR op_isN (pv 3) pe_non (nomark _)) (pss_one ps_never) pss_nil)
    (pss_one (ps_ret (pe_ifExp (pt_cmpR op_eq (pe_ix (iL (K := K) rfl) (pv 4) pe_int (fun _ _ => rfl)) (pe_ix (iL (K := K) rfl) (pv 4) pe_int (fun _ _ => rfl)) (nomark _)) (pv 3) pe_non)))))), ?_⟩
    obtain ⟨dx2, v2, b1, b2, b3, b4, l1, l2, l3, l4, f0, _⟩ := id sh
    refine ⟨_, rfl, x, dx2, _, rfl, f0, rfl, _, rfl, by show 2 ≤ sizeLine; decide, fun q1 h1 => ⟨_, rfl, by show 2 ≤ sizeLine; decide, fun q2 h2 => ⟨by show 2 ≤ sizeLine; decide, fun pl h3 => ?_⟩⟩⟩
    have s1 := sn (o := .tup [lv, .non]) h1
    have s2 := sn (o := .tup [.str "yes", .non]) h2
    have s3 := sn (o := .lst [.ref q1, .ref q2]) h3
    have s123 := (s1.trans s2).trans s3
    refine ⟨x, pl, q1, q2, lv, d, rfl, gd, hl, sh.mono s123, SqL.of upd_same, keepT (s2.trans s3) (.inl (.inl upd_same)), keepT s3 (.inl (.inl upd_same)), Im.mono (sk s123) _ _ hlv, fun G a s4 ga => ?_⟩
    have s14 := s123.trans s4
    have askIn := (gd.lawIn hl).1
    refine ⟨_, rfl, rfl, _, rfl, iteT ?_⟩
    obtain ⟨dx2, v2, b1, b2, b3, b4, l1, l2, l3, l4, f0, _⟩ := id (sh.mono s14)
    refine ⟨_, rfl, x, _, _, rfl, f0, rfl, _, rfl, _, rfl, x, .ref a, lv, d, lawL, "bit", rfl, gd, sh.mono s14, Im.mono (sk s14) _ _ hlv, lawL_ok, .inr ⟨_, _, askIn, rfl, rfl⟩, ?_⟩
    refine ⟨_, rfl, x, _, _, rfl, f0, rfl, _, rfl, _, rfl, x, .ref a, .str "yes", d, lawR, "bit", rfl, gd, sh.mono s14, im_str, lawR_ok, .inl ⟨"yes", rfl, .inr rfl, rfl⟩, ?_⟩
    refine ⟨by show 2 ≤ sizeLine; decide, fun kl hkl => ?_⟩
    refine ⟨_, rfl, rfl, _, rfl, iteF ?_⟩
    refine ⟨_, rfl, kl, _, 0, _, rfl, rfl, SqL.of upd_same, at0, _, rfl, kl, _, 1, _, rfl, rfl, SqL.of upd_same, at1, rfl, _, rfl, iteT ?_⟩
    exact ⟨_, rfl, k _ a (s14.trans (sn hkl))⟩
end
end T82
/-! ### dicts whose keys are tuples of any depth -/
namespace T82
open PySem L2 PyProof.Rows
open PySem.Spec
def triOk : NestedKey × Addr × V → NestedKey × Addr × Value → Prop := fun t v => t.1 = v.1 ∧ t.2.1 = v.2.1 ∧ RelV t.2.2 v.2.2
/-- the object of such a dict -/
def ndOk (P : Program) (w : World) (a : Addr) (ts : List (NestedKey × Addr × V)) : Heap → Prop := fun h => ∃ vs : List (NestedKey × Addr × Value), Paired triOk ts vs ∧
  ∃ o es ep, h.get? a = some o ∧ o.ExactDict ∧ o.data = .dict es ep ∧ es.toList = vs.map (entryOfKey (nestedKind P w)) ∧ (vs.map (·.1)).Nodup
/-- at a stands a dict with these entries -/
def ND (P : Program) (w : World) (K : PySem.W.Frag) (H : Hp) (a : Addr) (es : List (NestedKey × V)) : Prop := ∃ ts, es = ts.map (fun t => (t.1, t.2.2)) ∧ H a = some (.ext (ndOk P w a ts)) ∧ (a == sysModules) = false ∧ ts.length ≤ sizeLine ∧
  ∀ t ∈ ts, t.1.depth ≤ 8 ∧ Im K H t.1.data (.ref t.2.1)
section
variable {P : Program} {w : World} {K : PySem.W.Frag} {H H' : Hp} {a : Addr} {es : List (NestedKey × V)}
theorem ND.at (h : ND P w K H a es) (k : Keep H H') (e : ∀ o, H a = some o → H' a = some o) : ND P w K H' a es := by
  obtain ⟨ts, h1, h2, h3, h4, h5⟩ := h
  exact ⟨ts, h1, e _ h2, h3, h4, fun t ht => ⟨(h5 t ht).1, Im.mono k _ _ (h5 t ht).2⟩⟩
theorem ND.mono (h : ND P w K H a es) (s : Same H H') : ND P w K H' a es := h.at (sk s) (s a)
theorem ND.notup (h : ND P w K H a es) : ∀ ys, ¬ Rd H a (.tup ys) := fun ys z => by
  obtain ⟨ts, h1, h2, _⟩ := h
  rcases z with z | ⟨u, z⟩ <;> rw [h2] at z <;> cases z
theorem ndOk_new {h : Heap} {ts : List (NestedKey × Addr × V)} (q : ndOk P w a ts h) : ObjOk P w H h a (.ext (ndOk P w a ts)) := by
  refine ⟨q, ?_, fun h1 h2 q1 k => ?_⟩
  · obtain ⟨vs, _, o, es, ep, ho, _⟩ := q
    exact ⟨o, ho⟩
  · obtain ⟨vs, p, o, es, ep, ho, more⟩ := q1
    exact ⟨vs, p, o, es, ep, k o ho, more⟩
end
section
variable {X : Cx} {pins : List (Addr × Obj)} {σ : L2.St} {H : Hp} {s : Shared}
mutual
theorem nested_is (I : Inv X pins σ H s) : ∀ (k : NestedKey) (v : V) (u : Value), Im X.K H k.data v → RelV v u → NestedIs s.heap k u
  | .none, v, u, h, r => by
    rw [NestedKey.data] at h
    rw [h.non_] at r
    cases r
    exact .none
  | .num i, v, u, h, r => by
    rw [NestedKey.data] at h
    rw [h.int_] at r
    obtain ⟨t, rfl⟩ := r
    exact .int i t
  | .text x, v, u, h, r => by
    rw [NestedKey.data] at h
    rw [h.str_] at r
    obtain ⟨t, rfl⟩ := r
    exact .text x t
  | .tup ks, v, u, h, r => by
    rw [NestedKey.data] at h
    obtain ⟨p, xs, rfl, hq, im⟩ := h.tup_
    obtain ⟨its, rel, tupl, _⟩ := I.tuple hq
    cases r
    obtain ⟨o, ho, hc, n, hd⟩ := tupl
    exact .tup ho hc hd (by simpa using nested_all I ks xs its im rel)
theorem nested_all (I : Inv X pins σ H s) : ∀ (ks : List NestedKey) (vs : List V) (us : List Value), ImAll X.K H (NestedKey.datas ks) vs → Vals vs us → NestedAll s.heap ks us
  | [], vs, us, h, r => by
    rw [NestedKey.datas] at h
    rw [h.nil_] at r
    cases r
    exact .nil
  | k :: ks, vs, us, h, r => by
    rw [NestedKey.datas] at h
    obtain ⟨v, vs', rfl, h1, h2⟩ := h.cons_
    cases r with
    | cons r1 r2 => exact .cons (nested_is I k _ _ h1 r1) (nested_all I ks _ _ h2 r2)
end
theorem tri_val {ts : List (NestedKey × Addr × V)} {vs : List (NestedKey × Addr × Value)} (r : Paired triOk ts vs) (k : NestedKey) : RelO (valV (ts.map fun t => (t.1, t.2.2)) k) ((atKey vs k).map (·.2)) := by
  induction r with
  | nil => exact True.intro
  | @cons t v ts vs h r ih =>
    obtain ⟨h1, h2, h3⟩ := h
    rw [List.map_cons]
    by_cases e : t.1 = k
    · rw [valV_pos (p := (t.1, t.2.2)) e]
      have : atKey (v :: vs) k = some v.2 := by simp [atKey, List.find?_cons, ← h1, e]
      rw [this]
      exact h3
    · rw [valV_neg (p := (t.1, t.2.2)) e]
      have : atKey (v :: vs) k = atKey vs k := by simp [atKey, List.find?_cons, ← h1, e]
      rw [this]
      exact ih
theorem nd_of (I : Inv X pins σ H s) {a : Addr} {es : List (NestedKey × V)} (h : ND X.prog X.w X.K H a es) : ∃ ts vs, es = ts.map (fun t => (t.1, t.2.2)) ∧ H a = some (.ext (ndOk X.prog X.w a ts)) ∧ Paired triOk ts vs ∧ s.heap.DictOfH (nestedKind X.prog X.w) a vs ∧ (a == sysModules) = false ∧ ts.length ≤ sizeLine ∧
    ∀ t ∈ ts, t.1.depth ≤ 8 ∧ Im X.K H t.1.data (.ref t.2.1) := by
  obtain ⟨ts, h1, h2, h3, h4, h5⟩ := h
  obtain ⟨⟨vs, r, o, es', ep, ho, h6, h7, h8, h9⟩, _⟩ := (show ObjOk X.prog X.w H s.heap a (.ext (ndOk X.prog X.w a ts)) from I.hok a _ h2)
  refine ⟨ts, vs, h1, h2, r, ⟨o, es', ep, ho, h6, h7, h8, ?_, h9⟩, h3, h4, h5⟩
  have all : ∀ {l : List (NestedKey × Addr × V)} {m : List (NestedKey × Addr × Value)}, Paired triOk l m → (∀ t ∈ l, t.1.depth ≤ 8 ∧ Im X.K H t.1.data (.ref t.2.1)) → ∀ x ∈ m, (nestedKind X.prog X.w).is s.heap x.1 x.2.1 := by
    intro l m q
    induction q with
    | nil => intro _ x hx; cases hx
    | @cons p q ps qs hq t ih =>
      intro hl x hx
      rcases List.mem_cons.mp hx with e | hx
      · subst e
        obtain ⟨e1, e2, _⟩ := hq
        obtain ⟨d1, d2⟩ := hl p List.mem_cons_self
        rw [e1, e2] at d2
        exact ⟨nested_is I _ _ _ d2 rfl, by rw [← e1]; exact d1⟩
      · exact ih (fun t ht => hl t (List.mem_cons_of_mem _ ht)) x hx
  exact all r h5
/-- a tuple as such a key -/
def KeyV (K : PySem.W.Frag) (H : Hp) (k : NestedKey) (y : V) : Prop := k.depth ≤ 8 ∧ Im K H k.data y ∧ ∃ b, y = .ref b
theorem key_is (I : Inv X pins σ H s) {k : NestedKey} {b : Addr} (h : KeyV X.K H k (.ref b)) : (nestedKind X.prog X.w).is s.heap k b := ⟨nested_is I _ _ _ h.2.1 rfl, h.1⟩
variable {A : Around} {E : Value → Shared → Prop} {a : Addr} {es : List (NestedKey × V)} {k : NestedKey} {y : V} {u : Value}
theorem nroom (hu : A.units + 64 < cLine) : (nestedKind X.prog X.w).room A.in1 := by
  show A.in1.units + 8 < cLine
  rw [Around.in1_units]
  omega
theorem nd_in {Q : Value → Shared → Prop} (hu : A.units + 64 < cLine) (I : Inv X pins σ H s) (d : ND X.prog X.w X.K H a es) (ky : KeyV X.K H k y) (ry : RelV y u) (go : ∀ z, Inv X pins σ H z → Q (.bool (valV es k).isSome) z) :
    wpAny (model X.prog X.w) A (compareOp .In u (.ref a)) Q E s := by
  obtain ⟨ts, vs, rfl, _, r, dd, hd, _, _⟩ := nd_of I d
  obtain ⟨k1, k2, b, rfl⟩ := ky
  cases (show u = Value.ref b from ry)
  refine wpAny_in_heap (nroom hu) (key_is I ⟨k1, k2, b, rfl⟩) hd dd ?_
  have q := (tri_val r k).isSome_eq
  rw [Option.isSome_map] at q
  rw [← q]
  exact go _ (I.tok _)
theorem nd_notin {Q : Value → Shared → Prop} (hu : A.units + 64 < cLine) (I : Inv X pins σ H s) (d : ND X.prog X.w X.K H a es) (ky : KeyV X.K H k y) (ry : RelV y u) (go : ∀ z, Inv X pins σ H z → Q (.bool (!(valV es k).isSome)) z) :
    wpAny (model X.prog X.w) A (compareOp .NotIn u (.ref a)) Q E s := by
  obtain ⟨ts, vs, rfl, _, r, dd, hd, _, _⟩ := nd_of I d
  obtain ⟨k1, k2, b, rfl⟩ := ky
  cases (show u = Value.ref b from ry)
  refine wpAny_notIn_heap (nroom hu) (key_is I ⟨k1, k2, b, rfl⟩) hd dd ?_
  have q := (tri_val r k).isSome_eq
  rw [Option.isSome_map] at q
  rw [← q]
  exact go _ (I.tok _)
theorem nd_at {v : V} {Q : Value → Shared → Prop} (hu : A.units + 64 < cLine) (I : Inv X pins σ H s) (d : ND X.prog X.w X.K H a es) (ky : KeyV X.K H k y) (ry : RelV y u) (there : valV es k = some v) (go : ∀ r z, Inv X pins σ H z → RelV v r → Q r z) :
    wpAny (model X.prog X.w) A (getItem (.ref a) u) Q E s := by
  obtain ⟨ts, vs, rfl, _, r, dd, hd, _, _⟩ := nd_of I d
  obtain ⟨k1, k2, b, rfl⟩ := ky
  cases (show u = Value.ref b from ry)
  obtain ⟨r', hr, rv⟩ := RelO.some_of (v := v) (o := (atKey vs k).map (·.2)) (by rw [← there]; exact tri_val r k)
  obtain ⟨p, hp, hp2⟩ := Option.map_eq_some_iff.mp hr
  refine wpAny_getItem_heap (nroom hu) (key_is I ⟨k1, k2, b, rfl⟩) dd hp ?_
  rw [hp2]
  exact go _ _ (I.tok _) rv
theorem nd_get {dv : V} {r : Value} {Q : Value → Shared → Prop} (hu : A.units + 64 < cLine) (I : Inv X pins σ H s) (d : ND X.prog X.w X.K H a es) (ky : KeyV X.K H k y) (ry : RelV y u) (rd : RelV dv r) (go : ∀ r z, Inv X pins σ H z → RelV ((valV es k).getD dv) r → Q r z) :
    wpAny (model X.prog X.w) A (call (.builtin "dict.get") [.ref a, u, r]) Q E s := by
  obtain ⟨ts, vs, rfl, _, rl, dd, hd, _, _⟩ := nd_of I d
  obtain ⟨k1, k2, b, rfl⟩ := ky
  cases (show u = Value.ref b from ry)
  refine call_meetsIn PySem.F.slot_dict_get dd.typeIs PySem.F.entry_dict_get (PySem.F.args_dict_get_3 _ _ _) (meetsH_dict_get_default (nestedKind X.prog X.w) a b hd r) ⟨nroom hu, k, vs, key_is I ⟨k1, k2, b, rfl⟩, dd, go _ _ (I.tok _) ?_⟩
  exact (tri_val rl k).getD rd
theorem nd_set {v : V} {r : Value} {Q : Unit → Shared → Prop} (hu : A.units + 64 < cLine) (I : Inv X pins σ H s) (d : ND X.prog X.w X.K H a es) (ky : KeyV X.K H k y) (ry : RelV y u) (rv : RelV v r) (new : valV es k = none) (few : es.length < sizeLine)
    (go : ∀ G z, But a H G → ND X.prog X.w X.K G a (es ++ [(k, v)]) → Inv X pins σ G z → Q () z) : wpAny (model X.prog X.w) A (setItem (.ref a) u r) Q E s := by
  have nt := d.notup
  obtain ⟨ts, vs, rfl, e, rl, dd, hd, hz, all⟩ := nd_of I d
  obtain ⟨k1, k2, b, rfl⟩ := ky
  cases (show u = Value.ref b from ry)
  have lz : vs.length ≤ sizeLine := by rw [← Paired.length rl]; exact hz
  have no : atKey vs k = none := by
    have q := (tri_val rl k).isSome_eq
    rw [new, Option.isSome_map] at q
    cases e1 : atKey vs k with
    | none => rfl
    | some p => rw [e1] at q; cases q
  rw [List.length_map] at few
  refine wpAny_setItem_heap (hsz := lz) (nroom hu) (key_is I ⟨k1, k2, b, rfl⟩) dd fun g dd' same => ?_
  rw [storedH_new no] at dd'
  obtain ⟨q, arr, ep, hq, h2, h3, h4, _, h5⟩ := dd'
  have okN : ndOk X.prog X.w a (ts ++ [(k, b, v)]) g := ⟨vs ++ [(k, b, r)], Paired.snoc rl ⟨rfl, rfl, rv⟩, q, arr, ep, hq, h2, h3, h4, h5⟩
  have kp : Keep H (upd H a (.ext (ndOk X.prog X.w a (ts ++ [(k, b, v)])))) := Keep.upd nt
  refine go (upd H a (.ext (ndOk X.prog X.w a (ts ++ [(k, b, v)])))) _ (fun c o ne z => by rw [upd_ne ne]; exact z) ⟨ts ++ [(k, b, v)], by simp, upd_same, hd, by simp; omega, fun t ht => ?_⟩ (d_write I (by rw [e]; exact True.intro) same ⟨q, hq⟩ (ndOk_new okN))
  rcases List.mem_append.mp ht with ht | ht
  · exact ⟨(all t ht).1, Im.mono kp _ _ (all t ht).2⟩
  · rw [List.mem_singleton] at ht
    subst ht
    exact ⟨k1, Im.mono kp _ _ k2⟩
end
end T82
namespace T82
open PySem L2 PyProof.Rows
open PySem.Spec
section
variable (P : Program) (w : World) (K : PySem.W.Frag)
def tNNew : TE := fun _ H Q => ∀ p G, H p = none → Same H G → ND P w K G p [] → Q (.ref p) G
def tNIn (ty td : TE) : TE := fun σ H Q => ty σ H fun y H1 => td σ H1 fun x H2 => ∃ a k es, x = .ref a ∧ KeyV K H2 k y ∧ ND P w K H2 a es ∧ Q (.bl (valV es k).isSome) H2
def tNNotIn (ty td : TE) : TE := fun σ H Q => ty σ H fun y H1 => td σ H1 fun x H2 => ∃ a k es, x = .ref a ∧ KeyV K H2 k y ∧ ND P w K H2 a es ∧ Q (.bl (!(valV es k).isSome)) H2
def tNAt (td ty : TE) : TE := fun σ H Q => td σ H fun x H1 => ty σ H1 fun y H2 => ∃ a k es v, x = .ref a ∧ KeyV K H2 k y ∧ ND P w K H2 a es ∧ valV es k = some v ∧ Q v H2
def tNGet (td ty tx : TE) : TE := fun σ H Q => td σ H fun x H1 => ∃ a, x = .ref a ∧ (∃ es, ND P w K H1 a es) ∧ ty σ H1 fun y H2 => tx σ H2 fun z H3 => ∃ k es, KeyV K H3 k y ∧ ND P w K H3 a es ∧ Q ((valV es k).getD z) H3
def sNPut (td ty tv : TE) : TS := fun D σ H => tv σ H fun v H1 => td σ H1 fun x H2 => ty σ H2 fun y H3 => ∃ a k es, x = .ref a ∧ KeyV K H3 k y ∧ ND P w K H3 a es ∧ valV es k = none ∧ es.length < sizeLine ∧
  ∀ G, But a H3 G → ND P w K G a (es ++ [(k, v)]) → D.nx σ G
end
section
variable {X : Cx} {o i e f value : Expr} {pos pos' apos cpos : Pos} {td ty tv tx : TE} {P : Program} {w : World} {K : PySem.W.Frag}
theorem pe_nnew (eP : X.prog = P) (eW : X.w = w) (eK : X.K = K) : PE X (.Dict [] [] pos) (tNNew P w K) := by
  subst eP eW eK
  refine ⟨fun pins s σ H Q I h => wpAny_Dict_empty ?_⟩
  have free : H s.heap.objs.size = none := I.hok.fresh (Nat.le_refl _)
  have ok0 : ndOk X.prog X.w s.heap.objs.size [] (s.heap.push { cls := .type "dict", data := .dict #[] }) :=
    ⟨[], .nil, _, #[], 0, Heap.get?_push_size _ rfl, ⟨rfl, rfl, rfl⟩, rfl, rfl, List.nodup_nil⟩
  refine ⟨.ref s.heap.objs.size, _, I.laid (a := s.heap.objs.size) (o := .ext (ndOk X.prog X.w s.heap.objs.size [])) (t' := s.toks) (fun _ _ q => Heap.get?_push_of_some _ q) (Nat.le_refl _) (ndOk_new ok0), rfl, ?_⟩
  refine h _ _ free (sn free) ⟨[], rfl, upd_same, beq_eq_false_iff_ne.mpr (Ne.symm (Nat.ne_of_lt I.big)), Nat.zero_le _, fun t ht => by cases ht⟩
theorem pc_nin (eP : X.prog = P) (eW : X.w = w) (eK : X.K = K) (hu : X.A.units + 64 < cLine) (hi : PE X i ty) (ho : PE X o td) : PC X .In i o (tNIn P w K ty td) := by
  subst eP eW eK
  refine ⟨fun pins s σ H Q I h => ?_⟩
  refine thn (hi.run pins s σ H _ I h) fun iv s1 ⟨y, H1, I1, ry, q1⟩ => thn (ho.run pins s1 σ H1 _ I1 q1) fun u s2 z => ?_
  obtain ⟨x, H2, I2, rx, a, k, es, rfl, ky, nd, q2⟩ := z
  obtain rfl : u = Value.ref a := rx
  exact nd_in hu I2 nd ky ry fun s3 I3 => ⟨.bl _, H2, I3, rfl, q2⟩
theorem pc_nnotin (eP : X.prog = P) (eW : X.w = w) (eK : X.K = K) (hu : X.A.units + 64 < cLine) (hi : PE X i ty) (ho : PE X o td) : PC X .NotIn i o (tNNotIn P w K ty td) := by
  subst eP eW eK
  refine ⟨fun pins s σ H Q I h => ?_⟩
  refine thn (hi.run pins s σ H _ I h) fun iv s1 ⟨y, H1, I1, ry, q1⟩ => thn (ho.run pins s1 σ H1 _ I1 q1) fun u s2 z => ?_
  obtain ⟨x, H2, I2, rx, a, k, es, rfl, ky, nd, q2⟩ := z
  obtain rfl : u = Value.ref a := rx
  exact nd_notin hu I2 nd ky ry fun s3 I3 => ⟨.bl _, H2, I3, rfl, q2⟩
theorem nd_typeIs {pins : List (Addr × Obj)} {σ : L2.St} {H : Hp} {s : Shared} {a : Addr} {es : List (NestedKey × V)} (I : Inv X pins σ H s) (d : ND X.prog X.w X.K H a es) : s.TypeIs (.ref a) "dict" ∧ ∀ b, Value.ref a = .ref b → ∃ ob, s.heap.get? b = some ob ∧ ob.dict = none := by
  obtain ⟨ts, vs, _, _, _, dd, _⟩ := nd_of I d
  refine ⟨dd.typeIs, fun b q => ?_⟩
  cases q
  obtain ⟨ob, _, _, h1, h2, _⟩ := dd
  exact ⟨ob, h1, h2.2.1⟩
theorem pe_nat (eP : X.prog = P) (eW : X.w = w) (eK : X.K = K) (hu : X.A.units + 64 < cLine) (ho : PE X o td) (hi : PE X i ty) (hs : NoSl i) : PE X (.Subscript o i pos) (tNAt P w K td ty) := by
  subst eP eW eK
  refine ⟨fun pins s σ H Q I h => ?_⟩
  refine subD_of PySem.F.slot_dict_getitem.lookup hs (thn (ho.run pins s σ H _ I h) fun u s1 ⟨x, H1, I1, rx, q1⟩ => thn (hi.run pins s1 σ H1 _ I1 q1) fun iv s2 z => ?_)
  obtain ⟨y, H2, I2, ry, a, k, es, v, rfl, ky, nd, there, q2⟩ := z
  obtain rfl : u = Value.ref a := rx
  exact ⟨(nd_typeIs I2 nd).1, nd_at hu I2 nd ky ry there fun r s3 I3 rv => ⟨v, H2, I3, rv, q2⟩⟩
theorem pe_nget (eP : X.prog = P) (eW : X.w = w) (eK : X.K = K) (hu : X.A.units + 64 < cLine) (ho : PE X o td) (he : PE X e ty) (hf : PE X f tx) (m : M2 X o "get" apos e f cpos) : PE X (.Call (.Attribute o "get" apos) [e, f] [] cpos) (tNGet P w K td ty tx) := by
  subst eP eW eK
  refine ⟨fun pins s σ H Q I h => ?_⟩
  refine wpAny_Call_method m.base m.few m.line PySem.F.plainAttrs_dict PySem.F.slot_dict_get PySem.F.type_dict_get (thn (ho.run pins s σ H _ I h) fun u s1 z => ?_)
  obtain ⟨x, H1, I1, rx, a, rfl, ⟨es0, nd0⟩, q1⟩ := z
  obtain rfl : u = Value.ref a := rx
  refine ⟨(nd_typeIs I1 nd0).1, (nd_typeIs I1 nd0).2, ?_⟩
  rw [m.trees]
  refine Calls.callWith_builtin rfl (Calls.evalArgs_plain (Calls.spliced_cons (thn (he.run pins s1 σ H1 _ I1 q1) fun iv s2 ⟨y, H2, I2, ry, q2⟩ =>
    Calls.spliced_cons (thn (hf.run pins s2 σ H2 _ I2 q2) fun fv s3 z3 => Calls.spliced_nil ?_))))
  obtain ⟨z, H3, I3, rz, k, es, ky, nd, q3⟩ := z3
  exact nd_get hu I3 nd ky ry rz fun r s4 I4 rv => ⟨_, H3, I4, rv, q3⟩
theorem ps_nput (eP : X.prog = P) (eW : X.w = w) (eK : X.K = K) (hu : X.A.units + 64 < cLine) (ho : PE X o td) (hi : PE X i ty) (hv : PE X value tv) (hs : swapsWith value (some (.Subscript o i pos')) pos.line X.env = pure false) :
    PS X (.Assign [.Subscript o i pos'] value pos) (sNPut P w K td ty tv) := by
  subst eP eW eK
  refine ⟨fun pins s σ H D I h => ?_⟩
  refine wpAny_Assign_Subscript (thn (hv.run pins s σ H _ I h) fun r s1 ⟨v, H1, I1, rv, q1⟩ => thn (ho.run pins s1 σ H1 _ I1 q1) fun u s2 ⟨x, H2, I2, rx, q2⟩ => thn (hi.run pins s2 σ H2 _ I2 q2) fun iv s3 z => ?_) hs
  obtain ⟨y, H3, I3, ry, a, k, es, rfl, ky, nd, new, few, go⟩ := z
  obtain rfl : u = Value.ref a := rx
  exact nd_set hu I3 nd ky ry rv new few fun G s4 b nd4 I4 => ⟨σ, G, I4, go G b nd4⟩
end
end T82
namespace T82
open PySem L2
section
variable {P : Program} {w : World} {K : PySem.W.Frag} {mg : Str → Option Value} {base : Heap}
theorem base_of_call {id attr : Str} {p pos : Pos} {env : Env} {whole : Sem Value} {a : Expr} {as : List Expr} : attributeBase (.Call (.Name id p) (a :: as) [] pos) attr env whole = whole := rfl
/-! ### Order -/
abbrev nm_Order_init : List Str := ["self", "rank"]
theorem sc_Order_init : FnScope nm_Order_init ["self", "rank"] (defScope s_Order_init) := ⟨rfl, rfl, rfl, by decide +kernel, rfl, by decide +kernel, by decide +kernel⟩
def sp_Order_init (P : Program) (w : World) (K : PySem.W.Frag) (C : Addr) : Sp := fun vs H Q _ => ∃ x dx v, vs = [.ref x, v] ∧ H x = some (.ins C dx []) ∧ ∀ G a, But x H G → G x = some (.ins C dx [("rank", v), ("found", .ref a)]) → ND P w K G a [] → a ≠ x → H a = none → Q .non G
theorem ok_Order_init (T : Tx K mg) : FnOk P w K mg base CX0 1 T.f_Order_init T.d_Order_init ["self", "rank"] (sp_Order_init P w K T.C_Order) := by
  refine T.F_Order_init.ok sc_Order_init (fun vs H Q E h => ?_) (fun cdv A outer s H vs Q E hr h => ?_)
  · obtain ⟨x, dx, v, rfl, _⟩ := h
    rfl
  · obtain ⟨x, dx, v, rfl, hx, k⟩ := h
    refine ⟨_, (pss_cons (ps_fld (pv 0) (pv 1) rfl)
    (pss_one (ps_fld (pv 0) (pe_nnew (P := P) (w := w) (K := K) rfl rfl rfl) rfl))), ?_⟩
    refine ⟨_, rfl, _, rfl, x, _, dx, [], rfl, hx, T.cl_Order, T.n_Order_rank, (by decide), ?_⟩
    have x1 : upd H x (.ins T.C_Order dx (putF "rank" v [])) x = some (.ins T.C_Order dx [("rank", v)]) := upd_same
    have b1 : But x H (upd H x (.ins T.C_Order dx (putF "rank" v []))) := fun c o ne e => by rw [upd_ne ne]; exact e
    have f1 : ∀ a, upd H x (.ins T.C_Order dx (putF "rank" v [])) a = none → H a = none := fun a e => by
      by_cases z : a = x
      · rw [z, x1] at e
        cases e
      · rw [upd_ne z] at e
        exact e
    generalize upd H x (.ins T.C_Order dx (putF "rank" v [])) = H1 at x1 b1 f1
    intro a G hn s1 nd
    have ne : a ≠ x := fun z => by rw [z, x1] at hn; cases hn
    refine ⟨_, rfl, x, _, dx, _, rfl, s1 _ _ x1, T.cl_Order, T.n_Order_found, (show 1 < 1000 by decide), ?_⟩
    have nx : ∀ ys, ¬ Rd G x (.tup ys) := fun ys z => by
      rcases z with z | ⟨u, z⟩ <;> rw [s1 _ _ x1] at z <;> cases z
    exact k _ a (fun c o nc e => by rw [upd_ne nc]; exact s1 _ _ (b1 _ _ nc e)) upd_same (nd.at (Keep.upd nx) fun o e => by rw [upd_ne ne]; exact e) ne (f1 a hn)
abbrev nm_Order_looked : List Str := ["self", "one", "other", "part", "place"]
theorem sc_Order_looked : FnScope nm_Order_looked ["self", "one", "other"] (defScope s_Order_looked) := ⟨rfl, rfl, rfl, by decide +kernel, rfl, by decide +kernel, by decide +kernel⟩
def sp_Order_looked (K : PySem.W.Frag) : Sp := fun vs H Q _ => ∃ x lv, vs = [x, lv, .str "yes"] ∧ Im K H lawL.d lv ∧ Q (.bl true) H
theorem ok_Order_looked (T : Tx K mg) : FnOk P w K mg base CX0 3 T.f_Order_looked T.d_Order_looked ["self", "one", "other"] (sp_Order_looked K) := by
  refine T.F_Order_looked.ok sc_Order_looked (fun vs H Q E h => ?_) (fun cdv A outer s H vs Q E hr h => ?_)
  · obtain ⟨x, lv, rfl, _⟩ := h
    rfl
  · obtain ⟨x, lv, rfl, hlv, k⟩ := h
    refine ⟨_, (pss_cons (ps_if (PW.pt (pw_or (pt_not (pt_val (pe_call (ok_is_called T) (hr.mono (by decide)) (by rfl) T.m_is_called T.F_is_called.kp T.b_is_called .nil pass0 (pa_cons (pv 1) pa_nil)))) (pw_or1 (pt_cmpR (oEqD (K := K) rfl hr.units) (pv 1) (pv 2) (nomark _))))) (pss_one (ps_ret pe_bl)) pss_nil)
    (pss_cons (ps_if (pt_val (pe_call (ok_is_word T) (hr.mono (by decide)) (by rfl) T.m_is_word T.F_is_word.kp T.b_is_word .nil pass0 (pa_cons (pv 2) pa_nil))) (pss_one (ps_ret pe_bl)) pss_nil)
    (pss_cons ps_never
    (pss_cons ps_never
    (pss_cons ps_never
    (pss_one ps_never)))))), ?_⟩
    refine ⟨_, rfl, lv, lawL, rfl, hlv, lawL_ok, _, rfl, iteF ?_⟩
    refine ⟨_, rfl, _, rfl, lawL.d, .str "yes", Im.dp _ _ hlv, .str _, by decide +kernel, by decide +kernel, _, rfl, iteF ?_⟩
    exact ⟨_, rfl, _, lawR, rfl, im_str, _, rfl, iteT k⟩
abbrev nm_Order_is_greater : List Str := ["self", "one", "other"]
theorem sc_Order_is_greater : FnScope nm_Order_is_greater ["self", "one", "other"] (defScope s_Order_is_greater) := ⟨rfl, rfl, rfl, by decide +kernel, rfl, by decide +kernel, by decide +kernel⟩
def sp_Order_is_greater (P : Program) (w : World) (K : PySem.W.Frag) (C : Addr) : Sp := fun vs H Q _ => ∃ x dx lv r a, vs = [.ref x, lv, .str "yes"] ∧ Im K H lawL.d lv ∧ H x = some (.ins C dx [("rank", r), ("found", .ref a)]) ∧ ND P w K H a [] ∧ ∀ G, But a H G → Q (.bl true) G
def lawK : NestedKey := .tup [.tup [.text "ask", .tup [.text "f", .tup [.text "?", .num 0]]], .text "yes"]
theorem ok_Order_is_greater (T : Tx K mg) : FnOk P w K mg base CX0 4 T.f_Order_is_greater T.d_Order_is_greater ["self", "one", "other"] (sp_Order_is_greater P w K T.C_Order) := by
  refine T.F_Order_is_greater.ok sc_Order_is_greater (fun vs H Q E h => ?_) (fun cdv A outer s H vs Q E hr h => ?_)
  · obtain ⟨x, dx, lv, r, a, rfl, _⟩ := h
    rfl
  · obtain ⟨x, dx, lv, r, a, rfl, hlv, hx, nd, k⟩ := h
    refine ⟨_, (pss_cons (ps_if (pt_cmp (pc_nnotin (P := P) (w := w) (K := K) rfl rfl rfl hr.units (pe_tup (pa_cons (pv 1) (pa_cons (pv 2) pa_nil))) (eFld (K := K) rfl (pv 0) rfl))) (pss_one (ps_nput (P := P) (w := w) (K := K) rfl rfl rfl hr.units (eFld (K := K) rfl (pv 0) rfl) (pe_tup (pa_cons (pv 1) (pa_cons (pv 2) pa_nil))) (pe_meth (pv 0) T.cl_Order T.M_Order_looked (ok_Order_looked T) (hr.mono (by decide)) T.b_Order_looked .nil pass0 (pa_cons (pv 1) (pa_cons (pv 2) pa_nil))) rfl)) pss_nil)
    (pss_one (ps_ret (pe_nat (P := P) (w := w) (K := K) rfl rfl rfl hr.units (eFld (K := K) rfl (pv 0) rfl) (pe_tup (pa_cons (pv 1) (pa_cons (pv 2) pa_nil))) (fun _ _ => rfl))))), ?_⟩
    have key : ∀ {G : Hp} {q : Addr}, Keep H G → G q = some (.tup [lv, .str "yes"]) → KeyV K G lawK (.ref q) := fun {G q} kp e =>
      ⟨by decide, by
        have : Im K G (.tuple [lawL.d, .str "yes"]) (.ref q) := im_tup (.inl (.inl e)) (ia_cons (Im.mono kp _ _ hlv) (ia_cons im_str ia_nil))
        exact this, q, rfl⟩
    refine ⟨_, rfl, _, rfl, by show 2 ≤ sizeLine; decide, fun q1 h1 => ?_⟩
    have s1 := sn (o := .tup [lv, .str "yes"]) h1
    have q1at : upd H q1 (.tup [lv, .str "yes"]) q1 = some (.tup [lv, .str "yes"]) := upd_same
    generalize upd H q1 (.tup [lv, .str "yes"]) = H1 at s1 q1at
    refine ⟨_, rfl, x, _, dx, _, _, rfl, s1 _ _ hx, T.cl_Order, T.n_Order_found, rfl, a, lawK, [], rfl, key (sk s1) q1at, nd.mono s1, _, rfl, iteT ?_⟩
    refine ⟨_, rfl, x, dx, _, rfl, s1 _ _ hx, rfl, _, rfl, _, rfl, .ref x, lv, rfl, Im.mono (sk s1) _ _ hlv, ?_⟩
    refine ⟨_, rfl, x, _, dx, _, _, rfl, s1 _ _ hx, T.cl_Order, T.n_Order_found, rfl, _, rfl, _, rfl, by show 2 ≤ sizeLine; decide, fun q2 h2 => ?_⟩
    have s2 := sn (o := .tup [lv, .str "yes"]) h2
    have q2at : upd H1 q2 (.tup [lv, .str "yes"]) q2 = some (.tup [lv, .str "yes"]) := upd_same
    generalize upd H1 q2 (.tup [lv, .str "yes"]) = H2 at s2 q2at
    have s12 := s1.trans s2
    refine ⟨a, lawK, [], rfl, key (sk s12) q2at, nd.mono s12, rfl, by decide, fun G bG ndG => ?_⟩
    have nea : x ≠ a := fun z => by
      obtain ⟨ts, _, e, _⟩ := nd
      rw [← z, hx] at e
      cases e
    have xG : G x = some (.ins T.C_Order dx [("rank", r), ("found", .ref a)]) := bG _ _ nea (s12 _ _ hx)
    refine ⟨_, rfl, x, _, dx, _, _, rfl, xG, T.cl_Order, T.n_Order_found, rfl, _, rfl, _, rfl, by show 2 ≤ sizeLine; decide, fun q3 h3 => ?_⟩
    have s3 := sn (o := .tup [lv, .str "yes"]) h3
    have kG : Keep H G := (sk s12).trans (bG.keep (nd.mono s12).notup)
    refine ⟨a, lawK, _, .bl true, rfl, key (kG.trans (sk s3)) upd_same, ndG.mono s3, ?_, k _ fun c o ne e => s3 _ _ (bG _ _ ne (s12 _ _ e))⟩
    exact valV_pos rfl
end
end T82
namespace T82
open PySem L2
section
variable {P : Program} {w : World} {K : PySem.W.Frag} {mg : Str → Option Value} {base : Heap}
theorem law_parts : lawL.parts.map pd = [pd ([], lawL), pd ([1], .c "f" [.u 0]), pd ([1, 1], .u 0)] := by
  simp [lawL, Tm.parts, Tm.partsL]
abbrev nm_is_law : List Str := ["shape", "thing", "left", "right", "place", "part", "number"]
theorem sc_is_law : FnScope nm_is_law ["shape", "thing"] (defScope s_is_law) := ⟨rfl, rfl, rfl, by decide +kernel, rfl, by decide +kernel, by decide +kernel⟩
def sp_is_law (K : PySem.W.Frag) (C : Addr) : Sp := fun vs H Q _ => ∃ x v d, vs = [.ref x, v] ∧ Dor.good d ∧ d.law = true ∧ ShapeAt K C H x d ∧ Im K H lawD v ∧ ∀ G, Same H G → Q (.bl true) G
theorem ok_is_law (T : Tx K mg) : FnOk P w K mg base CX0 9 T.f_is_law T.d_is_law ["shape", "thing"] (sp_is_law K T.C_Shape) := by
  refine T.F_is_law.ok sc_is_law (fun vs H Q E h => ?_) (fun cdv A outer s H vs Q E hr h => ?_)
  · obtain ⟨x, v, d, rfl, _⟩ := h
    rfl
  · obtain ⟨x, v, d, rfl, gd, hl, sh, hv, k⟩ := h
    refine ⟨_, (pss_cons (ps_if (PW.pt (pw_or (pt_not (pt_val (pe_call (ok_is_tuple T) (hr.mono (by decide)) (by rfl) T.m_is_tuple T.F_is_tuple.kp T.b_is_tuple .nil pass0 (pa_cons (pv 1) (pa_cons pe_int (pa_cons pe_int pa_nil)))))) (pw_or1 (pt_val (pe_call (ok_is_unknown T) (hr.mono (by decide)) (by rfl) T.m_is_unknown T.F_is_unknown.kp T.b_is_unknown .nil pass0 (pa_cons (pe_ix (iT (K := K) rfl) (pv 1) pe_int (fun _ _ => rfl)) pa_nil)))))) (pss_one (ps_ret pe_bl)) pss_nil)
    (pss_cons (ps_asg (pv 1) (pg_tup rfl (pgs_cons (pg_name (i := 2) sc_is_law.nd rfl (Or.inr rfl)) (pgs_cons (pg_name (i := 3) sc_is_law.nd rfl (Or.inl rfl)) pgs_nil))))
    (pss_cons (ps_if (PW.pt (pw_or (pt_cmpR op_isN (pe_meth (pv 0) T.cl_Shape T.M_Shape_told_beside (ok_Shape_told_beside T) (hr.mono (by decide)) T.b_Shape_told_beside .nil pass0 (pa_cons (pv 2) (pa_cons (pv 3) pa_nil))) pe_non (nomark _)) (pw_or1 (pt_not (pt_val (pe_call (ok_is_called T) (hr.mono (by decide)) (by rfl) T.m_is_called T.F_is_called.kp T.b_is_called .nil pass0 (pa_cons (pv 2) pa_nil))))))) (pss_one (ps_ret pe_bl)) pss_nil)
    (pss_cons (ps_if (PW.pt (pw_or (pt_cmpR op_gt (pe_call (ok_size_of T 3) (hr.mono (by decide)) (by rfl) T.m_size_of T.F_size_of.kp T.b_size_of .nil pass0 (pa_cons (pv 2) pa_nil)) (pe_glob rfl T.c_MOST_LAW_PARTS rI) (nomark _)) (pw_or1 (pt_cmpR op_gt (pe_call (ok_size_of T 3) (hr.mono (by decide)) (by rfl) T.m_size_of T.F_size_of.kp T.b_size_of .nil pass0 (pa_cons (pv 3) pa_nil)) (pe_glob rfl T.c_MOST_LAW_PARTS rI) (nomark _))))) (pss_one (ps_ret pe_bl)) pss_nil)
    (pss_cons (ps_if (pt_val (pe_callB (cAny (K := K) rfl rfl) (by rfl) T.t_any (by decide +kernel) (pa_cons (pe_lc (own := [("place", 4), ("part", 5)]) (g := gTup K 2 (gCons (gName 4) (gCons (gName 5) gNil))) (tt := tYes) rfl sc_is_law.nd (wL (K := K) rfl (pe_slice (sL (K := K) rfl) (pe_call (ok_parts_of T 3) (hr.mono (by decide)) (by rfl) T.m_parts_of T.F_parts_of.kp T.b_parts_of .nil pass0 (pa_cons (pv 2) pa_nil)) (po_some pe_int) po_none)) (blkOk_by (N := nm_is_law) (sc := defScope s_is_law) (by decide +kernel)) (fun _ _ _ _ _ => (pg_tup rfl (pgs_cons (pg_name (i := 4) sc_is_law.nd rfl (Or.inl rfl)) (pgs_cons (pg_name (i := 5) sc_is_law.nd rfl (Or.inl rfl)) pgs_nil)))) (fun _ _ _ _ _ => pts_nil) (fun _ _ _ _ _ => (pe_meth (pv 0) T.cl_Shape T.M_Shape_is_asker (ok_Shape_is_asker T) (hr.mono (by decide)) T.b_Shape_is_asker .nil pass0 (pa_cons (pv 5) pa_nil)))) pa_nil))) (pss_one (ps_ret pe_bl)) pss_nil)
    (pss_cons (ps_if (pt_not (pt_val (pe_callB (cAll (K := K) rfl rfl) (by rfl) T.t_all (by decide +kernel) (pa_cons (pe_lc (own := [("number", 6)]) (g := gName 6) (tt := tYes) rfl sc_is_law.nd (wL (K := K) rfl (pe_call (ok_numbers_in T) (hr.mono (by decide)) (by rfl) T.m_numbers_in T.F_numbers_in.kp T.b_numbers_in .nil pass0 (pa_cons (pv 3) pa_nil))) (blkOk_by (N := nm_is_law) (sc := defScope s_is_law) (by decide +kernel)) (fun _ _ _ _ _ => (pg_name (i := 6) sc_is_law.nd rfl (Or.inl rfl))) (fun _ _ _ _ _ => pts_nil) (fun _ _ _ _ _ => (pe_cmpR (oIn (K := K) rfl) (pv 6) (pe_call (ok_numbers_in T) (hr.mono (by decide)) (by rfl) T.m_numbers_in T.F_numbers_in.kp T.b_numbers_in .nil pass0 (pa_cons (pv 2) pa_nil)) rfl))) pa_nil)))) (pss_one (ps_ret pe_bl)) pss_nil)
    (pss_one (ps_ret (pe_meth (pe_make T.M_Order (ok_Order_init T) (hr.mono (by decide)) (by rfl) T.m_Order T.b_Order_init .nil pass0 (pa_cons (eFld (K := K) rfl (pv 0) rfl) pa_nil)) T.cl_Order T.M_Order_is_greater (ok_Order_is_greater T) (hr.mono (by decide)) T.b_Order_is_greater .nil pass0 (pa_cons (pv 2) (pa_cons (pv 3) pa_nil)) (ht := mcall_of base_of_call fun _ => rfl)))))))))), ?_⟩
    unfold lawD at hv
    obtain ⟨p, xs, rfl, sp, im⟩ := hv.tup_
    obtain ⟨lv, xs, rfl, hlv, im⟩ := im.cons_
    obtain ⟨rv, xs, rfl, hrv, im⟩ := im.cons_
    rw [im.nil_] at sp
    have erv : rv = .str "yes" := Tm.w_at (s := "yes") hrv
    subst erv
    refine ⟨_, rfl, _, _, _, rfl, .inr ⟨p, _, rfl, sp, _, rfl, iteF ?_⟩⟩
    refine ⟨_, rfl, p, _, 0, _, rfl, rfl, sp, at0, lv, lawL, rfl, hlv, lawL_ok, _, rfl, iteF ?_⟩
    refine ⟨_, rfl, p, _, rfl, sp, rfl, _, _, rfl, _, _, rfl, rfl, ?_⟩
    obtain ⟨dx2, v2, b1, b2, b3, b4, l1, l2, l3, l4, f0, _⟩ := id sh
    refine ⟨_, rfl, x, dx2, _, rfl, f0, rfl, _, rfl, _, rfl, x, lv, d, rfl, gd, hl, sh, hlv, fun G1 a1 s1 => ?_⟩
    refine ⟨rfl, _, rfl, iteF ?_⟩
    refine ⟨_, rfl, lv, lawL, rfl, Im.mono (sk s1) _ _ hlv, lawL_ok, _, rfl, iteF ?_⟩
    refine ⟨_, rfl, lv, lawL, rfl, Im.mono (sk s1) _ _ hlv, lawL_ok, by decide, fun G2 s2 => ?_⟩
    have s12 := s1.trans s2
    refine ⟨_, _, rfl, rfl, _, rfl, itf (by decide) ?_⟩
    refine ⟨_, rfl, _, lawR, rfl, im_str, lawR_ok, by decide, fun G3 s3 => ?_⟩
    have s13 := s12.trans s3
    refine ⟨_, _, rfl, rfl, _, rfl, itf (by decide) ?_⟩
    refine ⟨_, rfl, lv, lawL, rfl, Im.mono (sk s13) _ _ hlv, lawL_ok, by decide, by decide, fun G4 pl ys s4 hpl0 hpl im4 => ?_⟩
    rw [law_parts] at im4
    obtain ⟨v0, ys, rfl, i0, im5⟩ := im4.cons_
    obtain ⟨v1, ys, rfl, i1, im6⟩ := im5.cons_
    obtain ⟨v2', ys, rfl, i2, im7⟩ := im6.cons_
    rw [im7.nil_] at hpl
    refine ⟨_, rfl, pl, _, rfl, SqL.of hpl, fun sl hsl => ?_⟩
    rw [cut1]
    have s5 := sn (o := .lst [v1, v2']) hsl
    have slat : upd G4 sl (.lst [v1, v2']) sl = some (.lst [v1, v2']) := upd_same
    generalize upd G4 sl (.lst [v1, v2']) = G5 at s5 slat
    have s15 := (s13.trans s4).trans s5
    refine ⟨sl, rfl, ⟨_, SqL.of slat⟩, fun D hD => lc_im (K := K) (walk_list (K := K) (a := sl) (xs := [v1, v2'])) hD [.bool false, .bool false] rfl (show 2 ≤ 100000 by decide) (fun G6 hb => keepL (hb.same hD) (SqL.of slat)) ?_ ?_⟩
    · rintro i dd y G0 G6 hd hb hne ⟨rfl, hy⟩
      have s6 := s15.trans (hb.same hD)
      have s56 := s5.trans (hb.same hD)
      obtain ⟨dx3, v3, b1, b2, b3, b4, l1, l2, l3, l4, f0, _⟩ := id (sh.mono s6)
      match i, hd, hy with
      | 0, hd, hy =>
        cases hd
        cases hy
        obtain ⟨p6, a6, t6, rfl, q1, q2, im8⟩ := pd_at (Im.mono (sk s56) _ _ i1)
        refine ⟨Same.refl _, fun N hN => ⟨p6, _, rfl, q1, rfl, _, _, rfl, _, _, rfl, rfl, rfl, ?_⟩⟩
        exact ⟨_, rfl, x, dx3, _, rfl, f0, rfl, _, rfl, x, t6, d, .c "f" [.u 0], rfl, gd, sh.mono s6, im8, tnm_ok 1, .inr ⟨_, _, (gd.lawIn hl).2, rfl, rfl⟩, hN _ _ (Same.refl _) im_bl⟩
      | 1, hd, hy =>
        cases hd
        cases hy
        obtain ⟨p6, a6, t6, rfl, q1, q2, im8⟩ := pd_at (Im.mono (sk s56) _ _ i2)
        refine ⟨Same.refl _, fun N hN => ⟨p6, _, rfl, q1, rfl, _, _, rfl, _, _, rfl, rfl, rfl, ?_⟩⟩
        exact ⟨_, rfl, x, dx3, _, rfl, f0, rfl, _, rfl, x, t6, d, .u 0, rfl, gd, sh.mono s6, im8, tnm_ok 0, .inl ⟨0, rfl⟩, hN _ _ (Same.refl _) im_bl⟩
    intro G6 ys hb hy imb
    have e6 := ImAll.bools (bs := [false, false]) imb
    rw [e6] at hy
    refine ⟨D, [false, false], rfl, SqL.of hy, _, rfl, iteF ?_⟩
    have s16 := s15.trans (hb.same hD)
    refine ⟨_, rfl, "yes", rfl, by decide, fun G7 nl s7 hn0 hnl => ?_⟩
    have s17 := s16.trans s7
    refine ⟨nl, rfl, ⟨_, SqL.of hnl⟩, fun D2 hD2 => lc_true (K := K) (walk_list (K := K) (a := nl) (xs := [])) hD2 (Nat.zero_le _) (fun G8 hb => keepL (hb.same hD2) (SqL.of hnl)) ?_ ?_⟩
    · rintro i y G0 G8 hi
      exact absurd hi (Nat.not_lt_zero _)
    intro G8 bs s8 hl8 ha8
    refine ⟨D2, bs, rfl, hl8, ?_⟩
    rw [ha8]
    refine ⟨_, rfl, iteF ?_⟩
    have s18 := s17.trans s8
    obtain ⟨dx3, v3, b1, b2, b3, b4, l1, l2, l3, l4, f0, _⟩ := id (sh.mono s18)
    refine ⟨_, rfl, x, _, dx3, _, _, rfl, f0, T.cl_Shape, T.n_Shape_rank, rfl, fun o dxo ho hdo neo => ?_⟩
    have hdo' : G8 dxo = none := hdo
    have o1 : upd (upd G8 dxo (.own o)) o (.ins T.C_Order dxo []) o = some (.ins T.C_Order dxo []) := upd_same
    have so : Same G8 (upd (upd G8 dxo (.own o)) o (.ins T.C_Order dxo [])) := fun c u e => by
      rw [upd_ne (ne_of_none e ho), upd_ne (ne_of_none e hdo)]
      exact e
    generalize upd (upd G8 dxo (.own o)) o (.ins T.C_Order dxo []) = G9 at o1 so
    refine ⟨o, dxo, .ref b4, rfl, o1, fun G10 a b10 o10 nd10 ne10 fr10 => ⟨rfl, ?_⟩⟩
    have no9 : ∀ ys, ¬ Rd G9 o (.tup ys) := fun ys z => by
      rcases z with z | ⟨u, z⟩ <;> rw [o1] at z <;> cases z
    have s810 : Same G8 G10 := fun c u e => b10 _ _ (ne_of_none e ho) (so _ _ e)
    have s110 := s18.trans s810
    refine ⟨o, dxo, _, rfl, o10, rfl, _, rfl, _, rfl, o, dxo, lv, .ref b4, a, rfl, Im.mono (sk s110) _ _ hlv, o10, nd10, fun G11 b11 => k G11 fun c u e => ?_⟩
    have e9 := so _ _ (s18 _ _ e)
    exact b11 _ _ (ne_of_none e9 fr10) (s110 _ _ e)
end
end T82
namespace T82
open PySem L2
section
variable {P : Program} {w : World} {K : PySem.W.Frag} {mg : Str → Option Value} {base : Heap}
/-! ### Door -/
structure DoorF (K : PySem.W.Frag) (CS CD : Addr) (H : Hp) (x : Addr) (d : Dor) (dx s : Addr) (wv sv hv lv : V) (m : Addr) : Prop where
  at_ : H x = some (.ins CD dx [("shape", .ref s), ("words", wv), ("sealed", sv), ("heads", hv), ("laws", lv), ("meeting", .ref m)])
  good : d.good
  shape : ShapeAt K CS H s d
  words : Im K H wordsD wv
  sealed : Im K H d.sealedD sv
  heads : Im K H d.headsD hv
  laws : Im K H d.lawsD lv
def DoorAt (K : PySem.W.Frag) (CS CD : Addr) (H : Hp) (x : Addr) (d : Dor) : Prop := ∃ dx s wv sv hv lv m, DoorF K CS CD H x d dx s wv sv hv lv m
theorem DoorAt.mono {CS CD : Addr} {H H' : Hp} {x : Addr} {d : Dor} (h : DoorAt K CS CD H x d) (s : Same H H') : DoorAt K CS CD H' x d := by
  obtain ⟨dx, s', wv, sv, hv, lv, m, f⟩ := h
  exact ⟨dx, s', wv, sv, hv, lv, m, s _ _ f.at_, f.good, f.shape.mono s, Im.mono (sk s) _ _ f.words, Im.mono (sk s) _ _ f.sealed, Im.mono (sk s) _ _ f.heads, Im.mono (sk s) _ _ f.laws⟩
theorem notup_ins {H : Hp} {a C dx : Addr} {fs : List (Str × V)} (e : H a = some (.ins C dx fs)) : ∀ ys, ¬ Rd H a (.tup ys) := fun ys z => by
  rcases z with z | ⟨u, z⟩ <;> rw [e] at z <;> cases z
theorem ShapeAt.butI {C C2 x s dx : Addr} {fs : List (Str × V)} {H H' : Hp} {d : Dor} (sh : ShapeAt K C H s d) (hx : H x = some (.ins C2 dx fs)) (ne : s ≠ x) (b : But x H H') : ShapeAt K C H' s d := by
  obtain ⟨dx', v, a1, a2, a3, a4, k1, k2, k3, k4, h0, h1, h2, h3, h4, h5, h6, h7, h8, h9⟩ := sh
  have kp := b.keep (notup_ins hx)
  have nd : ∀ {q : Addr} {ks : List (Key × V)}, H q = some (.dK ks) → q ≠ x := fun e z => by
    rw [z, hx] at e
    cases e
  exact ⟨dx', v, a1, a2, a3, a4, k1, k2, k3, k4, b _ _ ne h0, Im.mono kp _ _ h1, b _ _ (nd h2) h2, DkIm.mono kp _ _ h3, b _ _ (nd h4) h4, DkIm.mono kp _ _ h5, b _ _ (nd h6) h6, DkIm.mono kp _ _ h7, b _ _ (nd h8) h8, DkIm.mono kp _ _ h9⟩
abbrev nm_Door_init : List Str := ["self", "words", "sealed", "heads", "laws", "kinds", "number", "rule", "name", "some"]
theorem sc_Door_init : FnScope nm_Door_init ["self", "words", "sealed", "heads", "laws"] (defScope s_Door_init) := ⟨rfl, rfl, rfl, by decide +kernel, rfl, by decide +kernel, by decide +kernel⟩
def sp_Door_init (K : PySem.W.Frag) (CS CD : Addr) : Sp := fun vs H Q _ => ∃ x dx wv sv hv lv d, vs = [.ref x, wv, sv, hv, lv] ∧ Dor.good d ∧ H x = some (.ins CD dx []) ∧ Im K H wordsD wv ∧ Im K H d.sealedD sv ∧ Im K H d.headsD hv ∧ Im K H d.lawsD lv ∧ ∀ G, But x H G → DoorAt K CS CD G x d → Q .non G
theorem ok_Door_init (T : Tx K mg) : FnOk P w K mg base CX0 10 T.f_Door_init T.d_Door_init ["self", "words", "sealed", "heads", "laws"] (sp_Door_init K T.C_Shape T.C_Door) := by
  refine T.F_Door_init.ok sc_Door_init (fun vs H Q E h => ?_) (fun cdv A outer s H vs Q E hr h => ?_)
  · obtain ⟨x, dx, wv, sv, hv, lv, d, rfl, _⟩ := h
    rfl
  · obtain ⟨x, dx, wv, sv, hv, lv, d, rfl, gd, hx, hw, hs, hh, hl, k⟩ := h
    refine ⟨_, (pss_cons (ps_if (pt_not (pt_val (pe_call (ok_are_words T) (hr.mono (by decide)) (by rfl) T.m_are_words T.F_are_words.kp T.b_are_words .nil pass0 (pa_cons (pv 1) pa_nil)))) (pss_one ps_never) pss_nil)
    (pss_cons (ps_if (pt_not (pt_val (pe_call (ok_are_sealed T) (hr.mono (by decide)) (by rfl) T.m_are_sealed T.F_are_sealed.kp T.b_are_sealed .nil pass0 (pa_cons (pv 2) (pa_cons (pv 1) pa_nil))))) (pss_one ps_never) pss_nil)
    (pss_cons (ps_set (i := 5) sc_Door_init.nd rfl (.inl rfl) (pe_op op_cat (pe_lc (own := [("name", 8), ("some", 9)]) (g := gTup K 2 (gCons (gName 8) (gCons (gName 9) gNil))) (tt := tYes) rfl sc_Door_init.nd (wT (K := K) rfl (pv 1)) (blkOk_by (N := nm_Door_init) (sc := defScope s_Door_init) (by decide +kernel)) (fun _ _ _ _ _ => (pg_tup rfl (pgs_cons (pg_name (i := 8) sc_Door_init.nd rfl (Or.inl rfl)) (pgs_cons (pg_name (i := 9) sc_Door_init.nd rfl (Or.inl rfl)) pgs_nil)))) (fun _ _ _ _ _ => pts_nil) (fun _ _ _ _ _ => (pv 8))) (pe_callTy (tList (K := K) rfl) (by rfl) T.t_list (by decide +kernel) (pa_cons (pv 2) pa_nil))))
    (pss_cons (ps_if (pt_not (pt_val (pe_call (ok_are_heads T) (hr.mono (by decide)) (by rfl) T.m_are_heads T.F_are_heads.kp T.b_are_heads .nil pass0 (pa_cons (pv 3) (pa_cons (pv 5) (pa_cons (pe_callB (cSum1 (K := K) rfl rfl) (by rfl) T.t_sum (by decide +kernel) (pa_cons (pe_lc (own := [("name", 8), ("some", 9)]) (g := gTup K 2 (gCons (gName 8) (gCons (gName 9) gNil))) (tt := tYes) rfl sc_Door_init.nd (wT (K := K) rfl (pv 1)) (blkOk_by (N := nm_Door_init) (sc := defScope s_Door_init) (by decide +kernel)) (fun _ _ _ _ _ => (pg_tup rfl (pgs_cons (pg_name (i := 8) sc_Door_init.nd rfl (Or.inl rfl)) (pgs_cons (pg_name (i := 9) sc_Door_init.nd rfl (Or.inl rfl)) pgs_nil)))) (fun _ _ _ _ _ => pts_nil) (fun _ _ _ _ _ => (pv 9))) (pa_cons (pe_tup pa_nil) pa_nil))) pa_nil)))))) (pss_one ps_never) pss_nil)
    (pss_cons (ps_fld (pv 0) (pe_make T.M_Shape (ok_Shape_init T) (hr.mono (by decide)) (by rfl) T.m_Shape T.b_Shape_init .nil pass0 (pa_cons (pv 1) (pa_cons (pv 2) (pa_cons (pv 3) pa_nil)))) rfl)
    (pss_cons (ps_if (pt_not (pt_val (pe_call (ok_is_tuple T) (hr.mono (by decide)) (by rfl) T.m_is_tuple T.F_is_tuple.kp T.b_is_tuple .nil pass0 (pa_cons (pv 4) (pa_cons pe_int (pa_cons (pe_glob rfl T.c_MOST_LAWS rI) pa_nil)))))) (pss_one ps_never) pss_nil)
    (pss_cons (ps_for PassesOwn.never rfl (wE (K := K) rfl (by rfl) T.t_enumerate (pa_cons (pv 4) pa_nil)) (pg_tup rfl (pgs_cons (pg_name (i := 6) sc_Door_init.nd rfl (Or.inl rfl)) (pgs_cons (pg_name (i := 7) sc_Door_init.nd rfl (Or.inl rfl)) pgs_nil)))
      (pss_one (ps_if (pt_not (pt_val (pe_call (ok_is_law T) (hr.mono (by decide)) (by rfl) T.m_is_law T.F_is_law.kp T.b_is_law .nil pass0 (pa_cons (eFld (K := K) rfl (pv 0) rfl) (pa_cons (pv 7) pa_nil))))) (pss_one ps_never) pss_nil)))
    (pss_cons (ps_fld (pv 0) (pv 1) rfl)
    (pss_cons (ps_fld (pv 0) (pv 2) rfl)
    (pss_cons (ps_fld (pv 0) (pv 3) rfl)
    (pss_cons (ps_fld (pv 0) (pv 4) rfl)
    (pss_one (ps_fld (pv 0) (pe_lst pa_nil) rfl))))))))))))), ?_⟩
    refine ⟨_, rfl, wv, rfl, hw, fun G1 s1 => ⟨_, rfl, iteF ?_⟩⟩
    refine ⟨_, rfl, _, rfl, sv, wv, d, rfl, gd, Im.mono (sk s1) _ _ hs, Im.mono (sk s1) _ _ hw, fun G2 s2 => ⟨_, rfl, iteF ?_⟩⟩
    have s12 := s1.trans s2
    obtain ⟨p, q, r, rfl, sp, sq, sr⟩ := words_at (Im.mono (sk s12) _ _ hw)
    obtain ⟨a, rfl, sa⟩ := strs_at2 (Im.mono (sk s12) _ _ hs)
    have l4 := gd.sealed4
    refine ⟨_, rfl, p, rfl, ⟨_, sp⟩, fun D3 hD3 => lc_strs (K := K) (walk_tup (K := K) (a := p) (xs := [.ref q])) ["bit"] rfl hD3 (show 1 ≤ 100000 by decide) (fun H3 hb => keepT (hb.same hD3) sp) ?_ ?_⟩
    · rintro i z y H3 H4 hz hb hne ⟨rfl, hy⟩
      have e0 : i = 0 := by
        have := (List.getElem?_eq_some_iff.mp hz).1
        have : i < 1 := this
        omega
      subst e0
      cases hy
      cases hz
      exact ⟨Same.refl _, fun N hN => ⟨q, _, rfl, keepT (hb.same hD3) sq, rfl, _, _, rfl, _, _, rfl, rfl, rfl, _, rfl, hN _ (Same.refl _)⟩⟩
    intro H3 hb3 hl3
    have s3 := hb3.same hD3
    refine ⟨_, rfl, a, _, rfl, .inr (keepT s3 sa), fun D4 hD4 => ?_⟩
    have s4 := sn (o := .lst (d.sealed.map V.str)) hD4
    have hl4 := s4 _ _ hl3
    refine ⟨D3, D4, _, _, rfl, rfl, hl4, upd_same, ?_, fun kl hkl => ?_⟩
    · rw [sizeLine_eq]
      simp
      omega
    have klat : upd (upd H3 D4 (.lst (d.sealed.map V.str))) kl (.lst ([("bit" : Str)].map V.str ++ d.sealed.map V.str)) kl = some (.lst ((("bit" : Str) :: d.sealed).map V.str)) := upd_same
    have s5 := s4.trans (sn (o := .lst ([("bit" : Str)].map V.str ++ d.sealed.map V.str)) hkl)
    generalize upd (upd H3 D4 (.lst (d.sealed.map V.str))) kl (.lst ([("bit" : Str)].map V.str ++ d.sealed.map V.str)) = H5 at klat s5
    have s35 := s3.trans s5
    have s15 := s12.trans s35
    refine ⟨_, rfl, _, rfl, _, rfl, p, rfl, ⟨_, keepT s35 sp⟩, fun D6 hD6 => lc_im (K := K) (walk_tup (K := K) (a := p) (xs := [.ref q])) hD6 [PyData.tuple [.str "no", .str "yes"]] rfl (show 1 ≤ 100000 by decide) (fun H6 hb => keepT (s35.trans (hb.same hD6)) sp) ?_ ?_⟩
    · rintro i dd y H6 H7 hd hb hne ⟨rfl, hy⟩
      have e0 : i = 0 := by
        have := (List.getElem?_eq_some_iff.mp hd).1
        have : i < 1 := this
        omega
      subst e0
      cases hy
      cases hd
      have s6 := s35.trans (hb.same hD6)
      exact ⟨Same.refl _, fun N hN => ⟨q, _, rfl, keepT s6 sq, rfl, _, _, rfl, _, _, rfl, rfl, rfl, _, rfl, hN _ _ (Same.refl _) (im_tup (keepT s6 sr) (ia_cons im_str (ia_cons im_str ia_nil)))⟩⟩
    intro H6 ys hb6 hl6 im
    obtain ⟨v6, vs6, rfl, im6, im7⟩ := im.cons_
    rw [im7.nil_] at hl6
    obtain ⟨r6, ws, rfl, sr6, im8⟩ := im6.tup_
    have e6 : ws = [V.str "no", V.str "yes"] := ImAll.strs (bs := ["no", "yes"]) im8
    subst e6
    have s6 := hb6.same hD6
    refine ⟨by show 0 ≤ sizeLine; decide, fun e he => ?_⟩
    have s7 := sn (o := .tup []) he
    refine ⟨D6, e, r6, _, rfl, SqL.of (s7 _ _ hl6), .inl (.inl upd_same), keepT s7 sr6, ?_⟩
    have s67 := s6.trans s7
    have s17 := s15.trans s67
    refine ⟨hv, kl, r6, d, rfl, gd, Im.mono (sk s17) _ _ hh, SqL.of (s67 _ _ klat), keepT s7 sr6, fun G8 s8 => ⟨_, rfl, iteF ?_⟩⟩
    have s18 := s17.trans s8
    -- the shape
    refine ⟨_, rfl, _, rfl, _, rfl, fun sx dxs hsx hdxs nes => ?_⟩
    have o1 : upd (upd G8 dxs (.own sx)) sx (.ins T.C_Shape dxs []) sx = some (.ins T.C_Shape dxs []) := upd_same
    have so : Same G8 (upd (upd G8 dxs (.own sx)) sx (.ins T.C_Shape dxs [])) := fun c u e => by
      rw [upd_ne (ne_of_none e hsx), upd_ne (ne_of_none e hdxs)]
      exact e
    generalize upd (upd G8 dxs (.own sx)) sx (.ins T.C_Shape dxs []) = G9 at o1 so
    have s19 := s18.trans so
    refine ⟨sx, dxs, _, _, hv, d, rfl, gd, o1, Im.mono (sk s19) _ _ hw, Im.mono (sk s19) _ _ hs, Im.mono (sk s19) _ _ hh, fun G10 b10 sh10 => ⟨rfl, ?_⟩⟩
    have s8a : Same G8 G10 := fun c u e => b10 _ _ (ne_of_none e hsx) (so _ _ e)
    have s1a := s18.trans s8a
    have xa := s1a _ _ hx
    refine ⟨_, rfl, x, _, dx, [], rfl, xa, T.cl_Door, T.n_Door_shape, (by decide), ?_⟩
    have nex : sx ≠ x := fun z => by
      rw [z, s18 _ _ hx] at hsx
      cases hsx
    have b11 : But x H (upd G10 x (.ins T.C_Door dx (putF "shape" (.ref sx) []))) := fun c o ne e => by rw [upd_ne ne]; exact s1a _ _ e
    have kp11 : Keep H (upd G10 x (.ins T.C_Door dx (putF "shape" (.ref sx) []))) := (sk s1a).trans (Keep.upd (notup_ins xa))
    have x11 : upd G10 x (.ins T.C_Door dx (putF "shape" (.ref sx) [])) x = some (.ins T.C_Door dx [("shape", .ref sx)]) := upd_same
    have sh11 : ShapeAt K T.C_Shape (upd G10 x (.ins T.C_Door dx (putF "shape" (.ref sx) []))) sx d := sh10.butI xa nex fun c o ne e => by rw [upd_ne ne]; exact e
    generalize upd G10 x (.ins T.C_Door dx (putF "shape" (.ref sx) [])) = G11 at b11 kp11 x11 sh11
    -- the laws
    obtain ⟨lp, lxs, rfl, slp, iml⟩ := (Im.mono kp11 _ _ hl).tup_
    have len : lxs.length = (if d.law = true then 1 else 0) := by
      have := iml.len
      rw [this]
      split <;> rfl
    have len1 : lxs.length ≤ 1 := by
      rw [len]
      split <;> decide
    refine ⟨_, rfl, _, _, _, rfl, .inr ⟨lp, _, rfl, slp, _, rfl, itf ?_ ?_⟩⟩
    · simp only [Bool.not_eq_false', Bool.and_eq_true, decide_eq_true_eq]
      omega
    refine ⟨_, rfl, lp, lxs, rfl, slp, ?_⟩
    refine for_it (walk_enumT (K := K) (c := lp) (ws := lxs)) (fun i σ G => Same G11 G ∧ ∃ b c, σ = [some (.ref x), some (.ref p), some (.ref a), some hv, some (.ref lp), some (.ref kl), b, c, none, none]) ⟨Same.refl _, none, none, rfl⟩ (fun i σ G _ z => keepT z.1 slp) ?_ ?_
    · rintro i y σ G G' hi ⟨sG, b, c, rfl⟩ ⟨T1, x1, y1, rfl, hT1, rfl, e1, e2⟩
      cases e1
      have e2 : lxs[i]? = some y1 := e2
      have i0 : i = 0 := by omega
      subst i0
      have isl : d.law = true := by
        cases hd : d.law with
        | true => rfl
        | false =>
          rw [hd] at len
          have : lxs.length = 0 := len
          omega
      have s12' := sG.trans (sn (o := .tup [.int ((0 : Nat) : Int), y1]) hT1)
      rw [if_pos isl] at iml
      obtain ⟨v0, r0, e0, im0, _⟩ := iml.cons_
      rw [e0] at e2
      cases e2
      refine ⟨T1, _, rfl, .inl (.inl upd_same), rfl, _, _, rfl, _, _, rfl, rfl, ?_⟩
      refine ⟨_, rfl, x, _, dx, _, _, rfl, s12' _ _ x11, T.cl_Door, T.n_Door_shape, rfl, _, rfl, sx, y1, d, rfl, gd, isl, sh11.mono s12', Im.mono (sk s12') _ _ im0, fun G13 s13 => ⟨_, rfl, iteF ⟨s12'.trans s13, _, _, rfl⟩⟩⟩
    · rintro σ G12 ⟨sG, b, c, rfl⟩
      have x12 := sG _ _ x11
      have k12 := kp11.trans (sk sG)
      -- the fields
      refine ⟨_, rfl, _, rfl, x, _, dx, _, rfl, x12, T.cl_Door, T.n_Door_words, (show 1 < 1000 by decide), ?_⟩
      refine ⟨_, rfl, _, rfl, x, _, dx, _, rfl, upd_same, T.cl_Door, T.n_Door_sealed, (show 2 < 1000 by decide), ?_⟩
      rw [upd_upd]
      refine ⟨_, rfl, _, rfl, x, _, dx, _, rfl, upd_same, T.cl_Door, T.n_Door_heads, (show 3 < 1000 by decide), ?_⟩
      rw [upd_upd]
      refine ⟨_, rfl, _, rfl, x, _, dx, _, rfl, upd_same, T.cl_Door, T.n_Door_laws, (show 4 < 1000 by decide), ?_⟩
      rw [upd_upd]
      refine ⟨by show 0 ≤ sizeLine; decide, fun m hm => ?_⟩
      have sm := sn (o := .lst []) hm
      have xm := sm _ _ (upd_same (H := G12) (a := x) (o := .ins T.C_Door dx (putF "laws" (.ref lp) (putF "heads" hv (putF "sealed" (.ref a) (putF "words" (.ref p) [("shape", .ref sx)]))))))
      refine ⟨_, rfl, x, _, dx, _, rfl, xm, T.cl_Door, T.n_Door_meeting, (show 5 < 1000 by decide), ?_⟩
      have bG : But x G12 (upd (upd (upd G12 x (.ins T.C_Door dx (putF "laws" (.ref lp) (putF "heads" hv (putF "sealed" (.ref a) (putF "words" (.ref p) [("shape", .ref sx)])))))) m (.lst [])) x (.ins T.C_Door dx (putF "meeting" (.ref m) (putF "laws" (.ref lp) (putF "heads" hv (putF "sealed" (.ref a) (putF "words" (.ref p) [("shape", .ref sx)])))))))  := fun c o ne e => by
        rw [upd_ne ne]
        exact sm _ _ (by rw [upd_ne ne]; exact e)
      have xf : (upd (upd (upd G12 x (.ins T.C_Door dx (putF "laws" (.ref lp) (putF "heads" hv (putF "sealed" (.ref a) (putF "words" (.ref p) [("shape", .ref sx)])))))) m (.lst [])) x (.ins T.C_Door dx (putF "meeting" (.ref m) (putF "laws" (.ref lp) (putF "heads" hv (putF "sealed" (.ref a) (putF "words" (.ref p) [("shape", .ref sx)]))))))) x = some (.ins T.C_Door dx [("shape", .ref sx), ("words", .ref p), ("sealed", .ref a), ("heads", hv), ("laws", .ref lp), ("meeting", .ref m)]) := upd_same
      generalize (upd (upd (upd G12 x (.ins T.C_Door dx (putF "laws" (.ref lp) (putF "heads" hv (putF "sealed" (.ref a) (putF "words" (.ref p) [("shape", .ref sx)])))))) m (.lst [])) x (.ins T.C_Door dx (putF "meeting" (.ref m) (putF "laws" (.ref lp) (putF "heads" hv (putF "sealed" (.ref a) (putF "words" (.ref p) [("shape", .ref sx)]))))))) = Gf at bG xf
      have kf := k12.trans (bG.keep (notup_ins x12))
      exact k Gf (fun c o ne e => bG _ _ ne (sG _ _ (b11 _ _ ne e))) ⟨dx, sx, _, _, hv, _, m, xf, gd, (sh11.mono sG).butI x12 nex bG, Im.mono kf _ _ hw, Im.mono kf _ _ hs, Im.mono kf _ _ hh, Im.mono kf _ _ hl⟩
end
end T82
/-! ### != of own instances that have an __eq__ alone -/
namespace T82
open PySem L2 PyProof.Rows
open PySem.Spec
/-- the class's != is object's, its == its own -/
structure OwnNe (K : PySem.W.Frag) (C f : Addr) : Prop where
  mro : PySem.W.mroIn K C (.type "object") = some true
  ne : PySem.W.findIn K (.ref C) "__ne__" = some (some (.builtin "object.__ne__"))
  eq : PySem.W.findIn K (.ref C) "__eq__" = some (some (.ref f))
  fn : PySem.W.isFn K (.ref f) = true
section
variable {M : Model} {prog : Program} {w : World} {A : Around} {E : Value → Shared → Prop} {s : Shared} {K : PySem.W.Frag} {x y C f : Addr} {ox : Obj} {od : Option Obj}
theorem bound_ne {as : List Value} {Q : Option Value → Shared → Prop} (X : K.In s.heap) (I : PySem.W.InstAt s.heap x ox C od) (O : OwnNe K C f) (h : wpAny M A (call (.builtin "object.__ne__") (.ref x :: as)) (fun v => Q (some v)) E s) :
    wpAny M A (callSpecialIfBound? (.ref x) "__ne__" as) Q E s := by
  simp only [callSpecialIfBound?, bindSpecialIfBound?]
  refine wpAny_holding (wpAny_bind (wpAny_bind (wpAny_bind (I.type.here ((PySem.W.looks_findIn X O.ne).here ?_)))))
  refine wpAny_bind (wpAny_askSetting (wpAny_ite ?_))
  have last : wpAny M A (call (.builtin "object.__ne__") ([.ref x] ++ as) >>= fun v => pure (some v)) Q E s := wpAny_bind (wpAny_mono h (fun _ _ q => wpAny_pure q) fun _ _ q => q)
  split
  · exact wpAny_bind (wpAny_of_eq (F.cmp_object.ne.bind _) (wpAny_pure (by exact last)))
  · exact wpAny_tryCatch (wpAny_bind (wpAny_of_eq (F.cmp_object.ne.bind _) (wpAny_pure (by exact last))))
theorem entry_ne {Q : Fin → Shared → Prop} (hu : A.units < cLine) (X : K.In s.heap) (I : PySem.W.InstAt s.heap x ox C od) (O : OwnNe K C f)
    (h : wpAny (model prog w) A (call (.ref f) [.ref x, .ref y]) (fun v z => ∃ c, v = .bool c ∧ Q (.done (.ret (.bool (!c)))) z) E s) : wpAny (model prog w) A (Builtin.«object.__ne__» ⟨[.ref x, .ref y], []⟩) Q E s := by
  unfold Builtin.«object.__ne__»
  repeat (first
    | with_reducible refine wpAny_cRoomFor hu ?_
    | (refine wpAny_bind (m := callSpecialIfBound? (.ref x) (Str.ofString "__eq__") [.ref y]) (PySem.W.ifBound_K X I O.eq O.fn (wpAny_mono h (fun r z hr => by
        obtain ⟨c, rfl, q⟩ := hr
        repeat (first | exact q | exact wpAny_pure q | exact wpAny_truthy_bool q | (refine wpAny_bind (m := truthy (.bool _)) (wpAny_truthy_bool ?_)) | wp_step)) fun _ _ q => q)))
    | wp_step)
theorem rich_ne {Q : Value → Shared → Prop} (hu : A.units + 1 < cLine) (X : K.In s.heap) (I : PySem.W.InstAt s.heap x ox C od) {oy : Obj} {od2 : Option Obj} (J : PySem.W.InstAt s.heap y oy C od2) (O : OwnNe K C f)
    (h : wpAny (model prog w) A.in1 (call (.ref f) [.ref x, .ref y]) (fun v z => ∃ c, v = .bool c ∧ Q (.bool (!c)) z) E s) : wpAny (model prog w) A (compareOp .NotEq (.ref x) (.ref y)) Q E s := by
  have one : wpAny (model prog w) A (tryCompare (.ref x) "__ne__" (.ref y)) (fun r z => ∃ v, r = some v ∧ Q v z) E s := by
    unfold tryCompare
    refine wpAny_bind (bound_ne X I O (wpAny_call (codeAny_call_builtin F.cmp_object.ne.plain F.cmpEntry_ne (PySem.W.check_slot F.cmpKind_ne F.cmpSplit_ne (I.type.andThen (PySem.W.looks_mroIn X O.mro)) (F.cmpArgs_ne _ _)
      (entry_ne (A := A.in1) (by rw [Around.in1_units]; omega) X I O (wpAny_mono h (fun v z hv => ?_) fun _ _ q => q))))))
    obtain ⟨c, rfl, q⟩ := hv
    exact ⟨c, rfl, wpAny_pure ⟨_, rfl, q⟩⟩
  unfold compareOp
  simp only [richCompare, cmpInfo_NotEq, oneThing_ref]
  refine wpAny_holding (wpAny_bind (wpAny_cRoomFor (by omega) ?_))
  refine wpAny_bind (I.type.here (wpAny_bind (J.type.here ?_)))
  rw [show (Value.ref C != Value.ref C) = false by simp]
  simp only [Bool.false_eq_true, if_false]
  refine wpAny_bind (wpAny_pure ?_)
  simp only [Bool.false_eq_true, if_false]
  refine wpAny_bind (wpAny_mono one (fun r z hr => ?_) fun _ _ q => q)
  obtain ⟨v, rfl, q⟩ := hr
  exact wpAny_pure q
end
/-- x != y of two instances of the class at C -/
def rNeI (C : Addr) (sp : Sp) (E : XK) : R2 := fun x y H Q => ∃ a b dx dy fs gs, x = .ref a ∧ y = .ref b ∧ H a = some (.ins C dx fs) ∧ H b = some (.ins C dy gs) ∧ sp [.ref a, .ref b] H (fun v H' => ∃ c, v = .bl c ∧ Q (.bl (!c)) H') E
theorem op_neI {X : Cx} {CX : CXT} {k : Nat} {C f : Addr} {fd : FuncData} {ps : List Str} {sp : Sp} {E : XK} (F : FnOk X.prog X.w X.K X.mg X.base CX k f fd ps sp) (O : OwnNe X.K C f) (hr : Room (k + 1) X.A) (hb : Binds X.K fd ps []) (hx : Passes CX X E) :
    OpR X (compareOp .NotEq) (rNeI C sp E) := by
  intro pins s σ H x y v u Q I rx ry h
  obtain ⟨a, b, dx, dy, fs, gs, rfl, rfl, ha, hb2, hsp⟩ := h
  cases rx
  cases ry
  obtain ⟨mA, J, _⟩ := ins_get I.hok ha
  obtain ⟨mB, J2, _⟩ := ins_get I.hok hb2
  obtain ⟨_, J, _⟩ := J.look
  obtain ⟨_, J2, _⟩ := J2.look
  have hu := hr.units
  have sb : Sub X (k + 1) X.A := ⟨hr, rfl⟩
  refine rich_ne (by omega) I.kIn J J2 O ?_
  have e0 : Env0 X.prog X.w X.K X.mg X.base X.A.in1 X.stack s H := by
    have e := I.env0
    exact ⟨by rw [sb.in1.fr]; exact e.frames, e.mod, e.bs, e.bsz, e.funs, e.frf, e.hok, e.bare⟩
  have len := F.len _ _ _ _ hsp
  have rel : Vals [V.ref a, V.ref b] [Value.ref a, Value.ref b] := .cons rfl (.cons rfl .nil)
  refine wpAny_call (codeAny_mono (F.run X.A.in1 X.stack s H ⟨[.ref a, .ref b], []⟩ [.ref a, .ref b] [.ref a, .ref b] _ E sb.in1.room e0 (by
    have := hb s [.ref a, .ref b] I.kIn (by simpa using len)
    simpa using this) rel hsp) fun r z hq => ?_)
  cases r with
  | error e => exact hx pins σ H s e z I hq
  | ok fl =>
    cases fl with
    | ret w =>
      obtain ⟨y2, H2, I2, ry2, c, rfl, q⟩ := I.after hq
      cases ry2
      exact ⟨c, rfl, .bl (!c), H2, I2, rfl, q⟩
    | next => exact False.elim hq
    | brk => exact False.elim hq
    | cont => exact False.elim hq
end T82
namespace T82
open PySem L2
/-- what the top has left, further -/
structure Ty {K : PySem.W.Frag} {mg : Str → Option Value} (T : Tx K mg) : Prop where
  onM : OwnNe K T.C_Machine T.f_Machine_eq
  onD : OwnNe K T.C_Door T.f_Door_eq
  icM : C8.InsC K T.C_Machine
  icD : C8.InsC K T.C_Door
theorem letter_small {c : Nat} (h : letter c = true) : c < 1114112 := by
  have m : c ∈ ("abcdefghijklmnopqrstuvwxyz" : Str).cps.toList := of_decide_eq_true h
  have all : ∀ x ∈ ("abcdefghijklmnopqrstuvwxyz" : Str).cps.toList, x < 1114112 := by decide +kernel
  exact all c m
theorem strOk_of_name {z : Str} (h : nameB z = true) : PyData.strOk z = true := by
  unfold nameB at h
  rw [Bool.and_eq_true] at h
  unfold PyData.strOk
  rw [← Array.all_toList, List.all_eq_true]
  intro c hc
  have := letter_small (List.all_eq_true.mp h.2 c hc)
  simpa using this
theorem canLay_map {α : Type} {f : α → PyData} : ∀ {as : List α}, (∀ a ∈ as, (f a).canLay0 = true) → PyData.canLayAll0 (as.map f) = true
  | [], _ => rfl
  | a :: as, h => by
    rw [List.map_cons, PyData.canLayAll0, h a List.mem_cons_self, canLay_map fun x hx => h x (List.mem_cons_of_mem _ hx)]
    rfl
theorem canLay_str {z : Str} (h : PyData.strOk z = true) : (PyData.str z).canLay0 = true := by
  rw [PyData.canLay0]
  exact h
theorem canLay_tup {ds : List PyData} (h : PyData.canLayAll0 ds = true) : (PyData.tuple ds).canLay0 = true := by
  rw [PyData.canLay0]
  exact h
theorem canLay_cons {d : PyData} {ds : List PyData} (h : d.canLay0 = true) (r : PyData.canLayAll0 ds = true) : PyData.canLayAll0 (d :: ds) = true := by
  rw [PyData.canLayAll0, h, r]
  rfl
theorem canLay_nil : PyData.canLayAll0 [] = true := by rw [PyData.canLayAll0]
theorem okIn {d : Dor} (gd : d.good) {k : Str} (h : k ∈ ("bit" : Str) :: d.sealed) : okName k := by
  rcases List.mem_cons.mp h with e | e
  · rw [e]
    exact okBit
  · exact gd.sealedN k e
theorem Dor.lay {d : Dor} (gd : d.good) : (PyData.tuple [wordsD, d.sealedD, d.headsD, d.lawsD]).canLay0 = true := by
  refine canLay_tup (canLay_cons (by decide +kernel) (canLay_cons (canLay_tup (canLay_map fun z hz => canLay_str (strOk_of_name (gd.sealedN z hz).1))) (canLay_cons (canLay_tup (canLay_map fun h hh => ?_)) (canLay_cons ?_ canLay_nil))))
  · have hk := gd.headsK h hh
    exact canLay_tup (canLay_cons (canLay_str (strOk_of_name (gd.headsN h hh).1.1)) (canLay_cons (canLay_tup (canLay_map fun z hz => canLay_str (strOk_of_name (okIn gd (hk z (List.mem_append_left _ hz))).1)))
      (canLay_cons (canLay_str (strOk_of_name (okIn gd (hk h.kind (List.mem_append_right _ List.mem_cons_self))).1)) canLay_nil)))
  · unfold Dor.lawsD
    split
    · decide +kernel
    · decide +kernel
theorem depth_strs : ∀ zs : List Str, PyData.depthAll (zs.map PyData.str) = 0 ∨ PyData.depthAll (zs.map PyData.str) = 1
  | [] => by simp [PyData.depthAll]
  | z :: zs => by
    have := depth_strs zs
    simp only [List.map_cons, PyData.depthAll, PyData.depth]
    omega
theorem depth_map {α : Type} {f : α → PyData} {n : Nat} : ∀ {as : List α}, (∀ a ∈ as, (f a).depth ≤ n) → PyData.depthAll (as.map f) ≤ n
  | [], _ => by simp [PyData.depthAll]
  | a :: as, h => by
    have h1 := h a List.mem_cons_self
    have h2 := depth_map (f := f) (n := n) (as := as) fun x hx => h x (List.mem_cons_of_mem _ hx)
    simp only [List.map_cons, PyData.depthAll]
    omega
theorem Dor.shaped {d : Dor} (gd : d.good) : SeqAt.shaped (PyData.tuple [wordsD, d.sealedD, d.headsD, d.lawsD]) = true := by
  unfold SeqAt.shaped
  rw [Dor.lay gd, Bool.true_and, decide_eq_true_eq]
  have h1 : wordsD.depth ≤ 3 := by decide +kernel
  have h2 : d.sealedD.depth ≤ 3 := by
    unfold Dor.sealedD
    have := depth_map (f := PyData.str) (n := 0) (as := d.sealed) fun x _ => by simp [PyData.depth]
    simp only [PyData.depth]
    omega
  have h3 : d.headsD.depth ≤ 3 := by
    unfold Dor.headsD
    have := depth_map (f := Hd.d) (n := 2) (as := d.heads) fun x _ => by
      have := depth_map (f := PyData.str) (n := 0) (as := x.kinds) fun x _ => by simp [PyData.depth]
      simp only [Hd.d, PyData.depth, PyData.depthAll]
      omega
    simp only [PyData.depth]
    omega
  have h4 : d.lawsD.depth ≤ 10 := by
    unfold Dor.lawsD
    split
    · decide +kernel
    · decide +kernel
  simp only [PyData.depth, PyData.depthAll]
  omega
section
variable {P : Program} {w : World} {K : PySem.W.Frag} {mg : Str → Option Value} {base : Heap}
/-! ### Door.__eq__: of one door with itself -/
abbrev nm_Door_eq : List Str := ["self", "other", "mine"]
theorem sc_Door_eq : FnScope nm_Door_eq ["self", "other"] (defScope s_Door_eq) := ⟨rfl, rfl, rfl, by decide +kernel, rfl, by decide +kernel, by decide +kernel⟩
def sp_Door_eq (K : PySem.W.Frag) (CS CD : Addr) : Sp := fun vs H Q _ => ∃ x d, vs = [.ref x, .ref x] ∧ DoorAt K CS CD H x d ∧ ∀ G, Same H G → Q (.bl true) G
theorem ok_Door_eq (T : Tx K mg) (Y : Ty T) : FnOk P w K mg base CX0 1 T.f_Door_eq T.d_Door_eq ["self", "other"] (sp_Door_eq K T.C_Shape T.C_Door) := by
  refine T.F_Door_eq.ok sc_Door_eq (fun vs H Q E h => ?_) (fun cdv A outer s H vs Q E hr h => ?_)
  · obtain ⟨x, d, rfl, _⟩ := h
    rfl
  · obtain ⟨x, d, rfl, dat, k⟩ := h
    refine ⟨_, (pss_cons (ps_if (pt_not (pt_val (pe_callB (C8.call_isC Y.icD) (by rfl) T.t_isinstance (by decide +kernel) (pa_cons (pv 1) (pa_cons (pe_glob rfl T.m_Door (show RelV (.ref T.C_Door) (.ref T.C_Door) from rfl)) pa_nil))))) (pss_one (ps_ret pe_bl)) pss_nil)
    (pss_cons (ps_set (i := 2) sc_Door_eq.nd rfl (.inl rfl) (pe_tup (pa_cons (eFld (K := K) rfl (pv 0) rfl) (pa_cons (eFld (K := K) rfl (pv 0) rfl) (pa_cons (eFld (K := K) rfl (pv 0) rfl) (pa_cons (eFld (K := K) rfl (pv 0) rfl) pa_nil))))))
    (pss_one (ps_ret (pe_cmpR (oEqD (K := K) rfl hr.units) (pv 2) (pe_tup (pa_cons (eFld (K := K) rfl (pv 1) rfl) (pa_cons (eFld (K := K) rfl (pv 1) rfl) (pa_cons (eFld (K := K) rfl (pv 1) rfl) (pa_cons (eFld (K := K) rfl (pv 1) rfl) pa_nil))))) (nomark _)))))), ?_⟩
    obtain ⟨dx, s', wv, sv, hv, lv, m, f⟩ := dat
    refine ⟨_, rfl, x, dx, _, rfl, f.at_, _, rfl, iteF ?_⟩
    refine ⟨_, rfl, x, _, dx, _, _, rfl, f.at_, T.cl_Door, T.n_Door_words, rfl, _, rfl, x, _, dx, _, _, rfl, f.at_, T.cl_Door, T.n_Door_sealed, rfl, _, rfl, x, _, dx, _, _, rfl, f.at_, T.cl_Door, T.n_Door_heads, rfl, _, rfl, x, _, dx, _, _, rfl, f.at_, T.cl_Door, T.n_Door_laws, rfl, by show 4 ≤ sizeLine; decide, fun t1 ht1 => ?_⟩
    have s1 := sn (o := .tup [wv, sv, hv, lv]) ht1
    have a1 : upd H t1 (.tup [wv, sv, hv, lv]) t1 = some (.tup [wv, sv, hv, lv]) := upd_same
    generalize upd H t1 (.tup [wv, sv, hv, lv]) = H1 at s1 a1
    have f1 := s1 _ _ f.at_
    refine ⟨_, rfl, _, rfl, x, _, dx, _, _, rfl, f1, T.cl_Door, T.n_Door_words, rfl, _, rfl, x, _, dx, _, _, rfl, f1, T.cl_Door, T.n_Door_sealed, rfl, _, rfl, x, _, dx, _, _, rfl, f1, T.cl_Door, T.n_Door_heads, rfl, _, rfl, x, _, dx, _, _, rfl, f1, T.cl_Door, T.n_Door_laws, rfl, by show 4 ≤ sizeLine; decide, fun t2 ht2 => ?_⟩
    have s2 := sn (o := .tup [wv, sv, hv, lv]) ht2
    have s12 := s1.trans s2
    have im : ImAll K (upd H1 t2 (.tup [wv, sv, hv, lv])) [wordsD, d.sealedD, d.headsD, d.lawsD] [wv, sv, hv, lv] := ImAll.mono (sk s12) _ _ (ia_cons f.words (ia_cons f.sealed (ia_cons f.heads (ia_cons f.laws ia_nil))))
    refine ⟨.tuple [wordsD, d.sealedD, d.headsD, d.lawsD], .tuple [wordsD, d.sealedD, d.headsD, d.lawsD], .tup (keepT s2 (.inl (.inl a1))) im.dp, .tup (.inl (.inl upd_same)) im.dp, Dor.shaped f.good, Dor.shaped f.good, ?_⟩
    rw [SeqAt.eqv_refl _ (Dor.lay f.good)]
    exact k _ s12
end
end T82
namespace T82
open PySem L2
/-! ### what the door tells of a name -/
def Told (d : Dor) (z : Str) (kinds : List Str) (kind : Str) : Prop := ((z = "no" ∨ z = "yes") ∧ kinds = [] ∧ kind = "bit") ∨ ∃ h ∈ d.heads, z = h.name ∧ kinds = h.kinds ∧ kind = h.kind
def NotTold (d : Dor) (z : Str) : Prop := z ≠ "no" ∧ z ≠ "yes" ∧ ∀ h ∈ d.heads, z ≠ h.name
/-! built terms -/
mutual
def WF (d : Dor) : Tm → Str → Prop
  | .w z, k => (z = "no" ∨ z = "yes") ∧ k = "bit"
  | .u _, _ => False
  | .c f as, k => ∃ h ∈ d.heads, f = h.name ∧ k = h.kind ∧ WFs d as h.kinds
def WFs (d : Dor) : List Tm → List Str → Prop
  | [], ks => ks = []
  | t :: ts, ks => ∃ k r, ks = k :: r ∧ WF d t k ∧ WFs d ts r
end
theorem WFs.len {d : Dor} : ∀ {as : List Tm} {ks : List Str}, WFs d as ks → as.length = ks.length
  | [], ks, h => by
    rw [WFs] at h
    rw [h]
    rfl
  | t :: ts, ks, h => by
    rw [WFs] at h
    obtain ⟨k, r, rfl, _, h2⟩ := h
    simp [WFs.len h2]
theorem WFs.get {d : Dor} : ∀ {as : List Tm} {ks : List Str} {i : Nat} {t : Tm}, WFs d as ks → as[i]? = some t → ∃ k, ks[i]? = some k ∧ WF d t k
  | [], ks, i, t, _, e => by simp at e
  | a :: as, ks, 0, t, h, e => by
    rw [WFs] at h
    obtain ⟨k, r, rfl, h1, _⟩ := h
    simp at e
    subst e
    exact ⟨k, rfl, h1⟩
  | a :: as, ks, i + 1, t, h, e => by
    rw [WFs] at h
    obtain ⟨k, r, rfl, _, h2⟩ := h
    simp at e
    obtain ⟨k', e1, e2⟩ := WFs.get h2 e
    exact ⟨k', by simpa using e1, e2⟩
theorem WF.kind {d : Dor} {t : Tm} {k : Str} (h : WF d t k) : KindOf d t k := by
  cases t with
  | w z =>
    rw [WF] at h
    exact .inl ⟨z, rfl, h.1, h.2⟩
  | u n => rw [WF] at h; exact h.elim
  | c f as =>
    rw [WF] at h
    obtain ⟨hh, m, rfl, rfl, _⟩ := h
    exact .inr ⟨hh, as, m, rfl, rfl⟩
theorem small_name {z : Str} (h : okName z) : z.length ≤ 100000 := h.2
theorem name_ne_q {z : Str} (h : nameB z = true) : z ≠ "?" := by
  rintro rfl
  revert h
  decide +kernel
mutual
theorem WF.ok {d : Dor} (gd : d.good) : ∀ (t : Tm) (k : Str), WF d t k → t.ok
  | .w z, k, h => by
    rw [WF] at h
    rw [Tm.ok]
    rcases h.1 with rfl | rfl <;> decide
  | .u n, k, h => by rw [WF] at h; exact h.elim
  | .c f as, k, h => by
    rw [WF] at h
    obtain ⟨hh, m, rfl, rfl, hw⟩ := h
    obtain ⟨⟨n1, n2⟩, _, _, n5⟩ := gd.headsN hh m
    rw [Tm.ok]
    have := hw.len
    exact ⟨name_ne_q n1, n2, by omega, WFs.oks gd as hh.kinds hw⟩
theorem WFs.oks {d : Dor} (gd : d.good) : ∀ (as : List Tm) (ks : List Str), WFs d as ks → Tm.oks as
  | [], _, _ => by rw [Tm.oks]; trivial
  | t :: ts, ks, h => by
    rw [WFs] at h
    obtain ⟨k, r, rfl, h1, h2⟩ := h
    rw [Tm.oks]
    exact ⟨WF.ok gd t k h1, WFs.oks gd ts r h2⟩
end
section
variable {P : Program} {w : World} {K : PySem.W.Frag} {mg : Str → Option Value} {base : Heap}
abbrev nm_shape_of_name : List Str := ["door", "name"]
theorem sc_shape_of_name : FnScope nm_shape_of_name ["door", "name"] (defScope s_shape_of_name) := ⟨rfl, rfl, rfl, by decide +kernel, rfl, by decide +kernel, by decide +kernel⟩
def sp_shape_of_name (K : PySem.W.Frag) (CS CD : Addr) : Sp := fun vs H Q _ => ∃ x z d, vs = [.ref x, .str z] ∧ DoorAt K CS CD H x d ∧
  ((∃ kinds kind, Told d z kinds kind ∧ ∀ G p a, Same H G → SqT K G p [.ref a, .str kind] → SqT K G a (kinds.map V.str) → Q (.ref p) G) ∨ (NotTold d z ∧ ∀ G, Same H G → Q .non G))
theorem ok_shape_of_name (T : Tx K mg) : FnOk P w K mg base CX0 1 T.f_shape_of_name T.d_shape_of_name ["door", "name"] (sp_shape_of_name K T.C_Shape T.C_Door) := by
  refine T.F_shape_of_name.ok sc_shape_of_name (fun vs H Q E h => ?_) (fun cdv A outer s H vs Q E hr h => ?_)
  · obtain ⟨x, z, d, rfl, _⟩ := h
    rfl
  · obtain ⟨x, z, d, rfl, dat, hh⟩ := h
    refine ⟨_, (pss_cons (ps_if (pt_cmp (pc_din (hu_of hr) (pv 1) (eFld (K := K) rfl (eFld (K := K) rfl (pv 0) rfl) rfl))) (pss_one (ps_ret (pe_tup (pa_cons (pe_tup pa_nil) (pa_cons (pe_dget (hu_of hr) (eFld (K := K) rfl (eFld (K := K) rfl (pv 0) rfl) rfl) (pv 1) (fun _ _ => rfl)) pa_nil))))) pss_nil)
    (pss_one (ps_ret (pe_dget2 (hu_of hr) (eFld (K := K) rfl (eFld (K := K) rfl (pv 0) rfl) rfl) (pv 1) pe_non ⟨rfl, rfl, rfl, rfl⟩)))), ?_⟩
    obtain ⟨dx, s', wv, sv, hv, lv, m, f⟩ := dat
    have gd := f.good
    obtain ⟨dx', v', a1, a2, a3, a4, k1, k2, k3, k4, f0, f1, f2, f3, f4, f5, f6, f7, f8, f9⟩ := id f.shape
    refine ⟨_, rfl, _, rfl, x, _, dx, _, _, rfl, f.at_, T.cl_Door, T.n_Door_shape, rfl, s', _, dx', _, _, rfl, f0, T.cl_Shape, T.n_Shape_word_kinds, rfl, a1, _, rfl, DGet.k (k := Sum.inr z) f2, ?_⟩
    have g1 := DkIm.get z f3
    have g2 := DkIm.get z f7
    rcases hh with ⟨kinds, kind, told, k⟩ | ⟨⟨n1, n2, n3⟩, k⟩
    · rcases told with ⟨hz, rfl, rfl⟩ | ⟨h0, mem, rfl, rfl, rfl⟩
      · have e : wordKindsE.lookup z = some (.str "bit") := by rcases hz with rfl | rfl <;> rfl
        rw [e] at g1
        obtain ⟨vv, e1, e2⟩ := g1
        rw [e2.str_] at e1
        rw [e1]
        refine ⟨_, rfl, iteT ?_⟩
        refine ⟨by show 0 ≤ sizeLine; decide, fun q hq => ?_⟩
        have s1 := sn (o := .tup []) hq
        have q1 : upd H q (.tup []) q = some (.tup []) := upd_same
        generalize upd H q (.tup []) = H1 at s1 q1
        refine ⟨_, rfl, x, _, dx, _, _, rfl, s1 _ _ f.at_, T.cl_Door, T.n_Door_shape, rfl, s', _, dx', _, _, rfl, s1 _ _ f0, T.cl_Shape, T.n_Shape_word_kinds, rfl, _, rfl, a1, _, rfl, dget_k (s1 _ _ f2) e1, by show 2 ≤ sizeLine; decide, fun p hp => ?_⟩
        exact k _ p q (s1.trans (sn hp)) (.inl (.inl upd_same)) (keepT (sn hp) (.inl (.inl q1)))
      · obtain ⟨_, n3, n4, _⟩ := gd.headsN h0 mem
        have e : wordKindsE.lookup h0.name = none := by
          rw [List.lookup_eq_none_iff]
          intro p hp
          rw [bne_iff_ne]
          rintro q
          simp only [wordKindsE, List.mem_cons, List.not_mem_nil, or_false] at hp
          rcases hp with rfl | rfl
          · exact n3 q
          · exact n4 q
        rw [e] at g1
        rw [Dor.heads_lookup gd mem] at g2
        obtain ⟨vv, e1, e2⟩ := g2
        obtain ⟨p, a, rfl, q1, q2⟩ := hv_at e2
        rw [g1]
        refine ⟨_, rfl, iteF ?_⟩
        refine ⟨_, rfl, x, _, dx, _, _, rfl, f.at_, T.cl_Door, T.n_Door_shape, rfl, s', _, dx', _, _, rfl, f0, T.cl_Shape, T.n_Shape_heads, rfl, a3, rfl, .inl ⟨_, .inl f6⟩, _, rfl, _, DGet.k (k := Sum.inr h0.name) f6, ?_⟩
        rw [e1]
        exact k _ p a (Same.refl _) q1 q2
    · have e : wordKindsE.lookup z = none := by
        rw [List.lookup_eq_none_iff]
        intro p hp
        rw [bne_iff_ne]
        rintro q
        simp only [wordKindsE, List.mem_cons, List.not_mem_nil, or_false] at hp
        rcases hp with rfl | rfl
        · exact n1 q
        · exact n2 q
      have e' : d.headsE.lookup z = none := by
        rw [List.lookup_eq_none_iff]
        intro p hp
        rw [bne_iff_ne]
        rintro q
        obtain ⟨h0, m0, rfl⟩ := List.mem_map.mp hp
        exact n3 h0 m0 q
      rw [e] at g1
      rw [e'] at g2
      rw [g1]
      refine ⟨_, rfl, iteF ?_⟩
      refine ⟨_, rfl, x, _, dx, _, _, rfl, f.at_, T.cl_Door, T.n_Door_shape, rfl, s', _, dx', _, _, rfl, f0, T.cl_Shape, T.n_Shape_heads, rfl, a3, rfl, .inl ⟨_, .inl f6⟩, _, rfl, _, DGet.k (k := Sum.inr z) f6, ?_⟩
      rw [g2]
      exact k _ (Same.refl _)
/-! ### is_built: of built terms -/
abbrev nm_is_built : List Str := ["door", "thing", "nested", "kinds", "part", "kind"]
theorem sc_is_built : FnScope nm_is_built ["door", "thing", "nested"] (defScope s_is_built) := ⟨rfl, rfl, rfl, by decide +kernel, rfl, by decide +kernel, by decide +kernel⟩
def sp_is_built (K : PySem.W.Frag) (CS CD : Addr) (n : Nat) : Sp := fun vs H Q _ => ∃ (x : Addr) (v : V) (d : Dor) (t : Tm) (k : Str) (m : Nat), vs = [.ref x, v, .int m] ∧ DoorAt K CS CD H x d ∧ Im K H (Tm.d t) v ∧ WF d t k ∧ t.depth ≤ n ∧ n ≤ m ∧ ∀ G, Same H G → Q (.bl true) G
theorem ok_is_built (T : Tx K mg) : ∀ n, FnOk P w K mg base CX0 (n + 4) T.f_is_built T.d_is_built ["door", "thing", "nested"] (sp_is_built K T.C_Shape T.C_Door n)
  | 0 => T.F_is_built.ok sc_is_built (fun vs H Q E h => by
      obtain ⟨x, v, d, t, k, m, rfl, _⟩ := h
      rfl) (fun cdv A outer s H vs Q E hr h => by
      obtain ⟨x, v, d, t, k, m, rfl, _, _, _, hd, _⟩ := h
      have := t.depth_pos
      omega)
  | n + 1 => by
    have ih := ok_is_built T n
    refine T.F_is_built.ok sc_is_built (fun vs H Q E h => ?_) (fun cdv A outer s H vs Q E hr h => ?_)
    · obtain ⟨x, v, d, t, k, m, rfl, _⟩ := h
      rfl
    · obtain ⟨x, v, d, t, kd, m, rfl, dat, ht, wf, hd, hm, k⟩ := h
      refine ⟨_, (pss_cons (ps_if (pt_val (pe_callB (cIsi (K := K) rfl) (by rfl) T.t_isinstance (by decide +kernel) (pa_cons (pv 1) (pa_cons (pe_bltn (by rfl) T.t_str (by decide +kernel) (show RelV (.ty "str") (.type "str") from rfl)) pa_nil)))) (pss_one (ps_ret (pe_cmp (pc_din (hu_of hr) (pv 1) (eFld (K := K) rfl (eFld (K := K) rfl (pv 0) rfl) rfl))))) pss_nil)
    (pss_cons (ps_if (PW.pt (pw_or (pt_cmpR op_eq (pv 2) pe_int (nomark _)) (pw_or (pt_not (pt_val (pe_callB (cIsi (K := K) rfl) (by rfl) T.t_isinstance (by decide +kernel) (pa_cons (pv 1) (pa_cons (pe_bltn (by rfl) T.t_tuple (by decide +kernel) (show RelV (.ty "tuple") (.type "tuple") from rfl)) pa_nil))))) (pw_or (pt_cmpR op_eq (pe_callB (cLen (K := K) rfl) (by rfl) T.t_len (by decide +kernel) (pa_cons (pv 1) pa_nil)) pe_int (nomark _)) (pw_or1 (pt_val (pe_call (ok_is_unknown T) (hr.mono (by omega)) (by rfl) T.m_is_unknown T.F_is_unknown.kp T.b_is_unknown .nil pass0 (pa_cons (pv 1) pa_nil)))))))) (pss_one (ps_ret pe_bl)) pss_nil)
    (pss_cons (ps_if (PW.pt (pw_or (pt_not (pt_val (pe_callB (cIsi (K := K) rfl) (by rfl) T.t_isinstance (by decide +kernel) (pa_cons (pe_ix (iT (K := K) rfl) (pv 1) pe_int (fun _ _ => rfl)) (pa_cons (pe_bltn (by rfl) T.t_str (by decide +kernel) (show RelV (.ty "str") (.type "str") from rfl)) pa_nil))))) (pw_or1 (pt_cmp (pc_dnotin (hu_of hr) (pe_ix (iT (K := K) rfl) (pv 1) pe_int (fun _ _ => rfl)) (eFld (K := K) rfl (eFld (K := K) rfl (pv 0) rfl) rfl)))))) (pss_one (ps_ret pe_bl)) pss_nil)
    (pss_cons (ps_set (i := 3) sc_is_built.nd rfl (.inl rfl) (pe_ix (iT (K := K) rfl) (pe_dget (hu_of hr) (eFld (K := K) rfl (eFld (K := K) rfl (pv 0) rfl) rfl) (pe_ix (iT (K := K) rfl) (pv 1) pe_int (fun _ _ => rfl)) (fun _ _ => rfl)) pe_int (fun _ _ => rfl)))
    (pss_cons (ps_if (PW.pt (pw_or (pt_cmpR op_ne (pe_callB (cLen (K := K) rfl) (by rfl) T.t_len (by decide +kernel) (pa_cons (pv 3) pa_nil)) (pe_op op_sub (pe_callB (cLen (K := K) rfl) (by rfl) T.t_len (by decide +kernel) (pa_cons (pv 1) pa_nil)) pe_int) (nomark _)) (pw_or1 (pt_not (pt_val (pe_callB (cAll (K := K) rfl rfl) (by rfl) T.t_all (by decide +kernel) (pa_cons (pe_lc (own := [("part", 4)]) (g := gName 4) (tt := tYes) rfl sc_is_built.nd (wT (K := K) rfl (pe_slice (sU (K := K) rfl) (pv 1) (po_some pe_int) po_none)) (blkOk_by (N := nm_is_built) (sc := defScope s_is_built) (by decide +kernel)) (fun _ _ _ _ _ => (pg_name (i := 4) sc_is_built.nd rfl (Or.inl rfl))) (fun _ _ _ _ _ => pts_nil) (fun _ _ _ _ _ => (pe_call ih hr (by rfl) T.m_is_built T.F_is_built.kp T.b_is_built .nil pass0 (pa_cons (pv 0) (pa_cons (pv 4) (pa_cons (pe_op op_sub (pv 2) pe_int) pa_nil)))))) pa_nil))))))) (pss_one (ps_ret pe_bl)) pss_nil)
    (pss_one (ps_ret (pe_callB (cAll (K := K) rfl rfl) (by rfl) T.t_all (by decide +kernel) (pa_cons (pe_lc (own := [("part", 4), ("kind", 5)]) (g := gTup K 2 (gCons (gName 4) (gCons (gName 5) gNil))) (tt := tYes) rfl sc_is_built.nd (wZ (K := K) rfl (by rfl) T.t_zip (pa_cons (pe_slice (sU (K := K) rfl) (pv 1) (po_some pe_int) po_none) (pa_cons (pv 3) pa_nil))) (blkOk_by (N := nm_is_built) (sc := defScope s_is_built) (by decide +kernel)) (fun _ _ _ _ _ => (pg_tup rfl (pgs_cons (pg_name (i := 4) sc_is_built.nd rfl (Or.inl rfl)) (pgs_cons (pg_name (i := 5) sc_is_built.nd rfl (Or.inl rfl)) pgs_nil)))) (fun _ _ _ _ _ => pts_nil) (fun _ _ _ _ _ => (pe_cmpR op_eq (pe_meth (eFld (K := K) rfl (pv 0) rfl) T.cl_Shape T.M_Shape_kind_of (ok_Shape_kind_of T) (hr.mono (by omega)) T.b_Shape_kind_of .nil pass0 (pa_cons (pv 4) pa_nil)) (pv 5) (nomark _)))) pa_nil))))))))), ?_⟩
      obtain ⟨dx, s', wv, sv, hv, lv, mm, f⟩ := id dat
      have gd := f.good
      obtain ⟨dx', v', a1, a2, a3, a4, k1, k2, k3, k4, f0, f1, f2, f3, f4, f5, f6, f7, f8, f9⟩ := id f.shape
      cases t with
      | u _ => rw [WF] at wf; exact wf.elim
      | w z =>
        rw [WF] at wf
        rw [Tm.w_at ht]
        have e : wordKindsE.lookup z = some (.str "bit") := by rcases wf.1 with rfl | rfl <;> rfl
        have g1 := DkIm.get z f3
        rw [e] at g1
        obtain ⟨vv, e1, e2⟩ := g1
        refine ⟨_, rfl, _, _, _, _, true, rfl, .ty _, .base (.str z), kit_ty (by decide +kernel), _, rfl, iteT ?_⟩
        refine ⟨_, rfl, _, rfl, x, _, dx, _, _, rfl, f.at_, T.cl_Door, T.n_Door_shape, rfl, s', _, dx', _, _, rfl, f0, T.cl_Shape, T.n_Shape_word_kinds, rfl, a1, _, rfl, DGet.k (k := Sum.inr z) f2, ?_⟩
        rw [e1]
        exact k _ (Same.refl _)
      | c g as =>
        have okt := WF.ok gd _ _ wf
        rw [WF] at wf
        obtain ⟨h0, mem, rfl, rfl, wfs⟩ := wf
        obtain ⟨p, xs, rfl, sq, r⟩ := Tm.c_at ht
        have lx : xs.length = h0.kinds.length := by
          have := r.len
          simp at this
          rw [this]
          exact wfs.len
        have l3 := (gd.headsN h0 mem).2.2.2
        rw [Tm.depth] at hd
        obtain ⟨_, _, b1, b2, b3, b4, q3, hp, ka, e0, e1, e2, e3, e4⟩ := f.shape.head gd mem
        refine ⟨_, rfl, _, _, _, _, false, rfl, .ty _, tyT sq, kit_ty (by decide +kernel), _, rfl, iteF ?_⟩
        have nm : (decide (V.int (m : Int) = V.int 0)) = false := decide_eq_false (by
          intro z
          have z := V.int.inj z
          omega)
        refine ⟨_, rfl, rfl, _, rfl, itf nm ?_⟩
        refine ⟨_, rfl, _, _, _, _, true, rfl, .ty _, tyT sq, kit_ty (by decide +kernel), _, rfl, iteF ?_⟩
        refine ⟨_, rfl, p, _, rfl, .inr sq, rfl, _, rfl, itf (decide_eq_false (by
          intro z
          cases z)) ?_⟩
        refine ⟨_, rfl, _, _, rfl, ht, okt, _, rfl, iteF ?_⟩
        refine ⟨_, rfl, p, _, 0, _, rfl, rfl, sq, at0, _, _, _, _, true, rfl, .ty _, .base (.str _), kit_ty (by decide +kernel), _, rfl, iteF ?_⟩
        refine ⟨_, rfl, p, _, 0, _, rfl, rfl, sq, at0, _, rfl, x, _, dx, _, _, rfl, f.at_, T.cl_Door, T.n_Door_shape, rfl, s', _, _, _, _, rfl, e0, T.cl_Shape, T.n_Shape_heads, rfl, b3, _, rfl, DGet.k (k := Sum.inr h0.name) e1, ?_⟩
        rw [e2]
        refine ⟨_, rfl, iteF ?_⟩
        refine ⟨_, rfl, x, _, dx, _, _, rfl, f.at_, T.cl_Door, T.n_Door_shape, rfl, s', _, _, _, _, rfl, e0, T.cl_Shape, T.n_Shape_heads, rfl, _, rfl, p, _, 0, _, rfl, rfl, sq, at0, b3, _, rfl, dget_k e1 e2, hp, _, 0, _, rfl, rfl, e3, at0, ?_⟩
        refine ⟨_, rfl, ka, _, rfl, .inr e4, _, rfl, p, _, rfl, .inr sq, _, _, rfl, rfl, rfl, _, rfl, itf ?_ ?_⟩
        · simp only [List.length_map, List.length_cons, Bool.not_eq_false', decide_eq_true_eq]
          congr 1
          omega
        refine ⟨_, rfl, _, rfl, p, _, rfl, sq, fun t1 H1 s1 st1 => ?_⟩
        rw [cut1] at st1
        have r1 := ImAll.mono (sk s1) _ _ r
        refine ⟨t1, rfl, ⟨_, st1⟩, fun D hD => lc_true (K := K) (walk_tup (K := K) (a := t1) (xs := xs)) hD (by omega) (fun H2 hb => keepT (hb.same hD) st1) ?_ ?_⟩
        · rintro i y H0 H2 hi hb hne ⟨rfl, hy⟩
          have s2 := hb.same hD
          cases ea : as[i]? with
          | none =>
            have := r1.len
            simp at this
            rw [List.getElem?_eq_none_iff] at ea
            omega
          | some t2 =>
            obtain ⟨k2, ek2, wf2⟩ := wfs.get ea
            obtain ⟨y', e5, im5⟩ := r1.get (i := i) (d := t2.d) (by rw [List.getElem?_map, ea]; rfl)
            rw [hy] at e5
            cases e5
            have dd := Tm.depths_mem t2 (List.mem_of_getElem? ea)
            refine ⟨Same.refl _, fun N hN => ⟨rfl, _, rfl, _, rfl, _, rfl, _, _, rfl, rfl, x, y, d, t2, k2, m - 1, ?_, dat.mono (s1.trans s2), Im.mono (sk s2) _ _ im5, wf2, by omega, by omega, fun G sG => hN G sG⟩⟩
            show [V.ref x, y, V.int ((m : Int) - 1)] = [V.ref x, y, V.int ((m - 1 : Nat) : Int)]
            rw [show ((m - 1 : Nat) : Int) = (m : Int) - 1 by omega]
        · intro H2 bs s2 hl2 ha2
          refine ⟨D, bs, rfl, hl2, ?_⟩
          rw [ha2]
          refine ⟨_, rfl, iteF ?_⟩
          have s12 := s1.trans s2
          refine ⟨_, rfl, _, rfl, p, _, rfl, keepT s12 sq, fun t3 H3 s3 st3 => ?_⟩
          rw [cut1] at st3
          have s13 := s12.trans s3
          have r3 := ImAll.mono (sk s13) _ _ r
          have sk3 := keepT s13 e4
          have wz : Walk (RZ.ItzT K t3 ka) xs.length (fun H => SqT K H t3 xs ∧ SqT K H ka (h0.kinds.map V.str)) (YPair (fun i => xs[i]?) (fun i => (h0.kinds.map V.str)[i]?)) := by
            refine ⟨fun i G hi z => ?_, fun G z => ⟨_, _, z.1, z.2, .inl (Nat.le_refl _)⟩, fun i G v G' hi z yl => ?_⟩
            · exact ⟨xs, _, xs[i], (h0.kinds.map V.str)[i]'(by rw [List.length_map]; omega), z.1, z.2, by simp [hi], by simp [show i < h0.kinds.length by omega]⟩
            · obtain ⟨T1, x1, y1, h1, h2, h3, h4, h5⟩ := yl
              exact ⟨T1, x1, y1, h1, h2, h3, h4 _ z.1, h5 _ z.2⟩
          refine ⟨_, rfl, t3, ka, _, _, rfl, .inr ⟨st3, sk3, fun D2 hD2 => lc_true (K := K) wz hD2 (by omega) (fun H4 hb => ⟨keepT (hb.same hD2) st3, keepT (hb.same hD2) sk3⟩) ?_ ?_⟩⟩
          · rintro i y H4 H5 hi hb hne ⟨T1, x1, y1, rfl, hT1, rfl, h4, h5⟩
            have h4 : xs[i]? = some x1 := h4
            have h5 : (h0.kinds.map V.str)[i]? = some y1 := h5
            cases ea : as[i]? with
            | none =>
              have := r3.len
              simp at this
              rw [List.getElem?_eq_none_iff] at ea
              omega
            | some t2 =>
              obtain ⟨k2, ek2, wf2⟩ := wfs.get ea
              obtain ⟨y', e5, im5⟩ := r3.get (i := i) (d := t2.d) (by rw [List.getElem?_map, ea]; rfl)
              rw [h4] at e5
              cases e5
              rw [List.getElem?_map, ek2] at h5
              cases h5
              have s4 := hb.same hD2
              have s5 := sn (o := .tup [x1, .str k2]) hT1
              have s45 := s4.trans s5
              have datG := dat.mono (s13.trans s45)
              obtain ⟨dxG, sG, wvG, svG, hvG, lvG, mmG, fG⟩ := datG
              obtain ⟨dxS, _, _, _, _, _, _, _, _, _, fS, _⟩ := id fG.shape
              refine ⟨s5, fun N hN => ⟨T1, _, rfl, .inl (.inl upd_same), rfl, _, _, rfl, _, _, rfl, rfl, rfl, ?_⟩⟩
              refine ⟨_, rfl, x, _, dxG, _, _, rfl, fG.at_, T.cl_Door, T.n_Door_shape, rfl, sG, dxS, _, rfl, fS, rfl, _, rfl, sG, x1, d, t2, k2, rfl, gd, fG.shape, Im.mono (sk s45) _ _ im5, WF.ok gd _ _ wf2, wf2.kind, _, rfl, rfl, ?_⟩
              rw [decide_eq_true (rfl : V.str k2 = V.str k2)]
              exact hN _ (Same.refl _)
          · intro H4 bs4 s4 hl4 ha4
            refine ⟨D2, bs4, rfl, hl4, ?_⟩
            rw [ha4]
            exact k _ (s13.trans s4)
/-! ### check_built -/
abbrev nm_check_built : List Str := ["door", "thing"]
theorem sc_check_built : FnScope nm_check_built ["door", "thing"] (defScope s_check_built) := ⟨rfl, rfl, rfl, by decide +kernel, rfl, by decide +kernel, by decide +kernel⟩
def sp_check_built (K : PySem.W.Frag) (CS CD : Addr) : Sp := fun vs H Q _ => ∃ x v d t k, vs = [.ref x, v] ∧ DoorAt K CS CD H x d ∧ Im K H (Tm.d t) v ∧ WF d t k ∧ t.depth ≤ 8 ∧ ∀ G, Same H G → Q .non G
theorem ok_check_built (T : Tx K mg) : FnOk P w K mg base CX0 13 T.f_check_built T.d_check_built ["door", "thing"] (sp_check_built K T.C_Shape T.C_Door) := by
  refine T.F_check_built.ok sc_check_built (fun vs H Q E h => ?_) (fun cdv A outer s H vs Q E hr h => ?_)
  · obtain ⟨x, v, d, t, k, rfl, _⟩ := h
    rfl
  · obtain ⟨x, v, d, t, kd, rfl, dat, ht, wf, hd, k⟩ := h
    refine ⟨_, (pss_one (ps_if (pt_not (pt_val (pe_call (ok_is_built T 8) (hr.mono (by decide)) (by rfl) T.m_is_built T.F_is_built.kp T.b_is_built .nil pass0 (pa_cons (pv 0) (pa_cons (pv 1) (pa_cons (pe_glob rfl T.c_MOST_PARTS rI) pa_nil)))))) (pss_one ps_never) pss_nil)), ?_⟩
    exact ⟨_, rfl, _, rfl, x, v, d, t, kd, 60, rfl, dat, ht, wf, hd, by decide, fun G s1 => ⟨_, rfl, iteF (k G s1)⟩⟩
end
end T82
namespace T82
open PySem L2
/-! ### machines -/
structure Rl where
  name : Str
  args : List Int
  goal : Int
  deriving DecidableEq
def Rl.kd (r : Rl) : PyData := .tuple (.str r.name :: r.args.map PyData.int)
def Rl.d (r : Rl) : PyData := .tuple [r.kd, .int r.goal]
def keyOf (f : Str) (as : List Int) : NestedKey := .tup (.text f :: as.map NestedKey.num)
def Rl.key (r : Rl) : NestedKey := keyOf r.name r.args
def leadsE (rs : List Rl) : List (NestedKey × V) := rs.map fun r => (r.key, .int r.goal)
theorem datas_nums : ∀ as : List Int, NestedKey.datas (as.map NestedKey.num) = as.map PyData.int
  | [] => rfl
  | a :: as => by rw [List.map_cons, NestedKey.datas, datas_nums as, NestedKey.data]; rfl
theorem keyOf_data (f : Str) (as : List Int) : (keyOf f as).data = .tuple (.str f :: as.map PyData.int) := by
  unfold keyOf
  rw [NestedKey.data, NestedKey.datas, datas_nums, NestedKey.data]
theorem depth_nums : ∀ as : List Int, NestedKey.depthAll (as.map NestedKey.num) = 0
  | [] => rfl
  | a :: as => by rw [List.map_cons, NestedKey.depthAll, depth_nums as, NestedKey.depth]; rfl
theorem keyOf_depth (f : Str) (as : List Int) : (keyOf f as).depth ≤ 8 := by
  unfold keyOf
  rw [NestedKey.depth, NestedKey.depthAll, depth_nums, NestedKey.depth]
  decide
theorem nums_inj : ∀ {as bs : List Int}, as.map NestedKey.num = bs.map NestedKey.num → as = bs
  | [], [], _ => rfl
  | [], b :: bs, h => by cases h
  | a :: as, [], h => by cases h
  | a :: as, b :: bs, h => by
    rw [List.map_cons, List.map_cons] at h
    injection h with h1 h2
    injection h1 with h1
    rw [h1, nums_inj h2]
theorem keyOf_inj {f g : Str} {as bs : List Int} (h : keyOf f as = keyOf g bs) : f = g ∧ as = bs := by
  unfold keyOf at h
  injection h with h
  injection h with h1 h2
  injection h1 with h1
  exact ⟨h1, nums_inj h2⟩
/-- where the rules lead -/
def ldOf : List Rl → Str → List Int → Option Int
  | [], _, _ => none
  | r :: rs, f, as => if r.name = f ∧ r.args = as then some r.goal else ldOf rs f as
def optV : Option Int → V
  | none => .non
  | some i => .int i
def optD : Option Int → PyData
  | none => .none
  | some i => .int i
theorem valV_leads (f : Str) (as : List Int) : ∀ rs : List Rl, valV (leadsE rs) (keyOf f as) = (ldOf rs f as).map V.int
  | [] => rfl
  | r :: rs => by
    have ih := valV_leads f as rs
    unfold leadsE at ih ⊢
    rw [List.map_cons, ldOf]
    by_cases e : r.name = f ∧ r.args = as
    · rw [if_pos e]
      refine valV_pos (p := (r.key, V.int r.goal)) ?_
      show keyOf r.name r.args = _
      rw [e.1, e.2]
    · rw [if_neg e, valV_neg (p := (r.key, V.int r.goal)) (fun z => e (keyOf_inj z))]
      exact ih
theorem leads_getD (f : Str) (as : List Int) (rs : List Rl) : (valV (leadsE rs) (keyOf f as)).getD .non = optV (ldOf rs f as) := by
  rw [valV_leads]
  cases ldOf rs f as <;> rfl
mutual
def stOf (rs : List Rl) : Tm → Option Int
  | .w z => ldOf rs z []
  | .u _ => none
  | .c f as => (stOfs rs as).bind fun is => ldOf rs f is
def stOfs (rs : List Rl) : List Tm → Option (List Int)
  | [] => some []
  | t :: ts => (stOf rs t).bind fun a => (stOfs rs ts).map fun r => a :: r
end
theorem stOfs_none (rs : List Rl) : ∀ as : List Tm, inV .non (as.map fun t => optV (stOf rs t)) = (stOfs rs as).isNone
  | [] => by rw [stOfs]; rfl
  | t :: ts => by
    have ih := stOfs_none rs ts
    unfold inV at ih ⊢
    rw [List.map_cons, List.any_cons, ih, stOfs]
    cases h : stOf rs t with
    | none => rfl
    | some a =>
      cases h2 : stOfs rs ts with
      | none => rfl
      | some r => rfl
theorem stOfs_some (rs : List Rl) : ∀ {as : List Tm} {is : List Int}, stOfs rs as = some is → (as.map fun t => optV (stOf rs t)) = is.map V.int
  | [], is, h => by
    rw [stOfs] at h
    cases h
    rfl
  | t :: ts, is, h => by
    rw [stOfs] at h
    cases h1 : stOf rs t with
    | none => rw [h1] at h; cases h
    | some a =>
      rw [h1] at h
      cases h2 : stOfs rs ts with
      | none => rw [h2] at h; cases h
      | some r =>
        rw [h2] at h
        cases h
        rw [List.map_cons, stOfs_some rs h2, h1]
        rfl
theorem flat_optV : ∀ os : List (Option Int), (os.map optV).all flatV = true
  | [] => rfl
  | none :: os => by rw [List.map_cons, List.all_cons, flat_optV os]; rfl
  | some i :: os => by rw [List.map_cons, List.all_cons, flat_optV os]; rfl
/-! terms without unknowns -/
mutual
def Tm.noU : Tm → Prop
  | .w _ => True
  | .u _ => False
  | .c _ as => Tm.noUs as
def Tm.noUs : List Tm → Prop
  | [] => True
  | t :: ts => Tm.noU t ∧ Tm.noUs ts
end
theorem Tm.noUs_mem : ∀ {as : List Tm}, Tm.noUs as → ∀ t ∈ as, t.noU
  | [], _, _, h => by cases h
  | t :: ts, h, x, hx => by
    rw [Tm.noUs] at h
    rcases List.mem_cons.mp hx with rfl | hx
    · exact h.1
    · exact Tm.noUs_mem h.2 x hx
mutual
theorem WF.noU {d : Dor} : ∀ (t : Tm) (k : Str), WF d t k → t.noU
  | .w z, k, h => by rw [Tm.noU]; trivial
  | .u n, k, h => by rw [WF] at h; exact h.elim
  | .c f as, k, h => by
    rw [WF] at h
    obtain ⟨hh, m, rfl, rfl, hw⟩ := h
    rw [Tm.noU]
    exact WFs.noUs as hh.kinds hw
theorem WFs.noUs {d : Dor} : ∀ (as : List Tm) (ks : List Str), WFs d as ks → Tm.noUs as
  | [], _, _ => by rw [Tm.noUs]; trivial
  | t :: ts, ks, h => by
    rw [WFs] at h
    obtain ⟨k, r, rfl, h1, h2⟩ := h
    rw [Tm.noUs]
    exact ⟨WF.noU t k h1, WFs.noUs ts r h2⟩
end
section
variable {P : Program} {w : World} {K : PySem.W.Frag} {mg : Str → Option Value} {base : Heap}
theorem optV_im {H : Hp} (o : Option Int) : Im K H (optD o) (optV o) := by
  cases o with
  | none => exact im_non
  | some i => exact im_int
theorem ImAll.opts {H : Hp} : ∀ {os : List (Option Int)} {ys : List V}, ImAll K H (os.map optD) ys → ys = os.map optV
  | [], _, h => h.nil_
  | o :: os, ys, h => by
    obtain ⟨v, vs, rfl, q, r⟩ := ImAll.cons_ (ds := os.map optD) h
    rw [ImAll.opts r]
    cases o with
    | none => rw [q.non_]; rfl
    | some i => rw [q.int_]; rfl
theorem key_v {H : Hp} {p : Addr} {f : Str} {as : List Int} (h : SqT K H p (.str f :: as.map V.int)) : KeyV K H (keyOf f as) (.ref p) := by
  refine ⟨keyOf_depth f as, ?_, p, rfl⟩
  rw [keyOf_data]
  exact im_tup h (ia_cons im_str im_ints)
/-- what a machine's object says -/
structure MachF (P : Program) (w : World) (K : PySem.W.Frag) (CS CD CM : Addr) (H : Hp) (x : Addr) (d : Dor) (rs : List Rl) (last : List Int) (dx dr l sk o : Addr) (rv lv : V) : Prop where
  at_ : H x = some (.ins CM dx [("door", .ref dr), ("leads", .ref l), ("state_kinds", .ref sk), ("order_told", .ref o), ("rules", rv), ("last", lv)])
  door : DoorAt K CS CD H dr d
  leads : ND P w K H l (leadsE rs)
  rules : Im K H (.tuple (rs.map Rl.d)) rv
  last : Im K H (.tuple (last.map PyData.int)) lv
def MachAt (P : Program) (w : World) (K : PySem.W.Frag) (CS CD CM : Addr) (H : Hp) (x dr : Addr) (d : Dor) (rs : List Rl) (last : List Int) : Prop := ∃ dx l sk o rv lv, MachF P w K CS CD CM H x d rs last dx dr l sk o rv lv
theorem MachAt.mono {CS CD CM : Addr} {H H' : Hp} {x dr : Addr} {d : Dor} {rs : List Rl} {last : List Int} (h : MachAt P w K CS CD CM H x dr d rs last) (s : Same H H') : MachAt P w K CS CD CM H' x dr d rs last := by
  obtain ⟨dx, l, sk', o, rv, lv, f⟩ := h
  exact ⟨dx, l, sk', o, rv, lv, s _ _ f.at_, f.door.mono s, f.leads.mono s, Im.mono (sk s) _ _ f.rules, Im.mono (sk s) _ _ f.last⟩
/-! ### state_of -/
abbrev nm_state_of : List Str := ["machine", "term", "states", "part"]
theorem sc_state_of : FnScope nm_state_of ["machine", "term"] (defScope s_state_of) := ⟨rfl, rfl, rfl, by decide +kernel, rfl, by decide +kernel, by decide +kernel⟩
def sp_state_of (P : Program) (w : World) (K : PySem.W.Frag) (CS CD CM : Addr) (n : Nat) : Sp := fun vs H Q _ => ∃ x dr v d rs last t, vs = [.ref x, v] ∧ MachAt P w K CS CD CM H x dr d rs last ∧ Im K H (Tm.d t) v ∧ t.ok ∧ t.noU ∧ t.depth ≤ n ∧ ∀ G, Same H G → Q (optV (stOf rs t)) G
theorem ok_state_of (T : Tx K mg) : ∀ n, FnOk P w K mg base CX0 (n + 3) T.f_state_of T.d_state_of ["machine", "term"] (sp_state_of P w K T.C_Shape T.C_Door T.C_Machine n)
  | 0 => T.F_state_of.ok sc_state_of (fun vs H Q E h => by
      obtain ⟨x, dr, v, d, rs, last, t, rfl, _⟩ := h
      rfl) (fun cdv A outer s H vs Q E hr h => by
      obtain ⟨x, dr, v, d, rs, last, t, rfl, _, _, _, _, hd, _⟩ := h
      have := t.depth_pos
      omega)
  | n + 1 => by
    have ih := ok_state_of T n
    refine T.F_state_of.ok sc_state_of (fun vs H Q E h => ?_) (fun cdv A outer s H vs Q E hr h => ?_)
    · obtain ⟨x, dr, v, d, rs, last, t, rfl, _⟩ := h
      rfl
    · obtain ⟨x, dr, v, d, rs, last, t, rfl, mat, ht, hk, hnu, hd, k⟩ := h
      refine ⟨_, (pss_cons (ps_if (pt_val (pe_call (ok_is_word T) (hr.mono (by omega)) (by rfl) T.m_is_word T.F_is_word.kp T.b_is_word .nil pass0 (pa_cons (pv 1) pa_nil))) (pss_one (ps_ret (pe_nget (P := P) (w := w) (K := K) rfl rfl rfl hr.units (eFld (K := K) rfl (pv 0) rfl) (pe_tup (pa_cons (pv 1) pa_nil)) pe_non ⟨rfl, rfl, rfl, rfl⟩))) pss_nil)
    (pss_cons (ps_setLc (i := 2) (own := [("part", 3)]) (g := gName 3) (tt := tYes) rfl sc_state_of.nd rfl rfl (sw_true rfl rfl rfl (by decide +kernel)) (wT (K := K) rfl (pe_slice (sU (K := K) rfl) (pv 1) (po_some pe_int) po_none)) (blkOk_by (N := nm_state_of) (sc := defScope s_state_of) (by decide +kernel)) (fun _ _ _ _ _ => (pg_name (i := 3) sc_state_of.nd rfl (Or.inl rfl))) (fun _ _ _ _ _ => pts_nil) (fun _ _ _ _ _ => (pe_call ih hr (by rfl) T.m_state_of T.F_state_of.kp T.b_state_of .nil pass0 (pa_cons (pv 0) (pa_cons (pv 3) pa_nil)))))
    (pss_one (ps_ret (pe_ifExp (pt_cmpR (oIn (K := K) rfl) pe_non (pv 2) rfl) pe_non (pe_nget (P := P) (w := w) (K := K) rfl rfl rfl hr.units (eFld (K := K) rfl (pv 0) rfl) (pe_op (oCatU (K := K) rfl) (pe_tup (pa_cons (pe_ix (iT (K := K) rfl) (pv 1) pe_int (fun _ _ => rfl)) pa_nil)) (pe_callTy (tTup (K := K) rfl) (by rfl) T.t_tuple (by decide +kernel) (pa_cons (pv 2) pa_nil))) pe_non ⟨rfl, rfl, rfl, rfl⟩)))))), ?_⟩
      obtain ⟨dx, l, sk', o, rv, lv, f⟩ := id mat
      refine ⟨_, rfl, v, t, rfl, ht, _, rfl, ?_⟩
      cases t with
      | u _ => rw [Tm.noU] at hnu; exact hnu.elim
      | w z =>
        rw [Tm.w_at ht] at *
        refine iteT ⟨_, rfl, x, _, dx, _, _, rfl, f.at_, T.cl_Machine, T.n_Machine_leads, rfl, l, rfl, ⟨_, f.leads⟩, _, rfl, by show 1 ≤ sizeLine; decide, fun p hp => ?_⟩
        refine ⟨keyOf z [], _, key_v (.inl (.inl upd_same)), f.leads.mono (sn hp), ?_⟩
        rw [leads_getD]
        have := k _ (sn hp (o := .tup [.str z]))
        rw [stOf] at this
        exact this
      | c g as =>
        obtain ⟨p, xs, rfl, sq, r⟩ := Tm.c_at ht
        rw [Tm.ok] at hk
        rw [Tm.depth] at hd
        rw [Tm.noU] at hnu
        have lx : xs.length = as.length := by have := r.len; simpa using this
        refine iteF ⟨_, rfl, _, rfl, p, _, rfl, sq, fun t1 H1 s1 st1 => ?_⟩
        rw [cut1] at st1
        have r1 := ImAll.mono (sk s1) _ _ r
        refine ⟨t1, rfl, ⟨_, st1⟩, fun D hD => lc_im (K := K) (walk_tup (K := K) (a := t1) (xs := xs)) hD ((as.map (stOf rs)).map optD) (by simp [lx]) (by omega) (fun H2 hb => keepT (hb.same hD) st1) ?_ ?_⟩
        · rintro i dd y H0 H2 hdd hb hne ⟨rfl, hy⟩
          have s2 := hb.same hD
          rw [List.getElem?_map, List.getElem?_map] at hdd
          cases ea : as[i]? with
          | none => rw [ea] at hdd; cases hdd
          | some t2 =>
            rw [ea] at hdd
            cases hdd
            obtain ⟨y', e5, im5⟩ := r1.get (i := i) (d := t2.d) (by rw [List.getElem?_map, ea]; rfl)
            rw [hy] at e5
            cases e5
            have tm := List.mem_of_getElem? ea
            have dd := Tm.depths_mem t2 tm
            exact ⟨Same.refl _, fun N hN => ⟨rfl, _, rfl, _, rfl, x, dr, y, d, rs, last, t2, rfl, mat.mono (s1.trans s2), Im.mono (sk s2) _ _ im5, Tm.oks_mem hk.2.2.2 t2 tm, Tm.noUs_mem hnu t2 tm, by omega, fun G sG => hN _ G sG (optV_im _)⟩⟩
        · intro H2 ys hb hy im
          rw [im.opts] at hy
          rw [List.map_map] at hy
          have s12 := s1.trans (hb.same hD)
          refine ⟨_, rfl, D, _, rfl, .inl (SqL.of hy), rfl, by rw [← List.map_map]; exact flat_optV _, ?_⟩
          have en := stOfs_none rs as
          rw [show (optV ∘ stOf rs) = fun t => optV (stOf rs t) from rfl] at hy ⊢
          rw [en]
          have k' : ∀ G, Same H G → Q (optV ((stOfs rs as).bind fun is => ldOf rs g is)) G := fun G s => by
            have := k G s
            rw [stOf] at this
            exact this
          cases es : stOfs rs as with
          | none =>
            rw [es] at k'
            exact ⟨_, rfl, iteT (k' _ s12)⟩
          | some is =>
            rw [es] at k'
            rw [stOfs_some rs es] at hy
            have f2 := mat.mono s12
            obtain ⟨dx2, l2, sk2, o2, rv2, lv2, f2⟩ := f2
            refine ⟨_, rfl, iteF ⟨_, rfl, x, _, dx2, _, _, rfl, f2.at_, T.cl_Machine, T.n_Machine_leads, rfl, l2, rfl, ⟨_, f2.leads⟩, ?_⟩⟩
            refine ⟨_, rfl, p, _, 0, _, rfl, rfl, keepT s12 sq, at0, by show 1 ≤ sizeLine; decide, fun u hu => ?_⟩
            have s3 := sn (o := .tup [.str g]) hu
            refine ⟨_, rfl, D, _, rfl, .inl ⟨SqL.of (s3 _ _ hy), fun u2 hu2 => ?_⟩⟩
            have s4 := sn (o := .tup (is.map V.int)) hu2
            refine ⟨u, u2, _, _, rfl, rfl, keepT s4 (.inl (.inl upd_same)), .inl (.inl upd_same), ?_, fun t7 H7 s7 st7 => ?_⟩
            · have := congrArg List.length (stOfs_some rs es)
              simp at this
              rw [sizeLine_eq]
              simp
              omega
            have s37 := s3.trans (s4.trans s7)
            refine ⟨keyOf g is, _, key_v st7, f2.leads.mono s37, ?_⟩
            rw [leads_getD]
            exact k' _ (s12.trans s37)
end
end T82
namespace T82
open PySem L2
theorem rules_lay {rs : List Rl} (h : ∀ r ∈ rs, nameB r.name = true) : (PyData.tuple (rs.map Rl.d)).canLay0 = true :=
  canLay_tup (canLay_map fun r hr => canLay_tup (canLay_cons (canLay_tup (canLay_cons (canLay_str (strOk_of_name (h r hr))) (canLay_map fun i _ => by rw [PyData.canLay0]))) (canLay_cons (by rw [PyData.canLay0]) canLay_nil)))
theorem rules_depth (rs : List Rl) : (PyData.tuple (rs.map Rl.d)).depth ≤ 64 := by
  have := depth_map (f := Rl.d) (n := 2) (as := rs) fun x _ => by
    have := depth_map (f := PyData.int) (n := 0) (as := x.args) fun x _ => by simp [PyData.depth]
    simp only [Rl.d, Rl.kd, PyData.depth, PyData.depthAll]
    omega
  simp only [PyData.depth]
  omega
theorem ints_shaped (is : List Int) : SeqAt.shaped (PyData.tuple (is.map PyData.int)) = true := by
  unfold SeqAt.shaped
  rw [canLay_tup (canLay_map fun i _ => by rw [PyData.canLay0]), Bool.true_and, decide_eq_true_eq]
  have := depth_map (f := PyData.int) (n := 0) (as := is) fun x _ => by simp [PyData.depth]
  simp only [PyData.depth]
  omega
theorem rules_shaped {rs : List Rl} (h : ∀ r ∈ rs, nameB r.name = true) : SeqAt.shaped (PyData.tuple (rs.map Rl.d)) = true := by
  unfold SeqAt.shaped
  rw [rules_lay h, Bool.true_and, decide_eq_true_eq]
  exact rules_depth rs
theorem flat_ints (is : List Int) : (is.map V.int).all flatV = true := by simp [flatV]
section
variable {P : Program} {w : World} {K : PySem.W.Frag} {mg : Str → Option Value} {base : Heap}
theorem ints_at2 {H : Hp} {is : List Int} {v : V} (h : Im K H (.tuple (is.map PyData.int)) v) : ∃ p, v = .ref p ∧ SqT K H p (is.map V.int) := by
  obtain ⟨p, xs, rfl, q, r⟩ := h.tup_
  rw [r.ints] at q
  exact ⟨p, rfl, q⟩
abbrev nm_state : List Str := ["machine", "term"]
theorem sc_state : FnScope nm_state ["machine", "term"] (defScope s_state) := ⟨rfl, rfl, rfl, by decide +kernel, rfl, by decide +kernel, by decide +kernel⟩
def sp_state (P : Program) (w : World) (K : PySem.W.Frag) (CS CD CM : Addr) : Sp := fun vs H Q _ => ∃ x dr v d rs last t k, vs = [.ref x, v] ∧ MachAt P w K CS CD CM H x dr d rs last ∧ Im K H (Tm.d t) v ∧ WF d t k ∧ t.depth ≤ 8 ∧ ∀ G, Same H G → Q (optV (stOf rs t)) G
theorem ok_state (T : Tx K mg) : FnOk P w K mg base CX0 14 T.f_state T.d_state ["machine", "term"] (sp_state P w K T.C_Shape T.C_Door T.C_Machine) := by
  refine T.F_state.ok sc_state (fun vs H Q E h => ?_) (fun cdv A outer s H vs Q E hr h => ?_)
  · obtain ⟨x, dr, v, d, rs, last, t, k, rfl, _⟩ := h
    rfl
  · obtain ⟨x, dr, v, d, rs, last, t, kd, rfl, mat, ht, wf, hd, k⟩ := h
    refine ⟨_, (pss_cons (ps_expr (pe_call (ok_check_built T) (hr.mono (by decide)) (by rfl) T.m_check_built T.F_check_built.kp T.b_check_built .nil pass0 (pa_cons (eFld (K := K) rfl (pv 0) rfl) (pa_cons (pv 1) pa_nil))))
    (pss_one (ps_ret (pe_call (ok_state_of T 8) (hr.mono (by decide)) (by rfl) T.m_state_of T.F_state_of.kp T.b_state_of .nil pass0 (pa_cons (pv 0) (pa_cons (pv 1) pa_nil)))))), ?_⟩
    obtain ⟨dx, l, sk', o, rv, lv, f⟩ := id mat
    obtain ⟨_, _, _, _, _, _, _, ff⟩ := id f.door
    refine ⟨_, rfl, x, _, dx, _, _, rfl, f.at_, T.cl_Machine, T.n_Machine_door, rfl, _, rfl, dr, v, d, t, kd, rfl, f.door, ht, wf, hd, fun G1 s1 => ?_⟩
    exact ⟨_, rfl, _, rfl, x, dr, v, d, rs, last, t, rfl, mat.mono s1, Im.mono (sk s1) _ _ ht, WF.ok ff.good _ _ wf, WF.noU _ _ wf, hd, fun G2 s2 => k G2 (s1.trans s2)⟩
abbrev nm_takes : List Str := ["machine", "term"]
theorem sc_takes : FnScope nm_takes ["machine", "term"] (defScope s_takes) := ⟨rfl, rfl, rfl, by decide +kernel, rfl, by decide +kernel, by decide +kernel⟩
def sp_takes (P : Program) (w : World) (K : PySem.W.Frag) (CS CD CM : Addr) : Sp := fun vs H Q _ => ∃ x dr v d rs last t k, vs = [.ref x, v] ∧ MachAt P w K CS CD CM H x dr d rs last ∧ Im K H (Tm.d t) v ∧ WF d t k ∧ t.depth ≤ 8 ∧ ∀ G, Same H G → Q (.bl (inV (optV (stOf rs t)) (last.map V.int))) G
theorem ok_takes (T : Tx K mg) : FnOk P w K mg base CX0 14 T.f_takes T.d_takes ["machine", "term"] (sp_takes P w K T.C_Shape T.C_Door T.C_Machine) := by
  refine T.F_takes.ok sc_takes (fun vs H Q E h => ?_) (fun cdv A outer s H vs Q E hr h => ?_)
  · obtain ⟨x, dr, v, d, rs, last, t, k, rfl, _⟩ := h
    rfl
  · obtain ⟨x, dr, v, d, rs, last, t, kd, rfl, mat, ht, wf, hd, k⟩ := h
    refine ⟨_, (pss_cons (ps_expr (pe_call (ok_check_built T) (hr.mono (by decide)) (by rfl) T.m_check_built T.F_check_built.kp T.b_check_built .nil pass0 (pa_cons (eFld (K := K) rfl (pv 0) rfl) (pa_cons (pv 1) pa_nil))))
    (pss_one (ps_ret (pe_cmpR (oIn (K := K) rfl) (pe_call (ok_state_of T 8) (hr.mono (by decide)) (by rfl) T.m_state_of T.F_state_of.kp T.b_state_of .nil pass0 (pa_cons (pv 0) (pa_cons (pv 1) pa_nil))) (eFld (K := K) rfl (pv 0) rfl) rfl)))), ?_⟩
    obtain ⟨dx, l, sk', o, rv, lv, f⟩ := id mat
    obtain ⟨_, _, _, _, _, _, _, ff⟩ := id f.door
    refine ⟨_, rfl, x, _, dx, _, _, rfl, f.at_, T.cl_Machine, T.n_Machine_door, rfl, _, rfl, dr, v, d, t, kd, rfl, f.door, ht, wf, hd, fun G1 s1 => ?_⟩
    refine ⟨_, rfl, _, rfl, x, dr, v, d, rs, last, t, rfl, mat.mono s1, Im.mono (sk s1) _ _ ht, WF.ok ff.good _ _ wf, WF.noU _ _ wf, hd, fun G2 s2 => ?_⟩
    obtain ⟨dx2, l2, sk2, o2, rv2, lv2, f2⟩ := mat.mono (s1.trans s2)
    obtain ⟨p, rfl, sp⟩ := ints_at2 f2.last
    refine ⟨_, rfl, x, _, dx2, _, _, rfl, f2.at_, T.cl_Machine, T.n_Machine_last, rfl, p, _, rfl, .inr sp, ?_, flat_ints _, k G2 (s1.trans s2)⟩
    cases stOf rs t <;> rfl
/-! ### Machine.__eq__: of machines with the same data -/
abbrev nm_Machine_eq : List Str := ["self", "other"]
theorem sc_Machine_eq : FnScope nm_Machine_eq ["self", "other"] (defScope s_Machine_eq) := ⟨rfl, rfl, rfl, by decide +kernel, rfl, by decide +kernel, by decide +kernel⟩
def sp_Machine_eq (P : Program) (w : World) (K : PySem.W.Frag) (CS CD CM : Addr) : Sp := fun vs H Q _ => ∃ x y dr d rs last, vs = [.ref x, .ref y] ∧ MachAt P w K CS CD CM H x dr d rs last ∧ MachAt P w K CS CD CM H y dr d rs last ∧ (∀ r ∈ rs, nameB r.name = true) ∧ ∀ G, Same H G → Q (.bl true) G
theorem ok_Machine_eq (T : Tx K mg) (Y : Ty T) : FnOk P w K mg base CX0 3 T.f_Machine_eq T.d_Machine_eq ["self", "other"] (sp_Machine_eq P w K T.C_Shape T.C_Door T.C_Machine) := by
  refine T.F_Machine_eq.ok sc_Machine_eq (fun vs H Q E h => ?_) (fun cdv A outer s H vs Q E hr h => ?_)
  · obtain ⟨x, y, dr, d, rs, last, rfl, _⟩ := h
    rfl
  · obtain ⟨x, y, dr, d, rs, last, rfl, mx, my, nm, k⟩ := h
    refine ⟨_, (pss_cons (ps_if (PW.pt (pw_or (pt_not (pt_val (pe_callB (C8.call_isC Y.icM) (by rfl) T.t_isinstance (by decide +kernel) (pa_cons (pv 1) (pa_cons (pe_glob rfl T.m_Machine (show RelV (.ref T.C_Machine) (.ref T.C_Machine) from rfl)) pa_nil))))) (pw_or1 (pt_cmpR (op_neI (ok_Door_eq T Y) Y.onD hr T.b_Door_eq pass0) (eFld (K := K) rfl (pv 0) rfl) (eFld (K := K) rfl (pv 1) rfl) (nomark _))))) (pss_one (ps_ret pe_bl)) pss_nil)
    (pss_one (ps_ret (pe_and (pe_cmpR (oEqD (K := K) rfl hr.units) (eFld (K := K) rfl (pv 0) rfl) (eFld (K := K) rfl (pv 1) rfl) (nomark _)) (pe_one (pe_cmpR (oEqD (K := K) rfl hr.units) (eFld (K := K) rfl (pv 0) rfl) (eFld (K := K) rfl (pv 1) rfl) (nomark _))))))), ?_⟩
    obtain ⟨dx, l, sk', o, rv, lv, f⟩ := mx
    obtain ⟨dx2, l2, sk2, o2, rv2, lv2, f2⟩ := my
    obtain ⟨_, _, _, _, _, _, _, ff⟩ := id f.door
    refine ⟨_, rfl, y, dx2, _, rfl, f2.at_, _, rfl, iteF ?_⟩
    refine ⟨_, rfl, x, _, dx, _, _, rfl, f.at_, T.cl_Machine, T.n_Machine_door, rfl, _, rfl, y, _, dx2, _, _, rfl, f2.at_, T.cl_Machine, T.n_Machine_door, rfl, ?_⟩
    refine ⟨dr, dr, _, _, _, _, rfl, rfl, ff.at_, ff.at_, dr, d, rfl, f.door, fun G1 s1 => ⟨true, rfl, _, rfl, iteF ?_⟩⟩
    refine ⟨_, rfl, x, _, dx, _, _, rfl, s1 _ _ f.at_, T.cl_Machine, T.n_Machine_rules, rfl, _, rfl, y, _, dx2, _, _, rfl, s1 _ _ f2.at_, T.cl_Machine, T.n_Machine_rules, rfl, ?_⟩
    refine ⟨_, _, Im.dp _ _ (Im.mono (sk s1) _ _ f.rules), Im.dp _ _ (Im.mono (sk s1) _ _ f2.rules), rules_shaped nm, rules_shaped nm, ?_⟩
    rw [SeqAt.eqv_refl _ (rules_lay nm)]
    refine ⟨_, rfl, iteT ?_⟩
    refine ⟨_, rfl, x, _, dx, _, _, rfl, s1 _ _ f.at_, T.cl_Machine, T.n_Machine_last, rfl, _, rfl, y, _, dx2, _, _, rfl, s1 _ _ f2.at_, T.cl_Machine, T.n_Machine_last, rfl, ?_⟩
    refine ⟨_, _, Im.dp _ _ (Im.mono (sk s1) _ _ f.last), Im.dp _ _ (Im.mono (sk s1) _ _ f2.last), ints_shaped last, ints_shaped last, ?_⟩
    rw [SeqAt.eqv_refl _ (canLay_tup (canLay_map fun i _ => by rw [PyData.canLay0]))]
    exact k G1 s1
end
end T82
/-! ### the program's own errors, made: two classes deep, with super().__init__('..') -/
namespace T82
open PySem L2
abbrev s_BadText : Stmt := inClass (top 12) 0
abbrev s_BadMachine : Stmt := inClass (top 13) 0
end T82
namespace T82.ExcX
open PySem PySem.W PySem.Calls PyProof.Rows PySem.HandSPX
theorem one_size (v : Value) : [v].length ≤ sizeLine := by
  rw [sizeLine_eq]
  exact (by decide : 1 ≤ 16777216)
theorem ldC {M : Model} {s : Shared} {name : Str} {scope : Scope} {L a : Addr} {cd : Value} {m : Str → Option Value} {x : Str} {pos : Pos} {v : Value} {Q : Value → Shared → Prop} {A : Around} {E : Value → Shared → Prop} (hn : s.heap.Ns L m) (hv : m x = some v) (h : Q v s)
    (hk : scope.kind = .function := by rfl) (hl : (envOfC name scope L a cd).kindOf x = some .local := by rfl) (hd : (x == ("__debug__" : Str)) = false := by decide) :
    wpAny M A (eval (.Name x pos) (envOfC name scope L a cd)) Q E s := wpAny_Name (wpAny_loadName_local hk hl hn hv h) hd
end T82.ExcX
namespace T82.BadTextX
open PySem PySem.W PySem.Calls PyProof.Rows PySem.HandSPX
abbrev eP : Arguments := L2.defArgs s_BadText
abbrev eB : List Stmt := L2.defBody s_BadText
abbrev eS : Scope := L2.defScope s_BadText
/-- what the written part says of the class, at C, and of its __init__, at fI -/
structure Txt (P : Program) (K : Frag) (mg : Str → Option Value) (C fI : Addr) : Prop where
  gC : mg "BadText" = some (.ref C)
  cls : ∃ nm q N bs bm sn sub ab col dd k0 k1 k2 k3 k5, K.lookup C = some (excClassObj nm q C N bs bm true sn sub ab col dd k0 k1 k2 k3 k5 "ValueError.__new__") ∧ refsVE bm = true
  sa : findIn K (.ref C) "__setattr__" = some (some (.builtin "object.__setattr__"))
  ga : findIn K (.ref C) "__getattribute__" = some (some (.builtin "BaseException.__getattribute__"))
  gg : findIn K (.ref C) "__getattr__" = some none
  noN : findIn K (.ref C) "at" = some none
  iC : findIn K (.ref C) "__init__" = some (some (.ref fI))
  tC : typeIn K (.ref fI) = some (.type "function")
  kC : keepIn K (.ref C) = true
  exC : subIn K (.ref C) (.type "BaseException") = some true
  veC : subIn K (.ref C) (.type "ValueError") = some true
  tyC : typeIn K (.ref C) = some (.type "type")
  hdC : hasDictIn K C = true
  own : mroIn K C (.ref C) = some true
  opq : nsIn K cStatics "thirdparty.any" = some none
  up : ks_superIn K C C "__init__" = some (some (.builtin "ValueError.__init__"))
  nos : mg "super" = none
  top : (P.main.scope.names.lookup ("super" : Str)).isSome = false
  fn : ∃ (oc : Value) (od : Option Addr) (doc pm : Value) (an : Option Addr) (cda : Addr) (ct : Value) (osl : Array (Option Value)) (cc : Addr) (ccl : Value) (cdd : Option Addr) (vs : Array Value) (ccs : Array (Option Value)) (file : Str) (tf : Tok) (cl : Value) (cld : Option Addr) (csl : Array (Option Value)),
    K.lookup fI = some ⟨oc, od, .func (ksFn "__init__" "BadText.__init__" eP eB eS .none .none doc pm an (.ref cda) ct cc), osl⟩ ∧ codeIn K (.ref cda) "BadText.__init__" = true ∧
    K.lookup cda = some ⟨ccl, cdd, .fields vs, ccs⟩ ∧ vs[2]? = some (.str file tf) ∧ ((P.main.file : Str) == file) = true ∧ K.lookup cc = some ⟨cl, cld, .cell (some (.ref C)), csl⟩
/-- what __init__ leaves of a fresh exception at x -/
structure Done (h h' : Heap) (x C dx : Addr) (v : Value) : Prop where
  keep : ∀ b o, b ≠ x → h.get? b = some o → h'.get? b = some o
  obj : ∃ t1 : Addr, h'.get? x = some { cls := .ref C, dict := some dx, data := .fields #[.ref t1, .none, .none, .none, .bool false, .none] }
  dbig : h.objs.size ≤ dx
  dne : dx ≠ x
  ns : h'.Ns1 dx (fun y => if y = "at" then some v else none)
section
variable {P : Program} {w : World} {A : Around} {R : Result → Shared → Prop} {s : Shared} {K : Frag} {mg : Str → Option Value} {C fI : Addr}
theorem init_ok (T : Txt P K mg C fI) {x t0 : Addr} {v : Value} (X : K.In s.heap) (glob : s.heap.Ns mainGlobals mg) (blt : ∃ mb, s.heap.Ns builtinsNs mb ∧ ∀ y : Str, y ≠ "__name__" → mb y = bootBuiltins y) (hlim : s.heap.NoLimit) (hx : s.heap.get? x = some (excO C t0)) (hnx : ∀ {o}, K.lookup x = some o → False) (hroom : A.depth < recursionLimit)
    (hq : ∀ h' tk dx, Done s.heap h' x C dx v → R (.ok (.ret .none)) { s with heap := h', toks := tk }) :
    codeAny (model P w) A (.call (.ref fI) ⟨[.ref x, v], []⟩) R s := by
  obtain ⟨oc, od, doc, pm, an, cda, ct, osl, cc, ccl, cdd, vs, ccs, file, tf, cl, cld, csl, ho, hcd, hcode, hvs, hfile, hcell⟩ := T.fn
  obtain ⟨nm, q, N, bs, bm, sn, sub, ab, col, dd, k0, k1, k2, k3, k5, hC, hbm⟩ := T.cls
  have hcl : clsIn K C = some { name := nm, bases := bs, mro := .ref C :: bm, ns := N, qualname := q, hasDict := true, slotNames := sn, subclasses := sub, abstract := ab, collection := col, hasDel := false } := by unfold clsIn; rw [hC] <;> rfl
  obtain ⟨mb, hb1, hb2⟩ := blt
  refine ks_codeAny_call_defAt (fd := ksFn "__init__" "BadText.__init__" eP eB eS .none .none doc pm an (.ref cda) ct cc) (body := eB) (binds := [("self", .ref x), ("at", v)]) hroom (X _ _ ho) rfl hlim (codeRec_of X hcd) rfl
    (BindsTo.of_eq (by first | rfl | with_unfolding_all rfl)) (show ∀ y ∈ eS.names, y.2 ≠ .cell by decide +kernel) (fun y hy => by
      simp only [List.mem_cons, List.not_mem_nil, or_false] at hy
      rcases hy with rfl | rfl <;> rfl) (fun h₁ hns k => ?_)
  have X₁ : K.In h₁ := X.keeps k
  have hx₁ := k _ _ hx
  have hC₁ := X₁ _ _ hC
  have lx : s.heap.objs.size ≠ x := Nat.ne_of_gt (Heap.lt_size hx)
  refine ks_wpAt_execs_cons (ks_wpAt_Expr_any (ks_wpAt_MethodCall (ks_wpAt_super_base (f := fI) (cc := cda) rfl rfl (by decide) rfl (X₁ _ _ ho) rfl (by first | rfl | with_unfolding_all rfl) rfl (X₁ _ _ hcode) rfl hvs hfile T.top ?_)))
  refine ks_loadName_global rfl rfl (loadGlobal_builtin (glob.keeps k) T.nos (hb1.keeps k) ((hb2 "super" (by decide)).trans (by decide +kernel)) ⟨rfl, ?_⟩)
  refine wpAny_loadName_free rfl rfl rfl ⟨_, X₁ _ _ hcell, rfl⟩ ?_
  refine wpAny_loadName_local rfl rfl hns (v := .ref x) (by first | rfl | with_unfolding_all rfl | kernel_rfl) ?_
  refine ks_wpAny_isType_cls hC₁ rfl ⟨rfl, ?_⟩
  refine ks_wpAny_call_super hC₁ rfl hx₁ rfl (fun c e => by cases e) (looks_mroIn X₁ T.own) (fun h₂ at2 k2 => ?_)
  have X₂ : K.In h₂ := X₁.keeps k2
  have hx₂ := k2 _ _ hx₁
  have I₂ : InstAt h₂ x (excO C t0) C none := ⟨hx₂, rfl, rfl, trivial⟩
  have up := T.up
  unfold ks_superIn at up
  rw [hcl] at up
  refine kxs_getMethod kxs_ValueError at2 (looks_opaque X₂ T.opq) (l₀ := .ref C :: bm) (fun A Q E s k q => wpAny_bind ((looks_clsIn X₂ hcl) A _ E s k (wpAny_pure q))) rfl X₂ up (I₂.type.andThen (looks_subIn X₂ T.veC)) (ks_ne X₂ I₂ hcl) (by decide) ?_
  have k3 : ∀ b o, h₂.get? b = some o → (h₂.push (kxs_mw "ValueError.__init__" x)).get? b = some o := fun b o e => Heap.get?_push_of_some _ e
  have at3 : (h₂.push (kxs_mw "ValueError.__init__" x)).get? h₂.objs.size = some (kxs_mw "ValueError.__init__" x) := Heap.get?_push_size _ rfl
  generalize h₂.push (kxs_mw "ValueError.__init__" x) = h₃ at k3 at3
  refine kxs_callWith (i := "ValueError.__init__") (x := x) rfl (evalArgs_plain ?_)
  refine spliced_cons ?_
  refine wpAny_Constant_str (k := 0) (pos := ⟨0, 0, 0, 0⟩) ?_
  refine spliced_nil ⟨at3, ?_⟩
  have X₃ : K.In h₃ := X₂.keeps k3
  have hx₃ := k3 _ _ hx₂
  refine wpAny_call (codeAny_of_tree ?_)
  show wpAny _ _ (callAny (.ref h₂.objs.size) ⟨_, []⟩) _ _ _
  simp only [callAny]
  refine wpAny_bind (wpAny_load at3 ?_)
  simp only [kxs_mw, show (Value.type "method-wrapper" == Value.type "method" || Value.type "method-wrapper" == Value.type "builtin_function_or_method" || Value.type "method-wrapper" == Value.type "method-wrapper") = true by decide, if_true]
  refine KFB.if_so (by decide) ?_
  refine wpAny_bind (check_bound_init F.excBase_ValueError.toExcCallFacts (X₃ _ _ hC) hx₃ rfl ?_)
  refine wpAny_bind (wpAny_pure (wpAny_pure ?_))
  refine ⟨plainId_quiet F.excBase_ValueError.init.plain _, codeAny_builtin F.excBase_ValueError.initEntry ?_⟩
  refine exc_init_tree (cls := .ref C) (t0 := t0) (dv := none) (c2 := .none) (c3 := .none) (b4 := .bool false) hx₃ (T82.ExcX.one_size _) fun h₄ k4 hx4 t4 => ?_
  have hns4 : h₄.Ns s.heap.objs.size _ := hns.at (fun o q => k4 _ _ lx (k3 _ _ (k2 _ _ q)))
  have nx : ∀ {a o}, K.lookup a = some o → a ≠ x := fun {a o} e z => by
    subst z
    exact hnx e
  have X₄ : K.In h₄ := fun a o e => k4 a o (nx e) (X₃ a o e)
  show PySem.wpAt _ _ _ (execs _ _) _ _ _
  refine wpAt_of_wpAny (wpAny_execs_cons (plainObj_wpAny_Assign_Attribute ?_))
  refine wpAny_Name (wpAny_loadName_local rfl rfl hns4 (v := v) (by first | rfl | with_unfolding_all rfl | kernel_rfl) ?_) (by decide)
  refine wpAny_Name (wpAny_loadName_local rfl rfl hns4 (v := .ref x) (by first | rfl | with_unfolding_all rfl | kernel_rfl) ?_) (by decide)
  refine set_plain X₄ (ox := excO C h₃.objs.size) (od := none) ⟨hx4, rfl, rfl, trivial⟩ T.sa ?_
  refine exc_osa X₄ hx4 hcl (show refsVE (.ref C :: bm) = true from hbm) rfl T.noN (fun h₅ tk₅ dx k₅ dn dne hx₅ hn₅ => ?_)
  show wpAny _ _ (execs _ _) _ _ _
  have sz : s.heap.objs.size < h₄.objs.size := hns4.lt
  exact wpAny_execs_nil (hq h₅ tk₅ dx ⟨fun b o hb e => k₅ b o hb (k4 b o hb (k3 b o (k2 b o (k b o e)))), ⟨_, hx₅⟩, Nat.le_trans (Nat.le_of_lt sz) dn, dne, hn₅⟩)
/-- a made one -/
structure OwnMade (h h' : Heap) (e C d : Addr) (v : Value) : Prop where
  keep : ∀ b o, h.get? b = some o → h'.get? b = some o
  new : h.objs.size ≤ e
  obj : ∃ oe vs, h'.get? e = some oe ∧ oe.cls = .ref C ∧ oe.dict = some d ∧ oe.data = .fields vs ∧ vs[1]? = some .none
  dbig : h.objs.size ≤ d
  dne : d ≠ e
  ns : h'.Ns1 d (fun y => if y = "at" then some v else none)
theorem made (T : Txt P K mg C fI) {v : Value} (X : K.In s.heap) (glob : s.heap.Ns mainGlobals mg) (blt : ∃ mb, s.heap.Ns builtinsNs mb ∧ ∀ y : Str, y ≠ "__name__" → mb y = bootBuiltins y) (hlim : s.heap.NoLimit) (hroom : A.depth + 1 < recursionLimit)
    (hq : ∀ h' tk e d, OwnMade s.heap h' e C d v → R (.ok (.ret (.ref e))) { s with heap := h', toks := tk }) :
    codeAny (model P w) A (.call (.ref C) ⟨[v], []⟩) R s := by
  obtain ⟨nm, q, N, bs, bm, sn, sub, ab, col, dd, k0, k1, k2, k3, k5, hC, hbm⟩ := T.cls
  obtain ⟨hp, g, dr, tk, os⟩ := s
  have k : ∀ b o, hp.get? b = some o → ((hp.push (kdv_tup [v])).push (excO C hp.objs.size)).get? b = some o := fun b o e => Heap.get?_push_of_some _ (Heap.get?_push_of_some _ e)
  have hget : ((hp.push (kdv_tup [v])).push (excO C hp.objs.size)).get? (hp.objs.size + 1) = some (excO C hp.objs.size) := by heap_get
  have hnx : ∀ {o}, K.lookup (hp.objs.size + 1) = some o → False := by
    intro o e
    have z : hp.get? (hp.objs.size + 1) = some o := X _ _ e
    exact absurd (Nat.lt_of_succ_lt (Heap.lt_size z)) (Nat.lt_irrefl _)
  refine call_own F.excBase_ValueError (fun X => refsVE_contains X bm hbm) (X _ _ hC) (looks_findIn X T.iC) (fun self => bind_fn X self T.tC) (T82.ExcX.one_size v) ?_
  obtain ⟨mb, b1, b2⟩ := blt
  refine init_ok (s := ⟨(hp.push (kdv_tup [v])).push (excO C hp.objs.size), g, dr, tk, os⟩) T (X.keeps k) (glob.keeps k) ⟨mb, b1.keeps k, b2⟩ (hlim.keeps k) hget hnx ?_ fun h' tk' dx ⟨k', ⟨t1, hx⟩, dn, dne, hns⟩ => ?_
  · show A.depth + 1 < recursionLimit
    exact hroom
  · have old : ∀ b o, hp.get? b = some o → h'.get? b = some o := fun b o e => k' b o (Nat.ne_of_lt (Nat.lt_succ_of_lt (Heap.lt_size e))) (k b o e)
    have z : hp.objs.size + 1 + 1 ≤ dx := by
      first
        | (simpa only [Heap.size_push] using dn)
        | exact dn
        | (have q := dn; rw [Heap.size_push, Heap.size_push] at q; exact q)
    exact ⟨rfl, hq h' tk' (hp.objs.size + 1) dx ⟨old, Nat.le_succ _, ⟨_, _, hx, rfl, rfl, rfl, rfl⟩, Nat.le_trans (Nat.le_trans (Nat.le_succ _) (Nat.le_succ _)) z, dne, hns⟩⟩
end
end T82.BadTextX
namespace T82.BadTextX
open PySem L2 PyProof.Rows
theorem relO_f {v : V} {v' : Value} (r : RelV v v') (f : Str) : RelO (List.lookup f [(("at" : Str), v)]) (if f = "at" then some v' else none) := by
  by_cases hw : f = "at"
  · subst hw
    rw [if_pos rfl]
    have q : List.lookup ("at" : Str) [(("at" : Str), v)] = some v := by simp [List.lookup]
    rw [q]
    exact r
  · rw [if_neg hw]
    have qw : (f == ("at" : Str)) = false := by simpa using hw
    have q2 : List.lookup f [(("at" : Str), v)] = none := by simp [List.lookup, qw]
    rw [q2]
    trivial
section
variable {X : Cx} {C fI : Addr}
/-- BadText(e) -/
def tMk (C : Addr) (ta : TA) : L2.St → Hp → XK → Prop := fun σ H Q => ta σ H fun vs H1 => ∃ v, vs = [v] ∧ ∀ d, H1 d = none → Q (.ref C) (some d) (upd H1 d (.xd [(("at" : Str), v)]))
theorem pmk {a : Expr} {ta : TA} {p pos : Pos} {k : Nat} (T : Txt X.prog X.K X.mg C fI) (hr : Room k X.A) (ha : PA X [a] ta) (hg : Gl X "BadText" := by rfl)
    (he : starEach (a :: []) X.env = (false, eval a X.env) :: starEach [] X.env := by rfl) (hpl : (backTo pos (starEach [] X.env)).any (·.1) = false := by rfl) :
    PMk X (.Call (.Name "BadText" p) [a] [] pos) (tMk C ta) := by
  intro pins s σ H Q I h
  refine wpAny_Call_Name_kw (ld_glob I hg T.gC ?_)
  refine PySem.W.callWith_K (h₀ := X.base) I.ok.mod.kin T.kC (thn (ha.run pos pins s σ H _ I h) fun us s1 hh => ?_) he hpl
  obtain ⟨vs, H1, I1, r1, v, ev, q1⟩ := hh
  subst ev
  refine ⟨I1.kIn, ?_⟩
  cases r1 with
  | cons rv rn =>
    rename_i v' us'
    cases rn
    show wpAny _ _ (call (.ref C) [v']) _ _ _
    have hlim := I1.nolimit
    have hglob := I1.ok.mod.glob.keeps I1.bk
    have hblt : ∃ mb, s1.heap.Ns builtinsNs mb ∧ ∀ y : Str, y ≠ "__name__" → mb y = bootBuiltins y := let ⟨mb, b1, b2⟩ := I1.ok.mod.blt; ⟨mb, b1.keeps I1.bk, b2⟩
    obtain ⟨hp, g, dr, tk, os⟩ := s1
    refine wpAny_call (made T I1.kIn hglob hblt hlim (by have := hr.dp; omega) fun h' tk' e d M => ?_)
    show MkP X pins σ Q (.ref e) ⟨h', g, dr, tk', os⟩
    obtain ⟨oe, fv, hoe, hc, hd, hdat, h1⟩ := M.obj
    have hns := M.ns
    obtain ⟨G', g1, g2⟩ := restrict h' fun b => decide (b ≠ e)
    have gk : ∀ b, b ≠ e → G'.get? b = h'.get? b := fun b hb => g1 b (decide_eq_true hb)
    have ge : G'.get? e = none := g2 e (by simp)
    have old : ∀ b o, hp.get? b = some o → G'.get? b = some o := fun b o q => (gk b (Nat.ne_of_lt (Nat.lt_of_lt_of_le (Heap.lt_size q) M.new))).trans (M.keep b o q)
    have ob : ObjOk X.prog X.w (upd H1 d (.xd [(("at" : Str), v)])) G' d (.xd [(("at" : Str), v)]) :=
      ⟨_, hns.at (fun o q => (gk d M.dne).trans q), fun f => relO_f rv f⟩
    have J : Inv X pins σ (upd H1 d (.xd [(("at" : Str), v)])) ⟨G', g, dr, tk', os⟩ := I1.laid (t' := tk') old M.dbig ob
    refine ⟨e, oe, fv, ⟨G', g, dr, tk', os⟩, _, .ref C, some d, rfl, J, fun b o q => ?_, ge, hoe, ⟨hc, hd⟩, hdat, h1, ?_, rfl, I1.bare, raises_own T.exC T.tyC, q1 d (I1.hok.fresh M.dbig)⟩
    · by_cases hb : b = e
      · have q' : G'.get? b = some o := q
        rw [hb, ge] at q'; cases q'
      · exact (gk b hb).symm.trans q
    · rw [upd_ne (Ne.symm M.dne)]
      exact I1.hok.fresh M.new
/-- raise BadText(e) -/
def tRaise (C : Addr) (W : WX) (ta : TA) : TS := fun _ σ H => tMk C ta σ H fun cls d H' => W cls d σ H'
theorem ps_raiseO {a : Expr} {ta : TA} {W : WX} {p pos pos2 : Pos} {k : Nat} (hc : X.calm = true) (T : Txt X.prog X.K X.mg C fI) (hr : Room k X.A) (tk : Takes X W) (ha : PA X [a] ta) (hg : Gl X "BadText" := by rfl)
    (he : starEach (a :: []) X.env = (false, eval a X.env) :: starEach [] X.env := by rfl) (hpl : (backTo pos (starEach [] X.env)).any (·.1) = false := by rfl) :
    PS X (.Raise (some (.Call (.Name "BadText" p) [a] [] pos)) none pos2) (tRaise C W ta) := ps_raise hc tk (pmk T hr ha hg he hpl)
/-- x.at, x the exception that the suite holds (at a; its class cls, its dict d) -/
def tFld (C : Addr) (a : Addr) (cls : Value) (d : Option Addr) (te : TE) : TE := fun σ H Q => te σ H fun x H1 => x = .ref a ∧ cls = .ref C ∧ ∃ (dd : Addr) (v : V), d = some dd ∧ H1 dd = some (.xd [(("at" : Str), v)]) ∧ Q v H1
theorem pe_own {a : Addr} {oe : Obj} {cls : Value} {d : Option Addr} {pn : List (Addr × Obj)} {e : Expr} {te : TE} {pos : Pos} (T : Txt X.prog X.K X.mg C fI) (hz : Zc cls d oe) (hf : ∃ vs, oe.data = .fields vs) (he : PE (X.suite a ((a, oe) :: pn)) e te)
    (hb : attributeBase e "at" X.env (eval e X.env) = eval e X.env := by rfl) :
    PE (X.suite a ((a, oe) :: pn)) (.Attribute e "at" pos) (tFld C a cls d te) := by
  refine ⟨fun pins s σ H Q I h => ?_⟩
  refine attr_of hb (thn (he.run pins s σ H _ I h) fun u s1 hh => ?_)
  obtain ⟨x, H1, I1, rx, ex, ec, dd, v, ed, ea, q⟩ := hh
  subst ex
  obtain rfl : u = Value.ref a := rx
  subst ec
  subst ed
  obtain ⟨ha, _⟩ := I1.pin (a, oe) (List.mem_append_left _ List.mem_cons_self)
  obtain ⟨vs, hd⟩ := hf
  have hx : ObjOk X.prog X.w H1 s1.heap dd (.xd [(("at" : Str), v)]) := I1.hok dd _ ea
  obtain ⟨mA, hns, hr⟩ := hx
  obtain ⟨od, ho, hl⟩ := lookIn_ns hns
  have l : List.lookup ("at" : Str) [(("at" : Str), v)] = some v := by simp [List.lookup]
  obtain ⟨u, hu, ru⟩ := RelO.some_of (v := v) (o := mA "at") (by rw [← l]; exact hr "at")
  have J : PySem.W.InstAt s1.heap a oe C (some od) := ⟨ha, hz.1, by unfold PySem.W.notCls; rw [hd] <;> rfl, by rw [hz.2]; exact ho⟩
  exact HandSPX.exc_get I1.kIn J T.ga T.gg T.exC (PySem.W.findObj_own T.hdC T.noN rfl (by rw [hl, hu])) (handed_of ru) ⟨v, H1, I1.tok _, ru, q⟩
end
end T82.BadTextX
namespace T82.BadMachineX
open PySem PySem.W PySem.Calls PyProof.Rows PySem.HandSPX
abbrev eP : Arguments := L2.defArgs s_BadMachine
abbrev eB : List Stmt := L2.defBody s_BadMachine
abbrev eS : Scope := L2.defScope s_BadMachine
/-- what the written part says of the class, at C, and of its __init__, at fI -/
structure Txt (P : Program) (K : Frag) (mg : Str → Option Value) (C fI : Addr) : Prop where
  gC : mg "BadMachine" = some (.ref C)
  cls : ∃ nm q N bs bm sn sub ab col dd k0 k1 k2 k3 k5, K.lookup C = some (excClassObj nm q C N bs bm true sn sub ab col dd k0 k1 k2 k3 k5 "ValueError.__new__") ∧ refsVE bm = true
  sa : findIn K (.ref C) "__setattr__" = some (some (.builtin "object.__setattr__"))
  ga : findIn K (.ref C) "__getattribute__" = some (some (.builtin "BaseException.__getattribute__"))
  gg : findIn K (.ref C) "__getattr__" = some none
  noN : findIn K (.ref C) "part" = some none
  iC : findIn K (.ref C) "__init__" = some (some (.ref fI))
  tC : typeIn K (.ref fI) = some (.type "function")
  kC : keepIn K (.ref C) = true
  exC : subIn K (.ref C) (.type "BaseException") = some true
  veC : subIn K (.ref C) (.type "ValueError") = some true
  tyC : typeIn K (.ref C) = some (.type "type")
  hdC : hasDictIn K C = true
  own : mroIn K C (.ref C) = some true
  opq : nsIn K cStatics "thirdparty.any" = some none
  up : ks_superIn K C C "__init__" = some (some (.builtin "ValueError.__init__"))
  nos : mg "super" = none
  top : (P.main.scope.names.lookup ("super" : Str)).isSome = false
  fn : ∃ (oc : Value) (od : Option Addr) (doc pm : Value) (an : Option Addr) (cda : Addr) (ct : Value) (osl : Array (Option Value)) (cc : Addr) (ccl : Value) (cdd : Option Addr) (vs : Array Value) (ccs : Array (Option Value)) (file : Str) (tf : Tok) (cl : Value) (cld : Option Addr) (csl : Array (Option Value)),
    K.lookup fI = some ⟨oc, od, .func (ksFn "__init__" "BadMachine.__init__" eP eB eS .none .none doc pm an (.ref cda) ct cc), osl⟩ ∧ codeIn K (.ref cda) "BadMachine.__init__" = true ∧
    K.lookup cda = some ⟨ccl, cdd, .fields vs, ccs⟩ ∧ vs[2]? = some (.str file tf) ∧ ((P.main.file : Str) == file) = true ∧ K.lookup cc = some ⟨cl, cld, .cell (some (.ref C)), csl⟩
/-- what __init__ leaves of a fresh exception at x -/
structure Done (h h' : Heap) (x C dx : Addr) (v : Value) : Prop where
  keep : ∀ b o, b ≠ x → h.get? b = some o → h'.get? b = some o
  obj : ∃ t1 : Addr, h'.get? x = some { cls := .ref C, dict := some dx, data := .fields #[.ref t1, .none, .none, .none, .bool false, .none] }
  dbig : h.objs.size ≤ dx
  dne : dx ≠ x
  ns : h'.Ns1 dx (fun y => if y = "part" then some v else none)
section
variable {P : Program} {w : World} {A : Around} {R : Result → Shared → Prop} {s : Shared} {K : Frag} {mg : Str → Option Value} {C fI : Addr}
theorem init_ok (T : Txt P K mg C fI) {x t0 : Addr} {v : Value} (X : K.In s.heap) (glob : s.heap.Ns mainGlobals mg) (blt : ∃ mb, s.heap.Ns builtinsNs mb ∧ ∀ y : Str, y ≠ "__name__" → mb y = bootBuiltins y) (hlim : s.heap.NoLimit) (hx : s.heap.get? x = some (excO C t0)) (hnx : ∀ {o}, K.lookup x = some o → False) (hroom : A.depth < recursionLimit)
    (hq : ∀ h' tk dx, Done s.heap h' x C dx v → R (.ok (.ret .none)) { s with heap := h', toks := tk }) :
    codeAny (model P w) A (.call (.ref fI) ⟨[.ref x, v], []⟩) R s := by
  obtain ⟨oc, od, doc, pm, an, cda, ct, osl, cc, ccl, cdd, vs, ccs, file, tf, cl, cld, csl, ho, hcd, hcode, hvs, hfile, hcell⟩ := T.fn
  obtain ⟨nm, q, N, bs, bm, sn, sub, ab, col, dd, k0, k1, k2, k3, k5, hC, hbm⟩ := T.cls
  have hcl : clsIn K C = some { name := nm, bases := bs, mro := .ref C :: bm, ns := N, qualname := q, hasDict := true, slotNames := sn, subclasses := sub, abstract := ab, collection := col, hasDel := false } := by unfold clsIn; rw [hC] <;> rfl
  obtain ⟨mb, hb1, hb2⟩ := blt
  refine ks_codeAny_call_defAt (fd := ksFn "__init__" "BadMachine.__init__" eP eB eS .none .none doc pm an (.ref cda) ct cc) (body := eB) (binds := [("self", .ref x), ("part", v)]) hroom (X _ _ ho) rfl hlim (codeRec_of X hcd) rfl
    (BindsTo.of_eq (by first | rfl | with_unfolding_all rfl)) (show ∀ y ∈ eS.names, y.2 ≠ .cell by decide +kernel) (fun y hy => by
      simp only [List.mem_cons, List.not_mem_nil, or_false] at hy
      rcases hy with rfl | rfl <;> rfl) (fun h₁ hns k => ?_)
  have X₁ : K.In h₁ := X.keeps k
  have hx₁ := k _ _ hx
  have hC₁ := X₁ _ _ hC
  have lx : s.heap.objs.size ≠ x := Nat.ne_of_gt (Heap.lt_size hx)
  refine ks_wpAt_execs_cons (ks_wpAt_Expr_any (ks_wpAt_MethodCall (ks_wpAt_super_base (f := fI) (cc := cda) rfl rfl (by decide) rfl (X₁ _ _ ho) rfl (by first | rfl | with_unfolding_all rfl) rfl (X₁ _ _ hcode) rfl hvs hfile T.top ?_)))
  refine ks_loadName_global rfl rfl (loadGlobal_builtin (glob.keeps k) T.nos (hb1.keeps k) ((hb2 "super" (by decide)).trans (by decide +kernel)) ⟨rfl, ?_⟩)
  refine wpAny_loadName_free rfl rfl rfl ⟨_, X₁ _ _ hcell, rfl⟩ ?_
  refine wpAny_loadName_local rfl rfl hns (v := .ref x) (by first | rfl | with_unfolding_all rfl | kernel_rfl) ?_
  refine ks_wpAny_isType_cls hC₁ rfl ⟨rfl, ?_⟩
  refine ks_wpAny_call_super hC₁ rfl hx₁ rfl (fun c e => by cases e) (looks_mroIn X₁ T.own) (fun h₂ at2 k2 => ?_)
  have X₂ : K.In h₂ := X₁.keeps k2
  have hx₂ := k2 _ _ hx₁
  have I₂ : InstAt h₂ x (excO C t0) C none := ⟨hx₂, rfl, rfl, trivial⟩
  have up := T.up
  unfold ks_superIn at up
  rw [hcl] at up
  refine kxs_getMethod kxs_ValueError at2 (looks_opaque X₂ T.opq) (l₀ := .ref C :: bm) (fun A Q E s k q => wpAny_bind ((looks_clsIn X₂ hcl) A _ E s k (wpAny_pure q))) rfl X₂ up (I₂.type.andThen (looks_subIn X₂ T.veC)) (ks_ne X₂ I₂ hcl) (by decide) ?_
  have k3 : ∀ b o, h₂.get? b = some o → (h₂.push (kxs_mw "ValueError.__init__" x)).get? b = some o := fun b o e => Heap.get?_push_of_some _ e
  have at3 : (h₂.push (kxs_mw "ValueError.__init__" x)).get? h₂.objs.size = some (kxs_mw "ValueError.__init__" x) := Heap.get?_push_size _ rfl
  generalize h₂.push (kxs_mw "ValueError.__init__" x) = h₃ at k3 at3
  refine kxs_callWith (i := "ValueError.__init__") (x := x) rfl (evalArgs_plain ?_)
  refine spliced_cons ?_
  refine wpAny_Constant_str (k := 0) (pos := ⟨0, 0, 0, 0⟩) ?_
  refine spliced_nil ⟨at3, ?_⟩
  have X₃ : K.In h₃ := X₂.keeps k3
  have hx₃ := k3 _ _ hx₂
  refine wpAny_call (codeAny_of_tree ?_)
  show wpAny _ _ (callAny (.ref h₂.objs.size) ⟨_, []⟩) _ _ _
  simp only [callAny]
  refine wpAny_bind (wpAny_load at3 ?_)
  simp only [kxs_mw, show (Value.type "method-wrapper" == Value.type "method" || Value.type "method-wrapper" == Value.type "builtin_function_or_method" || Value.type "method-wrapper" == Value.type "method-wrapper") = true by decide, if_true]
  refine KFB.if_so (by decide) ?_
  refine wpAny_bind (check_bound_init F.excBase_ValueError.toExcCallFacts (X₃ _ _ hC) hx₃ rfl ?_)
  refine wpAny_bind (wpAny_pure (wpAny_pure ?_))
  refine ⟨plainId_quiet F.excBase_ValueError.init.plain _, codeAny_builtin F.excBase_ValueError.initEntry ?_⟩
  refine exc_init_tree (cls := .ref C) (t0 := t0) (dv := none) (c2 := .none) (c3 := .none) (b4 := .bool false) hx₃ (T82.ExcX.one_size _) fun h₄ k4 hx4 t4 => ?_
  have hns4 : h₄.Ns s.heap.objs.size _ := hns.at (fun o q => k4 _ _ lx (k3 _ _ (k2 _ _ q)))
  have nx : ∀ {a o}, K.lookup a = some o → a ≠ x := fun {a o} e z => by
    subst z
    exact hnx e
  have X₄ : K.In h₄ := fun a o e => k4 a o (nx e) (X₃ a o e)
  show PySem.wpAt _ _ _ (execs _ _) _ _ _
  refine wpAt_of_wpAny (wpAny_execs_cons (plainObj_wpAny_Assign_Attribute ?_))
  refine wpAny_Name (wpAny_loadName_local rfl rfl hns4 (v := v) (by first | rfl | with_unfolding_all rfl | kernel_rfl) ?_) (by decide)
  refine wpAny_Name (wpAny_loadName_local rfl rfl hns4 (v := .ref x) (by first | rfl | with_unfolding_all rfl | kernel_rfl) ?_) (by decide)
  refine set_plain X₄ (ox := excO C h₃.objs.size) (od := none) ⟨hx4, rfl, rfl, trivial⟩ T.sa ?_
  refine exc_osa X₄ hx4 hcl (show refsVE (.ref C :: bm) = true from hbm) rfl T.noN (fun h₅ tk₅ dx k₅ dn dne hx₅ hn₅ => ?_)
  show wpAny _ _ (execs _ _) _ _ _
  have sz : s.heap.objs.size < h₄.objs.size := hns4.lt
  exact wpAny_execs_nil (hq h₅ tk₅ dx ⟨fun b o hb e => k₅ b o hb (k4 b o hb (k3 b o (k2 b o (k b o e)))), ⟨_, hx₅⟩, Nat.le_trans (Nat.le_of_lt sz) dn, dne, hn₅⟩)
/-- a made one -/
structure OwnMade (h h' : Heap) (e C d : Addr) (v : Value) : Prop where
  keep : ∀ b o, h.get? b = some o → h'.get? b = some o
  new : h.objs.size ≤ e
  obj : ∃ oe vs, h'.get? e = some oe ∧ oe.cls = .ref C ∧ oe.dict = some d ∧ oe.data = .fields vs ∧ vs[1]? = some .none
  dbig : h.objs.size ≤ d
  dne : d ≠ e
  ns : h'.Ns1 d (fun y => if y = "part" then some v else none)
theorem made (T : Txt P K mg C fI) {v : Value} (X : K.In s.heap) (glob : s.heap.Ns mainGlobals mg) (blt : ∃ mb, s.heap.Ns builtinsNs mb ∧ ∀ y : Str, y ≠ "__name__" → mb y = bootBuiltins y) (hlim : s.heap.NoLimit) (hroom : A.depth + 1 < recursionLimit)
    (hq : ∀ h' tk e d, OwnMade s.heap h' e C d v → R (.ok (.ret (.ref e))) { s with heap := h', toks := tk }) :
    codeAny (model P w) A (.call (.ref C) ⟨[v], []⟩) R s := by
  obtain ⟨nm, q, N, bs, bm, sn, sub, ab, col, dd, k0, k1, k2, k3, k5, hC, hbm⟩ := T.cls
  obtain ⟨hp, g, dr, tk, os⟩ := s
  have k : ∀ b o, hp.get? b = some o → ((hp.push (kdv_tup [v])).push (excO C hp.objs.size)).get? b = some o := fun b o e => Heap.get?_push_of_some _ (Heap.get?_push_of_some _ e)
  have hget : ((hp.push (kdv_tup [v])).push (excO C hp.objs.size)).get? (hp.objs.size + 1) = some (excO C hp.objs.size) := by heap_get
  have hnx : ∀ {o}, K.lookup (hp.objs.size + 1) = some o → False := by
    intro o e
    have z : hp.get? (hp.objs.size + 1) = some o := X _ _ e
    exact absurd (Nat.lt_of_succ_lt (Heap.lt_size z)) (Nat.lt_irrefl _)
  refine call_own F.excBase_ValueError (fun X => refsVE_contains X bm hbm) (X _ _ hC) (looks_findIn X T.iC) (fun self => bind_fn X self T.tC) (T82.ExcX.one_size v) ?_
  obtain ⟨mb, b1, b2⟩ := blt
  refine init_ok (s := ⟨(hp.push (kdv_tup [v])).push (excO C hp.objs.size), g, dr, tk, os⟩) T (X.keeps k) (glob.keeps k) ⟨mb, b1.keeps k, b2⟩ (hlim.keeps k) hget hnx ?_ fun h' tk' dx ⟨k', ⟨t1, hx⟩, dn, dne, hns⟩ => ?_
  · show A.depth + 1 < recursionLimit
    exact hroom
  · have old : ∀ b o, hp.get? b = some o → h'.get? b = some o := fun b o e => k' b o (Nat.ne_of_lt (Nat.lt_succ_of_lt (Heap.lt_size e))) (k b o e)
    have z : hp.objs.size + 1 + 1 ≤ dx := by
      first
        | (simpa only [Heap.size_push] using dn)
        | exact dn
        | (have q := dn; rw [Heap.size_push, Heap.size_push] at q; exact q)
    exact ⟨rfl, hq h' tk' (hp.objs.size + 1) dx ⟨old, Nat.le_succ _, ⟨_, _, hx, rfl, rfl, rfl, rfl⟩, Nat.le_trans (Nat.le_trans (Nat.le_succ _) (Nat.le_succ _)) z, dne, hns⟩⟩
end
end T82.BadMachineX
namespace T82.BadMachineX
open PySem L2 PyProof.Rows
theorem relO_f {v : V} {v' : Value} (r : RelV v v') (f : Str) : RelO (List.lookup f [(("part" : Str), v)]) (if f = "part" then some v' else none) := by
  by_cases hw : f = "part"
  · subst hw
    rw [if_pos rfl]
    have q : List.lookup ("part" : Str) [(("part" : Str), v)] = some v := by simp [List.lookup]
    rw [q]
    exact r
  · rw [if_neg hw]
    have qw : (f == ("part" : Str)) = false := by simpa using hw
    have q2 : List.lookup f [(("part" : Str), v)] = none := by simp [List.lookup, qw]
    rw [q2]
    trivial
section
variable {X : Cx} {C fI : Addr}
/-- BadMachine(e) -/
def tMk (C : Addr) (ta : TA) : L2.St → Hp → XK → Prop := fun σ H Q => ta σ H fun vs H1 => ∃ v, vs = [v] ∧ ∀ d, H1 d = none → Q (.ref C) (some d) (upd H1 d (.xd [(("part" : Str), v)]))
theorem pmk {a : Expr} {ta : TA} {p pos : Pos} {k : Nat} (T : Txt X.prog X.K X.mg C fI) (hr : Room k X.A) (ha : PA X [a] ta) (hg : Gl X "BadMachine" := by rfl)
    (he : starEach (a :: []) X.env = (false, eval a X.env) :: starEach [] X.env := by rfl) (hpl : (backTo pos (starEach [] X.env)).any (·.1) = false := by rfl) :
    PMk X (.Call (.Name "BadMachine" p) [a] [] pos) (tMk C ta) := by
  intro pins s σ H Q I h
  refine wpAny_Call_Name_kw (ld_glob I hg T.gC ?_)
  refine PySem.W.callWith_K (h₀ := X.base) I.ok.mod.kin T.kC (thn (ha.run pos pins s σ H _ I h) fun us s1 hh => ?_) he hpl
  obtain ⟨vs, H1, I1, r1, v, ev, q1⟩ := hh
  subst ev
  refine ⟨I1.kIn, ?_⟩
  cases r1 with
  | cons rv rn =>
    rename_i v' us'
    cases rn
    show wpAny _ _ (call (.ref C) [v']) _ _ _
    have hlim := I1.nolimit
    have hglob := I1.ok.mod.glob.keeps I1.bk
    have hblt : ∃ mb, s1.heap.Ns builtinsNs mb ∧ ∀ y : Str, y ≠ "__name__" → mb y = bootBuiltins y := let ⟨mb, b1, b2⟩ := I1.ok.mod.blt; ⟨mb, b1.keeps I1.bk, b2⟩
    obtain ⟨hp, g, dr, tk, os⟩ := s1
    refine wpAny_call (made T I1.kIn hglob hblt hlim (by have := hr.dp; omega) fun h' tk' e d M => ?_)
    show MkP X pins σ Q (.ref e) ⟨h', g, dr, tk', os⟩
    obtain ⟨oe, fv, hoe, hc, hd, hdat, h1⟩ := M.obj
    have hns := M.ns
    obtain ⟨G', g1, g2⟩ := restrict h' fun b => decide (b ≠ e)
    have gk : ∀ b, b ≠ e → G'.get? b = h'.get? b := fun b hb => g1 b (decide_eq_true hb)
    have ge : G'.get? e = none := g2 e (by simp)
    have old : ∀ b o, hp.get? b = some o → G'.get? b = some o := fun b o q => (gk b (Nat.ne_of_lt (Nat.lt_of_lt_of_le (Heap.lt_size q) M.new))).trans (M.keep b o q)
    have ob : ObjOk X.prog X.w (upd H1 d (.xd [(("part" : Str), v)])) G' d (.xd [(("part" : Str), v)]) :=
      ⟨_, hns.at (fun o q => (gk d M.dne).trans q), fun f => relO_f rv f⟩
    have J : Inv X pins σ (upd H1 d (.xd [(("part" : Str), v)])) ⟨G', g, dr, tk', os⟩ := I1.laid (t' := tk') old M.dbig ob
    refine ⟨e, oe, fv, ⟨G', g, dr, tk', os⟩, _, .ref C, some d, rfl, J, fun b o q => ?_, ge, hoe, ⟨hc, hd⟩, hdat, h1, ?_, rfl, I1.bare, raises_own T.exC T.tyC, q1 d (I1.hok.fresh M.dbig)⟩
    · by_cases hb : b = e
      · have q' : G'.get? b = some o := q
        rw [hb, ge] at q'; cases q'
      · exact (gk b hb).symm.trans q
    · rw [upd_ne (Ne.symm M.dne)]
      exact I1.hok.fresh M.new
/-- raise BadMachine(e) -/
def tRaise (C : Addr) (W : WX) (ta : TA) : TS := fun _ σ H => tMk C ta σ H fun cls d H' => W cls d σ H'
theorem ps_raiseO {a : Expr} {ta : TA} {W : WX} {p pos pos2 : Pos} {k : Nat} (hc : X.calm = true) (T : Txt X.prog X.K X.mg C fI) (hr : Room k X.A) (tk : Takes X W) (ha : PA X [a] ta) (hg : Gl X "BadMachine" := by rfl)
    (he : starEach (a :: []) X.env = (false, eval a X.env) :: starEach [] X.env := by rfl) (hpl : (backTo pos (starEach [] X.env)).any (·.1) = false := by rfl) :
    PS X (.Raise (some (.Call (.Name "BadMachine" p) [a] [] pos)) none pos2) (tRaise C W ta) := ps_raise hc tk (pmk T hr ha hg he hpl)
/-- x.part, x the exception that the suite holds (at a; its class cls, its dict d) -/
def tFld (C : Addr) (a : Addr) (cls : Value) (d : Option Addr) (te : TE) : TE := fun σ H Q => te σ H fun x H1 => x = .ref a ∧ cls = .ref C ∧ ∃ (dd : Addr) (v : V), d = some dd ∧ H1 dd = some (.xd [(("part" : Str), v)]) ∧ Q v H1
theorem pe_own {a : Addr} {oe : Obj} {cls : Value} {d : Option Addr} {pn : List (Addr × Obj)} {e : Expr} {te : TE} {pos : Pos} (T : Txt X.prog X.K X.mg C fI) (hz : Zc cls d oe) (hf : ∃ vs, oe.data = .fields vs) (he : PE (X.suite a ((a, oe) :: pn)) e te)
    (hb : attributeBase e "part" X.env (eval e X.env) = eval e X.env := by rfl) :
    PE (X.suite a ((a, oe) :: pn)) (.Attribute e "part" pos) (tFld C a cls d te) := by
  refine ⟨fun pins s σ H Q I h => ?_⟩
  refine attr_of hb (thn (he.run pins s σ H _ I h) fun u s1 hh => ?_)
  obtain ⟨x, H1, I1, rx, ex, ec, dd, v, ed, ea, q⟩ := hh
  subst ex
  obtain rfl : u = Value.ref a := rx
  subst ec
  subst ed
  obtain ⟨ha, _⟩ := I1.pin (a, oe) (List.mem_append_left _ List.mem_cons_self)
  obtain ⟨vs, hd⟩ := hf
  have hx : ObjOk X.prog X.w H1 s1.heap dd (.xd [(("part" : Str), v)]) := I1.hok dd _ ea
  obtain ⟨mA, hns, hr⟩ := hx
  obtain ⟨od, ho, hl⟩ := lookIn_ns hns
  have l : List.lookup ("part" : Str) [(("part" : Str), v)] = some v := by simp [List.lookup]
  obtain ⟨u, hu, ru⟩ := RelO.some_of (v := v) (o := mA "part") (by rw [← l]; exact hr "part")
  have J : PySem.W.InstAt s1.heap a oe C (some od) := ⟨ha, hz.1, by unfold PySem.W.notCls; rw [hd] <;> rfl, by rw [hz.2]; exact ho⟩
  exact HandSPX.exc_get I1.kIn J T.ga T.gg T.exC (PySem.W.findObj_own T.hdC T.noN rfl (by rw [hl, hu])) (handed_of ru) ⟨v, H1, I1.tok _, ru, q⟩
end
end T82.BadMachineX
/-! ### list(zip(a, b)) of two tuples; sorted(set(t)) of a tuple of ints -/
namespace T82
open PySem L2 PyProof.Rows
section
variable {prog : Program} {w : World} {A : Around} {E : Value → Shared → Prop} {s : Shared}
theorem zipH_item {z TI TO T i1 i2 l1 l2 : Addr} {f : Bool} {oT : Obj} {k1 k2 : Nat} {xs ys : Array Value} {x y : Value} {Q : Option Value → Shared → Prop} (D : ZipApart z TI TO i1 i2 l1 l2)
    (hz : IsZipHeld s.heap z TI TO T f) (hT : s.heap.get? T = some oT) (hTI : IsPair s.heap TI (.ref i1) (.ref i2))
    (h1 : s.heap.IsTupleIter i1 l1 k1) (h2 : s.heap.IsTupleIter i2 l2 k2) (hl1 : s.heap.IsTuple l1 xs) (hl2 : s.heap.IsTuple l2 ys) (hx : xs[k1]? = some x) (hy : ys[k2]? = some y)
    (hQ : ∀ h', IsZipHeld h' z TI TO T true → h'.IsTupleIter i1 l1 (k1 + 1) → h'.IsTupleIter i2 l2 (k2 + 1) → IsPair h' s.heap.objs.size x y →
      (∀ c o, c ≠ z → c ≠ i1 → c ≠ i2 → s.heap.get? c = some o → h'.get? c = some o) → Q (some (.ref s.heap.objs.size)) { s with heap := h' }) :
    wpAny (model prog w) A (pyNext (.ref z)) Q E s := by
  have hTy : s.TypeIs (.ref z) "zip" := ⟨_, hz, rfl⟩
  unfold pyNext
  refine wpAny_bind (wpAny_attempt (wpAny_callSpecial?_slot (name := Str.ofString "__next__") hTy F.slot_zip_next (wpAny_call_entry F.slot_zip_next hTy F.entry_zip_next ?_ (F.args_zip_next_1 _))))
  show wpAny _ _ (field (.ref z) 2 >>= _) _ _ _
  refine wpAny_bind (wpAny_field hz rfl (x := .bool false) rfl ?_)
  show wpAny _ _ (field (.ref z) 3 >>= _) _ _ _
  refine wpAny_bind (wpAny_field hz rfl (x := .ref TI) rfl ?_)
  refine wpAny_bind (wpAny_seqItems hTI rfl ?_)
  show wpAny _ _ (Builtin.SmallTypes.ownedTupleIsFree (.ref z) >>= _) _ _ _
  refine wpAny_bind (wpAny_tupleHeld_zip hz hT fun h₁ hz₁ hs₁ => ?_)
  simp only [Bool.false_eq_true, if_false]
  refine wpAny_bind ?_
  rw [← Array.forIn_toList]
  simp only [List.forIn_cons, List.forIn_nil]
  refine wpAny_bind (wpAny_bind (wpAny_holding ?_))
  show wpAny _ _ (Builtin.SmallTypes.nextOf (.ref i1) >>= _) _ _ _
  have at1 : ∀ {b t j} {h h' : Heap} {c : Addr}, h.IsTupleIter b t j → Heap.ExtBut c h h' → b ≠ c → h'.IsTupleIter b t j := fun a e n => a.at fun o q => e _ _ n q
  have tup1 : ∀ {t xs} {h h' : Heap} {c : Addr}, h.IsTuple t xs → Heap.ExtBut c h h' → t ≠ c → h'.IsTuple t xs := fun a e n => by
    obtain ⟨o, ho, r⟩ := a
    exact ⟨o, e _ _ n ho, r⟩
  refine wpAny_bind (wpAny_nextOf_tuple_item (s := { s with heap := h₁ }) (at1 h1 hs₁.extBut D.i1z) (tup1 hl1 hs₁.extBut D.l1z) hx fun h₂ h1₂ hs₂ => wpAny_pure ?_)
  refine wpAny_pure ?_
  refine wpAny_bind (wpAny_bind (wpAny_holding ?_))
  show wpAny _ _ (Builtin.SmallTypes.nextOf (.ref i2) >>= _) _ _ _
  refine wpAny_bind (wpAny_nextOf_tuple_item (s := { s with heap := h₂ }) (at1 (at1 h2 hs₁.extBut D.i2z) hs₂.extBut D.i12.symm) (tup1 (tup1 hl2 hs₁.extBut D.l2z) hs₂.extBut D.l2i1) hy fun h₃ h2₃ hs₃ => wpAny_pure ?_)
  refine wpAny_pure (wpAny_pure ?_)
  show wpAny _ _ (newTuple [x, y] >>= _) _ _ _
  refine wpAny_bind (wpAny_newTuple ?_)
  have hsz : h₃.objs.size = s.heap.objs.size := by rw [hs₃.1, hs₂.1, hs₁.1]
  have hz₃ : IsZipHeld h₃ z TI TO T true := hs₃.extBut _ _ D.i2z.symm (hs₂.extBut _ _ D.i1z.symm hz₁)
  have hk : ∀ c o, c ≠ z → c ≠ i1 → c ≠ i2 → s.heap.get? c = some o → h₃.get? c = some o := fun c o c1 c2 c3 e => hs₃.extBut _ _ c3 (hs₂.extBut _ _ c2 (hs₁.extBut _ _ c1 e))
  have h1₃ : h₃.IsTupleIter i1 l1 (k1 + 1) := at1 h1₂ hs₃.extBut D.i12
  refine wpAny_pure ⟨_, rfl, ?_⟩
  have hp : IsPair (h₃.push { cls := .type "tuple", data := .seq #[x, y] }) h₃.objs.size x y := Heap.get?_push_size _ rfl
  rw [hsz] at hp
  refine wpAny_pure ?_
  show Q (some (.ref h₃.objs.size)) _
  rw [hsz]
  exact hQ _ (Heap.get?_push_of_some _ hz₃) (h1₃.at fun o e => Heap.get?_push_of_some _ e) (h2₃.at fun o e => Heap.get?_push_of_some _ e) hp fun c o c1 c2 c3 e => Heap.get?_push_of_some _ (hk c o c1 c2 c3 e)
theorem zipH_end {z TI TO T i1 i2 l1 l2 : Addr} {f : Bool} {oT : Obj} {k1 k2 : Nat} {xs ys : Array Value} {Q : Option Value → Shared → Prop} (hh : A.handled = none) (D : ZipApart z TI TO i1 i2 l1 l2)
    (hz : IsZipHeld s.heap z TI TO T f) (hT : s.heap.get? T = some oT) (hTI : IsPair s.heap TI (.ref i1) (.ref i2))
    (h1 : s.heap.IsTupleIter i1 l1 k1) (h2 : s.heap.IsTupleIter i2 l2 k2) (hl1 : s.heap.IsTuple l1 xs) (hx : xs[k1]? = none)
    (hQ : ∀ h', (∀ c o, c ≠ z → c ≠ i1 → c ≠ i2 → s.heap.get? c = some o → h'.get? c = some o) → Q none { s with heap := h' }) : wpAny (model prog w) A (pyNext (.ref z)) Q E s := by
  have hTy : s.TypeIs (.ref z) "zip" := ⟨_, hz, rfl⟩
  unfold pyNext
  refine wpAny_bind (wpAny_attempt (wpAny_callSpecial?_slot (name := Str.ofString "__next__") hTy F.slot_zip_next (wpAny_call_entry F.slot_zip_next hTy F.entry_zip_next ?_ (F.args_zip_next_1 _))))
  show wpAny _ _ (field (.ref z) 2 >>= _) _ _ _
  refine wpAny_bind (wpAny_field hz rfl (x := .bool false) rfl ?_)
  show wpAny _ _ (field (.ref z) 3 >>= _) _ _ _
  refine wpAny_bind (wpAny_field hz rfl (x := .ref TI) rfl ?_)
  refine wpAny_bind (wpAny_seqItems hTI rfl ?_)
  show wpAny _ _ (Builtin.SmallTypes.ownedTupleIsFree (.ref z) >>= _) _ _ _
  refine wpAny_bind (wpAny_tupleHeld_zip hz hT fun h₁ hz₁ hs₁ => ?_)
  simp only [Bool.false_eq_true, if_false]
  refine wpAny_bind ?_
  rw [← Array.forIn_toList]
  simp only [List.forIn_cons, List.forIn_nil]
  refine wpAny_bind (wpAny_bind (wpAny_holding ?_))
  show wpAny _ _ (Builtin.SmallTypes.nextOf (.ref i1) >>= _) _ _ _
  have hl1' : h₁.IsTuple l1 xs := by
    obtain ⟨o, ho, r⟩ := hl1
    exact ⟨o, hs₁.extBut _ _ D.l1z ho, r⟩
  refine wpAny_bind (wpAny_nextOf_tuple_end (s := { s with heap := h₁ }) hh (h1.at fun o q => hs₁.extBut _ _ D.i1z q) hl1' hx fun h₂ e hs₂ he => ?_)
  obtain ⟨o, ho, hc⟩ := he
  refine wpAny_bind (wpAny_isInstance (T := "StopIteration") (b := true) ⟨o, ho, hc⟩ isSubtype_stop ?_)
  exact wpAny_pure (hQ h₂ fun c o c1 c2 _ x => hs₂ _ _ c2 (hs₁.extBut _ _ c1 x))
end
/-- the zip as it stands before turn i -/
def ZSt (z TI TO i1 i2 a b : Addr) (i : Nat) (h : Heap) : Prop := (IsZip h z TI TO .none ∨ ∃ T f oT, IsZipHeld h z TI TO T f ∧ h.get? T = some oT ∧ T ∉ [z, TO, i1, i2]) ∧ IsPair h TI (.ref i1) (.ref i2) ∧ (∃ x y, IsPair h TO x y) ∧ h.IsTupleIter i1 a i ∧ h.IsTupleIter i2 b i
/-- pairs, new tuples -/
def PrsAt (K : PySem.W.Frag) (H : Hp) (vs xs ys : List V) (n : Nat) : Prop := vs.length = n ∧ ∀ (i : Nat) v, vs[i]? = some v → ∃ T x y, v = .ref T ∧ xs[i]? = some x ∧ ys[i]? = some y ∧ SqT K H T [x, y]
theorem PrsAt.mono {K : PySem.W.Frag} {H H' : Hp} {vs xs ys : List V} {n : Nat} (k : ∀ a us, SqT K H a us → SqT K H' a us) (h : PrsAt K H vs xs ys n) : PrsAt K H' vs xs ys n := by
  refine ⟨h.1, fun i v e => ?_⟩
  obtain ⟨T, x, y, e1, e2, e3, q⟩ := h.2 i v e
  exact ⟨T, x, y, e1, e2, e3, k _ _ q⟩
section
variable {X : Cx} {pins : List (Addr × Obj)} {σ : L2.St}
theorem zip_fill {A : Around} {R : Result → Shared → Prop} {z TI TO i1 i2 a b L : Addr} {res : Value} {xs ys : List V} {n : Nat} (hh : A.in1.handled = none) (D : ZipApart z TI TO i1 i2 a b) (hx : xs.length = n) (hy : ys.length = n) (hn : n < sizeLine) :
    ∀ (k i : Nat) (s : Shared) (H : Hp) (vs : List V), n - i = k → i ≤ n → Inv X pins σ H s → (∀ c ∈ [z, TI, TO, i1, i2], FpOk X pins H c) → ZSt z TI TO i1 i2 a b i s.heap → H L = some (.lst vs) → SqT X.K H a xs → SqT X.K H b ys → PrsAt X.K H vs xs ys i →
      (∀ s' H' ws, Inv X pins σ H' s' → But L H H' → H' L = some (.lst ws) → PrsAt X.K H' ws xs ys n → R (.ok (.ret res)) s') →
      codeAny (model X.prog X.w) A (.builtin "list.extend.loop" ⟨[.ref L, .ref z, res], []⟩) R s
  | 0, i, s, H, vs, hk, hi, I, hf, st, hL, ha, hb, hp, hR => by
    have ei : i = n := by omega
    subst ei
    refine codeAny_builtin PySem.F.entry_extend_loop ?_
    rw [Around.under_plainId PySem.F.plain_extend_loop _]
    show wpAny _ A.in1 (pyNext (.ref z) >>= _) _ _ s
    obtain ⟨its, rv, p1, _⟩ := I.tuple ha
    obtain ⟨its2, rv2, p2, _⟩ := I.tuple hb
    have l1 := rv.length
    have e1 : its.toArray[i]? = none := by simp; omega
    obtain ⟨hz, hTI, ⟨x0, y0, hTO⟩, h1, h2⟩ := st
    have fin : ∀ h', (∀ c o, c ∉ [z, TI, TO, i1, i2] → s.heap.get? c = some o → h'.get? c = some o) → R (.ok (.ret res)) { s with heap := h' } := fun h' k =>
      hR _ H vs (I.turnedL (t' := s.toks) k hf) (fun _ _ _ e => e) hL hp
    rcases hz with hz | ⟨T, f, oT, hz, hT, _⟩
    · refine wpAny_bind (RZ.pyNext_zipT_end hh D hz hTI hTO h1 h2 p1 p2 (.inl e1) fun h' k => wpAny_pure (fin h' fun c o hc e => k c o (fun q => hc (by simp [q])) (fun q => hc (by simp [q])) (fun q => hc (by simp [q])) (fun q => hc (by simp [q])) e))
    · refine wpAny_bind (zipH_end (ys := its2.toArray) hh D hz hT hTI h1 h2 p1 e1 fun h' k => wpAny_pure (fin h' fun c o hc e => k c o (fun q => hc (by simp [q])) (fun q => hc (by simp [q])) (fun q => hc (by simp [q])) e))
  | k + 1, i, s, H, vs, hk, hi, I, hf, st, hL, ha, hb, hp, hR => by
    have lt : i < n := by omega
    refine codeAny_builtin PySem.F.entry_extend_loop ?_
    rw [Around.under_plainId PySem.F.plain_extend_loop _]
    show wpAny _ A.in1 (pyNext (.ref z) >>= _) _ _ s
    obtain ⟨its, rv, p1, _⟩ := I.tuple ha
    obtain ⟨its2, rv2, p2, _⟩ := I.tuple hb
    have ex : xs[i]? = some xs[i] := List.getElem?_eq_getElem (by omega)
    have ey : ys[i]? = some ys[i] := List.getElem?_eq_getElem (by omega)
    obtain ⟨u, hu, ru⟩ := rv.get ex
    obtain ⟨u2, hu2, ru2⟩ := rv2.get ey
    obtain ⟨hz, hTI, ⟨x0, y0, hTO⟩, h1, h2⟩ := st
    have hzl : z < s.heap.objs.size := by
      rcases hz with hz | ⟨T, f, oT, hz, _⟩ <;> exact Heap.lt_size hz
    have lts : ∀ c ∈ [z, TI, TO, i1, i2], c < s.heap.objs.size := fun c hcm => by
      have e' : c = z ∨ c = TI ∨ c = TO ∨ c = i1 ∨ c = i2 := by simpa using hcm
      rcases e' with q | q | q | q | q
      · rw [q]; exact hzl
      · rw [q]; exact Heap.lt_size hTI
      · rw [q]; exact Heap.lt_size hTO
      · rw [q]; obtain ⟨_, e1, _⟩ := h1; exact Heap.lt_size e1
      · rw [q]; obtain ⟨_, e2, _⟩ := h2; exact Heap.lt_size e2
    have nf : H s.heap.objs.size = none := I.hok.fresh (Nat.le_refl _)
    have nL : L ≠ s.heap.objs.size := fun q => by rw [q, nf] at hL; cases hL
    have go : ∀ h', (∃ f, IsZipHeld h' z TI TO s.heap.objs.size f ∨ ∃ T oT, IsZipHeld h' z TI TO T f ∧ h'.get? T = some oT ∧ T ∉ [z, TO, i1, i2]) → IsPair h' TI (.ref i1) (.ref i2) → (∃ x y, IsPair h' TO x y) → h'.IsTupleIter i1 a (i + 1) → h'.IsTupleIter i2 b (i + 1) → IsPair h' s.heap.objs.size u u2 →
        (∀ c o, c ∉ [z, TI, TO, i1, i2] → s.heap.get? c = some o → h'.get? c = some o) →
        wpAny (model X.prog X.w) A.in1 (updateSeq L (·.push (.ref s.heap.objs.size)) >>= fun _ => again (.builtin "list.extend.loop" ⟨[.ref L, .ref z, res], []⟩)) (fun fin s' => match fin with | .done f => R (.ok f) s' | .again c' => c'.quiet = true ∧ codeAny (model X.prog X.w) A c' R s') (fun e s' => R (.error e) s') { s with heap := h' } := by
      intro h' hz' hTI' hTO' h1' h2' hT' hk'
      have new : ObjOk X.prog X.w (upd H s.heap.objs.size (.tup [xs[i], ys[i]])) h' s.heap.objs.size (.tup [xs[i], ys[i]]) :=
        ⟨by show 2 ≤ sizeLine; decide, [u, u2], .cons ru (.cons ru2 .nil), ⟨_, hT', rfl, _, rfl⟩⟩
      have I1 : Inv X pins σ (upd H s.heap.objs.size (.tup [xs[i], ys[i]])) { s with heap := h' } := I.turnedNew (t' := s.toks) (ch := [z, TI, TO, i1, i2]) hk' hf (Nat.le_refl _) new
      have hL1 : (upd H s.heap.objs.size (.tup [xs[i], ys[i]])) L = some (.lst vs) := by rw [upd_ne nL]; exact hL
      obtain ⟨zl, itl, m, rl, hll, el⟩ := I1.lstM hL1
      have hvl := hp.1
      have el' : h'.get? L = some { cls := .type "list", data := .seq itl.toArray m } := el
      have hLz : ∀ c ∈ [z, TI, TO, i1, i2], c ≠ L := fun c hc q => by
        have := (hf c hc).1
        rw [q, hL] at this
        cases this
      have k0 : ∀ t us, SqT X.K H t us → SqT X.K (upd H s.heap.objs.size (.tup [xs[i], ys[i]])) t us := fun t us q => keepT (sn nf) q
      have I2 := I1.lset (t' := s.toks) (f := (·.push (.ref s.heap.objs.size))) (its' := itl ++ [.ref s.heap.objs.size]) (ys := vs ++ [.ref s.heap.objs.size]) hL1 el' (by simp) (rl.append (.cons (show RelV (.ref _) (.ref _) from rfl) .nil)) (by rw [List.length_append, List.length_singleton]; omega)
      have k1 : ∀ t us, SqT X.K (upd H s.heap.objs.size (.tup [xs[i], ys[i]])) t us → SqT X.K (upd (upd H s.heap.objs.size (.tup [xs[i], ys[i]])) L (.lst (vs ++ [.ref s.heap.objs.size]))) t us := fun t us q => by
        refine (Keep.upd fun zs r => ?_).sq q
        rcases r with r | ⟨v, r⟩ <;> rw [hL1] at r <;> cases r
      have hT2 : SqT X.K (upd H s.heap.objs.size (.tup [xs[i], ys[i]])) s.heap.objs.size [xs[i], ys[i]] := SqT.of upd_same
      refine wpAny_bind (wpAny_updateSeq (s := { s with heap := h' }) el' rfl (wpAny_pure ⟨plainId_quiet PySem.F.plain_extend_loop _, zip_fill hh D hx hy hn k (i + 1) _ _ (vs ++ [.ref s.heap.objs.size]) (by omega) lt I2 (fun c hc => ?_) ?_ upd_same (k1 _ _ (k0 _ _ ha)) (k1 _ _ (k0 _ _ hb)) ⟨by simp [hvl], fun j v ej => ?_⟩ fun s' H' ws J bt q1 q2 => hR s' H' ws J (fun c o ne e => bt c o ne ?_) q1 q2⟩) (by rw [List.size_toArray]; omega) (by rw [Array.size_push, List.size_toArray]; omega))
      · obtain ⟨f1, f2⟩ := hf c hc
        refine ⟨?_, f2⟩
        rw [upd_ne (hLz c hc), upd_ne (Nat.ne_of_lt (lts c hc))]
        exact f1
      · have up : ∀ c o, c ≠ L → h'.get? c = some o → (h'.update L (Obj.mapSeq (·.push (.ref s.heap.objs.size)))).get? c = some o := fun c o ne e => (Heap.get?_update_other _ _ (Ne.symm ne)).trans e
        have upz := hLz z (by simp)
        refine ⟨.inr ?_, up _ _ (hLz TI (by simp)) hTI', ?_, h1'.at fun o q => up _ _ (hLz i1 (by simp)) q, h2'.at fun o q => up _ _ (hLz i2 (by simp)) q⟩
        · obtain ⟨f, hz' | ⟨T, oT, hz', hT3, nT⟩⟩ := hz'
          · refine ⟨s.heap.objs.size, f, _, up _ _ upz hz', up _ _ (Ne.symm nL) hT', fun hm => ?_⟩
            have : s.heap.objs.size < s.heap.objs.size := lts _ (by
              have hm : s.heap.objs.size = z ∨ s.heap.objs.size = TO ∨ s.heap.objs.size = i1 ∨ s.heap.objs.size = i2 := by simpa using hm
              rcases hm with q | q | q | q <;> simp [← q])
            exact Nat.lt_irrefl _ this
          · by_cases eT : T = L
            · exact ⟨T, f, _, up _ _ upz hz', by rw [eT]; exact Heap.get?_update_self _ el' rfl, nT⟩
            · exact ⟨T, f, _, up _ _ upz hz', up _ _ eT hT3, nT⟩
        · obtain ⟨x, y, q⟩ := hTO'
          exact ⟨x, y, up _ _ (hLz TO (by simp)) q⟩
      · rw [List.getElem?_append] at ej
        split at ej
        · obtain ⟨T, x, y, e1, e2, e3, q⟩ := hp.2 j v ej
          exact ⟨T, x, y, e1, e2, e3, k1 _ _ (k0 _ _ q)⟩
        · have : j - vs.length = 0 := by
            rw [List.getElem?_eq_some_iff] at ej
            obtain ⟨h, _⟩ := ej
            simp at h
            omega
          rw [this] at ej
          have : j = i := by omega
          subst this
          cases ej
          exact ⟨_, _, _, rfl, ex, ey, k1 _ _ hT2⟩
      · rw [upd_ne ne, upd_ne (fun q => by rw [q, nf] at e; cases e)]
        exact e
    rcases hz with hz | ⟨T, f, oT, hz, hT, nT⟩
    · refine wpAny_bind (RZ.pyNext_zipT_item D hz hTI hTO h1 h2 p1 p2 (x := u) (y := u2) (by simpa using hu) (by simpa using hu2) fun h' z' TO' h1' h2' hT sz hk => ?_)
      refine go h' ⟨false, .inl z'⟩ (hk _ _ D.TIz D.TITO D.TIi1 D.TIi2 hTI) ⟨_, _, TO'⟩ h1' h2' hT fun c o hc e => hk c o (fun q => hc (by simp [q])) (fun q => hc (by simp [q])) (fun q => hc (by simp [q])) (fun q => hc (by simp [q])) e
    · refine wpAny_bind (zipH_item D hz hT hTI h1 h2 p1 p2 (x := u) (y := u2) (by simpa using hu) (by simpa using hu2) fun h' z' h1' h2' hT' hk => ?_)
      refine go h' ⟨true, .inr ⟨T, oT, z', hk _ _ (fun q => nT (by simp [q])) (fun q => nT (by simp [q])) (fun q => nT (by simp [q])) hT, nT⟩⟩ (hk _ _ D.TIz D.TIi1 D.TIi2 hTI) ⟨x0, y0, hk _ _ D.TOz D.TOi1 D.TOi2 hTO⟩ h1' h2' hT' fun c o hc e => hk c o (fun q => hc (by simp [q])) (fun q => hc (by simp [q])) (fun q => hc (by simp [q])) e
end
def tLZ (K : PySem.W.Frag) (ta : TA) : TE := fun σ H Q => ta σ H fun vs H1 => ∃ a b xs ys, vs = [.ref a, .ref b] ∧ SqT K H1 a xs ∧ SqT K H1 b ys ∧ xs.length = ys.length ∧ xs.length < sizeLine ∧ ∀ p G ws, Same H1 G → G p = some (.lst ws) → PrsAt K G ws xs ys xs.length → Q (.ref p) G
theorem updTwice {H : Hp} {a : Addr} {o o' : HO} : upd (upd H a o) a o' = upd H a o' := by
  funext c
  by_cases e : c = a
  · subst e; rw [upd_same, upd_same]
  · rw [upd_ne e, upd_ne e, upd_ne e]
theorem zip_no_len : typeLookup (.type "zip") "__len__" = pure none := am_miss_of_fast (by decide +kernel)
theorem zip_no_hint : typeLookup (.type "zip") "__length_hint__" = pure none := am_miss_of_fast (by decide +kernel)
theorem list_zip {X : Cx} {pins : List (Addr × Obj)} {σ : L2.St} {H : Hp} {s : Shared} {z TI TO i1 i2 a b : Addr} {xs ys : List V} {A : Around} {Q : Value → Shared → Prop} {E : Value → Shared → Prop} (hh : A.handled = none) (D : ZipApart z TI TO i1 i2 a b) (I : Inv X pins σ H s)
    (hf : ∀ c ∈ [z, TI, TO, i1, i2], FpOk X pins H c) (hz0 : IsZip s.heap z TI TO .none) (st : ZSt z TI TO i1 i2 a b 0 s.heap) (ha : SqT X.K H a xs) (hb : SqT X.K H b ys) (hl : xs.length = ys.length) (hn : xs.length < sizeLine)
    (h : ∀ s' p G ws, Inv X pins σ G s' → Same H G → G p = some (.lst ws) → PrsAt X.K G ws xs ys xs.length → Q (.ref p) s') : wpAny (model X.prog X.w) A (call (.type "list") [.ref z]) Q E s := by
  have hzT : ∀ h, ZSt z TI TO i1 i2 a b 0 h → ∃ o, h.get? z = some o ∧ o.cls = .type "zip" := fun h st => by
    rcases st.1 with q | ⟨_, _, _, q, _⟩ <;> exact ⟨_, q, rfl⟩
  have lts : ∀ c ∈ [z, TI, TO, i1, i2], c < s.heap.objs.size := fun c hcm => by
    obtain ⟨o, oz, _⟩ := hzT _ st
    obtain ⟨_, hTI, ⟨_, _, hTO⟩, h1, h2⟩ := st
    have e' : c = z ∨ c = TI ∨ c = TO ∨ c = i1 ∨ c = i2 := by simpa using hcm
    rcases e' with q | q | q | q | q
    · rw [q]; exact Heap.lt_size oz
    · rw [q]; exact Heap.lt_size hTI
    · rw [q]; exact Heap.lt_size hTO
    · rw [q]; obtain ⟨_, e1, _⟩ := h1; exact Heap.lt_size e1
    · rw [q]; obtain ⟨_, e2, _⟩ := h2; exact Heap.lt_size e2
  have nf : H s.heap.objs.size = none := I.hok.fresh (Nat.le_refl _)
  have hSf : s.heap.objs.size ∉ [z, TI, TO, i1, i2] := fun hm => Nat.lt_irrefl _ (lts _ hm)
  have stk : ∀ {h h' : Heap}, ZSt z TI TO i1 i2 a b 0 h → (∀ c o, c ≠ s.heap.objs.size → h.get? c = some o → h'.get? c = some o) → (∃ o, h'.get? s.heap.objs.size = some o) → ZSt z TI TO i1 i2 a b 0 h' := fun {h h'} st k e => by
    obtain ⟨hz, hTI, ⟨x, y, hTO⟩, h1, h2⟩ := st
    have ne : ∀ c ∈ [z, TI, TO, i1, i2], c ≠ s.heap.objs.size := fun c hc q => hSf (q ▸ hc)
    refine ⟨?_, k _ _ (ne TI (by simp)) hTI, ⟨x, y, k _ _ (ne TO (by simp)) hTO⟩, h1.at fun o q => k _ _ (ne i1 (by simp)) q, h2.at fun o q => k _ _ (ne i2 (by simp)) q⟩
    rcases hz with q | ⟨T, f, oT, q, q2, q3⟩
    · exact .inl (k _ _ (ne z (by simp)) q)
    · by_cases eT : T = s.heap.objs.size
      · obtain ⟨o, e⟩ := e
        exact .inr ⟨T, f, o, k _ _ (ne z (by simp)) q, eT ▸ e, q3⟩
      · exact .inr ⟨T, f, oT, k _ _ (ne z (by simp)) q, k _ _ eT q2, q3⟩
  have hfk : ∀ {o : HO}, ∀ c ∈ [z, TI, TO, i1, i2], FpOk X pins (upd H s.heap.objs.size o) c := fun {o} c hc => by
    obtain ⟨f1, f2⟩ := hf c hc
    have ne : c ≠ s.heap.objs.size := fun q => hSf (by rw [← q]; exact hc)
    exact ⟨by rw [upd_ne ne]; exact f1, f2⟩
  refine callType_codes (Q₁ := fun obj s₁ => obj = .ref s.heap.objs.size ∧ s₁ = { s with heap := s.heap.push { cls := .type "list", data := .seq #[] } }) PySem.F.called_list (PySem.F.typeCall_list_1 _) PySem.F.entry_list_init
    (code_list_new _ ⟨rfl, rfl⟩) fun obj s₁ h₁ => ?_
  obtain ⟨rfl, rfl⟩ := h₁
  have hS : (s.heap.push { cls := .type "list", data := .seq #[] }).get? s.heap.objs.size = some { cls := .type "list", data := .seq #[] } := Heap.get?_push_size _ rfl
  refine ⟨⟨_, hS, rfl⟩, PySem.F.args_list_init_2 _ _, ?_⟩
  have I1 : Inv X pins σ (upd H s.heap.objs.size (.lst [])) { s with heap := s.heap.push { cls := .type "list", data := .seq ([] : List Value).toArray } } := I.lnew (t' := s.toks) .nil (Nat.zero_le _)
  have st1 : ZSt z TI TO i1 i2 a b 0 (s.heap.push { cls := .type "list", data := .seq #[] }) := stk st (fun c o _ e => Heap.get?_push_of_some _ e) ⟨_, hS⟩
  show wpAny _ _ (do let old ← Builtin.List.listItems (.ref s.heap.objs.size); Builtin.List.listUpdate (.ref s.heap.objs.size) (fun _ => #[]); letGo old.toList.reverse; Builtin.List.listExtendWith (.ref s.heap.objs.size) (.ref z) .none) _ _ _
  refine wpAny_bind ?_
  unfold Builtin.List.listItems
  refine wpAny_bind (wpAny_seqItems hS rfl (wpAny_pure ?_))
  show wpAny _ _ (updateSeq s.heap.objs.size (fun _ => #[]) >>= fun _ => letGo (#[] : Array Value).toList.reverse >>= fun _ => Builtin.List.listExtendWith (.ref s.heap.objs.size) (.ref z) .none) _ _ _
  refine wpAny_bind (wpAny_updateSeq hS rfl ?_)
  have hS₁ := Heap.get?_update_self (Obj.mapSeq (fun _ => (#[] : Array Value))) hS rfl
  have I2 := I1.lset (t' := s.toks) (its := []) (its' := []) (ys := []) (f := fun _ => (#[] : Array Value)) upd_same hS rfl .nil (Nat.zero_le _)
  rw [updTwice] at I2
  have st2 : ZSt z TI TO i1 i2 a b 0 ((s.heap.push { cls := .type "list", data := .seq #[] }).update s.heap.objs.size (Obj.mapSeq (fun _ => (#[] : Array Value)))) := stk st1 (fun c o ne e => (Heap.get?_update_other _ _ (Ne.symm ne)).trans e) ⟨_, hS₁⟩
  refine wpAny_bind (wpAny_letGo ?_)
  have hz2 : IsZip ((s.heap.push { cls := .type "list", data := .seq #[] }).update s.heap.objs.size (Obj.mapSeq (fun _ => (#[] : Array Value)))) z TI TO .none := (Heap.get?_update_other _ _ (fun q => hSf (by simp [← q]))).trans (Heap.get?_push_of_some _ hz0)
  show wpAny _ _ (Builtin.List.listExtendWith (.ref s.heap.objs.size) (.ref z) .none) _ _ { s with heap := (s.heap.push { cls := .type "list", data := .seq #[] }).update s.heap.objs.size (Obj.mapSeq (fun _ => (#[] : Array Value))) }
  have I2 : Inv X pins σ (upd H s.heap.objs.size (.lst [])) { s with heap := (s.heap.push { cls := .type "list", data := .seq #[] }).update s.heap.objs.size (Obj.mapSeq (fun _ => (#[] : Array Value))) } := I2
  generalize (s.heap.push { cls := .type "list", data := .seq #[] }).update s.heap.objs.size (Obj.mapSeq (fun _ => (#[] : Array Value))) = g1 at hS₁ I2 st2 hz2 ⊢
  unfold Builtin.List.listExtendWith
  obtain ⟨oz, hoz, hcz⟩ := hzT _ st2
  have hT : Shared.TypeIs { s with heap := g1 } (.ref z) "zip" := ⟨_, hoz, hcz⟩
  refine wpAny_bind (wpAny_typeOf hT ?_)
  have h1 : Builtin.List.listSameRef (.ref s.heap.objs.size) (.ref z) = false := by
    have : s.heap.objs.size ≠ z := fun q => hSf (by simp [← q])
    simp [Builtin.List.listSameRef, this]
  have h2 : (Value.type "zip" == Value.type "list") = false := by decide
  have h3 : (Value.type "zip" == Value.type "tuple") = false := by decide
  simp only [h1, h2, h3, Bool.or_false, Bool.false_eq_true, if_false]
  have self : ∀ (A : Around) Q E, Q (.ref z) { s with heap := g1 } → wpAny (model X.prog X.w) A (pyIter (.ref z)) Q E { s with heap := g1 } := fun A Q E q => wpAny_pyIter_zip hz2 q
  refine wpAny_bind (self _ _ _ ?_)
  refine wpAny_bind (wpAny_holding ?_)
  unfold Builtin.List.listLengthHint
  refine wpAny_bind (wpAny_specialOf hT zip_no_len ?_)
  show wpAny _ _ (specialOf (Value.ref z) (Str.ofString "__length_hint__") >>= _) _ _ _
  refine wpAny_bind (wpAny_specialOf hT zip_no_hint ?_)
  refine wpAny_pure ?_
  show wpAny _ _ (rule "list.extend.makes-room" >>= fun _ => Builtin.List.listTouch (.ref s.heap.objs.size) >>= fun _ =>
    again (.builtin "list.extend.loop" ⟨[.ref s.heap.objs.size, .ref z, .none], []⟩)) _ _ _
  refine wpAny_bind (wpAny_rule ?_)
  refine wpAny_bind ?_
  show wpAny _ _ (updateSeq s.heap.objs.size (·.push .none) >>= fun _ => updateSeq s.heap.objs.size (·.pop)) _ _ _
  refine wpAny_bind (wpAny_updateSeq hS₁ rfl ?_)
  have hS₂ := Heap.get?_update_self (Obj.mapSeq (·.push Value.none)) hS₁ rfl
  have I3 := I2.lset (t' := s.toks) (its := []) (its' := [.none]) (ys := [.non]) (f := fun x => x.push Value.none) upd_same hS₁ rfl (.cons (show RelV .non .none from rfl) .nil) (by show 1 ≤ sizeLine; decide)
  rw [updTwice] at I3
  have st3 : ZSt z TI TO i1 i2 a b 0 (g1.update s.heap.objs.size (Obj.mapSeq (·.push Value.none))) := stk st2 (fun c o ne e => (Heap.get?_update_other _ _ (Ne.symm ne)).trans e) ⟨_, hS₂⟩
  refine wpAny_updateSeq (hz := by seq_fits) hS₂ rfl ?_
  have hS₃ := Heap.get?_update_self (Obj.mapSeq (·.pop)) hS₂ rfl
  have I4 := I3.lset (t' := s.toks) (its := [.none]) (its' := []) (ys := []) (f := fun x => x.pop) upd_same hS₂ rfl .nil (Nat.zero_le _)
  rw [updTwice] at I4
  have st4 := stk st3 (h' := (g1.update s.heap.objs.size (Obj.mapSeq (·.push Value.none))).update s.heap.objs.size (Obj.mapSeq (·.pop))) (fun c o ne e => (Heap.get?_update_other _ _ (Ne.symm ne)).trans e) ⟨_, hS₃⟩
  refine wpAny_pure ⟨plainId_quiet PySem.F.plain_extend_loop _, zip_fill (by exact hh) D rfl hl.symm hn xs.length 0 _ _ [] rfl (Nat.zero_le _) I4 hfk st4 upd_same (keepT (sn nf) ha) (keepT (sn nf) hb) ⟨rfl, fun i v e => by simp at e⟩ fun s' H' ws J bt q1 q2 => ⟨rfl, h s' _ H' ws J (fun c o e => ?_) q1 q2⟩⟩
  have ne : c ≠ s.heap.objs.size := fun q => by rw [q, nf] at e; cases e
  exact bt c o ne (by rw [upd_ne ne]; exact e)
section
variable {X : Cx} {K : PySem.W.Frag}
theorem pe_listZip {e e2 : Expr} {ta : TA} {p q pos zpos : Pos} (eK : X.K = K) (hc : X.calm = true) (hg : Gl X "list") (hm : X.mg "list" = none) (hg2 : Gl X "zip") (hm2 : X.mg "zip" = none) (ha : PA X [e, e2] ta)
    (hs : starEach [e, e2] X.env = (false, eval e X.env) :: starEach [e2] X.env := by rfl) (hpl : (backTo zpos (starEach [e2] X.env)).any (·.1) = false := by rfl) :
    PE X (.Call (.Name "list" p) [.Call (.Name "zip" q) [e, e2] [] zpos] [] pos) (tLZ K ta) := by
  subst eK
  refine ⟨fun pins s σ H Q I h => ?_⟩
  refine Call_ (ld_blt I hg hm PyProof.Rows.boot_list ?_)
  refine PyProof.Rows.callWith_type1 (PyProof.Rows.args_cons ?_ rfl) rfl rfl
  refine Call_ (ld_blt I hg2 hm2 PyProof.Rows.boot_zip (PyProof.Rows.callWith_type1 (thn (ha.run zpos pins s σ H _ I h) fun us s1 ⟨vs, H1, I1, r1, q1⟩ => ?_) hs hpl))
  obtain ⟨a, b, xs, ys, ex, hqx, hqy, hl, hn, q⟩ := q1
  subst ex
  cases r1 with
  | cons r rr =>
    cases rr with
    | cons r' rr =>
      cases rr
      cases r
      cases r'
      have fresh5 : ∀ c, c ∈ [s1.heap.objs.size + 4, s1.heap.objs.size + 2, s1.heap.objs.size + 3, s1.heap.objs.size, s1.heap.objs.size + 1] → FpOk X pins H1 c := fun c hcm => by
        have e' : c = s1.heap.objs.size + 4 ∨ c = s1.heap.objs.size + 2 ∨ c = s1.heap.objs.size + 3 ∨ c = s1.heap.objs.size ∨ c = s1.heap.objs.size + 1 := by simpa using hcm
        have hle : s1.heap.objs.size ≤ c := by
          rcases e' with z | z | z | z | z
          · rw [z]; exact Nat.le_add_right _ _
          · rw [z]; exact Nat.le_add_right _ _
          · rw [z]; exact Nat.le_add_right _ _
          · rw [z]; exact Nat.le_refl _
          · rw [z]; exact Nat.le_add_right _ _
        exact I1.fpOk hle (I1.hok.fresh hle)
      obtain ⟨its, rv, p1, _⟩ := I1.tuple hqx
      obtain ⟨its2, rv2, p2, _⟩ := I1.tuple hqy
      obtain ⟨o1, ho1, _⟩ := id p1
      obtain ⟨o2, ho2, _⟩ := id p2
      refine RZ.call_zipT (show s1.heap.IsTuple a its.toArray from p1) (show s1.heap.IsTuple b its2.toArray from p2) fun h' hz hTI hTO h1 h2 hsz hk => ?_
      have I2 : Inv X pins σ H1 { s1 with heap := h' } := I1.kept (t' := s1.toks) hk
      refine PyProof.Rows.args_nil ?_
      exact list_zip (I1.ok.hd hc) (PySem.W.ktu_apart s1.heap.objs.size a b (Heap.lt_size ho1) (Heap.lt_size ho2)) I2 fresh5 hz ⟨.inl hz, hTI, ⟨_, _, hTO⟩, h1, h2⟩ hqx hqy hl hn fun s' p G ws J sm e pr => ⟨.ref p, G, J, rfl, q p G ws sm e pr⟩
/-- set(t), t a tuple of ints -/
def rSetT (w : World) (K : PySem.W.Frag) : List V → Hp → VK → Prop := fun vs H Q => ∃ (a : Addr) (ns : List Int), vs = [.ref a] ∧ SqT K H a (ns.map V.int) ∧ ns.length < 63 ∧ ∀ p c, H p = none → c ≤ ns.length → Q (.ref p) (upd H p (SetO w p (fun j => decide (j ∈ ns)) c))
theorem cSetT (eK : X.K = K) (eW : X.w = w) (hc : X.calm = true) : CallR X (.type "set") (rSetT w K) := by
  subst eK eW
  intro pins s σ H vs us Q I r h
  obtain ⟨a, ns, rfl, hq, hl, q⟩ := h
  obtain ⟨u, rfl, rx⟩ := vals1 r
  cases rx
  obtain ⟨its, rv, pt, hz⟩ := I.tuple hq
  refine call_set_tupI ns (I.ok.hd hc) (show s.heap.IsTuple a its.toArray from pt) (ints_of_vals rv) (by unfold scanBound; omega) fun h' tk c R1 hcn k => ?_
  exact ⟨.ref s.heap.objs.size, _, I.laid (t' := tk) k (Nat.le_refl _) (setO_new R1), rfl, q _ c (I.hok.fresh (Nat.le_refl _)) hcn⟩
theorem cSortSet (eW : X.w = w) (hc : X.calm = true) : CallR X (.builtin "sorted") (rSortedSet w) := by
  subst eW
  exact cr_sortedSet hc
end
end T82
namespace T82
open PySem L2
/-! ### states' kinds -/
def kvE (kvs : List (Int × Str)) : List (Key × V) := kvs.map fun p => (Sum.inl p.1, .str p.2)
def setd (kvs : List (Int × Str)) (p : Int × Str) : List (Int × Str) := if p.1 ∈ kvs.map Prod.fst then kvs else kvs ++ [p]
def setAll (kvs ps : List (Int × Str)) : List (Int × Str) := ps.foldl setd kvs
def Con (kd : Int → Str) (kvs : List (Int × Str)) : Prop := ∀ p ∈ kvs, kd p.1 = p.2
theorem kv_none {i : Int} : ∀ {kvs : List (Int × Str)}, i ∉ kvs.map Prod.fst → valV (kvE kvs) (Sum.inl i : Key) = none
  | [], _ => rfl
  | p :: kvs, h => by
    have e : (Sum.inl p.1 : Key) ≠ Sum.inl i := fun q => h (by rw [← Sum.inl.inj q]; exact List.mem_cons_self)
    unfold kvE
    rw [List.map_cons, valV_neg (p := (Sum.inl p.1, V.str p.2)) e]
    exact kv_none fun q => h (List.mem_cons_of_mem _ q)
theorem kv_some {kd : Int → Str} {i : Int} : ∀ {kvs : List (Int × Str)}, Con kd kvs → i ∈ kvs.map Prod.fst → valV (kvE kvs) (Sum.inl i : Key) = some (.str (kd i))
  | [], _, h => by cases h
  | p :: kvs, c, h => by
    unfold kvE
    rw [List.map_cons]
    by_cases e : p.1 = i
    · subst e
      rw [c p List.mem_cons_self]
      exact valV_pos rfl
    · rw [valV_neg (p := (Sum.inl p.1, V.str p.2)) (fun q => e (Sum.inl.inj q))]
      refine kv_some (fun p hp => c p (List.mem_cons_of_mem _ hp)) ?_
      rcases List.mem_cons.mp h with q | q
      · exact absurd q.symm e
      · exact q
theorem kv_put {kvs : List (Int × Str)} {p : Int × Str} (h : p.1 ∉ kvs.map Prod.fst) : putK (kvE kvs) (Sum.inl p.1) (.str p.2) = kvE (kvs ++ [p]) := by
  rw [putK_new _ (kv_none h)]
  unfold kvE
  rw [List.map_append]
  rfl
theorem setd_old {kvs : List (Int × Str)} {p : Int × Str} (h : p.1 ∈ kvs.map Prod.fst) : setd kvs p = kvs := if_pos h
theorem setd_new {kvs : List (Int × Str)} {p : Int × Str} (h : p.1 ∉ kvs.map Prod.fst) : setd kvs p = kvs ++ [p] := if_neg h
theorem Con.setd {kd : Int → Str} {kvs : List (Int × Str)} {p : Int × Str} (c : Con kd kvs) (h : kd p.1 = p.2) : Con kd (T82.setd kvs p) := by
  by_cases e : p.1 ∈ kvs.map Prod.fst
  · rw [setd_old e]; exact c
  · rw [setd_new e]
    intro q hq
    rcases List.mem_append.mp hq with hq | hq
    · exact c q hq
    · rw [List.mem_singleton.mp hq]; exact h
theorem Con.all {kd : Int → Str} : ∀ {ps kvs : List (Int × Str)}, Con kd kvs → Con kd ps → Con kd (setAll kvs ps)
  | [], _, c, _ => c
  | p :: ps, kvs, c, h => Con.all (ps := ps) (kvs := T82.setd kvs p) (c.setd (h p List.mem_cons_self)) fun q hq => h q (List.mem_cons_of_mem _ hq)
theorem setd_keys {kvs : List (Int × Str)} {p : Int × Str} {i : Int} : i ∈ (setd kvs p).map Prod.fst ↔ i ∈ kvs.map Prod.fst ∨ i = p.1 := by
  by_cases e : p.1 ∈ kvs.map Prod.fst
  · rw [setd_old e]
    exact ⟨.inl, fun h => h.elim id fun q => q ▸ e⟩
  · rw [setd_new e, List.map_append, List.mem_append]
    simp
theorem setAll_keys {i : Int} : ∀ {ps kvs : List (Int × Str)}, i ∈ (setAll kvs ps).map Prod.fst ↔ i ∈ kvs.map Prod.fst ∨ i ∈ ps.map Prod.fst
  | [], kvs => by simp [setAll]
  | p :: ps, kvs => by
    have ih := setAll_keys (i := i) (ps := ps) (kvs := setd kvs p)
    rw [setd_keys] at ih
    show i ∈ (setAll (setd kvs p) ps).map Prod.fst ↔ _
    rw [ih, List.map_cons, List.mem_cons]
    constructor
    · rintro ((h | h) | h)
      · exact .inl h
      · exact .inr (.inl h)
      · exact .inr (.inr h)
    · rintro (h | h | h)
      · exact .inl (.inl h)
      · exact .inl (.inr h)
      · exact .inr h
theorem setd_len {kvs : List (Int × Str)} {p : Int × Str} : (setd kvs p).length ≤ kvs.length + 1 := by
  by_cases e : p.1 ∈ kvs.map Prod.fst
  · rw [setd_old e]; omega
  · rw [setd_new e]; simp
theorem setAll_len : ∀ {ps kvs : List (Int × Str)}, (setAll kvs ps).length ≤ kvs.length + ps.length
  | [], kvs => by simp [setAll]
  | p :: ps, kvs => by
    have ih := setAll_len (ps := ps) (kvs := setd kvs p)
    have := setd_len (kvs := kvs) (p := p)
    show (setAll (setd kvs p) ps).length ≤ _
    rw [List.length_cons]
    omega
theorem setAll_take {ps kvs : List (Int × Str)} {i : Nat} (h : i < ps.length) : setAll kvs (ps.take (i + 1)) = setd (setAll kvs (ps.take i)) ps[i] := by
  rw [List.take_add_one, List.getElem?_eq_getElem h]
  unfold setAll
  rw [List.foldl_append]
  rfl
end T82
namespace T82
open PySem L2
section
variable {P : Program} {w : World} {K : PySem.W.Frag} {mg : Str → Option Value} {base : Heap}
structure PreF (P : Program) (w : World) (K : PySem.W.Frag) (CS CD CM : Addr) (H : Hp) (x : Addr) (d : Dor) (rs : List Rl) (kvs : List (Int × Str)) (os : List V) (dx dr l sk o : Addr) : Prop where
  at_ : H x = some (.ins CM dx [("door", .ref dr), ("leads", .ref l), ("state_kinds", .ref sk), ("order_told", .ref o)])
  door : DoorAt K CS CD H dr d
  leads : ND P w K H l (leadsE rs)
  sk : H sk = some (.dK (kvE kvs))
  ord : H o = some (.lst os)
theorem PreF.mono {CS CD CM : Addr} {H H' : Hp} {x : Addr} {d : Dor} {rs : List Rl} {kvs : List (Int × Str)} {os : List V} {dx dr l sk' o : Addr} (f : PreF P w K CS CD CM H x d rs kvs os dx dr l sk' o) (s : Same H H') : PreF P w K CS CD CM H' x d rs kvs os dx dr l sk' o :=
  ⟨s _ _ f.at_, f.door.mono s, f.leads.mono s, s _ _ f.sk, s _ _ f.ord⟩
def inS (i : Int) : Bool := decide ((0 : Int) ≤ i) && decide (i ≤ 59)
/-- the rule's states with the kinds that they should have -/
def Rl.prs (r : Rl) (kinds : List Str) (kind : Str) : List (Int × Str) := r.args.zip kinds ++ [(r.goal, kind)]
/-- a rule that goes with those ahead, its name's kinds as told -/
structure StepOk (d : Dor) (rs : List Rl) (r : Rl) (kinds : List Str) (kind : Str) : Prop where
  few : r.args.length ≤ 3
  told : Told d r.name kinds kind
  len : kinds.length = r.args.length
  args : ∀ a ∈ r.args, inS a = true
  goal : inS r.goal = true
  new : ldOf rs r.name r.args = none
/-- what is no rule -/
inductive StepBad (d : Dor) (rs : List Rl) (r : Rl) : Prop
  | long : 3 < r.args.length → StepBad d rs r
  | name : r.args.length ≤ 3 → NotTold d r.name → StepBad d rs r
  | off (kinds : List Str) (kind : Str) : r.args.length ≤ 3 → Told d r.name kinds kind → kinds.length = r.args.length → ((r.args ++ [r.goal]).all inS = false ∨ ldOf rs r.name r.args ≠ none) → StepBad d rs r
theorem im_intsOf {H : Hp} : ∀ {as : List Int} {vs : List V}, ImAll K H (as.map PyData.int) vs → vs = as.map V.int
  | [], _, h => h.nil_
  | a :: as, vs, h => by
    obtain ⟨u, us, rfl, j1, j2⟩ := ImAll.cons_ h
    rw [j1.int_, im_intsOf j2]
    rfl
theorem rl_at {H : Hp} {r : Rl} {v : V} (h : Im K H r.d v) : ∃ p q, v = .ref p ∧ SqT K H p [.ref q, .int r.goal] ∧ SqT K H q (.str r.name :: r.args.map V.int) := by
  obtain ⟨p, xs, rfl, sq, ia⟩ := h.tup_
  obtain ⟨v1, vs1, rfl, i1, ia⟩ := ia.cons_
  obtain ⟨v2, vs2, rfl, i2, ia⟩ := ia.cons_
  rw [ia.nil_, i2.int_] at sq
  obtain ⟨q, ys, rfl, sy, ib⟩ := i1.tup_
  obtain ⟨v3, vs3, rfl, i3, ib⟩ := ib.cons_
  rw [i3.str_, im_intsOf ib] at sy
  exact ⟨p, q, rfl, sq, sy⟩
theorem ia_intsOf {H : Hp} : ∀ as : List Int, ImAll K H (as.map PyData.int) (as.map V.int)
  | [] => ia_nil
  | _ :: as => ia_cons im_int (ia_intsOf as)
/-- a comprehension of these flags -/
theorem lc_bools {J : It} {n : Nat} {G : Hp → Prop} {Y : Nat → Hp → V → Hp → Prop} (w : Walk J n G Y) {g : TG} {te : TE} {vs : List Nat} {σ : L2.St} {H1 : Hp} {D : Addr} {Qd : Hp → Prop} (bs : List Bool) (len : bs.length = n) (nD : H1 D = none) (sz : n ≤ 100000)
    (hG : ∀ H, But D H1 H → G H)
    (hs : ∀ i b x H H', bs[i]? = some b → But D H1 H → H D ≠ none → Y i H x H' → Same H H' ∧ ∀ N : VK, (∀ H4, Same H' H4 → N (.bl b) H4) → g x (wipe σ vs) H' fun σ2 H2 => wipe σ2 vs = wipe σ vs ∧ te σ2 H2 N)
    (hd : ∀ (H : Hp), Same H1 H → SqL K H D (bs.map V.bl) → Qd H) :
    ∃ W : Nat → Nat → Hp → Prop, (∃ m, W 0 m (upd H1 D (.lst []))) ∧ ∀ i m H, W i m H →
      (J.stop i H ∧ Qd H) ∨ (J.go i H ∧ ∃ Nx : Hp → Prop, (∀ H', Nx H' → ∃ m', m' < m ∧ W (i + 1) m' H') ∧ ∀ x H', J.yld i H x H' → g x (wipe σ vs) H' fun σ2 H2 => wipe σ2 vs = wipe σ vs ∧ tYes σ2 H2 fun b H3 =>
        if b = true then te σ2 H3 fun y H4 => ∃ acc, H4 D = some (.lst acc) ∧ acc.length < sizeLine ∧ Nx (upd H4 D (.lst (acc ++ [y]))) else Nx H3) := by
  refine lc_im (K := K) w nD (bs.map PyData.bool) (by simpa using len) sz hG (fun i d x H H' hd' hb hne y => ?_) (fun H ys hb hy im => ?_)
  · rw [List.getElem?_map] at hd'
    cases ez : bs[i]? with
    | none => rw [ez] at hd'; cases hd'
    | some z =>
      rw [ez] at hd'
      cases hd'
      obtain ⟨s1, q⟩ := hs i z x H H' ez hb hne y
      exact ⟨s1, fun N hN => q N fun H4 s4 => hN _ _ s4 im_bl⟩
  · rw [im.bools] at hy
    exact hd H (hb.same nD) (SqL.of hy)
/-- a list's pairs -/
def PL (K : PySem.W.Frag) (H : Hp) (ws : List V) (ps : List (Int × Str)) : Prop := ws.length = ps.length ∧ ∀ (i : Nat) v, ws[i]? = some v → ∃ T pr, v = .ref T ∧ ps[i]? = some pr ∧ SqT K H T [.int pr.1, .str pr.2]
theorem PL.of {H : Hp} {ws : List V} {as : List Int} {ks : List Str} (h : PrsAt K H ws (as.map V.int) (ks.map V.str) as.length) (l : ks.length = as.length) : PL K H ws (as.zip ks) := by
  refine ⟨by rw [h.1, List.length_zip]; omega, fun i v e => ?_⟩
  obtain ⟨T, x, y, e1, e2, e3, q⟩ := h.2 i v e
  rw [List.getElem?_map] at e2 e3
  cases ea : as[i]? with
  | none => rw [ea] at e2; cases e2
  | some a =>
    cases ek : ks[i]? with
    | none => rw [ek] at e3; cases e3
    | some k =>
      rw [ea] at e2
      rw [ek] at e3
      cases e2
      cases e3
      exact ⟨T, (a, k), e1, List.getElem?_zip_eq_some.mpr ⟨ea, ek⟩, q⟩
theorem PL.mono {H H' : Hp} {ws : List V} {ps : List (Int × Str)} (k : Keep H H') (h : PL K H ws ps) : PL K H' ws ps := by
  refine ⟨h.1, fun i v e => ?_⟩
  obtain ⟨T, pr, e1, e2, q⟩ := h.2 i v e
  exact ⟨T, pr, e1, e2, k.sq q⟩
theorem PL.push {H : Hp} {ws : List V} {ps : List (Int × Str)} {T : Addr} {pr : Int × Str} (h : PL K H ws ps) (q : SqT K H T [.int pr.1, .str pr.2]) : PL K H (ws ++ [.ref T]) (ps ++ [pr]) := by
  refine ⟨by simp [h.1], fun i v e => ?_⟩
  rw [List.getElem?_append] at e
  split at e
  · obtain ⟨T, pr, e1, e2, q⟩ := h.2 i v e
    exact ⟨T, pr, e1, by rw [List.getElem?_append_left (by have := h.1; omega)]; exact e2, q⟩
  · rename_i hi
    have lt := (List.getElem?_eq_some_iff.mp e).1
    have e0 : i - ws.length = 0 := by simp at lt; omega
    rw [e0] at e
    cases e
    refine ⟨T, pr, rfl, ?_, q⟩
    rw [List.getElem?_append_right (by have := h.1; omega), show i - ps.length = 0 by have := h.1; omega]
    rfl
abbrev nm_Machine_is_rule : List Str := ["self", "thing", "told", "pairs", "state", "kind"]
theorem sc_Machine_is_rule : FnScope nm_Machine_is_rule ["self", "thing"] (defScope s_Machine_is_rule) := ⟨rfl, rfl, rfl, by decide +kernel, rfl, by decide +kernel, by decide +kernel⟩
def sp_is_rule (P : Program) (w : World) (K : PySem.W.Frag) (CS CD CM : Addr) : Sp := fun vs H Q _ => ∃ x v d rs kvs os dx dr l sk o r kd, vs = [.ref x, v] ∧ PreF P w K CS CD CM H x d rs kvs os dx dr l sk o ∧ Im K H (Rl.d r) v ∧ nameB r.name = true ∧ r.name.length ≤ 100000 ∧ r.args.length ≤ 1000 ∧ kvs.length ≤ 10000 ∧ Con kd kvs ∧
  ((∃ kinds kind, StepOk d rs r kinds kind ∧ Con kd (r.prs kinds kind) ∧ ∀ G, But sk H G → G sk = some (.dK (kvE (setAll kvs (r.prs kinds kind)))) → Q (.bl true) G) ∨ (StepBad d rs r ∧ ∀ G, Same H G → Q (.bl false) G))
theorem ok_Machine_is_rule (T : Tx K mg) : FnOk P w K mg base CX0 3 T.f_Machine_is_rule T.d_Machine_is_rule ["self", "thing"] (sp_is_rule P w K T.C_Shape T.C_Door T.C_Machine) := by
  refine T.F_Machine_is_rule.ok sc_Machine_is_rule (fun vs H Q E h => ?_) (fun cdv A outer s H vs Q E hr h => ?_)
  · obtain ⟨x, v, d, rs, kvs, os, dx, dr, l, sk, o, r, kd, rfl, _⟩ := h
    rfl
  · obtain ⟨x, v, d, rs, kvs, os, dx, dr, l, sk', o, r, kd, rfl, f, im, nm, nl, al, kl, cn, hh⟩ := h
    refine ⟨_, (pss_cons (ps_if (PW.pt (pw_or (pt_not (pt_val (pe_call (ok_is_tuple T) (hr.mono (by decide)) (by rfl) T.m_is_tuple T.F_is_tuple.kp T.b_is_tuple .nil pass0 (pa_cons (pv 1) (pa_cons pe_int (pa_cons pe_int pa_nil)))))) (pw_or (pt_not (pt_val (pe_call (ok_is_tuple T) (hr.mono (by decide)) (by rfl) T.m_is_tuple T.F_is_tuple.kp T.b_is_tuple .nil pass0 (pa_cons (pe_ix (iT (K := K) rfl) (pv 1) pe_int (fun _ _ => rfl)) (pa_cons pe_int (pa_cons pe_int pa_nil)))))) (pw_or1 (pt_not (pt_val (pe_call (ok_is_name T) (hr.mono (by decide)) (by rfl) T.m_is_name T.F_is_name.kp T.b_is_name .nil pass0 (pa_cons (pe_ix (iT (K := K) rfl) (pe_ix (iT (K := K) rfl) (pv 1) pe_int (fun _ _ => rfl)) pe_int (fun _ _ => rfl)) pa_nil)))))))) (pss_one (ps_ret pe_bl)) pss_nil)
    (pss_cons (ps_set (i := 2) sc_Machine_is_rule.nd rfl (.inl rfl) (pe_call (ok_shape_of_name T) (hr.mono (by decide)) (by rfl) T.m_shape_of_name T.F_shape_of_name.kp T.b_shape_of_name .nil pass0 (pa_cons (eFld (K := K) rfl (pv 0) rfl) (pa_cons (pe_ix (iT (K := K) rfl) (pe_ix (iT (K := K) rfl) (pv 1) pe_int (fun _ _ => rfl)) pe_int (fun _ _ => rfl)) pa_nil))))
    (pss_cons (ps_if (PW.pt (pw_or (pt_cmpR op_isN (pv 2) pe_non (nomark _)) (pw_or1 (pt_cmpR op_ne (pe_callB (cLen (K := K) rfl) (by rfl) T.t_len (by decide +kernel) (pa_cons (pe_ix (iT (K := K) rfl) (pv 2) pe_int (fun _ _ => rfl)) pa_nil)) (pe_op op_sub (pe_callB (cLen (K := K) rfl) (by rfl) T.t_len (by decide +kernel) (pa_cons (pe_ix (iT (K := K) rfl) (pv 1) pe_int (fun _ _ => rfl)) pa_nil)) pe_int) (nomark _))))) (pss_one (ps_ret pe_bl)) pss_nil)
    (pss_cons (ps_set (i := 3) sc_Machine_is_rule.nd rfl (.inl rfl) (pe_op op_cat (pe_listZip (K := K) rfl rfl (by rfl) T.t_list (by rfl) T.t_zip (by exact (pa_cons (pe_slice (sU (K := K) rfl) (pe_ix (iT (K := K) rfl) (pv 1) pe_int (fun _ _ => rfl)) (po_some pe_int) po_none) (pa_cons (pe_ix (iT (K := K) rfl) (pv 2) pe_int (fun _ _ => rfl)) pa_nil)))) (pe_lst (pa_cons (pe_tup (pa_cons (pe_ix (iT (K := K) rfl) (pv 1) pe_int (fun _ _ => rfl)) (pa_cons (pe_ix (iT (K := K) rfl) (pv 2) pe_int (fun _ _ => rfl)) pa_nil))) pa_nil))))
    (pss_cons (ps_if (PW.pt (pw_or (pt_not (pt_val (pe_callB (cAll (K := K) rfl rfl) (by rfl) T.t_all (by decide +kernel) (pa_cons (pe_lc (own := [("state", 4), ("kind", 5)]) (g := gTup K 2 (gCons (gName 4) (gCons (gName 5) gNil))) (tt := tYes) rfl sc_Machine_is_rule.nd (wL (K := K) rfl (pv 3)) (blkOk_by (N := nm_Machine_is_rule) (sc := defScope s_Machine_is_rule) (by decide +kernel)) (fun _ _ _ _ _ => (pg_tup rfl (pgs_cons (pg_name (i := 4) sc_Machine_is_rule.nd rfl (Or.inl rfl)) (pgs_cons (pg_name (i := 5) sc_Machine_is_rule.nd rfl (Or.inl rfl)) pgs_nil)))) (fun _ _ _ _ _ => pts_nil) (fun _ _ _ _ _ => (pe_call (ok_is_within T) (hr.mono (by decide)) (by rfl) T.m_is_within T.F_is_within.kp T.b_is_within .nil pass0 (pa_cons (pv 4) (pa_cons pe_int (pa_cons (pe_op op_sub (pe_glob rfl T.c_MOST_STATES rI) pe_int) pa_nil)))))) pa_nil)))) (pw_or1 (pt_cmp (pc_nin (P := P) (w := w) (K := K) rfl rfl rfl hr.units (pe_ix (iT (K := K) rfl) (pv 1) pe_int (fun _ _ => rfl)) (eFld (K := K) rfl (pv 0) rfl)))))) (pss_one (ps_ret pe_bl)) pss_nil)
    (pss_one (ps_ret (pe_callB (cAll (K := K) rfl rfl) (by rfl) T.t_all (by decide +kernel) (pa_cons (pe_lc (own := [("state", 4), ("kind", 5)]) (g := gTup K 2 (gCons (gName 4) (gCons (gName 5) gNil))) (tt := tYes) rfl sc_Machine_is_rule.nd (wL (K := K) rfl (pv 3)) (blkOk_by (N := nm_Machine_is_rule) (sc := defScope s_Machine_is_rule) (by decide +kernel)) (fun _ _ _ _ _ => (pg_tup rfl (pgs_cons (pg_name (i := 4) sc_Machine_is_rule.nd rfl (Or.inl rfl)) (pgs_cons (pg_name (i := 5) sc_Machine_is_rule.nd rfl (Or.inl rfl)) pgs_nil)))) (fun _ _ _ _ _ => pts_nil) (fun _ _ _ _ _ => (pe_cmpR op_eq (pe_dsetd (eFld (K := K) rfl (pv 0) rfl) (pv 4) (pv 5) ⟨rfl, rfl, rfl, rfl⟩) (pv 5) (nomark _)))) pa_nil))))))))), ?_⟩
    obtain ⟨p, q, rfl, sp, sq⟩ := rl_at im
    refine ⟨_, rfl, _, _, _, rfl, .inr ⟨p, _, rfl, sp, _, rfl, itf rfl ?_⟩⟩
    refine ⟨_, rfl, p, _, 0, _, rfl, rfl, sp, at0, _, _, _, rfl, .inr ⟨q, _, rfl, sq, _, rfl, ?_⟩⟩
    by_cases few : r.args.length ≤ 3
    case neg =>
      have kb : ∀ G, Same H G → Q (.bl false) G := by
        rcases hh with ⟨kinds, kind, so, _⟩ | ⟨_, k⟩
        · exact absurd so.few few
        · exact k
      refine itt ?_ ?_
      · simp
        omega
      · exact iteT (kb _ (Same.refl _))
    case pos =>
      refine itf ?_ ?_
      · simp
        omega
      refine ⟨_, rfl, p, _, 0, _, rfl, rfl, sp, at0, q, _, 0, _, rfl, rfl, sq, at0, r.name, rfl, nl, fun H1 s1 => ⟨_, rfl, ?_⟩⟩
      rw [nm]
      refine iteF ?_
      have f1 := f.mono s1
      have sp1 := keepT s1 sp
      have sq1 := keepT s1 sq
      refine ⟨_, rfl, x, _, dx, _, _, rfl, f1.at_, T.cl_Machine, T.n_Machine_door, rfl, _, rfl, p, _, 0, _, rfl, rfl, sp1, at0, q, _, 0, _, rfl, rfl, sq1, at0, dr, r.name, d, rfl, f1.door, ?_⟩
      have shp : (NotTold d r.name ∧ ∀ G, Same H G → Q (.bl false) G) ∨ ∃ kinds kind, Told d r.name kinds kind ∧ kinds.length = r.args.length ∧ ((StepOk d rs r kinds kind ∧ Con kd (r.prs kinds kind) ∧ ∀ G, But sk' H G → G sk' = some (.dK (kvE (setAll kvs (r.prs kinds kind)))) → Q (.bl true) G) ∨
          (((r.args ++ [r.goal]).all inS = false ∨ ldOf rs r.name r.args ≠ none) ∧ ∀ G, Same H G → Q (.bl false) G)) := by
        rcases hh with ⟨kinds, kind, so, cc, k⟩ | ⟨bad, k⟩
        · exact .inr ⟨kinds, kind, so.told, so.len, .inl ⟨so, cc, k⟩⟩
        · cases bad with
          | long h => omega
          | name _ h => exact .inl ⟨h, k⟩
          | off kinds kind _ h1 h2 h3 => exact .inr ⟨kinds, kind, h1, h2, .inr ⟨h3, k⟩⟩
      rcases shp with ⟨nt, kb⟩ | ⟨kinds, kind, td, len, hh⟩
      · refine .inr ⟨nt, fun G s2 => ?_⟩
        exact ⟨_, rfl, rfl, _, rfl, itt (decide_eq_true rfl) (iteT (kb _ (s1.trans s2)))⟩
      · refine .inl ⟨kinds, kind, td, fun G t a s2 st sa => ?_⟩
        have s02 := s1.trans s2
        refine ⟨_, rfl, rfl, _, rfl, itf (decide_eq_false (by intro z; cases z)) ?_⟩
        refine ⟨_, rfl, t, _, 0, _, rfl, rfl, st, at0, a, _, rfl, .inr sa, _, rfl, p, _, 0, _, rfl, rfl, keepT s02 sp, at0, q, _, rfl, .inr (keepT s02 sq), _, _, rfl, rfl, rfl, _, rfl, itf ?_ ?_⟩
        · simp only [List.length_map, List.length_cons, Bool.not_eq_false', decide_eq_true_eq]
          congr 1
          omega
        refine ⟨_, rfl, p, _, 0, _, rfl, rfl, keepT s02 sp, at0, _, rfl, q, _, rfl, keepT s02 sq, fun t1 H3 s3 st1 => ?_⟩
        rw [cut1] at st1
        have s03 := s02.trans s3
        refine ⟨_, rfl, t, _, 0, _, rfl, rfl, keepT s3 st, at0, t1, a, _, _, rfl, st1, keepT s3 sa, ?_, ?_, fun lp H4 ws s4 lat prs => ?_⟩
        · simp only [List.length_map]
          omega
        · rw [List.length_map, sizeLine_eq]
          omega
        rw [List.length_map] at prs
        have pl1 := PL.of prs len
        have s04 := s03.trans s4
        have s24 := s3.trans s4
        refine ⟨_, rfl, p, _, 1, _, rfl, rfl, keepT s04 sp, at1, _, rfl, t, _, 1, _, rfl, rfl, keepT s24 st, at1, ?_⟩
        refine ⟨by show 2 ≤ sizeLine; decide, fun tp htp => ⟨by show 1 ≤ sizeLine; decide, fun lq hlq => ?_⟩⟩
        have stp : SqT K (upd H4 tp (.tup [.int r.goal, .str kind])) tp [.int r.goal, .str kind] := SqT.of upd_same
        have s5 : Same H4 (upd H4 tp (.tup [.int r.goal, .str kind])) := sn htp
        generalize upd H4 tp (.tup [.int r.goal, .str kind]) = H5 at hlq s5 stp ⊢
        have slq : upd H5 lq (.lst [.ref tp]) lq = some (.lst [.ref tp]) := upd_same
        have s6 : Same H5 (upd H5 lq (.lst [.ref tp])) := sn hlq
        generalize upd H5 lq (.lst [.ref tp]) = H6 at slq s6 ⊢
        refine ⟨lp, lq, ws, [.ref tp], rfl, rfl, s6 _ _ (s5 _ _ lat), slq, ?_, fun lr hlr => ?_⟩
        · have := prs.1
          rw [sizeLine_eq, List.length_singleton]
          omega
        have slr : upd H6 lr (.lst (ws ++ [.ref tp])) lr = some (.lst (ws ++ [.ref tp])) := upd_same
        have s7 : Same H6 (upd H6 lr (.lst (ws ++ [.ref tp]))) := sn hlr
        generalize upd H6 lr (.lst (ws ++ [.ref tp])) = H7 at slr s7 ⊢
        have s47 := s5.trans (s6.trans s7)
        have s07 := s04.trans s47
        have pl7 : PL K H7 (ws ++ [.ref tp]) (r.prs kinds kind) := PL.push (PL.mono (sk s47) pl1) (keepT (s6.trans s7) stp)
        generalize ws ++ [.ref tp] = us at slr pl7 ⊢
        have lp : (r.prs kinds kind).length ≤ 2000 := by
          unfold Rl.prs
          rw [List.length_append, List.length_zip, List.length_singleton]
          omega
        generalize hps : r.prs kinds kind = ps at pl7 lp hh
        have plen := pl7.1
        refine ⟨_, rfl, lr, rfl, ⟨_, SqL.of slr⟩, fun D hD => lc_bools (K := K) (walk_list (K := K) (a := lr) (xs := us)) (ps.map fun p => inS p.1) (by simp; omega) hD (by omega) (fun H8 hb => keepL (hb.same hD) (SqL.of slr)) ?_ ?_⟩
        · rintro i b y H0 H8 hbs hb hne ⟨rfl, hy⟩
          obtain ⟨Tp, pr, rfl, ep, sqp⟩ := pl7.2 i y hy
          rw [List.getElem?_map, ep] at hbs
          cases hbs
          refine ⟨Same.refl _, fun N hN => ⟨Tp, _, rfl, keepT (hb.same hD) sqp, rfl, _, _, rfl, _, _, rfl, rfl, rfl, ?_⟩⟩
          exact ⟨_, rfl, _, _, rfl, rfl, pr.1, 0, _, rfl, hN _ (Same.refl _)⟩
        intro H8 s8 hl8
        have s08 := s07.trans s8
        have f8 := f.mono s08
        have efst : ps.map Prod.fst = r.args ++ [r.goal] := by
          rw [← hps]
          unfold Rl.prs
          rw [List.map_append, List.map_fst_zip (by omega)]
          rfl
        have eall : ((ps.map fun p => inS p.1).all id) = (r.args ++ [r.goal]).all inS := by
          rw [← efst, List.all_map, List.all_map]
          rfl
        refine ⟨D, _, rfl, hl8, _, rfl, ?_⟩
        rw [eall]
        by_cases ha : (r.args ++ [r.goal]).all inS = true
        case neg =>
          have kb : ∀ G, Same H G → Q (.bl false) G := by
            rcases hh with ⟨so, _⟩ | ⟨_, k⟩
            · refine absurd ?_ ha
              rw [List.all_append, List.all_eq_true.mpr so.args]
              simp [so.goal]
            · exact k
          exact itt (by rw [Bool.eq_false_iff.mpr ha]; rfl) (iteT (kb _ s08))
        rw [ha]
        refine iteF ?_
        have kv : KeyV K H8 (keyOf r.name r.args) (.ref q) := by
          refine ⟨keyOf_depth _ _, ?_, q, rfl⟩
          rw [keyOf_data]
          exact im_tup (keepT s08 sq) (ia_cons im_str (ia_intsOf r.args))
        refine ⟨_, rfl, p, _, 0, _, rfl, rfl, keepT s08 sp, at0, _, rfl, x, _, dx, _, _, rfl, f8.at_, T.cl_Machine, T.n_Machine_leads, rfl, l, _, _, rfl, kv, f8.leads, _, rfl, ?_⟩
        rw [valV_leads]
        by_cases hn : ldOf rs r.name r.args = none
        case neg =>
          have kb : ∀ G, Same H G → Q (.bl false) G := by
            rcases hh with ⟨so, _⟩ | ⟨_, k⟩
            · exact absurd so.new hn
            · exact k
          refine itt ?_ (kb _ s08)
          cases e : ldOf rs r.name r.args with
          | none => exact absurd e hn
          | some i => rfl
        rw [hn]
        refine itf rfl ?_
        rcases hh with ⟨so, cc, k⟩ | ⟨h, _⟩
        case inr => rcases h with h | h
                    · rw [ha] at h; cases h
                    · exact absurd hn h
        have skD : sk' ≠ D := fun e => by
          have := s07 _ _ f.sk
          rw [e, hD] at this
          cases this
        refine ⟨_, rfl, lr, rfl, ⟨_, SqL.of (s8 _ _ slr)⟩, fun D2 hD2 => ?_⟩
        have skD2 : sk' ≠ D2 := fun e => by
          have := s08 _ _ f.sk
          rw [e, hD2] at this
          cases this
        have lrsk : lr ≠ sk' := fun e => by
          have := s07 _ _ f.sk
          rw [← e, slr] at this
          cases this
        refine lc_it (walk_list (K := K) (a := lr) (xs := us)) (fun i G => But sk' H8 G ∧ G D2 = some (.lst (List.replicate i (.bl true))) ∧ G sk' = some (.dK (kvE (setAll kvs (ps.take i))))) ?_ (fun i G _ z => SqL.of (z.1 _ _ lrsk (s8 _ _ slr))) ?_ ?_
        · refine ⟨fun b o _ e => by rw [upd_ne (ne_of_none e hD2)]; exact e, upd_same, ?_⟩
          rw [upd_ne skD2]
          exact f8.sk
        · rintro i y G0 G hi ⟨hb, hGD, hGa⟩ ⟨rfl, hy⟩
          obtain ⟨Tp, pr, rfl, ep, sqp⟩ := pl7.2 i y hy
          have kp : Keep H8 G := hb.keep (notup_dk f8.sk)
          have lt : i < ps.length := by rw [← plen]; exact hi
          have epr : ps[i] = pr := by
            have := List.getElem?_eq_getElem lt
            rw [ep] at this
            exact (Option.some.inj this).symm
          have fG : G x = some (.ins T.C_Machine dx [("door", .ref dr), ("leads", .ref l), ("state_kinds", .ref sk'), ("order_told", .ref o)]) := hb _ _ (fun e => by
            have := f8.at_
            rw [e, f8.sk] at this
            cases this) f8.at_
          have con : Con kd (setAll kvs (ps.take i)) := cn.all fun q hq => cc q (List.mem_of_mem_take hq)
          have kdp : kd pr.1 = pr.2 := cc pr (by rw [← epr]; exact List.getElem_mem lt)
          have len2 : (setAll kvs (ps.take i)).length ≤ 12000 := by
            have := setAll_len (kvs := kvs) (ps := ps.take i)
            rw [List.length_take] at this
            omega
          have fin : ∀ G2 : Hp, But sk' G G2 → G2 sk' = some (.dK (kvE (setAll kvs (ps.take (i + 1))))) →
              ∃ acc, G2 D2 = some (.lst acc) ∧ acc.length < sizeLine ∧ But sk' H8 (upd G2 D2 (.lst (acc ++ [.bl true]))) ∧ (upd G2 D2 (.lst (acc ++ [.bl true]))) D2 = some (.lst (List.replicate (i + 1) (.bl true))) ∧ (upd G2 D2 (.lst (acc ++ [.bl true]))) sk' = some (.dK (kvE (setAll kvs (ps.take (i + 1))))) := by
            intro G2 b2 e2
            refine ⟨_, b2 _ _ skD2.symm hGD, ?_, fun c u ne e => ?_, ?_, ?_⟩
            · rw [List.length_replicate, sizeLine_eq]
              omega
            · rw [upd_ne (ne_of_none e hD2)]
              exact b2 _ _ ne (hb _ _ ne e)
            · rw [upd_same, ← List.replicate_succ']
            · rw [upd_ne skD2]
              exact e2
          refine ⟨Tp, _, rfl, kp.sq (keepT s8 sqp), rfl, _, _, rfl, _, _, rfl, rfl, rfl, yes_turn ?_⟩
          refine ⟨_, rfl, x, _, dx, _, _, rfl, fG, T.cl_Machine, T.n_Machine_state_kinds, rfl, sk', rfl, .inl ⟨_, .inl hGa⟩, _, rfl, _, rfl, kvE (setAll kvs (ps.take i)), Sum.inl pr.1, hGa, rfl, ?_, ?_, ?_⟩
          · unfold kvE
            rw [List.length_map, sizeLine_eq]
            omega
          · intro v hv
            by_cases ik : pr.1 ∈ (setAll kvs (ps.take i)).map Prod.fst
            · rw [kv_some con ik, kdp] at hv
              cases hv
              refine ⟨_, rfl, rfl, ?_⟩
              rw [decide_eq_true rfl]
              refine fin G (fun _ _ _ e => e) ?_
              rw [setAll_take lt, epr, setd_old ik]
              exact hGa
            · rw [kv_none ik] at hv
              cases hv
          · intro hv
            have ik : pr.1 ∉ (setAll kvs (ps.take i)).map Prod.fst := fun ik => by
              rw [kv_some con ik] at hv
              cases hv
            rw [kv_put ik]
            refine ⟨_, rfl, rfl, ?_⟩
            rw [decide_eq_true rfl]
            refine fin _ (fun c u ne e => by rw [upd_ne ne]; exact e) ?_
            rw [setAll_take lt, epr, setd_new ik]
            exact upd_same
        · rintro G ⟨hb, hGD, hGa⟩
          rw [plen, List.take_length] at hGa
          refine ⟨D2, List.replicate us.length true, rfl, SqL.of (by rw [List.map_replicate]; exact hGD), ?_⟩
          rw [show (List.replicate us.length true).all id = true by simp]
          exact k G (fun c o ne e => hb _ _ ne (s08 _ _ e)) hGa
end
end T82
namespace T82
open PySem L2
theorem eqv_intsA : ∀ as bs : List Int, PyData.eqvAll (as.map PyData.int) (bs.map PyData.int) = decide (as = bs)
  | [], [] => by rw [List.map_nil, PyData.eqvAll]; rfl
  | [], b :: bs => by rw [List.map_nil, List.map_cons, PyData.eqvAll]; rfl
  | a :: as, [] => by rw [List.map_nil, List.map_cons, PyData.eqvAll]; rfl
  | a :: as, b :: bs => by
    rw [List.map_cons, List.map_cons, PyData.eqvAll, eqv_intsA as bs, PyData.eqv]
    by_cases e : a = b
    · subst e; simp
    · simp [e]
theorem eqv_ints (as bs : List Int) : PyData.eqv (.list (as.map PyData.int)) (.list (bs.map PyData.int)) = decide (as = bs) := by
  rw [PyData.eqv, eqv_intsA]
theorem asc_unique : ∀ {as bs : List Int}, as.Pairwise (· < ·) → bs.Pairwise (· < ·) → (∀ k, k ∈ as ↔ k ∈ bs) → as = bs
  | [], [], _, _, _ => rfl
  | [], b :: bs, _, _, h => by have := (h b).mpr List.mem_cons_self; cases this
  | a :: as, [], _, _, h => by have := (h a).mp List.mem_cons_self; cases this
  | a :: as, b :: bs, ha, hb, h => by
    obtain ⟨a1, a2⟩ := List.pairwise_cons.mp ha
    obtain ⟨b1, b2⟩ := List.pairwise_cons.mp hb
    have e : a = b := by
      rcases List.mem_cons.mp ((h a).mp List.mem_cons_self) with e | e
      · exact e
      · rcases List.mem_cons.mp ((h b).mpr List.mem_cons_self) with e' | e'
        · exact e'.symm
        · have := a1 b e'
          have := b1 a e
          omega
    subst e
    rw [asc_unique a2 b2 fun k => ?_]
    constructor
    · intro hk
      rcases List.mem_cons.mp ((h k).mp (List.mem_cons_of_mem _ hk)) with e | e
      · have := a1 k hk; omega
      · exact e
    · intro hk
      rcases List.mem_cons.mp ((h k).mpr (List.mem_cons_of_mem _ hk)) with e | e
      · have := b1 k hk; omega
      · exact e
theorem canLay_lst {ds : List PyData} (h : PyData.canLayAll0 ds = true) : (PyData.list ds).canLay0 = true := by
  rw [PyData.canLay0]
  exact h
theorem ints_shapedL (is : List Int) : SeqAt.shaped (PyData.list (is.map PyData.int)) = true := by
  unfold SeqAt.shaped
  rw [canLay_lst (canLay_map fun i _ => by rw [PyData.canLay0]), Bool.true_and, decide_eq_true_eq]
  have := depth_map (f := PyData.int) (n := 0) (as := is) fun x _ => by simp [PyData.depth]
  simp only [PyData.depth]
  omega
section
variable {P : Program} {w : World} {K : PySem.W.Frag} {mg : Str → Option Value} {base : Heap}
/-- every rule goes with those ahead -/
def RulesOk (d : Dor) (kd : Int → Str) (rs : List Rl) (n : Nat) : Prop := ∀ i r, i < n → rs[i]? = some r → ∃ kinds kind, StepOk d (rs.take i) r kinds kind ∧ Con kd (r.prs kinds kind)
def statesOf (rs : List Rl) : List Int := rs.flatMap fun r => r.args ++ [r.goal]
def LastOk (rs : List Rl) (last : List Int) : Prop := last.all inS = true ∧ last.Pairwise (· < ·) ∧ ∀ a ∈ last, a ∈ statesOf rs
/-- what Machine(door, rules, last) comes to -/
inductive Comes (d : Dor) (kd : Int → Str) (rs : List Rl) (last : List Int) : Option V → Prop
  | fine : RulesOk d kd rs rs.length → LastOk rs last → Comes d kd rs last none
  | rule (i : Nat) (r : Rl) : RulesOk d kd rs i → rs[i]? = some r → StepBad d (rs.take i) r → Comes d kd rs last (some (.int (i : Nat)))
  | last : RulesOk d kd rs rs.length → ¬ LastOk rs last → Comes d kd rs last (some (.str "last"))
theorem DoorAt.butI {CS CD C2 x dx dr : Addr} {H H' : Hp} {d : Dor} (h : DoorAt K CS CD H dr d) (hx : H x = some (.ins C2 dx [])) (b : But x H H') : DoorAt K CS CD H' dr d := by
  obtain ⟨dx', s', wv, sv, hv, lv, m, f⟩ := h
  have kp := b.keep (notup_ins hx)
  have n1 : dr ≠ x := fun e => by
    have := f.at_
    rw [e, hx] at this
    cases this
  have n2 : s' ≠ x := fun e => by
    obtain ⟨_, _, _, _, _, _, _, _, _, _, h0, _⟩ := f.shape
    rw [e, hx] at h0
    cases h0
  exact ⟨dx', s', wv, sv, hv, lv, m, b _ _ n1 f.at_, f.good, f.shape.butI hx n2 b, Im.mono kp _ _ f.words, Im.mono kp _ _ f.sealed, Im.mono kp _ _ f.heads, Im.mono kp _ _ f.laws⟩
theorem states_take {rs : List Rl} {i : Nat} {r : Rl} (h : rs[i]? = some r) : statesOf (rs.take (i + 1)) = statesOf (rs.take i) ++ (r.args ++ [r.goal]) := by
  unfold statesOf
  rw [List.take_add_one, h, List.flatMap_append]
  simp
theorem leads_take {rs : List Rl} {i : Nat} {r : Rl} (h : rs[i]? = some r) : leadsE (rs.take (i + 1)) = leadsE (rs.take i) ++ [(r.key, .int r.goal)] := by
  unfold leadsE
  rw [List.take_add_one, h, List.map_append]
  rfl
theorem prs_fst {r : Rl} {kinds : List Str} {kind : Str} (h : kinds.length = r.args.length) : (r.prs kinds kind).map Prod.fst = r.args ++ [r.goal] := by
  unfold Rl.prs
  rw [List.map_append, List.map_fst_zip (by omega)]
  rfl
/-- what stands ahead of turn i -/
structure MidF (P : Program) (w : World) (K : PySem.W.Frag) (CM : Addr) (H G : Hp) (x dx dr l sk o : Addr) (kd : Int → Str) (rs : List Rl) (i : Nat) (kvs : List (Int × Str)) (os : List V) : Prop where
  but : But x H G
  at_ : G x = some (.ins CM dx [("door", .ref dr), ("leads", .ref l), ("state_kinds", .ref sk), ("order_told", .ref o)])
  leads : ND P w K G l (leadsE (rs.take i))
  sk : G sk = some (.dK (kvE kvs))
  ord : G o = some (.lst os)
  con : Con kd kvs
  len : kvs.length ≤ 4 * i
  keys : ∀ a, a ∈ kvs.map Prod.fst ↔ a ∈ statesOf (rs.take i)
  olen : os.length = i
abbrev nm_Machine_init : List Str := ["self", "door", "rules", "last", "number", "rule", "state"]
theorem sc_Machine_init : FnScope nm_Machine_init ["self", "door", "rules", "last"] (defScope s_Machine_init) := ⟨rfl, rfl, rfl, by decide +kernel, rfl, by decide +kernel, by decide +kernel⟩
def sp_Machine_init (P : Program) (w : World) (K : PySem.W.Frag) (CS CD CM CB : Addr) : Sp := fun vs H Q E => ∃ x dx dr rv lv d rs last kd c, vs = [.ref x, .ref dr, rv, lv] ∧ H x = some (.ins CM dx []) ∧ DoorAt K CS CD H dr d ∧ Im K H (.tuple (rs.map Rl.d)) rv ∧ Im K H (.tuple (last.map PyData.int)) lv ∧
  rs.length ≤ 600 ∧ last.length < 63 ∧ (∀ r ∈ rs, nameB r.name = true ∧ r.name.length ≤ 100000 ∧ r.args.length ≤ 1000) ∧ Comes d kd rs last c ∧
  (c = none → ∀ G, But x H G → MachAt P w K CS CD CM G x dr d rs last → Q .non G) ∧ (∀ v, c = some v → ∀ (G : Hp) (dd : Addr), But x H G → G dd = none → E (.ref CB) (some dd) (upd G dd (.xd [(("part" : Str), v)])))
theorem ok_Machine_init (T : Tx K mg) {CB fB : Addr} (BM : BadMachineX.Txt P K mg CB fB) : FnOk P w K mg base (L2.CX P w) 4 T.f_Machine_init T.d_Machine_init ["self", "door", "rules", "last"] (sp_Machine_init P w K T.C_Shape T.C_Door T.C_Machine CB) := by
  refine T.F_Machine_init.okX sc_Machine_init (fun vs H Q E h => ?_) (fun cdv A outer s H vs Q E hr h => ?_)
  · obtain ⟨x, dx, dr, rv, lv, d, rs, last, kd, c, rfl, _⟩ := h
    rfl
  · obtain ⟨x, dx, dr, rv, lv, d, rs, last, kd, c, rfl, hx, dat, irv, ilv, few, fewl, nms, cm, kq, ke⟩ := h
    refine ⟨_, (pss_cons (ps_if (pt_not (pt_val (pe_call (ok_is_tuple T) (hr.mono (by decide)) (by rfl) T.m_is_tuple T.F_is_tuple.kp T.b_is_tuple .nil pass0 (pa_cons (pv 2) (pa_cons pe_int (pa_cons (pe_glob rfl T.c_MOST_RULES rI) pa_nil)))))) (pss_one ps_never) pss_nil)
    (pss_cons (ps_fld (pv 0) (pv 1) rfl)
    (pss_cons (ps_fld (pv 0) (pe_nnew (P := P) (w := w) (K := K) rfl rfl rfl) rfl)
    (pss_cons (ps_fld (pv 0) pe_dnewK rfl)
    (pss_cons (ps_fld (pv 0) (pe_lst pa_nil) rfl)
    (pss_cons (ps_for (passes_of rfl) rfl (wE (K := K) rfl (by rfl) T.t_enumerate (pa_cons (pv 2) pa_nil)) (pg_tup rfl (pgs_cons (pg_name (i := 4) sc_Machine_init.nd rfl (Or.inl rfl)) (pgs_cons (pg_name (i := 5) sc_Machine_init.nd rfl (Or.inl rfl)) pgs_nil)))
      (pss_cons (ps_if (pt_not (pt_val (pe_meth (pv 0) T.cl_Machine T.M_Machine_is_rule (ok_Machine_is_rule T) (hr.mono (by decide)) T.b_Machine_is_rule .nil pass0 (pa_cons (pv 5) pa_nil)))) (pss_one (BadMachineX.ps_raiseO (W := fun cls d _ H => E cls d H) rfl BM hr (takes_of rfl rfl rfl rfl) (by exact (pa_cons (pv 4) pa_nil)))) pss_nil)
      (pss_cons (ps_nput (P := P) (w := w) (K := K) rfl rfl rfl hr.units (eFld (K := K) rfl (pv 0) rfl) (pe_ix (iT (K := K) rfl) (pv 5) pe_int (fun _ _ => rfl)) (pe_ix (iT (K := K) rfl) (pv 5) pe_int (fun _ _ => rfl)) rfl)
      (pss_one (ps_expr (pe_bm PySem.F.plainAttrs_list PySem.F.slot_list_append PySem.F.type_list_append mt_append (eFld (K := K) rfl (pv 0) rfl) (pa_cons (pe_ix (iT (K := K) rfl) (pv 5) pe_int (fun _ _ => rfl)) pa_nil)))))))
    (pss_cons (ps_if (PW.pt (pw_or (pt_not (pt_val (pe_callB (cIsi (K := K) rfl) (by rfl) T.t_isinstance (by decide +kernel) (pa_cons (pv 3) (pa_cons (pe_bltn (by rfl) T.t_tuple (by decide +kernel) (show RelV (.ty "tuple") (.type "tuple") from rfl)) pa_nil))))) (pw_or1 (pt_not (pt_val (pe_callB (cAll (K := K) rfl rfl) (by rfl) T.t_all (by decide +kernel) (pa_cons (pe_lc (own := [("state", 6)]) (g := gName 6) (tt := tYes) rfl sc_Machine_init.nd (wT (K := K) rfl (pv 3)) (blkOk_by (N := nm_Machine_init) (sc := defScope s_Machine_init) (by decide +kernel)) (fun _ _ _ _ _ => (pg_name (i := 6) sc_Machine_init.nd rfl (Or.inl rfl))) (fun _ _ _ _ _ => pts_nil) (fun _ _ _ _ _ => (pe_call (ok_is_within T) (hr.mono (by decide)) (by rfl) T.m_is_within T.F_is_within.kp T.b_is_within .nil pass0 (pa_cons (pv 6) (pa_cons pe_int (pa_cons (pe_op op_sub (pe_glob rfl T.c_MOST_STATES rI) pe_int) pa_nil)))))) pa_nil))))))) (pss_one (BadMachineX.ps_raiseO (W := fun cls d _ H => E cls d H) rfl BM hr (takes_of rfl rfl rfl rfl) (by exact (pa_cons pe_str pa_nil)))) pss_nil)
    (pss_cons (ps_if (PW.pt (pw_or (pt_cmpR (oNeD (K := K) rfl hr.units) (pe_callTy (tList (K := K) rfl) (by rfl) T.t_list (by decide +kernel) (pa_cons (pv 3) pa_nil)) (pe_callB (cSortSet (w := w) rfl rfl) (by rfl) T.t_sorted (by decide +kernel) (pa_cons (pe_callTy (cSetT (w := w) (K := K) rfl rfl rfl) (by rfl) T.t_set (by decide +kernel) (pa_cons (pv 3) pa_nil)) pa_nil)) (nomark _)) (pw_or1 (pt_not (pt_val (pe_callB (cAll (K := K) rfl rfl) (by rfl) T.t_all (by decide +kernel) (pa_cons (pe_lc (own := [("state", 6)]) (g := gName 6) (tt := tYes) rfl sc_Machine_init.nd (wT (K := K) rfl (pv 3)) (blkOk_by (N := nm_Machine_init) (sc := defScope s_Machine_init) (by decide +kernel)) (fun _ _ _ _ _ => (pg_name (i := 6) sc_Machine_init.nd rfl (Or.inl rfl))) (fun _ _ _ _ _ => pts_nil) (fun _ _ _ _ _ => (pe_cmp (pc_din (hu_of hr) (pv 6) (eFld (K := K) rfl (pv 0) rfl))))) pa_nil))))))) (pss_one (BadMachineX.ps_raiseO (W := fun cls d _ H => E cls d H) rfl BM hr (takes_of rfl rfl rfl rfl) (by exact (pa_cons pe_str pa_nil)))) pss_nil)
    (pss_cons (ps_fld (pv 0) (pv 2) rfl)
    (pss_one (ps_fld (pv 0) (pv 3) rfl))))))))))), ?_⟩
    obtain ⟨rp, rvs, rfl, srp, iar⟩ := irv.tup_
    obtain ⟨lp, lvs, rfl, slp, ial⟩ := ilv.tup_
    have elv := im_intsOf ial
    subst elv
    have rlen := iar.len
    rw [List.length_map] at rlen
    refine ⟨_, rfl, _, _, _, rfl, .inr ⟨rp, _, rfl, srp, _, rfl, itf (by simp; omega) ?_⟩⟩
    have notx : ∀ ys, ¬ Rd H x (.tup ys) := fun ys z => by
      rcases z with z | ⟨u, z⟩ <;> rw [hx] at z <;> cases z
    refine ⟨_, rfl, _, rfl, x, _, dx, [], rfl, hx, T.cl_Machine, T.n_Machine_door, by decide, ?_⟩
    have b1 : But x H (upd H x (.ins T.C_Machine dx (putF "door" (.ref dr) []))) := fun c o ne e => by rw [upd_ne ne]; exact e
    have x1 : upd H x (.ins T.C_Machine dx (putF "door" (.ref dr) [])) x = some (.ins T.C_Machine dx [("door", .ref dr)]) := upd_same
    generalize upd H x (.ins T.C_Machine dx (putF "door" (.ref dr) [])) = H1 at b1 x1
    -- leads
    intro l H2 hl s2 nd2
    have x2 := s2 _ _ x1
    have lx : l ≠ x := fun z => by rw [z, x1] at hl; cases hl
    refine ⟨_, rfl, x, _, dx, _, rfl, x2, T.cl_Machine, T.n_Machine_leads, (show 1 < 1000 by decide), ?_⟩
    have b2 : But x H (upd H2 x (.ins T.C_Machine dx (putF "leads" (.ref l) [("door", .ref dr)]))) := fun c o ne e => by rw [upd_ne ne]; exact s2 _ _ (b1 _ _ ne e)
    have x3 : upd H2 x (.ins T.C_Machine dx (putF "leads" (.ref l) [("door", .ref dr)])) x = some (.ins T.C_Machine dx [("door", .ref dr), ("leads", .ref l)]) := upd_same
    have nd3 : ND P w K (upd H2 x (.ins T.C_Machine dx (putF "leads" (.ref l) [("door", .ref dr)]))) l [] := nd2.at (Keep.upd (fun ys z => by rcases z with z | ⟨u, z⟩ <;> rw [x2] at z <;> cases z)) (fun o e => by rw [upd_ne lx]; exact e)
    generalize upd H2 x (.ins T.C_Machine dx (putF "leads" (.ref l) [("door", .ref dr)])) = H3 at b2 x3 nd3
    -- state_kinds, order_told
    intro sk' hsk
    have s4 := sn (o := .dK []) hsk
    have e4 : upd H3 sk' (.dK []) sk' = some (.dK []) := upd_same
    generalize upd H3 sk' (.dK []) = H4 at s4 e4 ⊢
    have x4 := s4 _ _ x3
    have skx : sk' ≠ x := fun z => by rw [z, x3] at hsk; cases hsk
    refine ⟨_, rfl, x, _, dx, _, rfl, x4, T.cl_Machine, T.n_Machine_state_kinds, (show 2 < 1000 by decide), ?_⟩
    have nd4 := nd3.mono s4
    have b5 : But x H3 (upd H4 x (.ins T.C_Machine dx (putF "state_kinds" (.ref sk') [("door", .ref dr), ("leads", .ref l)]))) := fun c o ne e => by rw [upd_ne ne]; exact s4 _ _ e
    have x5 : upd H4 x (.ins T.C_Machine dx (putF "state_kinds" (.ref sk') [("door", .ref dr), ("leads", .ref l)])) x = some (.ins T.C_Machine dx [("door", .ref dr), ("leads", .ref l), ("state_kinds", .ref sk')]) := upd_same
    have e5 : upd H4 x (.ins T.C_Machine dx (putF "state_kinds" (.ref sk') [("door", .ref dr), ("leads", .ref l)])) sk' = some (.dK []) := by rw [upd_ne skx]; exact e4
    have nd5 : ND P w K (upd H4 x (.ins T.C_Machine dx (putF "state_kinds" (.ref sk') [("door", .ref dr), ("leads", .ref l)]))) l [] := nd4.at (Keep.upd (fun ys z => by rcases z with z | ⟨u, z⟩ <;> rw [x4] at z <;> cases z)) (fun o e => by rw [upd_ne lx]; exact e)
    generalize upd H4 x (.ins T.C_Machine dx (putF "state_kinds" (.ref sk') [("door", .ref dr), ("leads", .ref l)])) = H5 at b5 x5 e5 nd5
    refine ⟨by show 0 ≤ sizeLine; decide, fun o ho => ?_⟩
    have s6 := sn (o := .lst []) ho
    have e6 : upd H5 o (.lst []) o = some (.lst []) := upd_same
    generalize upd H5 o (.lst []) = H6 at s6 e6 ⊢
    have x6 := s6 _ _ x5
    have ox : o ≠ x := fun z => by rw [z, x5] at ho; cases ho
    refine ⟨_, rfl, x, _, dx, _, rfl, x6, T.cl_Machine, T.n_Machine_order_told, (show 3 < 1000 by decide), ?_⟩
    have nd6 := nd5.mono s6
    have b7 : But x H (upd H6 x (.ins T.C_Machine dx (putF "order_told" (.ref o) [("door", .ref dr), ("leads", .ref l), ("state_kinds", .ref sk')]))) := fun c u ne e => by rw [upd_ne ne]; exact s6 _ _ (b5 _ _ ne (b2 _ _ ne e))
    have x7 : upd H6 x (.ins T.C_Machine dx (putF "order_told" (.ref o) [("door", .ref dr), ("leads", .ref l), ("state_kinds", .ref sk')])) x = some (.ins T.C_Machine dx [("door", .ref dr), ("leads", .ref l), ("state_kinds", .ref sk'), ("order_told", .ref o)]) := upd_same
    have e7 : upd H6 x (.ins T.C_Machine dx (putF "order_told" (.ref o) [("door", .ref dr), ("leads", .ref l), ("state_kinds", .ref sk')])) sk' = some (.dK []) := by rw [upd_ne skx]; exact s6 _ _ e5
    have f7 : upd H6 x (.ins T.C_Machine dx (putF "order_told" (.ref o) [("door", .ref dr), ("leads", .ref l), ("state_kinds", .ref sk')])) o = some (.lst []) := by rw [upd_ne ox]; exact e6
    have nd7 : ND P w K (upd H6 x (.ins T.C_Machine dx (putF "order_told" (.ref o) [("door", .ref dr), ("leads", .ref l), ("state_kinds", .ref sk')]))) l [] := nd6.at (Keep.upd (fun ys z => by rcases z with z | ⟨u, z⟩ <;> rw [x6] at z <;> cases z)) (fun o e => by rw [upd_ne lx]; exact e)
    generalize upd H6 x (.ins T.C_Machine dx (putF "order_told" (.ref o) [("door", .ref dr), ("leads", .ref l), ("state_kinds", .ref sk')])) = H7 at b7 x7 e7 f7 nd7
    have kp7 : Keep H H7 := b7.keep notx
    have fx : H l = none := by
      cases e : H l with
      | none => rfl
      | some u => rw [b1 _ _ lx e] at hl; cases hl
    have fk : H sk' = none := by
      cases e : H sk' with
      | none => rfl
      | some u => rw [b2 _ _ skx e] at hsk; cases hsk
    have fo : H o = none := by
      cases e : H o with
      | none => rfl
      | some u => rw [b5 _ _ ox (b2 _ _ ox e)] at ho; cases ho
    have start0 : MidF P w K T.C_Machine H H7 x dx dr l sk' o kd rs 0 [] [] := ⟨b7, x7, nd7, e7, f7, (fun p hp => nomatch hp), by simp, (by simp [statesOf]), rfl⟩
    clear nd7 e7 f7 nd6 nd5 nd4 nd3 e6 e5 e4 s6 s4 x6 x5 x4 b5
    obtain ⟨m, hm, okm, hend⟩ : ∃ m, m ≤ rs.length ∧ RulesOk d kd rs m ∧ ((m = rs.length ∧ ((c = none ∧ LastOk rs last) ∨ (c = some (.str "last") ∧ ¬ LastOk rs last))) ∨ ∃ r, rs[m]? = some r ∧ StepBad d (rs.take m) r ∧ c = some (.int (m : Nat))) := by
      cases cm with
      | fine h1 h2 => exact ⟨_, Nat.le_refl _, h1, .inl ⟨rfl, .inl ⟨rfl, h2⟩⟩⟩
      | rule i r h1 h2 h3 => exact ⟨i, Nat.le_of_lt (List.getElem?_eq_some_iff.mp h2).1, h1, .inr ⟨r, h2, h3, rfl⟩⟩
      | last h1 h2 => exact ⟨_, Nat.le_refl _, h1, .inl ⟨rfl, .inr ⟨rfl, h2⟩⟩⟩
    refine ⟨_, rfl, rp, rvs, rfl, kp7.sq srp, for_it (walk_enumT (K := K) (c := rp) (ws := rvs)) (fun i σ G => i ≤ m ∧ (∃ b c, σ = [some (.ref x), some (.ref dr), some (.ref rp), some (.ref lp), b, c, none]) ∧ ∃ kvs os, MidF P w K T.C_Machine H G x dx dr l sk' o kd rs i kvs os) ⟨Nat.zero_le _, ⟨none, none, rfl⟩, [], [], start0⟩ (fun i σ G _ z => by
      obtain ⟨_, _, kvs, os, mf⟩ := z
      exact (mf.but.keep notx).sq srp) ?_ ?_⟩
    · rintro i y σ G G' hi ⟨im, ⟨b, c', rfl⟩, kvs, os, mf⟩ ⟨T1, z1, y1, rfl, hT1, rfl, e1, e2⟩
      cases e1
      have e2 : rvs[i]? = some y1 := e2
      have ilt : i < rs.length := by omega
      obtain ⟨r, er⟩ : ∃ r, rs[i]? = some r := ⟨_, List.getElem?_eq_getElem ilt⟩
      obtain ⟨y1', e2', im1⟩ := iar.get (i := i) (d := r.d) (by rw [List.getElem?_map, er]; rfl)
      rw [e2] at e2'
      cases e2'
      obtain ⟨n1, n2, n3⟩ := nms r (List.mem_of_getElem? er)
      have sT := sn (o := .tup [.int ((i : Nat) : Int), y1]) hT1
      refine ⟨T1, _, rfl, .inl (.inl upd_same), rfl, _, _, rfl, _, _, rfl, rfl, ?_⟩
      generalize upd G T1 (.tup [.int ((i : Nat) : Int), y1]) = G1 at sT ⊢
      have b1' : But x H G1 := fun c u ne e => sT _ _ (mf.but _ _ ne e)
      have kpG := b1'.keep notx
      have pf : PreF P w K T.C_Shape T.C_Door T.C_Machine G1 x d (rs.take i) kvs os dx dr l sk' o := ⟨sT _ _ mf.at_, dat.butI hx b1', mf.leads.mono sT, sT _ _ mf.sk, sT _ _ mf.ord⟩
      have iv := Im.mono kpG _ _ im1
      have kl : kvs.length ≤ 10000 := by
        have := mf.len
        omega
      refine ⟨_, rfl, x, dx, _, rfl, pf.at_, rfl, _, rfl, x, y1, d, rs.take i, kvs, os, dx, dr, l, sk', o, r, kd, rfl, pf, iv, n1, n2, n3, kl, mf.con, ?_⟩
      by_cases hmi : i < m
      · obtain ⟨kinds, kind, so, cc⟩ := okm i r hmi er
        refine .inl ⟨kinds, kind, so, cc, fun G2 bs2 es2 => ⟨_, rfl, iteF ?_⟩⟩
        obtain ⟨p, q, rfl, sp, sq⟩ := rl_at iv
        have kp2 : Keep G1 G2 := bs2.keep (notup_dk pf.sk)
        have lsk : l ≠ sk' := fun e => by
          have e1 := pf.sk
          obtain ⟨ts, _, e2, _⟩ := pf.leads
          rw [← e, e2] at e1
          cases e1
        have osk : o ≠ sk' := fun e => by
          have e1 := pf.sk
          rw [← e, pf.ord] at e1
          cases e1
        have xsk : x ≠ sk' := fun e => skx e.symm
        have nd2' : ND P w K G2 l (leadsE (rs.take i)) := pf.leads.at kp2 (fun u e => bs2 _ _ lsk e)
        have x2' := bs2 _ _ xsk pf.at_
        have kv : KeyV K G2 (keyOf r.name r.args) (.ref q) := key_v (kp2.sq sq)
        refine ⟨_, rfl, p, _, 1, _, rfl, rfl, kp2.sq sp, at1, _, rfl, x, _, dx, _, _, rfl, x2', T.cl_Machine, T.n_Machine_leads, rfl, _, rfl, p, _, 0, _, rfl, rfl, kp2.sq sp, at0, l, _, _, rfl, kv, nd2', ?_, ?_, fun G3 b3 nd3 => ?_⟩
        · rw [valV_leads, so.new]
          rfl
        · unfold leadsE
          rw [List.length_map, List.length_take, sizeLine_eq]
          omega
        have kp3 : Keep G2 G3 := b3.keep nd2'.notup
        have lo : l ≠ o := fun e => by
          have e1 := pf.ord
          obtain ⟨ts, _, e2, _⟩ := pf.leads
          rw [← e, e2] at e1
          cases e1
        have x3' := b3 _ _ (fun e => lx e.symm) x2'
        have o3 : G3 o = some (.lst os) := b3 _ _ lo.symm (bs2 _ _ osk pf.ord)
        refine ⟨_, rfl, x, _, dx, _, _, rfl, x3', T.cl_Machine, T.n_Machine_order_told, rfl, ?_⟩
        have olen : os.length < sizeLine := by
          rw [mf.olen, sizeLine_eq]
          omega
        refine ⟨.inl ⟨rfl, _, SqL.of o3⟩, _, rfl, p, _, 0, _, rfl, rfl, kp3.sq (kp2.sq sp), at0, o, os, .ref q, rfl, rfl, o3, olen, ?_⟩
        have lnH : ∀ {c : Addr} {u : HO}, H c = some u → c ≠ l := fun e z => by rw [z, fx] at e; cases e
        have skH : ∀ {c : Addr} {u : HO}, H c = some u → c ≠ sk' := fun e z => by rw [z, fk] at e; cases e
        have oH : ∀ {c : Addr} {u : HO}, H c = some u → c ≠ o := fun e z => by rw [z, fo] at e; cases e
        have nup : ∀ ys, ¬ Rd G3 o (.tup ys) := fun ys z => by
          rcases z with z | ⟨u, z⟩ <;> rw [o3] at z <;> cases z
        refine ⟨hmi, ⟨_, _, rfl⟩, setAll kvs (r.prs kinds kind), os ++ [.ref q], ?_⟩
        refine ⟨fun c u ne e => ?_, ?_, ?_, ?_, upd_same, mf.con.all cc, ?_, fun a => ?_, by rw [List.length_append, mf.olen]; rfl⟩
        · rw [upd_ne (oH e)]
          exact b3 _ _ (lnH e) (bs2 _ _ (skH e) (b1' _ _ ne e))
        · rw [upd_ne ox.symm]
          exact x3'
        · rw [leads_take er]
          exact nd3.at (Keep.upd nup) (fun u e => by rw [upd_ne lo]; exact e)
        · rw [upd_ne osk.symm]
          exact b3 _ _ lsk.symm es2
        · have h1 := setAll_len (kvs := kvs) (ps := r.prs kinds kind)
          have h2 := mf.len
          have h3 : (r.prs kinds kind).length ≤ 4 := by
            have := congrArg List.length (prs_fst (r := r) (kinds := kinds) (kind := kind) so.len)
            simp at this
            have := so.few
            omega
          omega
        · rw [setAll_keys, prs_fst so.len, states_take er, mf.keys]
          simp only [List.mem_append]
      · have emi : i = m := by omega
        subst emi
        rcases hend with ⟨e, _⟩ | ⟨r', er', bad, ec⟩
        · omega
        rw [er] at er'
        cases er'
        refine .inr ⟨bad, fun G2 s2 => ⟨_, rfl, iteT ?_⟩⟩
        exact ⟨_, rfl, _, rfl, fun dd hdd => ke _ ec G2 dd (fun c u ne e => s2 _ _ (b1' _ _ ne e)) hdd⟩
    · rintro σ G ⟨hmm, ⟨b, c', rfl⟩, kvs, os, mf⟩
      have em : m = rs.length := by omega
      subst em
      have hc : (c = none ∧ LastOk rs last) ∨ (c = some (.str "last") ∧ ¬ LastOk rs last) := by
        rcases hend with ⟨_, h⟩ | ⟨r, er, _⟩
        · exact h
        · rw [List.getElem?_eq_none (Nat.le_refl _)] at er
          cases er
      clear hend
      have erl : rs.take rvs.length = rs := by rw [rlen]; exact List.take_length
      have slpG : SqT K G lp (last.map V.int) := (mf.but.keep notx).sq slp
      refine ⟨_, rfl, _, _, _, _, true, rfl, .ty _, tyT slpG, kit_ty (by decide +kernel), _, rfl, iteF ?_⟩
      refine ⟨_, rfl, lp, rfl, ⟨_, slpG⟩, fun D hD => lc_bools (K := K) (walk_tup (K := K) (a := lp) (xs := last.map V.int)) (last.map inS) (by simp) hD (by rw [List.length_map]; omega) (fun H8 hb => keepT (hb.same hD) slpG) ?_ ?_⟩
      · rintro i b y H0 H8 hbs hb hne ⟨rfl, hy⟩
        rw [List.getElem?_map] at hbs hy
        cases ea : last[i]? with
        | none => rw [ea] at hy; cases hy
        | some a =>
          rw [ea] at hbs hy
          cases hbs
          cases hy
          refine ⟨Same.refl _, fun N hN => ⟨rfl, ?_⟩⟩
          exact ⟨_, rfl, _, _, rfl, rfl, a, 0, _, rfl, hN _ (Same.refl _)⟩
      intro G1 s1 hl1
      have b1 : But x H G1 := fun c u ne e => s1 _ _ (mf.but _ _ ne e)
      refine ⟨D, _, rfl, hl1, _, rfl, ?_⟩
      rw [show (last.map inS).all id = last.all inS by rw [List.all_map]; rfl]
      by_cases hin : last.all inS = true
      case neg =>
        rcases hc with ⟨_, h⟩ | ⟨ec, _⟩
        · exact absurd h.1 hin
        · exact itt (by rw [Bool.eq_false_iff.mpr hin]; rfl) ⟨_, rfl, fun dd hdd => ke _ ec G1 dd b1 hdd⟩
      refine itf (by rw [hin]; rfl) ?_
      have slp1 := keepT s1 slpG
      refine ⟨_, rfl, lp, _, rfl, .inr slp1, fun l1 hl1' => ?_⟩
      have s2 := sn (o := .lst (last.map V.int)) hl1'
      have e2 : upd G1 l1 (.lst (last.map V.int)) l1 = some (.lst (last.map V.int)) := upd_same
      generalize upd G1 l1 (.lst (last.map V.int)) = G2 at s2 e2 ⊢
      refine ⟨_, rfl, lp, last, rfl, keepT s2 slp1, fewl, fun p3 c3 hp3 hc3 => ?_⟩
      have s3 := sn (o := SetO w p3 (fun j => decide (j ∈ last)) c3) hp3
      have e3 : upd G2 p3 (SetO w p3 (fun j => decide (j ∈ last)) c3) p3 = some (SetO w p3 (fun j => decide (j ∈ last)) c3) := upd_same
      generalize upd G2 p3 (SetO w p3 (fun j => decide (j ∈ last)) c3) = G3 at s3 e3 ⊢
      refine ⟨p3, _, c3, rfl, e3, by omega, fun ns q pw mem len hq => ?_⟩
      have s4 := sn (o := .lst (ns.map V.int)) hq
      have e4 : upd G3 q (.lst (ns.map V.int)) q = some (.lst (ns.map V.int)) := upd_same
      generalize upd G3 q (.lst (ns.map V.int)) = G4 at s4 e4 ⊢
      refine ⟨.list (last.map .int), .list (ns.map .int), Dp.lst (SqL.of (s4 _ _ (s3 _ _ e2))) (ImAll.dp _ _ im_ints), Dp.lst (SqL.of e4) (ImAll.dp _ _ im_ints), ints_shapedL _, ints_shapedL _, _, rfl, ?_⟩
      rw [eqv_ints]
      have s14 := s2.trans (s3.trans s4)
      have b4 : But x H G4 := fun c u ne e => s14 _ _ (b1 _ _ ne e)
      by_cases hpw : last.Pairwise (· < ·)
      case neg =>
        have ne : last ≠ ns := fun e => hpw (e ▸ pw)
        rcases hc with ⟨_, h⟩ | ⟨ec, _⟩
        · exact absurd h.2.1 hpw
        · exact itt (by rw [decide_eq_false ne]; rfl) (iteT ⟨_, rfl, fun dd hdd => ke _ ec G4 dd b4 hdd⟩)
      have elast : last = ns := asc_unique hpw pw fun k => by rw [mem k]; simp
      refine itf (by rw [decide_eq_true elast]; rfl) ?_
      have s04 := s1.trans s14
      have slp4 := keepT s04 slpG
      have x4 := s04 _ _ mf.at_
      have k4 := s04 _ _ mf.sk
      have isk : ∀ a : Int, (valV (kvE kvs) (Sum.inl a : Key)).isSome = decide (a ∈ statesOf rs) := fun a => by
        have ky := mf.keys a
        rw [erl] at ky
        by_cases h : a ∈ kvs.map Prod.fst
        · rw [kv_some mf.con h, decide_eq_true (ky.mp h)]
          rfl
        · rw [kv_none h, decide_eq_false fun z => h (ky.mpr z)]
          rfl
      refine ⟨_, rfl, lp, rfl, ⟨_, slp4⟩, fun D5 hD5 => lc_bools (K := K) (walk_tup (K := K) (a := lp) (xs := last.map V.int)) (last.map fun a => decide (a ∈ statesOf rs)) (by simp) hD5 (by rw [List.length_map]; omega) (fun H8 hb => keepT (hb.same hD5) slp4) ?_ ?_⟩
      · rintro i bb y H0 H8 hbs hb hne ⟨rfl, hy⟩
        have s8 := hb.same hD5
        rw [List.getElem?_map] at hbs hy
        cases ea : last[i]? with
        | none => rw [ea] at hy; cases hy
        | some a =>
          rw [ea] at hbs hy
          cases hbs
          cases hy
          refine ⟨Same.refl _, fun N hN => ⟨rfl, ?_⟩⟩
          refine ⟨_, rfl, _, rfl, x, _, dx, _, _, rfl, s8 _ _ x4, T.cl_Machine, T.n_Machine_state_kinds, rfl, sk', _, rfl, DGet.k (k := Sum.inl a) (s8 _ _ k4), ?_⟩
          rw [isk]
          exact hN _ (Same.refl _)
      intro G5 s5 hl5
      refine ⟨D5, _, rfl, hl5, _, rfl, ?_⟩
      have b5 : But x H G5 := fun c u ne e => s5 _ _ (b4 _ _ ne e)
      by_cases hst : ∀ a ∈ last, a ∈ statesOf rs
      case neg =>
        rcases hc with ⟨_, h⟩ | ⟨ec, _⟩
        · exact absurd h.2.2 hst
        · refine itt ?_ ⟨_, rfl, fun dd hdd => ke _ ec G5 dd b5 hdd⟩
          rw [Bool.not_eq_true', Bool.eq_false_iff]
          intro h
          rw [List.all_map, List.all_eq_true] at h
          exact hst fun a ha => of_decide_eq_true (h a ha)
      rcases hc with ⟨ec, _⟩ | ⟨_, h⟩
      case inr => exact absurd ⟨hin, hpw, hst⟩ h
      refine itf ?_ ?_
      · rw [Bool.not_eq_false', List.all_map, List.all_eq_true]
        exact fun a ha => decide_eq_true (hst a ha)
      have x5 := s5 _ _ x4
      refine ⟨_, rfl, _, rfl, x, _, dx, _, rfl, x5, T.cl_Machine, T.n_Machine_rules, (show 4 < 1000 by decide), ?_⟩
      refine ⟨_, rfl, _, rfl, x, _, dx, _, rfl, upd_same, T.cl_Machine, T.n_Machine_last, (show 5 < 1000 by decide), ?_⟩
      rw [upd_upd]
      have bf : But x H (upd G5 x (.ins T.C_Machine dx (putF "last" (.ref lp) (putF "rules" (.ref rp) [("door", .ref dr), ("leads", .ref l), ("state_kinds", .ref sk'), ("order_told", .ref o)])))) := fun c u ne e => by rw [upd_ne ne]; exact b5 _ _ ne e
      have kf := bf.keep notx
      have ndf := (mf.leads.mono (s04.trans s5)).at (H' := upd G5 x (.ins T.C_Machine dx (putF "last" (.ref lp) (putF "rules" (.ref rp) [("door", .ref dr), ("leads", .ref l), ("state_kinds", .ref sk'), ("order_told", .ref o)])))) (Keep.upd (notup_ins x5)) (fun u e => by rw [upd_ne lx]; exact e)
      rw [erl] at ndf
      refine kq ec _ bf ⟨dx, l, sk', o, .ref rp, .ref lp, upd_same, dat.butI hx bf, ndf, Im.mono kf _ _ (im_tup srp iar), Im.mono kf _ _ (im_tup slp im_ints)⟩
end
end T82
namespace T82
open PySem L2
section
variable {P : Program} {w : World} {K : PySem.W.Frag} {mg : Str → Option Value} {base : Heap}
/-! ### number_of -/
def figure (c : Nat) : Bool := decide (c ∈ ("0123456789" : Str).cps.toList)
def figs (z : Str) : Bool := decide (1 ≤ (z.length : Int)) && decide ((z.length : Int) ≤ 3) && z.cps.toList.all figure
/-- whether a word has a number's form -/
def numB (z : Str) : Bool := figs z && !(decide (1 < (z.length : Int)) && decide (z.cps.toList.head? = some 48))
abbrev nm_number_of : List Str := ["word", "sign"]
theorem sc_number_of : FnScope nm_number_of ["word"] (defScope s_number_of) := ⟨rfl, rfl, rfl, by decide +kernel, rfl, by decide +kernel, by decide +kernel⟩
def sp_number_of : Sp := fun vs H Q _ => ∃ z : Str, vs = [.str z] ∧ z.length ≤ 100000 ∧ ((numB z = false ∧ ∀ H', Same H H' → Q .non H') ∨ ∃ n, numB z = true ∧ PySem.intText? z = some n ∧ ∀ H', Same H H' → Q (.int n) H')
theorem ok_number_of (T : Tx K mg) : FnOk P w K mg base CX0 1 T.f_number_of T.d_number_of ["word"] sp_number_of := by
  refine T.F_number_of.ok sc_number_of (fun vs H Q E h => ?_) (fun cdv A outer s H vs Q E hr h => ?_)
  · obtain ⟨z, rfl, _⟩ := h
    rfl
  · obtain ⟨z, rfl, zl, hh⟩ := h
    refine ⟨_, (pss_cons (ps_if (PW.pt (pw_or (pt_not (pt_chain op_le op_le pe_int (pe_callB call_len (by rfl) T.t_len (by decide +kernel) (pa_cons (pv 0) pa_nil)) (pe_glob rfl T.c_MOST_FIGURES rI))) (pw_or1 (pt_not (pt_val (pe_callB (cAll (K := K) rfl rfl) (by rfl) T.t_all (by decide +kernel) (pa_cons (pe_lc (own := [("sign", 1)]) (g := gName 1) (tt := tYes) rfl sc_number_of.nd (pi_str (pv 0)) (blkOk_by (N := nm_number_of) (sc := defScope s_number_of) (by decide +kernel)) (fun _ _ _ _ _ => (pg_name (i := 1) sc_number_of.nd rfl (Or.inl rfl))) (fun _ _ _ _ _ => pts_nil) (fun _ _ _ _ _ => (pe_cmpR (op_in_sign) (pv 1) (pe_glob rfl T.c_FIGURES rS) rfl))) pa_nil))))))) (pss_one (ps_ret pe_non)) pss_nil)
    (pss_one (ps_ret (pe_ifExp (PW.pt (pw_and (pt_cmpR op_gt (pe_callB call_len (by rfl) T.t_len (by decide +kernel) (pa_cons (pv 0) pa_nil)) pe_int (nomark _)) (pw_and1 (pt_cmpR op_eq (pe_ix ix_str (pv 0) pe_int (fun _ _ => rfl)) pe_str (nomark _))))) pe_non (pe_callTy call_int_str (by rfl) T.t_int (by decide +kernel) (pa_cons (pv 0) pa_nil)))))), ?_⟩
    have kN : numB z = false → ∀ H', Same H H' → Q .non H' := fun e => by
      rcases hh with ⟨_, k⟩ | ⟨n, e', _⟩
      · exact k
      · rw [e] at e'; cases e'
    refine ⟨_, rfl, .str z, z.length, rfl, ⟨Nat.le_trans zl (by decide), rfl⟩, _, _, rfl, rfl, _, rfl, ?_⟩
    by_cases h1 : 1 ≤ (z.length : Int)
    case neg =>
      have e : numB z = false := by unfold numB figs; rw [decide_eq_false h1]; rfl
      rw [decide_eq_false h1]
      exact iteF ⟨_, rfl, iteT (iteT (kN e _ (Same.refl _)))⟩
    rw [decide_eq_true h1]
    refine iteT ⟨_, _, rfl, rfl, _, rfl, ?_⟩
    by_cases h2 : (z.length : Int) ≤ 3
    case neg =>
      have e : numB z = false := by unfold numB figs; rw [decide_eq_false h2]; simp
      rw [decide_eq_false h2]
      exact iteT (iteT (kN e _ (Same.refl _)))
    rw [decide_eq_true h2]
    refine iteF ⟨_, rfl, z, rfl, fun D hD => lc_bools (K := K) walk_str (z.cps.toList.map figure) (by simp) hD (by have := zl; simp only [Str.length] at this; exact this) (fun _ _ => trivial) ?_ ?_⟩
    · rintro i b x H2 H2' hd hb hne ⟨rfl, c, hc, rfl⟩
      refine ⟨Same.refl _, fun N hN => ⟨rfl, _, rfl, c, _, rfl, rfl, ?_⟩⟩
      rw [List.getElem?_map, Array.getElem?_toList, hc] at hd
      cases hd
      exact hN _ (Same.refl _)
    intro G s1 hl1
    refine ⟨D, _, rfl, hl1, _, rfl, ?_⟩
    rw [show (z.cps.toList.map figure).all id = z.cps.toList.all figure by rw [List.all_map]; rfl]
    by_cases h3 : z.cps.toList.all figure = true
    case neg =>
      have e : numB z = false := by unfold numB figs; rw [Bool.eq_false_iff.mpr h3]; simp
      exact itt (by rw [Bool.eq_false_iff.mpr h3]; rfl) (kN e _ s1)
    refine itf (by rw [h3]; rfl) ?_
    have hfig : figs z = true := by
      unfold figs
      rw [decide_eq_true h1, decide_eq_true h2, h3]
      rfl
    have kI : numB z = true → ∃ n, PySem.intText? z = some n ∧ z.length ≤ 640 ∧ ∀ H', Same H H' → Q (.int n) H' := fun e => by
      rcases hh with ⟨e', _⟩ | ⟨n, _, e2, k⟩
      · rw [e] at e'; cases e'
      · exact ⟨n, e2, by omega, k⟩
    refine ⟨_, rfl, .str z, z.length, rfl, ⟨Nat.le_trans zl (by decide), rfl⟩, _, _, rfl, rfl, _, rfl, ?_⟩
    by_cases h4 : 1 < (z.length : Int)
    case neg =>
      have e : numB z = true := by unfold numB; rw [hfig, decide_eq_false h4]; rfl
      obtain ⟨n, e1, e2, k⟩ := kI e
      rw [decide_eq_false h4]
      exact iteF (iteF ⟨_, rfl, z, n, rfl, e1, e2, k _ s1⟩)
    rw [decide_eq_true h4]
    obtain ⟨c, ec⟩ : ∃ c, z.cps.toList.head? = some c := by
      cases e : z.cps.toList with
      | nil =>
        have : z.cps.toList.length = 0 := by rw [e]; rfl
        simp only [Array.length_toList] at this
        simp only [Str.length] at h4
        omega
      | cons c cs => exact ⟨c, rfl⟩
    have ei : atI z.cps.toList 0 = some c := by
      refine atI_nat (j := 0) ?_
      rw [← List.head?_eq_getElem?]
      exact ec
    refine iteT ⟨_, rfl, z, 0, c, rfl, rfl, Nat.le_trans zl (by decide), ei, rfl, _, rfl, ?_⟩
    by_cases h5 : c = 48
    · have e : numB z = false := by unfold numB; rw [hfig, decide_eq_true h4, ec, h5]; rfl
      subst h5
      exact itt (decide_eq_true rfl) (kN e _ s1)
    · have e : numB z = true := by unfold numB; rw [hfig, ec, decide_eq_false (fun q => h5 (Option.some.inj q))]; simp
      obtain ⟨n, e1, e2, k⟩ := kI e
      refine itf (decide_eq_false fun q => h5 ?_) ⟨_, rfl, z, n, rfl, e1, e2, k _ s1⟩
      have q2 := congrArg (fun v => match v with | V.str y => y.cps.toList | _ => []) q
      have z0 : (Str.ofString "0").cps.toList = [48] := by decide +kernel
      simp only [z0] at q2
      exact List.head_eq_of_cons_eq q2
end
end T82
namespace T82
open PySem L2
section
variable {P : Program} {w : World} {K : PySem.W.Frag} {mg : Str → Option Value} {base : Heap}
/-! ### lines_of -/
def nl : Str := "\n"
def linesT (z : Str) : List Str := Txt.split z nl
abbrev nm_lines_of : List Str := ["text", "lines"]
theorem sc_lines_of : FnScope nm_lines_of ["text"] (defScope s_lines_of) := ⟨rfl, rfl, rfl, by decide +kernel, rfl, by decide +kernel, by decide +kernel⟩
def sp_lines_of (K : PySem.W.Frag) (CB : Addr) : Sp := fun vs H Q E => ∃ v, vs = [v] ∧
  ((∃ t, TyX K H v t ∧ PySem.W.kitOne K t (.type "str") = some false ∧ ∀ (G : Hp) (dd : Addr), Same H G → G dd = none → E (.ref CB) (some dd) (upd G dd (.xd [(("at" : Str), .int 0)]))) ∨
   (∃ (z : Str) (ls : List Str) (l : Str), v = .str z ∧ z.length ≤ 100000 ∧ linesT z = ls ++ [l] ∧ ls.length ≤ 100000 ∧
    (l = "" → ∀ (G : Hp) p, Same H G → SqL K G p (ls.map V.str) → Q (.ref p) G) ∧ (l ≠ "" → ∀ (G : Hp) (dd : Addr), Same H G → G dd = none → E (.ref CB) (some dd) (upd G dd (.xd [(("at" : Str), .int ((ls.length + 1 : Nat) : Int))])))))
theorem ok_lines_of (T : Tx K mg) {CB fB : Addr} (BT : BadTextX.Txt P K mg CB fB) : FnOk P w K mg base (L2.CX P w) 3 T.f_lines_of T.d_lines_of ["text"] (sp_lines_of K CB) := by
  refine T.F_lines_of.okX sc_lines_of (fun vs H Q E h => ?_) (fun cdv A outer s H vs Q E hr h => ?_)
  · obtain ⟨z, rfl, _⟩ := h
    rfl
  · obtain ⟨v, rfl, hh⟩ := h
    refine ⟨_, (pss_cons (ps_if (pt_not (pt_val (pe_callB (cIsi (K := K) rfl) (by rfl) T.t_isinstance (by decide +kernel) (pa_cons (pv 0) (pa_cons (pe_bltn (by rfl) T.t_str (by decide +kernel) (show RelV (.ty "str") (.type "str") from rfl)) pa_nil))))) (pss_one (BadTextX.ps_raiseO (W := fun cls d _ H => E cls d H) rfl BT hr (takes_of rfl rfl rfl rfl) (by exact (pa_cons pe_int pa_nil)))) pss_nil)
    (pss_cons (ps_set (i := 1) sc_lines_of.nd rfl (.inl rfl) (pe_split (pv 0) pe_str))
    (pss_cons (ps_if (pt_cmpR op_ne (pe_ix (iL (K := K) rfl) (pv 1) (pe_un un_neg pe_int) (fun _ _ => rfl)) pe_str (nomark _)) (pss_one (BadTextX.ps_raiseO (W := fun cls d _ H => E cls d H) rfl BT hr (takes_of rfl rfl rfl rfl) (by exact (pa_cons (pe_callB (cLen (K := K) rfl) (by rfl) T.t_len (by decide +kernel) (pa_cons (pv 1) pa_nil)) pa_nil)))) pss_nil)
    (pss_one (ps_ret (pe_slice (sL (K := K) rfl) (pv 1) po_none (po_some (pe_un un_neg pe_int)))))))), ?_⟩
    rcases hh with ⟨t, ty, kt, ke⟩ | ⟨z, ls, l, rfl, zl, hls, lsl, kq, ke⟩
    · refine ⟨_, rfl, _, _, _, _, false, rfl, .ty _, ty, kt, _, rfl, itt rfl ?_⟩
      exact ⟨_, rfl, fun dd hdd => ke _ dd (Same.refl _) hdd⟩
    refine ⟨_, rfl, _, _, _, _, true, rfl, .ty _, .base (.str z), kit_ty (by decide +kernel), _, rfl, itf rfl ?_⟩
    refine ⟨_, rfl, ⟨z, rfl⟩, z, nl, rfl, rfl, by decide +kernel, by rw [sizeLine_eq]; omega, fun p hp => ?_⟩
    have ep : upd H p (.lst ((Txt.split z nl).map V.str)) p = some (.lst ((Txt.split z nl).map V.str)) := upd_same
    have s1 := sn (o := .lst ((Txt.split z nl).map V.str)) hp
    generalize upd H p (.lst ((Txt.split z nl).map V.str)) = G at ep s1 ⊢
    rw [show Txt.split z nl = ls ++ [l] from hls, List.map_append] at ep
    have last : atI (ls.map V.str ++ [l].map V.str) (-1) = some (.str l) := by
      unfold atI
      have : ixN (ls.map V.str ++ [l].map V.str).length (-1) = some ls.length := by
        unfold ixN
        simp
        omega
      rw [this]
      simp
    refine ⟨_, rfl, 1, rfl, p, _, -1, _, rfl, rfl, SqL.of ep, last, rfl, _, rfl, ?_⟩
    by_cases hl : l = ""
    case neg =>
      refine itt (by rw [decide_eq_false (fun q => hl (V.str.inj q))]; rfl) ⟨_, rfl, p, _, rfl, .inl (SqL.of ep), _, rfl, fun dd hdd => ?_⟩
      have := ke hl G dd s1 hdd
      rw [List.length_append, List.length_map]
      exact this
    subst hl
    refine itf (by rw [decide_eq_true rfl]; rfl) ⟨_, rfl, 1, rfl, _, rfl, p, _, rfl, SqL.of ep, fun q hq => ?_⟩
    have ec : cutV (ls.map V.str ++ [("" : Str)].map V.str) none (some (-1)) = ls.map V.str := by
      unfold cutV HT.sIx
      simp
      rw [show (-1 + ((ls.length : Int) + 1)).toNat = (ls.map V.str).length by rw [List.length_map]; omega, List.take_left]
    rw [show (-(1 : Int)) = -1 from rfl, ec]
    exact kq rfl _ q (s1.trans (sn hq)) (SqL.of upd_same)
end
end T82
namespace T82
open PySem L2
/-! ### what a word writes -/
def numD (z : Str) : Option Int := if numB z = true then some ((NumText.digitsVal z.cps.toList : Nat) : Int) else none
theorem num_text {z : Str} (h : numB z = true) : PySem.intText? z = some ((NumText.digitsVal z.cps.toList : Nat) : Int) := by
  unfold numB figs at h
  simp only [Bool.and_eq_true, decide_eq_true_eq] at h
  obtain ⟨⟨⟨h1, h2⟩, h3⟩, _⟩ := h
  rw [List.all_eq_true] at h3
  have l : z.cps.toList.length = z.length := by simp [Str.length]
  refine PySem.intText_digits (fun c hc => ?_) (fun e => ?_) (by omega)
  · have := h3 c hc
    unfold figure at this
    have := of_decide_eq_true this
    rw [show ("0123456789" : Str).cps.toList = [48, 49, 50, 51, 52, 53, 54, 55, 56, 57] by decide +kernel] at this
    simp at this
    omega
  · rw [e] at l
    simp at l
    omega
theorem sp_num {z : Str} {H : Hp} {Q : VK} {E : XK} (zl : z.length ≤ 100000) (k : ∀ H', Same H H' → Q (optV (numD z)) H') : sp_number_of [.str z] H Q E := by
  refine ⟨z, rfl, zl, ?_⟩
  unfold numD at k
  by_cases h : numB z = true
  · rw [if_pos h] at k
    exact .inr ⟨_, h, num_text h, k⟩
  · rw [if_neg h] at k
    exact .inl ⟨Bool.eq_false_iff.mpr h, k⟩
end T82
namespace T82
open PySem L2
/-! ### a line of last states -/
def numsD : List Str → Option (List Int)
  | [] => some []
  | w :: ws => (numD w).bind fun a => (numsD ws).map fun r => a :: r
theorem numsD_none : ∀ ws : List Str, inV .non (ws.map fun u => optV (numD u)) = (numsD ws).isNone
  | [] => rfl
  | w :: ws => by
    have ih := numsD_none ws
    unfold inV at ih ⊢
    rw [List.map_cons, List.any_cons, ih, numsD]
    cases h : numD w with
    | none => rfl
    | some a =>
      cases h2 : numsD ws with
      | none => rfl
      | some r => rfl
theorem numsD_some : ∀ {ws : List Str} {is : List Int}, numsD ws = some is → (ws.map fun u => optV (numD u)) = is.map V.int
  | [], is, h => by
    rw [numsD] at h
    cases h
    rfl
  | w :: ws, is, h => by
    rw [numsD] at h
    cases h1 : numD w with
    | none => rw [h1] at h; cases h
    | some a =>
      rw [h1] at h
      cases h2 : numsD ws with
      | none => rw [h2] at h; cases h
      | some r =>
        rw [h2] at h
        cases h
        rw [List.map_cons, numsD_some h2, h1]
        rfl
def spc : Str := " "
def lastD (z : Str) : Option (List Int) := match Txt.split z spc with
  | [] => none
  | w :: ws => if w = "last" then numsD ws else none
section
variable {P : Program} {w : World} {K : PySem.W.Frag} {mg : Str → Option Value} {base : Heap}
abbrev nm_last_line : List Str := ["line", "words", "told", "word"]
theorem sc_last_line : FnScope nm_last_line ["line"] (defScope s_last_line) := ⟨rfl, rfl, rfl, by decide +kernel, rfl, by decide +kernel, by decide +kernel⟩
def sp_last_line (K : PySem.W.Frag) : Sp := fun vs H Q _ => ∃ (z u : Str) (us : List Str), vs = [.str z] ∧ z.length ≤ 100000 ∧ Txt.split z spc = u :: us ∧ us.length ≤ 10000 ∧ (∀ y ∈ us, y.length ≤ 100000) ∧
  (match lastD z with
    | none => ∀ G, Same H G → Q .non G
    | some is => ∀ G p, Same H G → SqT K G p (is.map V.int) → Q (.ref p) G)
theorem ok_last_line (T : Tx K mg) : FnOk P w K mg base CX0 2 T.f_last_line T.d_last_line ["line"] (sp_last_line K) := by
  refine T.F_last_line.ok sc_last_line (fun vs H Q E h => ?_) (fun cdv A outer s H vs Q E hr h => ?_)
  · obtain ⟨z, u, us, rfl, _⟩ := h
    rfl
  · obtain ⟨z, u, us, rfl, zl, e, ul, yl, k⟩ := h
    refine ⟨_, (pss_cons (ps_set (i := 1) sc_last_line.nd rfl (.inl rfl) (pe_split (pv 0) pe_str))
    (pss_cons (ps_setLc (i := 2) (own := [("word", 3)]) (g := gName 3) (tt := tYes) rfl sc_last_line.nd rfl rfl (sw_true rfl rfl rfl (by decide +kernel)) (wL (K := K) rfl (pe_slice (sL (K := K) rfl) (pv 1) (po_some pe_int) po_none)) (blkOk_by (N := nm_last_line) (sc := defScope s_last_line) (by decide +kernel)) (fun _ _ _ _ _ => (pg_name (i := 3) sc_last_line.nd rfl (Or.inl rfl))) (fun _ _ _ _ _ => pts_nil) (fun _ _ _ _ _ => (pe_call (ok_number_of T) (hr.mono (by decide)) (by rfl) T.m_number_of T.F_number_of.kp T.b_number_of .nil pass0 (pa_cons (pv 3) pa_nil))))
    (pss_one (ps_ret (pe_ifExp (PW.pt (pw_and (pt_cmpR op_eq (pe_ix (iL (K := K) rfl) (pv 1) pe_int (fun _ _ => rfl)) pe_str (nomark _)) (pw_and1 (pt_cmpR (oNotIn (K := K) rfl) pe_non (pv 2) rfl)))) (pe_callTy (tTup (K := K) rfl) (by rfl) T.t_tuple (by decide +kernel) (pa_cons (pv 2) pa_nil)) pe_non))))), ?_⟩
    refine ⟨_, rfl, ⟨z, rfl⟩, z, spc, rfl, rfl, by decide +kernel, by rw [sizeLine_eq]; omega, fun p hp => ?_⟩
    have ep : upd H p (.lst ((Txt.split z spc).map V.str)) p = some (.lst ((Txt.split z spc).map V.str)) := upd_same
    have s1 := sn (o := .lst ((Txt.split z spc).map V.str)) hp
    generalize upd H p (.lst ((Txt.split z spc).map V.str)) = G at ep s1 ⊢
    rw [e, List.map_cons] at ep
    refine ⟨_, rfl, _, rfl, p, _, rfl, SqL.of ep, fun p2 hp2 => ?_⟩
    rw [cut1]
    have e2 : upd G p2 (.lst (us.map V.str)) p2 = some (.lst (us.map V.str)) := upd_same
    have s2 := sn (o := .lst (us.map V.str)) hp2
    generalize upd G p2 (.lst (us.map V.str)) = G2 at e2 s2 ⊢
    refine ⟨p2, rfl, ⟨_, SqL.of e2⟩, fun D hD => lc_im (K := K) (walk_list (K := K) (a := p2) (xs := us.map V.str)) hD ((us.map numD).map optD) (by simp) (by rw [List.length_map]; omega) (fun H2 hb => keepL (hb.same hD) (SqL.of e2)) ?_ ?_⟩
    · rintro i dd y H0 H2 hdd hb hne ⟨rfl, hy⟩
      rw [List.getElem?_map, List.getElem?_map] at hdd
      rw [List.getElem?_map] at hy
      cases ea : us[i]? with
      | none => rw [ea] at hdd; cases hdd
      | some t2 =>
        rw [ea] at hdd hy
        cases hdd
        cases hy
        exact ⟨Same.refl _, fun N hN => ⟨rfl, _, rfl, sp_num (E := E0) (yl t2 (List.mem_of_getElem? ea)) fun G sG => hN _ G sG (optV_im _)⟩⟩
    intro H2 ys hb hy im
    rw [im.opts, List.map_map] at hy
    rw [show (optV ∘ numD) = fun t => optV (numD t) from rfl] at hy
    have s3 := hb.same hD
    have ep3 := s3 _ _ (s2 _ _ ep)
    have s03 := s1.trans (s2.trans s3)
    refine ⟨_, rfl, p, _, 0, _, rfl, rfl, SqL.of ep3, at0, rfl, _, rfl, ?_⟩
    unfold lastD at k
    rw [e] at k
    by_cases hu : u = "last"
    case neg =>
      have k : ∀ G, Same H G → Q .non G := by simpa only [if_neg hu] using k
      exact itf (decide_eq_false fun q => hu (V.str.inj q)) (iteF (k _ s03))
    subst hu
    simp only [if_true] at k
    refine itt (decide_eq_true rfl) ?_
    have en := numsD_none us
    refine ⟨_, rfl, D, _, rfl, .inl (SqL.of hy), rfl, by rw [show (us.map fun t => optV (numD t)) = (us.map numD).map optV by rw [List.map_map]; rfl]; exact flat_optV _, ?_⟩
    rw [en]
    cases es : numsD us with
    | none =>
      rw [es] at k
      exact ⟨_, rfl, iteF (k _ s03)⟩
    | some is =>
      rw [es] at k
      rw [numsD_some es] at hy
      refine ⟨_, rfl, iteT ⟨_, rfl, D, _, rfl, .inl ⟨SqL.of hy, fun q hq => ?_⟩⟩⟩
      exact k _ q (s03.trans (sn hq)) (SqT.of upd_same)
end
end T82
namespace T82
open PySem L2
/-! ### a line of a rule -/
def arrow : Str := " -> "
/-- what a rule's line writes: a name, numbers, a goal -/
def ruleD (z : Str) : Option Rl :=
  let h := (Txt.partition z arrow).1
  let m := (Txt.partition z arrow).2.1
  let t := (Txt.partition z arrow).2.2
  if m = "" then none else match Txt.split h spc with
  | u :: f :: us => if u = "rule" ∧ nameB f = true then (numsD us).bind fun is => (numD t).map fun g => ⟨f, is, g⟩ else none
  | _ => none
theorem numsD_app (t : Str) : ∀ us : List Str, numsD (us ++ [t]) = (numsD us).bind fun is => (numD t).map fun g => is ++ [g]
  | [] => by
    rw [List.nil_append, numsD, numsD]
    cases numD t <;> rfl
  | u :: us => by
    rw [List.cons_append, numsD, numsD_app t us, numsD]
    cases numD u <;> cases numsD us <;> cases numD t <;> rfl
theorem cut2 (x y : V) (xs : List V) : cutV (x :: y :: xs) (some 2) none = xs := by
  unfold cutV HT.sIx
  simp
theorem cut_1 (xs : List V) (x : V) : cutV (xs ++ [x]) none (some (-1)) = xs := by
  unfold cutV HT.sIx
  simp
  rw [show (-1 + ((xs.length : Int) + 1)).toNat = xs.length by omega, List.take_left]
theorem at_1 (xs : List V) (x : V) : atI (xs ++ [x]) (-1) = some x := by
  unfold atI
  have : ixN (xs ++ [x]).length (-1) = some xs.length := by
    unfold ixN
    simp
    omega
  rw [this]
  simp
section
variable {P : Program} {w : World} {K : PySem.W.Frag} {mg : Str → Option Value} {base : Heap}
abbrev nm_rule_line : List Str := ["line", "head", "parted", "tail", "words", "told", "word"]
theorem sc_rule_line : FnScope nm_rule_line ["line"] (defScope s_rule_line) := ⟨rfl, rfl, rfl, by decide +kernel, rfl, by decide +kernel, by decide +kernel⟩
def sp_rule_line (K : PySem.W.Frag) : Sp := fun vs H Q _ => ∃ (z : Str), vs = [.str z] ∧ z.length ≤ 100000 ∧ (Txt.partition z arrow).1.length ≤ 100000 ∧ (Txt.partition z arrow).2.2.length ≤ 100000 ∧ (Txt.split (Txt.partition z arrow).1 spc).length ≤ 10000 ∧ (∀ y ∈ Txt.split (Txt.partition z arrow).1 spc, y.length ≤ 100000) ∧
  (match ruleD z with
    | none => ∀ G, Same H G → Q .non G
    | some r => ∀ G v, Same H G → Im K G r.d v → Q v G)
theorem ok_rule_line (T : Tx K mg) : FnOk P w K mg base CX0 2 T.f_rule_line T.d_rule_line ["line"] (sp_rule_line K) := by
  refine T.F_rule_line.ok sc_rule_line (fun vs H Q E h => ?_) (fun cdv A outer s H vs Q E hr h => ?_)
  · obtain ⟨z, rfl, _⟩ := h
    rfl
  · obtain ⟨z, rfl, zl, hl, tl, wl, yl, k⟩ := h
    refine ⟨_, (pss_cons (ps_asg (pe_partition (pv 0) pe_str) (pg_tup rfl (pgs_cons (pg_name (i := 1) sc_rule_line.nd rfl (Or.inl rfl)) (pgs_cons (pg_name (i := 2) sc_rule_line.nd rfl (Or.inl rfl)) (pgs_cons (pg_name (i := 3) sc_rule_line.nd rfl (Or.inl rfl)) pgs_nil)))))
    (pss_cons (ps_set (i := 4) sc_rule_line.nd rfl (.inl rfl) (pe_split (pv 1) pe_str))
    (pss_cons (ps_if (PW.pt (pw_or (pt_cmpR op_eq (pv 2) pe_str (nomark _)) (pw_or (pt_cmpR op_lt (pe_callB (cLen (K := K) rfl) (by rfl) T.t_len (by decide +kernel) (pa_cons (pv 4) pa_nil)) pe_int (nomark _)) (pw_or (pt_cmpR op_ne (pe_ix (iL (K := K) rfl) (pv 4) pe_int (fun _ _ => rfl)) pe_str (nomark _)) (pw_or1 (pt_not (pt_val (pe_call (ok_is_name T) (hr.mono (by decide)) (by rfl) T.m_is_name T.F_is_name.kp T.b_is_name .nil pass0 (pa_cons (pe_ix (iL (K := K) rfl) (pv 4) pe_int (fun _ _ => rfl)) pa_nil))))))))) (pss_one (ps_ret pe_non)) pss_nil)
    (pss_cons (ps_setLc (i := 5) (own := [("word", 6)]) (g := gName 6) (tt := tYes) rfl sc_rule_line.nd rfl rfl (sw_true rfl rfl rfl (by decide +kernel)) (wL (K := K) rfl (pe_op op_cat (pe_slice (sL (K := K) rfl) (pv 4) (po_some pe_int) po_none) (pe_lst (pa_cons (pv 3) pa_nil)))) (blkOk_by (N := nm_rule_line) (sc := defScope s_rule_line) (by decide +kernel)) (fun _ _ _ _ _ => (pg_name (i := 6) sc_rule_line.nd rfl (Or.inl rfl))) (fun _ _ _ _ _ => pts_nil) (fun _ _ _ _ _ => (pe_call (ok_number_of T) (hr.mono (by decide)) (by rfl) T.m_number_of T.F_number_of.kp T.b_number_of .nil pass0 (pa_cons (pv 6) pa_nil))))
    (pss_one (ps_ret (pe_ifExp (pt_cmpR (oIn (K := K) rfl) pe_non (pv 5) rfl) pe_non (pe_tup (pa_cons (pe_op (oCatU (K := K) rfl) (pe_tup (pa_cons (pe_ix (iL (K := K) rfl) (pv 4) pe_int (fun _ _ => rfl)) pa_nil)) (pe_callTy (tTup (K := K) rfl) (by rfl) T.t_tuple (by decide +kernel) (pa_cons (pe_slice (sL (K := K) rfl) (pv 5) po_none (po_some (pe_un un_neg pe_int))) pa_nil))) (pa_cons (pe_ix (iL (K := K) rfl) (pv 5) (pe_un un_neg pe_int) (fun _ _ => rfl)) pa_nil)))))))))), ?_⟩
    refine ⟨_, rfl, ⟨z, rfl⟩, z, arrow, rfl, rfl, by decide +kernel, by rw [sizeLine_eq]; omega, fun p hp => ?_⟩
    have s0 := sn (o := .tup [.str (Txt.partition z arrow).1, .str (Txt.partition z arrow).2.1, .str (Txt.partition z arrow).2.2]) hp
    refine ⟨p, _, rfl, .inl (.inl upd_same), rfl, _, _, rfl, _, _, rfl, _, _, rfl, rfl, ?_⟩
    generalize upd H p (.tup [.str (Txt.partition z arrow).1, .str (Txt.partition z arrow).2.1, .str (Txt.partition z arrow).2.2]) = G0 at s0 ⊢
    unfold ruleD at k
    generalize (Txt.partition z arrow).1 = h at *
    generalize (Txt.partition z arrow).2.1 = m at *
    generalize (Txt.partition z arrow).2.2 = t at *
    refine ⟨_, rfl, ⟨h, rfl⟩, h, spc, rfl, rfl, by decide +kernel, by rw [sizeLine_eq]; omega, fun p1 hp1 => ?_⟩
    have ep : upd G0 p1 (.lst ((Txt.split h spc).map V.str)) p1 = some (.lst ((Txt.split h spc).map V.str)) := upd_same
    have s1 := sn (o := .lst ((Txt.split h spc).map V.str)) hp1
    generalize upd G0 p1 (.lst ((Txt.split h spc).map V.str)) = G at ep s1 ⊢
    have s01 := s0.trans s1
    by_cases hm : m = ""
    · have k : ∀ G, Same H G → Q .non G := by simpa only [if_pos hm] using k
      exact ⟨_, rfl, rfl, _, rfl, itt (decide_eq_true (by rw [hm])) (iteT (k _ s01))⟩
    simp only [if_neg hm] at k
    refine ⟨_, rfl, rfl, _, rfl, itf (decide_eq_false fun q => hm (V.str.inj q)) ?_⟩
    cases ews : Txt.split h spc with
    | nil =>
      rw [ews] at k ep
      exact ⟨_, rfl, p1, _, rfl, .inl (SqL.of ep), _, _, rfl, rfl, _, rfl, itt rfl (iteT (k _ s01))⟩
    | cons u r =>
      cases r with
      | nil =>
        rw [ews] at k ep
        exact ⟨_, rfl, p1, _, rfl, .inl (SqL.of ep), _, _, rfl, rfl, _, rfl, itt rfl (iteT (k _ s01))⟩
      | cons f us =>
        rw [ews] at k ep wl yl
        simp only [List.map_cons] at ep
        have fl := yl f (by simp)
        have ul : us.length ≤ 10000 := by
          simp only [List.length_cons] at wl
          omega
        refine ⟨_, rfl, p1, _, rfl, .inl (SqL.of ep), _, _, rfl, rfl, _, rfl, itf (decide_eq_false (by simp; omega)) ?_⟩
        refine ⟨_, rfl, p1, _, 0, _, rfl, rfl, SqL.of ep, at0, rfl, _, rfl, ?_⟩
        by_cases hu : u = "rule"
        case neg =>
          have k : ∀ G, Same H G → Q .non G := by simpa only [hu, false_and, if_false] using k
          exact itt (by rw [decide_eq_false (fun q => hu (V.str.inj q))]; rfl) (iteT (k _ s01))
        subst hu
        refine itf (by rw [decide_eq_true rfl]; rfl) ?_
        refine ⟨_, rfl, p1, _, 1, _, rfl, rfl, SqL.of ep, at1, f, rfl, fl, fun G1 s2 => ⟨_, rfl, ?_⟩⟩
        have s02 := s01.trans s2
        by_cases hf : nameB f = true
        case neg =>
          have hf2 : nameB f = false := Bool.eq_false_iff.mpr hf
          have k : ∀ G, Same H G → Q .non G := by simpa only [hf2, Bool.false_eq_true, and_false, if_false] using k
          exact itt (by rw [hf2]; rfl) (k _ s02)
        simp only [hf, and_self, if_true] at k
        rw [hf]
        refine iteF ?_
        have ep2 := s2 _ _ ep
        refine ⟨_, rfl, _, rfl, p1, _, rfl, SqL.of ep2, fun p2 hp2 => ?_⟩
        rw [cut2]
        have s3 := sn (o := .lst (us.map V.str)) hp2
        have e3 : upd G1 p2 (.lst (us.map V.str)) p2 = some (.lst (us.map V.str)) := upd_same
        generalize upd G1 p2 (.lst (us.map V.str)) = G2 at s3 e3 ⊢
        refine ⟨_, rfl, by show 1 ≤ sizeLine; decide, fun p3 hp3 => ?_⟩
        have s4 := sn (o := .lst [.str t]) hp3
        have e4 : upd G2 p3 (.lst [.str t]) p3 = some (.lst [.str t]) := upd_same
        generalize upd G2 p3 (.lst [.str t]) = G3 at s4 e4 ⊢
        refine ⟨p2, p3, _, _, rfl, rfl, s4 _ _ e3, e4, by rw [sizeLine_eq, List.length_map, List.length_singleton]; omega, fun p4 hp4 => ?_⟩
        have s5 := sn (o := .lst (us.map V.str ++ [.str t])) hp4
        have e5 : upd G3 p4 (.lst (us.map V.str ++ [.str t])) p4 = some (.lst (us.map V.str ++ [.str t])) := upd_same
        generalize upd G3 p4 (.lst (us.map V.str ++ [.str t])) = G4 at s5 e5 ⊢
        have s15 := s3.trans (s4.trans s5)
        have ew : us.map V.str ++ [.str t] = (us ++ [t]).map V.str := by simp
        rw [ew] at e5
        have wy : ∀ y ∈ us ++ [t], y.length ≤ 100000 := fun y hy => by
          rcases List.mem_append.mp hy with hy | hy
          · exact yl y (List.mem_cons_of_mem _ (List.mem_cons_of_mem _ hy))
          · rw [List.mem_singleton.mp hy]; exact tl
        have eb : ((numsD us).bind fun is => (numD t).map fun g => (⟨f, is, g⟩ : Rl)) = match numsD (us ++ [t]) with
            | none => none
            | some is => some ⟨f, is.dropLast, is.getLastD 0⟩ := by
          rw [numsD_app]
          cases numsD us <;> cases numD t <;> simp
        rw [eb] at k
        have wl2 : (us ++ [t]).length ≤ 10001 := by simp; omega
        generalize hws : us ++ [t] = ws at e5 wy k wl2
        refine ⟨p4, rfl, ⟨_, SqL.of e5⟩, fun D hD => lc_im (K := K) (walk_list (K := K) (a := p4) (xs := ws.map V.str)) hD ((ws.map numD).map optD) (by simp) (by rw [List.length_map]; omega) (fun H2 hb => keepL (hb.same hD) (SqL.of e5)) ?_ ?_⟩
        · rintro i dd y H0 H2 hdd hb hne ⟨rfl, hy⟩
          rw [List.getElem?_map, List.getElem?_map] at hdd
          rw [List.getElem?_map] at hy
          cases ea : ws[i]? with
          | none => rw [ea] at hdd; cases hdd
          | some t2 =>
            rw [ea] at hdd hy
            cases hdd
            cases hy
            exact ⟨Same.refl _, fun N hN => ⟨rfl, _, rfl, sp_num (E := E0) (wy t2 (List.mem_of_getElem? ea)) fun G sG => hN _ G sG (optV_im _)⟩⟩
        intro H2 ys hb hy im
        rw [im.opts, List.map_map] at hy
        rw [show (optV ∘ numD) = fun t => optV (numD t) from rfl] at hy
        have s6 := hb.same hD
        have s26 := s15.trans s6
        have s06 := s02.trans s26
        have en := numsD_none ws
        refine ⟨_, rfl, D, _, rfl, .inl (SqL.of hy), rfl, by rw [show (ws.map fun t => optV (numD t)) = (ws.map numD).map optV by rw [List.map_map]; rfl]; exact flat_optV _, ?_⟩
        rw [en]
        cases es : numsD ws with
        | none =>
          rw [es] at k
          exact ⟨_, rfl, iteT (k _ s06)⟩
        | some is =>
          rw [es] at k
          rw [numsD_some es] at hy
          have isl : is.length = ws.length := by
            have := congrArg List.length (numsD_some es)
            simpa using this.symm
          obtain ⟨js, g, rfl⟩ : ∃ js g, is = js ++ [g] := by
            rcases List.eq_nil_or_concat is with rfl | ⟨js, g, rfl⟩
            · rw [← hws] at isl
              simp at isl
            · exact ⟨js, g, by simp⟩
          simp only [List.dropLast_concat, List.getLastD_concat] at k
          rw [List.map_append] at hy
          refine ⟨_, rfl, iteF ?_⟩
          refine ⟨_, rfl, p1, _, 1, _, rfl, rfl, SqL.of (s26 _ _ ep2), at1, by show 1 ≤ sizeLine; decide, fun q1 hq1 => ?_⟩
          have s7 := sn (o := .tup [.str f]) hq1
          have a7 : upd H2 q1 (.tup [.str f]) q1 = some (.tup [.str f]) := upd_same
          generalize upd H2 q1 (.tup [.str f]) = H3 at s7 a7 ⊢
          refine ⟨_, rfl, 1, rfl, _, rfl, D, _, rfl, SqL.of (s7 _ _ hy), fun q2 hq2 => ?_⟩
          rw [show (-(1 : Int)) = -1 from rfl]
          rw [show (List.map V.int [g]) = [V.int g] from rfl, cut_1]
          have s8 := sn (o := .lst (js.map V.int)) hq2
          have a8 : upd H3 q2 (.lst (js.map V.int)) q2 = some (.lst (js.map V.int)) := upd_same
          generalize upd H3 q2 (.lst (js.map V.int)) = H4 at s8 a8 ⊢
          refine ⟨q2, _, rfl, .inl ⟨SqL.of a8, fun q3 hq3 => ?_⟩⟩
          have s9 := sn (o := .tup (js.map V.int)) hq3
          have a9 : upd H4 q3 (.tup (js.map V.int)) q3 = some (.tup (js.map V.int)) := upd_same
          generalize upd H4 q3 (.tup (js.map V.int)) = H5 at s9 a9 ⊢
          have s79 := s7.trans (s8.trans s9)
          have jl : js.length ≤ 10001 := by simp at isl; omega
          refine ⟨q1, q3, _, _, rfl, rfl, .inl (.inl (s9 _ _ (s8 _ _ a7))), .inl (.inl a9), by rw [sizeLine_eq, List.length_map, List.length_singleton]; omega, fun q4 H6 s10 a10 => ?_⟩
          refine ⟨_, rfl, 1, rfl, D, _, -1, _, rfl, rfl, SqL.of (s10 _ _ (s79 _ _ hy)), at_1 _ _, by show 2 ≤ sizeLine; decide, fun q5 hq5 => ?_⟩
          refine k _ _ (s06.trans (s79.trans (s10.trans (sn hq5)))) ?_
          exact im_tup (.inl (.inl upd_same)) (ia_cons (im_tup (keepT (sn hq5) a10) (ia_cons im_str (ia_intsOf js))) (ia_cons im_int ia_nil))
end
end T82
/-! sizes of what a text is cut into -/
namespace T82
open PySem
theorem spl_len (S : List Nat) : ∀ (l : List Nat) (k : Nat) (acc : List Nat), ∀ y ∈ TL.spl S k acc l, y.length ≤ acc.length + l.length
  | [], k, acc, y, h => by
    rw [TL.spl_nil] at h
    rw [List.mem_singleton.mp h]
    simp
  | c :: r, 0, acc, y, h => by
    by_cases e : TL.pre S (c :: r) = true
    · rw [TL.spl_hit e] at h
      rcases List.mem_cons.mp h with h | h
      · rw [h]; omega
      · have := spl_len S r _ _ y h
        simp at this ⊢
        omega
    · rw [TL.spl_miss (Bool.eq_false_iff.mpr e)] at h
      have := spl_len S r _ _ y h
      simp at this ⊢
      omega
  | c :: r, k + 1, acc, y, h => by
    have h : y ∈ TL.spl S k acc r := h
    have := spl_len S r _ _ y h
    simp
    omega
theorem spl_many (S : List Nat) : ∀ (l : List Nat) (k : Nat) (acc : List Nat), (TL.spl S k acc l).length ≤ l.length + 1 ∧ TL.spl S k acc l ≠ []
  | [], k, acc => by rw [TL.spl_nil]; simp
  | c :: r, 0, acc => by
    by_cases e : TL.pre S (c :: r) = true
    · rw [TL.spl_hit e]
      have := (spl_many S r (S.length - 1) []).1
      simp
      omega
    · rw [TL.spl_miss (Bool.eq_false_iff.mpr e)]
      have := spl_many S r 0 (acc ++ [c])
      exact ⟨by simp; omega, this.2⟩
  | c :: r, k + 1, acc => by
    have := spl_many S r k acc
    show (TL.spl S k acc r).length ≤ _ ∧ TL.spl S k acc r ≠ []
    exact ⟨by simp; omega, this.2⟩
theorem par_len (S : List Nat) : ∀ (l acc a b : List Nat), TL.par S acc l = some (a, b) → a.length ≤ acc.length + l.length ∧ b.length ≤ l.length
  | [], acc, a, b, h => by cases h
  | c :: r, acc, a, b, h => by
    by_cases e : TL.pre S (c :: r) = true
    · rw [TL.par_hit e] at h
      cases h
      exact ⟨by omega, by rw [List.length_drop]; omega⟩
    · rw [TL.par_miss (Bool.eq_false_iff.mpr e)] at h
      have := par_len S r _ a b h
      simp at this ⊢
      omega
theorem split_sz {x y : Str} (hy : TL.tl y ≠ []) (hk : y.cps.all (· < 256) = true) : (Txt.split x y).length ≤ x.length + 1 ∧ (Txt.split x y) ≠ [] ∧ ∀ z ∈ Txt.split x y, z.length ≤ x.length := by
  have e := TL.split_spl x y hy (TL.kind_ok hk)
  have h1 := spl_many (TL.tl y) (TL.tl x) 0 []
  refine ⟨?_, fun z => h1.2 (by rw [← e, z]; rfl), fun z hz => ?_⟩
  · rw [TL.len_tl]
    have := congrArg List.length e
    rw [List.length_map] at this
    rw [this]
    exact h1.1
  · have hm : TL.tl z ∈ TL.spl (TL.tl y) 0 [] (TL.tl x) := by rw [← e]; exact List.mem_map.mpr ⟨z, hz, rfl⟩
    have := spl_len _ _ _ _ _ hm
    rw [TL.len_tl, TL.len_tl x]
    simpa using this
theorem part_sz {x y : Str} (hy : TL.tl y ≠ []) : (Txt.partition x y).1.length ≤ x.length ∧ (Txt.partition x y).2.2.length ≤ x.length := by
  rw [TL.partition_par x y hy]
  cases h : TL.par (TL.tl y) [] (TL.tl x) with
  | none => exact ⟨Nat.le_refl _, Nat.zero_le _⟩
  | some p =>
    obtain ⟨a, b⟩ := p
    have := par_len _ _ _ _ _ h
    rw [TL.len_tl x]
    simp only [List.length_nil, Nat.zero_add] at this
    exact ⟨by simpa [Str.length] using this.1, by simpa [Str.length] using this.2⟩
end T82
namespace T82
open PySem L2
/-! ### read_machine -/
def rulesD : List Str → Option (List Rl)
  | [] => some []
  | z :: zs => (ruleD z).bind fun r => (rulesD zs).map fun rs => r :: rs
theorem rulesD_app : ∀ (as bs : List Str), rulesD (as ++ bs) = (rulesD as).bind fun x => (rulesD bs).map fun y => x ++ y
  | [], bs => by
    rw [List.nil_append, rulesD]
    cases rulesD bs <;> rfl
  | a :: as, bs => by
    rw [List.cons_append, rulesD, rulesD_app as bs, rulesD]
    cases ruleD a <;> cases rulesD as <;> cases rulesD bs <;> rfl
theorem rulesD_snoc {as : List Str} {z : Str} {rs : List Rl} {r : Rl} (h : rulesD as = some rs) (e : ruleD z = some r) : rulesD (as ++ [z]) = some (rs ++ [r]) := by
  rw [rulesD_app, h, rulesD, e]
  rfl
theorem rulesD_len : ∀ {as : List Str} {rs : List Rl}, rulesD as = some rs → rs.length = as.length
  | [], rs, h => by
    rw [rulesD] at h
    cases h
    rfl
  | a :: as, rs, h => by
    rw [rulesD] at h
    cases e : ruleD a with
    | none => rw [e] at h; cases h
    | some r =>
      cases e2 : rulesD as with
      | none => rw [e, e2] at h; cases h
      | some q =>
        rw [e, e2] at h
        cases h
        rw [List.length_cons, List.length_cons, rulesD_len e2]
theorem ruleD_name {z : Str} {r : Rl} (h : ruleD z = some r) : nameB r.name = true := by
  dsimp only [ruleD] at h
  split at h
  · cases h
  split at h
  · split at h
    · rename_i q
      cases e1 : numsD _ with
      | none => rw [e1] at h; cases h
      | some is =>
        cases e2 : numD (Txt.partition z arrow).2.2 with
        | none => rw [e1, e2] at h; cases h
        | some g =>
          rw [e1, e2] at h
          cases h
          exact q.2
    · cases h
  · cases h
theorem rulesD_name : ∀ {as : List Str} {rs : List Rl}, rulesD as = some rs → ∀ r ∈ rs, nameB r.name = true
  | [], rs, h, r, hr => by
    rw [rulesD] at h
    cases h
    cases hr
  | a :: as, rs, h, r, hr => by
    rw [rulesD] at h
    cases e : ruleD a with
    | none => rw [e] at h; cases h
    | some r0 =>
      cases e2 : rulesD as with
      | none => rw [e, e2] at h; cases h
      | some q =>
        rw [e, e2] at h
        cases h
        rcases List.mem_cons.mp hr with hr | hr
        · rw [hr]; exact ruleD_name e
        · exact rulesD_name e2 r hr
theorem name_short {z : Str} (h : nameB z = true) : z.length ≤ 100000 := by
  unfold nameB at h
  simp only [Bool.and_eq_true, decide_eq_true_eq] at h
  omega
inductive Out where
  | text (n : Nat)
  | mach (c : V)
  | fine (rs : List Rl) (last : List Int)
/-- what reading a text of these lines comes to -/
inductive Reads (d : Dor) : List Str → Out → Prop
  | open_ (ls : List Str) (l : Str) : l ≠ "" → Reads d (ls ++ [l]) (.text (ls.length + 1))
  | empty : Reads d [("" : Str)] (.text 1)
  | line (ls : List Str) (la s : Str) (rs : List Rl) (i : Nat) : rulesD (ls.take i) = some rs → ls[i]? = some s → ruleD s = none → Reads d (ls ++ [la] ++ [("" : Str)]) (.text (i + 1))
  | last (ls : List Str) (la : Str) (rs : List Rl) : rulesD ls = some rs → lastD la = none → Reads d (ls ++ [la] ++ [("" : Str)]) (.text (ls.length + 1))
  | mach (ls : List Str) (la : Str) (rs : List Rl) (last : List Int) (kd : Int → Str) (c : V) : rulesD ls = some rs → lastD la = some last → rs.length ≤ 600 → last.length < 63 → (∀ r ∈ rs, r.args.length ≤ 1000) → Comes d kd rs last (some c) → Reads d (ls ++ [la] ++ [("" : Str)]) (.mach c)
  | fine (ls : List Str) (la : Str) (rs : List Rl) (last : List Int) (kd : Int → Str) : rulesD ls = some rs → lastD la = some last → rs.length ≤ 600 → last.length < 63 → (∀ r ∈ rs, r.args.length ≤ 1000) → Comes d kd rs last none → Reads d (ls ++ [la] ++ [("" : Str)]) (.fine rs last)
theorem spc_tl : TL.tl spc = [32] := by decide +kernel
theorem nl_tl : TL.tl nl = [10] := by decide +kernel
theorem arrow_tl : TL.tl arrow = [32, 45, 62, 32] := by decide +kernel
section
variable {P : Program} {w : World} {K : PySem.W.Frag} {mg : Str → Option Value} {base : Heap}
theorem wEL {X : Cx} {K : PySem.W.Frag} (e : X.K = K) {a : Expr} {ta : TA} {p q q2 : Pos} {es : List Expr} {k2 : Nat} (gl : Gl X "enumerate") (nm : X.mg "enumerate" = none) (arg : PA X [a] ta) (se : starEach [a] X.env = [(false, eval a X.env)] := by rfl) :
    PI X (.Tuple es k2 q2) (.Call (.Name "enumerate" p) [a] [] q) (iEnum K ta) := by subst e; exact pi_enum gl nm arg se
theorem rule_sz {z : Str} (zl : z.length ≤ 9000) : z.length ≤ 100000 ∧ (Txt.partition z arrow).1.length ≤ 100000 ∧ (Txt.partition z arrow).2.2.length ≤ 100000 ∧ (Txt.split (Txt.partition z arrow).1 spc).length ≤ 10000 ∧ (∀ y ∈ Txt.split (Txt.partition z arrow).1 spc, y.length ≤ 100000) := by
  have h1 := part_sz (x := z) (y := arrow) (by rw [arrow_tl]; simp)
  have h2 := split_sz (x := (Txt.partition z arrow).1) (y := spc) (by rw [spc_tl]; simp) (by decide +kernel)
  exact ⟨by omega, by omega, by omega, by omega, fun y hy => by have := h2.2.2 y hy; omega⟩
theorem last_sz {z : Str} (zl : z.length ≤ 9000) : ∃ u us, z.length ≤ 100000 ∧ Txt.split z spc = u :: us ∧ us.length ≤ 10000 ∧ (∀ y ∈ us, y.length ≤ 100000) := by
  have h2 := split_sz (x := z) (y := spc) (by rw [spc_tl]; simp) (by decide +kernel)
  cases e : Txt.split z spc with
  | nil => exact absurd e h2.2.1
  | cons u us =>
    rw [e] at h2
    exact ⟨u, us, by omega, rfl, by have := h2.1; simp at this; omega, fun y hy => by have := h2.2.2 y (List.mem_cons_of_mem _ hy); omega⟩
theorem snoc_inj {α : Type} {as bs : List α} {a b : α} (h : as ++ [a] = bs ++ [b]) : as = bs ∧ a = b := by
  have := List.append_inj' h rfl
  exact ⟨this.1, List.singleton_inj.mp this.2⟩
def outc (rs : List Rl) (last : List Int) : Option V → Out
  | none => .fine rs last
  | some c => .mach c
theorem Reads.inv_open {d : Dor} {ls : List Str} {l : Str} {o : Out} (hl : l ≠ "") (h : Reads d (ls ++ [l]) o) : o = .text (ls.length + 1) := by
  generalize e : ls ++ [l] = xs at h
  cases h with
  | open_ as b _ => obtain ⟨rfl, rfl⟩ := snoc_inj e; rfl
  | empty => exact absurd (snoc_inj (bs := []) e).2 hl
  | line _ _ _ _ _ => exact absurd (snoc_inj e).2 hl
  | last _ _ _ => exact absurd (snoc_inj e).2 hl
  | mach _ _ _ _ _ => exact absurd (snoc_inj e).2 hl
  | fine _ _ _ _ _ => exact absurd (snoc_inj e).2 hl
theorem Reads.inv {d : Dor} {ls : List Str} {o : Out} (h : Reads d (ls ++ [("" : Str)]) o) : (ls = [] ∧ o = .text 1) ∨ ∃ init la m rsm, ls = init ++ [la] ∧ m ≤ init.length ∧ rulesD (init.take m) = some rsm ∧
    ((∃ s, init[m]? = some s ∧ ruleD s = none ∧ o = .text (m + 1)) ∨ (m = init.length ∧ ((lastD la = none ∧ o = .text (init.length + 1)) ∨
      ∃ last kd c, lastD la = some last ∧ rsm.length ≤ 600 ∧ last.length < 63 ∧ (∀ r ∈ rsm, r.args.length ≤ 1000) ∧ Comes d kd rsm last c ∧ o = outc rsm last c))) := by
  generalize e : ls ++ [("" : Str)] = xs at h
  cases h with
  | open_ as b hb => exact absurd (snoc_inj e).2.symm hb
  | empty => exact .inl ⟨(snoc_inj (bs := []) e).1, rfl⟩
  | line init la s rs i h1 h2 h3 =>
    obtain ⟨rfl, _⟩ := snoc_inj e
    exact .inr ⟨init, la, i, rs, rfl, Nat.le_of_lt (List.getElem?_eq_some_iff.mp h2).1, h1, .inl ⟨s, h2, h3, rfl⟩⟩
  | last init la rs h1 h2 =>
    obtain ⟨rfl, _⟩ := snoc_inj e
    exact .inr ⟨init, la, init.length, rs, rfl, Nat.le_refl _, by rw [List.take_length]; exact h1, .inr ⟨rfl, .inl ⟨h2, rfl⟩⟩⟩
  | mach init la rs last kd c h1 h2 h3 h4 h5 h6 =>
    obtain ⟨rfl, _⟩ := snoc_inj e
    exact .inr ⟨init, la, init.length, rs, rfl, Nat.le_refl _, by rw [List.take_length]; exact h1, .inr ⟨rfl, .inr ⟨last, kd, some c, h2, h3, h4, h5, h6, rfl⟩⟩⟩
  | fine init la rs last kd h1 h2 h3 h4 h5 h6 =>
    obtain ⟨rfl, _⟩ := snoc_inj e
    exact .inr ⟨init, la, init.length, rs, rfl, Nat.le_refl _, by rw [List.take_length]; exact h1, .inr ⟨rfl, .inr ⟨last, kd, none, h2, h3, h4, h5, h6, rfl⟩⟩⟩
theorem sTr {D : Addr} {H H1 H2 H3 : Hp} (a : Same H H1) (b : But D H1 H2) (n : H D = none) (c : Same H2 H3) : Same H H3 := fun _ _ e => c _ _ (b _ _ (ne_of_none e n) (a _ _ e))
/-- what is raised, what is given -/
def Gives (P : Program) (w : World) (K : PySem.W.Frag) (CS CD CM CT CB : Addr) (H : Hp) (dr : Addr) (d : Dor) (Q : VK) (E : XK) : Out → Prop
  | .text n => ∀ (G : Hp) (dd : Addr), Same H G → G dd = none → E (.ref CT) (some dd) (upd G dd (.xd [(("at" : Str), .int ((n : Nat) : Int))]))
  | .mach c => ∀ (G : Hp) (dd : Addr), Same H G → G dd = none → E (.ref CB) (some dd) (upd G dd (.xd [(("part" : Str), c)]))
  | .fine rs last => ∀ (G : Hp) (x : Addr), Same H G → MachAt P w K CS CD CM G x dr d rs last → Q (.ref x) G
def NoStr (K : PySem.W.Frag) (H : Hp) (v : V) : Prop := ∃ t, TyX K H v t ∧ PySem.W.kitOne K t (.type "str") = some false
abbrev nm_read_machine : List Str := ["door", "text", "lines", "rules", "at", "line", "rule", "last"]
theorem sc_read_machine : FnScope nm_read_machine ["door", "text"] (defScope s_read_machine) := ⟨rfl, rfl, rfl, by decide +kernel, rfl, by decide +kernel, by decide +kernel⟩
def sp_read_machine (P : Program) (w : World) (K : PySem.W.Frag) (CS CD CM CT CB : Addr) : Sp := fun vs H Q E => ∃ dr v d, vs = [.ref dr, v] ∧ DoorAt K CS CD H dr d ∧
  ((NoStr K H v ∧ Gives P w K CS CD CM CT CB H dr d Q E (.text 0)) ∨ ∃ z o, v = .str z ∧ z.length ≤ 9000 ∧ Reads d (linesT z) o ∧ Gives P w K CS CD CM CT CB H dr d Q E o)
theorem ok_read_machine (T : Tx K mg) {CT fT CB fB : Addr} (BT : BadTextX.Txt P K mg CT fT) (BM : BadMachineX.Txt P K mg CB fB) : FnOk P w K mg base (L2.CX P w) 6 T.f_read_machine T.d_read_machine ["door", "text"] (sp_read_machine P w K T.C_Shape T.C_Door T.C_Machine CT CB) := by
  refine T.F_read_machine.okX sc_read_machine (fun vs H Q E h => ?_) (fun cdv A outer s H vs Q E hr h => ?_)
  · obtain ⟨dr, v, d, rfl, _⟩ := h
    rfl
  · obtain ⟨dr, v, d, rfl, dat, hh⟩ := h
    refine ⟨_, (pss_cons (ps_par (i := 2) (j := 3) rfl sc_read_machine.nd rfl rfl (by decide) rfl rfl (pa_cons (pe_call (ok_lines_of T BT) (hr.mono (by decide)) (by rfl) T.m_lines_of T.F_lines_of.kp T.b_lines_of .nil (passes_call (E := E) (takes_of rfl rfl rfl rfl) (fun _ _ _ _ h => h)) (pa_cons (pv 1) pa_nil)) (pa_cons (pe_lst pa_nil) pa_nil)) (by rfl))
    (pss_cons (ps_if (pt_cmpR op_eq (pe_callB (cLen (K := K) rfl) (by rfl) T.t_len (by decide +kernel) (pa_cons (pv 2) pa_nil)) pe_int (nomark _)) (pss_one (BadTextX.ps_raiseO (W := fun cls d _ H => E cls d H) rfl BT hr (takes_of rfl rfl rfl rfl) (by exact (pa_cons pe_int pa_nil)))) pss_nil)
    (pss_cons (ps_for (passes_of rfl) rfl (wEL (K := K) rfl (by rfl) T.t_enumerate (pa_cons (pe_slice (sL (K := K) rfl) (pv 2) po_none (po_some (pe_un un_neg pe_int))) pa_nil)) (pg_tup rfl (pgs_cons (pg_name (i := 4) sc_read_machine.nd rfl (Or.inl rfl)) (pgs_cons (pg_name (i := 5) sc_read_machine.nd rfl (Or.inl rfl)) pgs_nil)))
      (pss_cons (ps_set (i := 6) sc_read_machine.nd rfl (.inl rfl) (pe_call (ok_rule_line T) (hr.mono (by decide)) (by rfl) T.m_rule_line T.F_rule_line.kp T.b_rule_line .nil pass0 (pa_cons (pv 5) pa_nil)))
      (pss_cons (ps_if (pt_cmpR op_isN (pv 6) pe_non (nomark _)) (pss_one (BadTextX.ps_raiseO (W := fun cls d _ H => E cls d H) rfl BT hr (takes_of rfl rfl rfl rfl) (by exact (pa_cons (pe_op op_add (pv 4) pe_int) pa_nil)))) pss_nil)
      (pss_one (ps_expr (pe_bm PySem.F.plainAttrs_list PySem.F.slot_list_append PySem.F.type_list_append mt_append (pv 3) (pa_cons (pv 6) pa_nil)))))))
    (pss_cons (ps_set (i := 7) sc_read_machine.nd rfl (.inl rfl) (pe_call (ok_last_line T) (hr.mono (by decide)) (by rfl) T.m_last_line T.F_last_line.kp T.b_last_line .nil pass0 (pa_cons (pe_ix (iL (K := K) rfl) (pv 2) (pe_un un_neg pe_int) (fun _ _ => rfl)) pa_nil)))
    (pss_cons (ps_if (pt_cmpR op_isN (pv 7) pe_non (nomark _)) (pss_one (BadTextX.ps_raiseO (W := fun cls d _ H => E cls d H) rfl BT hr (takes_of rfl rfl rfl rfl) (by exact (pa_cons (pe_callB (cLen (K := K) rfl) (by rfl) T.t_len (by decide +kernel) (pa_cons (pv 2) pa_nil)) pa_nil)))) pss_nil)
    (pss_one (ps_ret (pe_make T.M_Machine (ok_Machine_init T BM) (hr.mono (by decide)) (by rfl) T.m_Machine T.b_Machine_init .nil (passes_call (E := E) (takes_of rfl rfl rfl rfl) (fun _ _ _ _ h => h)) (pa_cons (pv 0) (pa_cons (pe_callTy (tTup (K := K) rfl) (by rfl) T.t_tuple (by decide +kernel) (pa_cons (pv 3) pa_nil)) (pa_cons (pv 7) pa_nil))))))))))), ?_⟩
    rcases hh with ⟨⟨t, ty, kt⟩, ke⟩ | ⟨z, o, rfl, zl, rd, kg⟩
    · exact ⟨_, rfl, v, rfl, .inl ⟨t, ty, kt, fun G dd s1 hd => ke G dd s1 hd⟩⟩
    have sz := split_sz (x := z) (y := nl) (by rw [nl_tl]; simp) (by decide +kernel)
    obtain ⟨ls, l, hls⟩ : ∃ ls l, linesT z = ls ++ [l] := by
      rcases List.eq_nil_or_concat (linesT z) with e | ⟨ls, l, e⟩
      · exact absurd e sz.2.1
      · exact ⟨ls, l, by rw [e]; simp⟩
    have szl : ls.length ≤ 9000 := by
      have h1 : (linesT z).length ≤ z.length + 1 := sz.1
      rw [hls] at h1
      simp at h1
      omega
    have lsz : ∀ y ∈ ls, y.length ≤ 9000 := fun y hy => by
      have h1 := sz.2.2 y (show y ∈ linesT z by rw [hls]; exact List.mem_append_left _ hy)
      omega
    rw [hls] at rd
    refine ⟨_, rfl, _, rfl, .inr ⟨z, ls, l, rfl, by omega, hls, by omega, fun hl G lp s1 slp => ?_, fun hl G dd s1 hd => ?_⟩⟩
    case refine_2 =>
      rw [rd.inv_open hl] at kg
      exact kg G dd s1 hd
    subst hl
    refine ⟨by show 0 ≤ sizeLine; decide, fun rp hrp => ?_⟩
    have s2 := sn (o := .lst []) hrp
    have e2 : upd G rp (.lst []) rp = some (.lst []) := upd_same
    generalize upd G rp (.lst []) = G2 at s2 e2 ⊢
    refine ⟨_, _, rfl, ?_⟩
    refine ⟨_, rfl, lp, _, rfl, .inl (keepL s2 slp), rfl, _, rfl, ?_⟩
    rcases rd.inv with ⟨rfl, rfl⟩ | ⟨init, la, m, rsm, rfl, hm, erm, hend⟩
    · exact itt (decide_eq_true rfl) ⟨_, rfl, fun dd hdd => kg _ dd (s1.trans s2) hdd⟩
    refine itf (decide_eq_false fun q => ?_) ?_
    · have := V.int.inj q
      simp at this
      omega
    rw [List.map_append, List.map_cons, List.map_nil] at slp
    refine ⟨_, rfl, 1, rfl, _, rfl, lp, _, rfl, keepL s2 slp, fun q hq => ?_⟩
    rw [show (-(1 : Int)) = -1 from rfl, cut_1]
    have s4 := sn (o := .lst (init.map V.str)) hq
    have e4 : upd G2 q (.lst (init.map V.str)) q = some (.lst (init.map V.str)) := upd_same
    generalize upd G2 q (.lst (init.map V.str)) = G3 at s4 e4 ⊢
    have r4 := s4 _ _ e2
    have qrp : q ≠ rp := fun z => by rw [z, e2] at hq; cases hq
    have sG3 := s2.trans s4
    have il : init.length ≤ 9000 := by
      simp at szl
      omega
    refine ⟨q, _, rfl, SqL.of e4, for_it (walk_enum (K := K) (a := q) (xs := init.map V.str)) (fun i σ X => i ≤ m ∧ (∃ a b c, σ = [some (.ref dr), some (.str z), some (.ref lp), some (.ref rp), a, b, c, none]) ∧ But rp G3 X ∧ ∃ rsi vs, rulesD (init.take i) = some rsi ∧ X rp = some (.lst vs) ∧ ImAll K X (rsi.map Rl.d) vs)
      ⟨Nat.zero_le _, ⟨_, _, _, rfl⟩, fun _ _ _ e => e, [], [], by rw [List.take_zero]; rfl, r4, ia_nil⟩ (fun i σ X _ z => SqL.of (z.2.2.1 _ _ qrp e4)) ?_ ?_⟩
    · rintro i y σ X X' hi ⟨im, ⟨a, b, c, rfl⟩, bX, rsi, vs, ersi, hrX, iav⟩ ⟨T1, x1, y1, rfl, hT1, rfl, e1, e2⟩
      cases e1
      rw [List.length_map] at hi
      have e2 : (init.map V.str)[i]? = some y1 := e2
      obtain ⟨t, et⟩ : ∃ t, init[i]? = some t := ⟨_, List.getElem?_eq_getElem hi⟩
      rw [List.getElem?_map, et] at e2
      cases e2
      have sT := sn (o := .tup [.int ((i : Nat) : Int), .str t]) hT1
      refine ⟨T1, _, rfl, .inl (.inl upd_same), rfl, _, _, rfl, _, _, rfl, rfl, ?_⟩
      generalize upd X T1 (.tup [.int ((i : Nat) : Int), .str t]) = X1 at sT ⊢
      have tl9 : t.length ≤ 9000 := lsz t (List.mem_append_left _ (List.mem_of_getElem? et))
      obtain ⟨a1, a2, a3, a4, a5⟩ := rule_sz tl9
      refine ⟨_, rfl, t, rfl, a1, a2, a3, a4, a5, ?_⟩
      by_cases hmi : i < m
      · obtain ⟨r, er⟩ : ∃ r, ruleD t = some r := by
          have h1 : rulesD (init.take i ++ [t]) ≠ none := fun z => by
            have h2 : init.take m = (init.take i ++ [t]) ++ (init.take m).drop (i + 1) := by
              rw [show init.take i ++ [t] = (init.take m).take (i + 1) by rw [List.take_take, Nat.min_eq_left (by omega), List.take_add_one, et]; rfl]
              rw [List.take_append_drop]
            rw [h2, rulesD_app, z] at erm
            cases erm
          cases er : ruleD t with
          | some r => exact ⟨r, rfl⟩
          | none =>
            refine absurd ?_ h1
            rw [rulesD_app, ersi, rulesD, er]
            rfl
        rw [er]
        intro X2 v sX iv
        refine ⟨_, rfl, rfl, _, rfl, itf (decide_eq_false ?_) ?_⟩
        · intro e
          obtain ⟨p, q', rfl, _⟩ := rl_at iv
          cases e
        have hr2 : X2 rp = some (.lst vs) := sX _ _ (sT _ _ hrX)
        have vl : vs.length ≤ 9000 := by
          have := iav.len
          rw [List.length_map, rulesD_len ersi, List.length_take] at this
          omega
        refine ⟨_, rfl, .inl ⟨rfl, _, SqL.of hr2⟩, _, rfl, rp, vs, v, rfl, rfl, hr2, by rw [sizeLine_eq]; omega, ?_⟩
        have kp : Keep X2 (upd X2 rp (.lst (vs ++ [v]))) := Keep.upd (notup_lst hr2)
        refine ⟨hmi, ⟨_, _, _, rfl⟩, fun b' u ne e => by rw [upd_ne ne]; exact sX _ _ (sT _ _ (bX _ _ ne e)), rsi ++ [r], vs ++ [v], ?_, upd_same, ?_⟩
        · rw [List.take_add_one, et]
          exact rulesD_snoc ersi er
        · rw [List.map_append]
          exact ImAll.app (ImAll.mono (((sk sT).trans (sk sX)).trans kp) _ _ iav) (ia_cons (Im.mono kp _ _ iv) ia_nil)
      · have ei : i = m := by omega
        subst ei
        rcases hend with ⟨s', es, en, eo⟩ | ⟨em, _⟩
        case inr => omega
        rw [et] at es
        cases es
        rw [en]
        intro X2 sX
        refine ⟨_, rfl, rfl, _, rfl, itt (decide_eq_true rfl) ⟨_, rfl, _, _, rfl, rfl, _, rfl, fun dd hdd => ?_⟩⟩
        rw [eo] at kg
        have sGX : Same G X2 := sTr sG3 bX hrp (sT.trans sX)
        exact kg _ dd (s1.trans sGX) hdd
    rintro σ X ⟨im, ⟨a, b, c, rfl⟩, bX, rsi, vs, ersi, hrX, iav⟩
    rw [List.length_map] at im ersi
    have em : m = init.length := by omega
    subst em
    rw [ersi] at erm
    cases erm
    rcases hend with ⟨s', es, _⟩ | ⟨_, hend⟩
    · rw [List.getElem?_eq_none (Nat.le_refl _)] at es
      cases es
    have sGX : Same G X := sTr sG3 bX hrp (Same.refl _)
    have la9 : la.length ≤ 9000 := lsz la (List.mem_append_right _ (List.mem_singleton.mpr rfl))
    obtain ⟨u, us, a1, a2, a3, a4⟩ := last_sz la9
    refine ⟨_, rfl, 1, rfl, lp, _, -1, _, rfl, rfl, keepL sGX slp, at_1 _ _, la, u, us, rfl, a1, a2, a3, a4, ?_⟩
    rcases hend with ⟨el, rfl⟩ | ⟨last, kd, c, el, rl, ll, al, cm, rfl⟩
    · rw [el]
      intro X2 sX
      refine ⟨_, rfl, rfl, _, rfl, itt (decide_eq_true rfl) ⟨_, rfl, lp, _, rfl, .inl (keepL (sGX.trans sX) slp), _, rfl, fun dd hdd => ?_⟩⟩
      have := kg _ dd (s1.trans (sGX.trans sX)) hdd
      rw [List.length_append, List.length_map]
      exact this
    rw [el]
    intro X2 lap sX sla
    refine ⟨_, rfl, rfl, _, rfl, itf (decide_eq_false (by intro e; cases e)) ?_⟩
    refine ⟨_, rfl, _, rfl, rp, _, rfl, .inl ⟨SqL.of (sX _ _ hrX), fun tp htp => ?_⟩⟩
    have s5 := sn (o := .tup vs) htp
    have e5 : upd X2 tp (.tup vs) tp = some (.tup vs) := upd_same
    generalize upd X2 tp (.tup vs) = X3 at s5 e5 ⊢
    refine ⟨_, rfl, fun mx dx hmx hdx nes => ?_⟩
    have o1 : upd (upd X3 dx (.own mx)) mx (.ins T.C_Machine dx []) mx = some (.ins T.C_Machine dx []) := upd_same
    have so : Same X3 (upd (upd X3 dx (.own mx)) mx (.ins T.C_Machine dx [])) := fun c u e => by
      rw [upd_ne (ne_of_none e hmx), upd_ne (ne_of_none e hdx)]
      exact e
    generalize upd (upd X3 dx (.own mx)) mx (.ins T.C_Machine dx []) = X4 at o1 so
    have s24 := s5.trans so
    have s0X3 := s1.trans (sGX.trans (sX.trans s5))
    have s0X4 := s0X3.trans so
    refine ⟨mx, dx, dr, _, _, d, _, last, kd, c, rfl, o1, dat.mono s0X4, im_tup (keepT so (.inl (.inl e5))) (ImAll.mono ((sk sX).trans (sk s24)) _ _ iav), im_tup (keepT s24 sla) im_ints, rl, ll, fun r hr => ?_, cm, ?_, ?_⟩
    · exact ⟨rulesD_name ersi r hr, name_short (rulesD_name ersi r hr), al r hr⟩
    · rintro rfl G5 b5 mat
      exact ⟨rfl, kg _ mx (s0X3.trans fun c u e => b5 _ _ (ne_of_none e hmx) (so _ _ e)) mat⟩
    · rintro v rfl G5 dd b5 hdd
      exact kg _ dd (s0X3.trans fun c u e => b5 _ _ (ne_of_none e hmx) (so _ _ e)) hdd
end
end T82
/-! the texts of rules and machines -/
namespace T82
open PySem L2
def strI (i : Int) : Str := toString i
def inT (i : Int) : Prop := 0 ≤ i ∧ i ≤ 99
theorem inT_of {i : Int} (h : inS i = true) : inT i := by
  unfold inS at h
  simp only [Bool.and_eq_true, decide_eq_true_eq] at h
  exact ⟨h.1, by omega⟩
theorem strI_tl {i : Int} (h : inT i) : TL.tl (strI i) = TL.numL i.toNat := by
  have e : i = ((i.toNat : Nat) : Int) := by have := h.1; omega
  unfold strI
  rw [e]
  exact TL.tl_num _
theorem strI_len {i : Int} (h : inT i) : (strI i).length ≤ 2 := by
  rw [TL.len_tl, strI_tl h]
  exact TL.numL_len (by decide) (by have := h.2; have := h.1; omega)
theorem strI_log {i : Int} (h : inT i) : i.natAbs.log2 < 1920 := by
  have : i.natAbs < 2 ^ 1920 := Nat.lt_of_lt_of_le (by have := h.2; have := h.1; omega : i.natAbs < 2 ^ 7) (Nat.pow_le_pow_right (by decide) (by decide))
  by_cases e : i.natAbs = 0
  · rw [e]; decide
  · exact (Nat.log2_lt e).mpr this
theorem join_len (y : Str) : ∀ zs : List Str, (Txt.join y zs).length ≤ (zs.map Str.length).sum + zs.length * y.length := fun zs => by
  rw [TL.join_eq]
  induction zs with
  | nil => exact Nat.zero_le _
  | cons a r ih =>
    cases r with
    | nil =>
      show a.length ≤ _
      simp
    | cons b r =>
      have e : Str.join y (a :: b :: r) = a ++ y ++ Str.join y (b :: r) := rfl
      rw [e, TL.len_tl, TL.tl_append, TL.tl_append, List.length_append, List.length_append, ← TL.len_tl, ← TL.len_tl, ← TL.len_tl]
      simp only [List.map_cons, List.sum_cons, List.length_cons] at ih ⊢
      have : (r.length + 1 + 1) * y.length = (r.length + 1) * y.length + y.length := by rw [Nat.succ_mul]
      omega
theorem len_app (x y : Str) : (x ++ y).length = x.length + y.length := by
  rw [TL.len_tl, TL.tl_append, List.length_append, ← TL.len_tl, ← TL.len_tl]
theorem sum_le {α : Type} {f : α → Nat} {b : Nat} : ∀ {as : List α}, (∀ a ∈ as, f a ≤ b) → (as.map f).sum ≤ as.length * b
  | [], _ => by simp
  | a :: as, h => by
    have h1 := h a List.mem_cons_self
    have h2 := sum_le (f := f) (b := b) (as := as) fun x hx => h x (List.mem_cons_of_mem _ hx)
    simp only [List.map_cons, List.sum_cons, List.length_cons]
    rw [Nat.succ_mul]
    omega
/-- a rule that can be written -/
structure Rl.fit (r : Rl) : Prop where
  name : nameB r.name = true
  few : r.args.length ≤ 4
  args : ∀ a ∈ r.args, inT a
  goal : inT r.goal
theorem name_len {z : Str} (h : nameB z = true) : z.length ≤ 8 := by
  unfold nameB at h
  simp only [Bool.and_eq_true, decide_eq_true_eq] at h
  omega
def sps : Str := " "
def nul : Str := ""
def Rl.head (r : Rl) : Str := Txt.join " " (r.name :: r.args.map strI)
def Rl.text (r : Rl) : Str := (("rule " : Str) ++ r.head) ++ (" -> " : Str) ++ strI r.goal
def lastT (is : List Int) : Str := ("last" : Str) ++ Txt.join "" (is.map fun i => (" " : Str) ++ strI i)
def joinT (ls : List Str) : Str := Txt.join "" (ls.map fun l => l ++ ("\n" : Str))
def machT (rs : List Rl) (last : List Int) : Str := joinT (rs.map Rl.text ++ [lastT last])
theorem head_sum {r : Rl} (h : r.fit) : ((r.name :: r.args.map strI).map Str.length).sum + (r.name :: r.args.map strI).length * (" " : Str).length ≤ 21 := by
  have h1 := name_len h.name
  have h2 := sum_le (f := Str.length) (b := 2) (as := r.args.map strI) fun z hz => by
    obtain ⟨a, ha, rfl⟩ := List.mem_map.mp hz
    exact strI_len (h.args a ha)
  have h3 := h.few
  have h4 : (" " : Str).length = 1 := by decide +kernel
  rw [h4]
  simp only [List.map_cons, List.sum_cons, List.length_cons, List.length_map] at h2 ⊢
  omega
theorem head_len {r : Rl} (h : r.fit) : r.head.length ≤ 21 := Nat.le_trans (join_len _ _) (head_sum h)
theorem text_len {r : Rl} (h : r.fit) : r.text.length ≤ 32 := by
  unfold Rl.text
  rw [len_app, len_app, len_app]
  have h1 := head_len h
  have h2 := strI_len h.goal
  have h4 : ("rule " : Str).length = 5 := by decide +kernel
  have h5 : (" -> " : Str).length = 4 := by decide +kernel
  omega
theorem last_sum {is : List Int} (h : ∀ a ∈ is, inT a) : ((is.map fun i => (" " : Str) ++ strI i).map Str.length).sum ≤ is.length * 3 := by
  have h2 := sum_le (f := Str.length) (b := 3) (as := is.map fun i => (" " : Str) ++ strI i) fun z hz => by
    obtain ⟨a, ha, rfl⟩ := List.mem_map.mp hz
    have := strI_len (h a ha)
    have h4 : (" " : Str).length = 1 := by decide +kernel
    rw [len_app]
    omega
  rw [List.length_map] at h2
  exact h2
theorem nul_len : ("" : Str).length = 0 := by decide +kernel
theorem last_len {is : List Int} (h : ∀ a ∈ is, inT a) : (lastT is).length ≤ 4 + is.length * 3 := by
  unfold lastT
  rw [len_app]
  have h1 := join_len "" (is.map fun i => (" " : Str) ++ strI i)
  have h2 := last_sum h
  rw [nul_len] at h1
  have h4 : ("last" : Str).length = 4 := by decide +kernel
  omega
theorem joinT_sum {ls : List Str} {b : Nat} (h : ∀ l ∈ ls, l.length ≤ b) : ((ls.map fun l => l ++ ("\n" : Str)).map Str.length).sum ≤ ls.length * (b + 1) := by
  have h2 := sum_le (f := Str.length) (b := b + 1) (as := ls.map fun l => l ++ ("\n" : Str)) fun z hz => by
    obtain ⟨l, hl, rfl⟩ := List.mem_map.mp hz
    have := h l hl
    have h4 : ("\n" : Str).length = 1 := by decide +kernel
    rw [len_app]
    omega
  rw [List.length_map] at h2
  exact h2
theorem joinT_len {ls : List Str} {b : Nat} (h : ∀ l ∈ ls, l.length ≤ b) : (joinT ls).length ≤ ls.length * (b + 1) := by
  have h1 := join_len "" (ls.map fun l => l ++ ("\n" : Str))
  have h2 := joinT_sum h
  rw [nul_len] at h1
  unfold joinT
  omega
end T82
namespace T82
open PySem L2
section
variable {P : Program} {w : World} {K : PySem.W.Frag} {mg : Str → Option Value} {base : Heap}
/-! ### machine_text -/
theorem rule_sum {r : Rl} (h : r.fit) : ("rule " : Str).length + r.head.length ≤ sizeLine ∧ (("rule " : Str) ++ r.head).length + (" -> " : Str).length ≤ sizeLine ∧ (("rule " : Str) ++ r.head ++ (" -> " : Str)).length + (strI r.goal).length ≤ sizeLine := by
  have := text_len h
  unfold Rl.text at this
  rw [len_app, len_app, len_app] at this
  rw [len_app, len_app, len_app, sizeLine_eq]
  omega
abbrev nm_machine_text : List Str := ["machine", "lines", "key", "goal", "line", "state"]
theorem sc_machine_text : FnScope nm_machine_text ["machine"] (defScope s_machine_text) := ⟨rfl, rfl, rfl, by decide +kernel, rfl, by decide +kernel, by decide +kernel⟩
def sp_machine_text (P : Program) (w : World) (K : PySem.W.Frag) (CS CD CM : Addr) : Sp := fun vs H Q _ => ∃ x dr d rs last, vs = [.ref x] ∧ MachAt P w K CS CD CM H x dr d rs last ∧ (∀ r ∈ rs, r.fit) ∧ rs.length ≤ 600 ∧ last.length ≤ 60 ∧ (∀ a ∈ last, inT a) ∧ ∀ G, Same H G → Q (.str (machT rs last)) G
theorem ok_machine_text (T : Tx K mg) : FnOk P w K mg base CX0 1 T.f_machine_text T.d_machine_text ["machine"] (sp_machine_text P w K T.C_Shape T.C_Door T.C_Machine) := by
  refine T.F_machine_text.ok sc_machine_text (fun vs H Q E h => ?_) (fun cdv A outer s H vs Q E hr h => ?_)
  · obtain ⟨x, dr, d, rs, last, rfl, _⟩ := h
    rfl
  · obtain ⟨x, dr, d, rs, last, rfl, mat, fit, few, lfew, lfit, k⟩ := h
    refine ⟨_, (pss_cons (ps_set (i := 1) sc_machine_text.nd rfl (.inl rfl) (pe_lst pa_nil))
    (pss_cons (ps_for PassesOwn.never rfl (wT (K := K) rfl (eFld (K := K) rfl (pv 0) rfl)) (pg_tup rfl (pgs_cons (pg_name (i := 2) sc_machine_text.nd rfl (Or.inl rfl)) (pgs_cons (pg_name (i := 3) sc_machine_text.nd rfl (Or.inl rfl)) pgs_nil)))
      (pss_one (ps_expr (pe_bm PySem.F.plainAttrs_list PySem.F.slot_list_append PySem.F.type_list_append mt_append (pv 1) (pa_cons (pe_op op_add_str (pe_op op_add_str (pe_op op_add_str pe_str (pe_join pe_str (pe_op op_cat (pe_lst (pa_cons (pe_ix (iT (K := K) rfl) (pv 2) pe_int (fun _ _ => rfl)) pa_nil)) (pe_lc (own := [("state", 5)]) (g := gName 5) (tt := tYes) rfl sc_machine_text.nd (wT (K := K) rfl (pe_slice (sU (K := K) rfl) (pv 2) (po_some pe_int) po_none)) (blkOk_by (N := nm_machine_text) (sc := defScope s_machine_text) (by decide +kernel)) (fun _ _ _ _ _ => (pg_name (i := 5) sc_machine_text.nd rfl (Or.inl rfl))) (fun _ _ _ _ _ => pts_nil) (fun _ _ _ _ _ => (pe_callTy call_str_int (by rfl) T.t_str (by decide +kernel) (pa_cons (pv 5) pa_nil))))))) pe_str) (pe_callTy call_str_int (by rfl) T.t_str (by decide +kernel) (pa_cons (pv 3) pa_nil))) pa_nil)))))
    (pss_cons (ps_expr (pe_bm PySem.F.plainAttrs_list PySem.F.slot_list_append PySem.F.type_list_append mt_append (pv 1) (pa_cons (pe_op op_add_str pe_str (pe_join pe_str (pe_lc (own := [("state", 5)]) (g := gName 5) (tt := tYes) rfl sc_machine_text.nd (wT (K := K) rfl (eFld (K := K) rfl (pv 0) rfl)) (blkOk_by (N := nm_machine_text) (sc := defScope s_machine_text) (by decide +kernel)) (fun _ _ _ _ _ => (pg_name (i := 5) sc_machine_text.nd rfl (Or.inl rfl))) (fun _ _ _ _ _ => pts_nil) (fun _ _ _ _ _ => (pe_op op_add_str pe_str (pe_callTy call_str_int (by rfl) T.t_str (by decide +kernel) (pa_cons (pv 5) pa_nil))))))) pa_nil)))
    (pss_one (ps_ret (pe_join pe_str (pe_lc (own := [("line", 4)]) (g := gName 4) (tt := tYes) rfl sc_machine_text.nd (wL (K := K) rfl (pv 1)) (blkOk_by (N := nm_machine_text) (sc := defScope s_machine_text) (by decide +kernel)) (fun _ _ _ _ _ => (pg_name (i := 4) sc_machine_text.nd rfl (Or.inl rfl))) (fun _ _ _ _ _ => pts_nil) (fun _ _ _ _ _ => (pe_op op_add_str (pv 4) pe_str))))))))), ?_⟩
    obtain ⟨dx, l, sk', o, rv, lv, f⟩ := id mat
    obtain ⟨rp, rvs, rfl, srp, iar⟩ := f.rules.tup_
    obtain ⟨la, rfl, sla⟩ := ints_at2 f.last
    have rlen := iar.len
    rw [List.length_map] at rlen
    refine ⟨by show 0 ≤ sizeLine; decide, fun lp hlp => ?_⟩
    have s1 := sn (o := .lst []) hlp
    have e1 : upd H lp (.lst []) lp = some (.lst []) := upd_same
    generalize upd H lp (.lst []) = H1 at s1 e1 ⊢
    have x1 := s1 _ _ f.at_
    refine ⟨_, rfl, x, _, dx, _, _, rfl, x1, T.cl_Machine, T.n_Machine_rules, rfl, rp, rfl, ⟨_, keepT s1 srp⟩, ?_⟩
    refine for_it (walk_tup (K := K) (a := rp) (xs := rvs)) (fun i σ G => (∃ a b, σ = [some (.ref x), some (.ref lp), a, b, none, none]) ∧ But lp H1 G ∧ G lp = some (.lst (((rs.take i).map Rl.text).map V.str)))
      ⟨⟨_, _, rfl⟩, fun _ _ _ e => e, by rw [List.take_zero]; exact e1⟩ (fun i σ G _ z => keepT (sTr s1 z.2.1 hlp (Same.refl _)) srp) ?_ ?_
    · rintro i y σ G G' hi ⟨⟨a, b, rfl⟩, bG, eG⟩ ⟨rfl, hy⟩
      have sG : Same H G' := sTr s1 bG hlp (Same.refl _)
      obtain ⟨r, er⟩ : ∃ r, rs[i]? = some r := ⟨_, List.getElem?_eq_getElem (by omega)⟩
      obtain ⟨y', e2', im1⟩ := iar.get (i := i) (d := r.d) (by rw [List.getElem?_map, er]; rfl)
      rw [hy] at e2'
      cases e2'
      obtain ⟨p, q, rfl, sp, sq⟩ := rl_at im1
      have ft := fit r (List.mem_of_getElem? er)
      refine ⟨p, _, rfl, keepT sG sp, rfl, _, _, rfl, _, _, rfl, rfl, ?_⟩
      have sq1 := keepT sG sq
      refine ⟨_, rfl, .inl ⟨rfl, _, SqL.of eG⟩, ?_⟩
      refine ⟨⟨_, rfl⟩, _, rfl, q, _, 0, _, rfl, rfl, sq1, at0, by show 1 ≤ sizeLine; decide, fun l1 hl1 => ?_⟩
      have s2 := sn (o := .lst [.str r.name]) hl1
      have e2 : upd G' l1 (.lst [.str r.name]) l1 = some (.lst [.str r.name]) := upd_same
      generalize upd G' l1 (.lst [.str r.name]) = G2 at s2 e2 ⊢
      refine ⟨_, rfl, _, rfl, q, _, rfl, keepT s2 sq1, fun t1 G3 s3 st1 => ?_⟩
      rw [cut1] at st1
      refine ⟨t1, rfl, ⟨_, st1⟩, fun D hD => lc_strs (K := K) (walk_tup (K := K) (a := t1) (xs := r.args.map V.int)) (r.args.map strI) (by simp) hD (by have := ft.few; rw [List.length_map]; omega) (fun H8 hb => keepT (hb.same hD) st1) ?_ ?_⟩
      · rintro j z y H0 H8 hz hb hne ⟨rfl, hy⟩
        rw [List.getElem?_map] at hz hy
        cases ea : r.args[j]? with
        | none => rw [ea] at hy; cases hy
        | some a =>
          rw [ea] at hz hy
          cases hz
          cases hy
          exact ⟨Same.refl _, fun N hN => ⟨rfl, _, rfl, a, rfl, strI_log (ft.args a (List.mem_of_getElem? ea)), hN _ (Same.refl _)⟩⟩
      intro G4 b4 e4
      have s4 := b4.same hD
      have s24 := s3.trans s4
      refine ⟨l1, D, _, _, rfl, rfl, s24 _ _ e2, e4, ?_, fun l2 hl2 => ?_⟩
      · have := ft.few
        rw [sizeLine_eq, List.length_map, List.length_map, List.length_singleton]
        omega
      have s5 := sn (o := .lst ([.str r.name] ++ (r.args.map strI).map V.str)) hl2
      have e5 : upd G4 l2 (.lst ([.str r.name] ++ (r.args.map strI).map V.str)) l2 = some (.lst ([.str r.name] ++ (r.args.map strI).map V.str)) := upd_same
      generalize upd G4 l2 (.lst ([.str r.name] ++ (r.args.map strI).map V.str)) = G5 at s5 e5 ⊢
      have s25 := s2.trans (s24.trans s5)
      obtain ⟨z1, z2, z3⟩ := rule_sum ft
      refine ⟨_, l2, r.name :: r.args.map strI, rfl, rfl, .inl (SqL.of e5), Nat.le_trans (head_sum ft) (by decide), ?_⟩
      refine ⟨_, _, rfl, rfl, z1, _, _, rfl, rfl, z2, _, rfl, r.goal, rfl, strI_log ft.goal, _, _, rfl, rfl, z3, ?_⟩
      have e6 := s25 _ _ eG
      refine ⟨lp, _, _, rfl, rfl, e6, ?_, ?_⟩
      · rw [List.length_map, List.length_map, List.length_take, sizeLine_eq]
        omega
      refine ⟨⟨_, _, rfl⟩, fun c u ne e => by rw [upd_ne ne]; exact s25 _ _ (bG _ _ ne e), ?_⟩
      rw [upd_same, List.take_add_one, er]
      simp only [Option.toList_some, List.map_append]
      rfl
    rintro σ G ⟨⟨a, b, rfl⟩, bG, eG⟩
    rw [rlen, List.take_length] at eG
    have sG : Same H G := sTr s1 bG hlp (Same.refl _)
    have sla1 := keepT sG sla
    refine ⟨_, rfl, .inl ⟨rfl, _, SqL.of eG⟩, ?_⟩
    refine ⟨⟨_, rfl⟩, _, rfl, x, _, dx, _, _, rfl, sG _ _ f.at_, T.cl_Machine, T.n_Machine_last, rfl, la, rfl, ⟨_, sla1⟩, fun D hD => lc_strs (K := K) (walk_tup (K := K) (a := la) (xs := last.map V.int)) (last.map fun i => (" " : Str) ++ strI i) (by simp) hD (by rw [List.length_map]; omega) (fun H8 hb => keepT (hb.same hD) sla1) ?_ ?_⟩
    · rintro j z y H0 H8 hz hb hne ⟨rfl, hy⟩
      rw [List.getElem?_map] at hz hy
      cases ea : last[j]? with
      | none => rw [ea] at hy; cases hy
      | some a =>
        rw [ea] at hz hy
        cases hz
        cases hy
        have fa := lfit a (List.mem_of_getElem? ea)
        have := strI_len fa
        exact ⟨Same.refl _, fun N hN => ⟨rfl, _, rfl, a, rfl, strI_log fa, _, _, rfl, rfl, by rw [sizeLine_eq, show (" " : Str).length = 1 by decide +kernel]; unfold strI at this; omega, hN _ (Same.refl _)⟩⟩
    intro G2 b2 e2
    have s2 := b2.same hD
    have ls1 := last_sum lfit
    refine ⟨_, D, _, rfl, rfl, .inl (SqL.of e2), by rw [nul_len]; show (List.map Str.length _).sum + _ ≤ _; omega, ?_⟩
    have ll := last_len lfit
    unfold lastT at ll
    rw [len_app] at ll
    refine ⟨_, _, rfl, rfl, by rw [sizeLine_eq]; omega, ?_⟩
    have eG2 := s2 _ _ eG
    refine ⟨lp, _, _, rfl, rfl, eG2, by rw [List.length_map, List.length_map, sizeLine_eq]; omega, ?_⟩
    have e3 : upd G2 lp (.lst ((rs.map Rl.text).map V.str ++ [.str (lastT last)])) lp = some (.lst ((rs.map Rl.text ++ [lastT last]).map V.str)) := by
      rw [upd_same, List.map_append]
      rfl
    have s3 : Same H (upd G2 lp (.lst ((rs.map Rl.text).map V.str ++ [.str (lastT last)]))) := sTr (D := lp) (H1 := G2) (sG.trans s2) (fun c u ne e => by rw [upd_ne ne]; exact e) hlp (Same.refl _)
    have lens : ∀ z ∈ rs.map Rl.text ++ [lastT last], z.length ≤ 200 := fun z hz => by
      rcases List.mem_append.mp hz with hz | hz
      · obtain ⟨r, hr, rfl⟩ := List.mem_map.mp hz
        have := text_len (fit r hr)
        omega
      · rw [List.mem_singleton.mp hz]
        have := last_len lfit
        omega
    have k' : ∀ G, Same H G → Q (.str (joinT (rs.map Rl.text ++ [lastT last]))) G := k
    have many : (rs.map Rl.text ++ [lastT last]).length ≤ 601 := by
      rw [List.length_append, List.length_map, List.length_singleton]
      omega
    generalize rs.map Rl.text ++ [lastT last] = ls at e3 lens k' many
    refine ⟨⟨_, rfl⟩, _, rfl, lp, rfl, ⟨_, SqL.of e3⟩, fun D2 hD2 => lc_strs (K := K) (walk_list (K := K) (a := lp) (xs := ls.map V.str)) (ls.map fun l => l ++ ("\n" : Str)) (by simp) hD2 (by rw [List.length_map]; omega) (fun H8 hb => keepL (hb.same hD2) (SqL.of e3)) ?_ ?_⟩
    · rintro j z y H0 H8 hz hb hne ⟨rfl, hy⟩
      rw [List.getElem?_map] at hz hy
      cases ea : ls[j]? with
      | none => rw [ea] at hy; cases hy
      | some a =>
        rw [ea] at hz hy
        cases hz
        cases hy
        have := lens a (List.mem_of_getElem? ea)
        exact ⟨Same.refl _, fun N hN => ⟨rfl, _, rfl, _, _, rfl, rfl, by rw [sizeLine_eq, show ("\n" : Str).length = 1 by decide +kernel]; omega, hN _ (Same.refl _)⟩⟩
    intro G4 b4 e4
    refine ⟨_, D2, _, rfl, rfl, .inl (SqL.of e4), ?_, k' _ (s3.trans (b4.same hD2))⟩
    have := joinT_sum lens
    rw [nul_len]
    show (List.map Str.length _).sum + _ ≤ _
    have : ls.length * 201 ≤ 601 * 201 := Nat.mul_le_mul_right _ many
    omega
end
end T82
namespace T82
open PySem L2
section
variable {P : Program} {w : World} {K : PySem.W.Frag} {mg : Str → Option Value} {base : Heap}
/-! ### the tape -/
structure TpF (H : Hp) (a c : Addr) (ns : List Int) (x1 x2 x3 x4 : Int) : Prop where
  at_ : H a = some (.lst [.ref c, .int x1, .int x2, .int x3, .int x4])
  cells : H c = some (.lst (ns.map V.int))
  p1 : 0 ≤ x1
def TapeAt (H : Hp) (a c : Addr) : Prop := ∃ ns x1 x2 x3 x4, TpF H a c ns x1 x2 x3 x4
theorem TpF.ne {H : Hp} {a c : Addr} {ns : List Int} {x1 x2 x3 x4 : Int} (f : TpF H a c ns x1 x2 x3 x4) : c ≠ a := fun e => by
  have h1 := f.at_
  have h2 := f.cells
  rw [e, h1] at h2
  have h3 := HO.lst.inj (Option.some.inj h2)
  cases ns with
  | nil => cases h3
  | cons n ns => cases h3
theorem TapeAt.keep {H G : Hp} {a c : Addr} (t : TapeAt H a c) (ha : ∀ o, H a = some o → G a = some o) (hc : ∀ o, H c = some o → G c = some o) : TapeAt G a c := by
  obtain ⟨ns, x1, x2, x3, x4, f⟩ := t
  exact ⟨ns, x1, x2, x3, x4, ha _ f.at_, hc _ f.cells, f.p1⟩
theorem TapeAt.mono {H G : Hp} {a c : Addr} (t : TapeAt H a c) (s : Same H G) : TapeAt G a c := t.keep (s a) (s c)
theorem TapeAt.notup {H : Hp} {a c : Addr} (t : TapeAt H a c) : ∀ ys, ¬ Rd H a (.tup ys) := by
  obtain ⟨ns, x1, x2, x3, x4, f⟩ := t
  exact notup_lst f.at_
theorem TapeAt.ne {H : Hp} {a c : Addr} (t : TapeAt H a c) : c ≠ a := by
  obtain ⟨ns, x1, x2, x3, x4, f⟩ := t
  exact f.ne
/-- what was not there yet is no part of the tape -/
theorem TapeAt.new {H : Hp} {a c b : Addr} (t : TapeAt H a c) (n : H b = none) : b ≠ a ∧ b ≠ c := by
  obtain ⟨ns, x1, x2, x3, x4, f⟩ := t
  refine ⟨fun z => ?_, fun z => ?_⟩
  · rw [z, f.at_] at n; cases n
  · rw [z, f.cells] at n; cases n
theorem TapeAt.upd {H : Hp} {a c b : Addr} {o : HO} (t : TapeAt H a c) (h1 : b ≠ a) (h2 : b ≠ c) : TapeAt (L2.upd H b o) a c := t.keep (fun o e => by rw [upd_ne h1.symm]; exact e) (fun o e => by rw [upd_ne h2.symm]; exact e)
theorem But.refl {D : Addr} {H : Hp} : But D H H := fun _ _ _ e => e
theorem But.trans {D : Addr} {H G F : Hp} (a : But D H G) (b : But D G F) : But D H F := fun c o ne e => b c o ne (a c o ne e)
theorem But.of {D : Addr} {H G : Hp} (s : Same H G) : But D H G := fun c o _ e => s c o e
theorem But.put {D : Addr} {H : Hp} {o : HO} : But D H (upd H D o) := fun c u ne e => by rw [upd_ne ne]; exact e
abbrev nm__law_tape : List Str := ["script", "cells", "cell"]
theorem sc__law_tape : FnScope nm__law_tape ["script"] (defScope s__law_tape) := ⟨rfl, rfl, rfl, by decide +kernel, rfl, by decide +kernel, by decide +kernel⟩
def sp__law_tape (K : PySem.W.Frag) : Sp := fun vs H Q _ => ∃ (p : Addr) (ns : List Int), vs = [.ref p] ∧ SqL K H p (ns.map V.int) ∧ ns.length ≤ 1000 ∧ ∀ G a c, Same H G → H a = none → H c = none → TapeAt G a c → Q (.ref a) G
theorem ok__law_tape (T : Tx K mg) : FnOk P w K mg base CX0 1 T.f__law_tape T.d__law_tape ["script"] (sp__law_tape K) := by
  refine T.F__law_tape.ok sc__law_tape (fun vs H Q E h => ?_) (fun cdv A outer s H vs Q E hr h => ?_)
  · obtain ⟨p, ns, rfl, _⟩ := h
    rfl
  · obtain ⟨p, ns, rfl, sp, len, k⟩ := h
    refine ⟨_, (pss_cons (ps_setLc (i := 1) (own := [("cell", 2)]) (g := gName 2) (tt := tYes) rfl sc__law_tape.nd rfl rfl (sw_true rfl rfl rfl (by decide +kernel)) (wL (K := K) rfl (pe_slice (sL (K := K) rfl) (pv 0) po_none (po_some pe_int))) (blkOk_by (N := nm__law_tape) (sc := defScope s__law_tape) (by decide +kernel)) (fun _ _ _ _ _ => (pg_name (i := 2) sc__law_tape.nd rfl (Or.inl rfl))) (fun _ _ _ _ _ => pts_nil) (fun _ _ _ _ _ => (pe_callB call_abs (by rfl) T.t_abs (by decide +kernel) (pa_cons (pe_callTy call_int1 (by rfl) T.t_int (by decide +kernel) (pa_cons (pv 2) pa_nil)) pa_nil))))
    (pss_one (ps_ret (pe_lst (pa_cons (pv 1) (pa_cons pe_int (pa_cons pe_int (pa_cons (pe_op op_add pe_int (pe_callB (cLen (K := K) rfl) (by rfl) T.t_len (by decide +kernel) (pa_cons (pv 1) pa_nil))) (pa_cons pe_int pa_nil))))))))), ?_⟩
    refine ⟨_, rfl, _, rfl, p, _, rfl, sp, fun q hq => ?_⟩
    have s1 := sn (o := .lst (cutV (ns.map V.int) none (some 63))) hq
    have e1 : upd H q (.lst (cutV (ns.map V.int) none (some 63))) q = some (.lst (cutV (ns.map V.int) none (some 63))) := upd_same
    generalize upd H q (.lst (cutV (ns.map V.int) none (some 63))) = G1 at s1 e1 ⊢
    obtain ⟨ms, em, ml⟩ : ∃ ms : List Int, cutV (ns.map V.int) none (some 63) = ms.map V.int ∧ ms.length ≤ 1000 := by
      refine ⟨(ns.drop (HT.sIx ns.length 0 none)).take (HT.sIx ns.length ns.length (some 63) - HT.sIx ns.length 0 none), ?_, ?_⟩
      · unfold cutV
        simp only [List.length_map, List.map_take, List.map_drop]
      · rw [List.length_take, List.length_drop]
        omega
    rw [em] at e1
    refine ⟨q, rfl, ⟨_, SqL.of e1⟩, fun D hD => lc_im (K := K) (walk_list (K := K) (a := q) (xs := ms.map V.int)) hD (ms.map fun i => PyData.int (if i < 0 then -i else i)) (by simp) (by rw [List.length_map]; omega) (fun H2 hb => keepL (hb.same hD) (SqL.of e1)) ?_ ?_⟩
    · rintro i dd y H0 H2 hdd hb hne ⟨rfl, hy⟩
      rw [List.getElem?_map] at hdd hy
      cases ea : ms[i]? with
      | none => rw [ea] at hdd; cases hdd
      | some t =>
        rw [ea] at hdd hy
        cases hdd
        cases hy
        exact ⟨Same.refl _, fun N hN => ⟨rfl, _, rfl, .inl ⟨t, rfl, _, rfl, hN _ _ (Same.refl _) im_int⟩⟩⟩
    intro G2 ys b2 hy im
    rw [show (ms.map fun i => PyData.int (if i < 0 then -i else i)) = (ms.map fun i => if i < 0 then -i else i).map PyData.int by rw [List.map_map]; rfl] at im
    rw [im_intsOf im] at hy
    have s2 := b2.same hD
    refine ⟨_, rfl, _, rfl, D, _, rfl, .inl (SqL.of hy), _, _, rfl, rfl, by show 5 ≤ sizeLine; decide, fun a ha => ?_⟩
    have nHa : H a = none := by
      cases e : H a with
      | none => rfl
      | some u => rw [s2 _ _ (s1 _ _ e)] at ha; cases ha
    have nHD : H D = none := by
      cases e : H D with
      | none => rfl
      | some u => rw [s1 _ _ e] at hD; cases hD
    exact k _ a D (s1.trans (s2.trans (sn ha))) nHa nHD ⟨_, _, _, _, _, upd_same, sn ha _ _ hy, by decide⟩
/-! ### a draw -/
abbrev nm__law_pick : List Str := ["tape", "many", "cell", "digit", "number"]
theorem sc__law_pick : FnScope nm__law_pick ["tape", "many"] (defScope s__law_pick) := ⟨rfl, rfl, rfl, by decide +kernel, rfl, by decide +kernel, by decide +kernel⟩
def sp__law_pick : Sp := fun vs H Q _ => ∃ (a c : Addr) (m : Int), vs = [.ref a, .int m] ∧ TapeAt H a c ∧ 0 < m ∧ m < 1000000 ∧ ∀ G i, But a H G → TapeAt G a c → 0 ≤ i → i < m → Q (.int i) G
theorem ok__law_pick (T : Tx K mg) : FnOk P w K mg base CX0 1 T.f__law_pick T.d__law_pick ["tape", "many"] sp__law_pick := by
  refine T.F__law_pick.ok sc__law_pick (fun vs H Q E h => ?_) (fun cdv A outer s H vs Q E hr h => ?_)
  · obtain ⟨a, c, m, rfl, _⟩ := h
    rfl
  · obtain ⟨a, c, m, rfl, ⟨ns, x1, x2, x3, x4, f⟩, m0, m1, k⟩ := h
    have cne := f.ne
    have fa := f.at_
    have fc := f.cells
    have p1 := f.p1
    refine ⟨_, (C8.pss_cut (ps_if (PW.pt (pw_and (pt_cmpR op_eq (pe_ix (iL (K := K) rfl) (pv 0) pe_int (fun _ _ => rfl)) pe_int (nomark _)) (pw_and1 (pt_cmpR op_lt (pe_ix (iL (K := K) rfl) (pv 0) pe_int (fun _ _ => rfl)) (pe_callB (cLen (K := K) rfl) (by rfl) T.t_len (by decide +kernel) (pa_cons (pe_ix (iL (K := K) rfl) (pv 0) pe_int (fun _ _ => rfl)) pa_nil)) (nomark _))))) (pss_cons (ps_set (i := 2) sc__law_pick.nd rfl (.inl rfl) (pe_ix (iL (K := K) rfl) (pe_ix (iL (K := K) rfl) (pv 0) pe_int (fun _ _ => rfl)) (pe_ix (iL (K := K) rfl) (pv 0) pe_int (fun _ _ => rfl)) (fun _ _ => rfl)))
      (pss_cons (ps_asg (pe_op op_add (pe_ix (iL (K := K) rfl) (pv 0) pe_int (fun _ _ => rfl)) pe_int) (pg_sub (pv 0) pe_int set_list))
      (pss_cons (ps_asg (pe_op op_mod (pe_callTy call_int1 (by rfl) T.t_int (by decide +kernel) (pa_cons (pe_op op_add (pe_op op_add (pe_op op_mul (pe_ix (iL (K := K) rfl) (pv 0) pe_int (fun _ _ => rfl)) pe_int) (pv 2)) pe_int) pa_nil)) pe_int) (pg_sub (pv 0) pe_int set_list))
      (pss_one (ps_if (pt_cmpR op_ge (pv 2) (pe_op op_pow pe_int pe_int) (nomark _)) (pss_one (ps_asg (pv 2) (pg_sub (pv 0) pe_int set_list))) pss_nil))))) pss_nil)
    (pss_cons (ps_if (pt_cmpR op_gt (pe_ix (iL (K := K) rfl) (pv 0) pe_int (fun _ _ => rfl)) pe_int (nomark _)) (pss_cons (ps_set (i := 3) sc__law_pick.nd rfl (.inl rfl) (pe_op op_mod (pe_callTy call_int1 (by rfl) T.t_int (by decide +kernel) (pa_cons (pe_ix (iL (K := K) rfl) (pv 0) pe_int (fun _ _ => rfl)) pa_nil)) (pv 1)))
      (pss_cons (ps_asg (pe_op op_fdiv (pe_ix (iL (K := K) rfl) (pv 0) pe_int (fun _ _ => rfl)) (pv 1)) (pg_sub (pv 0) pe_int set_list))
      (pss_one (ps_ret (pv 3))))) pss_nil)
    (pss_cons (ps_asg (pe_op op_add (pe_ix (iL (K := K) rfl) (pv 0) pe_int (fun _ _ => rfl)) pe_int) (pg_sub (pv 0) pe_int set_list))
    (pss_cons (ps_set (i := 4) sc__law_pick.nd rfl (.inl rfl) (pe_op op_mod (pe_callTy call_int1 (by rfl) T.t_int (by decide +kernel) (pa_cons (pe_op op_mul (pe_callTy call_int1 (by rfl) T.t_int (by decide +kernel) (pa_cons (pe_op op_add (pe_ix (iL (K := K) rfl) (pv 0) pe_int (fun _ _ => rfl)) (pe_op op_mul pe_int (pe_ix (iL (K := K) rfl) (pv 0) pe_int (fun _ _ => rfl)))) pa_nil)) pe_int) pa_nil)) pe_int))
    (pss_cons (ps_set (i := 4) sc__law_pick.nd rfl (.inl rfl) (pe_op op_mod (pe_callTy call_int1 (by rfl) T.t_int (by decide +kernel) (pa_cons (pe_op op_mul (pv 4) (pe_op op_add (pe_op op_fdiv (pv 4) pe_int) pe_int)) pa_nil)) pe_int))
    (pss_cons (ps_set (i := 4) sc__law_pick.nd rfl (.inl rfl) (pe_op op_mod (pe_callTy call_int1 (by rfl) T.t_int (by decide +kernel) (pa_cons (pe_op op_mul (pv 4) (pe_op op_add (pe_op op_fdiv (pv 4) pe_int) pe_int)) pa_nil)) pe_int))
    (pss_one (ps_ret (pe_op op_mod (pe_callTy call_int1 (by rfl) T.t_int (by decide +kernel) (pa_cons (pe_op op_fdiv (pv 4) pe_int) pa_nil)) (pv 1)))))))))), ?_⟩
    refine ⟨fun σ G => (∃ v, σ = [some (.ref a), some (.int m), v, none, none]) ∧ But a H G ∧ ∃ x1 x2 x3, TpF G a c ns x1 x2 x3 x4, ?_, ?_⟩
    · refine ⟨_, rfl, a, _, 2, _, rfl, rfl, SqL.of fa, rfl, rfl, _, rfl, ?_⟩
      by_cases h2 : x2 = 0
      case neg => exact itf (decide_eq_false fun q => h2 (V.int.inj q)) (iteF ⟨⟨_, rfl⟩, But.refl, x1, x2, x3, f⟩)
      refine itt (decide_eq_true (by rw [h2])) ⟨_, rfl, a, _, 1, _, rfl, rfl, SqL.of fa, rfl, _, rfl, a, _, 0, _, rfl, rfl, SqL.of fa, rfl, c, _, rfl, .inl (SqL.of fc), _, _, rfl, rfl, _, rfl, ?_⟩
      by_cases h1 : x1 < ((ns.map V.int).length : Int)
      case neg => exact itf (decide_eq_false h1) ⟨⟨_, rfl⟩, But.refl, x1, x2, x3, f⟩
      refine itt (decide_eq_true h1) ?_
      obtain ⟨j, rfl⟩ : ∃ j : Nat, x1 = (j : Int) := ⟨x1.toNat, by omega⟩
      have hj : j < ns.length := by rw [List.length_map] at h1; omega
      refine ⟨_, rfl, a, _, 0, _, rfl, rfl, SqL.of fa, rfl, _, rfl, a, _, 1, _, rfl, rfl, SqL.of fa, rfl, c, _, _, _, rfl, rfl, SqL.of fc, atI_nat (v := .int ns[j]) (by rw [List.getElem?_map, List.getElem?_eq_getElem hj]; rfl), ?_⟩
      generalize ns[j] = cell
      refine ⟨_, rfl, a, _, 1, _, rfl, rfl, SqL.of fa, rfl, _, _, rfl, rfl, _, rfl, a, _, 1, 1, rfl, rfl, fa, rfl, ?_⟩
      have b1 : But a H (upd H a (.lst ([.ref c, .int (j : Int), .int x2, .int x3, .int x4].set 1 (.int ((j : Int) + 1))))) := But.put
      have e1 : upd H a (.lst ([.ref c, .int (j : Int), .int x2, .int x3, .int x4].set 1 (.int ((j : Int) + 1)))) a = some (.lst [.ref c, .int ((j : Int) + 1), .int x2, .int x3, .int x4]) := upd_same
      generalize upd H a (.lst ([.ref c, .int (j : Int), .int x2, .int x3, .int x4].set 1 (.int ((j : Int) + 1)))) = H1 at b1 e1 ⊢
      refine ⟨_, rfl, a, _, 3, _, rfl, rfl, SqL.of e1, rfl, _, _, rfl, rfl, .inr (by decide), _, rfl, _, _, rfl, rfl, _, _, rfl, rfl, .inl ⟨_, rfl, _, _, rfl, rfl, by show (0 : Int) < 2147483629; decide, ?_⟩⟩
      refine ⟨_, rfl, a, _, 3, 3, rfl, rfl, e1, rfl, ?_⟩
      have q1 : (0 : Int) ≤ (j : Int) + 1 := by omega
      generalize ((j : Int) + 1) = x1' at e1 b1 q1 ⊢
      have ec : H1 c = some (.lst (ns.map V.int)) := b1 _ _ cne fc
      have b2 : But a H (upd H1 a (.lst ([.ref c, .int x1', .int x2, .int x3, .int x4].set 3 (.int ((x3 * 69621 + cell + 11) % 2147483629))))) := b1.trans But.put
      have e2 : upd H1 a (.lst ([.ref c, .int x1', .int x2, .int x3, .int x4].set 3 (.int ((x3 * 69621 + cell + 11) % 2147483629)))) a = some (.lst [.ref c, .int x1', .int x2, .int ((x3 * 69621 + cell + 11) % 2147483629), .int x4]) := upd_same
      have ec2 : upd H1 a (.lst ([.ref c, .int x1', .int x2, .int x3, .int x4].set 3 (.int ((x3 * 69621 + cell + 11) % 2147483629)))) c = some (.lst (ns.map V.int)) := by rw [upd_ne cne]; exact ec
      refine ⟨_, rfl, _, _, rfl, rfl, ⟨by decide, by decide, by decide⟩, _, _, rfl, rfl, _, rfl, ?_⟩
      by_cases hc : cell ≥ 10 ^ (18 : Int).toNat
      · exact itt (decide_eq_true hc) ⟨_, rfl, _, rfl, a, _, 2, 2, rfl, rfl, e2, rfl, ⟨_, rfl⟩, b2.trans But.put, _, _, _, upd_same, by rw [upd_ne cne]; exact ec2, q1⟩
      · exact itf (decide_eq_false hc) ⟨⟨_, rfl⟩, b2, _, _, _, e2, ec2, q1⟩
    · rintro σ G ⟨⟨v, rfl⟩, bG, y1, y2, y3, g⟩
      have ga := g.at_
      refine ⟨_, rfl, a, _, 2, _, rfl, rfl, SqL.of ga, rfl, _, _, rfl, rfl, _, rfl, ?_⟩
      by_cases h2 : y2 > 0
      · refine itt (decide_eq_true h2) ⟨_, rfl, a, _, 2, _, rfl, rfl, SqL.of ga, rfl, .inl ⟨_, rfl, _, rfl, _, _, rfl, rfl, m0, ?_⟩⟩
        refine ⟨_, rfl, a, _, 2, _, rfl, rfl, SqL.of ga, rfl, _, rfl, _, _, rfl, rfl, ⟨m0, by omega⟩, _, rfl, a, _, 2, 2, rfl, rfl, ga, rfl, ?_⟩
        refine ⟨_, rfl, k _ _ (bG.trans But.put) ⟨ns, _, _, _, _, upd_same, by rw [upd_ne cne]; exact g.cells, g.p1⟩ (Int.emod_nonneg _ (by omega)) (Int.emod_lt_of_pos _ m0)⟩
      refine itf (decide_eq_false h2) ⟨_, rfl, a, _, 4, _, rfl, rfl, SqL.of ga, rfl, _, _, rfl, rfl, _, rfl, a, _, 4, 4, rfl, rfl, ga, rfl, ?_⟩
      have b1 : But a H (upd G a (.lst ([.ref c, .int y1, .int y2, .int y3, .int x4].set 4 (.int (x4 + 1))))) := bG.trans But.put
      have e1 : upd G a (.lst ([.ref c, .int y1, .int y2, .int y3, .int x4].set 4 (.int (x4 + 1)))) a = some (.lst [.ref c, .int y1, .int y2, .int y3, .int (x4 + 1)]) := upd_same
      have ec : upd G a (.lst ([.ref c, .int y1, .int y2, .int y3, .int x4].set 4 (.int (x4 + 1)))) c = some (.lst (ns.map V.int)) := by rw [upd_ne cne]; exact g.cells
      generalize upd G a (.lst ([.ref c, .int y1, .int y2, .int y3, .int x4].set 4 (.int (x4 + 1)))) = H1 at b1 e1 ec ⊢
      refine ⟨_, rfl, a, _, 3, _, rfl, rfl, SqL.of e1, rfl, _, rfl, a, _, 4, _, rfl, rfl, SqL.of e1, rfl, _, _, rfl, rfl, .inl (by decide), _, _, rfl, rfl, .inl ⟨_, rfl, _, _, rfl, rfl, .inr (by decide), .inl ⟨_, rfl, _, _, rfl, rfl, by show (0 : Int) < 2147483647; decide, ?_⟩⟩⟩
      have n1 : ∀ z : Int, 0 ≤ z % 2147483647 ∧ z % 2147483647 < 2147483647 := fun z => ⟨Int.emod_nonneg _ (by decide), Int.emod_lt_of_pos _ (by decide)⟩
      generalize hz1 : ((y3 + 7919 * (x4 + 1)) * 48271) % 2147483647 = z1
      have w1 := n1 ((y3 + 7919 * (x4 + 1)) * 48271)
      rw [hz1] at w1
      refine ⟨_, rfl, _, rfl, _, _, rfl, rfl, ⟨by decide, by decide⟩, _, _, rfl, rfl, _, _, rfl, rfl, .inl ⟨by omega, by omega⟩, .inl ⟨_, rfl, _, _, rfl, rfl, by show (0 : Int) < 2147483647; decide, ?_⟩⟩
      generalize hz2 : (z1 * (z1 / 1009 + 69621)) % 2147483647 = z2
      have w2 := n1 (z1 * (z1 / 1009 + 69621))
      rw [hz2] at w2
      refine ⟨_, rfl, _, rfl, _, _, rfl, rfl, ⟨by decide, by decide⟩, _, _, rfl, rfl, _, _, rfl, rfl, .inl ⟨by omega, by omega⟩, .inl ⟨_, rfl, _, _, rfl, rfl, by show (0 : Int) < 2147483399; decide, ?_⟩⟩
      refine ⟨_, rfl, _, _, rfl, rfl, ⟨by decide, by decide⟩, .inl ⟨_, rfl, _, rfl, _, _, rfl, rfl, m0, ?_⟩⟩
      exact k _ _ b1 ⟨ns, _, _, _, _, e1, ec, g.p1⟩ (Int.emod_nonneg _ (by omega)) (Int.emod_lt_of_pos _ m0)
/-! ### one of the things -/
abbrev nm__law_any : List Str := ["tape", "things"]
theorem sc__law_any : FnScope nm__law_any ["tape", "things"] (defScope s__law_any) := ⟨rfl, rfl, rfl, by decide +kernel, rfl, by decide +kernel, by decide +kernel⟩
def sp__law_any (K : PySem.W.Frag) : Sp := fun vs H Q _ => ∃ (a c p : Addr) (xs : List V), vs = [.ref a, .ref p] ∧ TapeAt H a c ∧ (∀ G, But a H G → SqL K G p xs ∨ SqT K G p xs) ∧ 0 < xs.length ∧ xs.length < 1000000 ∧ ∀ G v, But a H G → TapeAt G a c → v ∈ xs → Q v G
theorem ok__law_any (T : Tx K mg) : FnOk P w K mg base CX0 2 T.f__law_any T.d__law_any ["tape", "things"] (sp__law_any K) := by
  refine T.F__law_any.ok sc__law_any (fun vs H Q E h => ?_) (fun cdv A outer s H vs Q E hr h => ?_)
  · obtain ⟨a, c, p, xs, rfl, _⟩ := h
    rfl
  · obtain ⟨a, c, p, xs, rfl, ta, st, l0, l1, k⟩ := h
    refine ⟨_, (pss_one (ps_ret (pe_ix ix_seq (pv 1) (pe_call (ok__law_pick T) (hr.mono (by decide)) (by rfl) T.m__law_pick T.F__law_pick.kp T.b__law_pick .nil pass0 (pa_cons (pv 0) (pa_cons (pe_callB (cLen (K := K) rfl) (by rfl) T.t_len (by decide +kernel) (pa_cons (pv 1) pa_nil)) pa_nil))) (fun _ _ => rfl)))), ?_⟩
    refine ⟨_, rfl, _, rfl, _, rfl, p, xs, rfl, st H But.refl, a, c, _, rfl, ta, by omega, by omega, fun G i bG tG i0 i1 => ?_⟩
    obtain ⟨j, rfl⟩ : ∃ j : Nat, i = (j : Int) := ⟨i.toNat, by omega⟩
    have hj : j < xs.length := by omega
    have ej : xs[j]? = some xs[j] := List.getElem?_eq_getElem hj
    rcases st G bG with h | h
    · exact .inl ⟨p, _, _, _, rfl, rfl, h, atI_nat ej, k _ _ bG tG (List.mem_of_getElem? ej)⟩
    · exact .inr (.inl ⟨p, _, _, _, rfl, rfl, h, atI_nat ej, k _ _ bG tG (List.mem_of_getElem? ej)⟩)
end
end T82
namespace T82
open PySem L2
section
variable {P : Program} {w : World} {K : PySem.W.Frag} {mg : Str → Option Value} {base : Heap}
/-! ### mixed -/
theorem seq_nat {n j : Nat} (h : j < n) : seqIndex? (j : Int) n = some j := by
  refine (ixN_seq ?_).1
  unfold ixN
  rw [if_pos (by omega), if_pos (by omega)]
  simp
theorem erase_perm {α : Type} : ∀ {ls : List α} {j : Nat} (hj : j < ls.length), (ls[j] :: ls.eraseIdx j).Perm ls
  | x :: xs, 0, _ => .refl _
  | x :: xs, j + 1, h => (List.Perm.swap _ _ _).trans ((erase_perm (ls := xs) (j := j) (by simpa using h)).cons x)
theorem perm_take {xs ls fs : List V} {j : Nat} (hj : j < ls.length) (h : (fs ++ ls).Perm xs) : ((fs ++ [ls[j]]) ++ ls.eraseIdx j).Perm xs := by
  refine List.Perm.trans ?_ h
  rw [List.append_assoc]
  refine List.Perm.append_left fs ?_
  exact erase_perm hj
abbrev nm__law_mixed : List Str := ["tape", "things", "left", "found"]
theorem sc__law_mixed : FnScope nm__law_mixed ["tape", "things"] (defScope s__law_mixed) := ⟨rfl, rfl, rfl, by decide +kernel, rfl, by decide +kernel, by decide +kernel⟩
def sp__law_mixed (K : PySem.W.Frag) : Sp := fun vs H Q _ => ∃ (a c p : Addr) (xs : List V), vs = [.ref a, .ref p] ∧ TapeAt H a c ∧ (SqL K H p xs ∨ SqT K H p xs) ∧ xs.length < 1000000 ∧ ∀ G q ys, But a H G → TapeAt G a c → ys.Perm xs → H q = none → G q = some (.lst ys) → Q (.ref q) G
theorem ok__law_mixed (T : Tx K mg) : FnOk P w K mg base CX0 2 T.f__law_mixed T.d__law_mixed ["tape", "things"] (sp__law_mixed K) := by
  refine T.F__law_mixed.ok sc__law_mixed (fun vs H Q E h => ?_) (fun cdv A outer s H vs Q E hr h => ?_)
  · obtain ⟨a, c, p, xs, rfl, _⟩ := h
    rfl
  · obtain ⟨a, c, p, xs, rfl, ta, sp, lx, k⟩ := h
    refine ⟨_, (pss_cons (ps_par (i := 2) (j := 3) rfl sc__law_mixed.nd rfl rfl (by decide) rfl rfl (pa_cons (pe_callTy (tList (K := K) rfl) (by rfl) T.t_list (by decide +kernel) (pa_cons (pv 1) pa_nil)) (pa_cons (pe_lst pa_nil) pa_nil)) (by rfl))
    (pss_cons (ps_while PassesOwn.never (pt_cmpR op_gt (pe_callB (cLen (K := K) rfl) (by rfl) T.t_len (by decide +kernel) (pa_cons (pv 2) pa_nil)) pe_int (nomark _))
      (pss_one (ps_expr (pe_bm PySem.F.plainAttrs_list PySem.F.slot_list_append PySem.F.type_list_append mt_append (pv 3) (pa_cons (pe_bm PySem.F.plainAttrs_list PySem.F.slot_list_pop PySem.F.type_list_pop mt_popAt (pv 2) (pa_cons (pe_call (ok__law_pick T) (hr.mono (by decide)) (by rfl) T.m__law_pick T.F__law_pick.kp T.b__law_pick .nil pass0 (pa_cons (pv 0) (pa_cons (pe_callB (cLen (K := K) rfl) (by rfl) T.t_len (by decide +kernel) (pa_cons (pv 2) pa_nil)) pa_nil))) pa_nil)) pa_nil)))))
    (pss_one (ps_ret (pv 3))))), ?_⟩
    refine ⟨_, rfl, p, _, rfl, sp, fun l hl => ?_⟩
    have s1 := sn (o := .lst xs) hl
    have e1 : upd H l (.lst xs) l = some (.lst xs) := upd_same
    generalize upd H l (.lst xs) = H1 at s1 e1 ⊢
    refine ⟨by show 0 ≤ sizeLine; decide, fun f hf => ?_⟩
    have s2 := sn (o := .lst []) hf
    have e2 : upd H1 f (.lst []) f = some (.lst []) := upd_same
    generalize upd H1 f (.lst []) = H2 at s2 e2 ⊢
    have e12 := s2 _ _ e1
    have s12 := s1.trans s2
    have lf : l ≠ f := fun z => by rw [z, hf] at e1; cases e1
    have nf : H f = none := by
      cases e : H f with
      | none => rfl
      | some u => rw [s1 _ _ e] at hf; cases hf
    obtain ⟨al, cl⟩ := ta.new hl
    obtain ⟨af, cf⟩ := ta.new nf
    refine ⟨_, _, rfl, ?_⟩
    refine ⟨fun m σ G => σ = [some (.ref a), some (.ref p), some (.ref l), some (.ref f)] ∧ But a H G ∧ TapeAt G a c ∧ ∃ ls fs, ls.length = m ∧ G l = some (.lst ls) ∧ G f = some (.lst fs) ∧ (fs ++ ls).Perm xs, ⟨_, rfl, .of s12, ta.mono s12, xs, [], rfl, e12, e2, by simp⟩, ?_⟩
    rintro m σ G ⟨rfl, bG, tG, ls, fs, rfl, el, ef, pm⟩
    refine ⟨_, rfl, l, _, rfl, .inl (SqL.of el), _, _, rfl, rfl, _, rfl, ?_⟩
    have pml := pm.length_eq
    rw [List.length_append] at pml
    by_cases h0 : (ls.length : Int) > 0
    case neg =>
      rw [decide_eq_false h0]
      have : ls = [] := List.eq_nil_of_length_eq_zero (by omega)
      subst this
      rw [List.append_nil] at pm
      exact ⟨_, rfl, k G f fs bG tG pm nf ef⟩
    rw [decide_eq_true h0]
    refine ⟨fun σ' G' => ∃ m', m' < ls.length ∧ (σ' = [some (.ref a), some (.ref p), some (.ref l), some (.ref f)] ∧ But a H G' ∧ TapeAt G' a c ∧ ∃ ls fs, ls.length = m' ∧ G' l = some (.lst ls) ∧ G' f = some (.lst fs) ∧ (fs ++ ls).Perm xs), fun _ _ h => h, ?_⟩
    refine ⟨_, rfl, .inl ⟨rfl, _, SqL.of ef⟩, _, rfl, .inl ⟨rfl, _, SqL.of el⟩, _, rfl, _, rfl, l, _, rfl, .inl (SqL.of el), a, c, _, rfl, tG, by omega, by omega, fun G1 i b1 t1 i0 i1 => ?_⟩
    obtain ⟨j, rfl⟩ : ∃ j : Nat, i = (j : Int) := ⟨i.toNat, by omega⟩
    have hj : j < ls.length := by omega
    have el1 := b1 _ _ al el
    have ef1 := b1 _ _ af ef
    refine ⟨l, ls, _, j, ls[j], rfl, rfl, el1, by omega, by omega, seq_nat hj, List.getElem?_eq_getElem hj, ?_⟩
    have bl : But a H (upd G1 l (.lst (ls.eraseIdx j))) := fun c u ne e => by
      rw [upd_ne (ne_of_none e hl)]
      exact b1 _ _ ne (bG _ _ ne e)
    refine ⟨f, fs, _, rfl, rfl, by rw [upd_ne lf.symm]; exact ef1, by rw [sizeLine_eq]; omega, ?_⟩
    refine ⟨_, Nat.lt_of_lt_of_le (Nat.sub_lt (by omega) Nat.one_pos) (Nat.le_refl _), rfl, fun c u ne e => by rw [upd_ne (ne_of_none e nf)]; exact bl _ _ ne e, (t1.upd al cl).upd af cf, ls.eraseIdx j, fs ++ [ls[j]], List.length_eraseIdx_of_lt hj, by rw [upd_ne lf, upd_same], upd_same, perm_take hj pm⟩
end
end T82
/-! ### data displayed in the text -/
namespace T82
open PySem L2
def tD (K : PySem.W.Frag) (d : PyData) : TE := fun _ H Q => ∀ G v, Same H G → Im K G d v → Q v G
def tDs (K : PySem.W.Frag) (ds : List PyData) : TA := fun _ H Q => ∀ G vs, Same H G → ImAll K G ds vs → Q vs G
theorem peW {X : Cx} {e : Expr} {t t' : TE} (h : PE X e t) (w : ∀ σ H Q, t' σ H Q → t σ H Q) : PE X e t' := ⟨fun pins s σ H Q I q => h.run pins s σ H Q I (w _ _ _ q)⟩
theorem paW {X : Cx} {e : List Expr} {t t' : TA} (h : PA X e t) (w : ∀ σ H Q, t' σ H Q → t σ H Q) : PA X e t' := ⟨fun pos pins s σ H Q I q => h.run pos pins s σ H Q I (w _ _ _ q)⟩
section
variable {X : Cx} {K : PySem.W.Frag}
theorem pd_str {x j pos} : PE X (.Constant (.str x) j pos) (tD K (.str x)) := peW pe_str fun _ H _ h => h H _ (Same.refl _) im_str
theorem pd_int {x j pos} : PE X (.Constant (.int x) j pos) (tD K (.int x)) := peW pe_int fun _ H _ h => h H _ (Same.refl _) im_int
theorem pd_non {j pos} : PE X (.Constant .none j pos) (tD K .none) := peW pe_non fun _ H _ h => h H _ (Same.refl _) im_non
theorem pd_nil : PA X [] (tDs K []) := paW pa_nil fun _ H _ h => h H _ (Same.refl _) ia_nil
theorem pd_cons {e : Expr} {es : List Expr} {d : PyData} {ds : List PyData} (he : PE X e (tD K d)) (hes : PA X es (tDs K ds)) (hs : starEach (e :: es) X.env = (false, eval e X.env) :: starEach es X.env := by rfl) : PA X (e :: es) (tDs K (d :: ds)) :=
  paW (pa_cons he hes hs) fun _ _ _ h G v s1 iv G2 vs s2 ivs => h G2 (v :: vs) (s1.trans s2) (ia_cons (Im.mono (sk s2) _ _ iv) ivs)
theorem pd_tup {es : List Expr} {ds : List PyData} {x1 pos} (hes : PA X es (tDs K ds)) (len : ds.length ≤ 1000 := by decide) : PE X (.Tuple es x1 pos) (tD K (.tuple ds)) :=
  peW (pe_tup hes) fun _ _ _ h G vs s1 ivs => ⟨by rw [ivs.len, sizeLine_eq]; omega, fun p hp => h _ _ (s1.trans (sn hp)) (im_tup (.inl (.inl upd_same)) (ImAll.mono (sk (sn hp)) _ _ ivs))⟩
end
section
variable {X : Cx} {K : PySem.W.Frag} (e : X.K = K)
include e
theorem oInD (hu : X.A.units + 65 < cLine) : OpR X (compareOp .In) (rInD K) := by subst e; exact op_inD hu
end
end T82
namespace T82
open PySem L2
/-! ### the drawn doors -/
def hAsk : Hd := ⟨"ask", ["s"], "bit"⟩
def hA : Hd := ⟨"a", [], "s"⟩
def hF : Hd := ⟨"f", ["s"], "s"⟩
def hG : Hd := ⟨"g", ["s", "bit"], "s"⟩
def hM : Hd := ⟨"m", ["bit"], "s"⟩
def hB : Hd := ⟨"b", ["s"], "t"⟩
def hTell : Hd := ⟨"tell", ["t", "bit"], "bit"⟩
def pool : List Hd := [hA, hF, hG, hM]
def tailH : List Hd := [hB, hTell]
structure Drawn (d : Dor) : Prop where
  some_ : ∃ hs : List Hd, d.heads.Perm (hAsk :: hs) ∧ ((d.sealed = [("s" : Str)] ∧ hs.Sublist pool) ∨ (d.sealed = [("s" : Str), ("t" : Str)] ∧ hs.Sublist (pool ++ tailH)))
  law : d.law = true → hF ∈ d.heads
def partsD (d : Dor) : PyData := .tuple [wordsD, d.sealedD, d.headsD, d.lawsD]
theorem good_by {d : Dor} {all : List Hd} (D : Drawn d) {hs : List Hd} (pm : d.heads.Perm (hAsk :: hs)) (sub : hs.Sublist all) (fin : all.length ≤ 6)
    (chk : ∀ h ∈ hAsk :: all, nameB h.name = true ∧ h.name.length ≤ 100000 ∧ h.name ≠ "no" ∧ h.name ≠ "yes" ∧ h.kinds.length ≤ 3 ∧ ∀ k ∈ h.kinds ++ [h.kind], k ∈ ("bit" : Str) :: d.sealed) (nd : ((hAsk :: all).map Hd.name).Nodup)
    (s1 : 1 ≤ d.sealed.length) (s2 : d.sealed.length ≤ 3) (s3 : ∀ z ∈ d.sealed, okName z) (s4 : (("bit" : Str) :: d.sealed).Nodup) : d.good := by
  have mem : ∀ h ∈ d.heads, h ∈ hAsk :: all := fun h hh => by
    have := pm.mem_iff.mp hh
    exact (sub.cons_cons hAsk).subset this
  have len := pm.length_eq
  have sl := sub.length_le
  refine ⟨s1, s2, s3, s4, by rw [len]; simp, by rw [len]; simp; omega, fun h hh => ?_, fun h hh => (chk h (mem h hh)).2.2.2.2.2, ?_, fun hl => ⟨pm.mem_iff.mpr List.mem_cons_self, D.law hl⟩⟩
  · obtain ⟨a, b, c, e, f, _⟩ := chk h (mem h hh)
    exact ⟨⟨a, b⟩, c, e, f⟩
  · exact (pm.map Hd.name).nodup_iff.mpr (((sub.cons_cons hAsk).map Hd.name).nodup nd)
theorem Drawn.good {d : Dor} (D : Drawn d) : d.good := by
  obtain ⟨hs, pm, ⟨es, sub⟩ | ⟨es, sub⟩⟩ := D.some_
  · refine good_by D pm sub (by decide) ?_ (by decide +kernel) (by rw [es]; decide) (by rw [es]; decide) ?_ (by rw [es]; decide +kernel)
    · rw [es]
      decide +kernel
    · rw [es]
      unfold okName
      decide +kernel
  · refine good_by D pm sub (by decide) ?_ (by decide +kernel) (by rw [es]; decide) (by rw [es]; decide) ?_ (by rw [es]; decide +kernel)
    · rw [es]
      decide +kernel
    · rw [es]
      unfold okName
      decide +kernel
section
variable {P : Program} {w : World} {K : PySem.W.Frag} {mg : Str → Option Value} {base : Heap}
theorem units65 {k : Nat} {A : Around} (r : Room k A) : A.units + 65 < cLine := by
  have := r.un
  omega
/-- all but at two places is as it was -/
def But2 (D E : Addr) (H H' : Hp) : Prop := ∀ b o, b ≠ D → b ≠ E → H b = some o → H' b = some o
/-- the heads gathered so far -/
structure HeadsF (K : PySem.W.Frag) (G : Hp) (a p : Addr) (all : List Hd) (hs : List Hd) (vs : List V) : Prop where
  ne : p ≠ a
  at_ : G p = some (.lst vs)
  im : ImAll K G ((hAsk :: hs).map Hd.d) vs
  sub : hs.Sublist all
theorem HeadsF.mono {G G' : Hp} {a p : Addr} {all hs : List Hd} {vs : List V} (f : HeadsF K G a p all hs vs) {c : Addr} (t : TapeAt G a c) (b : But a G G') : HeadsF K G' a p all hs vs := ⟨f.ne, b _ _ f.ne f.at_, ImAll.mono (b.keep t.notup) _ _ f.im, f.sub⟩
theorem eqv_f : ∀ h ∈ hAsk :: (pool ++ tailH), PyData.eqv h.d hF.d = true → h = hF := by
  intro h hh
  simp only [pool, tailH, List.cons_append, List.nil_append, List.mem_cons, List.not_mem_nil, or_false] at hh
  rcases hh with rfl | rfl | rfl | rfl | rfl | rfl | rfl <;> first | (intro _; rfl) | (intro e; exact absurd e (by decide +kernel))
theorem shaped_all : ∀ h ∈ hAsk :: (pool ++ tailH), h.d.canLay0 = true ∧ h.d.depth ≤ 2 := by decide +kernel
theorem im_perm {α : Type} {f : α → PyData} {H : Hp} {ys zs : List V} (pm : zs.Perm ys) : ∀ {as : List α}, ImAll K H (as.map f) ys → ∃ bs : List α, bs.Perm as ∧ ImAll K H (bs.map f) zs := by
  induction pm with
  | nil => exact fun {as} h => ⟨as, .refl _, h⟩
  | @cons x l1 l2 _ ih =>
    intro as h
    cases as with
    | nil => have := h.nil_; cases this
    | cons a as =>
      obtain ⟨v, vs, e, h1, h2⟩ := ImAll.cons_ h
      cases e
      obtain ⟨bs, p, q⟩ := ih h2
      exact ⟨a :: bs, p.cons a, ia_cons h1 q⟩
  | swap x y l =>
    intro as h
    cases as with
    | nil => have := h.nil_; cases this
    | cons a as =>
      obtain ⟨v, vs, e, h1, h2⟩ := ImAll.cons_ h
      cases e
      cases as with
      | nil => have := h2.nil_; cases this
      | cons b as =>
        obtain ⟨v, vs, e, h3, h4⟩ := ImAll.cons_ h2
        cases e
        exact ⟨b :: a :: as, .swap a b as, ia_cons h3 (ia_cons h1 h4)⟩
  | trans _ _ ih1 ih2 =>
    intro as h
    obtain ⟨bs, p, q⟩ := ih2 h
    obtain ⟨cs, p', q'⟩ := ih1 q
    exact ⟨cs, p'.trans p, q'⟩
theorem heads_shaped {hs : List Hd} (h : hs.Sublist (pool ++ tailH)) : SeqAt.shaped (PyData.list ((hAsk :: hs).map Hd.d)) = true := by
  have m : ∀ x ∈ hAsk :: hs, x.d.canLay0 = true ∧ x.d.depth ≤ 2 := fun x hx => shaped_all x ((h.cons_cons hAsk).subset hx)
  unfold SeqAt.shaped
  rw [canLay_lst (canLay_map fun x hx => (m x hx).1), Bool.true_and, decide_eq_true_eq]
  have := depth_map (f := Hd.d) (n := 2) (as := hAsk :: hs) fun x hx => (m x hx).2
  simp only [PyData.depth]
  omega
abbrev nm__law_parts : List Str := ["tape", "pool", "heads", "sealed", "laws", "head"]
theorem sc__law_parts : FnScope nm__law_parts ["tape"] (defScope s__law_parts) := ⟨rfl, rfl, rfl, by decide +kernel, rfl, by decide +kernel, by decide +kernel⟩
def sp__law_parts (K : PySem.W.Frag) : Sp := fun vs H Q _ => ∃ (a c : Addr), vs = [.ref a] ∧ TapeAt H a c ∧ ∀ G v d, But a H G → TapeAt G a c → Drawn d → Im K G (partsD d) v → Q v G
theorem ok__law_parts (T : Tx K mg) : FnOk P w K mg base CX0 3 T.f__law_parts T.d__law_parts ["tape"] (sp__law_parts K) := by
  refine T.F__law_parts.ok sc__law_parts (fun vs H Q E h => ?_) (fun cdv A outer s H vs Q E hr h => ?_)
  · obtain ⟨a, c, rfl, _⟩ := h
    rfl
  · obtain ⟨a, c, rfl, ta, k⟩ := h
    refine ⟨_, (pss_cons (ps_set (i := 1) sc__law_parts.nd rfl (.inl rfl) (pe_lst (pd_cons (K := K) (pd_tup (pd_cons pd_str (pd_cons (pd_tup pd_nil) (pd_cons pd_str pd_nil)))) (pd_cons (pd_tup (pd_cons pd_str (pd_cons (pd_tup (pd_cons pd_str pd_nil)) (pd_cons pd_str pd_nil)))) (pd_cons (pd_tup (pd_cons pd_str (pd_cons (pd_tup (pd_cons pd_str (pd_cons pd_str pd_nil))) (pd_cons pd_str pd_nil)))) (pd_cons (pd_tup (pd_cons pd_str (pd_cons (pd_tup (pd_cons pd_str pd_nil)) (pd_cons pd_str pd_nil)))) pd_nil))))))
    (pss_cons (ps_set (i := 2) sc__law_parts.nd rfl (.inl rfl) (pe_op op_cat (pe_lst (pd_cons (K := K) (pd_tup (pd_cons pd_str (pd_cons (pd_tup (pd_cons pd_str pd_nil)) (pd_cons pd_str pd_nil)))) pd_nil)) (pe_lc (own := [("head", 5)]) (g := gName 5) (tt := _) rfl sc__law_parts.nd (wL (K := K) rfl (pv 1)) (blkOk_by (N := nm__law_parts) (sc := defScope s__law_parts) (by decide +kernel)) (fun _ _ _ _ _ => (pg_name (i := 5) sc__law_parts.nd rfl (Or.inl rfl))) (fun _ _ _ _ _ => pts_one (pt_cmpR op_eq (pe_call (ok__law_pick T) (hr.mono (by decide)) (by rfl) T.m__law_pick T.F__law_pick.kp T.b__law_pick .nil pass0 (pa_cons (pv 0) (pa_cons pe_int pa_nil))) pe_int (nomark _))) (fun _ _ _ _ _ => (pv 5)))))
    (C8.pss_cut (ps_if (pt_cmpR op_eq (pe_callB (cLen (K := K) rfl) (by rfl) T.t_len (by decide +kernel) (pa_cons (pv 2) pa_nil)) pe_int (nomark _)) (pss_one (ps_expr (pe_bm PySem.F.plainAttrs_list PySem.F.slot_list_append PySem.F.type_list_append mt_append (pv 2) (pa_cons (pd_tup (K := K) (pd_cons pd_str (pd_cons (pd_tup (pd_cons pd_str pd_nil)) (pd_cons pd_str pd_nil)))) pa_nil)))) pss_nil)
    (pss_cons (ps_set (i := 3) sc__law_parts.nd rfl (.inl rfl) (pd_tup (K := K) (pd_cons pd_str pd_nil)))
    (C8.pss_cut (ps_if (pt_cmpR op_eq (pe_call (ok__law_pick T) (hr.mono (by decide)) (by rfl) T.m__law_pick T.F__law_pick.kp T.b__law_pick .nil pass0 (pa_cons (pv 0) (pa_cons pe_int pa_nil))) pe_int (nomark _)) (pss_cons (ps_set (i := 3) sc__law_parts.nd rfl (.inl rfl) (pd_tup (K := K) (pd_cons pd_str (pd_cons pd_str pd_nil))))
      (pss_one (ps_set (i := 2) sc__law_parts.nd rfl (.inl rfl) (pe_op op_cat (pv 2) (pe_lst (pd_cons (K := K) (pd_tup (pd_cons pd_str (pd_cons (pd_tup (pd_cons pd_str pd_nil)) (pd_cons pd_str pd_nil)))) (pd_cons (pd_tup (pd_cons pd_str (pd_cons (pd_tup (pd_cons pd_str (pd_cons pd_str pd_nil))) (pd_cons pd_str pd_nil)))) pd_nil))))))) pss_nil)
    (pss_cons (ps_set (i := 4) sc__law_parts.nd rfl (.inl rfl) (pd_tup (K := K) pd_nil))
    (C8.pss_cut (ps_if (PW.pt (pw_and (pt_cmpR (oInD (K := K) rfl (units65 hr)) (pd_tup (K := K) (pd_cons pd_str (pd_cons (pd_tup (pd_cons pd_str pd_nil)) (pd_cons pd_str pd_nil)))) (pv 2) rfl) (pw_and1 (pt_cmpR op_eq (pe_call (ok__law_pick T) (hr.mono (by decide)) (by rfl) T.m__law_pick T.F__law_pick.kp T.b__law_pick .nil pass0 (pa_cons (pv 0) (pa_cons pe_int pa_nil))) pe_int (nomark _))))) (pss_one (ps_set (i := 4) sc__law_parts.nd rfl (.inl rfl) (pd_tup (K := K) (pd_cons (pd_tup (pd_cons (pd_tup (pd_cons pd_str (pd_cons (pd_tup (pd_cons pd_str (pd_cons (pd_tup (pd_cons pd_str (pd_cons pd_int pd_nil))) pd_nil))) pd_nil))) (pd_cons pd_str pd_nil))) pd_nil)))) pss_nil)
    (pss_one (ps_ret (pe_tup (pa_cons (pd_tup (K := K) (pd_cons (pd_tup (pd_cons pd_str (pd_cons (pd_tup (pd_cons pd_str (pd_cons pd_str pd_nil))) pd_nil))) pd_nil)) (pa_cons (pv 3) (pa_cons (pe_callTy (tTup (K := K) rfl) (by rfl) T.t_tuple (by decide +kernel) (pa_cons (pe_call (ok__law_mixed T) (hr.mono (by decide)) (by rfl) T.m__law_mixed T.F__law_mixed.kp T.b__law_mixed .nil pass0 (pa_cons (pv 0) (pa_cons (pv 2) pa_nil))) pa_nil)) (pa_cons (pv 4) pa_nil)))))))))))))), ?_⟩
    intro G1 vs s1 iv
    refine ⟨by rw [iv.len, sizeLine_eq]; decide, fun pl hpl => ?_⟩
    have s2 := sn (o := .lst vs) hpl
    have e2 : upd G1 pl (.lst vs) pl = some (.lst vs) := upd_same
    have iv2 := ImAll.mono (sk s2) _ _ iv
    generalize upd G1 pl (.lst vs) = G2 at s2 e2 iv2 ⊢
    have s02 := s1.trans s2
    have pla := ((ta.mono s1).new hpl).1
    clear s1 s2 iv hpl
    intro G3 ws s3 iw
    refine ⟨by rw [iw.len, sizeLine_eq]; decide, fun l1 hl1 => ?_⟩
    have s4 := sn (o := .lst ws) hl1
    have e4 : upd G3 l1 (.lst ws) l1 = some (.lst ws) := upd_same
    have iw4 := ImAll.mono (sk s4) _ _ iw
    generalize upd G3 l1 (.lst ws) = G4 at s4 e4 iw4 ⊢
    have s24 := s3.trans s4
    have l1a := ((ta.mono (s02.trans s3)).new hl1).1
    have s04 := s02.trans s24
    have e24 := s24 _ _ e2
    have iv4 := ImAll.mono (sk s24) _ _ iv2
    have ta4 := ta.mono s04
    have vl : vs.length = pool.length := iv4.len
    refine ⟨_, rfl, pl, rfl, ⟨_, SqL.of e24⟩, fun D hD => lc_it (walk_list (K := K) (a := pl) (xs := vs)) (fun i G => But2 a D G4 G ∧ TapeAt G a c ∧ ∃ (hs : List Hd) (us : List V), hs.Sublist (pool.take i) ∧ G D = some (.lst us) ∧ ImAll K G (hs.map Hd.d) us) ?_ ?_ ?_ ?_⟩
    · obtain ⟨n1, n2⟩ := ta4.new hD
      exact ⟨fun b o _ ne e => by rw [upd_ne ne]; exact e, ta4.upd n1 n2, [], [], by simp, upd_same, ia_nil⟩
    · rintro i G _ ⟨b2, _⟩
      exact SqL.of (b2 _ _ pla (ne_of_none e24 hD) e24)
    · rintro i x G G' hi ⟨b2, tG, hs, us, sub, eD, ius⟩ ⟨rfl, hx⟩
      obtain ⟨n1, n2⟩ := ta4.new hD
      have hip : i < pool.length := by omega
      have kp : Keep G4 G' := fun b xs r => by
        have nb : b ≠ a := fun e => ta4.notup xs (e ▸ r)
        have nd : b ≠ D := fun e => notup_none hD xs (e ▸ r)
        rcases r with r | ⟨o, r⟩
        · exact .inl (b2 _ _ nb nd r)
        · exact .inr ⟨o, b2 _ _ nb nd r⟩
      obtain ⟨x', ex, ix⟩ := iv4.get (i := i) (d := pool[i].d) (by rw [show [PyData.tuple [.str "a", .tuple [], .str "s"], .tuple [.str "f", .tuple [.str "s"], .str "s"], .tuple [.str "g", .tuple [.str "s", .str "bit"], .str "s"], .tuple [.str "m", .tuple [.str "bit"], .str "s"]] = pool.map Hd.d from rfl, List.getElem?_map, List.getElem?_eq_getElem hip]; rfl)
      rw [hx] at ex
      cases ex
      have ix := Im.mono kp _ _ ix
      refine ⟨rfl, _, rfl, a, c, 2, rfl, tG, by decide, by decide, fun G1 n b1 t1 n0 n1' => ⟨rfl, _, rfl, ?_⟩⟩
      have kp1 : Keep G' G1 := b1.keep tG.notup
      have eD1 := b1 _ _ n1 eD
      have bb : But2 a D G4 G1 := fun b o h1 h2 e => b1 _ _ h1 (b2 _ _ h1 h2 e)
      by_cases hn : n = 0
      · refine itt (decide_eq_true (by rw [hn])) ⟨_, rfl, us, eD1, ?_, fun b o h1 h2 e => by rw [upd_ne h2]; exact bb b o h1 h2 e, t1.upd n1 n2, hs ++ [pool[i]], us ++ [x], ?_, upd_same, ?_⟩
        · have := ius.len
          rw [List.length_map] at this
          have := sub.length_le
          rw [List.length_take] at this
          have : us.length ≤ 4 := by
            have e4 : pool.length = 4 := rfl
            omega
          rw [sizeLine_eq]
          omega
        · rw [List.take_add_one, List.getElem?_eq_getElem hip]
          exact sub.append (List.Sublist.refl _)
        · have kp2 : Keep G1 (upd G1 D (.lst (us ++ [x]))) := Keep.upd (notup_lst eD1)
          rw [List.map_append]
          exact ImAll.app (ImAll.mono (kp1.trans kp2) _ _ ius) (ia_cons (Im.mono (kp1.trans kp2) _ _ ix) ia_nil)
      · refine itf (decide_eq_false fun q => hn (V.int.inj q)) ⟨bb, t1, hs, us, ?_, eD1, ImAll.mono kp1 _ _ ius⟩
        rw [List.take_add_one]
        exact sub.trans (List.sublist_append_left _ _)
    rintro G ⟨b2, tG, hs, us, sub, eD, ius⟩
    rw [vl, List.take_length] at sub
    have el1 : G l1 = some (.lst ws) := b2 _ _ l1a (ne_of_none e4 hD) e4
    have kp : Keep G4 G := fun b xs r => by
      have nb : b ≠ a := fun e => ta4.notup xs (e ▸ r)
      have nd : b ≠ D := fun e => notup_none hD xs (e ▸ r)
      rcases r with r | ⟨o, r⟩
      · exact .inl (b2 _ _ nb nd r)
      · exact .inr ⟨o, b2 _ _ nb nd r⟩
    have ul : us.length ≤ 4 := by
      have h1 := ius.len
      rw [List.length_map] at h1
      have h2 := sub.length_le
      have e4 : pool.length = 4 := rfl
      omega
    have wl : ws.length = 1 := iw4.len
    refine ⟨l1, D, _, _, rfl, rfl, el1, eD, by rw [sizeLine_eq]; omega, fun p hp => ?_⟩
    have bG : But a H G := fun b o ne e => b2 _ _ ne (ne_of_none (s04 _ _ e) hD) (s04 _ _ e)
    have s5 := sn (o := .lst (ws ++ us)) hp
    have hf5 : HeadsF K (upd G p (.lst (ws ++ us))) a p pool hs (ws ++ us) := ⟨(tG.new hp).1, upd_same, ImAll.mono (sk s5) _ _ (ImAll.app (ImAll.mono kp _ _ iw4) ius), sub⟩
    have t5 := tG.mono s5
    have b5 := bG.trans (.of s5)
    have pc := (tG.new hp).2
    have nHp : H p = none := by
      cases e : H p with
      | none => rfl
      | some u => rw [bG _ _ (tG.new hp).1 e] at hp; cases hp
    generalize upd G p (.lst (ws ++ us)) = G5 at hf5 t5 b5 ⊢
    generalize ws ++ us = ys at hf5
    clear eD el1 kp bG s5 hp tG b2 ius
    refine ⟨fun σ G => σ = [some (.ref a), some (.ref pl), some (.ref p), none, none, none] ∧ But a H G ∧ TapeAt G a c ∧ ∃ hs ys, HeadsF K G a p pool hs ys, ?_, ?_⟩
    · refine ⟨_, rfl, p, _, rfl, .inl (SqL.of hf5.at_), rfl, _, rfl, ?_⟩
      by_cases hl : ys.length = 1
      · have h0 : hs = [] := by
          have := hf5.im.len
          rw [List.length_map, List.length_cons, hl] at this
          exact List.eq_nil_of_length_eq_zero (by omega)
        subst h0
        refine itt (decide_eq_true (by rw [hl]; rfl)) ⟨_, rfl, .inl ⟨rfl, _, SqL.of hf5.at_⟩, fun G6 v s6 iv => ⟨p, ys, v, rfl, rfl, s6 _ _ hf5.at_, by rw [hl, sizeLine_eq]; decide, ?_⟩⟩
        have hf6 := hf5.mono t5 (.of s6)
        have kp : Keep G6 (upd G6 p (.lst (ys ++ [v]))) := Keep.upd (notup_lst hf6.at_)
        refine ⟨rfl, fun b o ne e => ?_, (t5.mono s6).upd hf5.ne pc, [hF], ys ++ [v], hf5.ne, upd_same, ?_, List.singleton_sublist.mpr (by simp [pool])⟩
        · rw [upd_ne (ne_of_none e nHp)]
          exact s6 _ _ (b5 _ _ ne e)
        · exact ImAll.app (ds := [hAsk].map Hd.d) (es := [hF].map Hd.d) (ImAll.mono kp _ _ hf6.im) (ia_cons (Im.mono kp _ _ iv) ia_nil)
      · refine itf (decide_eq_false fun q => hl ?_) ⟨rfl, b5, t5, hs, ys, hf5⟩
        have := V.int.inj q
        omega
    clear hf5 t5 b5
    rintro σ G ⟨rfl, bG, tG, hs, ys, hf⟩
    intro G1 sv s1 isv
    have b1 := bG.trans (.of s1)
    have t1 := tG.mono s1
    have hf1 := hf.mono tG (.of s1)
    clear hf tG bG s1
    refine ⟨fun σ G => ∃ p sv, σ = [some (.ref a), some (.ref pl), some (.ref p), some sv, none, none] ∧ But a H G ∧ TapeAt G a c ∧ H p = none ∧ ∃ sl all hs ys, ((sl = [("s" : Str)] ∧ all = pool) ∨ (sl = [("s" : Str), ("t" : Str)] ∧ all = pool ++ tailH)) ∧ HeadsF K G a p all hs ys ∧ Im K G (.tuple (sl.map PyData.str)) sv, ?_, ?_⟩
    · refine ⟨_, rfl, a, c, _, rfl, t1, by decide, by decide, fun G2 n b2 t2 n0 n1 => ⟨rfl, _, rfl, ?_⟩⟩
      have hf2 := hf1.mono t1 b2
      by_cases hn : n = 0
      case neg => exact itf (decide_eq_false fun q => hn (V.int.inj q)) ⟨p, sv, rfl, b1.trans b2, t2, nHp, _, _, hs, ys, .inl ⟨rfl, rfl⟩, hf2, Im.mono (b2.keep t1.notup) _ _ isv⟩
      refine itt (decide_eq_true (by rw [hn])) fun G3 sv2 s3 isv2 => ⟨_, rfl, fun G4 ws s4 iw => ⟨by rw [iw.len, sizeLine_eq]; decide, fun l2 hl2 => ?_⟩⟩
      have s34 := s3.trans s4
      have s5 := sn (o := .lst ws) hl2
      have e5 : upd G4 l2 (.lst ws) l2 = some (.lst ws) := upd_same
      have iw5 := ImAll.mono (sk s5) _ _ iw
      generalize upd G4 l2 (.lst ws) = G5 at s5 e5 iw5 ⊢
      have s25 := s34.trans s5
      have hf5 := hf2.mono t2 (.of s25)
      have yl : ys.length ≤ 5 := by
        have h1 := hf5.im.len
        rw [List.length_map, List.length_cons] at h1
        have h2 := hf5.sub.length_le
        have e4 : pool.length = 4 := rfl
        omega
      have wl : ws.length = 2 := iw5.len
      refine ⟨p, l2, _, _, rfl, rfl, hf5.at_, e5, by rw [sizeLine_eq]; omega, fun q hq => ?_⟩
      have s6 := sn (o := .lst (ys ++ ws)) hq
      have b5 := (b1.trans b2).trans (.of s25)
      have t5 := t2.mono s25
      have qa := (t5.new hq).1
      refine ⟨q, sv2, rfl, b5.trans (.of s6), t5.mono s6, ?_, _, _, hs ++ tailH, ys ++ ws, .inr ⟨rfl, rfl⟩, ⟨qa, upd_same, ?_, hf5.sub.append (List.Sublist.refl _)⟩, Im.mono (sk ((s4.trans s5).trans s6)) _ _ isv2⟩
      · cases e : H q with
        | none => rfl
        | some u => rw [b5 _ _ qa e] at hq; cases hq
      · rw [show hAsk :: (hs ++ tailH) = (hAsk :: hs) ++ tailH from rfl, List.map_append]
        exact ImAll.mono (sk s6) _ _ (ImAll.app hf5.im iw5)
    clear hf1 t1 b1 isv pc nHp
    rintro σ G ⟨p, sv, rfl, bG, tG, nHp, sl, all, hs, ys, sc, hf, isv⟩
    intro G1 lv s1 ilv
    have b1 := bG.trans (.of s1)
    have t1 := tG.mono s1
    have hf1 := hf.mono tG (.of s1)
    have isv1 := Im.mono (sk s1) _ _ isv
    clear hf tG bG isv s1
    have suball : hs.Sublist (pool ++ tailH) := by
      have := hf1.sub
      rcases sc with ⟨_, rfl⟩ | ⟨_, rfl⟩
      · exact this.trans (List.sublist_append_left _ _)
      · exact this
    refine ⟨fun σ G => ∃ lv, σ = [some (.ref a), some (.ref pl), some (.ref p), some sv, some lv, none] ∧ But a H G ∧ TapeAt G a c ∧ HeadsF K G a p all hs ys ∧ Im K G (.tuple (sl.map PyData.str)) sv ∧ ∃ lw : Bool, (lw = true → hF ∈ hAsk :: hs) ∧ Im K G (.tuple (if lw = true then [lawD] else [])) lv, ?_, ?_⟩
    · intro G2 fv s2 ifv
      have hf2 := hf1.mono t1 (.of s2)
      have t2 := t1.mono s2
      have b2 := b1.trans (.of s2)
      have isv2 := Im.mono (sk s2) _ _ isv1
      have ilv2 := Im.mono (sk s2) _ _ ilv
      refine ⟨_, rfl, hF.d, (hAsk :: hs).map Hd.d, ifv.dp, Dp.lst (SqL.of hf2.at_) (ImAll.dp _ _ hf2.im), by decide +kernel, heads_shaped suball, _, rfl, ?_⟩
      by_cases hx : (((hAsk :: hs).map Hd.d).any fun z => PyData.eqv z hF.d) = true
      case neg => exact itf (Bool.eq_false_iff.mpr hx) ⟨lv, rfl, b2, t2, hf2, isv2, false, fun h => Bool.noConfusion h, ilv2⟩
      have fm : hF ∈ hAsk :: hs := by
        rw [List.any_map, List.any_eq_true] at hx
        obtain ⟨h, m, e⟩ := hx
        rw [← eqv_f h ((suball.cons_cons hAsk).subset m) e]
        exact m
      refine itt hx ⟨_, rfl, a, c, _, rfl, t2, by decide, by decide, fun G3 n b3 t3 n0 n1 => ⟨rfl, _, rfl, ?_⟩⟩
      have hf3 := hf2.mono t2 b3
      have isv3 := Im.mono (b3.keep t2.notup) _ _ isv2
      have ilv3 := Im.mono (b3.keep t2.notup) _ _ ilv2
      by_cases hn : n = 0
      case neg => exact itf (decide_eq_false fun q => hn (V.int.inj q)) ⟨lv, rfl, b2.trans b3, t3, hf3, isv3, false, fun h => Bool.noConfusion h, ilv3⟩
      exact itt (decide_eq_true (by rw [hn])) fun G4 lv4 s4 ilv4 => ⟨lv4, rfl, (b2.trans b3).trans (.of s4), t3.mono s4, hf3.mono t3 (.of s4), Im.mono (sk s4) _ _ isv3, true, fun _ => fm, ilv4⟩
    clear hf1 t1 b1 isv1 ilv
    rintro σ G ⟨lv, rfl, bG, tG, hf, isv, lw, hlw, ilv⟩
    intro G1 wv s1 iwv
    have yl : ys.length ≤ 7 := by
      have h1 := hf.im.len
      rw [List.length_map, List.length_cons] at h1
      have h2 := suball.length_le
      have e4 : (pool ++ tailH).length = 6 := rfl
      omega
    have hf1 := hf.mono tG (.of s1)
    have t1 := tG.mono s1
    refine ⟨_, rfl, _, rfl, _, rfl, a, c, p, ys, rfl, t1, .inl (SqL.of hf1.at_), by omega, fun G2 q zs b2 t2 pm nq eq => ?_⟩
    have zl : zs.length ≤ 7 := by rw [pm.length_eq]; exact yl
    refine ⟨q, _, rfl, .inl ⟨SqL.of eq, fun t ht => ⟨_, rfl, by show 4 ≤ sizeLine; decide, fun r hrr => ?_⟩⟩⟩
    obtain ⟨hs2, pm2, im2⟩ := im_perm pm (ImAll.mono (Keep.refl _) _ _ hf1.im)
    have k12 := b2.keep t1.notup
    have s3 := sn (o := .tup zs) ht
    have s4 := sn (o := .tup [wv, sv, .ref t, lv]) hrr
    have s34 := s3.trans s4
    have kf := k12.trans (sk s34)
    have k1 := (sk s1).trans kf
    have at3 : upd G2 t (.tup zs) t = some (.tup zs) := upd_same
    refine k _ _ ⟨sl, hs2, lw⟩ (((bG.trans (.of s1)).trans b2).trans (.of s34)) (t2.mono s34) ⟨⟨hs, pm2, ?_⟩, fun h => pm2.mem_iff.mpr (hlw h)⟩ ?_
    · have := hf.sub
      rcases sc with ⟨rfl, rfl⟩ | ⟨rfl, rfl⟩
      · exact .inl ⟨rfl, this⟩
      · exact .inr ⟨rfl, this⟩
    · refine im_tup (.inl (.inl upd_same)) (ia_cons (Im.mono kf _ _ iwv) (ia_cons (Im.mono k1 _ _ isv) (ia_cons (im_tup (keepT s4 (.inl (.inl at3))) ?_) (ia_cons (Im.mono k1 _ _ ilv) ia_nil))))
      exact ImAll.mono kf _ _ im2
end
end T82
namespace T82
open PySem L2
/-! ### the drawn states of each kind -/
theorem cSorted {X : Cx} {K : PySem.W.Frag} (e : X.K = K) : CallR X (.builtin "sorted") (rSorted K) := by subst e; exact cr_sorted
abbrev Es := List (Str × Addr × List Int)
def Es.kvs (es : Es) : List (Key × V) := es.map fun e => (Sum.inr e.1, .ref e.2.1)
def Es.nums (es : Es) : List Int := es.flatMap fun e => e.2.2
structure StsAt (G : Hp) (q : Addr) (es : Es) : Prop where
  at_ : G q = some (.dK es.kvs)
  each : ∀ e ∈ es, G e.2.1 = some (.lst (e.2.2.map V.int))
theorem StsAt.but {G G' : Hp} {q a c : Addr} {es : Es} (s : StsAt G q es) (t : TapeAt G a c) (b : But a G G') : StsAt G' q es := by
  obtain ⟨ns, x1, x2, x3, x4, f⟩ := t
  refine ⟨b _ _ (fun z => ?_) s.at_, fun e he => b _ _ (fun z => ?_) (s.each e he)⟩
  · have := s.at_
    rw [z, f.at_] at this
    cases this
  · have := s.each e he
    rw [z, f.at_] at this
    have h := HO.lst.inj (Option.some.inj this)
    cases hh : e.2.2 with
    | nil => rw [hh] at h; cases h
    | cons n r => rw [hh] at h; cases h
theorem StsAt.mono {G G' : Hp} {q : Addr} {es : Es} (s : StsAt G q es) (b : Same G G') : StsAt G' q es := ⟨b _ _ s.at_, fun e he => b _ _ (s.each e he)⟩
/-- the states that a law may draw -/
structure StsOk (kinds : List Str) (es : Es) : Prop where
  keys : es.map Prod.fst = kinds
  some_ : ∀ e ∈ es, e.2.2 ≠ [] ∧ e.2.2.length ≤ 2
  small : ∀ n ∈ es.nums, 0 ≤ n ∧ n ≤ 7
  apart : es.nums.Nodup
theorem kvs_none {es : Es} {k : Str} (h : k ∉ es.map Prod.fst) : valV es.kvs (Sum.inr k) = none := by
  unfold Es.kvs
  induction es with
  | nil => rfl
  | cons e r ih =>
    rw [List.map_cons, valV_neg (p := (Sum.inr e.1, V.ref e.2.1)) (fun z => h (by rw [← Sum.inr.inj z]; exact List.mem_cons_self))]
    exact ih fun z => h (List.mem_cons_of_mem _ z)
theorem kvs_some {es : Es} {k : Str} (h : k ∈ es.map Prod.fst) : ∃ e ∈ es, e.1 = k ∧ valV es.kvs (Sum.inr k) = some (.ref e.2.1) := by
  unfold Es.kvs
  induction es with
  | nil => cases h
  | cons e r ih =>
    by_cases z : e.1 = k
    · exact ⟨e, List.mem_cons_self, z, by rw [List.map_cons]; exact valV_pos (p := (Sum.inr e.1, V.ref e.2.1)) (by rw [z])⟩
    · rw [List.map_cons] at h
      rcases List.mem_cons.mp h with h | h
      · exact absurd h.symm z
      · obtain ⟨e', m, e1, e2⟩ := ih h
        exact ⟨e', List.mem_cons_of_mem _ m, e1, by rw [List.map_cons, valV_neg (p := (Sum.inr e.1, V.ref e.2.1)) (fun y => z (Sum.inr.inj y))]; exact e2⟩
theorem perm_map {α β : Type} {f : α → β} {ys zs : List β} (pm : zs.Perm ys) : ∀ {as : List α}, ys = as.map f → ∃ bs : List α, zs = bs.map f ∧ bs.Perm as := by
  induction pm with
  | nil =>
    intro as h
    cases as with
    | nil => exact ⟨[], rfl, .refl _⟩
    | cons a as => cases h
  | @cons x l1 l2 _ ih =>
    intro as h
    cases as with
    | nil => cases h
    | cons a as =>
      rw [List.map_cons] at h
      injection h with h1 h2
      obtain ⟨bs, p, q⟩ := ih h2
      exact ⟨a :: bs, by rw [List.map_cons, p, h1], q.cons a⟩
  | swap x y l =>
    intro as h
    cases as with
    | nil => cases h
    | cons a as =>
      cases as with
      | nil => cases h
      | cons b as =>
        rw [List.map_cons, List.map_cons] at h
        injection h with h1 h2
        injection h2 with h2 h3
        exact ⟨b :: a :: as, by rw [List.map_cons, List.map_cons, h1, h2, h3], .swap a b as⟩
  | trans _ _ ih1 ih2 =>
    intro as h
    obtain ⟨bs, p, q⟩ := ih2 h
    obtain ⟨cs, p', q'⟩ := ih1 p
    exact ⟨cs, p', q'.trans q⟩
section
variable {P : Program} {w : World} {K : PySem.W.Frag} {mg : Str → Option Value} {base : Heap}
theorem keepLB {H H' : Hp} {a p : Addr} {xs : List V} (n : p ≠ a) (b : But a H H') (h : SqL K H p xs) : SqL K H' p xs := by
  rcases h with h | h
  · rcases h with h | ⟨o, h⟩
    · exact .inl (.inl (b _ _ n h))
    · exact .inl (.inr ⟨o, b _ _ n h⟩)
  · exact .inr h
theorem cut_to (xs : List V) (k : Nat) : cutV xs none (some (k : Int)) = xs.take k := by
  unfold cutV
  rw [HT.sIx_none, HT.sIx_nat, List.drop_zero, Nat.sub_zero]
  by_cases h : k ≤ xs.length
  · rw [Nat.min_eq_left h]
  · rw [Nat.min_eq_right (by omega), List.take_length, List.take_of_length_le (by omega)]
theorem cut_from (xs : List V) (k : Nat) : cutV xs (some (k : Int)) none = xs.drop k := by
  unfold cutV
  rw [HT.sIx_none, HT.sIx_nat]
  by_cases h : k ≤ xs.length
  · rw [Nat.min_eq_left h]
    exact List.take_of_length_le (by rw [List.length_drop]; omega)
  · rw [Nat.min_eq_right (by omega), List.drop_length, List.drop_of_length_le (by omega), List.take_nil]
theorem nums_app (es : Es) (e : Str × Addr × List Int) : Es.nums (es ++ [e]) = es.nums ++ e.2.2 := by simp [Es.nums]
theorem kvs_app (es : Es) (e : Str × Addr × List Int) : Es.kvs (es ++ [e]) = es.kvs ++ [(Sum.inr e.1, .ref e.2.1)] := by simp [Es.kvs]
abbrev nm__law_states : List Str := ["tape", "kinds", "found", "numbers", "kind", "many"]
theorem sc__law_states : FnScope nm__law_states ["tape", "kinds"] (defScope s__law_states) := ⟨rfl, rfl, rfl, by decide +kernel, rfl, by decide +kernel, by decide +kernel⟩
def sp__law_states (K : PySem.W.Frag) : Sp := fun vs H Q _ => ∃ (a c p : Addr) (ks : List Str), vs = [.ref a, .ref p] ∧ TapeAt H a c ∧ SqL K H p (ks.map V.str) ∧ p ≠ a ∧ ks.Nodup ∧ ks.length ≤ 3 ∧ ∀ G q es, But a H G → TapeAt G a c → StsAt G q es → StsOk ks es → Q (.ref q) G
theorem ok__law_states (T : Tx K mg) : FnOk P w K mg base CX0 3 T.f__law_states T.d__law_states ["tape", "kinds"] (sp__law_states K) := by
  refine T.F__law_states.ok sc__law_states (fun vs H Q E h => ?_) (fun cdv A outer s H vs Q E hr h => ?_)
  · obtain ⟨a, c, p, ks, rfl, _⟩ := h
    rfl
  · obtain ⟨a, c, p, ks, rfl, ta, sp, pa, nd, kl, k⟩ := h
    refine ⟨_, (pss_cons (ps_par (i := 2) (j := 3) rfl sc__law_states.nd rfl rfl (by decide) rfl rfl (pa_cons pe_dnewK (pa_cons (pe_call (ok__law_mixed T) (hr.mono (by decide)) (by rfl) T.m__law_mixed T.F__law_mixed.kp T.b__law_mixed .nil pass0 (pa_cons (pv 0) (pa_cons (pe_listRg rfl (by rfl) T.t_list (prg_1 (by rfl) T.t_range pe_int)) pa_nil))) pa_nil)) (by rfl))
    (pss_cons (ps_for PassesOwn.never rfl (wL (K := K) rfl (pv 1)) (pg_name (i := 4) sc__law_states.nd rfl (Or.inl rfl))
      (pss_cons (ps_set (i := 5) sc__law_states.nd rfl (.inl rfl) (pe_op op_add pe_int (pe_call (ok__law_pick T) (hr.mono (by decide)) (by rfl) T.m__law_pick T.F__law_pick.kp T.b__law_pick .nil pass0 (pa_cons (pv 0) (pa_cons pe_int pa_nil)))))
      (pss_one (ps_asg (pe_tup (pa_cons (pe_callB (cSorted (K := K) rfl) (by rfl) T.t_sorted (by decide +kernel) (pa_cons (pe_slice (sL (K := K) rfl) (pv 3) po_none (po_some (pv 5))) pa_nil)) (pa_cons (pe_slice (sL (K := K) rfl) (pv 3) (po_some (pv 5)) po_none) pa_nil))) (pg_tup rfl (pgs_cons (pg_sub (pv 2) (pv 4) (set_dict (hu_of hr))) (pgs_cons (pg_name (i := 3) sc__law_states.nd rfl (Or.inl rfl)) pgs_nil)))))))
    (pss_one (ps_ret (pv 2))))), ?_⟩
    intro q hq
    have s1 := sn (o := .dK []) hq
    have e1 : upd H q (.dK []) q = some (.dK []) := upd_same
    generalize upd H q (.dK []) = H1 at s1 e1 ⊢
    obtain ⟨qa, qc⟩ := ta.new hq
    refine ⟨_, rfl, _, rfl, RgOk.of_le (by decide) (by decide) (by decide) (by decide), fun l hl => ?_⟩
    have s2 := sn (o := .lst (rgV 0 8)) hl
    have e2 : upd H1 l (.lst (rgV 0 8)) l = some (.lst (rgV 0 8)) := upd_same
    generalize upd H1 l (.lst (rgV 0 8)) = H2 at s2 e2 ⊢
    have s12 := s1.trans s2
    have t2 := ta.mono s12
    refine ⟨a, c, l, _, rfl, t2, .inl (SqL.of e2), by decide, fun G np ys bG tG pm nnp enp => ⟨_, _, rfl, ?_⟩⟩
    obtain ⟨rem, rfl, pm0⟩ := perm_map pm (show rgV 0 8 = ([0, 1, 2, 3, 4, 5, 6, 7] : List Int).map V.int by decide)
    have b2 : But a H G := (But.of s12).trans bG
    have eq0 : G q = some (.dK []) := bG _ _ qa (s2 _ _ e1)
    have npa : np ≠ a := (t2.new nnp).1
    clear e1 e2 s1 s2 nnp
    refine ⟨_, rfl, p, rfl, ⟨_, keepLB pa b2 sp⟩, for_it (walk_list (K := K) (a := p) (xs := ks.map V.str)) (fun i σ G => (∃ np b c', σ = [some (.ref a), some (.ref p), some (.ref q), some (.ref np), b, c'] ∧ np ≠ a ∧ ∃ rem, G np = some (.lst (rem.map V.int)) ∧ But a H G ∧ TapeAt G a c ∧
      ∃ es : Es, StsAt G q es ∧ es.map Prod.fst = ks.take i ∧ (∀ e ∈ es, e.2.2 ≠ [] ∧ e.2.2.length ≤ 2) ∧ (es.nums ++ rem).Perm [0, 1, 2, 3, 4, 5, 6, 7] ∧ es.nums.length ≤ 2 * i)) ?_ ?_ ?_ ?_⟩
    · exact ⟨np, _, _, rfl, npa, rem, enp, b2, tG, [], ⟨eq0, fun e he => (nomatch he)⟩, rfl, fun e he => (nomatch he), pm0, Nat.zero_le _⟩
    · rintro i σ G _ ⟨_, _, _, _, _, _, _, b, _⟩
      exact keepLB pa b sp
    · rintro i y σ G G' hi ⟨np, u1, u2, rfl, npa, rem, enp, bG, tG, es, st, ek, eo, pm, en⟩ ⟨rfl, hy⟩
      rw [List.length_map] at hi
      obtain ⟨kd, ekd⟩ : ∃ kd, ks[i]? = some kd := ⟨_, List.getElem?_eq_getElem hi⟩
      rw [List.getElem?_map, ekd] at hy
      cases hy
      refine ⟨_, rfl, a, c, 2, rfl, tG, by decide, by decide, fun G1 m b1 t1 m0 m1 => ⟨_, _, rfl, rfl, ?_⟩⟩
      have enp1 := b1 _ _ npa enp
      have st1 := st.but tG b1
      have bG1 := bG.trans b1
      obtain ⟨m, rfl⟩ : ∃ m' : Nat, m = (m' : Int) := ⟨m.toNat, by omega⟩
      have pml := pm.length_eq
      simp only [List.length_append, List.length_cons, List.length_nil] at pml
      have rl : 4 ≤ rem.length := by omega
      have em : (1 : Int) + (m : Int) = ((1 + m : Nat) : Int) := by omega
      refine ⟨_, rfl, _, rfl, ((1 + m : Nat) : Int), congrArg V.int em, np, _, rfl, SqL.of enp1, fun l1 hl1 => ?_⟩
      rw [cut_to, ← List.map_take]
      have s2 := sn (o := .lst ((rem.take (1 + m)).map V.int)) hl1
      have e2 : upd G1 l1 (.lst ((rem.take (1 + m)).map V.int)) l1 = some (.lst ((rem.take (1 + m)).map V.int)) := upd_same
      generalize upd G1 l1 (.lst ((rem.take (1 + m)).map V.int)) = G2 at s2 e2 ⊢
      have tl : (rem.take (1 + m)).length = 1 + m := by rw [List.length_take]; omega
      refine ⟨l1, _, rfl, SqL.of e2, by omega, fun ns' l2 pm2 _ hl2 => ?_⟩
      have s3 := sn (o := .lst (ns'.map V.int)) hl2
      have e3 : upd G2 l2 (.lst (ns'.map V.int)) l2 = some (.lst (ns'.map V.int)) := upd_same
      generalize upd G2 l2 (.lst (ns'.map V.int)) = G3 at s3 e3 ⊢
      have s13 := s2.trans s3
      refine ⟨_, rfl, _, rfl, ((1 + m : Nat) : Int), congrArg V.int em, np, _, rfl, SqL.of (s13 _ _ enp1), fun l3 hl3 => ?_⟩
      rw [cut_from, ← List.map_drop]
      have s4 := sn (o := .lst ((rem.drop (1 + m)).map V.int)) hl3
      have e4 : upd G3 l3 (.lst ((rem.drop (1 + m)).map V.int)) l3 = some (.lst ((rem.drop (1 + m)).map V.int)) := upd_same
      have l3a := ((t1.mono s13).new hl3).1
      generalize upd G3 l3 (.lst ((rem.drop (1 + m)).map V.int)) = G4 at s4 e4 ⊢
      refine ⟨by show 2 ≤ sizeLine; decide, fun tp htp => ?_⟩
      have s5 := sn (o := .tup [.ref l2, .ref l3]) htp
      have s15 := (s13.trans s4).trans s5
      have t5 := t1.mono s15
      have st5 := st1.mono s15
      have e35 := s5 _ _ (s4 _ _ e3)
      have e45 := s5 _ _ e4
      refine ⟨tp, _, rfl, .inl (.inl upd_same), rfl, _, _, rfl, ?_⟩
      generalize upd G4 tp (.tup [.ref l2, .ref l3]) = G5 at s5 s15 t5 st5 e35 e45 ⊢
      have kn : kd ∉ es.map Prod.fst := by
        rw [ek]
        intro h
        have h2 := nd
        rw [← List.take_append_drop i ks, List.drop_eq_getElem_cons hi] at h2
        have h3 : ks[i] = kd := (List.getElem?_eq_some_iff.mp ekd).2
        exact (List.nodup_append.mp h2).2.2 kd h _ List.mem_cons_self h3.symm
      have el : es.length ≤ 3 := by
        have := congrArg List.length ek
        rw [List.length_map, List.length_take] at this
        omega
      refine ⟨_, rfl, _, rfl, q, _, rfl, DPut.k (k := Sum.inr kd) st5.at_ (by unfold Es.kvs; rw [List.length_map, sizeLine_eq]; omega), ?_⟩
      rw [putK_new _ (kvs_none kn), ← kvs_app es (kd, l2, ns')]
      have nb : ∀ e ∈ es, e.2.1 ≠ q := fun e he z => by
        have h1 := st5.each e he
        rw [z, st5.at_] at h1
        cases h1
      have l2q : l2 ≠ q := fun z => by rw [z, st5.at_] at e35; cases e35
      have l3q : l3 ≠ q := fun z => by rw [z, st5.at_] at e45; cases e45
      refine ⟨_, _, rfl, rfl, l3, _, _, rfl, l3a, rem.drop (1 + m), by rw [upd_ne l3q]; exact e45, fun b o ne e => by rw [upd_ne (ne_of_none e hq)]; exact s15 _ _ (bG1 _ _ ne e), t5.upd qa qc, es ++ [(kd, l2, ns')], ⟨upd_same, fun e he => ?_⟩, ?_, fun e he => ?_, ?_, ?_⟩
      · rcases List.mem_append.mp he with he | he
        · rw [upd_ne (nb e he)]
          exact st5.each e he
        · rw [List.mem_singleton.mp he]
          show upd G5 q _ l2 = _
          rw [upd_ne l2q]
          exact e35
      · rw [List.map_append, ek, List.take_add_one, ekd]
        rfl
      · rcases List.mem_append.mp he with he | he
        · exact eo e he
        · rw [List.mem_singleton.mp he]
          have := pm2.length_eq
          rw [tl] at this
          show ns' ≠ [] ∧ ns'.length ≤ 2
          refine ⟨fun z => ?_, by omega⟩
          rw [z] at this
          simp at this
          omega
      · rw [nums_app, List.append_assoc]
        refine List.Perm.trans (List.Perm.append_left _ ?_) pm
        refine List.Perm.trans (List.Perm.append_right _ pm2) ?_
        rw [List.take_append_drop]
      · rw [nums_app, List.length_append]
        have := pm2.length_eq
        rw [tl] at this
        show es.nums.length + ns'.length ≤ _
        omega
    · rintro σ G ⟨np, u1, u2, rfl, npa, rem, enp, bG, tG, es, st, ek, eo, pm, en⟩
      rw [List.length_map, List.take_length] at ek
      refine ⟨_, rfl, k G q es bG tG st ⟨ek, eo, fun n hn => ?_, ?_⟩⟩
      · have := pm.mem_iff.mp (List.mem_append_left _ hn)
        simp only [List.mem_cons, List.not_mem_nil, or_false] at this
        omega
      · exact (List.nodup_append.mp (pm.nodup_iff.mpr (by decide))).1
end
end T82
namespace T82
open PySem L2
/-! ### the keys of a head's rules -/
def numsOf (es : Es) (k : Str) : List Int := ((es.lookup k).map Prod.snd).getD []
def keyStep (es : Es) (found : List (List Int)) (kind : Str) : List (List Int) := found.flatMap fun key => (numsOf es kind).map fun one => key ++ [one]
def keysL (es : Es) (kinds : List Str) : List (List Int) := kinds.foldl (keyStep es) [[]]
def keyD (name : Str) (as : List Int) : PyData := .tuple (.str name :: as.map PyData.int)
theorem kvs_look (es : Es) (k : Str) : valV es.kvs (Sum.inr k) = (es.lookup k).map fun p => V.ref p.1 := by
  unfold Es.kvs
  induction es with
  | nil => rfl
  | cons e r ih =>
    obtain ⟨z, p⟩ := e
    by_cases h : z = k
    · subst h
      rw [List.map_cons, valV_pos (p := (Sum.inr z, V.ref p.1)) rfl, List.lookup_cons_self]
      rfl
    · rw [List.map_cons, valV_neg (p := (Sum.inr z, V.ref p.1)) (fun y => h (Sum.inr.inj y)), ih, List.lookup_cons]
      rw [beq_eq_false_iff_ne.mpr (fun y => h y.symm)]
theorem look_mem {es : Es} {k : Str} (h : k ∈ es.map Prod.fst) : ∃ p, es.lookup k = some p ∧ (k, p) ∈ es := by
  induction es with
  | nil => cases h
  | cons e r ih =>
    obtain ⟨z, p⟩ := e
    by_cases hz : z = k
    · subst hz
      exact ⟨p, List.lookup_cons_self, List.mem_cons_self⟩
    · rw [List.map_cons] at h
      rcases List.mem_cons.mp h with e | e
      · exact absurd e.symm hz
      · obtain ⟨p', e1, e2⟩ := ih e
        exact ⟨p', by rw [List.lookup_cons, beq_eq_false_iff_ne.mpr (fun y => hz y.symm)]; exact e1, List.mem_cons_of_mem _ e2⟩
theorem keyStep_app (es : Es) (kind : Str) (as bs : List (List Int)) : keyStep es (as ++ bs) kind = keyStep es as kind ++ keyStep es bs kind := by
  unfold keyStep
  rw [List.flatMap_append]
theorem keyStep_len {es : Es} {kind : Str} (h : (numsOf es kind).length ≤ 2) : ∀ as : List (List Int), (keyStep es as kind).length ≤ as.length * 2
  | [] => Nat.le_refl _
  | a :: as => by
    have ih := keyStep_len h as
    have e : keyStep es (a :: as) kind = ((numsOf es kind).map fun one => a ++ [one]) ++ keyStep es as kind := by unfold keyStep; rw [List.flatMap_cons]
    rw [e, List.length_append, List.length_map, List.length_cons]
    omega
theorem keyStep_mem {es : Es} {kind : Str} {as : List (List Int)} {b : List Int} (h : b ∈ keyStep es as kind) : ∃ a ∈ as, ∃ one ∈ numsOf es kind, b = a ++ [one] := by
  unfold keyStep at h
  obtain ⟨a, ha, h⟩ := List.mem_flatMap.mp h
  obtain ⟨one, ho, rfl⟩ := List.mem_map.mp h
  exact ⟨a, ha, one, ho, rfl⟩
theorem keyStep_one (es : Es) (kind : Str) (a : List Int) : keyStep es [a] kind = (numsOf es kind).map fun one => a ++ [one] := by
  unfold keyStep
  simp
section
variable {P : Program} {w : World} {K : PySem.W.Frag} {mg : Str → Option Value} {base : Heap}
abbrev nm__law_keys : List Str := ["states", "name", "kinds", "found", "kind", "longer", "key", "one"]
theorem sc__law_keys : FnScope nm__law_keys ["states", "name", "kinds"] (defScope s__law_keys) := ⟨rfl, rfl, rfl, by decide +kernel, rfl, by decide +kernel, by decide +kernel⟩
def sp__law_keys (K : PySem.W.Frag) : Sp := fun vs H Q _ => ∃ (q : Addr) (name : Str) (kv : V) (kinds : List Str) (es : Es), vs = [.ref q, .str name, kv] ∧ StsAt H q es ∧ Im K H (.tuple (kinds.map PyData.str)) kv ∧ kinds.length ≤ 3 ∧ (∀ k ∈ kinds, k ∈ es.map Prod.fst) ∧ (∀ e ∈ es, e.2.2.length ≤ 2) ∧
  ∀ G p us, Same H G → H p = none → G p = some (.lst us) → ImAll K G ((keysL es kinds).map (keyD name)) us → Q (.ref p) G
theorem ok__law_keys (T : Tx K mg) : FnOk P w K mg base CX0 1 T.f__law_keys T.d__law_keys ["states", "name", "kinds"] (sp__law_keys K) := by
  refine T.F__law_keys.ok sc__law_keys (fun vs H Q E h => ?_) (fun cdv A outer s H vs Q E hr h => ?_)
  · obtain ⟨q, name, kv, kinds, es, rfl, _⟩ := h
    rfl
  · obtain ⟨q, name, kv, kinds, es, rfl, st, ikv, kl, km, el, k⟩ := h
    refine ⟨_, (pss_cons (ps_set (i := 3) sc__law_keys.nd rfl (.inl rfl) (pe_lst (pa_cons (pe_tup (pa_cons (pv 1) pa_nil)) pa_nil)))
    (pss_cons (ps_for PassesOwn.never rfl (wT (K := K) rfl (pv 2)) (pg_name (i := 4) sc__law_keys.nd rfl (Or.inl rfl))
      (pss_cons (ps_set (i := 5) sc__law_keys.nd rfl (.inl rfl) (pe_lst pa_nil))
      (pss_cons (ps_for PassesOwn.never rfl (wL (K := K) rfl (pv 3)) (pg_name (i := 6) sc__law_keys.nd rfl (Or.inr rfl))
        (pss_one (ps_expr (pe_bm PySem.F.plainAttrs_list PySem.F.slot_list_extend PySem.F.type_list_extend mt_extend (pv 5) (pa_cons (pe_lc (own := [("one", 7)]) (g := gName 7) (tt := tYes) rfl sc__law_keys.nd (wL (K := K) rfl (pe_dget (hu_of hr) (pv 0) (pv 4) (fun _ _ => rfl))) (blkOk_by (N := nm__law_keys) (sc := defScope s__law_keys) (by decide +kernel)) (fun _ _ _ _ _ => (pg_name (i := 7) sc__law_keys.nd rfl (Or.inl rfl))) (fun _ _ _ _ _ => pts_nil) (fun _ _ _ _ _ => (pe_op (oCatU (K := K) rfl) (pv 6) (pe_tup (pa_cons (pv 7) pa_nil))))) pa_nil)))))
      (pss_one (ps_set (i := 3) sc__law_keys.nd rfl (.inl rfl) (pv 5))))))
    (pss_one (ps_ret (pv 3))))), ?_⟩
    obtain ⟨kp, rfl, skp⟩ := strs_at2 ikv
    refine ⟨_, rfl, by show 1 ≤ sizeLine; decide, fun t0 ht0 => ⟨by show 1 ≤ sizeLine; decide, fun p0 hp0 => ?_⟩⟩
    have s1 := sn (o := .tup [.str name]) ht0
    have e1 : upd H t0 (.tup [.str name]) t0 = some (.tup [.str name]) := upd_same
    generalize upd H t0 (.tup [.str name]) = H1 at s1 e1 hp0 ⊢
    have s2 := sn (o := .lst [.ref t0]) hp0
    have s12 := s1.trans s2
    have n0 : H p0 = none := by
      cases e : H p0 with
      | none => rfl
      | some u => rw [s1 _ _ e] at hp0; cases hp0
    refine ⟨_, rfl, kp, rfl, ⟨_, keepT s12 skp⟩, for_it (walk_tup (K := K) (a := kp) (xs := kinds.map V.str)) (fun i σ G => ∃ p b1 b2 b3, σ = [some (.ref q), some (.str name), some (.ref kp), some (.ref p), b1, b2, b3, none] ∧ Same H G ∧ H p = none ∧ ∃ keys us, keys = (kinds.take i).foldl (keyStep es) [[]] ∧ keys.length ≤ 2 ^ i ∧ (∀ as ∈ keys, as.length ≤ i) ∧ G p = some (.lst us) ∧ ImAll K G (keys.map (keyD name)) us) ?_ ?_ ?_ ?_⟩
    · exact ⟨p0, _, _, _, rfl, s12, n0, [[]], [.ref t0], rfl, by decide, fun as h => by rw [List.mem_singleton.mp h]; exact Nat.le_refl _, upd_same, ia_cons (im_tup (.inl (.inl (s2 _ _ e1))) (ia_cons im_str ia_nil)) ia_nil⟩
    · rintro i σ G _ ⟨_, _, _, _, _, sG, _⟩
      exact keepT sG skp
    · clear n0 s12 s2 hp0 e1 s1 ht0
      rintro i y σ G G' hi ⟨p, b1, b2, b3, rfl, sG, np, keys, us, ek, lk, la, ep, iu⟩ ⟨rfl, hy⟩
      rw [List.length_map] at hi
      obtain ⟨kind, ekd⟩ : ∃ kd, kinds[i]? = some kd := ⟨_, List.getElem?_eq_getElem hi⟩
      rw [List.getElem?_map, ekd] at hy
      cases hy
      obtain ⟨⟨ad, nums⟩, elk, emem⟩ := look_mem (km kind (List.mem_of_getElem? ekd))
      have enum : numsOf es kind = nums := by unfold numsOf; rw [elk]; rfl
      have nl : nums.length ≤ 2 := el _ emem
      have ev : valV es.kvs (Sum.inr kind) = some (.ref ad) := by rw [kvs_look, elk]; rfl
      have lk8 : keys.length ≤ 8 := Nat.le_trans lk (Nat.le_trans (Nat.pow_le_pow_right (by decide) (by omega : i ≤ 3)) (by decide))
      refine ⟨by show 0 ≤ sizeLine; decide, fun lg hlg => ?_⟩
      have s3 := sn (o := .lst []) hlg
      have e3 : upd G' lg (.lst []) lg = some (.lst []) := upd_same
      generalize upd G' lg (.lst []) = G1 at s3 e3 ⊢
      have sG1 := sG.trans s3
      have plg : p ≠ lg := fun z => by rw [← z, ep] at hlg; cases hlg
      have ep1 := s3 _ _ ep
      have nlg : H lg = none := by
        cases e : H lg with
        | none => rfl
        | some u => rw [sG _ _ e] at hlg; cases hlg
      refine ⟨_, rfl, p, rfl, ⟨_, SqL.of ep1⟩, for_it (walk_list (K := K) (a := p) (xs := us)) (fun j σ X => (∃ b3, σ = [some (.ref q), some (.str name), some (.ref kp), some (.ref p), some (.str kind), some (.ref lg), b3, none]) ∧ But lg G1 X ∧ ∃ ws, X lg = some (.lst ws) ∧ ImAll K X ((keyStep es (keys.take j) kind).map (keyD name)) ws) ?_ ?_ ?_ ?_⟩
      · exact ⟨⟨_, rfl⟩, But.refl, [], e3, ia_nil⟩
      · rintro j σ X _ ⟨_, b, _⟩
        exact SqL.of (b _ _ plg ep1)
      · rintro j y σ X X' hj ⟨⟨b3', rfl⟩, bX, ws, ew, iw⟩ ⟨rfl, hy⟩
        have ul := iu.len
        rw [List.length_map] at ul
        obtain ⟨as, eas⟩ : ∃ as, keys[j]? = some as := ⟨_, List.getElem?_eq_getElem (by omega)⟩
        obtain ⟨y', ey, iy⟩ := iu.get (i := j) (d := keyD name as) (by rw [List.getElem?_map, eas]; rfl)
        rw [hy] at ey
        cases ey
        have sX : Same G' X' := fun b o e => bX _ _ (ne_of_none e hlg) (s3 _ _ e)
        have sHX := sG.trans sX
        have stX := st.mono sHX
        obtain ⟨kt, ys, rfl, skt, iks⟩ := iy.tup_
        obtain ⟨v0, r0, rfl, i0, ir⟩ := iks.cons_
        rw [i0.str_, im_intsOf ir] at skt
        have sktX := keepT sX skt
        have enX : X' ad = some (.lst (nums.map V.int)) := stX.each _ emem
        have al := la as (List.mem_of_getElem? eas)
        refine ⟨_, rfl, .inl ⟨rfl, _, SqL.of ew⟩, _, rfl, _, rfl, q, _, rfl, dget_k stX.at_ ev, ad, rfl, ⟨_, SqL.of enX⟩, fun D hD => lc_im (K := K) (walk_list (K := K) (a := ad) (xs := nums.map V.int)) hD (nums.map fun one => keyD name (as ++ [one])) (by simp) (by rw [List.length_map]; omega) (fun H2 hb => keepL (hb.same hD) (SqL.of enX)) ?_ ?_⟩
        · rintro m dd y H0 H2 hdd hb hne ⟨rfl, hy⟩
          rw [List.getElem?_map] at hdd hy
          cases ea : nums[m]? with
          | none => rw [ea] at hdd; cases hdd
          | some one =>
            rw [ea] at hdd hy
            cases hdd
            cases hy
            have s5 := hb.same hD
            refine ⟨Same.refl _, fun N hN => ⟨rfl, _, rfl, _, rfl, by show 1 ≤ sizeLine; decide, fun t ht => ?_⟩⟩
            have s6 := sn (o := .tup [.int one]) ht
            refine ⟨kt, t, _, _, rfl, rfl, keepT (s5.trans s6) sktX, .inl (.inl upd_same), ?_, fun t2 H3 s7 st2 => hN _ _ (s6.trans s7) ?_⟩
            · rw [sizeLine_eq, List.length_cons, List.length_map, List.length_singleton]
              omega
            · have e : (V.str name :: as.map V.int) ++ [V.int one] = .str name :: (as ++ [one]).map V.int := by simp
              rw [e] at st2
              exact im_tup st2 (ia_cons im_str (ia_intsOf _))
        intro H2 zs hb hz iz
        have s5 := hb.same hD
        have ew2 := s5 _ _ ew
        refine ⟨lg, D, ws, zs, rfl, rfl, ew2, hz, ?_, ?_⟩
        · have h1 := iw.len
          have h2 := iz.len
          rw [List.length_map] at h1 h2
          have h3 := keyStep_len (es := es) (kind := kind) (by rw [enum]; exact nl) (keys.take j)
          rw [List.length_take] at h3
          rw [sizeLine_eq]
          omega
        have kp2 : Keep H2 (upd H2 lg (.lst (ws ++ zs))) := Keep.upd (notup_lst ew2)
        refine ⟨⟨_, rfl⟩, fun b o ne e => by rw [upd_ne ne]; exact s5 _ _ (bX _ _ ne e), ws ++ zs, upd_same, ?_⟩
        rw [List.take_add_one, eas]
        show ImAll K _ ((keyStep es (keys.take j ++ [as]) kind).map (keyD name)) _
        rw [keyStep_app, keyStep_one, enum, List.map_append, List.map_map]
        exact ImAll.app (ImAll.mono ((sk s5).trans kp2) _ _ iw) (ImAll.mono kp2 _ _ iz)
      · rintro σ X ⟨⟨b3', rfl⟩, bX, ws, ew, iw⟩
        have ul := iu.len
        rw [List.length_map] at ul
        rw [ul, List.take_length] at iw
        have sX : Same G' X := fun b o e => bX _ _ (ne_of_none e hlg) (s3 _ _ e)
        refine ⟨_, rfl, lg, _, _, _, rfl, sG.trans sX, nlg, keyStep es keys kind, ws, ?_, ?_, fun as h => ?_, ew, iw⟩
        · rw [List.take_add_one, ekd, ek]
          simp only [Option.toList_some, List.foldl_append, List.foldl_cons, List.foldl_nil]
        · have := keyStep_len (es := es) (kind := kind) (by rw [enum]; exact nl) keys
          rw [Nat.pow_succ]
          omega
        · obtain ⟨a, ha, one, _, rfl⟩ := keyStep_mem h
          have := la a ha
          rw [List.length_append, List.length_singleton]
          omega
    · rintro σ G ⟨p, b1, b2, b3, rfl, sG, np, keys, us, ek, lk, la, ep, iu⟩
      rw [List.length_map, List.take_length] at ek
      subst ek
      exact ⟨_, rfl, k G p us sG np ep iu⟩
end
end T82
/-! ### tuples whose object is known: tuple(a list); dict(such a tuple of pairs) -/
namespace T82
open PySem L2 PyProof.Rows
open PySem.Spec
def PlT (H : Hp) (p : Addr) (xs : List V) : Prop := ∃ o : Obj, H p = some (.frz o (.tup xs)) ∧ o.cls = .type "tuple" ∧ o.dict = none
section
variable {H H' : Hp} {p a c : Addr} {xs : List V} {K : PySem.W.Frag}
theorem PlT.sq (h : PlT H p xs) : SqT K H p xs := by
  obtain ⟨o, h, _⟩ := h
  exact .inl (.inr ⟨o, h⟩)
theorem PlT.mono (h : PlT H p xs) (s : Same H H') : PlT H' p xs := by
  obtain ⟨o, h, r⟩ := h
  exact ⟨o, s _ _ h, r⟩
theorem PlT.but (h : PlT H p xs) (t : TapeAt H a c) (b : But a H H') : PlT H' p xs := by
  obtain ⟨o, h, r⟩ := h
  obtain ⟨ns, x1, x2, x3, x4, f⟩ := t
  refine ⟨o, b _ _ (fun z => ?_) h, r⟩
  rw [z, f.at_] at h
  cases h
end
def rTupZ (K : PySem.W.Frag) : List V → Hp → VK → Prop := fun us H Q => ∃ p ys, us = [.ref p] ∧ SqL K H p ys ∧ ∀ l G, H l = none → Same H G → PlT G l ys → Q (.ref l) G
theorem cTupZ {X : Cx} {K : PySem.W.Frag} (e : X.K = K) : CallR X (.type "tuple") (rTupZ K) := by
  subst e
  intro pins s σ H xs us Q I r h
  obtain ⟨p, ys, rfl, hq, q⟩ := h
  obtain ⟨u, rfl, rx⟩ := vals1 r
  cases rx
  obtain ⟨its, r', pl, hz⟩ := I.list hq
  have hlen := r'.length
  refine call_tuple_list pl.isList (fun h' kp => ?_) (by simp only [List.size_toArray] <;> omega)
  have I1 : Inv X pins σ H { s with heap := h' } := I.kept (t' := s.toks) kp
  have I2 : Inv X pins σ (upd H h'.objs.size (.frz { cls := .type "tuple", data := .seq its.toArray } (.tup ys))) { s with heap := h'.push { cls := .type "tuple", data := .seq its.toArray } } :=
    I1.laid (t' := s.toks) (fun b o e => Heap.get?_push_of_some _ e) (Nat.le_refl _) (show ObjOk X.prog X.w _ _ _ (.frz { cls := .type "tuple", data := .seq its.toArray } (.tup ys)) from ⟨Heap.get?_push_size _ rfl, hz, its, r', IsTup.new _ _⟩)
  have fr := I1.hok.fresh (Nat.le_refl _)
  exact ⟨.ref h'.objs.size, _, I2, rfl, q _ _ fr (sn fr) ⟨_, upd_same, rfl, rfl⟩⟩
/-- the entries of a tuple of pairs whose keys are nested tuples -/
def EntAt (K : PySem.W.Frag) (H : Hp) (e : NestedKey × V) (v : V) : Prop := ∃ (T b : Addr), v = .ref T ∧ SqT K H T [.ref b, e.2] ∧ KeyV K H e.1 (.ref b)
def rDictZ (P : Program) (w : World) (K : PySem.W.Frag) : List V → Hp → VK → Prop := fun us H Q => ∃ (p : Addr) (vs : List V) (es : List (NestedKey × V)), us = [.ref p] ∧ PlT H p vs ∧ Paired (EntAt K H) es vs ∧ (es.map Prod.fst).Nodup ∧
  ∀ q G, H q = none → Same H G → ND P w K G q es → Q (.ref q) G
/-- an entry, by the objects: its pair, its key, its value -/
structure Tri where
  key : NestedKey
  pair : Addr
  at_ : Addr
  val : V
  raw : Value
theorem tri_of {X : Cx} {pins : List (Addr × Obj)} {σ : L2.St} {H : Hp} {s : Shared} (I : Inv X pins σ H s) {es : List (NestedKey × V)} {vs : List V} (h : Paired (EntAt X.K H) es vs) :
    ∃ ts : List Tri, es = ts.map (fun t => (t.key, t.val)) ∧ vs = ts.map (fun t => .ref t.pair) ∧ ∀ t ∈ ts, PairAt s.heap t.pair (.ref t.at_) t.raw ∧ RelV t.val t.raw ∧ KeyV X.K H t.key (.ref t.at_) := by
  induction h with
  | nil => exact ⟨[], rfl, rfl, fun t ht => (nomatch ht)⟩
  | @cons e v es vs h _ ih =>
    obtain ⟨ts, rfl, rfl, all⟩ := ih
    obtain ⟨T, b, rfl, sq, ky⟩ := h
    obtain ⟨its, r, tup, _⟩ := I.tuple sq
    obtain ⟨u1, u2, rfl⟩ : ∃ u1 u2, its = [u1, u2] := by
      cases r with
      | cons _ r => cases r with
        | cons _ r => cases r; exact ⟨_, _, rfl⟩
    cases r with
    | cons r1 r =>
      cases r with
      | cons r2 r =>
        cases r1
        refine ⟨⟨e.1, T, b, e.2, u2⟩ :: ts, rfl, rfl, fun t ht => ?_⟩
        rcases List.mem_cons.mp ht with rfl | ht
        · exact ⟨.inl tup, r2, ky⟩
        · exact all t ht
theorem cDictZ {X : Cx} {P : Program} {w : World} {K : PySem.W.Frag} (eP : X.prog = P) (eW : X.w = w) (eK : X.K = K) (hc : X.calm = true) (hu : X.A.units + 64 < cLine) : CallR X (.type "dict") (rDictZ P w K) := by
  subst eP eW eK
  intro pins s σ H xs us Q I r h
  obtain ⟨p, vs, es, rfl, ⟨o, hp, oc, od⟩, hpr, hnd, q⟩ := h
  obtain ⟨u, rfl, rx⟩ := vals1 r
  cases rx
  obtain ⟨ho, hz, its, rv, tup⟩ := (show ObjOk X.prog X.w H s.heap p (.frz o (.tup vs)) from I.hok p _ hp)
  obtain ⟨o', ho', _, n, hd⟩ := tup
  have eo : o' = o := Option.some.inj (ho'.symm.trans ho)
  subst eo
  obtain ⟨ts, rfl, rfl, all⟩ := tri_of I hpr
  have ei : its = ts.map fun t => Value.ref t.pair := by
    clear hpr hnd q hp hz ho' ho hd all
    induction ts generalizing its with
    | nil => cases rv; rfl
    | cons t ts ih =>
      cases rv with
      | cons r1 r2 =>
        cases r1
        rw [ih _ r2]
        rfl
  subst ei
  have nth : ∀ {j : Nat} {t : Tri}, ts[j]? = some t → t ∈ ts := fun e => List.mem_of_getElem? e
  have PA := PairArg.tuple (prog := X.prog) (w := X.w) p (ts.map fun t => Value.ref t.pair).toArray (fun j => ((ts[j]?).map (·.pair)).getD 0) (ts.map fun t => (Value.ref t.at_, t.raw))
  refine call_dict_pairsH (knd := nestedKind X.prog X.w) (ps := ts.map fun t => (t.key, t.at_, t.raw)) PA (I.ok.hd hc) ?_ ⟨⟨o', n, ho, oc, od, hd⟩, ?_⟩ ⟨by simp, fun i key v e => ?_⟩ (fun h' hk x hx => ?_) ?_ fun h' tk hd' hk => ?_
  · show X.A.in1.in1.units + 8 < cLine
    rw [Around.in1_units, Around.in1_units]
    omega
  · refine ⟨by simp, fun j k v e => ?_⟩
    rw [List.getElem?_map] at e
    cases et : ts[j]? with
    | none => rw [et] at e; cases e
    | some t =>
      rw [et] at e
      cases e
      refine ⟨by simp [et], ?_⟩
      simp only [et]
      exact (all t (nth et)).1
  · have e : (ts.map fun t => (Value.ref t.at_, t.raw))[i]? = some (key, v) := e
    rw [List.getElem?_map] at e
    cases et : ts[i]? with
    | none => rw [et] at e; cases e
    | some t =>
      rw [et] at e
      cases e
      exact ⟨t.key, t.at_, by simp [et], rfl⟩
  · obtain ⟨t, ht, rfl⟩ := List.mem_map.mp hx
    exact nestedKind_stays.stays (fun b ob vs m e _ => hk b ob (Nat.ne_of_lt (Heap.lt_size e)) (fun z => nomatch z) e) (key_is I (all t ht).2.2)
  · rw [List.length_map]
    simpa using hz
  · rw [storedAllH_append_of_fresh [] _ (by simpa [List.map_map, Function.comp_def] using hnd), List.nil_append] at hd'
    have fr : H s.heap.objs.size = none := I.hok.fresh (Nat.le_refl _)
    have kk : ∀ b u, s.heap.get? b = some u → h'.get? b = some u := fun b u e => hk b u (fun z => nomatch z) e
    obtain ⟨od2, es2, ep2, g1, g2, g3, g4, _, g6⟩ := hd'
    have pr : Paired triOk (ts.map fun t => (t.key, t.at_, t.val)) (ts.map fun t => (t.key, t.at_, t.raw)) := by
      have : ∀ l : List Tri, (∀ t ∈ l, RelV t.val t.raw) → Paired triOk (l.map fun t => (t.key, t.at_, t.val)) (l.map fun t => (t.key, t.at_, t.raw)) := fun l => by
        induction l with
        | nil => exact fun _ => .nil
        | cons t l ih => exact fun h => .cons ⟨rfl, rfl, h t List.mem_cons_self⟩ (ih fun x hx => h x (List.mem_cons_of_mem _ hx))
      exact this ts fun t ht => (all t ht).2.1
    have ok : ndOk X.prog X.w s.heap.objs.size (ts.map fun t => (t.key, t.at_, t.val)) h' := ⟨_, pr, od2, es2, ep2, g1, g2, g3, g4, g6⟩
    refine ⟨.ref s.heap.objs.size, _, I.laid (a := s.heap.objs.size) (o := .ext (ndOk X.prog X.w s.heap.objs.size (ts.map fun t => (t.key, t.at_, t.val)))) (t' := tk) kk (Nat.le_refl _) (ndOk_new ok), rfl, q _ _ fr (sn fr) ?_⟩
    refine ⟨ts.map fun t => (t.key, t.at_, t.val), by simp, upd_same, beq_eq_false_iff_ne.mpr (Ne.symm (Nat.ne_of_lt I.big)), by rw [List.length_map]; simpa using hz, fun x hx => ?_⟩
    obtain ⟨t, ht, rfl⟩ := List.mem_map.mp hx
    have := (all t ht).2.2
    exact ⟨this.1, Im.mono (sk (sn fr)) _ _ this.2.1⟩
end T82
namespace T82
open PySem L2
/-! ### the drawn rules -/
def Fits (es : Es) (as : List Int) (kinds : List Str) : Prop := as.length = kinds.length ∧ ∀ (i : Nat) a k, as[i]? = some a → kinds[i]? = some k → a ∈ numsOf es k
theorem fits_fold {es : Es} : ∀ (kinds done : List Str) (keys : List (List Int)), (∀ b ∈ keys, Fits es b done) → ∀ as ∈ kinds.foldl (keyStep es) keys, Fits es as (done ++ kinds)
  | [], done, keys, h, as, m => by
    rw [List.append_nil]
    exact h as m
  | k :: ks, done, keys, h, as, m => by
    have := fits_fold ks (done ++ [k]) (keyStep es keys k) (fun b hb => ?_) as m
    · rw [List.append_assoc] at this
      exact this
    · obtain ⟨a, ha, one, ho, rfl⟩ := keyStep_mem hb
      obtain ⟨l, f⟩ := h a ha
      refine ⟨by simp [l], fun i x k' h1 h2 => ?_⟩
      by_cases hi : i < a.length
      · rw [List.getElem?_append_left hi] at h1
        rw [List.getElem?_append_left (by omega)] at h2
        exact f i x k' h1 h2
      · rw [List.getElem?_append_right (by omega)] at h1
        rw [List.getElem?_append_right (by omega)] at h2
        have e : i - a.length = 0 := by
          have := (List.getElem?_eq_some_iff.mp h1).1
          simp at this
          omega
        rw [e] at h1
        rw [show i - done.length = 0 by omega] at h2
        cases h1
        cases h2
        exact ho
theorem keys_fit {es : Es} {kinds : List Str} {as : List Int} (h : as ∈ keysL es kinds) : Fits es as kinds := by
  have := fits_fold (es := es) kinds [] [[]] (fun b hb => by rw [List.mem_singleton.mp hb]; exact ⟨rfl, fun i a k h => by simp at h⟩) as h
  exact this
theorem step_nodup {es : Es} {kind : Str} (h : (numsOf es kind).Nodup) : ∀ {keys : List (List Int)}, keys.Nodup → (keyStep es keys kind).Nodup
  | [], _ => List.nodup_nil
  | a :: as, nd => by
    obtain ⟨n1, n2⟩ := List.nodup_cons.mp nd
    have e : keyStep es (a :: as) kind = ((numsOf es kind).map fun one => a ++ [one]) ++ keyStep es as kind := by unfold keyStep; rw [List.flatMap_cons]
    rw [e]
    refine List.nodup_append.mpr ⟨?_, step_nodup h n2, fun x hx y hy z => ?_⟩
    · refine List.Pairwise.map _ (fun x y (ne : x ≠ y) z => ?_) h
      exact ne (List.singleton_inj.mp (List.append_cancel_left z))
    · obtain ⟨one, _, rfl⟩ := List.mem_map.mp hx
      obtain ⟨b, hb, two, _, rfl⟩ := keyStep_mem hy
      have := (List.append_inj' z rfl).1
      exact n1 (this ▸ hb)
theorem fold_nodup {es : Es} : ∀ (kinds : List Str) (keys : List (List Int)), (∀ k ∈ kinds, (numsOf es k).Nodup) → keys.Nodup → (kinds.foldl (keyStep es) keys).Nodup
  | [], _, _, h => h
  | k :: ks, keys, h, nd => fold_nodup ks _ (fun x hx => h x (List.mem_cons_of_mem _ hx)) (step_nodup (h k List.mem_cons_self) nd)
theorem nums_sub {es : Es} {k : Str} {p : Addr × List Int} (h : (k, p) ∈ es) : p.2.Sublist es.nums := by
  unfold Es.nums
  induction es with
  | nil => cases h
  | cons e r ih =>
    rw [List.flatMap_cons]
    rcases List.mem_cons.mp h with z | z
    · rw [← z]
      exact List.sublist_append_left _ _
    · exact (ih z).trans (List.sublist_append_right _ _)
theorem numsOf_of {es : Es} {k : Str} {p : Addr × List Int} (h : es.lookup k = some p) : numsOf es k = p.2 := by
  unfold numsOf
  rw [h]
  rfl
theorem StsOk.nums {kinds : List Str} {es : Es} (h : StsOk kinds es) {k : Str} (hk : k ∈ kinds) : (numsOf es k).Nodup ∧ numsOf es k ≠ [] ∧ (numsOf es k).length ≤ 2 ∧ ∀ n ∈ numsOf es k, n ∈ es.nums := by
  obtain ⟨p, e1, e2⟩ := look_mem (es := es) (k := k) (by rw [h.keys]; exact hk)
  rw [numsOf_of e1]
  have := h.some_ _ e2
  exact ⟨(nums_sub e2).nodup h.apart, this.1, this.2, fun n hn => (nums_sub e2).subset hn⟩
theorem fold_len {es : Es} : ∀ (kinds : List Str) (keys : List (List Int)), (∀ k ∈ kinds, (numsOf es k).length ≤ 2) → (kinds.foldl (keyStep es) keys).length ≤ keys.length * 2 ^ kinds.length
  | [], keys, _ => by simp
  | k :: ks, keys, h => by
    have h1 := fold_len ks (keyStep es keys k) fun x hx => h x (List.mem_cons_of_mem _ hx)
    have h2 := keyStep_len (h k List.mem_cons_self) keys
    rw [List.foldl_cons, List.length_cons, Nat.pow_succ]
    refine Nat.le_trans h1 ?_
    rw [Nat.mul_comm (2 ^ ks.length) 2, ← Nat.mul_assoc]
    exact Nat.mul_le_mul_right _ h2
structure RuleOk (d : Dor) (es : Es) (r : Rl) : Prop where
  told : ∃ kinds kind, Told d r.name kinds kind ∧ Fits es r.args kinds ∧ r.goal ∈ numsOf es kind
def Rl.nk (r : Rl) : Str × List Int := (r.name, r.args)
structure DRules (d : Dor) (es : Es) (rs : List Rl) : Prop where
  each : ∀ r ∈ rs, RuleOk d es r
  apart : (rs.map Rl.nk).Nodup
  many : rs.length ≤ 100
  two : 2 ≤ rs.length
section
variable {P : Program} {w : World} {K : PySem.W.Frag} {mg : Str → Option Value} {base : Heap}
structure RlsF (K : PySem.W.Frag) (G : Hp) (a f : Addr) (rs : List Rl) (us : List V) : Prop where
  ne : f ≠ a
  at_ : G f = some (.lst us)
  im : ImAll K G (rs.map Rl.d) us
theorem RlsF.mono {G G' : Hp} {a f c : Addr} {rs : List Rl} {us : List V} (r : RlsF K G a f rs us) (t : TapeAt G a c) (b : But a G G') : RlsF K G' a f rs us := ⟨r.ne, b _ _ r.ne r.at_, ImAll.mono (b.keep t.notup) _ _ r.im⟩
theorem RlsF.push {G : Hp} {a f : Addr} {rs : List Rl} {us : List V} {r : Rl} {v : V} (x : RlsF K G a f rs us) (iv : Im K G r.d v) : RlsF K (upd G f (.lst (us ++ [v]))) a f (rs ++ [r]) (us ++ [v]) := by
  have kp : Keep G (upd G f (.lst (us ++ [v]))) := Keep.upd (notup_lst x.at_)
  refine ⟨x.ne, upd_same, ?_⟩
  rw [List.map_append]
  exact ImAll.app (ImAll.mono kp _ _ x.im) (ia_cons (Im.mono kp _ _ iv) ia_nil)
theorem nk_push {rs : List Rl} {r : Rl} (nd : (rs.map Rl.nk).Nodup) (h : ∀ x ∈ rs, x.nk ≠ r.nk) : ((rs ++ [r]).map Rl.nk).Nodup := by
  rw [List.map_append]
  refine List.nodup_append.mpr ⟨nd, by simp, fun x hx y hy => ?_⟩
  obtain ⟨z, hz, rfl⟩ := List.mem_map.mp hx
  rw [List.mem_singleton.mp (by simpa using hy : y ∈ [r.nk])]
  exact h z hz
abbrev nm__law_rules : List Str := ["tape", "parts", "states", "found", "rare", "word", "name", "kinds", "kind", "key"]
theorem sc__law_rules : FnScope nm__law_rules ["tape", "parts", "states"] (defScope s__law_rules) := ⟨rfl, rfl, rfl, by decide +kernel, rfl, by decide +kernel, by decide +kernel⟩
def sp__law_rules (K : PySem.W.Frag) : Sp := fun vs H Q _ => ∃ (a c q : Addr) (pv : V) (d : Dor) (es : Es), vs = [.ref a, pv, .ref q] ∧ TapeAt H a c ∧ Im K H (partsD d) pv ∧ Drawn d ∧ StsAt H q es ∧ StsOk (("bit" : Str) :: d.sealed) es ∧
  ∀ G p vs rs, But a H G → TapeAt G a c → DRules d es rs → PlT G p vs → ImAll K G (rs.map Rl.d) vs → Q (.ref p) G
theorem ok__law_rules (T : Tx K mg) : FnOk P w K mg base CX0 3 T.f__law_rules T.d__law_rules ["tape", "parts", "states"] (sp__law_rules K) := by
  refine T.F__law_rules.ok sc__law_rules (fun vs H Q E h => ?_) (fun cdv A outer s H vs Q E hr h => ?_)
  · obtain ⟨a, c, q, pav, d, es, rfl, _⟩ := h
    rfl
  · obtain ⟨a, c, q, pav, d, es, rfl, ta, ipv, dr, st, so, k⟩ := h
    refine ⟨_, (pss_cons (ps_par (i := 3) (j := 4) rfl sc__law_rules.nd rfl rfl (by decide) rfl rfl (pa_cons (pe_lst pa_nil) (pa_cons (pe_call (ok__law_any T) (hr.mono (by decide)) (by rfl) T.m__law_any T.F__law_any.kp T.b__law_any .nil pass0 (pa_cons (pv 0) (pa_cons (pe_lst (pa_cons pe_int (pa_cons pe_int (pa_cons pe_int pa_nil)))) pa_nil))) pa_nil)) (by rfl))
    (pss_cons (ps_for PassesOwn.never rfl (wT (K := K) rfl (pd_tup (K := K) (pd_cons pd_str (pd_cons pd_str pd_nil)))) (pg_name (i := 5) sc__law_rules.nd rfl (Or.inl rfl))
      (pss_one (ps_expr (pe_bm PySem.F.plainAttrs_list PySem.F.slot_list_append PySem.F.type_list_append mt_append (pv 3) (pa_cons (pe_tup (pa_cons (pe_tup (pa_cons (pv 5) pa_nil)) (pa_cons (pe_call (ok__law_any T) (hr.mono (by decide)) (by rfl) T.m__law_any T.F__law_any.kp T.b__law_any .nil pass0 (pa_cons (pv 0) (pa_cons (pe_dget (hu_of hr) (pv 2) pe_str (fun _ _ => rfl)) pa_nil))) pa_nil))) pa_nil)))))
    (pss_cons (ps_for PassesOwn.never rfl (wT (K := K) rfl (pe_ix (iT (K := K) rfl) (pv 1) pe_int (fun _ _ => rfl))) (pg_tup rfl (pgs_cons (pg_name (i := 6) sc__law_rules.nd rfl (Or.inl rfl)) (pgs_cons (pg_name (i := 7) sc__law_rules.nd rfl (Or.inl rfl)) (pgs_cons (pg_name (i := 8) sc__law_rules.nd rfl (Or.inl rfl)) pgs_nil))))
      (pss_one (ps_for PassesOwn.never rfl (wL (K := K) rfl (pe_call (ok__law_keys T) (hr.mono (by decide)) (by rfl) T.m__law_keys T.F__law_keys.kp T.b__law_keys .nil pass0 (pa_cons (pv 2) (pa_cons (pv 6) (pa_cons (pv 7) pa_nil))))) (pg_name (i := 9) sc__law_rules.nd rfl (Or.inl rfl))
        (pss_one (ps_if (pt_cmpR op_gt (pe_call (ok__law_pick T) (hr.mono (by decide)) (by rfl) T.m__law_pick T.F__law_pick.kp T.b__law_pick .nil pass0 (pa_cons (pv 0) (pa_cons (pv 4) pa_nil))) pe_int (nomark _)) (pss_one (ps_expr (pe_bm PySem.F.plainAttrs_list PySem.F.slot_list_append PySem.F.type_list_append mt_append (pv 3) (pa_cons (pe_tup (pa_cons (pv 9) (pa_cons (pe_call (ok__law_any T) (hr.mono (by decide)) (by rfl) T.m__law_any T.F__law_any.kp T.b__law_any .nil pass0 (pa_cons (pv 0) (pa_cons (pe_dget (hu_of hr) (pv 2) (pv 8) (fun _ _ => rfl)) pa_nil))) pa_nil))) pa_nil)))) pss_nil)))))
    (pss_one (ps_ret (pe_callTy (cTupZ (K := K) rfl) (by rfl) T.t_tuple (by decide +kernel) (pa_cons (pe_call (ok__law_mixed T) (hr.mono (by decide)) (by rfl) T.m__law_mixed T.F__law_mixed.kp T.b__law_mixed .nil pass0 (pa_cons (pv 0) (pa_cons (pv 3) pa_nil))) pa_nil))))))), ?_⟩
    have gd := dr.good
    refine ⟨by show 0 ≤ sizeLine; decide, fun f hf => ?_⟩
    have s1 := sn (o := .lst []) hf
    have e1 : upd H f (.lst []) f = some (.lst []) := upd_same
    obtain ⟨fa, fc⟩ := ta.new hf
    generalize upd H f (.lst []) = H1 at s1 e1 ⊢
    refine ⟨_, rfl, by show 3 ≤ sizeLine; decide, fun l3 hl3 => ?_⟩
    have s2 := sn (o := .lst [.int 3, .int 6, .int 100]) hl3
    have e2 : upd H1 l3 (.lst [.int 3, .int 6, .int 100]) l3 = some (.lst [.int 3, .int 6, .int 100]) := upd_same
    have t1 := ta.mono s1
    obtain ⟨l3a, _⟩ := t1.new hl3
    generalize upd H1 l3 (.lst [.int 3, .int 6, .int 100]) = H2 at s2 e2 ⊢
    have t2 := t1.mono s2
    refine ⟨a, c, l3, _, rfl, t2, fun G b => .inl (SqL.of (b _ _ l3a e2)), by decide, by decide, fun G rv b3 t3 mem => ⟨_, _, rfl, ?_⟩⟩
    obtain ⟨rare, rfl, rare0, rare1⟩ : ∃ rare : Int, rv = .int rare ∧ 0 < rare ∧ rare ≤ 100 := by
      simp only [List.mem_cons, List.not_mem_nil, or_false] at mem
      rcases mem with rfl | rfl | rfl
      · exact ⟨3, rfl, by decide, by decide⟩
      · exact ⟨6, rfl, by decide, by decide⟩
      · exact ⟨100, rfl, by decide, by decide⟩
    have b03 : But a H G := (But.of (s1.trans s2)).trans b3
    have rf : RlsF K G a f [] [] := ⟨fa, b3 _ _ fa (s2 _ _ e1), ia_nil⟩
    clear t2 t1 mem e2 s2 e1 s1 hl3 b3
    have nf : ∀ {x : Addr} {u : HO}, H x = some u → x ≠ f := fun e => ne_of_none e hf
    obtain ⟨pw, xs, rfl, spw, ip⟩ := ipv.tup_
    obtain ⟨v0, xs, rfl, _, ip⟩ := ip.cons_
    obtain ⟨v1, xs, rfl, _, ip⟩ := ip.cons_
    obtain ⟨v2, xs, rfl, ih, ip⟩ := ip.cons_
    obtain ⟨v3, xs, rfl, _, ip⟩ := ip.cons_
    rw [ip.nil_] at spw
    clear ip
    obtain ⟨hp, hvs, rfl, shp, ihs⟩ := ih.tup_
    have kpG : ∀ {G : Hp}, But a H G → Keep H G := fun b => b.keep ta.notup
    intro G1 wv s4 iwv
    obtain ⟨wp, rfl, swp⟩ := strs_at2 (zs := ["no", "yes"]) iwv
    have b4 : But a H G1 := b03.trans (.of s4)
    have t4 := t3.mono s4
    refine ⟨wp, rfl, ⟨_, swp⟩, for_it (walk_tup (K := K) (a := wp) (xs := [("no" : Str), ("yes" : Str)].map V.str)) (fun i σ G => ∃ b, σ = [some (.ref a), some (.ref pw), some (.ref q), some (.ref f), some (.int rare), b, none, none, none, none] ∧ Keep G1 G ∧ But a H G ∧ TapeAt G a c ∧
      ∃ rs us, RlsF K G a f rs us ∧ (∀ r ∈ rs, RuleOk d es r ∧ r.name ∈ [("no" : Str), ("yes" : Str)].take i) ∧ (rs.map Rl.nk).Nodup ∧ rs.length = i) ?_ ?_ ?_ ?_⟩
    · exact ⟨_, rfl, Keep.refl _, b4, t4, [], [], rf.mono t3 (.of s4), fun r hr => (nomatch hr), List.nodup_nil, rfl⟩
    · rintro i σ G _ ⟨_, _, kk, _⟩
      exact kk.sq swp
    · rintro i y σ G X hi ⟨b, rfl, bG1, bG, tG, rs, us, rf, each, nd, rl⟩ ⟨rfl, hy⟩
      have hi2 : i < 2 := hi
      obtain ⟨z, ez, hz⟩ : ∃ z : Str, [("no" : Str), ("yes" : Str)][i]? = some z ∧ (z = "no" ∨ z = "yes") := by
        rcases (by omega : i = 0 ∨ i = 1) with rfl | rfl
        · exact ⟨_, rfl, .inl rfl⟩
        · exact ⟨_, rfl, .inr rfl⟩
      rw [List.getElem?_map, ez] at hy
      cases hy
      obtain ⟨sp1, sp2⟩ := look_mem (es := es) (k := "bit") (by rw [so.keys]; exact List.mem_cons_self)
      obtain ⟨elk, emem⟩ := sp2
      obtain ⟨ad, nums⟩ := sp1
      obtain ⟨n1, n2, n3, n4⟩ := so.nums (k := "bit") List.mem_cons_self
      rw [numsOf_of elk] at n1 n2 n3 n4
      have ev : valV es.kvs (Sum.inr "bit") = some (.ref ad) := by rw [kvs_look, elk]; rfl
      have ul := rf.im.len
      rw [List.length_map] at ul
      refine ⟨_, rfl, .inl ⟨rfl, _, SqL.of rf.at_⟩, _, rfl, by show 1 ≤ sizeLine; decide, fun t0 ht0 => ?_⟩
      have s5 := sn (o := .tup [.str z]) ht0
      have e5 : upd X t0 (.tup [.str z]) t0 = some (.tup [.str z]) := upd_same
      have t0a := (tG.new ht0).1
      generalize upd X t0 (.tup [.str z]) = X1 at s5 e5 ⊢
      have t5 := tG.mono s5
      have b5 := bG.trans (.of s5)
      have st5 := st.but ta b5
      refine ⟨_, rfl, _, rfl, q, _, rfl, dget_k st5.at_ ev, a, c, ad, nums.map V.int, rfl, t5, fun G b => .inl (SqL.of ((st5.but t5 b).each _ emem)), ?_, ?_, fun X2 v b6 t6 mem => ⟨by show 2 ≤ sizeLine; decide, fun t ht => ?_⟩⟩
      · rw [List.length_map]
        exact List.length_pos_iff.mpr n2
      · rw [List.length_map]
        show nums.length < _
        have : nums.length ≤ 2 := n3
        omega
      obtain ⟨goal, hg, rfl⟩ := List.mem_map.mp mem
      have s7 := sn (o := .tup [.ref t0, .int goal]) ht
      have e6 := b6 _ _ t0a e5
      have rf7 := (rf.mono tG (.of s5)).mono t5 b6 |>.mono t6 (.of s7)
      have t7 := t6.mono s7
      have b7 := (b5.trans b6).trans (.of s7)
      have im7 : Im K (upd X2 t (.tup [.ref t0, .int goal])) (Rl.d ⟨z, [], goal⟩) (.ref t) := im_tup (.inl (.inl upd_same)) (ia_cons (im_tup (.inl (.inl (s7 _ _ e6))) (ia_cons im_str ia_nil)) (ia_cons im_int ia_nil))
      have bb : Keep G1 (upd X2 t (.tup [.ref t0, .int goal])) := ((bG1.trans (sk s5)).trans (b6.keep t5.notup)).trans (sk s7)
      generalize upd X2 t (.tup [.ref t0, .int goal]) = X3 at rf7 t7 b7 im7 bb ⊢
      refine ⟨f, us, _, rfl, rfl, rf7.at_, by rw [sizeLine_eq]; omega, ?_⟩
      refine ⟨_, rfl, bb.trans (Keep.upd (notup_lst rf7.at_)), fun x u ne e => by rw [upd_ne (nf e)]; exact b7 _ _ ne e, t7.upd fa fc, rs ++ [⟨z, [], goal⟩], us ++ [.ref t], rf7.push im7, fun r hr => ?_, nk_push nd fun x hx e => ?_, by rw [List.length_append, rl]; rfl⟩
      · rcases List.mem_append.mp hr with hr | hr
        · obtain ⟨h1, h2⟩ := each r hr
          refine ⟨h1, ?_⟩
          rw [List.take_add_one]
          exact List.mem_append_left _ h2
        · rw [List.mem_singleton.mp hr]
          refine ⟨⟨[], "bit", .inl ⟨hz, rfl, rfl⟩, ⟨rfl, fun i x k h => by simp at h⟩, by rw [numsOf_of elk]; exact hg⟩, ?_⟩
          rw [List.take_add_one, ez]
          exact List.mem_append_right _ List.mem_cons_self
      · have h1 := (each x hx).2
        have h2 : x.name = z := congrArg Prod.fst e
        rw [h2] at h1
        have nd2 : [("no" : Str), ("yes" : Str)].Nodup := by decide
        rw [← List.take_append_drop i [("no" : Str), ("yes" : Str)], List.drop_eq_getElem_cons (by exact hi2 : i < [("no" : Str), ("yes" : Str)].length)] at nd2
        have h3 := (List.getElem?_eq_some_iff.mp ez).2
        exact (List.nodup_append.mp nd2).2.2 z h1 _ List.mem_cons_self h3.symm
    clear rf t3 b03 t4 b4 swp
    rintro σ G ⟨b, rfl, _, bG, tG, rs, us, rf, each, nd, rl⟩
    have shG := (kpG bG).sq shp
    have spG := (kpG bG).sq spw
    have hl7 : d.heads.length ≤ 7 := by
      obtain ⟨hs, pm, h⟩ := dr.some_
      rw [pm.length_eq, List.length_cons]
      have e1 : pool.length = 4 := rfl
      have e2 : (pool ++ tailH).length = 6 := rfl
      rcases h with ⟨_, h⟩ | ⟨_, h⟩
      · have := h.length_le
        omega
      · have := h.length_le
        omega
    have hl := ihs.len
    rw [List.length_map] at hl
    have rl2 : rs.length = 2 := rl
    refine ⟨_, rfl, pw, _, 2, _, rfl, rfl, spG, rfl, hp, rfl, ⟨_, shG⟩, for_it (walk_tup (K := K) (a := hp) (xs := hvs)) (fun i σ G => ∃ b1 b2 b3 b4 b5, σ = [some (.ref a), some (.ref pw), some (.ref q), some (.ref f), some (.int rare), b1, b2, b3, b4, b5] ∧ But a H G ∧ TapeAt G a c ∧
      ∃ rs us, RlsF K G a f rs us ∧ (∀ r ∈ rs, RuleOk d es r ∧ r.name ∈ [("no" : Str), ("yes" : Str)] ++ (d.heads.take i).map Hd.name) ∧ (rs.map Rl.nk).Nodup ∧ rs.length ≤ 2 + 8 * i ∧ 2 ≤ rs.length) ?_ ?_ ?_ ?_⟩
    · exact ⟨_, _, _, _, _, rfl, bG, tG, rs, us, rf, fun r hr => ⟨(each r hr).1, by rw [List.take_zero, List.map_nil, List.append_nil]; exact (each r hr).2⟩, nd, by omega, by omega⟩
    · rintro i σ G _ ⟨_, _, _, _, _, _, b, _⟩
      exact (kpG b).sq shp
    · clear rf each nd rl rl2 bG tG shG spG
      rintro i y σ G X hi ⟨b1, b2, b3, b4, b5, rfl, bG, tG, rs, us, rf, each, nd, rl, r2⟩ ⟨rfl, hy⟩
      obtain ⟨h, eh⟩ : ∃ h, d.heads[i]? = some h := ⟨_, List.getElem?_eq_getElem (by omega)⟩
      obtain ⟨y', ey, iy⟩ := ihs.get (i := i) (d := h.d) (by rw [List.getElem?_map, eh]; rfl)
      rw [hy] at ey
      cases ey
      have hm := List.mem_of_getElem? eh
      have iy := Im.mono (kpG bG) _ _ iy
      obtain ⟨ph, xs, rfl, sph, ix⟩ := iy.tup_
      obtain ⟨w0, xs, rfl, i0, ix⟩ := ix.cons_
      obtain ⟨w1, xs, rfl, i1, ix⟩ := ix.cons_
      obtain ⟨w2, xs, rfl, i2, ix⟩ := ix.cons_
      rw [ix.nil_, i0.str_, i2.str_] at sph
      refine ⟨ph, _, rfl, sph, rfl, _, _, rfl, _, _, rfl, _, _, rfl, rfl, ?_⟩
      have hk : ∀ k ∈ h.kinds ++ [h.kind], k ∈ es.map Prod.fst := fun k hk => by rw [so.keys]; exact gd.headsK h hm k hk
      refine ⟨_, rfl, _, rfl, _, rfl, q, h.name, w1, h.kinds, es, rfl, st.but ta bG, i1, (gd.headsN h hm).2.2.2, fun k hk2 => hk k (List.mem_append_left _ hk2), fun e he => (so.some_ e he).2, fun X2 kl ks s5 nkl ekl iks => ?_⟩
      have kin : ∀ k ∈ h.kinds ++ [h.kind], k ∈ ("bit" : Str) :: d.sealed := gd.headsK h hm
      have kd8 : (keysL es h.kinds).length ≤ 8 := by
        refine Nat.le_trans (fold_len h.kinds [[]] fun k hk2 => (so.nums (kin k (List.mem_append_left _ hk2))).2.2.1) ?_
        rw [List.length_singleton, Nat.one_mul]
        exact Nat.le_trans (Nat.pow_le_pow_right (by decide) (gd.headsN h hm).2.2.2) (by decide)
      have knd : (keysL es h.kinds).Nodup := fold_nodup h.kinds [[]] (fun k hk2 => (so.nums (kin k (List.mem_append_left _ hk2))).1) (by simp)
      have kla : kl ≠ a := fun z => by
        obtain ⟨_, _, _, _, _, g⟩ := tG
        rw [z, g.at_] at nkl
        cases nkl
      have klf : kl ≠ f := fun z => by rw [z, rf.at_] at nkl; cases nkl
      have ksl := iks.len
      rw [List.length_map] at ksl
      have b0 := bG.trans (.of s5)
      have t0 := tG.mono s5
      have notIn : h.name ∉ [("no" : Str), ("yes" : Str)] ++ (d.heads.take i).map Hd.name := fun hx => by
        rcases List.mem_append.mp hx with hx | hx
        · have := gd.headsN h hm
          simp only [List.mem_cons, List.not_mem_nil, or_false] at hx
          rcases hx with e | e
          · exact this.2.1 e
          · exact this.2.2.1 e
        · have h2 := gd.headsU
          have hlt : i < d.heads.length := (List.getElem?_eq_some_iff.mp eh).1
          rw [← List.take_append_drop i d.heads, List.drop_eq_getElem_cons hlt, List.map_append, List.map_cons] at h2
          have h3 := (List.getElem?_eq_some_iff.mp eh).2
          exact (List.nodup_append.mp h2).2.2 _ hx _ List.mem_cons_self (by rw [h3])
      obtain ⟨⟨ad, nums⟩, elk, emem⟩ := look_mem (hk h.kind (List.mem_append_right _ List.mem_cons_self))
      obtain ⟨n1, n2, n3, n4⟩ := so.nums (kin h.kind (List.mem_append_right _ List.mem_cons_self))
      rw [numsOf_of elk] at n1 n2 n3 n4
      have ev : valV es.kvs (Sum.inr h.kind) = some (.ref ad) := by rw [kvs_look, elk]; rfl
      generalize hkeys : keysL es h.kinds = keys at iks kd8 knd ksl
      refine ⟨kl, rfl, ⟨_, SqL.of ekl⟩, for_it (walk_list (K := K) (a := kl) (xs := ks)) (fun j σ G => ∃ b1 b5, σ = [some (.ref a), some (.ref pw), some (.ref q), some (.ref f), some (.int rare), b1, some (.str h.name), some w1, some (.str h.kind), b5] ∧ Keep X2 G ∧ G kl = some (.lst ks) ∧ But a H G ∧ TapeAt G a c ∧
        ∃ rs us, RlsF K G a f rs us ∧ (∀ r ∈ rs, RuleOk d es r ∧ (r.name ∈ [("no" : Str), ("yes" : Str)] ++ (d.heads.take i).map Hd.name ∨ (r.name = h.name ∧ r.args ∈ keys.take j))) ∧ (rs.map Rl.nk).Nodup ∧ rs.length ≤ 2 + 8 * i + j ∧ 2 ≤ rs.length) ?_ ?_ ?_ ?_⟩
      · exact ⟨_, _, rfl, Keep.refl _, ekl, b0, t0, rs, us, rf.mono tG (.of s5), fun r hr => ⟨(each r hr).1, .inl (each r hr).2⟩, nd, by omega, r2⟩
      · rintro j σ G _ ⟨_, _, _, _, e, _⟩
        exact SqL.of e
      · clear rf each nd rl r2 bG tG b0 t0
        rintro j y σ G X' hj ⟨c1, c5, rfl, kX, ekl', bG, tG, rs, us, rf, each, nd, rl, r2⟩ ⟨rfl, hy⟩
        obtain ⟨key, ek⟩ : ∃ key, keys[j]? = some key := ⟨_, List.getElem?_eq_getElem (by omega)⟩
        obtain ⟨y', ey, ik⟩ := iks.get (i := j) (d := keyD h.name key) (by rw [List.getElem?_map, ek]; rfl)
        rw [hy] at ey
        cases ey
        have ik := Im.mono kX _ _ ik
        have ul := rf.im.len
        rw [List.length_map] at ul
        have mono1 : ∀ r ∈ rs, RuleOk d es r ∧ (r.name ∈ [("no" : Str), ("yes" : Str)] ++ (d.heads.take i).map Hd.name ∨ (r.name = h.name ∧ r.args ∈ keys.take (j + 1))) := fun r hr => by
          obtain ⟨h1, h2⟩ := each r hr
          refine ⟨h1, h2.imp id fun ⟨h3, h4⟩ => ⟨h3, ?_⟩⟩
          rw [List.take_add_one]
          exact List.mem_append_left _ h4
        refine ⟨_, rfl, _, rfl, a, c, rare, rfl, tG, rare0, by omega, fun G1 n b6 t6 n0 n1' => ⟨_, _, rfl, rfl, _, rfl, ?_⟩⟩
        have rf6 := rf.mono tG b6
        have kX6 := kX.trans (b6.keep tG.notup)
        have ekl6 := b6 _ _ kla ekl'
        have bG6 := bG.trans b6
        by_cases hn : n > 0
        case neg => exact itf (decide_eq_false hn) ⟨_, _, rfl, kX6, ekl6, bG6, t6, rs, us, rf6, mono1, nd, by omega, r2⟩
        have st6 := st.but ta bG6
        have ik6 := Im.mono (b6.keep tG.notup) _ _ ik
        refine itt (decide_eq_true hn) ⟨_, rfl, .inl ⟨rfl, _, SqL.of rf6.at_⟩, _, rfl, _, rfl, _, rfl, _, rfl, q, _, rfl, dget_k st6.at_ ev, a, c, ad, nums.map V.int, rfl, t6, fun G b => .inl (SqL.of ((st6.but t6 b).each _ emem)), ?_, ?_, fun G2 v b7 t7 mem => ⟨by show 2 ≤ sizeLine; decide, fun t ht => ?_⟩⟩
        · rw [List.length_map]
          exact List.length_pos_iff.mpr n2
        · rw [List.length_map]
          have : nums.length ≤ 2 := n3
          omega
        obtain ⟨goal, hg, rfl⟩ := List.mem_map.mp mem
        have s8 := sn (o := .tup [y, .int goal]) ht
        have rf8 := (rf6.mono t6 b7).mono t7 (.of s8)
        have t8 := t7.mono s8
        have b8 := (bG6.trans b7).trans (.of s8)
        have kX8 := (kX6.trans (b7.keep t6.notup)).trans (sk s8)
        have ekl8 := s8 _ _ (b7 _ _ kla ekl6)
        have im8 : Im K (upd G2 t (.tup [y, .int goal])) (Rl.d ⟨h.name, key, goal⟩) (.ref t) := im_tup (.inl (.inl upd_same)) (ia_cons (Im.mono ((b7.keep t6.notup).trans (sk s8)) _ _ ik6) (ia_cons im_int ia_nil))
        generalize upd G2 t (.tup [y, .int goal]) = G3 at rf8 t8 b8 kX8 ekl8 im8 ⊢
        refine ⟨f, us, _, rfl, rfl, rf8.at_, by rw [sizeLine_eq]; omega, ?_⟩
        refine ⟨_, _, rfl, kX8.trans (Keep.upd (notup_lst rf8.at_)), by rw [upd_ne klf]; exact ekl8, fun x u ne e => by rw [upd_ne (nf e)]; exact b8 _ _ ne e, t8.upd fa fc, rs ++ [⟨h.name, key, goal⟩], us ++ [.ref t], rf8.push im8, fun r hr => ?_, nk_push nd fun x hx e => ?_, by rw [List.length_append, List.length_singleton]; omega, by rw [List.length_append]; omega⟩
        · rcases List.mem_append.mp hr with hr | hr
          · exact mono1 r hr
          · rw [List.mem_singleton.mp hr]
            refine ⟨⟨h.kinds, h.kind, .inr ⟨h, hm, rfl, rfl, rfl⟩, keys_fit (by rw [hkeys]; exact List.mem_of_getElem? ek), by rw [numsOf_of elk]; exact hg⟩, .inr ⟨rfl, ?_⟩⟩
            rw [List.take_add_one, ek]
            exact List.mem_append_right _ List.mem_cons_self
        · have e1 : x.name = h.name := congrArg Prod.fst e
          have e2 : x.args = key := congrArg Prod.snd e
          rcases (each x hx).2 with h1 | ⟨_, h1⟩
          · rw [e1] at h1
            exact notIn h1
          · rw [e2] at h1
            have hlt : j < keys.length := (List.getElem?_eq_some_iff.mp ek).1
            have h2 := knd
            rw [← List.take_append_drop j keys, List.drop_eq_getElem_cons hlt] at h2
            exact (List.nodup_append.mp h2).2.2 _ h1 _ List.mem_cons_self (List.getElem?_eq_some_iff.mp ek).2.symm
      · rintro σ G ⟨c1, c5, rfl, kX, ekl', bG, tG, rs, us, rf, each, nd, rl, r2⟩
        refine ⟨_, _, _, _, _, rfl, bG, tG, rs, us, rf, fun r hr => ⟨(each r hr).1, ?_⟩, nd, by rw [ksl] at rl; omega, r2⟩
        rw [List.take_add_one, eh, List.map_append, ← List.append_assoc]
        rcases (each r hr).2 with h1 | ⟨h1, _⟩
        · exact List.mem_append_left _ h1
        · rw [h1]
          exact List.mem_append_right _ List.mem_cons_self
    · rintro σ G ⟨b1, b2, b3, b4, b5, rfl, bG, tG, rs, us, rf, each, nd, rl, r2⟩
      have ul := rf.im.len
      rw [List.length_map] at ul
      have rl : rs.length ≤ 2 + 8 * hvs.length := rl
      refine ⟨_, rfl, _, rfl, a, c, f, us, rfl, tG, .inl (SqL.of rf.at_), by omega, fun G1 q zs b1 t1 pm nq eq => ⟨q, _, rfl, SqL.of eq, fun t G2 ht s2 pt => ?_⟩⟩
      obtain ⟨rs2, pm2, im2⟩ := im_perm pm (ImAll.mono (Keep.refl _) _ _ rf.im)
      exact k _ _ _ rs2 ((bG.trans b1).trans (.of s2)) (t1.mono s2) ⟨fun r hr => (each r (pm2.mem_iff.mp hr)).1, (pm2.map Rl.nk).nodup_iff.mpr nd, by rw [pm2.length_eq]; omega, by rw [pm2.length_eq]; exact r2⟩ pt (ImAll.mono ((b1.keep tG.notup).trans (sk s2)) _ _ im2)
end
end T82
namespace T82
open PySem L2
/-! ### the law's own text -/
theorem cStr {X : Cx} : CallR X (.type "str") (fun xs H Q => (∃ i, xs = [.int i] ∧ i.natAbs.log2 < 1920 ∧ Q (.str (toString i)) H) ∨ ∃ a, xs = [.str a] ∧ Q (.str a) H) := call_str_int.or SkE.call_str_str
theorem joinL_app (S : List Nat) : ∀ {as bs : List (List Nat)}, as ≠ [] → bs ≠ [] → TL.joinL S (as ++ bs) = TL.joinL S as ++ (S ++ TL.joinL S bs)
  | [], _, h, _ => absurd rfl h
  | [a], [], _, h => absurd rfl h
  | [a], b :: bs, _, _ => by
    show a ++ (S ++ TL.joinL S (b :: bs)) = a ++ (S ++ TL.joinL S (b :: bs))
    rfl
  | a :: a' :: as, bs, _, h => by
    show a ++ (S ++ TL.joinL S ((a' :: as) ++ bs)) = (a ++ (S ++ TL.joinL S (a' :: as))) ++ (S ++ TL.joinL S bs)
    rw [joinL_app S (as := a' :: as) (by simp) h]
    simp [List.append_assoc]
theorem join_app (y : Str) {as bs : List Str} (ha : as ≠ []) (hb : bs ≠ []) : Txt.join y (as ++ bs) = Txt.join y as ++ y ++ Txt.join y bs := by
  refine TL.ext_tl ?_
  rw [TL.join_eq, TL.join_eq, TL.join_eq, TL.tl_append, TL.tl_append, TL.tl_join, TL.tl_join, TL.tl_join, List.map_append, joinL_app _ (by simpa using ha) (by simpa using hb), List.append_assoc]
theorem join_one (y z : Str) : Txt.join y [z] = z := by
  rw [TL.join_eq]
  rfl
def ruleP (r : Rl) : List Str := [("rule" : Str)] ++ (r.name :: r.args.map strI) ++ [("->" : Str), strI r.goal]
theorem ruleP_text (r : Rl) : Txt.join " " (ruleP r) = r.text := by
  unfold ruleP Rl.text Rl.head
  rw [join_app " " (by simp) (by simp), join_app " " (by simp) (by simp), join_one, show [("->" : Str), strI r.goal] = [("->" : Str)] ++ [strI r.goal] from rfl, join_app " " (by simp) (by simp), join_one, join_one]
  refine TL.ext_tl ?_
  simp only [TL.tl_append]
  have e1 : TL.tl ("rule " : Str) = TL.tl ("rule" : Str) ++ TL.tl (" " : Str) := by decide +kernel
  have e2 : TL.tl (" -> " : Str) = TL.tl (" " : Str) ++ (TL.tl ("->" : Str) ++ TL.tl (" " : Str)) := by decide +kernel
  rw [e1, e2]
  simp only [List.append_assoc]
def lastP (is : List Int) : List Str := [("last" : Str)] ++ is.map strI
theorem lastP_tl : ∀ (is : List Int), TL.joinL (TL.tl " ") (is.map fun i => TL.tl (strI i)) = ((TL.joinL (TL.tl "") (is.map fun i => TL.tl ((" " : Str) ++ strI i))).drop 1)
  | [] => rfl
  | [i] => by
    show TL.tl (strI i) = (TL.tl ((" " : Str) ++ strI i)).drop 1
    rw [TL.tl_append, show TL.tl (" " : Str) = [32] by decide +kernel]
    rfl
  | i :: j :: is => by
    have ih := lastP_tl (j :: is)
    show TL.tl (strI i) ++ (TL.tl " " ++ TL.joinL (TL.tl " ") ((j :: is).map fun i => TL.tl (strI i))) = (TL.tl ((" " : Str) ++ strI i) ++ (TL.tl "" ++ TL.joinL (TL.tl "") ((j :: is).map fun i => TL.tl ((" " : Str) ++ strI i)))).drop 1
    rw [ih, TL.tl_append, show TL.tl (" " : Str) = [32] by decide +kernel, show TL.tl ("" : Str) = [] by decide +kernel]
    have e : (TL.joinL [] ((j :: is).map fun i => TL.tl ((" " : Str) ++ strI i))) = [32] ++ (TL.joinL [] ((j :: is).map fun i => TL.tl ((" " : Str) ++ strI i))).drop 1 := by
      cases is with
      | nil =>
        show TL.tl ((" " : Str) ++ strI j) = [32] ++ (TL.tl ((" " : Str) ++ strI j)).drop 1
        rw [TL.tl_append, show TL.tl (" " : Str) = [32] by decide +kernel]
        rfl
      | cons k is =>
        show TL.tl ((" " : Str) ++ strI j) ++ _ = [32] ++ (TL.tl ((" " : Str) ++ strI j) ++ _).drop 1
        rw [TL.tl_append, show TL.tl (" " : Str) = [32] by decide +kernel]
        rfl
    show TL.tl (strI i) ++ ([32] ++ (TL.joinL [] ((j :: is).map fun i => TL.tl ((" " : Str) ++ strI i))).drop 1) = _
    rw [← e]
    rfl
theorem lastP_text (is : List Int) : Txt.join " " (lastP is) = lastT is := by
  unfold lastP lastT
  cases is with
  | nil =>
    rw [List.map_nil, List.append_nil, join_one]
    decide +kernel
  | cons i is =>
    rw [join_app " " (by simp) (by simp), join_one]
    refine TL.ext_tl ?_
    rw [TL.tl_append, TL.tl_append, TL.tl_append, TL.join_eq, TL.join_eq, TL.tl_join, TL.tl_join, List.map_map, List.map_map]
    have := lastP_tl (i :: is)
    rw [show (TL.tl ∘ strI) = fun i => TL.tl (strI i) from rfl, this, List.append_assoc]
    congr 1
    rw [show (TL.tl ∘ fun i => (" " : Str) ++ strI i) = fun i => TL.tl ((" " : Str) ++ strI i) from rfl]
    cases is with
    | nil =>
      show TL.tl " " ++ (TL.tl ((" " : Str) ++ strI i)).drop 1 = TL.tl ((" " : Str) ++ strI i)
      rw [TL.tl_append, show TL.tl (" " : Str) = [32] by decide +kernel]
      rfl
    | cons k is =>
      show TL.tl " " ++ (TL.tl ((" " : Str) ++ strI i) ++ _).drop 1 = TL.tl ((" " : Str) ++ strI i) ++ _
      rw [TL.tl_append, show TL.tl (" " : Str) = [32] by decide +kernel]
      rfl
section
variable {P : Program} {w : World} {K : PySem.W.Frag} {mg : Str → Option Value} {base : Heap}
theorem ruleP_sum {r : Rl} (h : r.fit) : ((ruleP r).map Str.length).sum + (ruleP r).length * (" " : Str).length ≤ 1000 := by
  have h1 := name_len h.name
  have h2 := sum_le (f := Str.length) (b := 2) (as := r.args.map strI) fun z hz => by
    obtain ⟨a, ha, rfl⟩ := List.mem_map.mp hz
    exact strI_len (h.args a ha)
  have h3 := h.few
  have h4 : (" " : Str).length = 1 := by decide +kernel
  have h5 : ("rule" : Str).length = 4 := by decide +kernel
  have h6 : ("->" : Str).length = 2 := by decide +kernel
  have h7 := strI_len h.goal
  unfold ruleP
  rw [h4]
  simp only [List.map_append, List.map_cons, List.map_nil, List.sum_append, List.sum_cons, List.sum_nil, List.length_append, List.length_cons, List.length_nil, List.length_map] at h2 ⊢
  omega
theorem lastP_sum {is : List Int} (h : ∀ a ∈ is, inT a) (l : is.length ≤ 60) : ((lastP is).map Str.length).sum + (lastP is).length * (" " : Str).length ≤ 1000 := by
  have h2 := sum_le (f := Str.length) (b := 2) (as := is.map strI) fun z hz => by
    obtain ⟨a, ha, rfl⟩ := List.mem_map.mp hz
    exact strI_len (h a ha)
  have h4 : (" " : Str).length = 1 := by decide +kernel
  have h5 : ("last" : Str).length = 4 := by decide +kernel
  unfold lastP
  rw [h4]
  simp only [List.map_append, List.map_cons, List.map_nil, List.sum_append, List.sum_cons, List.sum_nil, List.length_append, List.length_cons, List.length_nil, List.length_map] at h2 ⊢
  omega
abbrev nm__law_text : List Str := ["rules", "last", "lines", "key", "goal", "line", "one"]
theorem sc__law_text : FnScope nm__law_text ["rules", "last"] (defScope s__law_text) := ⟨rfl, rfl, rfl, by decide +kernel, rfl, by decide +kernel, by decide +kernel⟩
def sp__law_text (K : PySem.W.Frag) : Sp := fun vs H Q _ => ∃ (u v : V) (rs : List Rl) (last : List Int), vs = [u, v] ∧ Im K H (.tuple (rs.map Rl.d)) u ∧ Im K H (.tuple (last.map PyData.int)) v ∧ (∀ r ∈ rs, r.fit) ∧ rs.length ≤ 600 ∧ last.length ≤ 60 ∧ (∀ a ∈ last, inT a) ∧ ∀ G, Same H G → Q (.str (machT rs last)) G
theorem ok__law_text (T : Tx K mg) : FnOk P w K mg base CX0 1 T.f__law_text T.d__law_text ["rules", "last"] (sp__law_text K) := by
  refine T.F__law_text.ok sc__law_text (fun vs H Q E h => ?_) (fun cdv A outer s H vs Q E hr h => ?_)
  · obtain ⟨u, v, rs, last, rfl, _⟩ := h
    rfl
  · obtain ⟨u, v, rs, last, rfl, iu, iv, fit, few, lfew, lfit, k⟩ := h
    refine ⟨_, (pss_cons (ps_set (i := 2) sc__law_text.nd rfl (.inl rfl) (pe_lst pa_nil))
    (pss_cons (ps_for PassesOwn.never rfl (wT (K := K) rfl (pv 0)) (pg_tup rfl (pgs_cons (pg_name (i := 3) sc__law_text.nd rfl (Or.inl rfl)) (pgs_cons (pg_name (i := 4) sc__law_text.nd rfl (Or.inl rfl)) pgs_nil)))
      (pss_one (ps_expr (pe_bm PySem.F.plainAttrs_list PySem.F.slot_list_append PySem.F.type_list_append mt_append (pv 2) (pa_cons (pe_join pe_str (pe_op op_cat (pe_op op_cat (pe_lst (pa_cons pe_str pa_nil)) (pe_lc (own := [("one", 6)]) (g := gName 6) (tt := tYes) rfl sc__law_text.nd (wT (K := K) rfl (pv 3)) (blkOk_by (N := nm__law_text) (sc := defScope s__law_text) (by decide +kernel)) (fun _ _ _ _ _ => (pg_name (i := 6) sc__law_text.nd rfl (Or.inl rfl))) (fun _ _ _ _ _ => pts_nil) (fun _ _ _ _ _ => (pe_callTy cStr (by rfl) T.t_str (by decide +kernel) (pa_cons (pv 6) pa_nil))))) (pe_lst (pa_cons pe_str (pa_cons (pe_callTy cStr (by rfl) T.t_str (by decide +kernel) (pa_cons (pv 4) pa_nil)) pa_nil))))) pa_nil)))))
    (pss_one (ps_ret (pe_join pe_str (pe_lc (own := [("line", 5)]) (g := gName 5) (tt := tYes) rfl sc__law_text.nd (wL (K := K) rfl (pe_op op_cat (pv 2) (pe_lst (pa_cons (pe_join pe_str (pe_op op_cat (pe_lst (pa_cons pe_str pa_nil)) (pe_lc (own := [("one", 6)]) (g := gName 6) (tt := tYes) rfl sc__law_text.nd (wT (K := K) rfl (pv 1)) (blkOk_by (N := nm__law_text) (sc := defScope s__law_text) (by decide +kernel)) (fun _ _ _ _ _ => (pg_name (i := 6) sc__law_text.nd rfl (Or.inl rfl))) (fun _ _ _ _ _ => pts_nil) (fun _ _ _ _ _ => (pe_callTy cStr (by rfl) T.t_str (by decide +kernel) (pa_cons (pv 6) pa_nil)))))) pa_nil)))) (blkOk_by (N := nm__law_text) (sc := defScope s__law_text) (by decide +kernel)) (fun _ _ _ _ _ => (pg_name (i := 5) sc__law_text.nd rfl (Or.inl rfl))) (fun _ _ _ _ _ => pts_nil) (fun _ _ _ _ _ => (pe_op op_add_str (pv 5) pe_str)))))))), ?_⟩
    obtain ⟨rp, rvs, rfl, srp, iar⟩ := iu.tup_
    obtain ⟨la, rfl, sla⟩ := ints_at2 iv
    have rlen := iar.len
    rw [List.length_map] at rlen
    refine ⟨by show 0 ≤ sizeLine; decide, fun lp hlp => ?_⟩
    have s1 := sn (o := .lst []) hlp
    have e1 : upd H lp (.lst []) lp = some (.lst []) := upd_same
    generalize upd H lp (.lst []) = H1 at s1 e1 ⊢
    refine ⟨_, rfl, rp, rfl, ⟨_, keepT s1 srp⟩, ?_⟩
    refine for_it (walk_tup (K := K) (a := rp) (xs := rvs)) (fun i σ G => (∃ a b, σ = [some (.ref rp), some (.ref la), some (.ref lp), a, b, none, none]) ∧ But lp H1 G ∧ G lp = some (.lst (((rs.take i).map Rl.text).map V.str)))
      ⟨⟨_, _, rfl⟩, fun _ _ _ e => e, by rw [List.take_zero]; exact e1⟩ (fun i σ G _ z => keepT (sTr s1 z.2.1 hlp (Same.refl _)) srp) ?_ ?_
    · rintro i y σ G G' hi ⟨⟨a, b, rfl⟩, bG, eG⟩ ⟨rfl, hy⟩
      have sG : Same H G' := sTr s1 bG hlp (Same.refl _)
      obtain ⟨r, er⟩ : ∃ r, rs[i]? = some r := ⟨_, List.getElem?_eq_getElem (by omega)⟩
      obtain ⟨y', e2', im1⟩ := iar.get (i := i) (d := r.d) (by rw [List.getElem?_map, er]; rfl)
      rw [hy] at e2'
      cases e2'
      obtain ⟨p, q, rfl, sp, sq⟩ := rl_at im1
      have ft := fit r (List.mem_of_getElem? er)
      refine ⟨p, _, rfl, keepT sG sp, rfl, _, _, rfl, _, _, rfl, rfl, ?_⟩
      have sq1 := keepT sG sq
      refine ⟨_, rfl, .inl ⟨rfl, _, SqL.of eG⟩, ?_⟩
      refine ⟨⟨_, rfl⟩, by show 1 ≤ sizeLine; decide, fun l1 hl1 => ?_⟩
      have s2 := sn (o := .lst [.str "rule"]) hl1
      have e2 : upd G' l1 (.lst [.str "rule"]) l1 = some (.lst [.str "rule"]) := upd_same
      generalize upd G' l1 (.lst [.str "rule"]) = G2 at s2 e2 ⊢
      have sq2 := keepT s2 sq1
      refine ⟨_, rfl, q, rfl, ⟨_, sq2⟩, fun D hD => lc_strs (K := K) (walk_tup (K := K) (a := q) (xs := .str r.name :: r.args.map V.int)) (r.name :: r.args.map strI) (by simp) hD (by have := ft.few; rw [List.length_cons, List.length_map]; omega) (fun H8 hb => keepT (hb.same hD) sq2) ?_ ?_⟩
      · rintro j z y H0 H8 hz hb hne ⟨rfl, hy⟩
        cases j with
        | zero =>
          cases hy
          cases hz
          exact ⟨Same.refl _, fun N hN => ⟨rfl, _, rfl, .inr ⟨_, rfl, hN _ (Same.refl _)⟩⟩⟩
        | succ j =>
          rw [List.getElem?_cons_succ, List.getElem?_map] at hz hy
          cases ea : r.args[j]? with
          | none => rw [ea] at hy; cases hy
          | some a =>
            rw [ea] at hz hy
            cases hz
            cases hy
            exact ⟨Same.refl _, fun N hN => ⟨rfl, _, rfl, .inl ⟨a, rfl, strI_log (ft.args a (List.mem_of_getElem? ea)), hN _ (Same.refl _)⟩⟩⟩
      intro G4 b4 e4
      have s4 := b4.same hD
      refine ⟨l1, D, _, _, rfl, rfl, s4 _ _ e2, e4, ?_, fun l2 hl2 => ?_⟩
      · have := ft.few
        rw [sizeLine_eq]
        simp only [List.length_map, List.length_cons, List.length_nil]
        omega
      have s5 := sn (o := .lst ([.str "rule"] ++ (r.name :: r.args.map strI).map V.str)) hl2
      have e5 : upd G4 l2 (.lst ([.str "rule"] ++ (r.name :: r.args.map strI).map V.str)) l2 = some (.lst ([.str "rule"] ++ (r.name :: r.args.map strI).map V.str)) := upd_same
      generalize upd G4 l2 (.lst ([.str "rule"] ++ (r.name :: r.args.map strI).map V.str)) = G5 at s5 e5 ⊢
      refine ⟨_, rfl, .inl ⟨r.goal, rfl, strI_log ft.goal, by show 2 ≤ sizeLine; decide, fun l3 hl3 => ?_⟩⟩
      have s6 := sn (o := .lst [.str "->", .str (toString r.goal)]) hl3
      have e6 : upd G5 l3 (.lst [.str "->", .str (toString r.goal)]) l3 = some (.lst [.str "->", .str (toString r.goal)]) := upd_same
      generalize upd G5 l3 (.lst [.str "->", .str (toString r.goal)]) = G6 at s6 e6 ⊢
      refine ⟨l2, l3, _, _, rfl, rfl, s6 _ _ e5, e6, ?_, fun l4 hl4 => ?_⟩
      · have := ft.few
        rw [sizeLine_eq]
        simp only [List.length_map, List.length_cons, List.length_nil, List.length_append]
        omega
      have e7 : upd G6 l4 (.lst ([.str "rule"] ++ (r.name :: r.args.map strI).map V.str ++ [.str "->", .str (toString r.goal)])) l4 = some (.lst ((ruleP r).map V.str)) := by
        rw [upd_same]
        unfold ruleP
        rw [List.map_append, List.map_append]
        rfl
      have s7 := sn (o := .lst ([.str "rule"] ++ (r.name :: r.args.map strI).map V.str ++ [.str "->", .str (toString r.goal)])) hl4
      generalize upd G6 l4 (.lst ([.str "rule"] ++ (r.name :: r.args.map strI).map V.str ++ [.str "->", .str (toString r.goal)])) = G7 at s7 e7 ⊢
      refine ⟨_, l4, ruleP r, rfl, rfl, .inl (SqL.of e7), Nat.le_trans (ruleP_sum ft) (by decide), ?_⟩
      rw [ruleP_text]
      have s27 := s2.trans (s4.trans (s5.trans (s6.trans s7)))
      refine ⟨lp, _, _, rfl, rfl, s27 _ _ eG, ?_, ?_⟩
      · rw [List.length_map, List.length_map, List.length_take, sizeLine_eq]
        omega
      refine ⟨⟨_, _, rfl⟩, fun c u ne e => by rw [upd_ne ne]; exact s27 _ _ (bG _ _ ne e), ?_⟩
      rw [upd_same, List.take_add_one, er]
      simp only [Option.toList_some, List.map_append]
      rfl
    rintro σ G ⟨⟨a, b, rfl⟩, bG, eG⟩
    rw [rlen, List.take_length] at eG
    have sG : Same H G := sTr s1 bG hlp (Same.refl _)
    have sla1 := keepT sG sla
    refine ⟨⟨_, rfl⟩, _, rfl, ⟨_, rfl⟩, by show 1 ≤ sizeLine; decide, fun l1 hl1 => ?_⟩
    have s2 := sn (o := .lst [.str "last"]) hl1
    have e2 : upd G l1 (.lst [.str "last"]) l1 = some (.lst [.str "last"]) := upd_same
    generalize upd G l1 (.lst [.str "last"]) = G2 at s2 e2 ⊢
    have sla2 := keepT s2 sla1
    refine ⟨_, rfl, la, rfl, ⟨_, sla2⟩, fun D hD => lc_strs (K := K) (walk_tup (K := K) (a := la) (xs := last.map V.int)) (last.map strI) (by simp) hD (by rw [List.length_map]; omega) (fun H8 hb => keepT (hb.same hD) sla2) ?_ ?_⟩
    · rintro j z y H0 H8 hz hb hne ⟨rfl, hy⟩
      rw [List.getElem?_map] at hz hy
      cases ea : last[j]? with
      | none => rw [ea] at hy; cases hy
      | some a =>
        rw [ea] at hz hy
        cases hz
        cases hy
        exact ⟨Same.refl _, fun N hN => ⟨rfl, _, rfl, .inl ⟨a, rfl, strI_log (lfit a (List.mem_of_getElem? ea)), hN _ (Same.refl _)⟩⟩⟩
    intro G4 b4 e4
    have s4 := b4.same hD
    refine ⟨l1, D, _, _, rfl, rfl, s4 _ _ e2, e4, ?_, fun l2 hl2 => ?_⟩
    · rw [sizeLine_eq]
      simp only [List.length_map, List.length_cons, List.length_nil]
      omega
    have e5 : upd G4 l2 (.lst ([.str "last"] ++ (last.map strI).map V.str)) l2 = some (.lst ((lastP last).map V.str)) := by
      rw [upd_same]
      unfold lastP
      rw [List.map_append]
      rfl
    have s5 := sn (o := .lst ([.str "last"] ++ (last.map strI).map V.str)) hl2
    generalize upd G4 l2 (.lst ([.str "last"] ++ (last.map strI).map V.str)) = G5 at s5 e5 ⊢
    refine ⟨_, l2, lastP last, rfl, rfl, .inl (SqL.of e5), Nat.le_trans (lastP_sum lfit lfew) (by decide), ?_⟩
    rw [lastP_text]
    refine ⟨by show 1 ≤ sizeLine; decide, fun l3 hl3 => ?_⟩
    have s6 := sn (o := .lst [.str (lastT last)]) hl3
    have e6 : upd G5 l3 (.lst [.str (lastT last)]) l3 = some (.lst [.str (lastT last)]) := upd_same
    generalize upd G5 l3 (.lst [.str (lastT last)]) = G6 at s6 e6 ⊢
    have s26 := s2.trans (s4.trans (s5.trans s6))
    refine ⟨lp, l3, _, _, rfl, rfl, s26 _ _ eG, e6, ?_, fun l4 hl4 => ?_⟩
    · rw [sizeLine_eq]
      simp only [List.length_map, List.length_cons, List.length_nil]
      omega
    have e7 : upd G6 l4 (.lst ((rs.map Rl.text).map V.str ++ [.str (lastT last)])) l4 = some (.lst ((rs.map Rl.text ++ [lastT last]).map V.str)) := by
      rw [upd_same, List.map_append]
      rfl
    have s7 := sn (o := .lst ((rs.map Rl.text).map V.str ++ [.str (lastT last)])) hl4
    generalize upd G6 l4 (.lst ((rs.map Rl.text).map V.str ++ [.str (lastT last)])) = G7 at s7 e7 ⊢
    have s07 := sG.trans (s26.trans s7)
    have lens : ∀ z ∈ rs.map Rl.text ++ [lastT last], z.length ≤ 200 := fun z hz => by
      rcases List.mem_append.mp hz with hz | hz
      · obtain ⟨r, hr, rfl⟩ := List.mem_map.mp hz
        have := text_len (fit r hr)
        omega
      · rw [List.mem_singleton.mp hz]
        have := last_len lfit
        omega
    have k' : ∀ G, Same H G → Q (.str (joinT (rs.map Rl.text ++ [lastT last]))) G := k
    have many : (rs.map Rl.text ++ [lastT last]).length ≤ 601 := by
      rw [List.length_append, List.length_map, List.length_singleton]
      omega
    generalize rs.map Rl.text ++ [lastT last] = ls at e7 lens k' many
    refine ⟨l4, rfl, ⟨_, SqL.of e7⟩, fun D2 hD2 => lc_strs (K := K) (walk_list (K := K) (a := l4) (xs := ls.map V.str)) (ls.map fun l => l ++ ("\n" : Str)) (by simp) hD2 (by rw [List.length_map]; omega) (fun H8 hb => keepL (hb.same hD2) (SqL.of e7)) ?_ ?_⟩
    · rintro j z y H0 H8 hz hb hne ⟨rfl, hy⟩
      rw [List.getElem?_map] at hz hy
      cases ea : ls[j]? with
      | none => rw [ea] at hy; cases hy
      | some a =>
        rw [ea] at hz hy
        cases hz
        cases hy
        have := lens a (List.mem_of_getElem? ea)
        exact ⟨Same.refl _, fun N hN => ⟨rfl, _, rfl, _, _, rfl, rfl, by rw [sizeLine_eq, show ("\n" : Str).length = 1 by decide +kernel]; omega, hN _ (Same.refl _)⟩⟩
    intro G8 b8 e8
    refine ⟨_, D2, _, rfl, rfl, .inl (SqL.of e8), ?_, k' _ (s07.trans (b8.same hD2))⟩
    have := joinT_sum lens
    rw [nul_len]
    show (List.map Str.length _).sum + _ ≤ _
    have : ls.length * 201 ≤ 601 * 201 := Nat.mul_le_mul_right _ many
    omega
end
end T82
namespace T82
open PySem L2
/-! ### drawn terms -/
def optTm : Option Tm → PyData
  | none => .none
  | some t => t.d
mutual
theorem tm_depth : ∀ t : Tm, t.d.depth ≤ t.depth
  | .w s => by rw [Tm.d, PyData.depth]; exact Nat.zero_le _
  | .u n => by simp [Tm.d, Tm.depth, PyData.depth, PyData.depthAll]
  | .c f as => by
    have := tm_depths as
    rw [Tm.d, Tm.depth, PyData.depth, PyData.depthAll, PyData.depth]
    omega
theorem tm_depths : ∀ as : List Tm, PyData.depthAll (Tm.ds as) ≤ Tm.depths as
  | [] => by rw [Tm.ds, PyData.depthAll, Tm.depths]; exact Nat.le_refl _
  | t :: ts => by
    have h1 := tm_depth t
    have h2 := tm_depths ts
    rw [Tm.ds, PyData.depthAll, Tm.depths]
    omega
end
mutual
theorem wf_lay {d : Dor} (gd : d.good) : ∀ (t : Tm) (k : Str), WF d t k → t.d.canLay0 = true
  | .w z, k, h => by
    rw [WF] at h
    rw [Tm.d]
    rcases h.1 with rfl | rfl <;> decide +kernel
  | .u n, k, h => by rw [WF] at h; exact h.elim
  | .c f as, k, h => by
    rw [WF] at h
    obtain ⟨hh, m, rfl, rfl, hw⟩ := h
    rw [Tm.d]
    exact canLay_tup (canLay_cons (canLay_str (strOk_of_name (gd.headsN hh m).1.1)) (wfs_lay gd as _ hw))
theorem wfs_lay {d : Dor} (gd : d.good) : ∀ (as : List Tm) (ks : List Str), WFs d as ks → PyData.canLayAll0 (Tm.ds as) = true
  | [], _, _ => by rw [Tm.ds]; exact canLay_nil
  | t :: ts, ks, h => by
    rw [WFs] at h
    obtain ⟨k, r, rfl, h1, h2⟩ := h
    rw [Tm.ds]
    exact canLay_cons (wf_lay gd t k h1) (wfs_lay gd ts r h2)
end
theorem eqv_none (t : Tm) : PyData.eqv t.d .none = false := by
  cases t <;> rw [Tm.d, PyData.eqv] <;> simp
theorem any_none : ∀ os : List (Option Tm), ((os.map optTm).any fun z => PyData.eqv z .none) = os.any Option.isNone
  | [] => rfl
  | none :: os => by
    rw [List.map_cons, List.any_cons, List.any_cons, any_none os, optTm, PyData.eqv]
    rfl
  | some t :: os => by
    rw [List.map_cons, List.any_cons, List.any_cons, any_none os, optTm, eqv_none]
    rfl
theorem all_some : ∀ {os : List (Option Tm)}, os.any Option.isNone = false → ∃ ts : List Tm, os = ts.map some
  | [], _ => ⟨[], rfl⟩
  | none :: os, h => by simp at h
  | some t :: os, h => by
    obtain ⟨ts, rfl⟩ := all_some (os := os) (by simpa using h)
    exact ⟨t :: ts, rfl⟩
theorem wfs_of {d : Dor} : ∀ {ts : List Tm} {ks : List Str}, ts.length = ks.length → (∀ (i : Nat) t k, ts[i]? = some t → ks[i]? = some k → WF d t k) → WFs d ts ks
  | [], [], _, _ => by rw [WFs]
  | [], k :: ks, h, _ => by simp at h
  | t :: ts, [], h, _ => by simp at h
  | t :: ts, k :: ks, h, f => by
    rw [WFs]
    exact ⟨k, ks, rfl, f 0 t k rfl rfl, wfs_of (by simpa using h) fun i t' k' h1 h2 => f (i + 1) t' k' (by simpa using h1) (by simpa using h2)⟩
theorem depths_le {n : Nat} : ∀ {ts : List Tm}, (∀ t ∈ ts, t.depth ≤ n) → Tm.depths ts ≤ n
  | [], _ => by rw [Tm.depths]; exact Nat.zero_le _
  | t :: ts, h => by
    have h1 := h t List.mem_cons_self
    have h2 := depths_le (n := n) (ts := ts) fun x hx => h x (List.mem_cons_of_mem _ hx)
    rw [Tm.depths]
    omega
section
variable {P : Program} {w : World} {K : PySem.W.Frag} {mg : Str → Option Value} {base : Heap}
theorem parts_at {H : Hp} {d : Dor} {v : V} (h : Im K H (partsD d) v) : ∃ p v0 v1 v2 v3, v = .ref p ∧ SqT K H p [v0, v1, v2, v3] ∧ Im K H wordsD v0 ∧ Im K H d.sealedD v1 ∧ Im K H d.headsD v2 ∧ Im K H d.lawsD v3 := by
  obtain ⟨p, xs, rfl, sp, ip⟩ := h.tup_
  obtain ⟨v0, xs, rfl, i0, ip⟩ := ip.cons_
  obtain ⟨v1, xs, rfl, i1, ip⟩ := ip.cons_
  obtain ⟨v2, xs, rfl, i2, ip⟩ := ip.cons_
  obtain ⟨v3, xs, rfl, i3, ip⟩ := ip.cons_
  rw [ip.nil_] at sp
  exact ⟨p, v0, v1, v2, v3, rfl, sp, i0, i1, i2, i3⟩
theorem head_at {H : Hp} {h : Hd} {v : V} (i : Im K H h.d v) : ∃ p v1, v = .ref p ∧ SqT K H p [.str h.name, v1, .str h.kind] ∧ Im K H (.tuple (h.kinds.map PyData.str)) v1 := by
  obtain ⟨ph, xs, rfl, sph, ix⟩ := i.tup_
  obtain ⟨w0, xs, rfl, i0, ix⟩ := ix.cons_
  obtain ⟨w1, xs, rfl, i1, ix⟩ := ix.cons_
  obtain ⟨w2, xs, rfl, i2, ix⟩ := ix.cons_
  rw [ix.nil_, i0.str_, i2.str_] at sph
  exact ⟨ph, w1, rfl, sph, i1⟩
theorem But2.keep {a D : Addr} {G X : Hp} (b : But2 a D G X) (na : ∀ ys, ¬ Rd G a (.tup ys)) (nD : G D = none) : Keep G X := fun x xs r => by
  have h1 : x ≠ a := fun e => na xs (e ▸ r)
  have h2 : x ≠ D := fun e => notup_none nD xs (e ▸ r)
  rcases r with r | ⟨o, r⟩
  · exact .inl (b _ _ h1 h2 r)
  · exact .inr ⟨o, b _ _ h1 h2 r⟩
theorem opts_shaped {d : Dor} (gd : d.good) {n : Nat} (hn : n ≤ 30) {os : List (Option Tm)} (h : ∀ t, some t ∈ os → t.depth ≤ n ∧ ∃ k, WF d t k) : SeqAt.shaped (PyData.list (os.map optTm)) = true := by
  unfold SeqAt.shaped
  have h1 : ∀ o ∈ os, (optTm o).canLay0 = true := fun o ho => by
    cases o with
    | none => rfl
    | some t =>
      obtain ⟨_, k, hk⟩ := h t ho
      exact wf_lay gd t k hk
  rw [canLay_lst (canLay_map h1), Bool.true_and, decide_eq_true_eq]
  have := depth_map (f := optTm) (n := n) (as := os) fun o ho => by
    cases o with
    | none => exact Nat.zero_le _
    | some t => exact Nat.le_trans (tm_depth t) (h t ho).1
  simp only [PyData.depth]
  omega
abbrev nm__law_term : List Str := ["tape", "parts", "kind", "deep", "some", "name", "kinds", "goal", "inner", "head", "one"]
theorem sc__law_term : FnScope nm__law_term ["tape", "parts", "kind", "deep"] (defScope s__law_term) := ⟨rfl, rfl, rfl, by decide +kernel, rfl, by decide +kernel, by decide +kernel⟩
def sp__law_term (K : PySem.W.Frag) (m : Nat) : Sp := fun vs H Q _ => ∃ (a c : Addr) (pav : V) (kind : Str) (d : Dor) (n : Nat), vs = [.ref a, pav, .str kind, .int (n : Int)] ∧ n < m ∧ m ≤ 20 ∧ TapeAt H a c ∧ Im K H (partsD d) pav ∧ Drawn d ∧
  ∀ G v o, But a H G → TapeAt G a c → (∀ t, o = some t → WF d t kind ∧ t.depth ≤ n + 1) → Im K G (optTm o) v → Q v G
theorem ok__law_term (T : Tx K mg) : ∀ m, FnOk P w K mg base CX0 (m + 3) T.f__law_term T.d__law_term ["tape", "parts", "kind", "deep"] (sp__law_term K m)
  | 0 => T.F__law_term.ok sc__law_term (fun vs H Q E h => by
      obtain ⟨a, c, pav, kind, d, n, rfl, _⟩ := h
      rfl) (fun cdv A outer s H vs Q E hr h => by
      obtain ⟨a, c, pav, kind, d, n, rfl, hn, _⟩ := h
      exact absurd hn (Nat.not_lt_zero _))
  | m + 1 => by
    have ih := ok__law_term T m
    refine T.F__law_term.ok sc__law_term (fun vs H Q E h => ?_) (fun cdv A outer s H vs Q E hr h => ?_)
    · obtain ⟨a, c, pav, kind, d, n, rfl, _⟩ := h
      rfl
    · obtain ⟨a, c, pav, kind, d, n, rfl, hn, hm, ta, ipv, dr, k⟩ := h
      refine ⟨_, (C8.pss_cut (ps_if (PW.pt (pw_and (pt_cmpR op_eq (pv 2) pe_str (nomark _)) (pw_and1 (pt_cmpR op_eq (pe_call (ok__law_pick T) (hr.mono (by omega)) (by rfl) T.m__law_pick T.F__law_pick.kp T.b__law_pick .nil pass0 (pa_cons (pv 0) (pa_cons pe_int pa_nil))) pe_int (nomark _))))) (pss_one (ps_ret (pe_call (ok__law_any T) (hr.mono (by omega)) (by rfl) T.m__law_any T.F__law_any.kp T.b__law_any .nil pass0 (pa_cons (pv 0) (pa_cons (pe_lst (pa_cons pe_str (pa_cons pe_str pa_nil))) pa_nil))))) pss_nil)
    (pss_cons (ps_setLc (i := 4) (own := [("head", 9)]) (g := gName 9) (tt := _) rfl sc__law_term.nd rfl rfl (sw_true rfl rfl rfl (by decide +kernel)) (wT (K := K) rfl (pe_ix (iT (K := K) rfl) (pv 1) pe_int (fun _ _ => rfl))) (blkOk_by (N := nm__law_term) (sc := defScope s__law_term) (by decide +kernel)) (fun _ _ _ _ _ => (pg_name (i := 9) sc__law_term.nd rfl (Or.inl rfl))) (fun _ _ _ _ _ => pts_one (PW.pt (pw_and (pt_cmpR op_eq (pe_ix (iT (K := K) rfl) (pv 9) pe_int (fun _ _ => rfl)) (pv 2) (nomark _)) (pw_and1 (PW.pt (pw_or (pt_cmpR op_gt (pv 3) pe_int (nomark _)) (pw_or1 (pt_cmpR op_eq (pe_callB (cLen (K := K) rfl) (by rfl) T.t_len (by decide +kernel) (pa_cons (pe_ix (iT (K := K) rfl) (pv 9) pe_int (fun _ _ => rfl)) pa_nil)) pe_int (nomark _))))))))) (fun _ _ _ _ _ => (pv 9)))
    (pss_cons (ps_if (pt_cmpR op_eq (pe_callB (cLen (K := K) rfl) (by rfl) T.t_len (by decide +kernel) (pa_cons (pv 4) pa_nil)) pe_int (nomark _)) (pss_one (ps_ret (pe_ifExp (pt_cmpR op_eq (pv 2) pe_str (nomark _)) (pe_call (ok__law_any T) (hr.mono (by omega)) (by rfl) T.m__law_any T.F__law_any.kp T.b__law_any .nil pass0 (pa_cons (pv 0) (pa_cons (pe_lst (pa_cons pe_str (pa_cons pe_str pa_nil))) pa_nil))) pe_non))) pss_nil)
    (pss_cons (ps_asg (pe_call (ok__law_any T) (hr.mono (by omega)) (by rfl) T.m__law_any T.F__law_any.kp T.b__law_any .nil pass0 (pa_cons (pv 0) (pa_cons (pv 4) pa_nil))) (pg_tup rfl (pgs_cons (pg_name (i := 5) sc__law_term.nd rfl (Or.inl rfl)) (pgs_cons (pg_name (i := 6) sc__law_term.nd rfl (Or.inl rfl)) (pgs_cons (pg_name (i := 7) sc__law_term.nd rfl (Or.inl rfl)) pgs_nil)))))
    (pss_cons (ps_setLc (i := 8) (own := [("one", 10)]) (g := gName 10) (tt := tYes) rfl sc__law_term.nd rfl rfl (sw_true rfl rfl rfl (by decide +kernel)) (wT (K := K) rfl (pv 6)) (blkOk_by (N := nm__law_term) (sc := defScope s__law_term) (by decide +kernel)) (fun _ _ _ _ _ => (pg_name (i := 10) sc__law_term.nd rfl (Or.inl rfl))) (fun _ _ _ _ _ => pts_nil) (fun _ _ _ _ _ => (pe_call ih hr (by rfl) T.m__law_term T.F__law_term.kp T.b__law_term .nil pass0 (pa_cons (pv 0) (pa_cons (pv 1) (pa_cons (pv 10) (pa_cons (pe_op op_sub (pv 3) pe_int) pa_nil)))))))
    (pss_one (ps_ret (pe_ifExp (pt_cmpR (oInD (K := K) rfl (units65 hr)) pe_non (pv 8) rfl) pe_non (pe_op (oCatU (K := K) rfl) (pe_tup (pa_cons (pv 5) pa_nil)) (pe_callTy (tTup (K := K) rfl) (by rfl) T.t_tuple (by decide +kernel) (pa_cons (pv 8) pa_nil))))))))))), ?_⟩
      have gd := dr.good
      refine ⟨fun σ G => σ = [some (.ref a), some pav, some (.str kind), some (.int (n : Int)), none, none, none, none, none, none, none] ∧ But a H G ∧ TapeAt G a c, ?_, ?_⟩
      · refine ⟨_, rfl, rfl, _, rfl, ?_⟩
        by_cases hk : kind = "bit"
        case neg => exact itf (decide_eq_false fun q => hk (V.str.inj q)) (iteF ⟨rfl, But.refl, ta⟩)
        refine itt (decide_eq_true (by rw [hk])) ⟨_, rfl, a, c, 2, rfl, ta, by decide, by decide, fun G x b1 t1 x0 x1 => ⟨rfl, _, rfl, ?_⟩⟩
        by_cases hx : x = 0
        case neg => exact itf (decide_eq_false fun q => hx (V.int.inj q)) ⟨rfl, b1, t1⟩
        refine itt (decide_eq_true (by rw [hx])) ⟨_, rfl, by show 2 ≤ sizeLine; decide, fun l hl => ?_⟩
        have s2 := sn (o := .lst [.str "no", .str "yes"]) hl
        refine ⟨a, c, l, _, rfl, t1.mono s2, fun G b => .inl (SqL.of (b _ _ (t1.new hl).1 upd_same)), by show 0 < 2; decide, by show 2 < 1000000; decide, fun G2 v b3 t3 mem => ?_⟩
        simp only [List.mem_cons, List.not_mem_nil, or_false] at mem
        have bf := (b1.trans (.of s2)).trans b3
        rcases mem with rfl | rfl
        · exact k _ _ (some (.w "no")) bf t3 (fun t e => by cases e; exact ⟨by rw [WF]; exact ⟨.inl rfl, hk⟩, by rw [Tm.depth]; omega⟩) im_str
        · exact k _ _ (some (.w "yes")) bf t3 (fun t e => by cases e; exact ⟨by rw [WF]; exact ⟨.inr rfl, hk⟩, by rw [Tm.depth]; omega⟩) im_str
      rintro σ G ⟨rfl, bG, tG⟩
      have ipv := Im.mono (bG.keep ta.notup) _ _ ipv
      obtain ⟨pp, v0, v1, v2, v3, rfl, spp, i0, i1, i2, i3⟩ := parts_at ipv
      obtain ⟨hp, hvs, rfl, shp, ihs⟩ := i2.tup_
      have hl := ihs.len
      rw [List.length_map] at hl
      refine ⟨_, rfl, pp, _, 2, _, rfl, rfl, spp, rfl, hp, rfl, ⟨_, shp⟩, fun D hD => lc_it (walk_tup (K := K) (a := hp) (xs := hvs)) (fun i X => But D G X ∧ ∃ (hs : List Hd) (us : List V), hs.length ≤ i ∧ (∀ h ∈ hs, h ∈ d.heads ∧ h.kind = kind ∧ (0 < n ∨ h.kinds = [])) ∧ X D = some (.lst us) ∧ ImAll K X (hs.map Hd.d) us) ?_ ?_ ?_ ?_⟩
      · exact ⟨But.put, [], [], Nat.le_refl _, fun h hh => (nomatch hh), upd_same, ia_nil⟩
      · rintro i X _ ⟨b, _⟩
        exact keepT (b.same hD) shp
      · rintro i y X X' hi ⟨bX, hs, us, hlen, hok, eD, ius⟩ ⟨rfl, hy⟩
        have sX := bX.same hD
        obtain ⟨h, eh⟩ : ∃ h, d.heads[i]? = some h := ⟨_, List.getElem?_eq_getElem (by omega)⟩
        obtain ⟨y', ey, iy⟩ := ihs.get (i := i) (d := h.d) (by rw [List.getElem?_map, eh]; rfl)
        rw [hy] at ey
        cases ey
        have hmem := List.mem_of_getElem? eh
        obtain ⟨ph, w1, rfl, sph, iw1⟩ := head_at iy
        obtain ⟨kp, rfl, skp⟩ := strs_at2 iw1
        have sphX := keepT sX sph
        have ul := ius.len
        rw [List.length_map] at ul
        have kpD : Keep X' (upd X' D (.lst (us ++ [.ref ph]))) := Keep.upd (notup_lst eD)
        have i12 : i < 12 := by
          have := gd.heads12
          omega
        have go : (0 < n ∨ h.kinds = []) → h.kind = kind → ∃ acc, X' D = some (.lst acc) ∧ acc.length < sizeLine ∧ (But D G (upd X' D (.lst (acc ++ [.ref ph]))) ∧ ∃ (hs : List Hd) (us : List V), hs.length ≤ i + 1 ∧ (∀ h ∈ hs, h ∈ d.heads ∧ h.kind = kind ∧ (0 < n ∨ h.kinds = [])) ∧ (upd X' D (.lst (acc ++ [.ref ph]))) D = some (.lst us) ∧ ImAll K (upd X' D (.lst (acc ++ [.ref ph]))) (hs.map Hd.d) us) := fun h1 h2 => by
          refine ⟨us, eD, by rw [sizeLine_eq]; omega, bX.trans But.put, hs ++ [h], us ++ [.ref ph], by simp; omega, fun x hx => ?_, upd_same, ?_⟩
          · rcases List.mem_append.mp hx with hx | hx
            · exact hok x hx
            · rw [List.mem_singleton.mp hx]
              exact ⟨hmem, h2, h1⟩
          · rw [List.map_append]
            exact ImAll.app (ImAll.mono kpD _ _ ius) (ia_cons (Im.mono ((sk sX).trans kpD) _ _ iy) ia_nil)
        have stay : But D G X' ∧ ∃ (hs : List Hd) (us : List V), hs.length ≤ i + 1 ∧ (∀ h ∈ hs, h ∈ d.heads ∧ h.kind = kind ∧ (0 < n ∨ h.kinds = [])) ∧ X' D = some (.lst us) ∧ ImAll K X' (hs.map Hd.d) us := ⟨bX, hs, us, by omega, hok, eD, ius⟩
        refine ⟨rfl, _, rfl, ph, _, 2, _, rfl, rfl, sphX, rfl, _, rfl, rfl, _, rfl, ?_⟩
        by_cases hk : h.kind = kind
        case neg => exact itf (decide_eq_false fun q => hk (V.str.inj q)) (iteF stay)
        refine itt (decide_eq_true (by rw [hk])) ⟨_, rfl, _, _, rfl, rfl, _, rfl, ?_⟩
        by_cases hn0 : (n : Int) > 0
        · exact itt (decide_eq_true hn0) (iteT ⟨_, rfl, go (.inl (by omega)) hk⟩)
        refine itf (decide_eq_false hn0) ⟨_, rfl, ph, _, 1, _, rfl, rfl, sphX, rfl, kp, _, rfl, .inr (keepT sX skp), rfl, _, rfl, ?_⟩
        by_cases hz : h.kinds = []
        · exact itt (decide_eq_true (by rw [hz]; rfl)) ⟨_, rfl, go (.inr hz) hk⟩
        · refine itf (decide_eq_false fun q => hz ?_) stay
          have := V.int.inj q
          rw [List.length_map] at this
          exact List.eq_nil_of_length_eq_zero (by omega)
      rintro X ⟨bX, hs, us, hlen, hok, eD, ius⟩
      have sX := bX.same hD
      have Da := (tG.new hD).1
      have bHX := bG.trans (.of sX)
      have tX := tG.mono sX
      have ul := ius.len
      rw [List.length_map] at ul
      have h12 := gd.heads12
      refine ⟨_, rfl, D, _, rfl, .inl (SqL.of eD), rfl, _, rfl, ?_⟩
      by_cases hu : us.length = 0
      · refine itt (decide_eq_true (by rw [hu]; rfl)) ⟨_, rfl, rfl, _, rfl, ?_⟩
        by_cases hk : kind = "bit"
        case neg => exact itf (decide_eq_false fun q => hk (V.str.inj q)) (k _ _ none bHX tX (fun t e => by cases e) im_non)
        refine itt (decide_eq_true (by rw [hk])) ⟨_, rfl, by show 2 ≤ sizeLine; decide, fun l hl => ?_⟩
        have s2 := sn (o := .lst [.str "no", .str "yes"]) hl
        refine ⟨a, c, l, _, rfl, tX.mono s2, fun G b => .inl (SqL.of (b _ _ (tX.new hl).1 upd_same)), by show 0 < 2; decide, by show 2 < 1000000; decide, fun G2 v b3 t3 mem => ?_⟩
        simp only [List.mem_cons, List.not_mem_nil, or_false] at mem
        have bf := (bHX.trans (.of s2)).trans b3
        rcases mem with rfl | rfl
        · exact k _ _ (some (.w "no")) bf t3 (fun t e => by cases e; exact ⟨by rw [WF]; exact ⟨.inl rfl, hk⟩, by rw [Tm.depth]; omega⟩) im_str
        · exact k _ _ (some (.w "yes")) bf t3 (fun t e => by cases e; exact ⟨by rw [WF]; exact ⟨.inr rfl, hk⟩, by rw [Tm.depth]; omega⟩) im_str
      refine itf (decide_eq_false fun q => hu ?_) ?_
      · have := V.int.inj q
        omega
      refine ⟨_, rfl, _, rfl, a, c, D, us, rfl, tX, fun G b => .inl (SqL.of (b _ _ Da eD)), by omega, by omega, fun G1 v b1 t1 mem => ?_⟩
      obtain ⟨j, hj, ej⟩ := List.getElem_of_mem mem
      obtain ⟨h, eh⟩ : ∃ h, hs[j]? = some h := ⟨_, List.getElem?_eq_getElem (by omega)⟩
      obtain ⟨y', ey, iy⟩ := ius.get (i := j) (d := h.d) (by rw [List.getElem?_map, eh]; rfl)
      rw [List.getElem?_eq_getElem hj, ej] at ey
      cases ey
      obtain ⟨hmem, hkd, hdeep⟩ := hok h (List.mem_of_getElem? eh)
      have iy := Im.mono (b1.keep tX.notup) _ _ iy
      obtain ⟨ph, w1, rfl, sph, iw1⟩ := head_at iy
      refine ⟨ph, _, rfl, sph, rfl, _, _, rfl, _, _, rfl, _, _, rfl, rfl, ?_⟩
      obtain ⟨kp, rfl, skp⟩ := strs_at2 iw1
      have bH1 := bHX.trans b1
      have kk3 := (gd.headsN h hmem).2.2.2
      have ip1 := Im.mono (bH1.keep ta.notup) _ _ (show Im K H (partsD d) (V.ref pp) by assumption)
      clear ipv spp i0 i1 i2 i3 shp ihs bX hok eD ius sX ul b1 mem ej iy
      refine ⟨_, rfl, kp, rfl, ⟨_, skp⟩, fun D2 hD2 => lc_it (walk_tup (K := K) (a := kp) (xs := h.kinds.map V.str)) (fun i X => But2 a D2 G1 X ∧ TapeAt X a c ∧ ∃ (os : List (Option Tm)) (us : List V), os.length = i ∧ (∀ (j : Nat) t, os[j]? = some (some t) → t.depth ≤ n ∧ ∃ kd, h.kinds[j]? = some kd ∧ WF d t kd) ∧ X D2 = some (.lst us) ∧ ImAll K X (os.map optTm) us) ?_ ?_ ?_ ?_⟩
      · exact ⟨fun b o _ ne e => by rw [upd_ne ne]; exact e, t1.upd (t1.new hD2).1 (t1.new hD2).2, [], [], rfl, fun j t e => by simp at e, upd_same, ia_nil⟩
      · rintro i X _ ⟨b, _⟩
        exact (b.keep t1.notup hD2).sq skp
      · rintro i y X X' hi ⟨bX, tX, os, us, ol, ook, eD, ius⟩ ⟨rfl, hy⟩
        rw [List.length_map] at hi
        obtain ⟨kd, ekd⟩ : ∃ kd, h.kinds[i]? = some kd := ⟨_, List.getElem?_eq_getElem hi⟩
        rw [List.getElem?_map, ekd] at hy
        cases hy
        obtain ⟨n', rfl⟩ : ∃ n', n = n' + 1 := by
          rcases hdeep with h1 | h1
          · exact ⟨n - 1, by omega⟩
          · rw [h1] at hi
            exact absurd hi (Nat.not_lt_zero _)
        have ul := ius.len
        rw [List.length_map] at ul
        have kX := bX.keep t1.notup hD2
        refine ⟨rfl, _, rfl, _, rfl, _, rfl, _, rfl, _, _, rfl, rfl, a, c, .ref pp, kd, d, n', ?_, by omega, by omega, tX, Im.mono kX _ _ ip1, dr, fun X2 v o b2 t2 ho iv => ?_⟩
        · show [V.ref a, V.ref pp, V.str kd, V.int (((n' + 1 : Nat) : Int) - 1)] = _
          rw [show (((n' + 1 : Nat) : Int) - 1) = (n' : Int) by omega]
        have D2a := (t1.new hD2).1
        have D2c := (t1.new hD2).2
        have eD2 := b2 _ _ D2a eD
        have kp2 : Keep X2 (upd X2 D2 (.lst (us ++ [v]))) := Keep.upd (notup_lst eD2)
        refine ⟨us, eD2, by rw [sizeLine_eq]; omega, fun x u h1 h2 e => by rw [upd_ne h2]; exact b2 _ _ h1 (bX _ _ h1 h2 e), t2.upd D2a D2c, os ++ [o], us ++ [v], by rw [List.length_append, ol]; rfl, fun j t e => ?_, upd_same, ?_⟩
        · by_cases hj : j < os.length
          · rw [List.getElem?_append_left hj] at e
            exact ook j t e
          · rw [List.getElem?_append_right (by omega)] at e
            have hj0 : j - os.length = 0 := by
              have := (List.getElem?_eq_some_iff.mp e).1
              simp at this
              omega
            rw [hj0] at e
            have e : o = some t := by simpa using e
            obtain ⟨w1, w2⟩ := ho t e
            exact ⟨by omega, kd, by rw [show j = i by omega]; exact ekd, w1⟩
        · rw [List.map_append]
          exact ImAll.app (ImAll.mono ((b2.keep tX.notup).trans kp2) _ _ ius) (ia_cons (Im.mono kp2 _ _ iv) ia_nil)
      rintro X ⟨bX, tX, os, us, ol, ook, eD, ius⟩
      rw [List.length_map] at ol
      have bHX2 : But a H X := fun x u ne e => bX _ _ ne (ne_of_none (bH1 _ _ ne e) hD2) (bH1 _ _ ne e)
      have osh : SeqAt.shaped (PyData.list (os.map optTm)) = true := opts_shaped gd (n := n) (by omega) fun t ht => by
        obtain ⟨j, hj, ej⟩ := List.getElem_of_mem ht
        obtain ⟨w1, kd, _, w2⟩ := ook j t (by rw [List.getElem?_eq_getElem hj, ej])
        exact ⟨w1, kd, w2⟩
      refine ⟨_, rfl, .none, os.map optTm, .non, Dp.lst (SqL.of eD) (ImAll.dp _ _ ius), by decide, osh, _, rfl, ?_⟩
      rw [any_none]
      by_cases hN : os.any Option.isNone = true
      · exact itt hN (k _ _ none bHX2 tX (fun t e => by cases e) im_non)
      obtain ⟨ts, rfl⟩ := all_some (Bool.eq_false_iff.mpr hN)
      refine itf (Bool.eq_false_iff.mpr hN) ⟨_, rfl, by show 1 ≤ sizeLine; decide, fun t0 ht0 => ?_⟩
      have s2 := sn (o := .tup [.str h.name]) ht0
      have e2 : upd X t0 (.tup [.str h.name]) t0 = some (.tup [.str h.name]) := upd_same
      generalize upd X t0 (.tup [.str h.name]) = X2 at s2 e2 ⊢
      refine ⟨_, rfl, D2, _, rfl, .inl ⟨SqL.of (s2 _ _ eD), fun t3 ht3 => ?_⟩⟩
      have s3 := sn (o := .tup us) ht3
      have e3 : upd X2 t3 (.tup us) t3 = some (.tup us) := upd_same
      generalize upd X2 t3 (.tup us) = X3 at s3 e3 ⊢
      have ul := ius.len
      rw [List.length_map, List.length_map] at ul
      rw [List.length_map] at ol
      refine ⟨t0, t3, _, _, rfl, rfl, .inl (.inl (s3 _ _ e2)), .inl (.inl e3), ?_, fun t4 X4 s4 st4 => ?_⟩
      · rw [sizeLine_eq, List.length_singleton]
        omega
      have s24 := s2.trans (s3.trans s4)
      refine k _ _ (some (.c h.name ts)) (bHX2.trans (.of s24)) (tX.mono s24) (fun t e => ?_) ?_
      · cases e
        refine ⟨?_, ?_⟩
        · rw [WF]
          refine ⟨h, hmem, rfl, hkd.symm, wfs_of ol fun j t kd h1 h2 => ?_⟩
          obtain ⟨_, kd', h3, w⟩ := ook j t (by rw [List.getElem?_map, h1]; rfl)
          rw [h2] at h3
          cases h3
          exact w
        · rw [Tm.depth]
          have := depths_le (n := n) (ts := ts) fun t ht => by
            obtain ⟨j, hj, ej⟩ := List.getElem_of_mem ht
            exact (ook j t (by rw [List.getElem?_map, List.getElem?_eq_getElem hj, ej]; rfl)).1
          omega
      · show Im K X4 (Tm.c h.name ts).d (.ref t4)
        rw [Tm.d]
        refine im_tup st4 (ia_cons im_str ?_)
        rw [Tm.ds_map]
        rw [List.map_map] at ius
        exact ImAll.mono (sk s24) _ _ ius
end
end T82
namespace T82
open PySem L2
section
variable {P : Program} {w : World} {K : PySem.W.Frag} {mg : Str → Option Value} {base : Heap}
theorem leads_pairs {H : Hp} : ∀ {rs : List Rl} {vs : List V}, ImAll K H (rs.map Rl.d) vs → Paired (EntAt K H) (leadsE rs) vs
  | [], _, h => by
    rw [h.nil_]
    exact .nil
  | r :: rs, vs, h => by
    obtain ⟨v, vs', rfl, h1, h2⟩ := ImAll.cons_ h
    obtain ⟨p, q, rfl, sp, sq⟩ := rl_at h1
    exact .cons ⟨p, q, rfl, sp, key_v sq⟩ (leads_pairs h2)
theorem leads_nodup {rs : List Rl} (h : (rs.map Rl.nk).Nodup) : ((leadsE rs).map Prod.fst).Nodup := by
  unfold leadsE
  rw [List.map_map]
  have h1 : (rs.map Rl.nk).Pairwise (· ≠ ·) := h
  rw [List.pairwise_map] at h1
  show (rs.map (Prod.fst ∘ fun r => (r.key, V.int r.goal))).Pairwise (· ≠ ·)
  rw [List.pairwise_map]
  refine h1.imp fun {a b} ne e => ne ?_
  have := keyOf_inj (show keyOf a.name a.args = keyOf b.name b.args from e)
  unfold Rl.nk
  rw [this.1, this.2]
/-! ### the law's own state -/
abbrev nm__law_state : List Str := ["rules", "term", "inner", "part"]
theorem sc__law_state : FnScope nm__law_state ["rules", "term"] (defScope s__law_state) := ⟨rfl, rfl, rfl, by decide +kernel, rfl, by decide +kernel, by decide +kernel⟩
def sp__law_state (K : PySem.W.Frag) (n : Nat) : Sp := fun vs H Q _ => ∃ rp v rvs rs t, vs = [.ref rp, v] ∧ PlT H rp rvs ∧ ImAll K H (rs.map Rl.d) rvs ∧ (rs.map Rl.nk).Nodup ∧ Im K H (Tm.d t) v ∧ t.ok ∧ t.noU ∧ t.depth ≤ n ∧ ∀ G, Same H G → Q (optV (stOf rs t)) G
theorem ok__law_state (T : Tx K mg) : ∀ n, FnOk P w K mg base CX0 (n + 1) T.f__law_state T.d__law_state ["rules", "term"] (sp__law_state K n)
  | 0 => T.F__law_state.ok sc__law_state (fun vs H Q E h => by
      obtain ⟨rp, v, rvs, rs, t, rfl, _⟩ := h
      rfl) (fun cdv A outer s H vs Q E hr h => by
      obtain ⟨rp, v, rvs, rs, t, rfl, _, _, _, _, _, _, hd, _⟩ := h
      have := t.depth_pos
      omega)
  | n + 1 => by
    have ih := ok__law_state T n
    refine T.F__law_state.ok sc__law_state (fun vs H Q E h => ?_) (fun cdv A outer s H vs Q E hr h => ?_)
    · obtain ⟨rp, v, rvs, rs, t, rfl, _⟩ := h
      rfl
    · obtain ⟨rp, v, rvs, rs, t, rfl, pl, irs, nd, ht, hk, hnu, hd, k⟩ := h
      refine ⟨_, (pss_cons (ps_if (pt_val (pe_callB (cIsi (K := K) rfl) (by rfl) T.t_isinstance (by decide +kernel) (pa_cons (pv 1) (pa_cons (pe_bltn (by rfl) T.t_str (by decide +kernel) (show RelV (.ty "str") (.type "str") from rfl)) pa_nil)))) (pss_one (ps_ret (pe_nget (P := P) (w := w) (K := K) rfl rfl rfl hr.units (pe_callTy (cDictZ (P := P) (w := w) (K := K) rfl rfl rfl rfl hr.units) (by rfl) T.t_dict (by decide +kernel) (pa_cons (pv 0) pa_nil)) (pe_tup (pa_cons (pv 1) pa_nil)) pe_non ⟨rfl, rfl, rfl, rfl⟩))) pss_nil)
    (pss_cons (ps_setLc (i := 2) (own := [("part", 3)]) (g := gName 3) (tt := tYes) rfl sc__law_state.nd rfl rfl (sw_true rfl rfl rfl (by decide +kernel)) (wT (K := K) rfl (pe_slice (sU (K := K) rfl) (pv 1) (po_some pe_int) po_none)) (blkOk_by (N := nm__law_state) (sc := defScope s__law_state) (by decide +kernel)) (fun _ _ _ _ _ => (pg_name (i := 3) sc__law_state.nd rfl (Or.inl rfl))) (fun _ _ _ _ _ => pts_nil) (fun _ _ _ _ _ => (pe_call ih hr (by rfl) T.m__law_state T.F__law_state.kp T.b__law_state .nil pass0 (pa_cons (pv 0) (pa_cons (pv 3) pa_nil)))))
    (pss_one (ps_ret (pe_ifExp (pt_cmpR (oIn (K := K) rfl) pe_non (pv 2) rfl) pe_non (pe_nget (P := P) (w := w) (K := K) rfl rfl rfl hr.units (pe_callTy (cDictZ (P := P) (w := w) (K := K) rfl rfl rfl rfl hr.units) (by rfl) T.t_dict (by decide +kernel) (pa_cons (pv 0) pa_nil)) (pe_op (oCatU (K := K) rfl) (pe_tup (pa_cons (pe_ix (iT (K := K) rfl) (pv 1) pe_int (fun _ _ => rfl)) pa_nil)) (pe_callTy (tTup (K := K) rfl) (by rfl) T.t_tuple (by decide +kernel) (pa_cons (pv 2) pa_nil))) pe_non ⟨rfl, rfl, rfl, rfl⟩)))))), ?_⟩
      cases t with
      | u _ => rw [Tm.noU] at hnu; exact hnu.elim
      | w z =>
        rw [Tm.w_at ht] at *
        refine ⟨_, rfl, _, _, _, _, true, rfl, .ty _, .base (.str z), kit_ty (by decide +kernel), _, rfl, iteT ?_⟩
        refine ⟨_, rfl, rp, rvs, leadsE rs, rfl, pl, leads_pairs irs, leads_nodup nd, fun q G hq s1 ndG => ⟨q, rfl, ⟨_, ndG⟩, _, rfl, by show 1 ≤ sizeLine; decide, fun p hp => ?_⟩⟩
        refine ⟨keyOf z [], _, key_v (.inl (.inl upd_same)), ndG.mono (sn hp), ?_⟩
        rw [leads_getD]
        have := k _ (s1.trans (sn hp (o := .tup [.str z])))
        rw [stOf] at this
        exact this
      | c g as =>
        obtain ⟨p, xs, rfl, sq, r⟩ := Tm.c_at ht
        rw [Tm.ok] at hk
        rw [Tm.depth] at hd
        rw [Tm.noU] at hnu
        have lx : xs.length = as.length := by have := r.len; simpa using this
        refine ⟨_, rfl, _, _, _, _, false, rfl, .ty _, tyT sq, kit_ty (by decide +kernel), _, rfl, iteF ⟨_, rfl, _, rfl, p, _, rfl, sq, fun t1 H1 s1 st1 => ?_⟩⟩
        rw [cut1] at st1
        have r1 := ImAll.mono (sk s1) _ _ r
        refine ⟨t1, rfl, ⟨_, st1⟩, fun D hD => lc_im (K := K) (walk_tup (K := K) (a := t1) (xs := xs)) hD ((as.map (stOf rs)).map optD) (by simp [lx]) (by omega) (fun H2 hb => keepT (hb.same hD) st1) ?_ ?_⟩
        · rintro i dd y H0 H2 hdd hb hne ⟨rfl, hy⟩
          have s2 := hb.same hD
          rw [List.getElem?_map, List.getElem?_map] at hdd
          cases ea : as[i]? with
          | none => rw [ea] at hdd; cases hdd
          | some t2 =>
            rw [ea] at hdd
            cases hdd
            obtain ⟨y', e5, im5⟩ := r1.get (i := i) (d := t2.d) (by rw [List.getElem?_map, ea]; rfl)
            rw [hy] at e5
            cases e5
            have tm := List.mem_of_getElem? ea
            have dd := Tm.depths_mem t2 tm
            exact ⟨Same.refl _, fun N hN => ⟨rfl, _, rfl, _, rfl, rp, y, rvs, rs, t2, rfl, pl.mono (s1.trans s2), ImAll.mono (sk (s1.trans s2)) _ _ irs, nd, Im.mono (sk s2) _ _ im5, Tm.oks_mem hk.2.2.2 t2 tm, Tm.noUs_mem hnu t2 tm, by omega, fun G sG => hN _ G sG (optV_im _)⟩⟩
        · intro H2 ys hb hy im
          rw [im.opts] at hy
          rw [List.map_map] at hy
          have s12 := s1.trans (hb.same hD)
          refine ⟨_, rfl, D, _, rfl, .inl (SqL.of hy), rfl, by rw [← List.map_map]; exact flat_optV _, ?_⟩
          have en := stOfs_none rs as
          rw [show (optV ∘ stOf rs) = fun t => optV (stOf rs t) from rfl] at hy ⊢
          rw [en]
          have k' : ∀ G, Same H G → Q (optV ((stOfs rs as).bind fun is => ldOf rs g is)) G := fun G s => by
            have := k G s
            rw [stOf] at this
            exact this
          cases es : stOfs rs as with
          | none =>
            rw [es] at k'
            exact ⟨_, rfl, iteT (k' _ s12)⟩
          | some is =>
            rw [es] at k'
            rw [stOfs_some rs es] at hy
            refine ⟨_, rfl, iteF ⟨_, rfl, rp, rvs, leadsE rs, rfl, pl.mono s12, leads_pairs (ImAll.mono (sk s12) _ _ irs), leads_nodup nd, fun q G hq s2 ndG => ⟨q, rfl, ⟨_, ndG⟩, ?_⟩⟩⟩
            have s02 := s12.trans s2
            refine ⟨_, rfl, p, _, 0, _, rfl, rfl, keepT s02 sq, at0, by show 1 ≤ sizeLine; decide, fun u hu => ?_⟩
            have s3 := sn (o := .tup [.str g]) hu
            refine ⟨_, rfl, D, _, rfl, .inl ⟨SqL.of (s3 _ _ (s2 _ _ hy)), fun u2 hu2 => ?_⟩⟩
            have s4 := sn (o := .tup (is.map V.int)) hu2
            refine ⟨u, u2, _, _, rfl, rfl, keepT s4 (.inl (.inl upd_same)), .inl (.inl upd_same), ?_, fun t7 H7 s7 st7 => ?_⟩
            · have := congrArg List.length (stOfs_some rs es)
              simp at this
              rw [sizeLine_eq]
              simp
              omega
            have s37 := s3.trans (s4.trans s7)
            refine ⟨keyOf g is, _, key_v st7, ndG.mono s37, ?_⟩
            rw [leads_getD]
            exact k' _ (s02.trans s37)
end
end T82
/-! ### what stays while the tape and the tables of code objects change; repr of plain values -/
namespace T82
open PySem L2
/-- all but at a, and but tables, is as it was -/
def ButT (a : Addr) (H G : Hp) : Prop := ∀ b o, b ≠ a → H b = some o → (∀ ps, o ≠ .tbl ps) → G b = some o
section
variable {a c : Addr} {H H' G : Hp}
theorem ButT.refl : ButT a H H := fun _ _ _ e _ => e
theorem ButT.trans (x : ButT a H H') (y : ButT a H' G) : ButT a H G := fun b o n e t => y b o n (x b o n e t) t
theorem But.t (x : But a H G) : ButT a H G := fun b o n e _ => x b o n e
theorem same_t (x : Same H G) : ButT a H G := fun b o _ e _ => x b o e
theorem ext_t (x : LamX.ExtN H G) : ButT a H G := fun b o _ e t => x b o e t
theorem TapeAt.lst (t : TapeAt H a c) : ∃ xs, H a = some (.lst xs) := by
  obtain ⟨ns, x1, x2, x3, x4, f⟩ := t
  exact ⟨_, f.at_⟩
variable {K : PySem.W.Frag} {xs : List V} {p : Addr}
/-- at another place than the tape's stands no list -/
theorem ne_lst (t : TapeAt H a c) {b : Addr} {o : HO} (e : H b = some o) (n : ∀ xs, o ≠ .lst xs) : b ≠ a := fun z => by
  obtain ⟨xs, h⟩ := t.lst
  rw [z, h] at e
  exact n xs (Option.some.inj e).symm
theorem ButT.get (b : ButT a H G) (t : TapeAt H a c) {q : Addr} {o : HO} (e : H q = some o) (n : ∀ xs, o ≠ .lst xs) (m : ∀ ps, o ≠ .tbl ps) : G q = some o := b q o (ne_lst t e n) e m
theorem ButT.keep (b : ButT a H G) (t : TapeAt H a c) : Keep H G := fun q xs r => by
  rcases r with r | ⟨o, r⟩
  · exact .inl (b.get t r (fun _ z => by cases z) (fun _ z => by cases z))
  · exact .inr ⟨o, b.get t r (fun _ z => by cases z) (fun _ z => by cases z)⟩
theorem TapeAt.extT {b : Hp} (t : TapeAt H a c) (x : LamX.ExtN H b) : TapeAt b a c := t.keep (fun o e => x _ _ e (fun ps z => by
    obtain ⟨ns, x1, x2, x3, x4, f⟩ := t
    rw [z, f.at_] at e
    cases e)) (fun o e => x _ _ e (fun ps z => by
    obtain ⟨ns, x1, x2, x3, x4, f⟩ := t
    rw [z, f.cells] at e
    cases e))
theorem PlT.stay (h : PlT H p xs) (t : TapeAt H a c) (b : ButT a H G) : PlT G p xs := by
  obtain ⟨o, h, r⟩ := h
  exact ⟨o, b.get t h (fun _ z => by cases z) (fun _ z => by cases z), r⟩
theorem ShapeAt.stay {C x : Addr} {d : Dor} (h : ShapeAt K C H x d) (t : TapeAt H a c) (b : ButT a H G) : ShapeAt K C G x d := by
  obtain ⟨dx, v, a1, a2, a3, a4, k1, k2, k3, k4, h0, h1, h2, h3, h4, h5, h6, h7, h8, h9⟩ := h
  have kp := b.keep t
  have g : ∀ {q : Addr} {ks : List (Key × V)}, H q = some (.dK ks) → G q = some (.dK ks) := fun e => b.get t e (fun _ z => by cases z) (fun _ z => by cases z)
  exact ⟨dx, v, a1, a2, a3, a4, k1, k2, k3, k4, b.get t h0 (fun _ z => by cases z) (fun _ z => by cases z), Im.mono kp _ _ h1, g h2, DkIm.mono kp _ _ h3, g h4, DkIm.mono kp _ _ h5, g h6, DkIm.mono kp _ _ h7, g h8, DkIm.mono kp _ _ h9⟩
theorem DoorAt.stay {CS CD x : Addr} {d : Dor} (h : DoorAt K CS CD H x d) (t : TapeAt H a c) (b : ButT a H G) : DoorAt K CS CD G x d := by
  obtain ⟨dx, s', wv, sv, hv, lv, m, f⟩ := h
  have kp := b.keep t
  exact ⟨dx, s', wv, sv, hv, lv, m, b.get t f.at_ (fun _ z => by cases z) (fun _ z => by cases z), f.good, f.shape.stay t b, Im.mono kp _ _ f.words, Im.mono kp _ _ f.sealed, Im.mono kp _ _ f.heads, Im.mono kp _ _ f.laws⟩
theorem MachAt.stay {P : Program} {w : World} {CS CD CM x dr : Addr} {d : Dor} {rs : List Rl} {last : List Int} (h : MachAt P w K CS CD CM H x dr d rs last) (t : TapeAt H a c) (b : ButT a H G) : MachAt P w K CS CD CM G x dr d rs last := by
  obtain ⟨dx, l, sk', o, rv, lv, f⟩ := h
  have kp := b.keep t
  exact ⟨dx, l, sk', o, rv, lv, b.get t f.at_ (fun _ z => by cases z) (fun _ z => by cases z), f.door.stay t b, f.leads.at kp (fun u e => by
    obtain ⟨ts, _, h2, _⟩ := f.leads
    rw [h2] at e
    cases e
    exact b.get t h2 (fun _ z => by cases z) (fun _ z => by cases z)), Im.mono kp _ _ f.rules, Im.mono kp _ _ f.last⟩
theorem StsAt.stay {q : Addr} {es : Es} (s : StsAt H q es) (t : TapeAt H a c) (b : ButT a H G) : StsAt G q es := by
  obtain ⟨ns, x1, x2, x3, x4, f⟩ := id t
  refine ⟨b.get t s.at_ (fun _ z => by cases z) (fun _ z => by cases z), fun e he => b _ _ (fun z => ?_) (s.each e he) (fun _ z => by cases z)⟩
  have := s.each e he
  rw [z, f.at_] at this
  have h := HO.lst.inj (Option.some.inj this)
  cases hh : e.2.2 with
  | nil => rw [hh] at h; cases h
  | cons n r => rw [hh] at h; cases h
end
/-! ### repr -/
def repV : V → Str
  | .non => "None"
  | .int i => toString i
  | .bl b => if b then "True" else "False"
  | _ => ""
def Flat (v : V) : Prop := v = .non ∨ (∃ i : Int, v = .int i ∧ i.natAbs.log2 < 1920) ∨ ∃ b, v = .bl b
theorem cRepF {X : Cx} : CallR X (.builtin "repr") (fun xs H Q => ∃ v, xs = [v] ∧ Flat v ∧ Q (.str (repV v)) H) := by
  intro pins s σ H xs us Q I r h
  obtain ⟨v, rfl, hf, q⟩ := h
  obtain ⟨u, rfl, rx⟩ := vals1 r
  rcases hf with rfl | ⟨i, rfl, hi⟩ | ⟨b, rfl⟩
  · cases rx
    exact PySem.P.repr_of_none ⟨.str _, H, I.tok _, ⟨_, rfl⟩, q⟩
  · obtain ⟨t, rfl⟩ := rx
    exact PySem.P.repr_of_int hi ⟨.str _, H, I.tok _, ⟨_, rfl⟩, q⟩
  · cases rx
    exact PySem.P.repr_of_bool ⟨.str _, H, I.tok _, ⟨_, rfl⟩, q⟩
end T82
namespace T82
open PySem L2
theorem ldOf_goal {f : Str} {as : List Int} {i : Int} : ∀ {rs : List Rl}, ldOf rs f as = some i → ∃ r ∈ rs, r.goal = i
  | [], h => by cases h
  | r :: rs, h => by
    rw [ldOf] at h
    split at h
    · exact ⟨r, List.mem_cons_self, Option.some.inj h⟩
    · obtain ⟨r', m, e⟩ := ldOf_goal h
      exact ⟨r', List.mem_cons_of_mem _ m, e⟩
theorem stOf_goal {rs : List Rl} {t : Tm} {i : Int} (h : stOf rs t = some i) : ∃ r ∈ rs, r.goal = i := by
  cases t with
  | w z => rw [stOf] at h; exact ldOf_goal h
  | u n => rw [stOf] at h; cases h
  | c f as =>
    rw [stOf] at h
    obtain ⟨is, _, h2⟩ := Option.bind_eq_some_iff.mp h
    exact ldOf_goal h2
theorem flat_st {rs : List Rl} (h : ∀ r ∈ rs, inT r.goal) (t : Tm) : Flat (optV (stOf rs t)) := by
  cases e : stOf rs t with
  | none => exact .inl rfl
  | some i =>
    obtain ⟨r, m, rfl⟩ := stOf_goal e
    exact .inr (.inl ⟨_, rfl, strI_log (h r m)⟩)
section
variable {P : Program} {w : World} {K : PySem.W.Frag} {mg : Str → Option Value} {base : Heap}
abbrev nm__law_is_read_alike : List Str := ["tape", "parts", "machine", "rules", "last", "turn", "term", "due"]
theorem sc__law_is_read_alike : FnScope nm__law_is_read_alike ["tape", "parts", "machine", "rules", "last"] (defScope s__law_is_read_alike) := ⟨rfl, rfl, rfl, by decide +kernel, rfl, by decide +kernel, by decide +kernel⟩
def sp__law_is_read_alike (P : Program) (w : World) (K : PySem.W.Frag) (CS CD CM : Addr) : Sp := fun vs H Q _ => ∃ (a c : Addr) (pav : V) (x dr rp : Addr) (lv : V) (d : Dor) (rs : List Rl) (rvs : List V) (last : List Int), vs = [.ref a, pav, .ref x, .ref rp, lv] ∧ TapeAt H a c ∧ Im K H (partsD d) pav ∧ Drawn d ∧ MachAt P w K CS CD CM H x dr d rs last ∧
  PlT H rp rvs ∧ ImAll K H (rs.map Rl.d) rvs ∧ (rs.map Rl.nk).Nodup ∧ (∀ r ∈ rs, inT r.goal) ∧ Im K H (.tuple (last.map PyData.int)) lv ∧ ∀ G, But a H G → TapeAt G a c → Q (.bl true) G
theorem ok__law_is_read_alike (T : Tx K mg) : FnOk P w K mg base CX0 15 T.f__law_is_read_alike T.d__law_is_read_alike ["tape", "parts", "machine", "rules", "last"] (sp__law_is_read_alike P w K T.C_Shape T.C_Door T.C_Machine) := by
  refine T.F__law_is_read_alike.ok sc__law_is_read_alike (fun vs H Q E h => ?_) (fun cdv A outer s H vs Q E hr h => ?_)
  · obtain ⟨a, c, pav, x, dr, rp, lv, d, rs, rvs, last, rfl, _⟩ := h
    rfl
  · obtain ⟨a, c, pav, x, dr, rp, lv, d, rs, rvs, last, rfl, ta, ipv, drn, mat, pl, irs, nd, gl, il, k⟩ := h
    refine ⟨_, (pss_cons (ps_for PassesOwn.never rfl (pi_range1 rfl T.t_range (pa_cons pe_int pa_nil)) (pg_name (i := 5) sc__law_is_read_alike.nd rfl (Or.inl rfl))
      (pss_cons (ps_set (i := 6) sc__law_is_read_alike.nd rfl (.inl rfl) (pe_call (ok__law_term T 4) (hr.mono (by decide)) (by rfl) T.m__law_term T.F__law_term.kp T.b__law_term .nil pass0 (pa_cons (pv 0) (pa_cons (pv 1) (pa_cons (pe_call (ok__law_any T) (hr.mono (by decide)) (by rfl) T.m__law_any T.F__law_any.kp T.b__law_any .nil pass0 (pa_cons (pv 0) (pa_cons (pe_op op_cat (pe_callTy (tList (K := K) rfl) (by rfl) T.t_list (by decide +kernel) (pa_cons (pe_ix (iT (K := K) rfl) (pv 1) pe_int (fun _ _ => rfl)) pa_nil)) (pe_lst (pa_cons pe_str pa_nil))) pa_nil))) (pa_cons pe_int pa_nil))))))
      (pss_one (ps_if (pt_cmpR op_notN (pv 6) pe_non (nomark _)) (pss_cons (ps_set (i := 7) sc__law_is_read_alike.nd rfl (.inl rfl) (pe_call (ok__law_state T 8) (hr.mono (by decide)) (by rfl) T.m__law_state T.F__law_state.kp T.b__law_state .nil pass0 (pa_cons (pv 3) (pa_cons (pv 6) pa_nil))))
        (pss_one (ps_if (PW.pt (pw_or (pt_cmpR op_ne (pe_callB cRepF (by rfl) T.t_repr (by decide +kernel) (pa_cons (pe_call (ok_state T) (hr.mono (by decide)) (by rfl) T.m_state T.F_state.kp T.b_state .nil pass0 (pa_cons (pv 2) (pa_cons (pv 6) pa_nil))) pa_nil)) (pe_callB cRepF (by rfl) T.t_repr (by decide +kernel) (pa_cons (pv 7) pa_nil)) (nomark _)) (pw_or1 (pt_cmpR op_ne (pe_callB cRepF (by rfl) T.t_repr (by decide +kernel) (pa_cons (pe_call (ok_takes T) (hr.mono (by decide)) (by rfl) T.m_takes T.F_takes.kp T.b_takes .nil pass0 (pa_cons (pv 2) (pa_cons (pv 6) pa_nil))) pa_nil)) (pe_callB cRepF (by rfl) T.t_repr (by decide +kernel) (pa_cons (pe_cmpR (oIn (K := K) rfl) (pv 7) (pv 4) rfl) pa_nil)) (nomark _))))) (pss_one (ps_ret pe_bl)) pss_nil))) pss_nil))))
    (pss_one (ps_ret pe_bl))), ?_⟩
    have gd := drn.good
    refine ⟨6, rfl, by decide, by decide, for_range (lo := 0) (n := 6) (fun i σ G => ∃ b1 b2 b3, σ = [some (.ref a), some pav, some (.ref x), some (.ref rp), some lv, b1, b2, b3] ∧ But a H G ∧ TapeAt G a c) ⟨_, _, _, rfl, But.refl, ta⟩ ?_ ?_⟩
    · rintro i σ G hi ⟨b1, b2, b3, rfl, bG, tG⟩
      have kG := bG.keep ta.notup
      obtain ⟨pp, v0, v1, v2, v3, rfl, spp, i0, i1, i2, i3⟩ := parts_at (Im.mono kG _ _ ipv)
      obtain ⟨sp1, rfl, ss1⟩ := strs_at2 i1
      refine ⟨_, rfl, _, rfl, _, rfl, _, rfl, pp, _, 1, _, rfl, rfl, spp, rfl, sp1, _, rfl, .inr ss1, fun l1 hl1 => ?_⟩
      have s1 := sn (o := .lst (d.sealed.map V.str)) hl1
      have e1 : upd G l1 (.lst (d.sealed.map V.str)) l1 = some (.lst (d.sealed.map V.str)) := upd_same
      generalize upd G l1 (.lst (d.sealed.map V.str)) = G1 at s1 e1 ⊢
      refine ⟨by show 1 ≤ sizeLine; decide, fun l2 hl2 => ?_⟩
      have s2 := sn (o := .lst [.str "bit"]) hl2
      have e2 : upd G1 l2 (.lst [.str "bit"]) l2 = some (.lst [.str "bit"]) := upd_same
      generalize upd G1 l2 (.lst [.str "bit"]) = G2 at s2 e2 ⊢
      have s4 := gd.sealed4
      refine ⟨l1, l2, _, _, rfl, rfl, s2 _ _ e1, e2, by rw [sizeLine_eq, List.length_map, List.length_singleton]; omega, fun l3 hl3 => ?_⟩
      have s3 := sn (o := .lst (d.sealed.map V.str ++ [.str "bit"])) hl3
      have e3 : upd G2 l3 (.lst (d.sealed.map V.str ++ [.str "bit"])) l3 = some (.lst ((d.sealed ++ [("bit" : Str)]).map V.str)) := by
        rw [upd_same, List.map_append]
        rfl
      have t2 := tG.mono (s1.trans s2)
      have l3a := (t2.new hl3).1
      have t3 := t2.mono s3
      have s13 := s1.trans (s2.trans s3)
      generalize upd G2 l3 (.lst (d.sealed.map V.str ++ [.str "bit"])) = G3 at s3 e3 t3 s13 ⊢
      refine ⟨a, c, l3, _, rfl, t3, fun G b => .inl (SqL.of (b _ _ l3a e3)), by simp, by simp; omega, fun G4 v b4 t4 mem => ?_⟩
      obtain ⟨kind, _, rfl⟩ := List.mem_map.mp mem
      have b04 := (bG.trans (.of s13)).trans b4
      refine ⟨a, c, _, kind, d, 3, rfl, by decide, by decide, t4, Im.mono (b04.keep ta.notup) _ _ ipv, drn, fun G5 tv o b5 t5 ho it => ?_⟩
      have b05 := b04.trans b5
      cases o with
      | none =>
        rw [Im.non_ (show Im K G5 .none tv from it)]
        exact ⟨_, rfl, rfl, _, rfl, itf rfl ⟨_, _, _, rfl, b05, t5⟩⟩
      | some t =>
        obtain ⟨wf, dp⟩ := ho t rfl
        have it : Im K G5 t.d tv := it
        have nn : tv ≠ .non := by
          intro e
          cases t with
          | w z => rw [Tm.w_at it] at e; cases e
          | u n => obtain ⟨q, e2, _⟩ := Tm.u_at it; rw [e2] at e; cases e
          | c f as => obtain ⟨q, _, e2, _⟩ := Tm.c_at it; rw [e2] at e; cases e
        refine ⟨_, rfl, rfl, _, rfl, itt (by rw [decide_eq_false nn]; rfl) ?_⟩
        have bt5 : ButT a H G5 := b05.t
        refine ⟨_, rfl, _, rfl, rp, tv, rvs, rs, t, rfl, pl.stay ta bt5, ImAll.mono (bt5.keep ta) _ _ irs, nd, it, WF.ok gd _ _ wf, WF.noU _ _ wf, by omega, fun G6 s6 => ?_⟩
        have bt6 := bt5.trans (same_t s6)
        refine ⟨_, rfl, _, rfl, x, dr, tv, d, rs, last, t, kind, rfl, mat.stay ta bt6, Im.mono (sk s6) _ _ it, wf, by omega, fun G7 s7 => ⟨_, rfl, flat_st gl t, _, rfl, _, rfl, flat_st gl t, rfl, _, rfl, itf (by rw [decide_eq_true rfl]; rfl) ?_⟩⟩
        have bt7 := bt6.trans (same_t s7)
        refine ⟨_, rfl, _, rfl, x, dr, tv, d, rs, last, t, kind, rfl, mat.stay ta bt7, Im.mono (sk (s6.trans s7)) _ _ it, wf, by omega, fun G8 s8 => ⟨_, rfl, .inr (.inr ⟨_, rfl⟩), ?_⟩⟩
        have bt8 := bt7.trans (same_t s8)
        obtain ⟨lp, e, slp⟩ := ints_at2 (Im.mono (bt8.keep ta) _ _ il)
        refine ⟨_, rfl, _, rfl, lp, _, e, .inr slp, by cases stOf rs t <;> rfl, flat_ints _, _, rfl, .inr (.inr ⟨_, rfl⟩), rfl, _, rfl, itf (by simp) ?_⟩
        exact ⟨_, _, _, rfl, b05.trans (.of (s6.trans (s7.trans s8))), t5.mono (s6.trans (s7.trans s8))⟩
    · rintro σ G ⟨b1, b2, b3, rfl, bG, tG⟩
      exact k G bG tG
end
end T82
/-! ### isinstance of a caught error that has fields; list.count of plain values -/
namespace T82
open PySem L2 PyProof.Rows
open PySem.Spec
/-- what the class D must say -/
structure ExcD (K : PySem.W.Frag) (D : Addr) : Prop where
  cl : (PySem.W.clsIn K D).isSome = true
  ga : PySem.W.findIn K (.ref D) "__getattribute__" = some (some (.builtin "BaseException.__getattribute__"))
  gt : PySem.W.findIn K (.ref D) "__getattr__" = some none
  su : PySem.W.subIn K (.ref D) (.type "BaseException") = some true
  ca : PySem.W.findIn K (.ref D) "__class__" = some (some (.builtin "object.__class__"))
  sg : PySem.W.specialIn K (.builtin "object.__class__") "__get__" = some (some (.builtin "getset_descriptor.__get__"))
  tk : PySem.W.takesIn K (.builtin "object.__class__") = some true
  mo : PySem.W.mroIn K D (.type "object") = some true
def rIsD (K : PySem.W.Frag) (a : Addr) (cls : Value) (d : Option Addr) : List V → Hp → VK → Prop := fun xs H Q => ∃ (c : V) (cv : Value) (b : Bool) (D dd : Addr) (fs : List (Str × V)), xs = [.ref a, c] ∧ (∀ u, RelV c u → u = cv) ∧ cls = .ref D ∧ ExcD K D ∧ d = some dd ∧ H dd = some (.xd fs) ∧
  PySem.W.kitOne K (.ref D) cv = some b ∧ Q (.bl b) H
theorem call_isD {X : Cx} {a : Addr} {cls : Value} {d : Option Addr} {oe : Obj} {pn : List (Addr × Obj)} (hz : Zc cls d oe) (hf : ∃ vs, oe.data = .fields vs) : CallR (X.suite a ((a, oe) :: pn)) (.builtin "isinstance") (rIsD X.K a cls d) := by
  intro pins s σ H xs us Q I r h
  obtain ⟨c, cv, b, D, dd, fs, rfl, hcv, rfl, C, rfl, hx, e, q⟩ := h
  cases r with
  | cons rx rr =>
    cases rr with
    | cons rt rr =>
      cases rr
      cases rx
      cases hcv _ rt
      have pin := (I.pin (a, oe) (List.mem_append_left _ List.mem_cons_self)).1
      obtain ⟨vs, dv⟩ := hf
      obtain ⟨mA, hns, _⟩ := (show ObjOk _ _ H s.heap dd (.xd fs) from I.hok dd _ hx)
      obtain ⟨od, ho, _⟩ := lookIn_ns hns
      have at_ : PySem.W.InstAt s.heap a oe D (some od) := ⟨pin, hz.1, by unfold PySem.W.notCls; rw [dv] <;> rfl, by rw [hz.2]; exact ho⟩
      exact PySem.W.kia_one (PySem.W.kitx_exc C.cl C.ga C.gt C.su C.ca C.sg C.tk C.mo) I.kIn at_ e (fun z => nomatch z) fun tk => ⟨.bl b, H, I.kept (t' := tk) fun _ _ z => z, rfl, q⟩
def rCntF (K : PySem.W.Frag) : V → List V → Hp → VK → Prop := fun x xs H Q => ∃ (a : Addr) (ys : List V) (y : V), x = .ref a ∧ xs = [y] ∧ SqL K H a ys ∧ flatV y = true ∧ ys.all flatV = true ∧ Q (.int ((ys.countP fun z => eqV z y : Nat) : Int)) H
theorem countU {y : V} : ∀ {ys : List V} {us : List Value}, Vals ys us → ys.all flatV = true → us.countP (eqU y) = ys.countP fun z => eqV z y
  | _, _, .nil, _ => rfl
  | _, _, .cons r rs, f => by
    rw [List.all_cons, Bool.and_eq_true] at f
    rw [List.countP_cons, List.countP_cons, countU rs f.2, eqU_of r f.1]
theorem mt_countF {X : Cx} : MtR X "list.count" (rCntF X.K) := by
  intro pins s σ H x xs v us Q I rx rxs h
  obtain ⟨a, ys, y, rfl, rfl, hs, fy, fys, q⟩ := h
  cases rx
  cases rxs with
  | cons ry rt =>
    rename_i uy ut
    cases rt
    obtain ⟨its, rv, ⟨⟨cls, dd, data, sl⟩, n, ho, hc, _, hd⟩, _⟩ := I.list hs
    cases hc
    cases hd
    refine call_meets PySem.F.slot_list_count ⟨_, ho, rfl⟩ PySem.F.entry_list_count (PySem.F.args_list_count_2 _ _) (SeqAt.list_countAt a its.toArray n dd sl uy (eqU y)) ⟨ho, fun u' hu' => mem_eqAt ry fy rv fys u' (by simpa using hu'), ?_⟩
    refine ⟨.int ((ys.countP fun z => eqV z y : Nat) : Int), H, I.tok _, ⟨s.toks, ?_⟩, q⟩
    have e : its.toArray.toList.countP (eqU y) = ys.countP fun z => eqV z y := by simpa using countU rv fys
    rw [e]
end T82
namespace T82
open PySem L2
section
variable {P : Program} {w : World} {K : PySem.W.Frag} {mg : Str → Option Value} {base : Heap}
/-! ### joined -/
abbrev nm__law_joined : List Str := ["lines", "line"]
theorem sc__law_joined : FnScope nm__law_joined ["lines"] (defScope s__law_joined) := ⟨rfl, rfl, rfl, by decide +kernel, rfl, by decide +kernel, by decide +kernel⟩
def sp__law_joined (K : PySem.W.Frag) : Sp := fun vs H Q _ => ∃ p ls, vs = [.ref p] ∧ SqL K H p (ls.map V.str) ∧ ls.length ≤ 1000 ∧ (∀ l ∈ ls, l.length ≤ 300) ∧ ∀ G, Same H G → Q (.str (joinT ls)) G
theorem ok__law_joined (T : Tx K mg) : FnOk P w K mg base CX0 1 T.f__law_joined T.d__law_joined ["lines"] (sp__law_joined K) := by
  refine T.F__law_joined.ok sc__law_joined (fun vs H Q E h => ?_) (fun cdv A outer s H vs Q E hr h => ?_)
  · obtain ⟨p, ls, rfl, _⟩ := h
    rfl
  · obtain ⟨p, ls, rfl, sp, many, lens, k⟩ := h
    refine ⟨_, (pss_one (ps_ret (pe_join pe_str (pe_lc (own := [("line", 1)]) (g := gName 1) (tt := tYes) rfl sc__law_joined.nd (wL (K := K) rfl (pv 0)) (blkOk_by (N := nm__law_joined) (sc := defScope s__law_joined) (by decide +kernel)) (fun _ _ _ _ _ => (pg_name (i := 1) sc__law_joined.nd rfl (Or.inl rfl))) (fun _ _ _ _ _ => pts_nil) (fun _ _ _ _ _ => (pe_op op_add_str (pv 1) pe_str)))))), ?_⟩
    refine ⟨⟨_, rfl⟩, _, rfl, p, rfl, ⟨_, sp⟩, fun D hD => lc_strs (K := K) (walk_list (K := K) (a := p) (xs := ls.map V.str)) (ls.map fun l => l ++ ("\n" : Str)) (by simp) hD (by rw [List.length_map]; omega) (fun H8 hb => keepL (hb.same hD) sp) ?_ ?_⟩
    · rintro j z y H0 H8 hz hb hne ⟨rfl, hy⟩
      rw [List.getElem?_map] at hz hy
      cases ea : ls[j]? with
      | none => rw [ea] at hy; cases hy
      | some a =>
        rw [ea] at hz hy
        cases hz
        cases hy
        have := lens a (List.mem_of_getElem? ea)
        exact ⟨Same.refl _, fun N hN => ⟨rfl, _, rfl, _, _, rfl, rfl, by rw [sizeLine_eq, show ("\n" : Str).length = 1 by decide +kernel]; omega, hN _ (Same.refl _)⟩⟩
    intro G b e
    refine ⟨_, D, _, rfl, rfl, .inl (SqL.of e), ?_, k _ (b.same hD)⟩
    have := joinT_sum lens
    rw [nul_len]
    show (List.map Str.length _).sum + _ ≤ _
    have : ls.length * 301 ≤ 1000 * 301 := Nat.mul_le_mul_right _ many
    omega
end
end T82
namespace T82
open PySem L2
/-! ### the rules within an except suite -/
section
variable {X : Cx} {a : Addr} {pn : List (Addr × Obj)}
theorem mt_countS : MtR (X.suite a pn) "list.count" (rCntF X.K) := mt_countF
theorem mt_indexS : MtR (X.suite a pn) "list.index" (rIndex X.K) := mt_index
theorem ix_listS : IxR (X.suite a pn) (rIxL X.K) := ix_list
theorem pe_bmS {T : String} {name : Str} {id : String} {r : V → List V → Hp → VK → Prop} {o e : Expr} {es : List Expr} {to : TE} {t : TA} {apos cpos : Pos} (pa : PlainAttrs T) (slot : Slot T name id) (hty : typeOf (.builtin id) = pure (.type "method_descriptor")) (hm : MtR (X.suite a pn) id r)
    (ho : PE (X.suite a pn) o to) (ha : PA (X.suite a pn) (e :: es) t) (h1 : attributeBase o name X.env (eval o X.env) = eval o X.env := by rfl)
    (h2 : ((backTo cpos (starEach (e :: es) X.env)).all (fun x => !x.1) && (backToKw cpos (keywordEach [] X.env)).all (fun x => x.1.isSome) && decide ((e :: es).length + ([] : List Keyword).length + (if ([] : List Keyword).isEmpty then 0 else 1) < 30)) = true := by rfl)
    (h3 : (apos.endLine == cpos.line) = true := by rfl) (h4 : starEach (e :: es) X.env = (false, eval e X.env) :: starEach es X.env := by rfl) (h5 : (backTo cpos (starEach es X.env)).any (·.1) = false := by rfl) :
    PE (X.suite a pn) (.Call (.Attribute o name apos) (e :: es) [] cpos) (tBM X.K T r to t) := pe_bm pa slot hty hm ho ha h1 h2 h3 h4 h5
theorem pss_len {b : List Stmt} {t : TS} (n : Nat) (e : X.N.length = n) (h : PSs X b t) : PSs X b (fun D σ H => σ.length = n → t D σ H) := ⟨fun pins s σ H D I q => h.run pins s σ H D I (q (I.len.trans e))⟩
end
/-! ### told: what a call raises -/
abbrev nm__law_told : List Str := ["call", "e", "flags", "word"]
theorem sc__law_told : FnScope nm__law_told ["call"] (defScope s__law_told) := ⟨rfl, rfl, rfl, by decide +kernel, rfl, by decide +kernel, by decide +kernel⟩
/-- what the written part says of the two errors -/
structure ErrT {K : PySem.W.Frag} {mg : Str → Option Value} (T : Tx K mg) : Prop where
  ct : ExcD K T.C_BadText
  cm : ExcD K T.C_BadMachine
  xt : PySem.W.exmOne K (.ref T.C_BadText) (.ref T.C_DoorError) = some true
  xm : PySem.W.exmOne K (.ref T.C_BadMachine) (.ref T.C_DoorError) = some true
  tt : PySem.W.kitOne K (.ref T.C_BadText) (.ref T.C_BadText) = some true
  tm : PySem.W.kitOne K (.ref T.C_BadText) (.ref T.C_BadMachine) = some false
  mt : PySem.W.kitOne K (.ref T.C_BadMachine) (.ref T.C_BadText) = some false
  mm : PySem.W.kitOne K (.ref T.C_BadMachine) (.ref T.C_BadMachine) = some true
  tv : PySem.W.kitOne K (.ref T.C_BadText) (.type "ValueError") = some true
  mv : PySem.W.kitOne K (.ref T.C_BadMachine) (.type "ValueError") = some true
/-- the two ways out: a pair of the word and what the error holds -/
def wishT (K : PySem.W.Frag) (CT CM : Addr) (Q : VK) : XK := fun cls d H => ∃ dd v, d = some dd ∧
  ((cls = .ref CT ∧ H dd = some (.xd [(("at" : Str), v)]) ∧ ∀ G p, Same H G → SqT K G p [.str "text", v] → Q (.ref p) G) ∨
   (cls = .ref CM ∧ H dd = some (.xd [(("part" : Str), v)]) ∧ ∀ G p, Same H G → SqT K G p [.str "machine", v] → Q (.ref p) G))
def TTold2 (K : PySem.W.Frag) (CT CM : Addr) : (XK → Hp → VK → Prop) → Hp → VK → Prop := fun tl H Q => ∀ Q' : VK, tl (wishT K CT CM Q) H Q'
abbrev toldCx (X : Cx) (g : Addr) (cdg : Value) (s : Shared) (H : Hp) : Cx := (cxOf C8.CX0 X.prog X.w X.K X.mg X.base nm__law_told "_law_told" (defScope s__law_told) g cdg X.A X.stack s H C8.E0).nox
theorem told2 {X : Cx} (T : Tx X.K X.mg) {fT fM : Addr} (BT : BadTextX.Txt X.prog X.K X.mg T.C_BadText fT) (BM : BadMachineX.Txt X.prog X.K X.mg T.C_BadMachine fM) (Er : ErrT T) {q : Str} {g : Addr} {cdg : Value} :
    LamX.GivesTo X nm__law_told "_law_told" (defScope s__law_told) g cdg (defBody s__law_told) "call" q (TTold2 X.K T.C_BadText T.C_BadMachine) := by
  intro f c' s H Q tl act hc h
  have eT : T.C_BadText = T.C_BadText := rfl
  refine ⟨_, pss_one (ps_try_as (i := 1) (X := toldCx X g cdg s H) (c := .ref T.C_DoorError) (n := "e")
      (tb := fun W D σ H => ∃ Ech : XK, (∀ cls d σ' H', Ech cls d H' → W cls d σ' H') ∧ σ[0]? = some (some (.ref f)) ∧ H c' = some (LamX.CodeO c' q) ∧ ∀ Q' : VK, tl Ech H Q')
      rfl rfl sc__law_told.nd rfl rfl ⟨rfl, by decide +kernel, .inl T.m_DoorError⟩ LamX.takes0 (fun W pn xe tk _ => ?_)
      (fun a oe cls d pn hz hf => pss_len 4 rfl (pss_cons (ps_set (i := 2) sc__law_told.nd rfl (.inl rfl) (pe_lst (pa_cons (pe_callB (call_isD (X := toldCx X g cdg s H) hz hf) (by rfl) T.t_isinstance (by decide +kernel) (pa_cons (pv 1) (pa_cons (pe_glob rfl T.m_BadText (show RelV (.ref T.C_BadText) (.ref T.C_BadText) from rfl)) pa_nil)))
          (pa_cons (pe_callB (call_isD (X := toldCx X g cdg s H) hz hf) (by rfl) T.t_isinstance (by decide +kernel) (pa_cons (pv 1) (pa_cons (pe_glob rfl T.m_BadMachine (show RelV (.ref T.C_BadMachine) (.ref T.C_BadMachine) from rfl)) pa_nil))) pa_nil))))
        (pss_cons (ps_set (i := 3) sc__law_told.nd rfl (.inl rfl) pe_str)
        (pss_cons (ps_if (PW.pt (pw_and (pt_cmpR op_eq (pe_bmS (X := toldCx X g cdg s H) PySem.F.plainAttrs_list PySem.F.slot_list_count PySem.F.type_list_count mt_countS (pv 2) (pa_cons pe_bl pa_nil)) pe_int (nomark _))
            (pw_and1 (pt_val (pe_callB (call_isD (X := toldCx X g cdg s H) hz hf) (by rfl) T.t_isinstance (by decide +kernel) (pa_cons (pv 1) (pa_cons (pe_bltn (by rfl) T.t_ValueError (by decide +kernel) (show RelV (.ty "ValueError") (.type "ValueError") from rfl)) pa_nil)))))))
          (pss_one (ps_set (i := 3) sc__law_told.nd rfl (.inl rfl) (pe_ix (ix_listS (X := toldCx X g cdg s H)) (pe_lst (pa_cons pe_str (pa_cons pe_str pa_nil))) (pe_bmS (X := toldCx X g cdg s H) PySem.F.plainAttrs_list PySem.F.slot_list_index PySem.F.type_list_index mt_indexS (pv 2) (pa_cons pe_bl pa_nil)) (fun _ _ => rfl)))) pss_nil)
        (pss_one (ps_ret (pe_tup (pa_cons (pv 3) (pa_cons (pe_ifExp (pt_cmpR op_eq (pv 3) pe_str (nomark _)) (BadTextX.pe_own (X := toldCx X g cdg s H) BT hz hf (pv 1)) (pe_ifExp (pt_cmpR op_eq (pv 3) pe_str (nomark _)) (BadMachineX.pe_own (X := toldCx X g cdg s H) BM hz hf (pv 1)) pe_non)) pa_nil)))))))))), ?_⟩
  · refine ⟨fun pins s' σ H' D I h' => ?_⟩
    obtain ⟨Ech, hW, h1, h2, h3⟩ := h'
    exact (pss_one (ps_ret (pe_tup (pa_cons pe_str (pa_cons (act W pn xe Ech _ _ tk hW) pa_nil))))).run pins s' σ H' D I ⟨h1, h2, h3 _⟩
  · refine ⟨wishT X.K T.C_BadText T.C_BadMachine Q, fun cls d σ' H' hw => ?_, rfl, hc, h⟩
    obtain ⟨dd, v, rfl, hw⟩ := hw
    rcases hw with ⟨rfl, hx, k⟩ | ⟨rfl, hx, k⟩
    · refine ⟨true, Er.xt, fun _ a ha => ?_, fun z => Bool.noConfusion z⟩
      intro len
      obtain ⟨z0, z1, z2, z3, rfl⟩ : ∃ z0 z1 z2 z3, σ' = [z0, z1, z2, z3] := by
        have len : σ'.length = 4 := by
          rw [List.length_set] at len
          exact len
        match σ', len with
        | [z0, z1, z2, z3], _ => exact ⟨z0, z1, z2, z3, rfl⟩
      refine ⟨_, rfl, _, _, true, _, _, _, rfl, fun u r => r, rfl, Er.ct, rfl, hx, Er.tt, _, rfl, _, _, false, _, _, _, rfl, fun u r => r, rfl, Er.ct, rfl, hx, Er.tm, by show 2 ≤ sizeLine; decide, fun p hp => ?_⟩
      have s1 := sn (o := .lst [.bl true, .bl false]) hp
      have e1 : upd H' p (.lst [.bl true, .bl false]) p = some (.lst [.bl true, .bl false]) := upd_same
      generalize upd H' p (.lst [.bl true, .bl false]) = G1 at s1 e1 ⊢
      have hx1 := s1 _ _ hx
      refine ⟨_, rfl, .inl ⟨rfl, _, SqL.of e1⟩, p, _, _, rfl, rfl, SqL.of e1, rfl, rfl, rfl, _, rfl, itt (by decide) ⟨_, rfl, _, _, true, _, _, _, rfl, fun u r => r, rfl, Er.ct, rfl, hx1, Er.tv, _, rfl, iteT ?_⟩⟩
      refine ⟨by show 2 ≤ sizeLine; decide, fun p2 hp2 => ?_⟩
      have s2 := sn (o := .lst [.str "text", .str "machine"]) hp2
      have e2 : upd G1 p2 (.lst [.str "text", .str "machine"]) p2 = some (.lst [.str "text", .str "machine"]) := upd_same
      generalize upd G1 p2 (.lst [.str "text", .str "machine"]) = G2 at s2 e2 ⊢
      have e12 := s2 _ _ e1
      refine ⟨_, rfl, .inl ⟨rfl, _, SqL.of e12⟩, p, _, _, 0, _, rfl, rfl, SqL.of e12, rfl, rfl, rfl, rfl, ?_, ?_⟩
      · intro m z' hm hz'
        first | exact absurd hm (Nat.not_lt_zero _) | (have m0 : m = 0 := by omega
                                                       subst m0
                                                       cases hz'
                                                       rfl)
      refine ⟨p2, _, _, .str "text", rfl, rfl, SqL.of e2, rfl, ?_⟩
      have hx2 := s2 _ _ hx1
      refine ⟨_, rfl, _, rfl, rfl, _, rfl, ?_⟩
      exact itt (decide_eq_true rfl) ⟨_, rfl, rfl, rfl, dd, v, rfl, hx2, by show 2 ≤ sizeLine; decide, fun t ht => k _ t ((s1.trans s2).trans (sn ht)) (.inl (.inl upd_same))⟩
    · refine ⟨true, Er.xm, fun _ a ha => ?_, fun z => Bool.noConfusion z⟩
      intro len
      obtain ⟨z0, z1, z2, z3, rfl⟩ : ∃ z0 z1 z2 z3, σ' = [z0, z1, z2, z3] := by
        have len : σ'.length = 4 := by
          rw [List.length_set] at len
          exact len
        match σ', len with
        | [z0, z1, z2, z3], _ => exact ⟨z0, z1, z2, z3, rfl⟩
      refine ⟨_, rfl, _, _, false, _, _, _, rfl, fun u r => r, rfl, Er.cm, rfl, hx, Er.mt, _, rfl, _, _, true, _, _, _, rfl, fun u r => r, rfl, Er.cm, rfl, hx, Er.mm, by show 2 ≤ sizeLine; decide, fun p hp => ?_⟩
      have s1 := sn (o := .lst [.bl false, .bl true]) hp
      have e1 : upd H' p (.lst [.bl false, .bl true]) p = some (.lst [.bl false, .bl true]) := upd_same
      generalize upd H' p (.lst [.bl false, .bl true]) = G1 at s1 e1 ⊢
      have hx1 := s1 _ _ hx
      refine ⟨_, rfl, .inl ⟨rfl, _, SqL.of e1⟩, p, _, _, rfl, rfl, SqL.of e1, rfl, rfl, rfl, _, rfl, itt (by decide) ⟨_, rfl, _, _, true, _, _, _, rfl, fun u r => r, rfl, Er.cm, rfl, hx1, Er.mv, _, rfl, iteT ?_⟩⟩
      refine ⟨by show 2 ≤ sizeLine; decide, fun p2 hp2 => ?_⟩
      have s2 := sn (o := .lst [.str "text", .str "machine"]) hp2
      have e2 : upd G1 p2 (.lst [.str "text", .str "machine"]) p2 = some (.lst [.str "text", .str "machine"]) := upd_same
      generalize upd G1 p2 (.lst [.str "text", .str "machine"]) = G2 at s2 e2 ⊢
      have e12 := s2 _ _ e1
      refine ⟨_, rfl, .inl ⟨rfl, _, SqL.of e12⟩, p, _, _, 1, _, rfl, rfl, SqL.of e12, rfl, rfl, rfl, rfl, ?_, ?_⟩
      · intro m z' hm hz'
        first | exact absurd hm (Nat.not_lt_zero _) | (have m0 : m = 0 := by omega
                                                       subst m0
                                                       cases hz'
                                                       rfl)
      refine ⟨p2, _, _, .str "machine", rfl, rfl, SqL.of e2, rfl, ?_⟩
      have hx2 := s2 _ _ hx1
      refine ⟨_, rfl, _, rfl, rfl, _, rfl, ?_⟩
      refine itf (by decide +kernel) ⟨_, rfl, rfl, _, rfl, ?_⟩
      exact itt (decide_eq_true rfl) ⟨_, rfl, rfl, rfl, dd, v, rfl, hx2, by show 2 ≤ sizeLine; decide, fun t ht => k _ t ((s1.trans s2).trans (sn ht)) (.inl (.inl upd_same))⟩
end T82
/-! ### the texts, read back -/
namespace T82
open PySem L2
theorem sp_tl : TL.tl (" " : Str) = [32] := by decide +kernel
theorem nul_tl : TL.tl ("" : Str) = [] := by decide +kernel
theorem nl_tl2 : TL.tl ("\n" : Str) = [10] := by decide +kernel
theorem rule_tl : TL.tl ("rule " : Str) = [114, 117, 108, 101, 32] := by decide +kernel
theorem arrow_tl2 : TL.tl (" -> " : Str) = [32, 45, 62, 32] := by decide +kernel
theorem last_tl : TL.tl ("last" : Str) = [108, 97, 115, 116] := by decide +kernel
theorem name_signs {z : Str} (h : nameB z = true) : ∀ c ∈ TL.tl z, 97 ≤ c ∧ c ≤ 122 := by
  unfold nameB at h
  simp only [Bool.and_eq_true] at h
  intro c hc
  have h2 := List.all_eq_true.mp h.2 c hc
  unfold letter at h2
  have h3 := of_decide_eq_true h2
  rw [show ("abcdefghijklmnopqrstuvwxyz" : Str).cps.toList = [97, 98, 99, 100, 101, 102, 103, 104, 105, 106, 107, 108, 109, 110, 111, 112, 113, 114, 115, 116, 117, 118, 119, 120, 121, 122] by decide +kernel] at h3
  simp only [List.mem_cons, List.not_mem_nil, or_false] at h3
  omega
theorem num_signs {i : Int} (h : inT i) : ∀ c ∈ TL.tl (strI i), 48 ≤ c ∧ c ≤ 57 := fun c hc => by
  rw [strI_tl h] at hc
  exact TL.numL_digits _ c hc
/-! what a joined text holds -/
theorem mem_joinL {S : List Nat} {c : Nat} : ∀ {ps : List (List Nat)}, c ∈ TL.joinL S ps → c ∈ S ∨ ∃ p ∈ ps, c ∈ p
  | [], h => by cases h
  | [p], h => .inr ⟨p, List.mem_cons_self, h⟩
  | p :: q :: r, h => by
    have h : c ∈ p ++ (S ++ TL.joinL S (q :: r)) := h
    rcases List.mem_append.mp h with h | h
    · exact .inr ⟨p, List.mem_cons_self, h⟩
    · rcases List.mem_append.mp h with h | h
      · exact .inl h
      · rcases mem_joinL h with h | ⟨x, hx, h⟩
        · exact .inl h
        · exact .inr ⟨x, List.mem_cons_of_mem _ hx, h⟩
theorem mem_join {y : Str} {ps : List Str} {c : Nat} (h : c ∈ TL.tl (Txt.join y ps)) : c ∈ TL.tl y ∨ ∃ p ∈ ps, c ∈ TL.tl p := by
  rw [TL.join_eq, TL.tl_join] at h
  rcases mem_joinL h with h | ⟨x, hx, h⟩
  · exact .inl h
  · obtain ⟨p, hp, rfl⟩ := List.mem_map.mp hx
    exact .inr ⟨p, hp, h⟩
theorem head_signs {r : Rl} (h : r.fit) : ∀ c ∈ TL.tl r.head, c = 32 ∨ (48 ≤ c ∧ c ≤ 57) ∨ (97 ≤ c ∧ c ≤ 122) := fun c hc => by
  unfold Rl.head at hc
  rcases mem_join hc with hc | ⟨p, hp, hc⟩
  · rw [sp_tl] at hc
    exact .inl (by simpa using hc)
  · rcases List.mem_cons.mp hp with rfl | hp
    · exact .inr (.inr (name_signs h.name c hc))
    · obtain ⟨a, ha, rfl⟩ := List.mem_map.mp hp
      exact .inr (.inl (num_signs (h.args a ha) c hc))
theorem rhead_signs {r : Rl} (h : r.fit) : ∀ c ∈ TL.tl (("rule " : Str) ++ r.head), c = 32 ∨ (48 ≤ c ∧ c ≤ 57) ∨ (97 ≤ c ∧ c ≤ 122) := fun c hc => by
  rw [TL.tl_append, rule_tl] at hc
  rcases List.mem_append.mp hc with hc | hc
  · simp only [List.mem_cons, List.not_mem_nil, or_false] at hc
    omega
  · exact head_signs h c hc
theorem text_signs {r : Rl} (h : r.fit) : ∀ c ∈ TL.tl r.text, c ≠ 10 := fun c hc => by
  unfold Rl.text at hc
  rw [TL.tl_append, TL.tl_append] at hc
  rcases List.mem_append.mp hc with hc | hc
  · rcases List.mem_append.mp hc with hc | hc
    · have := rhead_signs h c hc
      omega
    · rw [arrow_tl2] at hc
      simp only [List.mem_cons, List.not_mem_nil, or_false] at hc
      omega
  · have := num_signs h.goal c hc
    omega
theorem last_signs {is : List Int} (h : ∀ a ∈ is, inT a) : ∀ c ∈ TL.tl (lastT is), c ≠ 10 := fun c hc => by
  unfold lastT at hc
  rw [TL.tl_append, last_tl] at hc
  rcases List.mem_append.mp hc with hc | hc
  · simp only [List.mem_cons, List.not_mem_nil, or_false] at hc
    omega
  · rcases mem_join hc with hc | ⟨p, hp, hc⟩
    · rw [nul_tl] at hc
      cases hc
    · obtain ⟨a, ha, rfl⟩ := List.mem_map.mp hp
      rw [TL.tl_append, sp_tl] at hc
      rcases List.mem_append.mp hc with hc | hc
      · simp only [List.mem_cons, List.not_mem_nil, or_false] at hc
        omega
      · have := num_signs (h a ha) c hc
        omega
/-! lines -/
theorem joinT_open (ls : List Str) (l : Str) : joinT ls ++ l = Txt.join nl (ls ++ [l]) := by
  refine TL.ext_tl ?_
  unfold joinT
  rw [TL.tl_append, TL.join_eq, TL.join_eq, TL.tl_join, TL.tl_join, nul_tl, nl_tl]
  induction ls with
  | nil => rfl
  | cons a r ih =>
    have e1 : TL.joinL [] (((a :: r).map fun l => l ++ ("\n" : Str)).map TL.tl) = TL.tl a ++ ([10] ++ TL.joinL [] ((r.map fun l => l ++ ("\n" : Str)).map TL.tl)) := by
      cases r with
      | nil =>
        show TL.tl (a ++ ("\n" : Str)) = _
        rw [TL.tl_append, nl_tl2]
        rfl
      | cons b r =>
        show TL.tl (a ++ ("\n" : Str)) ++ ([] ++ _) = _
        rw [TL.tl_append, nl_tl2, List.nil_append, List.append_assoc]
        rfl
    rw [e1, List.append_assoc, List.append_assoc, ih]
    cases r with
    | nil => rfl
    | cons b r => rfl
theorem lines_open {ls : List Str} {l : Str} (h : ∀ z ∈ ls ++ [l], ∀ c ∈ TL.tl z, c ≠ 10) : linesT (joinT ls ++ l) = ls ++ [l] := by
  rw [joinT_open]
  unfold linesT
  exact TL.split_join nl_tl (by decide +kernel) (by simp) fun p hp z => h p hp 10 z rfl
theorem app_nul (z : Str) : z ++ ("" : Str) = z := TL.ext_tl (by rw [TL.tl_append, nul_tl, List.append_nil])
theorem lines_joinT {ls : List Str} (h : ∀ z ∈ ls, ∀ c ∈ TL.tl z, c ≠ 10) : linesT (joinT ls) = ls ++ [("" : Str)] := by
  have := lines_open (ls := ls) (l := "") fun z hz c hc => by
    rcases List.mem_append.mp hz with hz | hz
    · exact h z hz c hc
    · rw [List.mem_singleton.mp hz, nul_tl] at hc
      cases hc
  rwa [app_nul] at this
theorem lines_nul : linesT "" = [("" : Str)] := by decide +kernel
/-! numbers -/
theorem num_back {i : Int} (h : inT i) : numD (strI i) = some i := by
  have hd := num_signs h
  have l2 := strI_len h
  have lt : (TL.tl (strI i)).length = (strI i).length := (TL.len_tl _).symm
  have ne : TL.tl (strI i) ≠ [] := by rw [strI_tl h]; exact TL.numL_ne _
  have l1 : 1 ≤ (strI i).length := by
    rw [← lt]
    exact List.length_pos_iff.mpr ne
  have hf : figs (strI i) = true := by
    unfold figs
    rw [decide_eq_true (by omega : (1 : Int) ≤ ((strI i).length : Int)), decide_eq_true (by omega : ((strI i).length : Int) ≤ 3)]
    rw [show (strI i).cps.toList.all figure = true from List.all_eq_true.mpr fun c hc => ?_]
    · rfl
    · unfold figure
      have := hd c hc
      rw [decide_eq_true_eq, show ("0123456789" : Str).cps.toList = [48, 49, 50, 51, 52, 53, 54, 55, 56, 57] by decide +kernel]
      simp only [List.mem_cons, List.not_mem_nil, or_false]
      omega
  have hn : numB (strI i) = true := by
    unfold numB
    rw [hf]
    by_cases h1 : 1 < ((strI i).length : Int)
    · rw [decide_eq_true h1]
      have e : ¬ (strI i).cps.toList.head? = some 48 := fun z => by
        have e1 : TL.tl (strI i) = TL.numL i.toNat := strI_tl h
        rw [show (strI i).cps.toList = TL.numL i.toNat from e1] at z
        have l3 : 10 ≤ i.toNat := by
          rcases Nat.lt_or_ge i.toNat 10 with q | q
          · have := TL.numL_lt q
            rw [← e1] at this
            have := congrArg List.length this
            rw [lt] at this
            simp at this
            omega
          · exact q
        rw [TL.numL_step l3] at z
        have q1 : i.toNat / 10 < 10 := by have := h.2; omega
        rw [TL.numL_lt q1] at z
        have z : 48 + i.toNat / 10 = 48 := by simpa using z
        omega
      rw [decide_eq_false e]
      rfl
    · rw [decide_eq_false h1]
      rfl
  unfold numD
  rw [if_pos hn, show (strI i).cps.toList = TL.numL i.toNat from strI_tl h, TL.numL_val]
  have := h.1
  congr 1
  omega
theorem nums_back : ∀ {is : List Int}, (∀ a ∈ is, inT a) → numsD (is.map strI) = some is
  | [], _ => rfl
  | i :: is, h => by
    rw [List.map_cons, numsD, num_back (h i List.mem_cons_self), nums_back fun a ha => h a (List.mem_cons_of_mem _ ha)]
    rfl
theorem num_none {z : Str} {c : Nat} (h : c ∈ TL.tl z) (n : c < 48) : numD z = none := by
  unfold numD
  rw [if_neg]
  intro hb
  unfold numB figs at hb
  simp only [Bool.and_eq_true] at hb
  have := List.all_eq_true.mp hb.1.2 c h
  unfold figure at this
  have h3 := of_decide_eq_true this
  rw [show ("0123456789" : Str).cps.toList = [48, 49, 50, 51, 52, 53, 54, 55, 56, 57] by decide +kernel] at h3
  simp only [List.mem_cons, List.not_mem_nil, or_false] at h3
  omega
/-! a rule's line -/
theorem part_at {A B : Str} (h : 45 ∉ TL.tl A) : Txt.partition (A ++ (" -> " : Str) ++ B) arrow = (A, arrow, B) := by
  rw [TL.partition_par _ arrow (by rw [arrow_tl]; simp), TL.tl_append, TL.tl_append, arrow_tl2, arrow_tl, List.append_assoc]
  rw [TL.par_part (by simp) fun i hi => ?_]
  · show ((⟨([] ++ TL.tl A).toArray⟩ : Str), arrow, (⟨(TL.tl B).toArray⟩ : Str)) = _
    rw [List.nil_append, TL.mk_tl, TL.mk_tl]
  · have hlt : i < (TL.tl A ++ ([32, 45, 62, 32] ++ TL.tl B)).length := by rw [List.length_append]; omega
    rw [List.drop_append_of_le_length (Nat.le_of_lt hi)]
    have e : (TL.tl A).drop i = (TL.tl A)[i] :: (TL.tl A).drop (i + 1) := List.drop_eq_getElem_cons hi
    rw [e]
    unfold TL.pre
    cases e2 : (TL.tl A).drop (i + 1) with
    | nil => simp
    | cons x r =>
      have hx : x ∈ TL.tl A := List.drop_subset (i + 1) _ (by rw [e2]; exact List.mem_cons_self)
      have : x ≠ 45 := fun z => h (z ▸ hx)
      simp [this]
theorem no_minus {r : Rl} (h : r.fit) : 45 ∉ TL.tl (("rule " : Str) ++ r.head) := fun hc => by
  have := rhead_signs h 45 hc
  omega
theorem split_spaces {ps : List Str} (ne : ps ≠ []) (h : ∀ p ∈ ps, 32 ∉ TL.tl p) : Txt.split (Txt.join spc ps) spc = ps := TL.split_join spc_tl (by decide +kernel) ne h
theorem head_split {r : Rl} (h : r.fit) : Txt.split (("rule " : Str) ++ r.head) spc = ("rule" : Str) :: r.name :: r.args.map strI := by
  have e : ("rule " : Str) ++ r.head = Txt.join spc ([("rule" : Str)] ++ (r.name :: r.args.map strI)) := by
    rw [join_app spc (by simp) (by simp), join_one]
    refine TL.ext_tl ?_
    unfold Rl.head
    rw [TL.tl_append, TL.tl_append, TL.tl_append, rule_tl, spc_tl, show TL.tl ("rule" : Str) = [114, 117, 108, 101] by decide +kernel]
    rfl
  rw [e]
  refine split_spaces (by simp) fun p hp z => ?_
  rcases List.mem_append.mp hp with hp | hp
  · rw [List.mem_singleton.mp hp, show TL.tl ("rule" : Str) = [114, 117, 108, 101] by decide +kernel] at z
    simp at z
  · rcases List.mem_cons.mp hp with rfl | hp
    · have := name_signs h.name 32 z
      omega
    · obtain ⟨a, ha, rfl⟩ := List.mem_map.mp hp
      have := num_signs (h.args a ha) 32 z
      omega
theorem arrow_ne : arrow ≠ ("" : Str) := by decide +kernel
theorem rule_back {r : Rl} (h : r.fit) : ruleD r.text = some r := by
  have e : Txt.partition r.text arrow = (("rule " : Str) ++ r.head, arrow, strI r.goal) := part_at (no_minus h)
  unfold ruleD
  rw [e]
  show (if arrow = ("" : Str) then none else match Txt.split (("rule " : Str) ++ r.head) spc with
    | u :: f :: us => if u = "rule" ∧ nameB f = true then (numsD us).bind fun is => (numD (strI r.goal)).map fun g => (⟨f, is, g⟩ : Rl) else none
    | _ => none) = _
  rw [if_neg arrow_ne, head_split h]
  show (if ("rule" : Str) = "rule" ∧ nameB r.name = true then (numsD (r.args.map strI)).bind fun is => (numD (strI r.goal)).map fun g => (⟨r.name, is, g⟩ : Rl) else none) = _
  rw [if_pos ⟨rfl, h.name⟩, nums_back h.args, num_back h.goal]
  rfl
theorem rules_back : ∀ {rs : List Rl}, (∀ r ∈ rs, r.fit) → rulesD (rs.map Rl.text) = some rs
  | [], _ => rfl
  | r :: rs, h => by
    rw [List.map_cons, rulesD, rule_back (h r List.mem_cons_self), rules_back fun x hx => h x (List.mem_cons_of_mem _ hx)]
    rfl
theorem last_back {is : List Int} (h : ∀ a ∈ is, inT a) : lastD (lastT is) = some is := by
  have e : Txt.split (lastT is) spc = ("last" : Str) :: is.map strI := by
    rw [← lastP_text]
    refine split_spaces (ps := lastP is) (by simp [lastP]) fun p hp z => ?_
    rcases List.mem_append.mp hp with hp | hp
    · rw [List.mem_singleton.mp hp, last_tl] at z
      simp at z
    · obtain ⟨a, ha, rfl⟩ := List.mem_map.mp hp
      have := num_signs (h a ha) 32 z
      omega
  unfold lastD
  rw [e]
  show (if ("last" : Str) = "last" then numsD (is.map strI) else none) = _
  rw [if_pos rfl, nums_back h]
/-! lines that are none -/
theorem odd_tail {r : Rl} (h : r.fit) {x : Str} (hx : 32 ∈ TL.tl x) : ruleD (r.text ++ x) = none := by
  have e0 : r.text ++ x = (("rule " : Str) ++ r.head) ++ (" -> " : Str) ++ (strI r.goal ++ x) := TL.ext_tl (by unfold Rl.text; simp only [TL.tl_append, List.append_assoc])
  have e : Txt.partition (r.text ++ x) arrow = (("rule " : Str) ++ r.head, arrow, strI r.goal ++ x) := by
    rw [e0]
    exact part_at (no_minus h)
  unfold ruleD
  rw [e]
  have hn : numD (strI r.goal ++ x) = none := num_none (c := 32) (by rw [TL.tl_append]; exact List.mem_append_right _ hx) (by decide)
  show (if arrow = ("" : Str) then none else match Txt.split (("rule " : Str) ++ r.head) spc with
    | u :: f :: us => if u = "rule" ∧ nameB f = true then (numsD us).bind fun is => (numD (strI r.goal ++ x)).map fun g => (⟨f, is, g⟩ : Rl) else none
    | _ => none) = _
  rw [if_neg arrow_ne, head_split h, hn]
  show (if ("rule" : Str) = "rule" ∧ nameB r.name = true then (numsD (r.args.map strI)).bind fun is => none else none) = _
  rw [if_pos ⟨rfl, h.name⟩, nums_back h.args]
  rfl
theorem odd_front {r : Rl} (h : r.fit) : ruleD ((" " : Str) ++ r.text) = none := by
  have e0 : (" " : Str) ++ r.text = ((" " : Str) ++ (("rule " : Str) ++ r.head)) ++ (" -> " : Str) ++ strI r.goal := TL.ext_tl (by unfold Rl.text; simp only [TL.tl_append, List.append_assoc])
  have e : Txt.partition ((" " : Str) ++ r.text) arrow = ((" " : Str) ++ (("rule " : Str) ++ r.head), arrow, strI r.goal) := by
    rw [e0]
    refine part_at fun hc => ?_
    rw [TL.tl_append, sp_tl] at hc
    rcases List.mem_append.mp hc with hc | hc
    · simp at hc
    · exact no_minus h hc
  have e2 : (" " : Str) ++ (("rule " : Str) ++ r.head) = Txt.join spc ([("" : Str)] ++ (("rule" : Str) :: r.name :: r.args.map strI)) := by
    rw [join_app spc (by simp) (by simp), join_one, show (("rule" : Str) :: r.name :: r.args.map strI) = [("rule" : Str)] ++ (r.name :: r.args.map strI) from rfl, join_app spc (by simp) (by simp), join_one]
    refine TL.ext_tl ?_
    unfold Rl.head
    simp only [TL.tl_append]
    rw [rule_tl, spc_tl, sp_tl, nul_tl, show TL.tl ("rule" : Str) = [114, 117, 108, 101] by decide +kernel]
    rfl
  have e3 : Txt.split ((" " : Str) ++ (("rule " : Str) ++ r.head)) spc = ("" : Str) :: ("rule" : Str) :: r.name :: r.args.map strI := by
    rw [e2]
    refine split_spaces (by simp) fun p hp z => ?_
    rcases List.mem_append.mp hp with hp | hp
    · rw [List.mem_singleton.mp hp, nul_tl] at z
      cases z
    · rcases List.mem_cons.mp hp with rfl | hp
      · rw [show TL.tl ("rule" : Str) = [114, 117, 108, 101] by decide +kernel] at z
        simp at z
      · rcases List.mem_cons.mp hp with rfl | hp
        · have := name_signs h.name 32 z
          omega
        · obtain ⟨a, ha, rfl⟩ := List.mem_map.mp hp
          have := num_signs (h.args a ha) 32 z
          omega
  unfold ruleD
  rw [e]
  show (if arrow = ("" : Str) then none else match Txt.split ((" " : Str) ++ (("rule " : Str) ++ r.head)) spc with
    | u :: f :: us => if u = "rule" ∧ nameB f = true then (numsD us).bind fun is => (numD (strI r.goal)).map fun g => (⟨f, is, g⟩ : Rl) else none
    | _ => none) = _
  rw [if_neg arrow_ne, e3]
  show (if ("" : Str) = "rule" ∧ nameB "rule" = true then _ else none) = _
  rw [if_neg (fun z => absurd z.1 (by decide +kernel))]
end T82
/-! ### what is told of a text that is read by a lambda -/
namespace T82
open PySem L2 PyProof.Rows
/-- a def whose code object is known -/
structure FunC (K : PySem.W.Frag) (x : Str) (st : Stmt) (f : Addr) (fd : FuncData) (c : Addr) : Prop where
  cl : ∃ (b : Option Addr × Option Addr) (k4 : Value × Value × Value × Value × Value) (os : Array (Option Value)), fd = PySem.W.fnOf x x (defArgs st) (defBody st) (defScope st) .none k4.1 k4.2.1 k4.2.2.1 b.1 (.ref c) k4.2.2.2.1 ∧
    K.lookup f = some ⟨k4.2.2.2.2, b.2, .func fd, os⟩ ∧ PySem.W.codeIn K (.ref c) x = true
theorem FunC.ok9 {P : Program} {w : World} {K : PySem.W.Frag} {mg : Str → Option Value} {base : Heap} {x : Str} {st : Stmt} {f c : Addr} {fd : FuncData} {N ps : List Str} {n : Nat} {sp : Sp} (F : FunC K x st f fd c) (S : FnScope N ps (defScope st))
    (len : ∀ vs H Q E, sp vs H Q E → vs.length = ps.length)
    (body : ∀ (A : Around) (out : List Env) (s : Shared) (H : Hp) (vs : List V) (Q : VK) (E : XK), Room n (A.deeper (envOfC x (defScope st) s.heap.objs.size f (.ref c))) → sp vs H Q E →
      ∃ t, PSs (cxOf L2.CX0 P w K mg base N x (defScope st) f (.ref c) A out s H E).nox (defBody st) t ∧ t { nx := fun _ G => Q .non G, rt := Q } (L2.start N vs) H) : FnOk P w K mg base L2.CX0 (n + 1) f fd ps sp := by
  obtain ⟨b, k4, os, e, lk, cd⟩ := F.cl
  subst e
  exact fn_of lk cd S len (fun A out s H vs Q E hr hs => (body A out s H vs Q E hr hs).elim fun t z => ⟨t, z.1.nox, z.2⟩)
/-- the tables of the two defs that make lambdas -/
abbrev lamQ (x : Str) : Str := (x ++ ".<locals>.") ++ "<lambda>"
abbrev Tb (P1 P2 : Addr) : List (Addr × Str) := [(P1, lamQ "_law_is_misread"), (P2, lamQ "_law_is_no_machine")]
/-- what is told of an outcome -/
def says : Out → Option (List V)
  | .text n => some [.str "text", .int ((n : Nat) : Int)]
  | .mach c => some [.str "machine", c]
  | .fine _ _ => none
theorem ButT.ext {a : Addr} {H G G2 : Hp} (b : ButT a H G) (x : LamX.ExtN G G2) : ButT a H G2 := b.trans (ext_t x)
def tTold (K : PySem.W.Frag) (T : List (Addr × Str)) (CS CD : Addr) (i j : Nat) : TE := fun σ H Q => LamX.Tabs T H ∧ ∃ dr v d o ws, σ[i]? = some (some (.ref dr)) ∧ σ[j]? = some (some v) ∧
  (∀ H1, LamX.ExtN H H1 → DoorAt K CS CD H1 dr d) ∧ (((∀ H1, LamX.ExtN H H1 → NoStr K H1 v) ∧ o = .text 0) ∨ ∃ z, v = .str z ∧ z.length ≤ 9000 ∧ Reads d (linesT z) o) ∧ says o = some ws ∧ ∀ G p, LamX.ExtN H G → LamX.Tabs T G → SqT K G p ws → Q (.ref p) G
section
variable {X : Cx}
theorem pe_told (T : Tx X.K X.mg) {fT fM : Addr} (BT : BadTextX.Txt X.prog X.K X.mg T.C_BadText fT) (BM : BadMachineX.Txt X.prog X.K X.mg T.C_BadMachine fM) (Er : ErrT T) {TT : List (Addr × Str)} {c P : Addr} {i j : Nat} {z : Str} {params : Arguments} {scope : Scope} {p lpos pos p1 p2 p3 p4 : Pos}
    {ql : Str} (TB : LamX.TabB X.base X.mg c P) (hcode : X.env.code = .ref c) (hq : X.env.qual = ql) (hmT : (P, ql ++ "<lambda>") ∈ TT) (hu : ∀ p ∈ TT, p.1 = P → p.2 = ql ++ "<lambda>") (hr : Room 8 X.A) (L : LamX.LamS X.env.scope scope) (hg : Gl X "_law_told")
    (hN1 : X.N[i]? = some "door") (hN2 : X.N[j]? = some z) (v1 : Vis scope "door") (v2 : Vis scope z) (g2 : scope.names.lookup ("read_machine" : Str) = some .globalImplicit) (hd : (z == ("__debug__" : Str)) = false := by decide) (hcd : (z == ("__classdict__" : Str)) = false := by decide) (hdef : defaultsOf params X.env = ([], []) := by rfl)
    (hbind : ∀ (q : Str) (cl : List (Str × Addr)) (pm cv ctv : Value), bindArgs (PySem.W.kla_fn "<lambda>" q params (.Call (.Name "read_machine" p1) [.Name "door" p2, .Name z p3] [] p4) scope cl pm cv ctv) ⟨[], []⟩ = pure [] := by intros; rfl) :
    PE X (.Call (.Name "_law_told" p) [.Lambda params (.Call (.Name "read_machine" p1) [.Name "door" p2, .Name z p3] [] p4) scope lpos] [] pos) (tTold X.K TT T.C_Shape T.C_Door i j) := by
  subst hq
  obtain ⟨oc, od, kV, doc, pm, an, cdv, ct, osl, efd, lk, hcg⟩ := T.F__law_told.ex
  have hb := T.b__law_told
  rw [efd] at lk hb
  refine ⟨fun pins s σ H Q I h => (LamX.pe_lamcall (k := 6) (a := "call") (T := TT) hg T.m__law_told T.F__law_told.kp lk hcg hb sc__law_told rfl (.inl rfl) (told2 T BT BM Er) TB hcode hmT hu hr L hdef hbind
    (fun A outer s H E f c' hr' => pe_call (X := LamX.lamCx X A outer s H E scope f c') (ok_read_machine (P := X.prog) (w := X.w) (K := X.K) (mg := X.mg) (base := X.base) T BT BM) hr' (show Gl (LamX.lamCx X A outer s H E scope f c') "read_machine" from g2) T.m_read_machine T.F_read_machine.kp T.b_read_machine .nil (passes_call (E := E) (takes_of rfl rfl rfl rfl) (fun _ _ _ _ h => h))
      (pa_cons (pe_var (i := i) hN1 v1) (pa_cons (pe_var (i := j) hN2 v2 hd hcd) pa_nil)))).run pins s σ H Q I ?_⟩
  obtain ⟨hT, dr, v, d, o, ws, h1, h2, hD, hv, hs, k⟩ := h
  refine ⟨hT, fun H1 x1 T1 => fun Q' => ⟨_, h1, _, h2, ?_⟩⟩
  refine ⟨dr, v, d, rfl, hD _ x1, ?_⟩
  have kg : Gives X.prog X.w X.K T.C_Shape T.C_Door T.C_Machine T.C_BadText T.C_BadMachine H1 dr d Q' (wishT X.K T.C_BadText T.C_BadMachine Q) o := by
    cases o with
    | fine _ _ => cases hs
    | text n =>
      cases hs
      intro G dd s1 hdd
      have e : Same G (upd G dd (.xd [(("at" : Str), .int ((n : Nat) : Int))])) := sn hdd
      refine ⟨dd, _, rfl, .inl ⟨rfl, upd_same, fun G2 q s2 h => k G2 q ?_ ?_ h⟩⟩
      · exact x1.trans (LamX.ExtN.of ((s1.trans e).trans s2))
      · exact T1.ext ((s1.trans e).trans s2)
    | mach c =>
      cases hs
      intro G dd s1 hdd
      have e : Same G (upd G dd (.xd [(("part" : Str), c)])) := sn hdd
      refine ⟨dd, _, rfl, .inr ⟨rfl, upd_same, fun G2 q s2 h => k G2 q ?_ ?_ h⟩⟩
      · exact x1.trans (LamX.ExtN.of ((s1.trans e).trans s2))
      · exact T1.ext ((s1.trans e).trans s2)
  rcases hv with ⟨hn, rfl⟩ | ⟨zz, rfl, hz, hrd⟩
  · exact .inl ⟨hn _ x1, kg⟩
  · exact .inr ⟨zz, o, rfl, hz, hrd, kg⟩
end
end T82
/-! ### the plain law of texts with a line otherwise -/
namespace T82
open PySem L2
def oddB (f : Str → Bool) (z : Str) : Bool := f z && (TL.tl z).all (fun c => c != 10) && decide (z.length ≤ 64)
structure Odd (f : Str → Bool) (z : Str) : Prop where
  bad : f z = true
  flat : ∀ c ∈ TL.tl z, c ≠ 10
  short : z.length ≤ 64
theorem odd_of {f : Str → Bool} {z : Str} (h : oddB f z = true) : Odd f z := by
  unfold oddB at h
  simp only [Bool.and_eq_true, List.all_eq_true, bne_iff_ne, decide_eq_true_eq] at h
  exact ⟨h.1.1, h.1.2, h.2⟩
def noRule (z : Str) : Bool := (ruleD z).isNone
def noLast (z : Str) : Bool := (lastD z).isNone
theorem none_of {α : Type} {x : Option α} (h : x.isNone = true) : x = none := by
  cases x with
  | none => rfl
  | some _ => cases h
def oddT : List Str := ["rul no -> 1", "", "rule", "rule no 1", "rule no -> x", "rule no -> 1000"]
def oddT2 : List Str := ["rule no ->", "rule -> 1", "rule NO -> 1", "rule ask 1000 -> 1", "rule ask x -> 1"]
def oddL : List Str := ["last x", "lasts 1", "last 1000", "last -1", "last  1", ""]
def odds (l : Str) : List Str := oddT ++ [(" " : Str) ++ l, l ++ (" " : Str)] ++ [l ++ (" 1" : Str)] ++ oddT2
theorem oddT_ok : oddT.all (oddB noRule) = true := by decide +kernel
theorem oddT2_ok : oddT2.all (oddB noRule) = true := by decide +kernel
theorem oddL_ok : oddL.all (oddB noLast) = true := by decide +kernel
theorem odds_ok {r : Rl} (h : r.fit) : ∀ z ∈ odds r.text, Odd noRule z := fun z hz => by
  have tl := text_len h
  have ts := text_signs h
  have h1 : (" " : Str).length = 1 := by decide +kernel
  have h2 : (" 1" : Str).length = 2 := by decide +kernel
  have h3 : TL.tl (" 1" : Str) = [32, 49] := by decide +kernel
  unfold odds at hz
  rcases List.mem_append.mp hz with hz | hz
  · rcases List.mem_append.mp hz with hz | hz
    · rcases List.mem_append.mp hz with hz | hz
      · exact odd_of (List.all_eq_true.mp oddT_ok z hz)
      · rcases List.mem_cons.mp hz with rfl | hz
        · refine ⟨?_, fun c hc => ?_, by rw [len_app]; omega⟩
          · unfold noRule
            rw [odd_front h]
            rfl
          · rw [TL.tl_append, sp_tl] at hc
            rcases List.mem_append.mp hc with hc | hc
            · rw [List.mem_singleton.mp hc]; decide
            · exact ts c hc
        · rw [List.mem_singleton.mp hz]
          refine ⟨?_, fun c hc => ?_, by rw [len_app]; omega⟩
          · unfold noRule
            rw [odd_tail h (by rw [sp_tl]; simp)]
            rfl
          · rw [TL.tl_append, sp_tl] at hc
            rcases List.mem_append.mp hc with hc | hc
            · exact ts c hc
            · rw [List.mem_singleton.mp hc]; decide
    · rw [List.mem_singleton.mp hz]
      refine ⟨?_, fun c hc => ?_, by rw [len_app]; omega⟩
      · unfold noRule
        rw [odd_tail h (by rw [h3]; simp)]
        rfl
      · rw [TL.tl_append, h3] at hc
        rcases List.mem_append.mp hc with hc | hc
        · exact ts c hc
        · simp only [List.mem_cons, List.not_mem_nil, or_false] at hc
          omega
  · exact odd_of (List.all_eq_true.mp oddT2_ok z hz)
/-! the lines of a machine's text -/
def linesM (rs : List Rl) (last : List Int) : List Str := rs.map Rl.text ++ [lastT last]
structure LinesOk (rs : List Rl) (last : List Int) : Prop where
  fit : ∀ r ∈ rs, r.fit
  num : ∀ x ∈ last, inT x
  few : last.length ≤ 20
  some_ : 1 ≤ rs.length
  many : rs.length ≤ 100
variable {d : Dor} {rs : List Rl} {last : List Int}
theorem LinesOk.flat (h : LinesOk rs last) : ∀ z ∈ linesM rs last, ∀ c ∈ TL.tl z, c ≠ 10 := fun z hz => by
  rcases List.mem_append.mp hz with hz | hz
  · obtain ⟨r, hr, rfl⟩ := List.mem_map.mp hz
    exact text_signs (h.fit r hr)
  · rw [List.mem_singleton.mp hz]
    exact last_signs h.num
theorem LinesOk.short (h : LinesOk rs last) : ∀ z ∈ linesM rs last, z.length ≤ 64 := fun z hz => by
  rcases List.mem_append.mp hz with hz | hz
  · obtain ⟨r, hr, rfl⟩ := List.mem_map.mp hz
    have := text_len (h.fit r hr)
    omega
  · rw [List.mem_singleton.mp hz]
    have := last_len h.num
    have := h.few
    omega
theorem linesM_len : (linesM rs last).length = rs.length + 1 := by
  unfold linesM
  rw [List.length_append, List.length_map, List.length_singleton]
theorem joinT_short {ls : List Str} {n : Nat} (h : ∀ z ∈ ls, z.length ≤ 64) (hn : ls.length ≤ n) : (joinT ls).length ≤ n * 65 := Nat.le_trans (joinT_len h) (Nat.mul_le_mul_right _ hn)
def bentL (ls : List Str) (i : Nat) (z : Str) : List Str := ls.take i ++ [z] ++ ls.drop (i + 1)
theorem bent_mem {ls : List Str} {i : Nat} {z y : Str} (h : y ∈ bentL ls i z) : y ∈ ls ∨ y = z := by
  unfold bentL at h
  rcases List.mem_append.mp h with h | h
  · rcases List.mem_append.mp h with h | h
    · exact .inl (List.mem_of_mem_take h)
    · exact .inr (List.mem_singleton.mp h)
  · exact .inl (List.mem_of_mem_drop h)
theorem bent_len {ls : List Str} {i : Nat} {z : Str} (h : i < ls.length) : (bentL ls i z).length = ls.length := by
  unfold bentL
  rw [List.length_append, List.length_append, List.length_take, List.length_drop, List.length_singleton]
  omega
theorem mis_bent (h : LinesOk rs last) {i : Nat} (hi : i < rs.length) {z : Str} (hz : Odd noRule z) : Reads d (linesT (joinT (bentL (linesM rs last) i z))) (.text (i + 1)) := by
  rw [lines_joinT fun y hy => ?_]
  · have e : bentL (linesM rs last) i z = ((rs.map Rl.text).take i ++ [z] ++ (rs.map Rl.text).drop (i + 1)) ++ [lastT last] := by
      unfold bentL linesM
      rw [List.take_append_of_le_length (by rw [List.length_map]; omega), List.drop_append_of_le_length (by rw [List.length_map]; omega)]
      simp only [List.append_assoc]
    rw [e]
    have lt : ((rs.map Rl.text).take i).length = i := by
      rw [List.length_take, List.length_map]
      omega
    refine Reads.line _ _ z (rs.take i) i ?_ ?_ (none_of hz.bad)
    · rw [List.append_assoc, List.take_append_of_le_length (by omega), List.take_of_length_le (by omega), ← List.map_take]
      exact rules_back fun r hr => h.fit r (List.mem_of_mem_take hr)
    · rw [List.append_assoc, List.getElem?_append_right (by omega), lt, Nat.sub_self]
      rfl
  · rcases bent_mem hy with hy | rfl
    · exact h.flat y hy
    · exact hz.flat
theorem mis_open (h : LinesOk rs last) {z : Str} (hz : z ∈ linesM rs last) (ne : z ≠ "") : Reads d (linesT (joinT (linesM rs last) ++ z)) (.text (rs.length + 1 + 1)) := by
  rw [lines_open fun y hy => ?_, ← linesM_len (last := last)]
  · exact Reads.open_ _ _ ne
  · rcases List.mem_append.mp hy with hy | hy
    · exact h.flat y hy
    · rw [List.mem_singleton.mp hy]
      exact h.flat z hz
theorem mis_nul : Reads d (linesT "") (.text 1) := by
  rw [lines_nul]
  exact Reads.empty
theorem mis_last (h : LinesOk rs last) {z : Str} (hz : Odd noLast z) : Reads d (linesT (joinT (rs.map Rl.text ++ [z]))) (.text (rs.length + 1)) := by
  rw [lines_joinT fun y hy => ?_]
  · have := Reads.last (d := d) (rs.map Rl.text) z rs (rules_back h.fit) (none_of hz.bad)
    rw [List.length_map] at this
    exact this
  · rcases List.mem_append.mp hy with hy | hy
    · exact h.flat y (List.mem_append_left _ hy)
    · rw [List.mem_singleton.mp hy]
      exact hz.flat
theorem text_ne {r : Rl} : r.text ≠ "" := fun z => by
  have h := congrArg TL.tl z
  unfold Rl.text at h
  rw [TL.tl_append, TL.tl_append, TL.tl_append, rule_tl, nul_tl] at h
  cases h
end T82
namespace T82
open PySem L2
section
variable {P : Program} {w : World} {K : PySem.W.Frag} {mg : Str → Option Value} {base : Heap}
/-! ### misread -/
/-- a flat datum of an error: a number or a text -/
inductive FlD : PyData → V → Prop
  | int (i : Int) : FlD (.int i) (.int i)
  | str (z : Str) (h : PyData.strOk z = true) : FlD (.str z) (.str z)
theorem FlD.im {K : PySem.W.Frag} {H : Hp} {d : PyData} {v : V} (h : FlD d v) : Im K H d v := by
  cases h with
  | int => exact im_int
  | str => exact im_str
theorem FlD.lay {d : PyData} {v : V} (h : FlD d v) : d.canLay0 = true := by
  cases h with
  | int => rw [PyData.canLay0]
  | str z h => exact canLay_str h
def dueD (z : Str) (d : PyData) : PyData := .tuple [.str z, d]
theorem due_lay {z : Str} {d : PyData} {v : V} (hz : PyData.strOk z = true) (h : FlD d v) : (dueD z d).canLay0 = true := canLay_tup (canLay_cons (canLay_str hz) (canLay_cons h.lay canLay_nil))
theorem due_sh {z : Str} {d : PyData} {v : V} (hz : PyData.strOk z = true) (h : FlD d v) : SeqAt.shaped (dueD z d) = true := by
  unfold SeqAt.shaped
  rw [due_lay hz h, Bool.true_and, decide_eq_true_eq]
  cases h <;> simp [dueD, PyData.depth, PyData.depthAll]
theorem due_eq {z : Str} {d : PyData} {v : V} (hz : PyData.strOk z = true) (h : FlD d v) : PyData.eqv (dueD z d) (dueD z d) = true := SeqAt.eqv_refl _ (due_lay hz h)
theorem due_im {K : PySem.W.Frag} {H : Hp} {p : Addr} {z : Str} {d : PyData} {v : V} (h : FlD d v) (s : SqT K H p [.str z, v]) : Im K H (dueD z d) (.ref p) := im_tup s (ia_cons im_str (ia_cons h.im ia_nil))
def probeD (z : Str) (n : Nat) : PyData := .tuple [.str z, dueD "text" (.int n)]
theorem probe_im {K : PySem.W.Frag} {H : Hp} {p q : Addr} {z : Str} {n : Nat} (s : SqT K H p [.str "text", .int (n : Int)]) (s2 : SqT K H q [.str z, .ref p]) : Im K H (probeD z n) (.ref q) := im_tup s2 (ia_cons im_str (ia_cons (due_im (.int _) s) ia_nil))
def ProbeAt (K : PySem.W.Frag) (d : Dor) (H : Hp) (v : V) : Prop := ∃ z n, Im K H (probeD z n) v ∧ z.length ≤ 9000 ∧ Reads d (linesT z) (.text n)
theorem ProbeAt.mono {K : PySem.W.Frag} {d : Dor} {H G : Hp} {v : V} (h : ProbeAt K d H v) (k : Keep H G) : ProbeAt K d G v := by
  obtain ⟨z, n, h1, h2, h3⟩ := h
  exact ⟨z, n, Im.mono k _ _ h1, h2, h3⟩
theorem tabs_but {T : List (Addr × Str)} {H G : Hp} {a c : Addr} (t : LamX.Tabs T H) (tp : TapeAt H a c) (b : But a H G) : LamX.Tabs T G := fun q hq => by
  obtain ⟨ps, h1, h2, h3⟩ := t q hq
  refine ⟨ps, b _ _ (ne_lst tp h1 (fun _ z => nomatch z)) h1, h2, fun pos cv hc => ?_⟩
  obtain ⟨cc, e1, e2⟩ := h3 pos cv hc
  exact ⟨cc, e1, b _ _ (ne_lst tp e2 (fun _ z => by unfold LamX.CodeO at z; cases z)) e2⟩
theorem extN_sqT {H G : Hp} {p : Addr} {xs : List V} (x : LamX.ExtN H G) (s : SqT K H p xs) : SqT K G p xs := by
  rcases s with (s | ⟨o, s⟩) | s
  · exact .inl (.inl (x _ _ s (fun _ z => by cases z)))
  · exact .inl (.inr ⟨o, x _ _ s (fun _ z => by cases z)⟩)
  · exact .inr s
theorem ty_tup {H : Hp} {p : Addr} {xs : List V} (s : SqT K H p xs) : TyX K H (.ref p) (.type "tuple") := by
  rcases s with (s | ⟨o, s⟩) | ⟨o, its, n, s, h, _⟩
  · exact .base (.tup s)
  · exact .fTuple s
  · exact .kTuple s h
theorem no_non {H : Hp} : NoStr K H .non := ⟨_, .base .non, rfl⟩
theorem no_int {H : Hp} {i : Int} : NoStr K H (.int i) := ⟨_, .base (.int i), rfl⟩
theorem no_bl {H : Hp} {i : Bool} : NoStr K H (.bl i) := ⟨_, .base (.bl i), rfl⟩
theorem no_tup {H : Hp} {p : Addr} {xs : List V} (s : SqT K H p xs) : NoStr K H (.ref p) := ⟨_, ty_tup s, rfl⟩
theorem no_lst {H : Hp} {p : Addr} {xs : List V} (s : H p = some (.lst xs)) : NoStr K H (.ref p) := ⟨_, .base (.lst s), rfl⟩
theorem no_dk {H : Hp} {p : Addr} {xs : List (Key × V)} (s : H p = some (.dK xs)) : NoStr K H (.ref p) := ⟨_, .base (.dK s), rfl⟩
theorem text_ok : PyData.strOk "text" = true := by decide +kernel
theorem machine_ok : PyData.strOk "machine" = true := by decide +kernel
theorem last_ok : PyData.strOk "last" = true := by decide +kernel
abbrev nm__law_is_misread : List Str := ["tape", "door", "lines", "at", "line", "odd", "bent", "probed", "bad_lines", "text", "due", "none"]
theorem sc__law_is_misread : FnScope nm__law_is_misread ["tape", "door", "lines"] (defScope s__law_is_misread) := ⟨rfl, rfl, rfl, by decide +kernel, rfl, by decide +kernel, by decide +kernel⟩
def sp__law_is_misread (K : PySem.W.Frag) (T : List (Addr × Str)) (CS CD : Addr) : Sp := fun vs H Q _ => ∃ (a c dr lp : Addr) (d : Dor) (rs : List Rl) (last : List Int), vs = [.ref a, .ref dr, .ref lp] ∧ TapeAt H a c ∧ LamX.Tabs T H ∧ DoorAt K CS CD H dr d ∧
  H lp = some (.lst ((linesM rs last).map V.str)) ∧ lp ≠ a ∧ LinesOk rs last ∧ ∀ G, ButT a H G → TapeAt G a c → LamX.Tabs T G → Q (.bl true) G
theorem ok__law_is_misread (T : Tx K mg) {fT fM : Addr} (BT : BadTextX.Txt P K mg T.C_BadText fT) (BM : BadMachineX.Txt P K mg T.C_BadMachine fM) (Er : ErrT T) {cp P1 P2 : Addr} (ne : P1 ≠ P2) (TB : LamX.TabB base mg cp P1)
    (F : FunC K "_law_is_misread" s__law_is_misread T.f__law_is_misread T.d__law_is_misread cp) : FnOk P w K mg base CX0 9 T.f__law_is_misread T.d__law_is_misread ["tape", "door", "lines"] (sp__law_is_misread K (Tb P1 P2) T.C_Shape T.C_Door) := by
  have hmT : (P1, (("_law_is_misread" : Str) ++ ".<locals>.") ++ "<lambda>") ∈ Tb P1 P2 := List.mem_cons_self
  have hu : ∀ p ∈ Tb P1 P2, p.1 = P1 → p.2 = (("_law_is_misread" : Str) ++ ".<locals>.") ++ "<lambda>" := fun p hp e => by
    rcases List.mem_cons.mp hp with rfl | hp
    · rfl
    · rw [List.mem_singleton.mp hp] at e
      exact absurd e.symm ne
  refine F.ok9 sc__law_is_misread (fun vs H Q E h => ?_) (fun A outer s H vs Q E hr h => ?_)
  · obtain ⟨a, c, dr, lp, d, rs, last, rfl, _⟩ := h
    rfl
  · obtain ⟨a, c, dr, lp, d, rs, last, rfl, ta, tb, dat, elp, nlp, lok, k⟩ := h
    refine ⟨_, (pss_cons (ps_set (i := 3) sc__law_is_misread.nd rfl (.inl rfl) (pe_call (ok__law_pick T) (hr.mono (by decide)) (by rfl) T.m__law_pick T.F__law_pick.kp T.b__law_pick .nil pass0 (pa_cons (pv 0) (pa_cons (pe_op op_sub (pe_callB (cLen (K := K) rfl) (by rfl) T.t_len (by decide +kernel) (pa_cons (pv 2) pa_nil)) pe_int) pa_nil))))
    (pss_cons (ps_set (i := 4) sc__law_is_misread.nd rfl (.inl rfl) (pe_ix (iL (K := K) rfl) (pv 2) (pv 3) (fun _ _ => rfl)))
    (pss_cons (ps_set (i := 5) sc__law_is_misread.nd rfl (.inl rfl) (pe_lst (pa_cons pe_str (pa_cons pe_str (pa_cons pe_str (pa_cons pe_str (pa_cons pe_str (pa_cons pe_str (pa_cons (pe_op op_add_str pe_str (pv 4)) (pa_cons (pe_op op_add_str (pv 4) pe_str) pa_nil))))))))))
    (pss_cons (ps_expr (pe_bm PySem.F.plainAttrs_list PySem.F.slot_list_append PySem.F.type_list_append mt_append (pv 5) (pa_cons (pe_op op_add_str (pv 4) pe_str) pa_nil)))
    (pss_cons (ps_set (i := 5) sc__law_is_misread.nd rfl (.inl rfl) (pe_op op_cat (pv 5) (pe_lst (pa_cons pe_str (pa_cons pe_str (pa_cons pe_str (pa_cons pe_str (pa_cons pe_str pa_nil))))))))
    (pss_cons (ps_set (i := 6) sc__law_is_misread.nd rfl (.inl rfl) (pe_call (ok__law_joined T) (hr.mono (by decide)) (by rfl) T.m__law_joined T.F__law_joined.kp T.b__law_joined .nil pass0 (pa_cons (pe_op op_cat (pe_op op_cat (pe_slice (sL (K := K) rfl) (pv 2) po_none (po_some (pv 3))) (pe_lst (pa_cons (pe_call (ok__law_any T) (hr.mono (by decide)) (by rfl) T.m__law_any T.F__law_any.kp T.b__law_any .nil pass0 (pa_cons (pv 0) (pa_cons (pv 5) pa_nil))) pa_nil))) (pe_slice (sL (K := K) rfl) (pv 2) (po_some (pe_op op_add (pv 3) pe_int)) po_none)) pa_nil)))
    (pss_cons (ps_set (i := 7) sc__law_is_misread.nd rfl (.inl rfl) (pe_lst (pa_cons (pe_tup (pa_cons (pv 6) (pa_cons (pe_tup (pa_cons pe_str (pa_cons (pe_op op_add (pv 3) pe_int) pa_nil))) pa_nil))) (pa_cons (pe_tup (pa_cons (pe_op op_add_str (pe_call (ok__law_joined T) (hr.mono (by decide)) (by rfl) T.m__law_joined T.F__law_joined.kp T.b__law_joined .nil pass0 (pa_cons (pv 2) pa_nil)) (pv 4)) (pa_cons (pe_tup (pa_cons pe_str (pa_cons (pe_op op_add (pe_callB (cLen (K := K) rfl) (by rfl) T.t_len (by decide +kernel) (pa_cons (pv 2) pa_nil)) pe_int) pa_nil))) pa_nil))) pa_nil))))
    (pss_cons (ps_expr (pe_bm PySem.F.plainAttrs_list PySem.F.slot_list_append PySem.F.type_list_append mt_append (pv 7) (pa_cons (pd_tup (K := K) (pd_cons pd_str (pd_cons (pd_tup (pd_cons pd_str (pd_cons pd_int pd_nil))) pd_nil))) pa_nil)))
    (pss_cons (ps_set (i := 8) sc__law_is_misread.nd rfl (.inl rfl) (pe_op op_cat (pe_slice (sL (K := K) rfl) (pv 2) po_none (po_some (pe_un un_neg pe_int))) (pe_lst (pa_cons (pe_call (ok__law_any T) (hr.mono (by decide)) (by rfl) T.m__law_any T.F__law_any.kp T.b__law_any .nil pass0 (pa_cons (pv 0) (pa_cons (pe_lst (pa_cons pe_str (pa_cons pe_str (pa_cons pe_str (pa_cons pe_str (pa_cons pe_str (pa_cons pe_str pa_nil))))))) pa_nil))) pa_nil))))
    (pss_cons (ps_expr (pe_bm PySem.F.plainAttrs_list PySem.F.slot_list_append PySem.F.type_list_append mt_append (pv 7) (pa_cons (pe_tup (pa_cons (pe_call (ok__law_joined T) (hr.mono (by decide)) (by rfl) T.m__law_joined T.F__law_joined.kp T.b__law_joined .nil pass0 (pa_cons (pv 8) pa_nil)) (pa_cons (pe_tup (pa_cons pe_str (pa_cons (pe_callB (cLen (K := K) rfl) (by rfl) T.t_len (by decide +kernel) (pa_cons (pv 2) pa_nil)) pa_nil))) pa_nil))) pa_nil)))
    (pss_cons (ps_for PassesOwn.never rfl (wL (K := K) rfl (pv 7)) (pg_tup rfl (pgs_cons (pg_name (i := 9) sc__law_is_misread.nd rfl (Or.inr rfl)) (pgs_cons (pg_name (i := 10) sc__law_is_misread.nd rfl (Or.inl rfl)) pgs_nil)))
      (pss_one (ps_if (pt_cmpR (oNeD (K := K) rfl hr.units) (pe_told T BT BM Er TB (by rfl) (by rfl) hmT hu hr (LamX.lamS_by (sc := defScope s__law_is_misread) (by decide +kernel)) (by rfl) (i := 1) (j := 9) (by rfl) (by rfl) (.inr (.inr rfl)) (.inr (.inr rfl)) (by rfl)) (pv 10) (nomark _)) (pss_one (ps_ret pe_bl)) pss_nil)))
    (pss_cons (ps_set (i := 11) sc__law_is_misread.nd rfl (Or.inr rfl) (pe_call (ok__law_any T) (hr.mono (by decide)) (by rfl) T.m__law_any T.F__law_any.kp T.b__law_any .nil pass0 (pa_cons (pv 0) (pa_cons (pe_lst (pa_cons pe_non (pa_cons pe_int (pa_cons (pv 2) (pa_cons (pd_tup (K := K) (pd_cons pd_str pd_nil)) (pa_cons pe_dnewK (pa_cons pe_bl pa_nil))))))) pa_nil))))
    (pss_one (ps_ret (pe_cmpR (oEqD (K := K) rfl hr.units) (pe_told T BT BM Er TB (by rfl) (by rfl) hmT hu hr (LamX.lamS_by (sc := defScope s__law_is_misread) (by decide +kernel)) (by rfl) (i := 1) (j := 11) (by rfl) (by rfl) (.inr (.inr rfl)) (.inr (.inr rfl)) (by rfl)) (pd_tup (K := K) (pd_cons pd_str (pd_cons pd_int pd_nil))) (nomark _)))))))))))))))), ?_⟩
    have t0 := linesM_len (rs := rs) (last := last)
    have lenI : (((linesM rs last).map V.str).length : Int) - 1 = (rs.length : Int) := by
      rw [List.length_map, t0]
      omega
    have many := lok.many
    have some_ := lok.some_
    refine ⟨_, rfl, _, rfl, lp, _, rfl, .inl (SqL.of elp), _, _, rfl, rfl, a, c, (rs.length : Int), by show [V.ref a, V.int (_ - 1)] = _; rw [lenI], ta, by omega, by omega, fun G1 iv b1 t1 i0 i1 => ?_⟩
    obtain ⟨i, rfl⟩ : ∃ n : Nat, iv = (n : Int) := ⟨iv.toNat, by omega⟩
    have hi : i < rs.length := by omega
    obtain ⟨r, er⟩ : ∃ r, rs[i]? = some r := ⟨_, List.getElem?_eq_getElem hi⟩
    have hr0 : r ∈ rs := List.mem_of_getElem? er
    have el : (linesM rs last)[i]? = some r.text := by
      unfold linesM
      rw [List.getElem?_append_left (by rw [List.length_map]; exact hi), List.getElem?_map, er]
      rfl
    have eL1 := b1 _ _ nlp elp
    have l32 := text_len (lok.fit r hr0)
    have sz1 : (" " : Str).length = 1 := by decide +kernel
    have sz2 : (" 1" : Str).length = 2 := by decide +kernel
    have hod := odds_ok (lok.fit r hr0)
    refine ⟨_, rfl, _, rfl, lp, _, (i : Int), V.str r.text, rfl, rfl, SqL.of eL1, ?_, ?_⟩
    · refine atI_nat (j := i) ?_
      rw [List.getElem?_map, el]
      rfl
    have hne : r.text ≠ "" := text_ne
    have hmem : r.text ∈ linesM rs last := List.mem_of_getElem? el
    have fit0 := lok.fit r hr0
    generalize r.text = ln at l32 hod el hne hmem ⊢
    refine ⟨_, rfl, _, _, rfl, rfl, by rw [sizeLine_eq]; omega, _, rfl, _, _, rfl, rfl, by rw [sizeLine_eq]; omega, by show 8 ≤ sizeLine; decide, fun l1 hl1 => ?_⟩
    obtain ⟨n1a, n1c⟩ := t1.new hl1
    refine ⟨_, rfl, .inl ⟨rfl, _, SqL.of upd_same⟩, _, rfl, _, _, rfl, rfl, by rw [sizeLine_eq]; omega, l1, _, _, rfl, rfl, upd_same, by show 8 < sizeLine; decide, ?_⟩
    have sA : Same G1 (upd (upd G1 l1 (.lst ([V.str "rul no -> 1", .str "", .str "rule", .str "rule no 1", .str "rule no -> x", .str "rule no -> 1000", .str ((" " : Str) ++ ln), .str (ln ++ (" " : Str))]))) l1 (.lst ([V.str "rul no -> 1", .str "", .str "rule", .str "rule no 1", .str "rule no -> x", .str "rule no -> 1000", .str ((" " : Str) ++ ln), .str (ln ++ (" " : Str))] ++ [.str (ln ++ (" 1" : Str))]))) :=
      fun b o e => by rw [upd_ne (ne_of_none e hl1), upd_ne (ne_of_none e hl1)]; exact e
    have eA : (upd (upd G1 l1 (.lst ([V.str "rul no -> 1", .str "", .str "rule", .str "rule no 1", .str "rule no -> x", .str "rule no -> 1000", .str ((" " : Str) ++ ln), .str (ln ++ (" " : Str))]))) l1 (.lst ([V.str "rul no -> 1", .str "", .str "rule", .str "rule no 1", .str "rule no -> x", .str "rule no -> 1000", .str ((" " : Str) ++ ln), .str (ln ++ (" " : Str))] ++ [.str (ln ++ (" 1" : Str))]))) l1 = some (.lst ((oddT ++ [(" " : Str) ++ ln, ln ++ (" " : Str)] ++ [ln ++ (" 1" : Str)]).map V.str)) := upd_same
    generalize upd (upd G1 l1 _) l1 _ = GA at sA eA ⊢
    refine ⟨_, rfl, by show 5 ≤ sizeLine; decide, fun l2 hl2 => ?_⟩
    have sB := sn (o := .lst (oddT2.map V.str)) hl2
    have eB : upd GA l2 (.lst (oddT2.map V.str)) l2 = some (.lst (oddT2.map V.str)) := upd_same
    refine ⟨l1, l2, _, _, rfl, rfl, sB _ _ eA, upd_same, by show 9 + 5 ≤ sizeLine; decide, fun l3 hl3 => ?_⟩
    have e' : (oddT ++ [(" " : Str) ++ ln, ln ++ (" " : Str)] ++ [ln ++ (" 1" : Str)]).map V.str ++ oddT2.map V.str = (odds ln).map V.str := by
      unfold odds
      rw [List.map_append (l₂ := oddT2)]
    have tA := t1.mono sA
    have l3a := ((tA.mono sB).new hl3).1
    generalize hC : upd (upd GA l2 _) l3 _ = GC
    have sC : Same G1 GC := by
      rw [← hC]
      exact (sA.trans sB).trans (sn hl3)
    have eC : GC l3 = some (.lst ((odds ln).map V.str)) := by
      rw [← hC, upd_same]
      exact congrArg (fun z => some (HO.lst z)) e'
    have tC := t1.mono sC
    have eLC := sC _ _ eL1
    refine ⟨_, rfl, _, rfl, _, rfl, lp, _, rfl, SqL.of eLC, fun q1 hq1 => ?_⟩
    have e1 : upd GC q1 (.lst (cutV ((linesM rs last).map V.str) none (some (i : Int)))) q1 = some (.lst (((linesM rs last).take i).map V.str)) := by
      rw [upd_same, cut_to, List.map_take]
    have s1 := sn (o := .lst (cutV ((linesM rs last).map V.str) none (some (i : Int)))) hq1
    generalize upd GC q1 _ = G2 at s1 e1 ⊢
    have t2 := tC.mono s1
    have q1a := (tC.new hq1).1
    refine ⟨_, rfl, _, rfl, a, c, l3, _, rfl, t2, fun G b => .inl (SqL.of (b _ _ l3a (s1 _ _ eC))), by show 0 < 14; decide, by show 14 < 1000000; decide, fun G3 zv b3 t3 mem => ?_⟩
    obtain ⟨z, hz, rfl⟩ := List.mem_map.mp mem
    have oz := hod z hz
    refine ⟨by show 1 ≤ sizeLine; decide, fun q2 hq2 => ?_⟩
    have s4 := sn (o := .lst [V.str z]) hq2
    have e4 : upd G3 q2 (.lst [V.str z]) q2 = some (.lst [V.str z]) := upd_same
    generalize upd G3 q2 _ = G4 at s4 e4 ⊢
    refine ⟨q1, q2, _, _, rfl, rfl, s4 _ _ (b3 _ _ q1a e1), e4, by rw [sizeLine_eq, List.length_map, List.length_take, t0]; show _ + 1 ≤ _; omega, fun q3 hq3 => ?_⟩
    have s5 := sn (o := .lst (((linesM rs last).take i).map V.str ++ [V.str z])) hq3
    have e5 : upd G4 q3 (.lst (((linesM rs last).take i).map V.str ++ [V.str z])) q3 = some (.lst (((linesM rs last).take i ++ [z]).map V.str)) := by
      rw [upd_same, List.map_append]
      rfl
    generalize upd G4 q3 _ = G5 at s5 e5 ⊢
    have b5 : But a GC G5 := ((But.of s1).trans b3).trans (.of (s4.trans s5))
    refine ⟨_, rfl, _, rfl, _, _, rfl, rfl, _, rfl, lp, _, rfl, SqL.of (b5 _ _ nlp eLC), fun q4 hq4 => ?_⟩
    have e6 : upd G5 q4 (.lst (cutV ((linesM rs last).map V.str) (some ((i + 1 : Nat) : Int)) none)) q4 = some (.lst (((linesM rs last).drop (i + 1)).map V.str)) := by
      rw [upd_same, cut_from, List.map_drop]
    have s6 := sn (o := .lst (cutV ((linesM rs last).map V.str) (some ((i + 1 : Nat) : Int)) none)) hq4
    generalize hG6 : upd G5 q4 _ = G6
    have s6 : Same G5 G6 := by
      rw [← hG6]
      exact sn hq4
    have e6 : G6 q4 = some (.lst (((linesM rs last).drop (i + 1)).map V.str)) := by
      rw [← hG6]
      exact e6
    have dl : ((linesM rs last).drop (i + 1)).length ≤ 101 := by
      rw [List.length_drop, t0]
      omega
    have tl : ((linesM rs last).take i).length ≤ 101 := by
      rw [List.length_take, t0]
      omega
    refine ⟨q3, q4, _, _, rfl, rfl, s6 _ _ e5, e6, by rw [sizeLine_eq, List.length_map, List.length_map, List.length_append, List.length_singleton]; omega, fun q5 hq5 => ?_⟩
    have e7 : upd G6 q5 (.lst (((linesM rs last).take i ++ [z]).map V.str ++ ((linesM rs last).drop (i + 1)).map V.str)) q5 = some (.lst ((bentL (linesM rs last) i z).map V.str)) := by
      rw [upd_same, ← List.map_append]
      rfl
    have s7 := sn (o := .lst (((linesM rs last).take i ++ [z]).map V.str ++ ((linesM rs last).drop (i + 1)).map V.str)) hq5
    generalize upd G6 q5 _ = G7 at s7 e7 ⊢
    have bl := bent_len (ls := linesM rs last) (z := z) (i := i) (by omega)
    have bsh : ∀ y ∈ bentL (linesM rs last) i z, y.length ≤ 64 := fun y hy => by
      rcases bent_mem hy with hy | rfl
      · exact lok.short y hy
      · exact oz.short
    refine ⟨q5, _, rfl, SqL.of e7, by omega, fun l hl => by have := bsh l hl; omega, fun G8 s8 => ?_⟩
    have b8 : But a G1 G8 := ((But.of sC).trans b5).trans (.of ((s6.trans s7).trans s8))
    have t8 : TapeAt G8 a c := (t3.mono ((((s4.trans s5).trans s6).trans s7).trans s8))
    have rd1 := mis_bent (d := d) lok hi oz
    have ln1 := joinT_short bsh (n := 101) (by omega)
    generalize joinT (bentL (linesM rs last) i z) = bent at rd1 ln1 ⊢
    have eL8 := b8 _ _ nlp eL1
    refine ⟨_, rfl, _, rfl, _, _, rfl, rfl, by show 2 ≤ sizeLine; decide, fun p1 hp1 => ⟨by show 2 ≤ sizeLine; decide, fun p2 hp2 => ?_⟩⟩
    generalize hG9 : upd (upd G8 p1 _) p2 _ = G9
    have s9 : Same G8 G9 := by
      rw [← hG9]
      exact (sn hp1).trans (sn hp2)
    have pr1 : ProbeAt K d G9 (.ref p2) := by
      refine ⟨bent, i + 1, probe_im (p := p1) (.inl (.inl ?_)) (.inl (.inl ?_)), by omega, rd1⟩
      · rw [← hG9]
        exact sn hp2 _ _ upd_same
      · rw [← hG9]
        exact upd_same
    have eL9 := s9 _ _ eL8
    refine ⟨_, rfl, lp, _, rfl, SqL.of eL9, by omega, fun l hl => by have := lok.short l hl; omega, fun Ga sa => ?_⟩
    have ln2 := joinT_short lok.short (n := 101) (by omega)
    have rd2 := mis_open (d := d) lok hmem hne
    refine ⟨_, rfl, _, _, rfl, rfl, by rw [sizeLine_eq]; omega, ?_⟩
    have ln2' : (joinT (linesM rs last) ++ ln).length ≤ 9000 := by
      rw [len_app]
      omega
    generalize joinT (linesM rs last) ++ ln = opn at rd2 ln2' ⊢
    refine ⟨_, rfl, lp, _, rfl, .inl (SqL.of (sa _ _ eL9)), _, _, rfl, rfl, by show 2 ≤ sizeLine; decide, fun p3 hp3 => ⟨by show 2 ≤ sizeLine; decide, fun p4 hp4 => ?_⟩⟩
    generalize hGb : upd (upd Ga p3 _) p4 _ = Gb
    have sb : Same Ga Gb := by
      rw [← hGb]
      exact (sn hp3).trans (sn hp4)
    have elen : (((linesM rs last).map V.str).length : Int) + 1 = ((rs.length + 1 + 1 : Nat) : Int) := by
      rw [List.length_map, t0]
      omega
    have pr2 : ProbeAt K d Gb (.ref p4) := by
      refine ⟨opn, rs.length + 1 + 1, probe_im (p := p3) (.inl (.inl ?_)) (.inl (.inl ?_)), ln2', rd2⟩
      · rw [← hGb, ← elen]
        exact sn hp4 _ _ upd_same
      · rw [← hGb]
        exact upd_same
    have pr1b := pr1.mono (sk (sa.trans sb))
    refine ⟨by show 2 ≤ sizeLine; decide, fun l7 hl7 => ?_⟩
    have t10 := t8.mono ((s9.trans sa).trans sb)
    have n7 := t10.new hl7
    generalize hGc : upd Gb l7 _ = Gc
    have ec : Gc l7 = some (.lst [.ref p2, .ref p4]) := by
      rw [← hGc]
      exact upd_same
    have sc : Same Gb Gc := by
      rw [← hGc]
      exact sn hl7
    have bc : But a G1 Gc := b8.trans (.of (((s9.trans sa).trans sb).trans sc))
    have tc := t10.mono sc
    have eLc := bc _ _ nlp eL1
    have nl7 : l7 ≠ lp := fun z => by
      rw [z, (((s9.trans sa).trans sb) _ _ eL8)] at hl7
      cases hl7
    refine ⟨_, rfl, .inl ⟨rfl, _, SqL.of ec⟩, fun Gd v3 sd iv3 => ⟨l7, _, _, rfl, rfl, sd _ _ ec, by show 2 < sizeLine; decide, ?_⟩⟩
    generalize hGe : upd Gd l7 _ = Ge
    have ee : Ge l7 = some (.lst [.ref p2, .ref p4, v3]) := by
      rw [← hGe]
      exact upd_same
    have ke : Keep Gd Ge := by
      rw [← hGe]
      exact Keep.upd (notup_lst (sd _ _ ec))
    have te : TapeAt Ge a c := by
      rw [← hGe]
      exact (tc.mono sd).upd n7.1 n7.2
    have nH7 : H l7 = none := by
      cases q : H l7 with
      | none => rfl
      | some o => rw [((b1.trans b8).trans (.of ((s9.trans sa).trans sb))) _ _ n7.1 q] at hl7; cases hl7
    have be : ∀ b o, b ≠ a → b ≠ l7 → Gc b = some o → Ge b = some o := fun b o _ n e => by
      rw [← hGe, upd_ne n]
      exact sd _ _ e
    have eLe := be _ _ nlp nl7.symm eLc
    have pr3 : ProbeAt K d Ge v3 := ⟨"", 1, Im.mono ke _ _ iv3, by decide +kernel, mis_nul⟩
    have pr1e : ProbeAt K d Ge (.ref p2) := pr1b.mono (((sk sc).trans (sk sd)).trans ke)
    have pr2e : ProbeAt K d Ge (.ref p4) := pr2.mono (((sk sc).trans (sk sd)).trans ke)
    have cutL : cutV ((linesM rs last).map V.str) none (some (-1)) = (rs.map Rl.text).map V.str := by
      unfold linesM
      rw [List.map_append]
      exact cut_1 _ _
    refine ⟨_, rfl, 1, rfl, _, rfl, lp, _, rfl, SqL.of eLe, fun q1 hq1 => ?_⟩
    generalize hG2 : upd Ge q1 _ = K2
    have f2 : K2 q1 = some (.lst ((rs.map Rl.text).map V.str)) := by
      rw [← hG2, upd_same]
      exact congrArg (fun z => some (HO.lst z)) cutL
    have u2 : Same Ge K2 := by
      rw [← hG2]
      exact sn hq1
    have q1a := (te.new hq1).1
    have q17 : q1 ≠ l7 := fun z => by
      rw [z, ee] at hq1
      cases hq1
    refine ⟨_, rfl, by show 6 ≤ sizeLine; decide, fun l6 hl6 => ?_⟩
    generalize hG3 : upd K2 l6 _ = K3
    have f3 : K3 l6 = some (.lst (oddL.map V.str)) := by
      rw [← hG3]
      exact upd_same
    have u3 : Same K2 K3 := by
      rw [← hG3]
      exact sn hl6
    have t3' := te.mono (u2.trans u3)
    have l6a := ((te.mono u2).new hl6).1
    refine ⟨a, c, l6, _, rfl, t3', fun G b => .inl (SqL.of (b _ _ l6a f3)), by show 0 < 6; decide, by show 6 < 1000000; decide, fun K4 zv b4 t4 mem => ?_⟩
    obtain ⟨y, hy, rfl⟩ := List.mem_map.mp mem
    have oy : Odd noLast y := odd_of (List.all_eq_true.mp oddL_ok y hy)
    refine ⟨by show 1 ≤ sizeLine; decide, fun q2 hq2 => ?_⟩
    generalize hG5 : upd K4 q2 _ = K5
    have f5 : K5 q2 = some (.lst [V.str y]) := by
      rw [← hG5]
      exact upd_same
    have u5 : Same K4 K5 := by
      rw [← hG5]
      exact sn hq2
    refine ⟨q1, q2, _, _, rfl, rfl, u5 _ _ (b4 _ _ q1a (u3 _ _ f2)), f5, by rw [sizeLine_eq, List.length_map, List.length_map]; show _ + 1 ≤ _; omega, fun q3 hq3 => ?_⟩
    generalize hG6 : upd K5 q3 _ = K6
    have f6 : K6 q3 = some (.lst ((rs.map Rl.text ++ [y]).map V.str)) := by
      rw [← hG6, upd_same, List.map_append]
      rfl
    have u6 : Same K5 K6 := by
      rw [← hG6]
      exact sn hq3
    have b6 : But a Ge K6 := ((But.of (u2.trans u3)).trans b4).trans (.of (u5.trans u6))
    have t6 := t4.mono (u5.trans u6)
    have g6 := b6 _ _ n7.1 ee
    refine ⟨_, rfl, .inl ⟨rfl, _, SqL.of g6⟩, ?_⟩
    have bsh : ∀ x ∈ rs.map Rl.text ++ [y], x.length ≤ 64 := fun x hx => by
      rcases List.mem_append.mp hx with hx | hx
      · exact lok.short x (List.mem_append_left _ hx)
      · rw [List.mem_singleton.mp hx]
        exact oy.short
    have bln : (rs.map Rl.text ++ [y]).length ≤ 101 := by
      rw [List.length_append, List.length_map, List.length_singleton]
      omega
    refine ⟨_, rfl, q3, _, rfl, SqL.of f6, by omega, fun l hl => by have := bsh l hl; omega, fun K7 u7 => ?_⟩
    have rd4 := mis_last (d := d) lok oy
    have ln4 := joinT_short bsh bln
    generalize joinT (rs.map Rl.text ++ [y]) = bad at rd4 ln4 ⊢
    have eL7 := (b6.trans (.of u7)) _ _ nlp eLe
    refine ⟨_, rfl, lp, _, rfl, .inl (SqL.of eL7), by show 2 ≤ sizeLine; decide, fun p5 hp5 => ⟨by show 2 ≤ sizeLine; decide, fun p6 hp6 => ?_⟩⟩
    generalize hG8 : upd (upd K7 p5 _) p6 _ = K8
    have u8 : Same K7 K8 := by
      rw [← hG8]
      exact (sn hp5).trans (sn hp6)
    have elen2 : (((linesM rs last).map V.str).length : Int) = ((rs.length + 1 : Nat) : Int) := by
      rw [List.length_map, t0]
    have pr4 : ProbeAt K d K8 (.ref p6) := by
      refine ⟨bad, rs.length + 1, probe_im (p := p5) (.inl (.inl ?_)) (.inl (.inl ?_)), by omega, rd4⟩
      · rw [← hG8, ← elen2]
        exact sn hp6 _ _ upd_same
      · rw [← hG8]
        exact upd_same
    have g8 := u8 _ _ (u7 _ _ g6)
    refine ⟨l7, _, _, rfl, rfl, g8, by show 3 < sizeLine; decide, ?_⟩
    generalize hG9 : upd K8 l7 _ = K9
    have g9 : K9 l7 = some (.lst [.ref p2, .ref p4, v3, .ref p6]) := by
      rw [← hG9]
      exact upd_same
    have k9 : Keep K8 K9 := by
      rw [← hG9]
      exact Keep.upd (notup_lst g8)
    have t9 : TapeAt K9 a c := by
      rw [← hG9]
      exact ((t6.mono u7).mono u8).upd n7.1 n7.2
    have x9 : ∀ b o, b ≠ a → b ≠ l7 → G1 b = some o → K9 b = some o := fun b o na n7 e => by
      rw [← hG9, upd_ne n7]
      exact u8 _ _ (u7 _ _ (b6 _ _ na (be _ _ na n7 (bc _ _ na e))))
    have b9 : But a H K9 := fun b o na e => x9 b o na (fun z => by rw [z, nH7] at e; cases e) (b1 _ _ na e)
    have ke8 : Keep Ge K8 := (b6.keep te.notup).trans (sk (u7.trans u8))
    have all9 : ∀ v ∈ [V.ref p2, .ref p4, v3, .ref p6], ProbeAt K d K9 v := fun v hv => by
      simp only [List.mem_cons, List.not_mem_nil, or_false] at hv
      rcases hv with rfl | rfl | rfl | rfl
      · exact pr1e.mono (ke8.trans k9)
      · exact pr2e.mono (ke8.trans k9)
      · exact pr3.mono (ke8.trans k9)
      · exact pr4.mono k9
    have tb9 := tabs_but tb ta b9
    have dat9 : ∀ G, LamX.ExtN K9 G → DoorAt K T.C_Shape T.C_Door G dr d := fun G x => dat.stay ta (b9.t.ext x)
    have eL9' := b9 _ _ nlp elp
    refine ⟨_, rfl, l7, rfl, ⟨_, SqL.of g9⟩, for_it (walk_list (K := K) (a := l7) (xs := [V.ref p2, .ref p4, v3, .ref p6]))
      (fun j σ G => (∃ c9 c10, σ = [some (.ref a), some (.ref dr), some (.ref lp), some (.int (i : Int)), some (.str ln), some (.ref l3), some (.str bent), some (.ref l7), some (.ref q3), c9, c10, none]) ∧ LamX.ExtN K9 G ∧ LamX.Tabs (Tb P1 P2) G)
      ⟨⟨_, _, rfl⟩, LamX.ExtN.refl _, tb9⟩ (fun j σ G _ z => SqL.of (z.2.1 _ _ g9 (fun _ z => by cases z))) ?_ ?_⟩
    · rintro j v σ X X' hj ⟨⟨c9, c10, rfl⟩, xX, tX⟩ ⟨rfl, hy⟩
      obtain ⟨zt, n, iv, hz, rd⟩ := (all9 v (List.mem_of_getElem? hy)).mono ((ext_t xX).keep t9)
      obtain ⟨pp, xs, rfl, sp, ix⟩ := iv.tup_
      obtain ⟨w0, xs, rfl, i0, ix⟩ := ix.cons_
      obtain ⟨w1, xs, rfl, i1, ix⟩ := ix.cons_
      rw [ix.nil_, i0.str_] at sp
      refine ⟨pp, _, rfl, sp, rfl, _, _, rfl, _, _, rfl, rfl, ?_⟩
      refine ⟨tX, dr, .str zt, d, .text n, _, rfl, rfl, fun G x => dat9 G (xX.trans x), .inr ⟨zt, rfl, hz, rd⟩, rfl, fun G p x tG q => ?_⟩
      have i1G : Im K G (dueD "text" (.int n)) w1 := Im.mono ((ext_t x).keep (t9.extT xX)) _ _ i1
      refine ⟨_, rfl, dueD "text" (.int n), dueD "text" (.int n), Im.dp _ _ (due_im (.int _) q), Im.dp _ _ i1G, due_sh text_ok (.int _), due_sh text_ok (.int _), ?_⟩
      rw [due_eq text_ok (.int _)]
      exact ⟨_, rfl, itf rfl ⟨⟨_, _, rfl⟩, xX.trans x, tG⟩⟩
    rintro σ X ⟨⟨c9, c10, rfl⟩, xX, tX⟩
    have tpX := t9.extT xX
    have eLX : X lp = some _ := xX _ _ eL9' (fun _ z => by cases z)
    refine ⟨_, rfl, _, rfl, fun G v sv iv => ?_⟩
    obtain ⟨vt, vxs, rfl, svt, _⟩ := iv.tup_
    intro qd hqd
    generalize hY1 : upd G qd _ = Y1
    have y1 : Same G Y1 := by
      rw [← hY1]
      exact sn hqd
    have eqd : Y1 qd = some (.dK []) := by
      rw [← hY1]
      exact upd_same
    refine ⟨by show 6 ≤ sizeLine; decide, fun ll hll => ?_⟩
    generalize hY2 : upd Y1 ll _ = Y2
    have y2 : Same Y1 Y2 := by
      rw [← hY2]
      exact sn hll
    have ell : Y2 ll = some (.lst [.non, .int 0, .ref lp, .ref vt, .ref qd, .bl true]) := by
      rw [← hY2]
      exact upd_same
    have tY1 := (tpX.mono sv).mono y1
    have lla := (tY1.new hll).1
    have tY2 := tY1.mono y2
    refine ⟨a, c, ll, _, rfl, tY2, fun G b => .inl (SqL.of (b _ _ lla ell)), by show 0 < 6; decide, by show 6 < 1000000; decide, fun Z nv bZ tZ mem => ?_⟩
    have bXZ : But a X Z := (But.of ((sv.trans y1).trans y2)).trans bZ
    have btZ : ButT a H Z := ((b9.t.ext xX).trans bXZ.t)
    have tabZ := tabs_but tX tpX bXZ
    have nos : ∀ G2, LamX.ExtN Z G2 → NoStr K G2 nv := fun G2 x2 => by
      have eqZ := bZ _ _ (ne_lst tY1 eqd (fun _ z => nomatch z)) (y2 _ _ eqd)
      have svZ : SqT K Z vt vxs := (bZ.keep tY2.notup).sq (keepT (y1.trans y2) svt)
      have elZ := bXZ _ _ nlp eLX
      simp only [List.mem_cons, List.not_mem_nil, or_false] at mem
      rcases mem with rfl | rfl | rfl | rfl | rfl | rfl
      · exact no_non
      · exact no_int
      · exact no_lst (x2 _ _ elZ (fun _ z => by cases z))
      · exact no_tup (extN_sqT x2 svZ)
      · exact no_dk (x2 _ _ eqZ (fun _ z => by cases z))
      · exact no_bl
    refine ⟨tabZ, dr, nv, d, .text 0, _, rfl, rfl, fun G2 x2 => dat.stay ta (btZ.ext x2), .inl ⟨nos, rfl⟩, rfl, fun G2 p x2 tG q => ?_⟩
    intro G3 v3 s3 iv3
    refine ⟨dueD "text" (.int 0), dueD "text" (.int 0), Im.dp _ _ (due_im (.int _) (keepT s3 q)), Im.dp _ _ iv3, due_sh text_ok (.int _), due_sh text_ok (.int _), ?_⟩
    rw [due_eq text_ok (.int _)]
    exact k _ ((btZ.ext x2).trans (same_t s3)) ((tZ.extT x2).mono s3) (tG.ext s3)
end
end T82
/-! ### the plain law of drawn rules: a machine; what is none -/
namespace T82
open PySem L2
theorem nums_mem {es : Es} {e : Str × Addr × List Int} {n : Int} (he : e ∈ es) (hn : n ∈ e.2.2) : n ∈ es.nums := List.mem_flatMap.mpr ⟨e, he, hn⟩
theorem numsOf_mem {es : Es} {k : Str} {n : Int} (h : n ∈ numsOf es k) : ∃ e ∈ es, e.1 = k ∧ n ∈ e.2.2 := by
  unfold numsOf at h
  cases q : es.lookup k with
  | none => rw [q] at h; cases h
  | some p =>
    rw [q] at h
    exact ⟨(k, p), PySem.mem_of_lookup q, rfl, h⟩
theorem uniq_num : ∀ {es : Es}, es.nums.Nodup → ∀ {e f : Str × Addr × List Int} {n : Int}, e ∈ es → f ∈ es → n ∈ e.2.2 → n ∈ f.2.2 → e = f
  | [], _, _, _, _, he, _, _, _ => nomatch he
  | g :: r, h, e, f, n, he, hf, he2, hf2 => by
    have h : (g.2.2 ++ Es.nums r).Nodup := h
    have hh := List.nodup_append.mp h
    rcases List.mem_cons.mp he with rfl | he'
    · rcases List.mem_cons.mp hf with rfl | hf'
      · rfl
      · exact absurd rfl (hh.2.2 n he2 n (nums_mem hf' hf2))
    · rcases List.mem_cons.mp hf with rfl | hf'
      · exact absurd rfl (hh.2.2 n hf2 n (nums_mem he' he2))
      · exact uniq_num hh.2.1 he' hf' he2 hf2
/-- the kind that holds a state -/
def kdOf (es : Es) (n : Int) : Str := match es.find? (fun e => decide (n ∈ e.2.2)) with
  | some e => e.1
  | none => ""
theorem kd_at {es : Es} (h : es.nums.Nodup) {k : Str} {n : Int} (hn : n ∈ numsOf es k) : kdOf es n = k := by
  obtain ⟨e, he, rfl, h2⟩ := numsOf_mem hn
  unfold kdOf
  cases q : es.find? (fun e => decide (n ∈ e.2.2)) with
  | none => exact absurd (decide_eq_true h2) (by simpa using List.find?_eq_none.mp q e he)
  | some f =>
    have h3 := List.find?_some q
    have h4 := List.mem_of_find?_eq_some q
    rw [uniq_num h h4 he (by simpa using h3) h2]
theorem ldOf_no {f : Str} {as : List Int} : ∀ {rs : List Rl}, (∀ r ∈ rs, r.nk ≠ (f, as)) → ldOf rs f as = none
  | [], _ => rfl
  | r :: rs, h => by
    rw [ldOf, if_neg (fun z => h r List.mem_cons_self (by unfold Rl.nk; rw [z.1, z.2]))]
    exact ldOf_no fun x hx => h x (List.mem_cons_of_mem _ hx)
theorem ldOf_yes {r : Rl} : ∀ {rs : List Rl}, r ∈ rs → ldOf rs r.name r.args ≠ none
  | x :: rs, h => by
    rw [ldOf]
    split
    · exact fun z => nomatch z
    · rename_i n
      rcases List.mem_cons.mp h with rfl | h
      · exact absurd ⟨rfl, rfl⟩ n
      · exact ldOf_yes h
theorem nk_apart {rs : List Rl} (nd : (rs.map Rl.nk).Nodup) {i : Nat} {r : Rl} (e : rs[i]? = some r) : ∀ x ∈ rs.take i, x.nk ≠ r.nk := fun x hx => by
  have hi := (List.getElem?_eq_some_iff.mp e).1
  have h2 := nd
  rw [← List.take_append_drop i rs, List.map_append, List.drop_eq_getElem_cons hi] at h2
  have h3 : rs[i] = r := (List.getElem?_eq_some_iff.mp e).2
  exact (List.nodup_append.mp h2).2.2 _ (List.mem_map_of_mem hx) _ (by rw [h3]; exact List.mem_cons_self)
variable {d : Dor} {es : Es} {rs : List Rl}
theorem Told.few {z : Str} {kinds : List Str} {kind : Str} (g : d.good) (t : Told d z kinds kind) : kinds.length ≤ 3 ∧ nameB z = true := by
  rcases t with ⟨h, rfl, rfl⟩ | ⟨h, hh, rfl, rfl, rfl⟩
  · refine ⟨by simp, ?_⟩
    rcases h with rfl | rfl <;> decide +kernel
  · exact ⟨(g.headsN h hh).2.2.2, (g.headsN h hh).1.1⟩
theorem small_of (so : StsOk (("bit" : Str) :: d.sealed) es) {k : Str} {n : Int} (hn : n ∈ numsOf es k) : 0 ≤ n ∧ n ≤ 7 := by
  obtain ⟨e, he, rfl, h2⟩ := numsOf_mem hn
  exact so.small n (nums_mem he h2)
theorem inS_of {n : Int} (h : 0 ≤ n ∧ n ≤ 7) : inS n = true := by
  unfold inS
  simp only [Bool.and_eq_true, decide_eq_true_eq]
  omega
theorem Fits.args {as : List Int} {kinds : List Str} (f : Fits es as kinds) : ∀ a ∈ as, ∃ k, a ∈ numsOf es k := fun a ha => by
  obtain ⟨i, hi, rfl⟩ := List.mem_iff_getElem.mp ha
  have h2 : i < kinds.length := by rw [← f.1]; exact hi
  exact ⟨kinds[i], f.2 i _ _ (List.getElem?_eq_getElem hi) (List.getElem?_eq_getElem h2)⟩
theorem Fits.zip {as : List Int} {kinds : List Str} (f : Fits es as kinds) (nd : es.nums.Nodup) : ∀ p ∈ as.zip kinds, kdOf es p.1 = p.2 := fun p hp => by
  obtain ⟨i, e⟩ := List.mem_iff_getElem?.mp hp
  obtain ⟨h1, h2⟩ := List.getElem?_zip_eq_some.mp e
  exact kd_at nd (f.2 i _ _ h1 h2)
theorem step_of (g : d.good) (so : StsOk (("bit" : Str) :: d.sealed) es) {r : Rl} (o : RuleOk d es r) (new : ldOf rs r.name r.args = none) : ∃ kinds kind, StepOk d rs r kinds kind ∧ Con (kdOf es) (r.prs kinds kind) := by
  obtain ⟨kinds, kind, t, f, hg⟩ := o.told
  have few := (Told.few g t).1
  refine ⟨kinds, kind, ⟨by rw [f.1]; exact few, t, f.1.symm, fun a ha => ?_, inS_of (small_of so hg), new⟩, fun p hp => ?_⟩
  · obtain ⟨k, hk⟩ := Fits.args f a ha
    exact inS_of (small_of so hk)
  · rcases List.mem_append.mp hp with hp | hp
    · exact Fits.zip f so.apart p hp
    · rw [List.mem_singleton.mp hp]
      exact kd_at so.apart hg
theorem rules_ok (g : d.good) (so : StsOk (("bit" : Str) :: d.sealed) es) (R : DRules d es rs) : RulesOk d (kdOf es) rs rs.length := fun _ _ _ e =>
  step_of g so (R.each _ (List.mem_of_getElem? e)) (ldOf_no (nk_apart R.apart e))
theorem rule_fit (g : d.good) (so : StsOk (("bit" : Str) :: d.sealed) es) {r : Rl} (o : RuleOk d es r) : r.fit := by
  obtain ⟨kinds, kind, t, f, hg⟩ := o.told
  have few := Told.few g t
  refine ⟨few.2, by rw [f.1]; omega, fun a ha => ?_, ?_⟩
  · obtain ⟨k, hk⟩ := Fits.args f a ha
    have := small_of so hk
    exact ⟨this.1, by omega⟩
  · have := small_of so hg
    exact ⟨this.1, by omega⟩
theorem rules_pre {kd : Int → Str} {n : Nat} (h : RulesOk d kd rs rs.length) (hn : n ≤ rs.length) (t : List Rl) : RulesOk d kd (rs.take n ++ t) n := fun i r hi e => by
  have tl : (rs.take n).length = n := by
    rw [List.length_take]
    omega
  rw [List.getElem?_append_left (by omega), List.getElem?_take_of_lt hi] at e
  have := h i r (by omega) e
  rw [List.take_append_of_le_length (by omega), List.take_take, Nat.min_eq_left (by omega)]
  exact this
theorem rules_snoc {kd : Int → Str} (h : RulesOk d kd rs rs.length) (x : Rl) : RulesOk d kd (rs ++ [x]) rs.length := by
  have := rules_pre h (Nat.le_refl _) [x]
  rw [List.take_length] at this
  exact this
/-- a rule that is none, behind n good ones -/
theorem comes_at {kd : Int → Str} {last : List Int} {n : Nat} (h : RulesOk d kd rs rs.length) (hn : n ≤ rs.length) {x : Rl} (t : List Rl) (b : StepBad d (rs.take n) x) : Comes d kd (rs.take n ++ [x] ++ t) last (some (.int (n : Nat))) := by
  have tl : (rs.take n).length = n := by
    rw [List.length_take]
    omega
  rw [List.append_assoc]
  refine .rule n x (rules_pre h hn _) ?_ ?_
  · rw [List.getElem?_append_right (by omega), tl, Nat.sub_self]
    rfl
  · rw [List.take_append_of_le_length (by omega), List.take_take, Nat.min_self]
    exact b
theorem bad_again (g : d.good) {r : Rl} (o : RuleOk d es r) (m : r ∈ rs) : StepBad d rs r := by
  obtain ⟨kinds, kind, t, f, _⟩ := o.told
  have few := (Told.few g t).1
  exact .off kinds kind (by rw [f.1]; exact few) t f.1.symm (.inr (ldOf_yes m))
theorem bad_goal (g : d.good) {r : Rl} (o : RuleOk d es r) {x : Int} (hx : inS x = false) : StepBad d rs ⟨r.name, r.args, x⟩ := by
  obtain ⟨kinds, kind, t, f, _⟩ := o.told
  have few := (Told.few g t).1
  refine .off kinds kind (by rw [f.1]; exact few) t f.1.symm (.inl ?_)
  rw [List.all_append, List.all_cons, hx]
  simp
theorem pool_names : ((hAsk :: (pool ++ tailH)).map Hd.name).all (fun z => decide (z ≠ "nobody")) = true := by decide +kernel
theorem Drawn.sub (D : Drawn d) : ∀ h ∈ d.heads, h ∈ hAsk :: (pool ++ tailH) := fun h hh => by
  obtain ⟨hs, pm, c⟩ := D.some_
  have h1 := pm.mem_iff.mp hh
  rcases List.mem_cons.mp h1 with rfl | h1
  · exact List.mem_cons_self
  · refine List.mem_cons_of_mem _ ?_
    rcases c with ⟨_, s⟩ | ⟨_, s⟩
    · exact List.mem_append_left _ (s.subset h1)
    · exact s.subset h1
theorem bad_name (D : Drawn d) (x : Int) : StepBad d rs ⟨"nobody", [], x⟩ := by
  refine .name (by simp) ⟨show ("nobody" : Str) ≠ "no" by decide +kernel, show ("nobody" : Str) ≠ "yes" by decide +kernel, fun h hh z => ?_⟩
  have h1 := List.all_eq_true.mp pool_names h.name (List.mem_map_of_mem (D.sub h hh))
  exact absurd z.symm (by simpa using h1)
theorem states_small (so : StsOk (("bit" : Str) :: d.sealed) es) (R : DRules d es rs) : ∀ a ∈ statesOf rs, a ∈ es.nums := fun a ha => by
  obtain ⟨r, hr, h⟩ := List.mem_flatMap.mp ha
  obtain ⟨kinds, kind, t, f, hg⟩ := (R.each r hr).told
  have go : ∀ {k}, a ∈ numsOf es k → a ∈ es.nums := fun h => by
    obtain ⟨e, he, _, h2⟩ := numsOf_mem h
    exact nums_mem he h2
  rcases List.mem_append.mp h with h | h
  · obtain ⟨k, hk⟩ := Fits.args f a h
    exact go hk
  · exact go (by rw [List.mem_singleton.mp h]; exact hg)
theorem reads_comes {last : List Int} {kd : Int → Str} {c : Option V} (hf : ∀ r ∈ rs, r.fit) (hl : ∀ a ∈ last, inT a) (m : rs.length ≤ 600) (l : last.length < 63) (h : Comes d kd rs last c) : Reads d (linesT (machT rs last)) (outc rs last c) := by
  unfold machT
  rw [lines_joinT fun z hz => ?_]
  · have h1 := rules_back hf
    have h2 := last_back hl
    have h3 : ∀ r ∈ rs, r.args.length ≤ 1000 := fun r hr => by
      have := (hf r hr).few
      omega
    cases c with
    | none => exact .fine _ _ rs last kd h1 h2 m l h3 h
    | some c => exact .mach _ _ rs last kd c h1 h2 m l h3 h
  · rcases List.mem_append.mp hz with hz | hz
    · obtain ⟨r, hr, rfl⟩ := List.mem_map.mp hz
      exact text_signs (hf r hr)
    · rw [List.mem_singleton.mp hz]
      exact last_signs hl
theorem mach_len {last : List Int} (hf : ∀ r ∈ rs, r.fit) (hl : ∀ a ∈ last, inT a) (m : rs.length ≤ 110) (l : last.length ≤ 20) : (machT rs last).length ≤ 9000 := by
  have h : ∀ z ∈ rs.map Rl.text ++ [lastT last], z.length ≤ 64 := fun z hz => by
    rcases List.mem_append.mp hz with hz | hz
    · obtain ⟨r, hr, rfl⟩ := List.mem_map.mp hz
      have := text_len (hf r hr)
      omega
    · rw [List.mem_singleton.mp hz]
      have := last_len hl
      omega
  have := joinT_short h (n := 111) (by rw [List.length_append, List.length_map, List.length_singleton]; omega)
  unfold machT
  omega
end T82
/-! ### d.update(e); the keys of a locked dict -/
namespace T82
open PySem L2 PyProof.Rows
def rUpD : V → List V → Hp → VK → Prop := fun x xs H Q => ∃ (a b : Addr) (kvs ls : List (Key × V)), x = .ref a ∧ xs = [.ref b] ∧ a ≠ b ∧ H a = some (.dK kvs) ∧ H b = some (.dK ls) ∧ kvs.length + ls.length ≤ sizeLine ∧ Q .non (upd H a (.dK (mergeK kvs ls)))
theorem mt_updateD {X : Cx} : MtR X "dict.update" rUpD := by
  intro pins s σ H x xs v us Q I rx rxs h
  obtain ⟨a, b, kvs, ls, rfl, rfl, nab, ea, eb, hl, q⟩ := h
  cases rx
  cases rxs with
  | cons ry rt =>
    cases rt
    cases ry
    obtain ⟨z, hd, vs, rel, dd⟩ := dk_of I.hok ea
    obtain ⟨z2, hd2, ws, rel2, dd2⟩ := dk_of I.hok eb
    have l1 : kvs.length = vs.length := Paired.length rel
    have l2 : ls.length = ws.length := Paired.length rel2
    refine call_meetsIn PySem.F.slot_dict_update dd.typeIs PySem.F.entry_dict_update (PySem.F.args_dict_update_2 _ _) (meets_dict_update (mixKind X.prog X.w) a b nab hd2) ⟨vs, ws, dd, dd2, by omega, fun h' dd' _ hs => ?_⟩
    have he : ∃ q, h'.get? a = some q := let ⟨q, _, _, hq, _⟩ := dd'; ⟨q, hq⟩
    exact ⟨.non, _, d_write (t' := s.toks) I (by rw [ea]; exact True.intro) hs he (dk_new (Nat.le_trans (length_mergeK ls kvs) hl) hd (KV.merge rel2 rel) dd'), rfl, q⟩
theorem in_merge (k : Key) : ∀ (more kvs : List (Key × V)), (valV (mergeK kvs more) k).isSome = ((valV kvs k).isSome || more.any fun p => decide (p.1 = k))
  | [], kvs => by simp [mergeK]
  | p :: r, kvs => by
    have h := in_merge k r (putK kvs p.1 p.2)
    have e : mergeK kvs (p :: r) = mergeK (putK kvs p.1 p.2) r := rfl
    rw [e, h, valV_put, List.any_cons]
    by_cases q : k = p.1
    · rw [if_pos q, q]
      simp
    · rw [if_neg q, decide_eq_false (fun z => q z.symm)]
      simp
def kvT (ns : List Int) : List (Key × V) := ns.map fun n => (Sum.inl n, .bl true)
theorem any_kvT (n : Int) (ns : List Int) : ((kvT ns).any fun p => decide (p.1 = (Sum.inl n : Key))) = decide (n ∈ ns) := by
  induction ns with
  | nil => rfl
  | cons a r ih =>
    have e : kvT (a :: r) = (Sum.inl a, .bl true) :: kvT r := rfl
    rw [e, List.any_cons, ih]
    by_cases q : a = n
    · simp [q]
    · have : (Sum.inl a : Key) ≠ Sum.inl n := fun z => q (Sum.inl.inj z)
      simp [this, Ne.symm q]
theorem in_kvT (n : Int) (ns : List Int) : (valV (mergeK [] (kvT ns)) (Sum.inl n)).isSome = decide (n ∈ ns) := by
  rw [in_merge, any_kvT]
  rfl
theorem in_more (tk : List (Key × V)) (n : Int) (ns : List Int) : (valV (mergeK tk (mergeK [] (kvT ns))) (Sum.inl n)).isSome = ((valV tk (Sum.inl n)).isSome || decide (n ∈ ns)) := by
  rw [in_merge, valV_any, in_kvT]
theorem len_more (tk : List (Key × V)) (ns : List Int) : (mergeK tk (mergeK [] (kvT ns))).length ≤ tk.length + ns.length := by
  have h1 := length_mergeK (mergeK [] (kvT ns)) tk
  have h2 := length_mergeK (kvT ns) []
  have h3 : (kvT ns).length = ns.length := List.length_map _
  rw [List.length_nil] at h2
  omega
end T82
namespace T82
open PySem L2
section
variable {P : Program} {w : World} {K : PySem.W.Frag} {mg : Str → Option Value} {base : Heap}
/-! ### no machine -/
theorem prs_im {H : Hp} : ∀ {ns : List Int} {ys : List V}, ImAll K H (ns.map fun n => PyData.tuple [.int n, .bool true]) ys → ∃ ps : List Addr, ys = ps.map V.ref ∧ Paired (fun p (kv : Key × V) => SqT K H p [kV kv.1, kv.2]) ps (kvT ns)
  | [], ys, h => ⟨[], h.nil_, .nil⟩
  | n :: ns, ys, h => by
    obtain ⟨v, vs, rfl, i1, r⟩ := ImAll.cons_ (ds := ns.map fun n => PyData.tuple [.int n, .bool true]) h
    obtain ⟨ps, rfl, pr⟩ := prs_im r
    obtain ⟨p, xs, rfl, sq, ia⟩ := i1.tup_
    obtain ⟨w1, xs, rfl, j1, ia⟩ := ia.cons_
    obtain ⟨w2, xs, rfl, j2, ia⟩ := ia.cons_
    rw [ia.nil_, j1.int_, j2.bl_] at sq
    exact ⟨p :: ps, rfl, .cons sq pr⟩
theorem nums_take {es : Es} {j : Nat} {e : Str × Addr × List Int} (h : es[j]? = some e) : Es.nums (es.take (j + 1)) = Es.nums (es.take j) ++ e.2.2 := by
  unfold Es.nums
  rw [List.take_add_one, h, List.flatMap_append]
  simp
theorem es_look {es : Es} (nd : (es.map Prod.fst).Nodup) {e : Str × Addr × List Int} (h : e ∈ es) : es.lookup e.1 = some e.2 := by
  induction es with
  | nil => cases h
  | cons f r ih =>
    have nd2 := List.nodup_cons.mp nd
    rcases List.mem_cons.mp h with rfl | h
    · exact List.lookup_cons_self
    · have ne : e.1 ≠ f.1 := fun z => nd2.1 (by rw [← z]; exact List.mem_map_of_mem h)
      show List.lookup e.1 ((f.1, f.2) :: r) = _
      rw [List.lookup_cons, beq_eq_false_iff_ne.mpr ne]
      exact ih nd2.2 h
/-- a probe: rules, last states and the part that is told -/
def PrbAt (K : PySem.W.Frag) (d : Dor) (H : Hp) (v : V) : Prop := ∃ (rs : List Rl) (last : List Int) (dp : PyData) (vp : V), Im K H (.tuple [.tuple (rs.map Rl.d), .tuple (last.map PyData.int), dp]) v ∧ FlD dp vp ∧
  (∀ r ∈ rs, r.fit) ∧ (∀ a ∈ last, inT a) ∧ rs.length ≤ 110 ∧ last.length ≤ 20 ∧ Reads d (linesT (machT rs last)) (.mach vp)
theorem PrbAt.mono {d : Dor} {H G : Hp} {v : V} (h : PrbAt K d H v) (k : Keep H G) : PrbAt K d G v := by
  obtain ⟨rs, last, dp, vp, h1, h⟩ := h
  exact ⟨rs, last, dp, vp, Im.mono k _ _ h1, h⟩
theorem prb_mk {d : Dor} {H : Hp} {t : Addr} {va vb vp : V} {rs : List Rl} {last : List Int} {dp : PyData} {kd : Int → Str} (sq : SqT K H t [va, vb, vp]) (ia : Im K H (.tuple (rs.map Rl.d)) va) (ib : Im K H (.tuple (last.map PyData.int)) vb) (fl : FlD dp vp)
    (hf : ∀ r ∈ rs, r.fit) (hl : ∀ a ∈ last, inT a) (m : rs.length ≤ 110) (l : last.length ≤ 20) (h : Comes d kd rs last (some vp)) : PrbAt K d H (.ref t) :=
  ⟨rs, last, dp, vp, im_tup sq (ia_cons ia (ia_cons ib (ia_cons fl.im ia_nil))), fl, hf, hl, m, l, reads_comes hf hl (by omega) (by omega) h⟩
theorem inT_inS {a : Int} (h : inS a = true) : inT a := by
  unfold inS at h
  simp only [Bool.and_eq_true, decide_eq_true_eq] at h
  exact ⟨h.1, by omega⟩
abbrev nm__law_is_no_machine : List Str := ["tape", "door", "states", "rules", "last", "at", "taken", "kind", "free", "key", "probed", "some", "last_here", "part", "text", "number", "one"]
theorem sc__law_is_no_machine : FnScope nm__law_is_no_machine ["tape", "door", "states", "rules", "last"] (defScope s__law_is_no_machine) := ⟨rfl, rfl, rfl, by decide +kernel, rfl, by decide +kernel, by decide +kernel⟩
def sp__law_is_no_machine (K : PySem.W.Frag) (T : List (Addr × Str)) (CS CD : Addr) : Sp := fun vs H Q _ => ∃ (a c dr q : Addr) (rv lv : V) (d : Dor) (es : Es) (rs : List Rl) (m : Int), vs = [.ref a, .ref dr, .ref q, rv, lv] ∧ TapeAt H a c ∧ LamX.Tabs T H ∧ DoorAt K CS CD H dr d ∧ Drawn d ∧
  StsAt H q es ∧ StsOk (("bit" : Str) :: d.sealed) es ∧ DRules d es rs ∧ Im K H (.tuple (rs.map Rl.d)) rv ∧ Im K H (.tuple [.int m]) lv ∧ m ∈ statesOf rs ∧ ∀ G, ButT a H G → TapeAt G a c → LamX.Tabs T G → Q (.bl true) G
theorem ok__law_is_no_machine (T : Tx K mg) {fT fM : Addr} (BT : BadTextX.Txt P K mg T.C_BadText fT) (BM : BadMachineX.Txt P K mg T.C_BadMachine fM) (Er : ErrT T) {cp P1 P2 : Addr} (ne : P1 ≠ P2) (TB : LamX.TabB base mg cp P2)
    (F : FunC K "_law_is_no_machine" s__law_is_no_machine T.f__law_is_no_machine T.d__law_is_no_machine cp) : FnOk P w K mg base CX0 9 T.f__law_is_no_machine T.d__law_is_no_machine ["tape", "door", "states", "rules", "last"] (sp__law_is_no_machine K (Tb P1 P2) T.C_Shape T.C_Door) := by
  have hmT : (P2, (("_law_is_no_machine" : Str) ++ ".<locals>.") ++ "<lambda>") ∈ Tb P1 P2 := List.mem_cons_of_mem _ List.mem_cons_self
  have hu : ∀ p ∈ Tb P1 P2, p.1 = P2 → p.2 = (("_law_is_no_machine" : Str) ++ ".<locals>.") ++ "<lambda>" := fun p hp e => by
    rcases List.mem_cons.mp hp with rfl | hp
    · exact absurd e ne
    · rw [List.mem_singleton.mp hp]
  refine F.ok9 sc__law_is_no_machine (fun vs H Q E h => ?_) (fun A outer s H vs Q E hr h => ?_)
  · obtain ⟨a, c, dr, q, rv, lv, d, es, rs, m, rfl, _⟩ := h
    rfl
  · obtain ⟨a, c, dr, q, rv, lv, d, es, rs, m, rfl, ta, tb, dat, drn, st, so, R, irv, ilv, mst, k⟩ := h
    refine ⟨_, (pss_cons (ps_asg (pe_tup (pa_cons (pe_call (ok__law_pick T) (hr.mono (by decide)) (by rfl) T.m__law_pick T.F__law_pick.kp T.b__law_pick .nil pass0 (pa_cons (pv 0) (pa_cons (pe_callB (cLen (K := K) rfl) (by rfl) T.t_len (by decide +kernel) (pa_cons (pv 3) pa_nil)) pa_nil))) (pa_cons pe_dnewK pa_nil))) (pg_tup rfl (pgs_cons (pg_name (i := 5) sc__law_is_no_machine.nd rfl (Or.inl rfl)) (pgs_cons (pg_name (i := 6) sc__law_is_no_machine.nd rfl (Or.inr rfl)) pgs_nil))))
    (pss_cons (ps_lock (ps_for PassesOwn.never rfl (pi_keys (pv 2)) (pg_name (i := 7) sc__law_is_no_machine.nd rfl (Or.inl rfl))
      (pss_one (ps_expr (pe_bm PySem.F.plainAttrs_dict PySem.F.slot_dict_update PySem.F.type_dict_update mt_updateD (pv 6) (pa_cons (pe_callTy (call_dictP rfl) (by rfl) T.t_dict (by decide +kernel) (pa_cons (pe_lc (own := [("one", 16)]) (g := gName 16) (tt := tYes) rfl sc__law_is_no_machine.nd (wL (K := K) rfl (pe_dget (hu_of hr) (pv 2) (pv 7) (fun _ _ => rfl))) (blkOk_by (N := nm__law_is_no_machine) (sc := defScope s__law_is_no_machine) (by decide +kernel)) (fun _ _ _ _ _ => (pg_name (i := 16) sc__law_is_no_machine.nd rfl (Or.inl rfl))) (fun _ _ _ _ _ => pts_nil) (fun _ _ _ _ _ => (pe_tup (pa_cons (pv 16) (pa_cons pe_bl pa_nil))))) pa_nil)) pa_nil))))))
    (pss_cons (ps_setLc (i := 8) (own := [("number", 15)]) (g := gName 15) (tt := _) rfl sc__law_is_no_machine.nd rfl rfl (sw_true rfl rfl rfl (by decide +kernel)) (pi_range1 rfl T.t_range (pa_cons pe_int pa_nil)) (blkOk_by (N := nm__law_is_no_machine) (sc := defScope s__law_is_no_machine) (by decide +kernel)) (fun _ _ _ _ _ => (pg_name (i := 15) sc__law_is_no_machine.nd rfl (Or.inl rfl))) (fun _ _ _ _ _ => pts_one (pt_cmp (pc_dnotin (hu_of hr) (pv 15) (pv 6)))) (fun _ _ _ _ _ => (pv 15)))
    (pss_cons (ps_set (i := 9) sc__law_is_no_machine.nd rfl (.inl rfl) (pe_ix (iT (K := K) rfl) (pe_ix (iT (K := K) rfl) (pv 3) (pv 5) (fun _ _ => rfl)) pe_int (fun _ _ => rfl)))
    (pss_cons (ps_set (i := 10) sc__law_is_no_machine.nd rfl (.inl rfl) (pe_lst (pa_cons (pe_tup (pa_cons (pe_op (oCatU (K := K) rfl) (pv 3) (pe_tup (pa_cons (pe_ix (iT (K := K) rfl) (pv 3) (pv 5) (fun _ _ => rfl)) pa_nil))) (pa_cons (pv 4) (pa_cons (pe_callB (cLen (K := K) rfl) (by rfl) T.t_len (by decide +kernel) (pa_cons (pv 3) pa_nil)) pa_nil)))) (pa_cons (pe_tup (pa_cons (pv 3) (pa_cons (pe_tup (pa_cons (pe_ix (iL (K := K) rfl) (pv 8) pe_int (fun _ _ => rfl)) pa_nil)) (pa_cons pe_str pa_nil)))) pa_nil))))
    (pss_cons (ps_expr (pe_bm PySem.F.plainAttrs_list PySem.F.slot_list_append PySem.F.type_list_append mt_append (pv 10) (pa_cons (pe_tup (pa_cons (pe_op (oCatU (K := K) rfl) (pv 3) (pe_tup (pa_cons (pe_tup (pa_cons (pe_tup (pa_cons (pe_ix (iT (K := K) rfl) (pv 9) pe_int (fun _ _ => rfl)) (pa_cons (pe_ix (iL (K := K) rfl) (pv 8) pe_int (fun _ _ => rfl)) (pa_cons (pe_ix (iL (K := K) rfl) (pv 8) pe_int (fun _ _ => rfl)) (pa_cons (pe_ix (iL (K := K) rfl) (pv 8) pe_int (fun _ _ => rfl)) (pa_cons (pe_ix (iL (K := K) rfl) (pv 8) pe_int (fun _ _ => rfl)) pa_nil)))))) (pa_cons pe_int pa_nil))) pa_nil))) (pa_cons (pv 4) (pa_cons (pe_callB (cLen (K := K) rfl) (by rfl) T.t_len (by decide +kernel) (pa_cons (pv 3) pa_nil)) pa_nil)))) pa_nil)))
    (pss_cons (ps_expr (pe_bm PySem.F.plainAttrs_list PySem.F.slot_list_append PySem.F.type_list_append mt_append (pv 10) (pa_cons (pe_tup (pa_cons (pe_op (oCatU (K := K) rfl) (pv 3) (pe_tup (pa_cons (pe_tup (pa_cons (pd_tup (K := K) (pd_cons pd_str pd_nil)) (pa_cons (pe_ix (iL (K := K) rfl) (pv 8) pe_int (fun _ _ => rfl)) pa_nil))) pa_nil))) (pa_cons (pv 4) (pa_cons (pe_callB (cLen (K := K) rfl) (by rfl) T.t_len (by decide +kernel) (pa_cons (pv 3) pa_nil)) pa_nil)))) pa_nil)))
    (pss_cons (ps_if (pt_cmpR op_gt (pe_callB (cLen (K := K) rfl) (by rfl) T.t_len (by decide +kernel) (pa_cons (pv 4) pa_nil)) pe_int (nomark _)) (pss_cons (ps_set (i := 10) sc__law_is_no_machine.nd rfl (.inl rfl) (pe_op op_cat (pv 10) (pe_lst (pa_cons (pe_tup (pa_cons (pv 3) (pa_cons (pe_op (oCatU (K := K) rfl) (pv 4) (pe_slice (sU (K := K) rfl) (pv 4) (po_some (pe_un un_neg pe_int)) po_none)) (pa_cons pe_str pa_nil)))) pa_nil))))
      (pss_one (ps_expr (pe_bm PySem.F.plainAttrs_list PySem.F.slot_list_append PySem.F.type_list_append mt_append (pv 10) (pa_cons (pe_tup (pa_cons (pv 3) (pa_cons (pe_op (oCatU (K := K) rfl) (pe_op (oCatU (K := K) rfl) (pe_slice (sU (K := K) rfl) (pv 4) (po_some (pe_un un_neg pe_int)) po_none) (pe_tup (pa_cons (pe_ix (iL (K := K) rfl) (pv 8) pe_int (fun _ _ => rfl)) pa_nil))) (pe_slice (sU (K := K) rfl) (pv 4) po_none (po_some (pe_un un_neg pe_int)))) (pa_cons pe_str pa_nil)))) pa_nil))))) pss_nil)
    (pss_cons (ps_expr (pe_bm PySem.F.plainAttrs_list PySem.F.slot_list_append PySem.F.type_list_append mt_append (pv 10) (pa_cons (pe_tup (pa_cons (pe_op (oCatU (K := K) rfl) (pe_op (oCatU (K := K) rfl) (pe_slice (sU (K := K) rfl) (pv 3) po_none (po_some (pv 5))) (pe_tup (pa_cons (pe_tup (pa_cons (pv 9) (pa_cons pe_int pa_nil))) pa_nil))) (pe_slice (sU (K := K) rfl) (pv 3) (po_some (pe_op op_add (pv 5) pe_int)) po_none)) (pa_cons (pv 4) (pa_cons (pv 5) pa_nil)))) pa_nil)))
    (pss_cons (ps_for PassesOwn.never rfl (wL (K := K) rfl (pv 10)) (pg_tup rfl (pgs_cons (pg_name (i := 11) sc__law_is_no_machine.nd rfl (Or.inl rfl)) (pgs_cons (pg_name (i := 12) sc__law_is_no_machine.nd rfl (Or.inl rfl)) (pgs_cons (pg_name (i := 13) sc__law_is_no_machine.nd rfl (Or.inl rfl)) pgs_nil))))
      (pss_cons (ps_set (i := 14) sc__law_is_no_machine.nd rfl (Or.inr rfl) (pe_call (ok__law_text T) (hr.mono (by decide)) (by rfl) T.m__law_text T.F__law_text.kp T.b__law_text .nil pass0 (pa_cons (pv 11) (pa_cons (pv 12) pa_nil))))
      (pss_one (ps_if (pt_cmpR (oNeD (K := K) rfl hr.units) (pe_told T BT BM Er TB (by rfl) (by rfl) hmT hu hr (LamX.lamS_by (sc := defScope s__law_is_no_machine) (by decide +kernel)) (by rfl) (i := 1) (j := 14) (by rfl) (by rfl) (.inr (.inr rfl)) (.inr (.inr rfl)) (by rfl)) (pe_tup (pa_cons pe_str (pa_cons (pv 13) pa_nil))) (nomark _)) (pss_one (ps_ret pe_bl)) pss_nil))))
    (pss_one (ps_ret pe_bl)))))))))))), ?_⟩
    have gd := drn.good
    obtain ⟨rp, rvs, rfl, srp, irs⟩ := irv.tup_
    have rl := irs.len
    rw [List.length_map] at rl
    have r100 := R.many
    have r2 := R.two
    refine ⟨_, rfl, _, rfl, rp, rvs, rfl, .inr srp, a, c, (rs.length : Int), by show [V.ref a, V.int _] = _; rw [rl], ta, by omega, by omega, fun G1 iv b1 t1 i0 i1 tk htk => ⟨by show 2 ≤ sizeLine; decide, fun tp htp => ⟨tp, _, rfl, .inl (.inl upd_same), rfl, _, _, rfl, _, _, rfl, rfl, ?_⟩⟩⟩
    obtain ⟨ai, rfl⟩ : ∃ n : Nat, iv = (n : Int) := ⟨iv.toNat, by omega⟩
    have hat : ai < rs.length := by omega
    obtain ⟨tka, tkc⟩ := t1.new htk
    generalize hG2 : upd (upd G1 tk _) tp _ = G2
    have s2 : Same G1 G2 := by
      rw [← hG2]
      exact (sn htk).trans (sn htp)
    have etk : G2 tk = some (.dK []) := by
      rw [← hG2]
      exact sn htp _ _ upd_same
    have t2 := t1.mono s2
    have st2 := (st.but ta b1).mono s2
    have esl : es.length ≤ 4 := by
      have h1 := congrArg List.length so.keys
      have h2 := gd.sealed4
      rw [List.length_map, List.length_cons] at h1
      omega
    have ndk : (es.map Prod.fst).Nodup := by
      rw [so.keys]
      exact gd.kindsU
    have tkq : tk ≠ q := fun z => by
      rw [z, ((st.but ta b1)).at_] at htk
      cases htk
    have nq : ∀ e ∈ es, e.2.1 ≠ q := fun e he z => by
      have h1 := st2.each e he
      rw [z, st2.at_] at h1
      cases h1
    have ntk : ∀ e ∈ es, e.2.1 ≠ tk := fun e he z => by
      have h1 := st2.each e he
      rw [z, etk] at h1
      cases h1
    refine ⟨q, .dK es.kvs, st2.at_, True.intro, fun od => ⟨_, rfl, q, od, rfl, .inl ⟨es.kvs, upd_same, for_it (walk_keys (d := q) (o := od) (kvs := es.kvs))
      (fun j σ G => (∃ b7, σ = [some (.ref a), some (.ref dr), some (.ref q), some (.ref rp), some lv, some (.int (ai : Int)), some (.ref tk), b7, none, none, none, none, none, none, none, none, none]) ∧ G q = some (.frz od (.dK es.kvs)) ∧ (∀ b o, b ≠ tk → b ≠ q → G2 b = some o → G b = some o) ∧
        ∃ tkv, G tk = some (.dK tkv) ∧ tkv.length ≤ 2 * j ∧ ∀ n : Int, (valV tkv (Sum.inl n)).isSome = decide (n ∈ Es.nums (es.take j))) ?_ ?_ ?_ ?_⟩⟩⟩
    · exact ⟨⟨_, rfl⟩, upd_same, fun b o _ n e => by rw [upd_ne n]; exact e, [], by rw [upd_ne tkq]; exact etk, Nat.zero_le _, fun n => by rw [List.take_zero]; rfl⟩
    · rintro j σ G _ ⟨_, h, _⟩
      exact h
    · rintro j x σ G G' hj ⟨⟨b7, rfl⟩, eq, kb, tkv, etkv, tkl, inn⟩ ⟨rfl, ky, vl, ekv, rfl⟩
      have ej : ∃ e, es[j]? = some e := by
        cases q : es[j]? with
        | some e => exact ⟨e, rfl⟩
        | none =>
          unfold Es.kvs at ekv
          rw [List.getElem?_map, q] at ekv
          cases ekv
      obtain ⟨e, ej⟩ := ej
      have em := List.mem_of_getElem? ej
      have eky : ky = Sum.inr e.1 := by
        unfold Es.kvs at ekv
        rw [List.getElem?_map, ej] at ekv
        cases ekv
        rfl
      subst eky
      have look : valV es.kvs (Sum.inr e.1) = some (.ref e.2.1) := by
        rw [kvs_look, es_look ndk em]
        rfl
      have eeG : G' e.2.1 = some (.lst (e.2.2.map V.int)) := kb _ _ (ntk e em) (nq e em) (st2.each e em)
      have e2l := (so.some_ e em).2
      refine ⟨_, rfl, .inr (.inr (.inl ⟨rfl, .inl ⟨_, etkv⟩⟩)), _, rfl, _, rfl, q, _, rfl, .inl ⟨_, Sum.inr e.1, .inr ⟨od, eq⟩, rfl, look.symm⟩, e.2.1, rfl, ⟨_, SqL.of eeG⟩, fun D hD => lc_im (K := K) (walk_list (K := K) (a := e.2.1) (xs := e.2.2.map V.int)) hD (e.2.2.map fun n => PyData.tuple [.int n, .bool true]) (by simp) (by rw [List.length_map]; omega) (fun H2 hb => keepL (hb.same hD) (SqL.of eeG)) ?_ ?_⟩
      · rintro i dd y H0 H8 hz hb hne ⟨rfl, hy⟩
        rw [List.getElem?_map] at hz hy
        cases ea : e.2.2[i]? with
        | none => rw [ea] at hy; cases hy
        | some n =>
          rw [ea] at hz hy
          cases hz
          cases hy
          exact ⟨Same.refl _, fun N hN => ⟨rfl, _, rfl, by show 2 ≤ sizeLine; decide, fun p hp => hN _ _ (sn hp) (im_tup (.inl (.inl upd_same)) (ia_cons im_int (ia_cons im_bl ia_nil)))⟩⟩
      · intro H8 ys b8 e8 im8
        have s8 := b8.same hD
        obtain ⟨ps, rfl, pr⟩ := prs_im im8
        refine ⟨D, ps, kvT e.2.2, rfl, SqL.of e8, pr, fun dp hdp => ?_⟩
        have s9 := sn (o := .dK (mergeK [] (kvT e.2.2))) hdp
        have ndp : tk ≠ dp := fun z => by
          rw [← z, s8 _ _ etkv] at hdp
          cases hdp
        have l1 := len_more [] e.2.2
        have l2 : (mergeK [] (kvT e.2.2)).length ≤ 2 := by
          have h1 := length_mergeK (kvT e.2.2) []
          have h3 : (kvT e.2.2).length = e.2.2.length := List.length_map _
          rw [List.length_nil] at h1
          omega
        have jl : j < 4 := by
          have h1 := (List.getElem?_eq_some_iff.mp ej).1
          omega
        refine ⟨tk, dp, tkv, _, rfl, rfl, ndp, s9 _ _ (s8 _ _ etkv), upd_same, by rw [sizeLine_eq]; omega, ?_⟩
        refine ⟨⟨_, rfl⟩, by rw [upd_ne tkq.symm]; exact s9 _ _ (s8 _ _ eq), fun b o n1 n2 eo => by rw [upd_ne n1]; exact s9 _ _ (s8 _ _ (kb b o n1 n2 eo)), _, upd_same, ?_, fun n => ?_⟩
        · have := len_more tkv e.2.2
          omega
        · rw [in_more, inn, nums_take ej]
          by_cases h1 : n ∈ Es.nums (es.take j) <;> by_cases h2 : n ∈ e.2.2 <;> simp [h1, h2]
    · rintro σ G ⟨⟨b7, rfl⟩, eq, kb, tkv, etkv, tkl, inn⟩
      refine ⟨eq, ?_⟩
      have esl2 : es.kvs.length = es.length := List.length_map _
      rw [esl2, List.take_length] at inn
      rw [esl2] at tkl
      generalize hG3 : upd G q _ = G3
      have etk3 : G3 tk = some (.dK tkv) := by
        rw [← hG3, upd_ne tkq]
        exact etkv
      have k3 : ∀ b o, b ≠ tk → G2 b = some o → G3 b = some o := fun b o n e => by
        rw [← hG3]
        by_cases z : b = q
        · rw [z, st2.at_] at e
          rw [z, upd_same]
          exact e
        · rw [upd_ne z]
          exact kb b o n z e
      have t3 : TapeAt G3 a c := t2.keep (k3 a · tka.symm) (k3 c · tkc.symm)
      have x3 : ∀ b o, G1 b = some o → G3 b = some o := fun b o e => k3 b o (ne_of_none e htk) (s2 _ _ e)
      clear hG3 kb eq
      have small : ∀ n ∈ es.nums, 0 ≤ n ∧ n ≤ 7 := so.small
      refine ⟨60, rfl, by decide, by decide, fun D hD => lc_it (walk_range (lo := 0) (n := 60)) (fun i X => But D G3 X ∧ ∃ fs : List Int, X D = some (.lst (fs.map V.int)) ∧ fs.length ≤ i ∧ i ≤ fs.length + 8 ∧ ∀ f ∈ fs, inS f = true ∧ f ∉ es.nums) ?_ ?_ ?_ ?_⟩
      · exact ⟨But.put, [], upd_same, Nat.le_refl _, by simp, fun f hf => nomatch hf⟩
      · rintro i X _ _
        trivial
      · rintro i y X X' hi ⟨bX, fs, efs, fl1, fl2, ffs⟩ ⟨rfl, rfl⟩
        have etX : X' tk = some (.dK tkv) := bX _ _ (ne_of_none etk3 hD) etk3
        refine ⟨rfl, _, rfl, _, rfl, tk, _, rfl, .inl ⟨tkv, Sum.inl _, .inl etX, rfl, rfl⟩, _, rfl, ?_⟩
        by_cases hm : ((0 : Int) + (i : Int)) ∈ es.nums
        · rw [show (!(valV tkv (Sum.inl ((0 : Int) + (i : Int)))).isSome) = false by rw [inn, decide_eq_true hm]; rfl]
          have := small _ hm
          exact iteF ⟨bX, fs, efs, by omega, by omega, ffs⟩
        · rw [show (!(valV tkv (Sum.inl ((0 : Int) + (i : Int)))).isSome) = true by rw [inn, decide_eq_false hm]; rfl]
          refine iteT ⟨_, rfl, _, efs, by rw [List.length_map, sizeLine_eq]; omega, bX.trans But.put, fs ++ [(0 : Int) + (i : Int)], ?_, by rw [List.length_append, List.length_singleton]; omega, by rw [List.length_append, List.length_singleton]; omega, fun f hf => ?_⟩
          · rw [upd_same, List.map_append]
            rfl
          · rcases List.mem_append.mp hf with hf | hf
            · exact ffs f hf
            · rw [List.mem_singleton.mp hf]
              refine ⟨?_, hm⟩
              unfold inS
              simp only [Bool.and_eq_true, decide_eq_true_eq]
              omega
      rintro X ⟨bX, fs, efs, fl1, fl2, ffs⟩
      obtain ⟨f0, f1, f2, f3, fr, rfl⟩ : ∃ f0 f1 f2 f3 fr, fs = f0 :: f1 :: f2 :: f3 :: fr := by
        match fs, fl2 with
        | f0 :: f1 :: f2 :: f3 :: fr, _ => exact ⟨f0, f1, f2, f3, fr, rfl⟩
      have ff0 := ffs f0 (by simp)
      have ff1 := ffs f1 (by simp)
      have ff2 := ffs f2 (by simp)
      have ff3 := ffs f3 (by simp)
      have sX : ∀ b o, G1 b = some o → X b = some o := fun b o e => (bX.same hD) _ _ (x3 _ _ e)
      have tX := t1.mono sX
      have kHX : Keep H X := (b1.keep ta.notup).trans (sk sX)
      have irX := ImAll.mono kHX _ _ irs
      have srX := kHX.sq srp
      have ilX := Im.mono kHX _ _ ilv
      obtain ⟨r, er⟩ : ∃ r, rs[ai]? = some r := ⟨_, List.getElem?_eq_getElem hat⟩
      have hr0 : r ∈ rs := List.mem_of_getElem? er
      have ro := R.each r hr0
      obtain ⟨vr, evr, ivr⟩ := irX.get (i := ai) (d := r.d) (by rw [List.getElem?_map, er]; rfl)
      obtain ⟨pr, xs, rfl, spr, ix⟩ := ivr.tup_
      obtain ⟨kv, xs, rfl, ikv, ix⟩ := ix.cons_
      obtain ⟨gv, xs, rfl, igv, ix⟩ := ix.cons_
      rw [ix.nil_, igv.int_] at spr
      clear etk3 k3 t3 x3 inn etkv
      refine ⟨_, rfl, _, rfl, rp, _, (ai : Int), _, rfl, rfl, srX, atI_nat evr, pr, _, 0, kv, rfl, rfl, spr, at0, ?_⟩
      obtain ⟨lp, lvs, rfl, slp, il1⟩ := ilX.tup_
      obtain ⟨w1, xs, rfl, j1, il1⟩ := il1.cons_
      rw [il1.nil_, j1.int_] at slp
      obtain ⟨pk, xs, rfl, spk, ipk⟩ := ikv.tup_
      obtain ⟨nv, xs, rfl, inv, ipk⟩ := ipk.cons_
      rw [inv.str_, im_intsOf ipk] at spk
      have RK := rules_ok gd so R
      have fitR : ∀ x ∈ rs, x.fit := fun x hx => rule_fit gd so (R.each x hx)
      have fitr := fitR r hr0
      have mS := small m (states_small so R m mst)
      have inm : inT m := ⟨mS.1, by omega⟩
      have irX' : Im K X (.tuple (rs.map Rl.d)) (.ref rp) := im_tup srX irX
      -- the first: a rule again
      refine ⟨_, rfl, _, rfl, _, rfl, rp, _, (ai : Int), _, rfl, rfl, srX, atI_nat evr, by show 1 ≤ sizeLine; decide, fun t1' ht1' => ⟨rp, t1', _, _, rfl, rfl, keepT (sn ht1') srX, .inl (.inl upd_same), by rw [rl, sizeLine_eq]; show _ + 1 ≤ _; omega, fun u1 Y1 s1 squ1 => ⟨_, rfl, _, rfl, rp, _, rfl, .inr (keepT ((sn ht1').trans s1) srX), by show 3 ≤ sizeLine; decide, fun t2' ht2' => ?_⟩⟩⟩
      generalize hZ1 : upd Y1 t2' _ = Z1
      have z1 : Same X Z1 := by
        rw [← hZ1]
        exact ((sn ht1').trans s1).trans (sn ht2')
      have c1 : Comes d (kdOf es) (rs ++ [r]) [m] (some (.int (rs.length : Nat))) := by
        have := comes_at (last := [m]) RK (Nat.le_refl _) (x := r) [] (by rw [List.take_length]; exact bad_again gd ro hr0)
        rw [List.take_length, List.append_nil] at this
        exact this
      have p1 : PrbAt K d Z1 (.ref t2') := by
        refine prb_mk (va := .ref u1) (vb := .ref lp) (rs := rs ++ [r]) (last := [m]) (by rw [← hZ1]; exact .inl (.inl (by rw [upd_same, rl]))) ?_ ?_ (.int (rs.length : Nat)) (fun x hx => ?_) (fun x hx => by rw [List.mem_singleton.mp hx]; exact inm) (by rw [List.length_append, List.length_singleton]; omega) (by show 1 ≤ 20; decide) c1
        · rw [List.map_append]
          refine im_tup (xs := rvs ++ [.ref pr]) ?_ (ImAll.app (ImAll.mono (sk z1) _ _ irX) (ia_cons (Im.mono (sk z1) _ _ ivr) ia_nil))
          rw [← hZ1]
          exact keepT (sn ht2') squ1
        · exact Im.mono (sk z1) _ _ ilX
        · rcases List.mem_append.mp hx with hx | hx
          · exact fitR x hx
          · rw [List.mem_singleton.mp hx]
            exact fitr
      clear hZ1
      -- the second: a last state that is none
      have eD1 := z1 _ _ efs
      refine ⟨_, rfl, _, rfl, D, _, 0, _, rfl, rfl, SqL.of eD1, at0, by show 1 ≤ sizeLine; decide, fun t3' ht3' => ⟨by show 3 ≤ sizeLine; decide, fun t4' ht4' => ?_⟩⟩
      generalize hZ2 : upd (upd Z1 t3' _) t4' _ = Z2
      have z2 : Same Z1 Z2 := by
        rw [← hZ2]
        exact (sn ht3').trans (sn ht4')
      have noL : ∀ {l : List Int}, f0 ∈ l → ¬ LastOk rs l := fun h z => ff0.2 (states_small so R _ (z.2.2 _ h))
      have p2 : PrbAt K d Z2 (.ref t4') := by
        refine prb_mk (va := .ref rp) (vb := .ref t3') (rs := rs) (last := [f0]) (by rw [← hZ2]; exact .inl (.inl upd_same)) (Im.mono (sk (z1.trans z2)) _ _ irX') ?_ (.str "last" last_ok) fitR (fun x hx => by rw [List.mem_singleton.mp hx]; exact inT_inS ff0.1) (by omega) (by show 1 ≤ 20; decide) (.last RK (noL (by simp)))
        refine im_tup (xs := [.int f0]) ?_ (ia_cons im_int ia_nil)
        rw [← hZ2]
        exact .inl (.inl (sn ht4' _ _ upd_same))
      clear hZ2
      refine ⟨by show 2 ≤ sizeLine; decide, fun L hL => ?_⟩
      generalize hZ3 : upd Z2 L _ = Z3
      have z3 : Same Z2 Z3 := by
        rw [← hZ3]
        exact sn hL
      have eL3 : Z3 L = some (.lst [.ref t2', .ref t4']) := by
        rw [← hZ3]
        exact upd_same
      clear hZ3
      have zX3 : Same X Z3 := (z1.trans z2).trans z3
      replace p1 := p1.mono (sk (z2.trans z3))
      replace p2 := p2.mono (sk z3)
      -- the third: a rule of four states
      have nL : X L = none := by
        cases q : X L with
        | none => rfl
        | some o => rw [(z1.trans z2) _ _ q] at hL; cases hL
      have sr3 := keepT zX3 srX
      have sl3 := keepT zX3 slp
      have sk3 := keepT zX3 spk
      have eD3 := zX3 _ _ efs
      refine ⟨_, rfl, .inl ⟨rfl, _, SqL.of eL3⟩, _, rfl, _, rfl, pk, _, 0, _, rfl, rfl, sk3, at0, _, rfl, D, _, 0, _, rfl, rfl, SqL.of eD3, at0, _, rfl, D, _, 1, _, rfl, rfl, SqL.of eD3, at1, _, rfl, D, _, 2, _, rfl, rfl, SqL.of eD3, at2, _, rfl, D, _, 3, _, rfl, rfl, SqL.of eD3, atI_nat (j := 3) rfl, by show 5 ≤ sizeLine; decide, fun ta' hta' => ?_⟩
      refine ⟨by show 2 ≤ sizeLine; decide, fun tb' htb' => ⟨by show 1 ≤ sizeLine; decide, fun tc' htc' => ?_⟩⟩
      refine ⟨rp, tc', _, _, rfl, rfl, keepT (((sn hta').trans (sn htb')).trans (sn htc')) sr3, .inl (.inl upd_same), by rw [rl, sizeLine_eq]; show _ + 1 ≤ _; omega, fun u3 Y3 s3 squ3 => ⟨_, rfl, _, rfl, rp, _, rfl, .inr (keepT ((((sn hta').trans (sn htb')).trans (sn htc')).trans s3) sr3), by show 3 ≤ sizeLine; decide, fun td' htd' => ?_⟩⟩
      have iK : Im K Y3 (.tuple (.str r.name :: [f0, f1, f2, f3].map PyData.int)) (.ref ta') := im_tup (keepT s3 (.inl (.inl (sn htc' _ _ (sn htb' _ _ upd_same))))) (ia_cons im_str (ia_intsOf [f0, f1, f2, f3]))
      have iR3 : Im K Y3 (Rl.d ⟨r.name, [f0, f1, f2, f3], 1⟩) (.ref tb') := im_tup (keepT s3 (.inl (.inl (sn htc' _ _ upd_same)))) (ia_cons iK (ia_cons im_int ia_nil))
      have zY3 : Same Z3 Y3 := (((sn hta').trans (sn htb')).trans (sn htc')).trans s3
      clear iK
      generalize hZ4 : upd Y3 td' _ = Z4
      have z4 : Same Y3 Z4 := by
        rw [← hZ4]
        exact sn htd'
      have c3 := comes_at (last := [m]) RK (Nat.le_refl _) (x := ⟨r.name, [f0, f1, f2, f3], 1⟩) [] (.long (by show 3 < 4; decide))
      rw [List.take_length, List.append_nil] at c3
      have p3 : PrbAt K d Z4 (.ref td') := by
        refine prb_mk (va := .ref u3) (vb := .ref lp) (rs := rs ++ [⟨r.name, [f0, f1, f2, f3], 1⟩]) (last := [m]) (by rw [← hZ4]; exact .inl (.inl (by rw [upd_same, rl]))) ?_ (Im.mono (sk ((zX3.trans zY3).trans z4)) _ _ ilX) (.int (rs.length : Nat)) (fun x hx => ?_) (fun x hx => by rw [List.mem_singleton.mp hx]; exact inm) (by rw [List.length_append, List.length_singleton]; omega) (by show 1 ≤ 20; decide) c3
        · rw [List.map_append]
          exact im_tup (xs := rvs ++ [.ref tb']) (keepT z4 squ3) (ImAll.app (ImAll.mono (sk ((zX3.trans zY3).trans z4)) _ _ irX) (ia_cons (Im.mono (sk z4) _ _ iR3) ia_nil))
        · rcases List.mem_append.mp hx with hx | hx
          · exact fitR x hx
          · rw [List.mem_singleton.mp hx]
            refine ⟨fitr.name, by show 4 ≤ 4; decide, fun y hy => ?_, ⟨show (0 : Int) ≤ 1 by decide, show (1 : Int) ≤ 99 by decide⟩⟩
            simp only [List.mem_cons, List.not_mem_nil, or_false] at hy
            rcases hy with rfl | rfl | rfl | rfl
            · exact inT_inS ff0.1
            · exact inT_inS ff1.1
            · exact inT_inS ff2.1
            · exact inT_inS ff3.1
      clear hZ4 iR3 c3
      have eL4 := (zY3.trans z4) _ _ eL3
      refine ⟨L, _, _, rfl, rfl, eL4, by show 2 < sizeLine; decide, ?_⟩
      replace p1 := p1.mono (sk (zY3.trans z4))
      replace p2 := p2.mono (sk (zY3.trans z4))
      generalize hZ5 : upd Z4 L _ = Z5
      have k5 : Keep Z4 Z5 := by
        rw [← hZ5]
        exact Keep.upd (notup_lst eL4)
      have zX5 : Same X Z5 := by
        refine But.same (D := L) (fun b o n e => ?_) nL
        rw [← hZ5, upd_ne n]
        exact ((zX3.trans zY3).trans z4) _ _ e
      have eL5 : Z5 L = some (.lst [.ref t2', .ref t4', .ref td']) := by
        rw [← hZ5]
        exact upd_same
      replace p1 := p1.mono k5
      replace p2 := p2.mono k5
      replace p3 := p3.mono k5
      clear hZ5 zY3 squ3 s3 eL4 k5 z4

      -- the fourth: a name that is none
      replace sr3 := keepT zX5 srX
      replace sl3 := keepT zX5 slp
      replace eD3 := zX5 _ _ efs
      refine ⟨_, rfl, .inl ⟨rfl, _, SqL.of eL5⟩, _, rfl, fun Ga va sa iva => ⟨_, rfl, D, _, 0, _, rfl, rfl, SqL.of (sa _ _ eD3), at0, by show 2 ≤ sizeLine; decide, fun tb' htb' => ⟨by show 1 ≤ sizeLine; decide, fun tc' htc' => ?_⟩⟩⟩
      refine ⟨rp, tc', _, _, rfl, rfl, keepT ((sa.trans (sn htb')).trans (sn htc')) sr3, .inl (.inl upd_same), by rw [rl, sizeLine_eq]; show _ + 1 ≤ _; omega, fun u3 Y3 s3 squ3 => ⟨_, rfl, _, rfl, rp, _, rfl, .inr (keepT (((sa.trans (sn htb')).trans (sn htc')).trans s3) sr3), by show 3 ≤ sizeLine; decide, fun td4 htd' => ?_⟩⟩
      have iR3 : Im K Y3 (Rl.d ⟨"nobody", [], f0⟩) (.ref tb') := im_tup (keepT s3 (.inl (.inl (sn htc' _ _ upd_same)))) (ia_cons (Im.mono (sk (((sn htb').trans (sn htc')).trans s3)) _ _ iva) (ia_cons im_int ia_nil))
      have zY3 : Same Z5 Y3 := ((sa.trans (sn htb')).trans (sn htc')).trans s3
      generalize hZ4 : upd Y3 td4 _ = Z4
      have z4 : Same Y3 Z4 := by
        rw [← hZ4]
        exact sn htd'
      have c3 := comes_at (last := [m]) RK (Nat.le_refl _) (x := ⟨"nobody", [], f0⟩) [] (bad_name drn f0)
      rw [List.take_length, List.append_nil] at c3
      have p4 : PrbAt K d Z4 (.ref td4) := by
        refine prb_mk (va := .ref u3) (vb := .ref lp) (rs := rs ++ [⟨"nobody", [], f0⟩]) (last := [m]) (by rw [← hZ4]; exact .inl (.inl (by rw [upd_same, rl]))) ?_ (Im.mono (sk ((zX5.trans zY3).trans z4)) _ _ ilX) (.int (rs.length : Nat)) (fun x hx => ?_) (fun x hx => by rw [List.mem_singleton.mp hx]; exact inm) (by rw [List.length_append, List.length_singleton]; omega) (by show 1 ≤ 20; decide) c3
        · rw [List.map_append]
          exact im_tup (xs := rvs ++ [.ref tb']) (keepT z4 squ3) (ImAll.app (ImAll.mono (sk ((zX5.trans zY3).trans z4)) _ _ irX) (ia_cons (Im.mono (sk z4) _ _ iR3) ia_nil))
        · rcases List.mem_append.mp hx with hx | hx
          · exact fitR x hx
          · rw [List.mem_singleton.mp hx]
            exact ⟨show nameB "nobody" = true by decide +kernel, by show 0 ≤ 4; decide, fun y hy => (nomatch hy), inT_inS ff0.1⟩
      clear hZ4 iR3 c3
      have eL4 := (zY3.trans z4) _ _ eL5
      refine ⟨L, _, _, rfl, rfl, eL4, by show 3 < sizeLine; decide, ?_⟩
      replace p1 := p1.mono (sk (zY3.trans z4))
      replace p2 := p2.mono (sk (zY3.trans z4))
      replace p3 := p3.mono (sk (zY3.trans z4))
      generalize hZ6 : upd Z4 L _ = Z6
      have k6 : Keep Z4 Z6 := by
        rw [← hZ6]
        exact Keep.upd (notup_lst eL4)
      have zX6 : Same X Z6 := by
        refine But.same (D := L) (fun b o n e => ?_) nL
        rw [← hZ6, upd_ne n]
        exact ((zX5.trans zY3).trans z4) _ _ e
      have eL6 : Z6 L = some (.lst [.ref t2', .ref t4', .ref td', .ref td4]) := by
        rw [← hZ6]
        exact upd_same
      replace p1 := p1.mono k6
      replace p2 := p2.mono k6
      replace p3 := p3.mono k6
      replace p4 := p4.mono k6
      clear hZ6 zY3 squ3 s3 eL4 k6 z4 iva
      -- the fifth and sixth: last states that are none
      replace sr3 := keepT zX6 srX
      replace sl3 := keepT zX6 slp
      replace eD3 := zX6 _ _ efs
      have cutA : cutV [V.int m] (some (-1)) none = [V.int m] := rfl
      have cutB : cutV [V.int m] none (some (-1)) = [] := rfl
      refine ⟨_, rfl, lp, _, rfl, .inr sl3, _, _, rfl, rfl, _, rfl, itt (by show decide ((0 : Int) < 1) = true; decide) ?_⟩
      refine ⟨_, rfl, _, rfl, _, rfl, _, rfl, 1, rfl, _, rfl, lp, _, rfl, sl3, fun w1' Y1 y1 sw1 => ?_⟩
      rw [cutA] at sw1
      refine ⟨lp, w1', _, _, rfl, rfl, keepT y1 sl3, sw1, by show 1 + 1 ≤ sizeLine; decide, fun w2' Y2 y2 sw2 => ⟨by show 3 ≤ sizeLine; decide, fun te' hte' => ⟨by show 1 ≤ sizeLine; decide, fun lq hlq => ?_⟩⟩⟩
      generalize hZ7 : upd Y2 te' _ = Z7 at hlq ⊢
      have z7 : Same Y2 Z7 := by
        rw [← hZ7]
        exact sn hte'
      have noM : ∀ {l : List Int}, ¬ l.Pairwise (· < ·) → ¬ LastOk rs l := fun h z => h z.2.1
      have p5 : PrbAt K d Z7 (.ref te') := by
        refine prb_mk (va := .ref rp) (vb := .ref w2') (rs := rs) (last := [m, m]) (by rw [← hZ7]; exact .inl (.inl upd_same)) (Im.mono (sk (((zX6.trans y1).trans y2).trans z7)) _ _ irX') (im_tup (xs := [.int m, .int m]) (keepT z7 sw2) (ia_intsOf [m, m])) (.str "last" last_ok) fitR (fun x hx => ?_) (by omega) (by show 2 ≤ 20; decide) (.last RK (noM fun z => ?_))
        · simp only [List.mem_cons, List.not_mem_nil, or_false] at hx
          rcases hx with rfl | rfl <;> exact inm
        · have := (List.pairwise_cons.mp z).1 m (by simp)
          omega
      clear hZ7
      have z67 : Same Z6 Z7 := (y1.trans y2).trans z7
      generalize hZ8 : upd Z7 lq _ = Z8
      have z8 : Same Z7 Z8 := by
        rw [← hZ8]
        exact sn hlq
      have elq : Z8 lq = some (.lst [.ref te']) := by
        rw [← hZ8]
        exact upd_same
      clear hZ8
      refine ⟨L, lq, _, _, rfl, rfl, (z67.trans z8) _ _ eL6, elq, by show 4 + 1 ≤ sizeLine; decide, fun M hM => ?_⟩
      generalize hZ9 : upd Z8 M _ = Z9
      have z9 : Same Z8 Z9 := by
        rw [← hZ9]
        exact sn hM
      have eM9 : Z9 M = some (.lst [.ref t2', .ref t4', .ref td', .ref td4, .ref te']) := by
        rw [← hZ9]
        exact upd_same
      clear hZ9
      have zX9 : Same X Z9 := ((zX6.trans z67).trans z8).trans z9
      have nM : X M = none := by
        cases q : X M with
        | none => rfl
        | some o => rw [((zX6.trans z67).trans z8) _ _ q] at hM; cases hM
      replace p1 := p1.mono (sk ((z67.trans z8).trans z9))
      replace p2 := p2.mono (sk ((z67.trans z8).trans z9))
      replace p3 := p3.mono (sk ((z67.trans z8).trans z9))
      replace p4 := p4.mono (sk ((z67.trans z8).trans z9))
      replace p5 := p5.mono (sk (z8.trans z9))
      replace sr3 := keepT zX9 srX
      replace sl3 := keepT zX9 slp
      replace eD3 := zX9 _ _ efs
      refine ⟨_, rfl, .inl ⟨rfl, _, SqL.of eM9⟩, _, rfl, _, rfl, 1, rfl, _, rfl, lp, _, rfl, sl3, fun wa Ya ya swa => ⟨_, rfl, D, _, 0, _, rfl, rfl, SqL.of (ya _ _ eD3), at0, by show 1 ≤ sizeLine; decide, fun wb hwb => ?_⟩⟩
      rw [cutA] at swa
      refine ⟨wa, wb, _, _, rfl, rfl, keepT (sn hwb) swa, .inl (.inl upd_same), by show 1 + 1 ≤ sizeLine; decide, fun wc Yc yc swc => ⟨_, rfl, 1, rfl, _, rfl, lp, _, rfl, keepT ((ya.trans (sn hwb)).trans yc) sl3, fun wd Yd yd swd => ?_⟩⟩
      rw [cutB] at swd
      refine ⟨wc, wd, _, _, rfl, rfl, keepT yd swc, swd, by show 2 + 0 ≤ sizeLine; decide, fun we Ye ye swe => ⟨by show 3 ≤ sizeLine; decide, fun tf htf => ?_⟩⟩
      generalize hZa : upd Ye tf _ = Za
      have za : Same Ye Za := by
        rw [← hZa]
        exact sn htf
      have z9e : Same Z9 Ye := (((ya.trans (sn hwb)).trans yc).trans yd).trans ye
      have p6 : PrbAt K d Za (.ref tf) := by
        refine prb_mk (va := .ref rp) (vb := .ref we) (rs := rs) (last := [m, f0]) (by rw [← hZa]; exact .inl (.inl upd_same)) (Im.mono (sk ((zX9.trans z9e).trans za)) _ _ irX') (im_tup (xs := [.int m, .int f0]) (keepT za swe) (ia_intsOf [m, f0])) (.str "last" last_ok) fitR (fun x hx => ?_) (by omega) (by show 2 ≤ 20; decide) (.last RK (noL (by simp)))
        simp only [List.mem_cons, List.not_mem_nil, or_false] at hx
        rcases hx with rfl | rfl
        · exact inm
        · exact inT_inS ff0.1
      clear hZa
      have z9a := z9e.trans za
      have eMa := z9a _ _ eM9
      refine ⟨M, _, _, rfl, rfl, eMa, by show 5 < sizeLine; decide, ?_⟩
      generalize hZb : upd Za M _ = Zb
      have kb' : Keep Za Zb := by
        rw [← hZb]
        exact Keep.upd (notup_lst eMa)
      have zXb : Same X Zb := by
        refine But.same (D := M) (fun b o n e => ?_) nM
        rw [← hZb, upd_ne n]
        exact (zX9.trans z9a) _ _ e
      have eMb : Zb M = some (.lst [.ref t2', .ref t4', .ref td', .ref td4, .ref te', .ref tf]) := by
        rw [← hZb]
        exact upd_same
      clear hZb
      have k9b := (sk z9a).trans kb'
      replace p1 := p1.mono k9b
      replace p2 := p2.mono k9b
      replace p3 := p3.mono k9b
      replace p4 := p4.mono k9b
      replace p5 := p5.mono k9b
      replace p6 := p6.mono kb'
      -- the seventh: a rule whose state is none
      replace sr3 := keepT zXb srX
      replace sl3 := keepT zXb slp
      refine ⟨_, rfl, .inl ⟨rfl, _, SqL.of eMb⟩, _, rfl, _, rfl, _, rfl, rp, _, rfl, sr3, fun va Va xa sva => ⟨_, rfl, by show 2 ≤ sizeLine; decide, fun vb hvb => ⟨by show 1 ≤ sizeLine; decide, fun vc hvc => ?_⟩⟩⟩
      rw [cut_to] at sva
      have tkl' : (rvs.take ai).length ≤ 100 := by
        rw [List.length_take]
        omega
      have dpl : (rvs.drop (ai + 1)).length ≤ 100 := by
        rw [List.length_drop]
        omega
      refine ⟨va, vc, _, _, rfl, rfl, keepT ((sn hvb).trans (sn hvc)) sva, .inl (.inl upd_same), by rw [sizeLine_eq]; show _ + 1 ≤ _; omega, fun vd Vd xd svd => ⟨_, rfl, _, rfl, _, _, rfl, rfl, _, rfl, rp, _, rfl, keepT (((xa.trans (sn hvb)).trans (sn hvc)).trans xd) sr3, fun ve Ve xe sve => ?_⟩⟩
      replace sve : SqT K Ve ve (rvs.drop (ai + 1)) := by
        have h := sve
        rw [show ((ai : Int) + 1) = ((ai + 1 : Nat) : Int) from rfl, cut_from] at h
        exact h
      have iRb : Im K Ve (Rl.d ⟨r.name, r.args, 60⟩) (.ref vb) := im_tup (keepT (xd.trans xe) (.inl (.inl (sn hvc _ _ upd_same)))) (ia_cons (Im.mono (sk ((zXb.trans xa).trans (((sn hvb).trans (sn hvc)).trans (xd.trans xe)))) _ _ ikv) (ia_cons im_int ia_nil))
      refine ⟨vd, ve, _, _, rfl, rfl, keepT xe svd, sve, by rw [sizeLine_eq, List.length_append]; show _ + 1 + _ ≤ _; omega, fun vf Vf xf svf => ⟨_, rfl, _, rfl, by show 3 ≤ sizeLine; decide, fun vg hvg => ?_⟩⟩
      have zbf : Same Zb Vf := (((xa.trans (sn hvb)).trans (sn hvc)).trans (xd.trans xe)).trans xf
      generalize hZc : upd Vf vg _ = Zc
      have zc : Same Vf Zc := by
        rw [← hZc]
        exact sn hvg
      have c7 := comes_at (last := [m]) RK (n := ai) (by omega) (x := ⟨r.name, r.args, 60⟩) (rs.drop (ai + 1)) (bad_goal gd ro (by decide))
      have p7 : PrbAt K d Zc (.ref vg) := by
        refine prb_mk (va := .ref vf) (vb := .ref lp) (rs := rs.take ai ++ [⟨r.name, r.args, 60⟩] ++ rs.drop (ai + 1)) (last := [m]) (by rw [← hZc]; exact .inl (.inl upd_same)) ?_ (Im.mono (sk ((zXb.trans zbf).trans zc)) _ _ ilX) (.int (ai : Nat)) (fun x hx => ?_) (fun x hx => by rw [List.mem_singleton.mp hx]; exact inm) ?_ (by show 1 ≤ 20; decide) c7
        · rw [List.map_append, List.map_append, List.map_take, List.map_drop]
          have im7 := ImAll.mono (sk ((zXb.trans zbf).trans zc)) _ _ irX
          exact im_tup (xs := rvs.take ai ++ [.ref vb] ++ rvs.drop (ai + 1)) (keepT zc svf) (ImAll.app (ImAll.app (im7.take ai) (ia_cons (Im.mono (sk (xf.trans zc)) _ _ iRb) ia_nil)) (im7.drop (ai + 1)))
        · rcases List.mem_append.mp hx with hx | hx
          · rcases List.mem_append.mp hx with hx | hx
            · exact fitR x (List.mem_of_mem_take hx)
            · rw [List.mem_singleton.mp hx]
              exact ⟨fitr.name, fitr.few, fitr.args, ⟨show (0 : Int) ≤ 60 by decide, show (60 : Int) ≤ 99 by decide⟩⟩
          · exact fitR x (List.mem_of_mem_drop hx)
        · rw [List.length_append, List.length_append, List.length_take, List.length_drop, List.length_singleton]
          omega
      clear hZc
      have zbc := zbf.trans zc
      have eMc := zbc _ _ eMb
      refine ⟨M, _, _, rfl, rfl, eMc, by show 6 < sizeLine; decide, ?_⟩
      generalize hZd : upd Zc M _ = Z
      have kd' : Keep Zc Z := by
        rw [← hZd]
        exact Keep.upd (notup_lst eMc)
      have zX : Same X Z := by
        refine But.same (D := M) (fun b o n e => ?_) nM
        rw [← hZd, upd_ne n]
        exact (zXb.trans zbc) _ _ e
      have eM : Z M = some (.lst [.ref t2', .ref t4', .ref td', .ref td4, .ref te', .ref tf, .ref vg]) := by
        rw [← hZd]
        exact upd_same
      clear hZd
      have kbd := (sk zbc).trans kd'
      have all : ∀ v ∈ [V.ref t2', .ref t4', .ref td', .ref td4, .ref te', .ref tf, .ref vg], PrbAt K d Z v := fun v hv => by
        simp only [List.mem_cons, List.not_mem_nil, or_false] at hv
        rcases hv with rfl | rfl | rfl | rfl | rfl | rfl | rfl
        · exact p1.mono kbd
        · exact p2.mono kbd
        · exact p3.mono kbd
        · exact p4.mono kbd
        · exact p5.mono kbd
        · exact p6.mono kbd
        · exact p7.mono kd'
      have sXZ : Same G1 Z := fun b o e => zX _ _ (sX b o e)
      have bZ : But a H Z := b1.trans (.of sXZ)
      have tZ : TapeAt Z a c := t1.mono sXZ
      have tbZ := tabs_but tb ta bZ
      have datZ : ∀ G, LamX.ExtN Z G → DoorAt K T.C_Shape T.C_Door G dr d := fun G x => dat.stay ta (bZ.t.ext x)
      clear p1 p2 p3 p4 p5 p6 p7 kbd kd' k9b
      refine ⟨_, rfl, M, rfl, ⟨_, SqL.of eM⟩, for_it (walk_list (K := K) (a := M) (xs := [V.ref t2', .ref t4', .ref td', .ref td4, .ref te', .ref tf, .ref vg]))
        (fun j σ G => (∃ c11 c12 c13 c14, σ = [some (.ref a), some (.ref dr), some (.ref q), some (.ref rp), some (.ref lp), some (.int (ai : Int)), some (.ref tk), b7, some (.ref D), some (.ref pk), some (.ref M), c11, c12, c13, c14, none, none]) ∧ LamX.ExtN Z G ∧ LamX.Tabs (Tb P1 P2) G)
        ⟨⟨_, _, _, _, rfl⟩, LamX.ExtN.refl _, tbZ⟩ (fun j σ G _ z => SqL.of (z.2.1 _ _ eM (fun _ z => by cases z))) ?_ ?_⟩
      · rintro j v σ W W' hj ⟨⟨c11, c12, c13, c14, rfl⟩, xW, tW⟩ ⟨rfl, hy⟩
        obtain ⟨rs', last', dp, vp, iv, fl, hf, hl, lm, ll, rd⟩ := (all v (List.mem_of_getElem? hy)).mono ((ext_t xW).keep tZ)
        obtain ⟨pp, xs, rfl, sp, ix⟩ := iv.tup_
        obtain ⟨w0, xs, rfl, i0', ix⟩ := ix.cons_
        obtain ⟨w1', xs, rfl, i1', ix⟩ := ix.cons_
        obtain ⟨w2', xs, rfl, i2', ix⟩ := ix.cons_
        rw [ix.nil_] at sp
        refine ⟨pp, _, rfl, sp, rfl, _, _, rfl, _, _, rfl, _, _, rfl, rfl, ?_⟩
        refine ⟨_, rfl, _, rfl, w0, w1', rs', last', rfl, i0', i1', hf, by omega, by omega, hl, fun G sG => ?_⟩
        have tG : LamX.Tabs (Tb P1 P2) G := tW.ext sG
        have xG : LamX.ExtN Z G := xW.trans (LamX.ExtN.of sG)
        refine ⟨tG, dr, .str (machT rs' last'), d, .mach vp, _, rfl, rfl, fun G2 x => datZ G2 (xG.trans x), .inr ⟨_, rfl, mach_len hf hl lm ll, rd⟩, rfl, fun G2 p x t2 q2 => ?_⟩
        have ew : w2' = vp := by
          cases fl with
          | int => exact i2'.int_
          | str => exact i2'.str_
        subst ew
        refine ⟨_, rfl, by show 2 ≤ sizeLine; decide, fun p2 hp2 => ?_⟩
        refine ⟨dueD "machine" dp, dueD "machine" dp, Im.dp _ _ (due_im fl (keepT (sn hp2) q2)), Im.dp _ _ (due_im fl (.inl (.inl upd_same))), due_sh machine_ok fl, due_sh machine_ok fl, ?_⟩
        rw [due_eq machine_ok fl]
        exact ⟨_, rfl, itf rfl ⟨⟨_, _, _, _, rfl⟩, (xG.trans x).trans (LamX.ExtN.of (sn hp2)), t2.ext (sn hp2)⟩⟩
      rintro σ W ⟨⟨c11, c12, c13, c14, rfl⟩, xW, tW⟩
      exact k _ (bZ.t.ext xW) (tZ.extT xW) tW
end
end T82
/-! ### the plain law of the machine known by hand -/
namespace T82
open PySem L2
def dC : Dor := ⟨["cell"], [⟨"set", ["bit"], "cell"⟩, ⟨"get", ["cell"], "bit"⟩], false⟩
def rC : List Rl := [⟨"no", [], 4⟩, ⟨"yes", [], 5⟩, ⟨"set", [4], 0⟩, ⟨"set", [5], 1⟩, ⟨"get", [0], 4⟩, ⟨"get", [1], 5⟩]
def lC : List Int := [1, 5]
def kC (i : Int) : Str := if i ≤ 1 then "cell" else "bit"
theorem dC_good : dC.good where
  sealed1 := by decide
  sealed4 := by decide
  sealedN := fun z hz => by
    rw [List.mem_singleton.mp hz]
    exact ⟨by decide +kernel, by decide +kernel⟩
  kindsU := by decide +kernel
  heads1 := by decide
  heads12 := by decide
  headsN := fun h hh => by
    have hh : h = ⟨"set", ["bit"], "cell"⟩ ∨ h = ⟨"get", ["cell"], "bit"⟩ := by simpa [dC] using hh
    rcases hh with rfl | rfl
    · exact ⟨⟨by decide +kernel, by decide +kernel⟩, by decide +kernel, by decide +kernel, by decide⟩
    · exact ⟨⟨by decide +kernel, by decide +kernel⟩, by decide +kernel, by decide +kernel, by decide⟩
  headsK := by decide +kernel
  headsU := by decide +kernel
  lawIn := fun h => nomatch h
theorem inC : ∀ (i : Nat) (r : Rl), rC[i]? = some r → ∃ kinds kind, Told dC r.name kinds kind ∧ kinds.length = r.args.length ∧ r.args.length ≤ 3 ∧ (∀ a ∈ r.args, inS a = true) ∧ inS r.goal = true ∧ Con kC (r.prs kinds kind)
  | 0, r, e => by cases e; exact ⟨[], "bit", .inl ⟨.inl rfl, rfl, rfl⟩, rfl, by decide, by decide, by decide, by unfold Con; decide +kernel⟩
  | 1, r, e => by cases e; exact ⟨[], "bit", .inl ⟨.inr rfl, rfl, rfl⟩, rfl, by decide, by decide, by decide, by unfold Con; decide +kernel⟩
  | 2, r, e => by cases e; exact ⟨["bit"], "cell", .inr ⟨_, List.mem_cons_self, rfl, rfl, rfl⟩, rfl, by decide, by decide, by decide, by unfold Con; decide +kernel⟩
  | 3, r, e => by cases e; exact ⟨["bit"], "cell", .inr ⟨_, List.mem_cons_self, rfl, rfl, rfl⟩, rfl, by decide, by decide, by decide, by unfold Con; decide +kernel⟩
  | 4, r, e => by cases e; exact ⟨["cell"], "bit", .inr ⟨_, List.mem_cons_of_mem _ List.mem_cons_self, rfl, rfl, rfl⟩, rfl, by decide, by decide, by decide, by unfold Con; decide +kernel⟩
  | 5, r, e => by cases e; exact ⟨["cell"], "bit", .inr ⟨_, List.mem_cons_of_mem _ List.mem_cons_self, rfl, rfl, rfl⟩, rfl, by decide, by decide, by decide, by unfold Con; decide +kernel⟩
  | n + 6, r, e => by cases e
theorem rC_apart : (rC.map Rl.nk).Nodup := by decide +kernel
theorem rC_ok : RulesOk dC kC rC rC.length := fun i r _ e => by
  obtain ⟨kinds, kind, t, l, f, a, g, c⟩ := inC i r e
  exact ⟨kinds, kind, ⟨f, t, l, a, g, ldOf_no (nk_apart rC_apart e)⟩, c⟩
theorem lC_ok : LastOk rC lC := ⟨by decide, by decide, by decide +kernel⟩
theorem rC_fit : ∀ r ∈ rC, r.fit := fun r hr => by
  obtain ⟨i, e⟩ := List.mem_iff_getElem?.mp hr
  obtain ⟨kinds, kind, t, l, f, a, g, c⟩ := inC i r e
  exact ⟨(Told.few dC_good t).2, by omega, fun x hx => inT_inS (a x hx), inT_inS g⟩
theorem lC_num : ∀ a ∈ lC, inT a := by
  intro a ha
  have : a = 1 ∨ a = 5 := by simpa [lC] using ha
  rcases this with rfl | rfl <;> exact ⟨by decide, by decide⟩
def textC : List Str := ["rule no -> 4", "rule yes -> 5", "rule set 4 -> 0", "rule set 5 -> 1", "rule get 0 -> 4", "rule get 1 -> 5", "last 1 5"]
theorem linesC : rC.map Rl.text ++ [lastT lC] = textC := by decide +kernel
theorem machC : machT rC lC = joinT textC := by
  unfold machT
  rw [linesC]
theorem stC1 : stOf rC (.c "get" [.c "set" [.w "yes"]]) = some 5 := by decide +kernel
theorem stC2 : stOf rC (.c "set" [.w "no"]) = some 0 := by decide +kernel
def tC1 : Tm := .c "get" [.c "set" [.w "yes"]]
def tC2 : Tm := .c "set" [.w "no"]
theorem tC1_d : tC1.d = .tuple [.str "get", .tuple [.str "set", .str "yes"]] := by simp [tC1, Tm.d, Tm.ds]
theorem tC2_d : tC2.d = .tuple [.str "set", .str "no"] := by simp [tC2, Tm.d, Tm.ds]
theorem wfC2 (z : Str) (h : z = "no" ∨ z = "yes") : WF dC (.c "set" [.w z]) "cell" := by
  rw [WF]
  refine ⟨⟨"set", ["bit"], "cell"⟩, List.mem_cons_self, rfl, rfl, ?_⟩
  show WFs dC [.w z] ["bit"]
  simp only [WFs, WF]
  exact ⟨"bit", [], rfl, ⟨h, rfl⟩, rfl⟩
theorem wfC1 : WF dC tC1 "bit" := by
  rw [tC1, WF]
  refine ⟨⟨"get", ["cell"], "bit"⟩, List.mem_cons_of_mem _ List.mem_cons_self, rfl, rfl, ?_⟩
  show WFs dC [.c "set" [.w "yes"]] ["cell"]
  simp only [WFs]
  exact ⟨"cell", [], rfl, wfC2 _ (.inr rfl), rfl⟩
theorem takC : inV (optV (stOf rC tC1)) (lC.map V.int) = true := by
  rw [tC1, stC1]
  decide
theorem staC : optV (stOf rC tC2) = .int 0 := by
  rw [tC2, stC2]
  rfl
end T82
namespace T82
open PySem L2
section
variable {P : Program} {w : World} {K : PySem.W.Frag} {mg : Str → Option Value} {base : Heap}
/-! ### the machine known by hand -/
abbrev nm__law_known_right : List Str := ["cell", "rules", "lines", "text", "machine"]
theorem sc__law_known_right : FnScope nm__law_known_right [] (defScope s__law_known_right) := ⟨rfl, rfl, rfl, by decide +kernel, rfl, by decide +kernel, by decide +kernel⟩
def sp__law_known_right : Sp := fun vs H Q _ => vs = [] ∧ ∀ G, Same H G → Q (.bl true) G
theorem ok__law_known_right (T : Tx K mg) (Y : Ty T) {fT fM : Addr} (BT : BadTextX.Txt P K mg T.C_BadText fT) (BM : BadMachineX.Txt P K mg T.C_BadMachine fM) : FnOk P w K mg base CX0 15 T.f__law_known_right T.d__law_known_right [] sp__law_known_right := by
  refine T.F__law_known_right.ok sc__law_known_right (fun vs H Q E h => ?_) (fun cdv A outer s H vs Q E hr h => ?_)
  · obtain ⟨rfl, _⟩ := h
    rfl
  · obtain ⟨rfl, k⟩ := h
    refine ⟨_, (pss_cons (ps_set (i := 0) sc__law_known_right.nd rfl (.inl rfl) (pe_make T.M_Door (ok_Door_init T) (hr.mono (by decide)) (by rfl) T.m_Door T.b_Door_init .nil pass0 (pa_cons (pd_tup (K := K) (pd_cons (pd_tup (pd_cons pd_str (pd_cons (pd_tup (pd_cons pd_str (pd_cons pd_str pd_nil))) pd_nil))) pd_nil)) (pa_cons (pd_tup (K := K) (pd_cons pd_str pd_nil)) (pa_cons (pd_tup (K := K) (pd_cons (pd_tup (pd_cons pd_str (pd_cons (pd_tup (pd_cons pd_str pd_nil)) (pd_cons pd_str pd_nil)))) (pd_cons (pd_tup (pd_cons pd_str (pd_cons (pd_tup (pd_cons pd_str pd_nil)) (pd_cons pd_str pd_nil)))) pd_nil))) (pa_cons (pd_tup (K := K) pd_nil) pa_nil))))))
    (pss_cons (ps_set (i := 1) sc__law_known_right.nd rfl (.inl rfl) (pd_tup (K := K) (pd_cons (pd_tup (pd_cons (pd_tup (pd_cons pd_str pd_nil)) (pd_cons pd_int pd_nil))) (pd_cons (pd_tup (pd_cons (pd_tup (pd_cons pd_str pd_nil)) (pd_cons pd_int pd_nil))) (pd_cons (pd_tup (pd_cons (pd_tup (pd_cons pd_str (pd_cons pd_int pd_nil))) (pd_cons pd_int pd_nil))) (pd_cons (pd_tup (pd_cons (pd_tup (pd_cons pd_str (pd_cons pd_int pd_nil))) (pd_cons pd_int pd_nil))) (pd_cons (pd_tup (pd_cons (pd_tup (pd_cons pd_str (pd_cons pd_int pd_nil))) (pd_cons pd_int pd_nil))) (pd_cons (pd_tup (pd_cons (pd_tup (pd_cons pd_str (pd_cons pd_int pd_nil))) (pd_cons pd_int pd_nil))) pd_nil))))))))
    (pss_cons (ps_set (i := 2) sc__law_known_right.nd rfl (.inl rfl) (pe_lst (pa_cons pe_str (pa_cons pe_str (pa_cons pe_str (pa_cons pe_str pa_nil))))))
    (pss_cons (ps_set (i := 3) sc__law_known_right.nd rfl (.inl rfl) (pe_call (ok__law_joined T) (hr.mono (by decide)) (by rfl) T.m__law_joined T.F__law_joined.kp T.b__law_joined .nil pass0 (pa_cons (pe_op op_cat (pv 2) (pe_lst (pa_cons pe_str (pa_cons pe_str (pa_cons pe_str pa_nil))))) pa_nil)))
    (pss_cons (ps_set (i := 4) sc__law_known_right.nd rfl (.inl rfl) (pe_make T.M_Machine (ok_Machine_init T BM) (hr.mono (by decide)) (by rfl) T.m_Machine T.b_Machine_init .nil (passes_call (E := E0) LamX.takes0 (fun _ _ _ _ h => h)) (pa_cons (pv 0) (pa_cons (pv 1) (pa_cons (pd_tup (K := K) (pd_cons pd_int (pd_cons pd_int pd_nil))) pa_nil)))))
    (pss_cons (ps_if (PW.pt (pw_or (pt_cmpR op_ne (pe_call (ok_machine_text T) (hr.mono (by decide)) (by rfl) T.m_machine_text T.F_machine_text.kp T.b_machine_text .nil pass0 (pa_cons (pv 4) pa_nil)) (pv 3) (nomark _)) (pw_or1 (pt_cmpR (op_neI (ok_Machine_eq T Y) Y.onM (hr.mono (by decide)) T.b_Machine_eq pass0) (pe_call (ok_read_machine T BT BM) (hr.mono (by decide)) (by rfl) T.m_read_machine T.F_read_machine.kp T.b_read_machine .nil (passes_call (E := E0) LamX.takes0 (fun _ _ _ _ h => h)) (pa_cons (pv 0) (pa_cons (pv 3) pa_nil))) (pv 4) (nomark _))))) (pss_one (ps_ret pe_bl)) pss_nil)
    (pss_one (ps_ret (pe_and (pe_cmpR op_is_bl (pe_call (ok_takes T) (hr.mono (by decide)) (by rfl) T.m_takes T.F_takes.kp T.b_takes .nil pass0 (pa_cons (pv 4) (pa_cons (pd_tup (K := K) (pd_cons pd_str (pd_cons (pd_tup (pd_cons pd_str (pd_cons pd_str pd_nil))) pd_nil))) pa_nil))) pe_bl (nomark _)) (pe_one (pe_cmpR op_eq (pe_call (ok_state T) (hr.mono (by decide)) (by rfl) T.m_state T.F_state.kp T.b_state .nil pass0 (pa_cons (pv 4) (pa_cons (pd_tup (K := K) (pd_cons pd_str (pd_cons pd_str pd_nil))) pa_nil))) pe_int (nomark _)))))))))))), ?_⟩
    intro G0 wv s0 iw G1 sv s1 is_ G2 hv s2 ih G3 lv s3 il
    intro cx dx hcx hdx nes
    have o1 : upd (upd G3 dx (.own cx)) cx (.ins T.C_Door dx []) cx = some (.ins T.C_Door dx []) := upd_same
    have so : Same G3 (upd (upd G3 dx (.own cx)) cx (.ins T.C_Door dx [])) := fun c u e => by
      rw [upd_ne (ne_of_none e hcx), upd_ne (ne_of_none e hdx)]
      exact e
    generalize upd (upd G3 dx (.own cx)) cx (.ins T.C_Door dx []) = X0 at o1 so ⊢
    have k0 := Im.mono (sk (((s1.trans s2).trans s3).trans so)) _ _ iw
    have k1 := Im.mono (sk ((s2.trans s3).trans so)) _ _ is_
    have k2 := Im.mono (sk (s3.trans so)) _ _ ih
    have k3 := Im.mono (sk so) _ _ il
    have sH3 : Same H G3 := ((s0.trans s1).trans s2).trans s3
    refine ⟨cx, dx, _, _, _, _, dC, rfl, dC_good, o1, k0, k1, k2, k3, fun G4 b4 dat => ⟨rfl, ?_⟩⟩
    have s34 : Same G3 G4 := fun c u e => b4 _ _ (ne_of_none e hcx) (so _ _ e)
    intro G5 rv s5 ir
    refine ⟨by show 4 ≤ sizeLine; decide, fun l1 hl1 => ?_⟩
    refine ⟨_, rfl, by show 3 ≤ sizeLine; decide, fun l2 hl2 => ⟨l1, l2, _, _, rfl, rfl, sn hl2 _ _ upd_same, upd_same, by show 4 + 3 ≤ sizeLine; decide, fun l3 hl3 => ?_⟩⟩
    generalize hX1 : upd (upd (upd G5 l1 _) l2 _) l3 _ = X1
    have s7 : Same G5 X1 := by
      rw [← hX1]
      exact ((sn hl1).trans (sn hl2)).trans (sn hl3)
    have e7 : X1 l3 = some (.lst (textC.map V.str)) := by
      rw [← hX1]
      exact upd_same
    clear hX1
    refine ⟨l3, textC, rfl, SqL.of e7, by show 7 ≤ 1000; decide, by decide +kernel, fun X2 s8 => ?_⟩
    rw [← machC]
    refine ⟨_, rfl, _, rfl, fun X3 lv' s9 il' mx dm hmx hdm nem => ?_⟩
    have o2 : upd (upd X3 dm (.own mx)) mx (.ins T.C_Machine dm []) mx = some (.ins T.C_Machine dm []) := upd_same
    have so2 : Same X3 (upd (upd X3 dm (.own mx)) mx (.ins T.C_Machine dm [])) := fun c u e => by
      rw [upd_ne (ne_of_none e hmx), upd_ne (ne_of_none e hdm)]
      exact e
    generalize upd (upd X3 dm (.own mx)) mx (.ins T.C_Machine dm []) = X4 at o2 so2 ⊢
    have s4X : Same G4 X4 := (((s5.trans s7).trans s8).trans s9).trans so2
    have s5X : Same G5 X4 := ((s7.trans s8).trans s9).trans so2
    refine ⟨mx, dm, cx, _, _, dC, rC, lC, kC, none, rfl, o2, dat.mono s4X, Im.mono (sk s5X) _ _ ir, Im.mono (sk so2) _ _ il', by show 6 ≤ 600; decide, by show 2 < 63; decide, fun r hr => ?_, .fine rC_ok lC_ok, ?_, fun v e => nomatch e⟩
    · have f := rC_fit r hr
      exact ⟨f.name, name_short f.name, by have := f.few; omega⟩
    rintro _ X5 b5 mat
    refine ⟨rfl, ?_⟩
    have s35 : Same X3 X5 := fun c u e => b5 _ _ (ne_of_none e hmx) (so2 _ _ e)
    have s45 : Same G4 X5 := (((s5.trans s7).trans s8).trans s9).trans s35
    refine ⟨_, rfl, mx, cx, dC, rC, lC, rfl, mat, rC_fit, by show 6 ≤ 600; decide, by show 2 ≤ 60; decide, lC_num, fun X6 s6 => ?_⟩
    refine ⟨_, rfl, rfl, _, rfl, itf (by rw [decide_eq_true rfl]; rfl) ?_⟩
    have m6 := mat.mono s6
    refine ⟨_, rfl, _, rfl, cx, _, dC, rfl, (dat.mono s45).mono s6, .inr ⟨machT rC lC, .fine rC lC, rfl, mach_len rC_fit lC_num (by show 6 ≤ 110; decide) (by show 2 ≤ 20; decide), reads_comes rC_fit lC_num (by show 6 ≤ 600; decide) (by show 2 < 63; decide) (.fine rC_ok lC_ok), fun X7 y s7' maty => ?_⟩⟩
    have m7 := m6.mono s7'
    obtain ⟨dy, _, _, _, _, _, fy⟩ := id maty
    obtain ⟨dm2, _, _, _, _, _, fm⟩ := id m7
    refine ⟨_, rfl, y, mx, dy, dm2, _, _, rfl, rfl, fy.at_, fm.at_, y, mx, cx, dC, rC, lC, rfl, maty, m7, fun r hr => (rC_fit r hr).name, fun X8 s8' => ⟨true, rfl, _, rfl, ?_⟩⟩
    have m8 := m7.mono s8'
    refine iteF ⟨_, rfl, fun Ga va sa iva => ⟨mx, cx, va, dC, rC, lC, tC1, "bit", rfl, m8.mono sa, by rw [tC1_d]; exact iva, wfC1, by decide, fun Gb sb => ⟨_, true, rfl, rfl, ?_⟩⟩⟩
    rw [takC]
    refine ⟨_, rfl, itt (decide_eq_true rfl) ⟨_, rfl, fun Gc vc sc ic => ⟨mx, cx, vc, dC, rC, lC, tC2, "cell", rfl, ((m8.mono sa).mono sb).mono sc, by rw [tC2_d]; exact ic, wfC2 _ (.inl rfl), by decide, fun Gd sd => ?_⟩⟩⟩
    rw [staC]
    refine ⟨rfl, ?_⟩
    rw [decide_eq_true rfl]
    exact k _ (((((((((sH3.trans s34).trans s45).trans s6).trans s7').trans s8').trans sa).trans sb).trans sc).trans sd)
end
end T82
/-! ### the end at the very caller: law's own body may know the caller's guards -/
namespace T82
open PySem PySem.Spec
open PyProof.Rows L2
section
variable {K : PySem.W.Frag} {h : Heap} {a : Addr} {T : List Addr} {oa : Obj} {ns : List Int}
/-- what is tracked at the start: the tables, and the script where it is no object of the written part -/
def H00 (K : PySem.W.Frag) (a : Addr) (oa : Obj) (ns : List Int) (T : List Addr) : Hp := fun b =>
  if b ∈ T then some (.tbl #[]) else if b = a ∧ K.lookup a = none then some (.frz oa (.lst (ns.map V.int))) else none
theorem H00_tab {b : Addr} (hb : b ∈ T) : H00 K a oa ns T b = some (.tbl #[]) := if_pos hb
theorem H00_cases {b : Addr} {u : HO} (e : H00 K a oa ns T b = some u) : (b ∈ T ∧ u = .tbl #[]) ∨ (b ∉ T ∧ b = a ∧ K.lookup a = none ∧ u = .frz oa (.lst (ns.map V.int))) := by
  unfold H00 at e
  by_cases hb : b ∈ T
  · rw [if_pos hb] at e
    exact .inl ⟨hb, (Option.some.inj e).symm⟩
  · rw [if_neg hb] at e
    by_cases hc : b = a ∧ K.lookup a = none
    · rw [if_pos hc] at e
      exact .inr ⟨hb, hc.1, hc.2, (Option.some.inj e).symm⟩
    · rw [if_neg hc] at e
      cases e
theorem H00_none {b : Addr} (h : ∀ u, H00 K a oa ns T b ≠ some u) : H00 K a oa ns T b = none := by
  cases q : H00 K a oa ns T b with
  | none => rfl
  | some u => exact absurd q (h u)
/-- what is neither an empty table nor a row of values is not tracked -/
theorem H00_free (hT : ∀ b ∈ T, h.get? b = some { cls := .none, data := .fields #[] }) (ha : h.get? a = some oa) {k : Array Value} {n : Nat} (da : oa.data = .seq k n) {b : Addr} {o : Obj} (e : h.get? b = some o) (n1 : o.data ≠ .fields #[])
    (n2 : ∀ vs m, o.data ≠ .seq vs m) : H00 K a oa ns T b = none := H00_none fun u q => by
  rcases H00_cases q with ⟨m, _⟩ | ⟨_, rfl, _, _⟩
  · rw [hT b m] at e
    cases e
    exact n1 rfl
  · rw [ha] at e
    cases e
    exact n2 _ _ da
end
theorem law_runT {P : Program} {w : World} {K : PySem.W.Frag} {mg mb : Str → Option Value} {fa a : Addr} {cs : List (Addr × Addr)} {z : Shared} {vs : List Value} {ns : List Int} (kin : K.In z.heap) (gl : z.heap.Ns mainGlobals mg) (bl : z.heap.Ns builtinsNs mb)
    (bb : ∀ x : Str, x ≠ "__name__" → mb x = bootBuiltins x) (nl : z.heap.NoLimit) (gz : z.gens = #[]) (tabs : ∀ p ∈ cs, z.heap.get? p.2 = some { cls := .none, data := .fields #[] }) (tk : ∀ p ∈ cs, K.lookup p.2 = none) (cd : ∀ p ∈ cs, PySem.W.CodeHd z.heap p.1 p.2)
    (bmain : ∃ (bm : Addr) (ob : Obj), mg "__builtins__" = some (.ref bm) ∧ bm ≠ builtinsNs ∧ z.heap.get? bm = some ob ∧ ob.cls = .type "module" ∧ ob.dict = some builtinsNs ∧ ob.data = .plain)
    (sa : z.heap.get? a = some { cls := .type "list", data := .seq vs.toArray }) (iar : IntsAre vs ns) (few : ns.length ≤ sizeLine)
    (F : ∀ (base : Heap) (H : Hp), K.In base → base.Ns mainGlobals mg → (∀ p ∈ cs, LamX.TabB base mg p.1 p.2) → Env0 P w K mg base callerA [] z H → (∀ p ∈ cs, H p.2 = some (.tbl #[])) → SqL K H a (ns.map V.int) →
      codeAny (model P w) callerA (.call (.ref fa) ⟨[.ref a], []⟩) (CR L2.CX0 [] P w H z (fun v _ => v = .bl true) L2.E0) z) :
    codeAny (model P w) callerA (.call (.ref fa) ⟨[.ref a], []⟩) (fun r t => r = .ok (.ret (.bool true)) ∧ OldK z.heap t.heap ∧ t.os = z.os ∧ AllBare t.gens) z := by
  have vals := vals_ints iar
  have vlen : vs.length = ns.length := by rw [iar.length]
  have tabT : ∀ b ∈ cs.map Prod.snd, z.heap.get? b = some { cls := .none, data := .fields #[] } := fun b hb => by
    obtain ⟨p, m, rfl⟩ := List.mem_map.mp hb
    exact tabs p m
  have inT : ∀ {p}, p ∈ cs → p.2 ∈ cs.map Prod.snd := fun m => List.mem_map_of_mem m
  generalize hH : H00 K a { cls := .type "list", data := .seq vs.toArray } ns (cs.map Prod.snd) = H
  have cases_ : ∀ {b u}, H b = some u → (b ∈ cs.map Prod.snd ∧ u = .tbl #[]) ∨ (b ∉ cs.map Prod.snd ∧ b = a ∧ K.lookup a = none ∧ u = .frz { cls := .type "list", data := .seq vs.toArray } (.lst (ns.map V.int))) := fun e => by
    rw [← hH] at e
    exact H00_cases e
  have free : ∀ {b o}, z.heap.get? b = some o → o.data ≠ .fields #[] → (∀ us m, o.data ≠ .seq us m) → H b = none := fun e n1 n2 => by
    rw [← hH]
    exact H00_free tabT sa rfl e n1 n2
  have atT : ∀ p ∈ cs, H p.2 = some (.tbl #[]) := fun p m => by
    rw [← hH]
    exact H00_tab (inT m)
  have keepN : ∀ {b : Addr} {m : Str → Option Value}, z.heap.Ns b m → (hidT z.heap H).Ns b m := fun x => by
    obtain ⟨o, es, ep, e, d, r⟩ := x
    refine ⟨o, es, ep, hidT_get e (free e (fun q => ?_) fun us m q => ?_), d, r⟩
    · rw [d] at q; cases q
    · rw [d] at q; cases q
  have kinH : K.In (hidT z.heap H) := fun b o e => by
    refine hidT_get (kin b o e) ?_
    cases q : H b with
    | none => rfl
    | some u =>
      rcases cases_ q with ⟨m, _⟩ | ⟨_, rfl, no, _⟩
      · obtain ⟨p, mp, rfl⟩ := List.mem_map.mp m
        rw [tk p mp] at e
        cases e
      · rw [no] at e
        cases e
  have mod : L2.Mod K mg (hidT z.heap H) := by
    obtain ⟨mc, x1, x2⟩ := nl
    exact ⟨kinH, keepN gl, ⟨mb, keepN bl, bb⟩, mc, keepN x1, x2⟩
  have TB : ∀ p ∈ cs, LamX.TabB (hidT z.heap H) mg p.1 p.2 := fun p m => by
    have tp := tabs p m
    constructor
    · obtain ⟨o, us, f1, f2, f3, f4, f5, f6, f7, e, c1, d, r⟩ := cd p m
      refine ⟨o, us, f1, f2, f3, f4, f5, f6, f7, hidT_get e (free e (fun q => ?_) fun us m q => ?_), c1, d, r⟩
      · rw [d] at q
        cases q
        exact absurd r.1 (by simp)
      · rw [d] at q
        cases q
    · obtain ⟨bm, ob, b1, b2, b3, b4, b5, b6⟩ := bmain
      refine ⟨bm, ob, b1, b2, fun q => ?_, fun q => ?_, hidT_get b3 (free b3 (fun q => ?_) fun us m q => ?_), b4, b5, b6⟩
      · obtain ⟨o, es, ep, e, d, _⟩ := gl
        rw [q, e] at b3
        cases b3
        rw [d] at b6
        cases b6
      · rw [q, tp] at b3
        cases b3
        cases b6
      · rw [b6] at q; cases q
      · rw [b6] at q; cases q
    · intro q
      obtain ⟨o, es, ep, e, d, _⟩ := gl
      rw [q, tp] at e
      cases e
      cases d
  have ok : HOk P w H z.heap := fun b u e => by
    rcases cases_ e with ⟨m, rfl⟩ | ⟨_, rfl, _, rfl⟩
    · exact tabT b m
    · exact ⟨sa, by rw [List.length_map]; exact few, vs, _, vals, sa⟩
  have env : Env0 P w K mg (hidT z.heap H) callerA [] z H := ⟨rfl, mod, fun _ _ e => of_hidT e, by rw [hidT_size]; exact Nat.le_refl _, trivial, fun _ m => (nomatch m), ok, .of_eq gz⟩
  have seq : SqL K H a (ns.map V.int) := by
    cases q : K.lookup a with
    | none =>
      refine .inl (.inr ⟨{ cls := .type "list", data := .seq vs.toArray }, ?_⟩)
      rw [← hH]
      unfold H00
      rw [if_neg fun m => ?_, if_pos ⟨rfl, q⟩]
      have y := tabT a m
      rw [sa] at y
      cases y
    | some o =>
      have e := kin a o q
      rw [sa] at e
      cases e
      exact .inr ⟨_, vs.toArray, _, q, rfl, rfl, rfl, by rw [List.size_toArray, vlen]; exact few, vals⟩
  refine codeAny_mono (F _ H kinH (keepN gl) TB env atT seq) fun r t x => ?_
  cases r with
  | error e => exact False.elim x
  | ok fl =>
    cases fl with
    | next => exact False.elim x
    | brk => exact False.elim x
    | cont => exact False.elim x
    | ret u =>
      obtain ⟨v, G, os, bare, un, okG, rv, hv⟩ := x
      have hv : v = .bl true := hv
      subst hv
      obtain rfl : u = Value.bool true := rv
      have more : ∀ b ∈ cs.map Prod.snd, ∃ q : Array Value, t.heap.get? b = some { cls := .none, data := .fields q } := fun b m => by
        obtain ⟨p, mp, rfl⟩ := List.mem_map.mp m
        obtain ⟨q, e⟩ := un.tbls p.2 #[] (atT p mp)
        exact ⟨_, okG p.2 _ e⟩
      have stay : ∀ b o, b ∉ cs.map Prod.snd → z.heap.get? b = some o → t.heap.get? b = some o := fun b o nm e => by
        cases q : H b with
        | none => exact un.keep b o e q (fun m => nomatch m) (fun m => nomatch m)
        | some u =>
          rcases cases_ q with ⟨m, _⟩ | ⟨_, rfl, _, rfl⟩
          · exact absurd m nm
          · rw [sa] at e
            cases e
            exact (okG b _ (un.frzs b _ _ q)).1
      refine ⟨rfl, ⟨fun b o e => ?_, fun b o e => ?_⟩, os, bare⟩
      · by_cases m : b ∈ cs.map Prod.snd
        · obtain ⟨q, eq⟩ := more b m
          obtain ⟨p, mp, rfl⟩ := List.mem_map.mp m
          rw [tabs p mp] at e
          cases e
          exact .inr (.inl ⟨((cd p mp).tab (tabs p mp)).isCodeTable, rfl, #[], q, rfl, by rw [Array.empty_append]; exact eq⟩)
        · exact .inl (stay b o m e)
      · by_cases m : b ∈ cs.map Prod.snd
        · obtain ⟨q, eq⟩ := more b m
          exact ⟨_, eq⟩
        · exact ⟨o, stay b o m e⟩
end T82
/-! ### the plain law of law's own body: distinct states, the data that are shown -/
namespace T82
open PySem L2
theorem nodup_small : ∀ (n : Nat) (l : List Int), l.Nodup → (∀ x ∈ l, 0 ≤ x ∧ x < (n : Int)) → l.length ≤ n
  | 0, l, _, h => by
    cases l with
    | nil => exact Nat.le_refl _
    | cons a r =>
      have := h a List.mem_cons_self
      omega
  | n + 1, l, nd, h => by
    by_cases m : (n : Int) ∈ l
    · have h2 := nodup_small n (l.erase (n : Int)) (nd.erase _) fun x hx => by
        have hx := (List.Nodup.mem_erase_iff nd).mp hx
        have := h x hx.2
        have ne := hx.1
        omega
      rw [List.length_erase_of_mem m] at h2
      omega
    · have h2 := nodup_small n l nd fun x hx => by
        have := h x hx
        have ne : x ≠ (n : Int) := fun z => m (z ▸ hx)
        omega
      omega
/-- the keys of a dict of numbers, each once -/
theorem keys_put {kvs : List (Key × V)} {ks : List Int} (h : kvs.map Prod.fst = ks.map Sum.inl) (nd : ks.Nodup) (n : Int) (v : V) : ∃ ks' : List Int, (putK kvs (Sum.inl n : Key) v).map Prod.fst = ks'.map Sum.inl ∧ ks'.Nodup ∧ ∀ m, m ∈ ks' ↔ m ∈ ks ∨ m = n := by
  by_cases hn : n ∈ ks
  · refine ⟨ks, ?_, nd, fun m => ⟨.inl, fun z => z.elim id fun e => e ▸ hn⟩⟩
    unfold putK
    split
    · rw [← h, List.map_map]
      refine List.map_congr_left fun p _ => ?_
      show (if p.1 = Sum.inl n then (p.1, v) else p).1 = p.1
      split <;> rfl
    · rename_i z
      refine absurd ?_ z
      have : (Sum.inl n : Key) ∈ kvs.map Prod.fst := by
        rw [h]
        exact List.mem_map_of_mem hn
      obtain ⟨p, hp, e⟩ := List.mem_map.mp this
      exact List.any_eq_true.mpr ⟨p, hp, decide_eq_true e⟩
  · refine ⟨ks ++ [n], ?_, List.nodup_append.mpr ⟨nd, by simp, fun x hx y hy => ?_⟩, fun m => by simp⟩
    · rw [putK_new v (valV_out ?_), List.map_append, List.map_append, h]
      · rfl
      · rw [h]
        intro z
        obtain ⟨x, hx, e⟩ := List.mem_map.mp z
        exact hn (Sum.inl.inj e ▸ hx)
    · rw [List.mem_singleton.mp hy]
      exact fun e => hn (e ▸ hx)
where
  valV_out {kvs : List (Key × V)} {k : Key} (h : k ∉ kvs.map Prod.fst) : valV kvs k = none := by
    cases q : valV kvs k with
    | none => rfl
    | some v =>
      have a := valV_any k kvs
      rw [q] at a
      obtain ⟨p, hp, e⟩ := List.any_eq_true.mp a
      exact absurd (List.mem_map.mpr ⟨p, hp, of_decide_eq_true e⟩) h
theorem keys_merge : ∀ (more : List Int) {kvs : List (Key × V)} {ks : List Int}, kvs.map Prod.fst = ks.map Sum.inl → ks.Nodup → ∃ ks' : List Int, (mergeK kvs (kvT more)).map Prod.fst = ks'.map Sum.inl ∧ ks'.Nodup ∧ ∀ m, m ∈ ks' ↔ m ∈ ks ∨ m ∈ more
  | [], kvs, ks, h, nd => ⟨ks, h, nd, fun m => by simp⟩
  | n :: more, kvs, ks, h, nd => by
    obtain ⟨k1, h1, nd1, m1⟩ := keys_put h nd n (.bl true)
    obtain ⟨k2, h2, nd2, m2⟩ := keys_merge more h1 nd1
    exact ⟨k2, h2, nd2, fun m => by rw [m2, m1, List.mem_cons]; exact or_assoc⟩
theorem rising {l : List Int} (nd : l.Nodup) (h : l.Pairwise (· ≤ ·)) : l.Pairwise (· < ·) := by
  have := List.pairwise_and_iff.mpr ⟨nd, h⟩
  exact this.imp fun z => Int.lt_iff_le_and_ne.mpr ⟨z.2, z.1⟩
/-! what is shown -/
def againD (rs : List Rl) (last : List Int) : PyData := .list [.tuple (rs.map Rl.d), .tuple (last.map PyData.int)]
theorem weight_map {α : Type} {f : α → PyData} {n : Nat} : ∀ {as : List α}, (∀ a ∈ as, (f a).weight ≤ n) → PyData.weightAll (as.map f) ≤ as.length * (n + 1)
  | [], _ => by simp [PyData.weightAll]
  | a :: as, h => by
    have h1 := h a List.mem_cons_self
    have h2 := weight_map (f := f) (n := n) (as := as) fun x hx => h x (List.mem_cons_of_mem _ hx)
    rw [List.map_cons, PyData.weightAll, List.length_cons, Nat.add_mul]
    omega
theorem int_weight {i : Int} (h : inT i) : (PyData.int i).weight ≤ 7 := by
  rw [PyData.weight]
  split
  · omega
  · have h1 : i.natAbs < 128 := by
      have := h.1
      have := h.2
      omega
    rename_i z
    have ne : i.natAbs ≠ 0 := fun e => z (beq_iff_eq.mpr (Int.natAbs_eq_zero.mp e))
    have h2 : i.natAbs.log2 < 7 := (Nat.log2_lt ne).mpr h1
    omega
theorem rule_weight {r : Rl} (h : r.fit) : (Rl.d r).weight ≤ 60 := by
  have h1 := weight_map (f := PyData.int) (n := 7) (as := r.args) fun a ha => int_weight (h.args a ha)
  have h2 := int_weight h.goal
  have h3 := name_len h.name
  have h4 := h.few
  have h5 : r.name.cps.size = r.name.length := rfl
  simp only [Rl.d, Rl.kd, PyData.weight, PyData.weightAll]
  simp only [PyData.weight] at h2
  omega
theorem again_lay {rs : List Rl} {last : List Int} (hf : ∀ r ∈ rs, r.fit) (hl : ∀ a ∈ last, inT a) (m : rs.length ≤ 110) (l : last.length ≤ 20) : PyData.layable0 (againD rs last) = true := by
  have h1 := weight_map (f := Rl.d) (n := 60) (as := rs) fun r hr => rule_weight (hf r hr)
  have h2 := weight_map (f := PyData.int) (n := 7) (as := last) fun a ha => int_weight (hl a ha)
  have d1 := depth_map (f := Rl.d) (n := 2) (as := rs) fun x _ => by
    have := depth_map (f := PyData.int) (n := 0) (as := x.args) fun x _ => by simp [PyData.depth]
    simp only [Rl.d, Rl.kd, PyData.depth, PyData.depthAll]
    omega
  have d2 := depth_map (f := PyData.int) (n := 0) (as := last) fun x _ => by simp [PyData.depth]
  have c : (againD rs last).canLay0 = true := canLay_lst (canLay_cons (rules_lay fun r hr => (hf r hr).name) (canLay_cons (canLay_tup (canLay_map fun i _ => by rw [PyData.canLay0])) canLay_nil))
  unfold PyData.layable0
  simp only [Bool.and_eq_true, decide_eq_true_eq]
  refine ⟨⟨c, ?_⟩, ?_⟩
  · simp only [againD, PyData.depth, PyData.depthAll]
    omega
  · simp only [againD, PyData.weight, PyData.weightAll]
    omega
theorem short_map {α : Type} {f : α → PyData} : ∀ {as : List α}, (∀ a ∈ as, PyData.intsShort 13 (f a) = true) → PyData.intsShortAll 13 (as.map f) = true
  | [], _ => rfl
  | a :: as, h => by
    rw [List.map_cons, PyData.intsShortAll, h a List.mem_cons_self, short_map fun x hx => h x (List.mem_cons_of_mem _ hx)]
    rfl
theorem int_short {i : Int} (h : inT i) : PyData.intsShort 13 (.int i) = true := by
  rw [PyData.intsShort, decide_eq_true_eq]
  have := strI_len h
  have e : PyData.shown (.int i) = strI i := by rw [PyData.shown]; rfl
  rw [e]
  omega
theorem again_short {rs : List Rl} {last : List Int} (hf : ∀ r ∈ rs, r.fit) (hl : ∀ a ∈ last, inT a) : PyData.intsShort 13 (againD rs last) = true := by
  have h1 := short_map (f := Rl.d) (as := rs) fun r hr => by
    have h3 := short_map (f := PyData.int) (as := r.args) fun a ha => int_short ((hf r hr).args a ha)
    simp only [Rl.d, Rl.kd, PyData.intsShort, PyData.intsShortAll, h3, Bool.and_true, Bool.true_and]
    have := int_short (hf r hr).goal
    simpa only [PyData.intsShort] using this
  have h2 := short_map (f := PyData.int) (as := last) fun a ha => int_short (hl a ha)
  simp only [againD, PyData.intsShort, PyData.intsShortAll, h1, h2, Bool.and_true]
theorem show_map {α : Type} {f : α → PyData} : ∀ {as : List α}, (∀ a ∈ as, (f a).showable = true) → PyData.showableAll (as.map f) = true
  | [], _ => rfl
  | a :: as, h => by
    rw [List.map_cons, PyData.showableAll, h a List.mem_cons_self, show_map fun x hx => h x (List.mem_cons_of_mem _ hx)]
    rfl
theorem int_show {i : Int} (h : inT i) : (PyData.int i).showable = true := by
  rw [PyData.showable, decide_eq_true_eq]
  exact strI_log h
theorem again_show {rs : List Rl} {last : List Int} (hf : ∀ r ∈ rs, r.fit) (hl : ∀ a ∈ last, inT a) : (againD rs last).showable = true := by
  have h1 := show_map (f := Rl.d) (as := rs) fun r hr => by
    have h3 := show_map (f := PyData.int) (as := r.args) fun a ha => int_show ((hf r hr).args a ha)
    simp only [Rl.d, Rl.kd, PyData.showable, PyData.showableAll, h3, Bool.and_true, Bool.true_and]
    have := int_show (hf r hr).goal
    simpa only [PyData.showable] using this
  have h2 := show_map (f := PyData.int) (as := last) fun a ha => int_show (hl a ha)
  simp only [againD, PyData.showable, PyData.showableAll, h1, h2, Bool.and_true]
end T82
/-! ### repr of nested data, where the guards are known; sorted(dict of numbers) -/
namespace T82
open PySem L2 PyProof.Rows
def rRepD (K : PySem.W.Frag) : List V → Hp → VK → Prop := fun xs H Q => ∃ (p : Addr) (d : PyData), xs = [.ref p] ∧ Dp K H (.ref p) d ∧ d.layable0 = true ∧ d.showable = true ∧ PyData.intsShort 13 d = true ∧ Q (.str d.shown) H
theorem cReprD {X : Cx} {K : PySem.W.Frag} (e : X.K = K) (hg : X.A.guards = some []) (hu : X.A.units + 65 < cLine) : CallR X (.builtin "repr") (rRepD K) := by
  subst e
  intro pins s σ H xs us Q I r h
  obtain ⟨p, d, rfl, hd, hl, hs, hi, q⟩ := h
  obtain ⟨u, rfl, rx⟩ := vals1 r
  cases rx
  obtain ⟨as, rd⟩ := Dp.reads I d _ (.ref p) hd rfl
  have len := shown_le13 hl hi
  refine repr_of_reads' rd hs (PyData.noDict_hsm (PyData.hasDict_of_layable hl)) hg (room_of_layable hl hu) (fun _ _ z => z) (fun h' t tk hk => ⟨.str d.shown, H, I.kept hk, ⟨t, rfl⟩, q⟩) (by rw [sizeLine_eq]; omega)
def rSortD : List V → Hp → VK → Prop := fun xs H Q => ∃ (a : Addr) (kvs : List (Key × V)) (ks : List Int), xs = [.ref a] ∧ Rd H a (.dK kvs) ∧ kvs.map (·.1) = ks.map Sum.inl ∧ ks.length < 64 ∧
  ∀ (ys : List Int) (p : Addr), ys.Perm ks → ys.Pairwise (· ≤ ·) → H p = none → Q (.ref p) (upd H p (.lst (ys.map V.int)))
theorem cSortD {X : Cx} (hc : X.calm = true) : CallR X (.builtin "sorted") rSortD := call_sortedDI hc
end T82
namespace T82
open PySem L2
section
variable {P : Program} {w : World} {K : PySem.W.Frag} {mg : Str → Option Value} {base : Heap}
/-! ### law's own body, called by the very caller -/
/-- an and that comes out false, whatever way, ahead of an or -/
theorem or_skip {ta tb tc : TT} {σ : L2.St} {H : Hp} {N : Bool → Hp → Prop} (R : Hp → Prop) (h : ∀ N' : Bool → Hp → Prop, (∀ G, R G → N' false G) → tAnd ta tb σ H N') (k : ∀ G, R G → tc σ G N) : tOr (tAnd ta tb) tc σ H N := h _ fun G r => iteF (k G r)
theorem seq_if {t : TT} {b1 b2 rest : TS} {D : Ends} {σ : L2.St} {H : Hp} (h : t σ H fun b G => if b = true then b1 { D with nx := rest D } σ G else b2 { D with nx := rest D } σ G) : tSeq (tIfS t b1 b2) rest D σ H := h
abbrev nm_law : List Str := ["script", "tape", "turn", "parts", "door", "states", "rules", "known_texts", "known", "last", "machine", "text", "again", "whole", "lines", "one", "key", "goal"]
theorem sc_law : FnScope nm_law ["script"] (defScope s_law) := ⟨rfl, rfl, rfl, by decide +kernel, rfl, by decide +kernel, by decide +kernel⟩
theorem run_law (T : Tx K mg) (Y : Ty T) {fT fM : Addr} (BT : BadTextX.Txt P K mg T.C_BadText fT) (BM : BadMachineX.Txt P K mg T.C_BadMachine fM) (Er : ErrT T) {c1 c2 P1 P2 : Addr} (ne : P1 ≠ P2) (TB1 : LamX.TabB base mg c1 P1) (TB2 : LamX.TabB base mg c2 P2)
    (F1 : FunC K "_law_is_misread" s__law_is_misread T.f__law_is_misread T.d__law_is_misread c1) (F2 : FunC K "_law_is_no_machine" s__law_is_no_machine T.f__law_is_no_machine T.d__law_is_no_machine c2)
    {s : Shared} {H : Hp} {a : Addr} {ns : List Int} (hr0 : Room 16 callerA) (e0 : Env0 P w K mg base callerA [] s H) (h1 : H P1 = some (.tbl #[])) (h2 : H P2 = some (.tbl #[])) (hs : SqL K H a (ns.map V.int)) (hn : ns.length ≤ 1000) :
    codeAny (model P w) callerA (.call (.ref T.f_law) ⟨[.ref a], []⟩) (CR CX0 [] P w H s (fun v _ => v = .bl true) E0) s := by
  obtain ⟨oc, od, kV, doc, pm, an, cdv, ct, osl, efd, lk, hcd⟩ := T.F_law.ex
  have hb := T.b_law
  rw [efd] at lk hb
  refine LamX.run_ofS (N := nm_law) (ps := ["script"]) (us := [.ref a]) (vs := [.ref a]) lk hcd sc_law hr0 e0 (hb s [.ref a] (e0.mod.kin.keeps fun b o e => (e0.bs b o e).1) rfl) (.cons rfl .nil) rfl fun hr => ?_
  suffices h : ∃ t, PSs (cxOf CX0 P w K mg base nm_law "law" (defScope s_law) T.f_law cdv callerA [] s H E0).nox (defBody s_law) t ∧ t { nx := fun _ H' => (V.non = .bl true), rt := fun v _ => v = .bl true } (L2.start nm_law [.ref a]) H from
    h.elim fun t z => ⟨t, z.1.nox, z.2⟩
  have hg : (callerA.deeper (PyProof.Rows.envOfC "law" (defScope s_law) s.heap.objs.size T.f_law cdv)).guards = some [] := rfl
  refine ⟨_, (pss_cons (ps_set (i := 1) sc_law.nd rfl (Or.inr rfl) (pe_call (ok__law_tape T) (hr.mono (by decide)) (by rfl) T.m__law_tape T.F__law_tape.kp T.b__law_tape .nil pass0 (pa_cons (pv 0) pa_nil)))
    (pss_cons (ps_if (pt_not (pt_val (pe_call0 (ok__law_known_right T Y BT BM) (hr.mono (by decide)) (by rfl) T.m__law_known_right T.F__law_known_right.kp T.b__law_known_right .nil pass0))) (pss_one (ps_ret pe_bl)) pss_nil)
    (pss_cons (ps_for PassesOwn.never rfl (pi_range1 rfl T.t_range (pa_cons pe_int pa_nil)) (pg_name (i := 2) sc_law.nd rfl (Or.inl rfl))
      (pss_cons (ps_set (i := 3) sc_law.nd rfl (.inl rfl) (pe_call (ok__law_parts T) (hr.mono (by decide)) (by rfl) T.m__law_parts T.F__law_parts.kp T.b__law_parts .nil pass0 (pa_cons (pv 1) pa_nil)))
      (pss_cons (ps_par (i := 4) (j := 5) rfl sc_law.nd rfl rfl (by decide) rfl rfl (pa_cons (pe_make T.M_Door (ok_Door_init T) (hr.mono (by decide)) (by rfl) T.m_Door T.b_Door_init .nil pass0 (pa_cons (pe_ix (iT (K := K) rfl) (pv 3) pe_int (fun _ _ => rfl)) (pa_cons (pe_ix (iT (K := K) rfl) (pv 3) pe_int (fun _ _ => rfl)) (pa_cons (pe_ix (iT (K := K) rfl) (pv 3) pe_int (fun _ _ => rfl)) (pa_cons (pe_ix (iT (K := K) rfl) (pv 3) pe_int (fun _ _ => rfl)) pa_nil))))) (pa_cons (pe_call (ok__law_states T) (hr.mono (by decide)) (by rfl) T.m__law_states T.F__law_states.kp T.b__law_states .nil pass0 (pa_cons (pv 1) (pa_cons (pe_op op_cat (pe_lst (pa_cons pe_str pa_nil)) (pe_callTy (tList (K := K) rfl) (by rfl) T.t_list (by decide +kernel) (pa_cons (pe_ix (iT (K := K) rfl) (pv 3) pe_int (fun _ _ => rfl)) pa_nil))) pa_nil))) pa_nil)) (by rfl))
      (pss_cons (ps_par (i := 6) (j := 7) rfl sc_law.nd rfl rfl (by decide) rfl rfl (pa_cons (pe_call (ok__law_rules T) (hr.mono (by decide)) (by rfl) T.m__law_rules T.F__law_rules.kp T.b__law_rules .nil pass0 (pa_cons (pv 1) (pa_cons (pv 3) (pa_cons (pv 5) pa_nil)))) (pa_cons pe_dnewK pa_nil)) (by rfl))
      (pss_cons (ps_set (i := 8) sc_law.nd rfl (.inl rfl) (pe_callB (cSortD rfl) (by rfl) T.t_sorted (by decide +kernel) (pa_cons (pe_callTy (call_dictP rfl) (by rfl) T.t_dict (by decide +kernel) (pa_cons (pe_lc (own := [("key", 16), ("goal", 17)]) (g := gTup K 2 (gCons (gName 16) (gCons (gName 17) gNil))) (tt := tYes) rfl sc_law.nd (wT (K := K) rfl (pv 6)) (blkOk_by (N := nm_law) (sc := defScope s_law) (by decide +kernel)) (fun _ _ _ _ _ => (pg_tup rfl (pgs_cons (pg_name (i := 16) sc_law.nd rfl (Or.inl rfl)) (pgs_cons (pg_name (i := 17) sc_law.nd rfl (Or.inl rfl)) pgs_nil)))) (fun _ _ _ _ _ => pts_nil) (fun _ _ _ _ _ => (pe_tup (pa_cons (pv 17) (pa_cons pe_bl pa_nil))))) pa_nil)) pa_nil)))
      (pss_cons (ps_set (i := 9) sc_law.nd rfl (.inl rfl) (pe_callTy (tTup (K := K) rfl) (by rfl) T.t_tuple (by decide +kernel) (pa_cons (pe_lc (own := [("one", 15)]) (g := gName 15) (tt := _) rfl sc_law.nd (wL (K := K) rfl (pv 8)) (blkOk_by (N := nm_law) (sc := defScope s_law) (by decide +kernel)) (fun _ _ _ _ _ => (pg_name (i := 15) sc_law.nd rfl (Or.inl rfl))) (fun _ _ _ _ _ => pts_one (pt_cmpR op_eq (pe_call (ok__law_pick T) (hr.mono (by decide)) (by rfl) T.m__law_pick T.F__law_pick.kp T.b__law_pick .nil pass0 (pa_cons (pv 1) (pa_cons pe_int pa_nil))) pe_int (nomark _))) (fun _ _ _ _ _ => (pv 15))) pa_nil)))
      (pss_cons (ps_par (i := 10) (j := 11) rfl sc_law.nd rfl rfl (by decide) rfl rfl (pa_cons (pe_make T.M_Machine (ok_Machine_init T BM) (hr.mono (by decide)) (by rfl) T.m_Machine T.b_Machine_init .nil (passes_call (E := E0) LamX.takes0 (fun _ _ _ _ h => h)) (pa_cons (pv 4) (pa_cons (pv 6) (pa_cons (pv 9) pa_nil)))) (pa_cons (pe_call (ok__law_text T) (hr.mono (by decide)) (by rfl) T.m__law_text T.F__law_text.kp T.b__law_text .nil pass0 (pa_cons (pv 6) (pa_cons (pv 9) pa_nil))) pa_nil)) (by rfl))
      (pss_cons (ps_if (PW.pt (pw_or (PW.pt (pw_and (pt_cmpR op_gt (pe_callB (cLen (K := K) rfl) (by rfl) T.t_len (by decide +kernel) (pa_cons (pv 9) pa_nil)) pe_int (nomark _)) (pw_and1 (pt_cmpR op_ne (pe_call (ok_machine_text T) (hr.mono (by decide)) (by rfl) T.m_machine_text T.F_machine_text.kp T.b_machine_text .nil pass0 (pa_cons (pv 10) pa_nil)) (pv 11) (nomark _))))) (pw_or1 (pt_cmpR (op_neI (ok_Machine_eq T Y) Y.onM (hr.mono (by decide)) T.b_Machine_eq pass0) (pe_call (ok_read_machine T BT BM) (hr.mono (by decide)) (by rfl) T.m_read_machine T.F_read_machine.kp T.b_read_machine .nil (passes_call (E := E0) LamX.takes0 (fun _ _ _ _ h => h)) (pa_cons (pv 4) (pa_cons (pe_call (ok_machine_text T) (hr.mono (by decide)) (by rfl) T.m_machine_text T.F_machine_text.kp T.b_machine_text .nil pass0 (pa_cons (pv 10) pa_nil)) pa_nil))) (pv 10) (nomark _))))) (pss_one (ps_ret pe_bl)) pss_nil)
      (pss_cons (ps_set (i := 12) sc_law.nd rfl (.inl rfl) (pe_call (ok_read_machine T BT BM) (hr.mono (by decide)) (by rfl) T.m_read_machine T.F_read_machine.kp T.b_read_machine .nil (passes_call (E := E0) LamX.takes0 (fun _ _ _ _ h => h)) (pa_cons (pv 4) (pa_cons (pe_call (ok_machine_text T) (hr.mono (by decide)) (by rfl) T.m_machine_text T.F_machine_text.kp T.b_machine_text .nil pass0 (pa_cons (pv 10) pa_nil)) pa_nil))))
      (pss_cons (ps_if (pt_cmpR op_ne (pe_callB (cReprD (K := K) rfl hg (units65 hr)) (by rfl) T.t_repr (by decide +kernel) (pa_cons (pe_lst (pa_cons (eFld (K := K) rfl (pv 12) rfl) (pa_cons (eFld (K := K) rfl (pv 12) rfl) pa_nil))) pa_nil)) (pe_callB (cReprD (K := K) rfl hg (units65 hr)) (by rfl) T.t_repr (by decide +kernel) (pa_cons (pe_lst (pa_cons (pv 6) (pa_cons (pv 9) pa_nil))) pa_nil)) (nomark _)) (pss_one (ps_ret pe_bl)) pss_nil)
      (pss_cons (ps_if (pt_not (pt_val (pe_call (ok__law_is_read_alike T) (hr.mono (by decide)) (by rfl) T.m__law_is_read_alike T.F__law_is_read_alike.kp T.b__law_is_read_alike .nil pass0 (pa_cons (pv 1) (pa_cons (pv 3) (pa_cons (pv 12) (pa_cons (pv 6) (pa_cons (pv 9) pa_nil)))))))) (pss_one (ps_ret pe_bl)) pss_nil)
      (pss_cons (ps_set (i := 13) sc_law.nd rfl (.inl rfl) (pe_callTy (tTup (K := K) rfl) (by rfl) T.t_tuple (by decide +kernel) (pa_cons (pe_slice (sL (K := K) rfl) (pv 8) po_none (po_some pe_int)) pa_nil)))
      (pss_cons (ps_set (i := 14) sc_law.nd rfl (.inl rfl) (pe_slice (sL (K := K) rfl) (pe_split (pe_call (ok__law_text T) (hr.mono (by decide)) (by rfl) T.m__law_text T.F__law_text.kp T.b__law_text .nil pass0 (pa_cons (pv 6) (pa_cons (pv 13) pa_nil))) pe_str) po_none (po_some (pe_un un_neg pe_int))))
      (pss_one (ps_if (PW.pt (pw_or (pt_not (pt_val (pe_call (ok__law_is_misread T BT BM Er ne TB1 F1) (hr.mono (by decide)) (by rfl) T.m__law_is_misread T.F__law_is_misread.kp T.b__law_is_misread .nil pass0 (pa_cons (pv 1) (pa_cons (pv 4) (pa_cons (pv 14) pa_nil)))))) (pw_or1 (pt_not (pt_val (pe_call (ok__law_is_no_machine T BT BM Er ne TB2 F2) (hr.mono (by decide)) (by rfl) T.m__law_is_no_machine T.F__law_is_no_machine.kp T.b__law_is_no_machine .nil pass0 (pa_cons (pv 1) (pa_cons (pv 4) (pa_cons (pv 5) (pa_cons (pv 6) (pa_cons (pv 13) pa_nil))))))))))) (pss_one (ps_ret pe_bl)) pss_nil)))))))))))))))
    (pss_one (ps_ret pe_bl))))), ?_⟩
  refine ⟨_, rfl, a, ns, rfl, hs, hn, fun G0 tp c s0 na nc t0 => ?_⟩
  have eT1 := s0 _ _ h1
  have eT2 := s0 _ _ h2
  have tb0 : LamX.Tabs (Tb P1 P2) G0 := fun p hp => by
    rcases List.mem_cons.mp hp with rfl | hp
    · exact LamX.TabS.nil eT1
    · rw [List.mem_singleton.mp hp]
      exact LamX.TabS.nil eT2
  refine ⟨rfl, fun G1 s1 => ⟨_, rfl, itf rfl ?_⟩⟩
  have t1 := t0.mono s1
  have tb1 := tb0.ext s1
  have fin : ∀ (σ : L2.St) (G : Hp), (∃ b2 b3 b4 b5 b6 b7 b8 b9 b10 b11 b12 b13 b14, σ = [some (.ref a), some (.ref tp), b2, b3, b4, b5, b6, b7, b8, b9, b10, b11, b12, b13, b14, none, none, none]) ∧ TapeAt G tp c ∧ LamX.Tabs (Tb P1 P2) G → True := fun _ _ _ => trivial
  refine ⟨4, rfl, by decide, by decide, for_range (lo := 0) (n := 4) (fun i σ G => (∃ b2 b3 b4 b5 b6 b7 b8 b9 b10 b11 b12 b13 b14, σ = [some (.ref a), some (.ref tp), b2, b3, b4, b5, b6, b7, b8, b9, b10, b11, b12, b13, b14, none, none, none]) ∧ TapeAt G tp c ∧ LamX.Tabs (Tb P1 P2) G)
    ⟨⟨_, _, _, _, _, _, _, _, _, _, _, _, _, rfl⟩, t1, tb1⟩ ?_ ?_⟩
  · rintro i σ G hi ⟨⟨b2, b3, b4, b5, b6, b7, b8, b9, b10, b11, b12, b13, b14, rfl⟩, tG, tbG⟩
    refine ⟨_, rfl, tp, c, rfl, tG, fun X1 pav d bX1 tX1 drn ipv => ?_⟩
    have tbX1 := tabs_but tbG tG bX1
    have gd := drn.good
    obtain ⟨pp, v0, v1, v2, v3, rfl, spp, i0, i1, i2, i3⟩ := parts_at ipv
    obtain ⟨sp1, rfl, ss1⟩ := strs_at2 i1
    refine ⟨_, rfl, pp, _, 0, _, rfl, rfl, spp, at0, _, rfl, pp, _, 1, _, rfl, rfl, spp, at1, _, rfl, pp, _, 2, _, rfl, rfl, spp, at2, _, rfl, pp, _, 3, _, rfl, rfl, spp, atI_nat (j := 3) rfl, ?_⟩
    intro cx dx hcx hdx nes
    have o1 : upd (upd X1 dx (.own cx)) cx (.ins T.C_Door dx []) cx = some (.ins T.C_Door dx []) := upd_same
    have so : Same X1 (upd (upd X1 dx (.own cx)) cx (.ins T.C_Door dx [])) := fun c u e => by
      rw [upd_ne (ne_of_none e hcx), upd_ne (ne_of_none e hdx)]
      exact e
    generalize upd (upd X1 dx (.own cx)) cx (.ins T.C_Door dx []) = X2 at o1 so ⊢
    refine ⟨cx, dx, _, _, _, _, d, rfl, gd, o1, Im.mono (sk so) _ _ i0, Im.mono (sk so) _ _ i1, Im.mono (sk so) _ _ i2, Im.mono (sk so) _ _ i3, fun X3 b3' dat => ⟨rfl, ?_⟩⟩
    have s13 : Same X1 X3 := fun c u e => b3' _ _ (ne_of_none e hcx) (so _ _ e)
    have t3 := tX1.mono s13
    refine ⟨_, rfl, by show 1 ≤ sizeLine; decide, fun l1 hl1 => ⟨_, rfl, pp, _, 1, _, rfl, rfl, keepT (s13.trans (sn hl1)) spp, at1, sp1, _, rfl, .inr (keepT (s13.trans (sn hl1)) ss1), fun l2 hl2 => ?_⟩⟩
    have sl2 : d.sealed.length ≤ 2 := by
      obtain ⟨hs', _, z⟩ := drn.some_
      rcases z with ⟨z, _⟩ | ⟨z, _⟩ <;> rw [z] <;> decide
    refine ⟨l1, l2, _, _, rfl, rfl, sn hl2 _ _ upd_same, upd_same, by rw [sizeLine_eq, List.length_map]; show 1 + _ ≤ _; omega, fun l3 hl3 => ?_⟩
    have l3a : l3 ≠ tp := (((t3.mono (sn hl1)).mono (sn (o := .lst (d.sealed.map V.str)) hl2)).new hl3).1
    generalize hX4 : upd (upd (upd X3 l1 _) l2 _) l3 _ = X4
    have s34 : Same X3 X4 := by
      rw [← hX4]
      exact ((sn hl1).trans (sn hl2)).trans (sn hl3)
    have e4 : X4 l3 = some (.lst ((("bit" : Str) :: d.sealed).map V.str)) := by
      rw [← hX4]
      exact upd_same
    clear hX4
    have t4 := t3.mono s34
    refine ⟨tp, c, l3, ("bit" : Str) :: d.sealed, rfl, t4, SqL.of e4, l3a, gd.kindsU, by rw [List.length_cons]; omega, fun X5 q es bX5 t5 st so' => ⟨_, _, rfl, ?_⟩⟩
    have b15 : But tp X1 X5 := (But.of (s13.trans s34)).trans bX5
    have ipv5 := Im.mono (b15.keep tX1.notup) _ _ ipv
    refine ⟨_, rfl, _, rfl, _, rfl, tp, c, q, .ref pp, d, es, rfl, t5, ipv5, drn, st, so', fun X6 rp rvs rs bX6 t6 R pl irs => ?_⟩
    intro kt hkt
    refine ⟨_, _, rfl, ?_⟩
    have s7 := sn (o := .dK []) hkt
    have t7 := t6.mono s7
    have b57 : But tp X5 (upd X6 kt (.dK [])) := bX6.trans (.of s7)
    have st7 := st.but t5 b57
    have b17 := b15.trans b57
    have dat7 := dat.stay t3 (((But.of s34).trans bX5).trans b57).t
    have tb7 := tabs_but tbX1 tX1 b17
    have pl7 := pl.mono s7
    have irs7 := ImAll.mono (sk s7) _ _ irs
    have ipv7 := Im.mono (b17.keep tX1.notup) _ _ ipv
    generalize upd X6 kt (.dK []) = Y0 at t7 st7 dat7 tb7 pl7 irs7 ipv7 ⊢
    clear s7 b57 b17 st irs pl t6 ipv5 ipv b15 t5 t4 e4 l3a tX1 tbX1
    have rlen := irs7.len
    rw [List.length_map] at rlen
    have r100 := R.many
    have r2 := R.two
    have small : ∀ n ∈ es.nums, 0 ≤ n ∧ n ≤ 7 := so'.small
    have goalsS : ∀ n ∈ rs.map Rl.goal, n ∈ statesOf rs := fun n hn => by
      obtain ⟨r, hr, rfl⟩ := List.mem_map.mp hn
      exact List.mem_flatMap.mpr ⟨r, hr, List.mem_append_right _ List.mem_cons_self⟩
    refine ⟨_, rfl, rp, rfl, ⟨_, pl7.sq⟩, fun D hD => lc_im (K := K) (walk_tup (K := K) (a := rp) (xs := rvs)) hD ((rs.map Rl.goal).map fun n => PyData.tuple [.int n, .bool true]) (by simp [rlen]) (by omega) (fun H2 hb => keepT (hb.same hD) pl7.sq) ?_ ?_⟩
    · rintro j dd y H0' H8 hz hb hne ⟨rfl, hy⟩
      rw [List.map_map, List.getElem?_map] at hz
      cases er : rs[j]? with
      | none => rw [er] at hz; cases hz
      | some r =>
        rw [er] at hz
        cases hz
        obtain ⟨v, ev, iv⟩ := (ImAll.mono (sk (hb.same hD)) _ _ irs7).get (i := j) (d := r.d) (by rw [List.getElem?_map, er]; rfl)
        rw [hy] at ev
        cases ev
        obtain ⟨p', q', rfl, sq', _⟩ := rl_at iv
        exact ⟨Same.refl _, fun N hN => ⟨p', _, rfl, sq', rfl, _, _, rfl, _, _, rfl, rfl, rfl, _, rfl, by show 2 ≤ sizeLine; decide, fun t ht => hN _ _ (sn ht) (im_tup (.inl (.inl upd_same)) (ia_cons im_int (ia_cons im_bl ia_nil)))⟩⟩
    intro H8 ys b8 e8 im8
    have s8 := b8.same hD
    obtain ⟨ps, rfl, prd⟩ := prs_im im8
    refine ⟨D, ps, kvT (rs.map Rl.goal), rfl, SqL.of e8, prd, fun dp hdp => ?_⟩
    obtain ⟨ks, hks, ksn, ksm⟩ := keys_merge (rs.map Rl.goal) (kvs := []) (ks := []) rfl List.nodup_nil
    have kmem : ∀ m ∈ ks, m ∈ statesOf rs := fun m hm => goalsS m ((ksm m).mp hm |>.elim (fun z => nomatch z) id)
    have ks8 : ks.length ≤ 8 := nodup_small 8 ks ksn fun x hx => by
      have := small x (states_small so' R x (kmem x hx))
      omega
    refine ⟨dp, _, ks, rfl, .inl upd_same, hks, by omega, fun known kp pm srt hkp => ?_⟩
    have kl8 : known.length ≤ 8 := by rw [pm.length_eq]; exact ks8
    have kris : known.Pairwise (· < ·) := rising (pm.nodup_iff.mpr ksn) srt
    have kin' : ∀ m ∈ known, m ∈ statesOf rs := fun m hm => kmem m (pm.mem_iff.mp hm)
    have kne : known ≠ [] := fun z => by
      have h3 : ∃ r, r ∈ rs := by
        cases rs with
        | nil => simp at r2
        | cons r _ => exact ⟨r, List.mem_cons_self⟩
      obtain ⟨r, hr⟩ := h3
      have : r.goal ∈ known := pm.mem_iff.mpr ((ksm _).mpr (.inr (List.mem_map_of_mem hr)))
      rw [z] at this
      cases this
    have s9 := sn (o := .dK (mergeK [] (kvT (rs.map Rl.goal)))) hdp
    generalize upd H8 dp _ = Z0 at s9 hkp ⊢
    have s10 := sn (o := .lst (known.map V.int)) hkp
    have eK : upd Z0 kp (.lst (known.map V.int)) kp = some (.lst (known.map V.int)) := upd_same
    generalize upd Z0 kp (.lst (known.map V.int)) = Z at s10 eK ⊢
    have sYZ : Same Y0 Z := (s8.trans s9).trans s10
    have tZ := t7.mono sYZ
    have stZ := st7.mono sYZ
    have datZ := dat7.mono sYZ
    have tbZ := tb7.ext sYZ
    have plZ := pl7.mono sYZ
    have irsZ := ImAll.mono (sk sYZ) _ _ irs7
    have ipvZ := Im.mono (sk sYZ) _ _ ipv7
    have kpa : kp ≠ tp := ((t7.mono (s8.trans s9)).new hkp).1
    clear t7 st7 dat7 tb7 pl7 irs7 ipv7 sYZ s8 s9 s10 e8 b8 hkp hdp
    refine ⟨_, rfl, kp, rfl, ⟨_, SqL.of eK⟩, fun D hD => lc_it (walk_list (K := K) (a := kp) (xs := known.map V.int)) (fun i X => But2 tp D Z X ∧ TapeAt X tp c ∧ ∃ ls : List Int, X D = some (.lst (ls.map V.int)) ∧ ls.Sublist (known.take i)) ?_ ?_ ?_ ?_⟩
    · exact ⟨fun b o _ n e => by rw [upd_ne n]; exact e, tZ.upd (tZ.new hD).1 (tZ.new hD).2, [], upd_same, List.nil_sublist _⟩
    · rintro j X _ ⟨bX, _⟩
      exact SqL.of (bX _ _ kpa (ne_of_none eK hD) eK)
    · rintro j y X X' hj ⟨bX, tX, ls, eD, sub⟩ ⟨rfl, hy⟩
      rw [List.length_map] at hj
      obtain ⟨m, em⟩ : ∃ m, known[j]? = some m := ⟨_, List.getElem?_eq_getElem hj⟩
      rw [List.getElem?_map, em] at hy
      cases hy
      have Da := (tZ.new hD).1
      have sl := sub.length_le
      rw [List.length_take] at sl
      have tk1 : known.take (j + 1) = known.take j ++ [m] := by
        rw [List.take_add_one, em]
        rfl
      refine ⟨rfl, _, rfl, tp, c, 2, rfl, tX, by decide, by decide, fun G' x bt tG' x0 x1 => ⟨rfl, _, rfl, ?_⟩⟩
      have bG' : But2 tp D Z G' := fun b o n1 n2 e => bt b o n1 (bX b o n1 n2 e)
      have eD' := bt _ _ Da eD
      by_cases hx : x = 0
      · refine itt (decide_eq_true (by rw [hx])) ⟨_, rfl, _, eD', by rw [sizeLine_eq, List.length_map]; omega, fun b o n1 n2 e => by rw [upd_ne n2]; exact bG' b o n1 n2 e, tG'.upd Da (tZ.new hD).2, ls ++ [m], ?_, ?_⟩
        · rw [upd_same, List.map_append]
          rfl
        · rw [tk1]
          exact sub.append (List.Sublist.refl _)
      · refine itf (decide_eq_false fun z => hx (V.int.inj z)) ⟨bG', tG', ls, eD', ?_⟩
        rw [tk1]
        exact sub.trans (List.sublist_append_left _ _)
    rintro X ⟨bX, tX, ls, eD, sub⟩
    rw [List.length_map, List.take_length] at sub
    refine ⟨D, _, rfl, .inl ⟨SqL.of eD, fun lp hlp => ?_⟩⟩
    have s11 := sn (o := .tup (ls.map V.int)) hlp
    have slp : SqT K (upd X lp (.tup (ls.map V.int))) lp (ls.map V.int) := .inl (.inl upd_same)
    generalize upd X lp (.tup (ls.map V.int)) = W0 at s11 slp ⊢
    have bZW : But tp Z W0 := fun b o n e => s11 _ _ (bX b o n (ne_of_none e hD) e)
    have tW := tX.mono s11
    have stW := stZ.but tZ bZW
    have datW := datZ.stay tZ bZW.t
    have tbW := tabs_but tbZ tZ bZW
    have kZW := bZW.keep tZ.notup
    have plW := plZ.stay tZ bZW.t
    have irsW := ImAll.mono kZW _ _ irsZ
    have ipvW := Im.mono kZW _ _ ipvZ
    have eKW := bZW _ _ kpa eK
    have RK := rules_ok gd so' R
    have fitR : ∀ x ∈ rs, x.fit := fun x hx => rule_fit gd so' (R.each x hx)
    have inSt : ∀ x ∈ statesOf rs, inS x = true := fun x hx => inS_of (small x (states_small so' R x hx))
    have lsl : ls.length ≤ 8 := Nat.le_trans sub.length_le kl8
    have lin : ∀ x ∈ ls, inT x := fun x hx => inT_inS (inSt x (kin' x (sub.subset hx)))
    have lok : LastOk rs ls := ⟨List.all_eq_true.mpr fun x hx => inSt x (kin' x (sub.subset hx)), kris.sublist sub, fun x hx => kin' x (sub.subset hx)⟩
    clear tZ stZ datZ tbZ plZ irsZ ipvZ tX bX eD hlp eK kZW bZW
    have ilW : Im K W0 (.tuple (ls.map PyData.int)) (.ref lp) := im_tup slp (ia_intsOf ls)
    have irW : Im K W0 (.tuple (rs.map Rl.d)) (.ref rp) := im_tup plW.sq irsW
    refine ⟨_, rfl, _, rfl, _, rfl, fun mx dm hmx hdm nem => ?_⟩
    have o2 : upd (upd W0 dm (.own mx)) mx (.ins T.C_Machine dm []) mx = some (.ins T.C_Machine dm []) := upd_same
    have so2 : Same W0 (upd (upd W0 dm (.own mx)) mx (.ins T.C_Machine dm [])) := fun c u e => by
      rw [upd_ne (ne_of_none e hmx), upd_ne (ne_of_none e hdm)]
      exact e
    generalize upd (upd W0 dm (.own mx)) mx (.ins T.C_Machine dm []) = W1 at o2 so2 ⊢
    refine ⟨mx, dm, cx, _, _, d, rs, ls, kdOf es, none, rfl, o2, datW.mono so2, Im.mono (sk so2) _ _ irW, Im.mono (sk so2) _ _ ilW, by omega, by omega, fun r hr => ?_, .fine RK lok, ?_, fun v e => nomatch e⟩
    · have f := fitR r hr
      exact ⟨f.name, name_short f.name, by have := f.few; omega⟩
    rintro _ W2 bW2 mat
    refine ⟨rfl, ?_⟩
    have s02 : Same W0 W2 := fun c u e => bW2 _ _ (ne_of_none e hmx) (so2 _ _ e)
    refine ⟨_, rfl, _, rfl, .ref rp, .ref lp, rs, ls, rfl, Im.mono (sk s02) _ _ irW, Im.mono (sk s02) _ _ ilW, fitR, by omega, by omega, lin, fun W3 s23 => ⟨_, _, rfl, ?_⟩⟩
    have s03 := s02.trans s23
    have mat3 := mat.mono s23
    have tlen := mach_len fitR lin (by omega) (by omega)
    have reads := reads_comes fitR lin (by omega) (by omega) (.fine RK lok)
    -- the text is the machine's, read back it is the machine
    dsimp only
    refine seq_if ?_
    refine or_skip (Same W3) (fun N' hN => ?_) (fun W4 s34 => ?_)
    · refine ⟨_, rfl, lp, _, rfl, .inr (keepT s03 slp), _, _, rfl, rfl, _, rfl, ?_⟩
      by_cases h0 : (0 : Int) < ((ls.map V.int).length : Int)
      · exact itt (decide_eq_true h0) ⟨_, rfl, mx, cx, d, rs, ls, rfl, mat3, fitR, by omega, by omega, lin, fun G4 s4 => ⟨_, rfl, rfl, _, rfl, by rw [decide_eq_true rfl]; exact hN _ s4⟩⟩
      · exact itf (decide_eq_false h0) (hN _ (Same.refl _))
    have mat4 := mat3.mono s34
    have s04 := s03.trans s34
    refine ⟨_, rfl, _, rfl, mx, cx, d, rs, ls, rfl, mat4, fitR, by omega, by omega, lin, fun W5 s45 => ?_⟩
    have s05 := s04.trans s45
    refine ⟨cx, _, d, rfl, datW.mono s05, .inr ⟨machT rs ls, .fine rs ls, rfl, tlen, reads, fun W6 y s56 maty => ?_⟩⟩
    have mat6 := (mat4.mono s45).mono s56
    have s06 := s05.trans s56
    obtain ⟨dy, _, _, _, _, _, fy⟩ := id maty
    obtain ⟨dm2, _, _, _, _, _, fm⟩ := id mat6
    refine ⟨_, rfl, y, mx, dy, dm2, _, _, rfl, rfl, fy.at_, fm.at_, y, mx, cx, d, rs, ls, rfl, maty, mat6, fun r hr => (fitR r hr).name, fun W7 s67 => ⟨true, rfl, _, rfl, iteF ?_⟩⟩
    have s07 := s06.trans s67
    have mat7 := mat6.mono s67
    refine ⟨_, rfl, _, rfl, mx, cx, d, rs, ls, rfl, mat7, fitR, by omega, by omega, lin, fun W8 s78 => ?_⟩
    have s08 := s07.trans s78
    refine ⟨cx, _, d, rfl, datW.mono s08, .inr ⟨machT rs ls, .fine rs ls, rfl, tlen, reads, fun W9 z s89 matz => ?_⟩⟩
    have s09 := s08.trans s89
    clear maty fy mat6 mat7 mat4 mat3 mat fm s34 s45 s56 s67 s78 s89 s05 s06 s07 s08 s04
    obtain ⟨dz, lz, skz, oz, rvz, lvz, fz⟩ := id matz
    have lay := again_lay fitR lin (by omega) (by omega)
    have shw := again_show fitR lin
    have sho := again_short fitR lin
    refine ⟨_, rfl, z, _, dz, _, _, rfl, fz.at_, T.cl_Machine, T.n_Machine_rules, rfl, _, rfl, z, _, dz, _, _, rfl, fz.at_, T.cl_Machine, T.n_Machine_last, rfl, by show 2 ≤ sizeLine; decide, fun la hla => ?_⟩
    have sa := sn (o := .lst [rvz, lvz]) hla
    refine ⟨la, againD rs ls, rfl, .lst (SqL.of upd_same) (.cons (Im.dp _ _ (Im.mono (sk sa) _ _ fz.rules)) (.cons (Im.dp _ _ (Im.mono (sk sa) _ _ fz.last)) .nil)), lay, shw, sho, _, rfl, _, rfl, by show 2 ≤ sizeLine; decide, fun lb hlb => ?_⟩
    have sb := sn (o := .lst [.ref rp, .ref lp]) hlb
    have s0b := (s09.trans sa).trans sb
    refine ⟨lb, againD rs ls, rfl, .lst (SqL.of upd_same) (.cons (Im.dp _ _ (Im.mono (sk s0b) _ _ irW)) (.cons (Im.dp _ _ (Im.mono (sk s0b) _ _ ilW)) .nil)), lay, shw, sho, rfl, _, rfl, itf (by rw [decide_eq_true rfl]; rfl) ?_⟩
    have matV := matz.mono (sa.trans sb)
    generalize upd (upd W9 la _) lb _ = V0 at s0b matV ⊢
    clear sa sb hla hlb fz lay shw sho matz s09 s02 s03 s23 so2 o2 hmx hdm nem
    have tV := tW.mono s0b
    have kV0 := sk s0b
    have gin : ∀ r ∈ rs, inT r.goal := fun r hr => (fitR r hr).goal
    dsimp only
    refine ⟨_, rfl, _, rfl, _, rfl, _, rfl, _, rfl, tp, c, .ref pp, z, cx, rp, .ref lp, d, rs, rvs, ls, rfl, tV, Im.mono kV0 _ _ ipvW, drn, matV, plW.mono s0b, ImAll.mono kV0 _ _ irsW, R.apart, gin, Im.mono kV0 _ _ ilW, fun V1 bV1 tV1 => ⟨_, rfl, itf rfl ?_⟩⟩
    have b01 : But tp W0 V1 := (But.of s0b).trans bV1
    obtain ⟨m, kr, rfl⟩ : ∃ m kr, known = m :: kr := by
      cases known with
      | nil => exact absurd rfl kne
      | cons m kr => exact ⟨m, kr, rfl⟩
    have mst : m ∈ statesOf rs := kin' m List.mem_cons_self
    have mT : inT m := inT_inS (inSt m mst)
    have lok' : LinesOk rs [m] := ⟨fitR, fun x hx => by rw [List.mem_singleton.mp hx]; exact mT, by show 1 ≤ 20; decide, by omega, r100⟩
    have eK1 := b01 _ _ kpa eKW
    refine ⟨_, rfl, _, rfl, kp, _, rfl, SqL.of eK1, fun w hw => ⟨w, _, rfl, .inl ⟨SqL.of upd_same, fun wp hwp => ?_⟩⟩⟩
    generalize hV2 : upd (upd V1 w _) wp _ = V2
    have s12 : Same V1 V2 := by
      rw [← hV2]
      exact (sn hw).trans (sn hwp)
    have swp : SqT K V2 wp ([m].map V.int) := by
      rw [← hV2]
      exact .inl (.inl upd_same)
    clear hV2
    have b02 : But tp W0 V2 := b01.trans (.of s12)
    have t2 := tV1.mono s12
    have kW2 := b02.keep tW.notup
    have iw2 : Im K V2 (.tuple ([m].map PyData.int)) (.ref wp) := im_tup swp (ia_intsOf [m])
    have ir2 := Im.mono kW2 _ _ irW
    have mT' : ∀ x ∈ [m], inT x := fun x hx => by rw [List.mem_singleton.mp hx]; exact mT
    refine ⟨_, rfl, _, rfl, .ref rp, .ref wp, rs, [m], rfl, ir2, iw2, fitR, by omega, by show 1 ≤ 60; decide, mT', fun V3 s23 => ?_⟩
    have ml := mach_len fitR mT' (by omega) (by show 1 ≤ 20; decide)
    have split : Txt.split (machT rs [m]) ("\n" : Str) = linesM rs [m] ++ [("" : Str)] := lines_joinT (LinesOk.flat lok')
    refine ⟨⟨_, rfl⟩, machT rs [m], ("\n" : Str), rfl, rfl, by decide +kernel, by rw [sizeLine_eq]; omega, fun sp hsp => ?_⟩
    refine ⟨1, rfl, _, rfl, sp, _, rfl, SqL.of upd_same, fun ll hll => ?_⟩
    generalize hV4 : upd (upd V3 sp _) ll _ = V4
    have s34 : Same V3 V4 := by
      rw [← hV4]
      exact (sn hsp).trans (sn hll)
    have ell : V4 ll = some (.lst ((linesM rs [m]).map V.str)) := by
      rw [← hV4, upd_same, split, List.map_append]
      exact congrArg (fun y => some (HO.lst y)) (cut_1 _ _)
    have nll : ll ≠ tp := fun e => by
      rw [← e] at t2
      obtain ⟨xs, e2⟩ := TapeAt.lst t2
      rw [sn hsp _ _ (s23 _ _ e2)] at hll
      cases hll
    clear hV4
    have b04 : But tp W0 V4 := b02.trans (.of (s23.trans s34))
    have t4 := t2.mono (s23.trans s34)
    have tab4 := tabs_but tbW tW b04
    refine ⟨_, rfl, _, rfl, _, rfl, tp, c, cx, ll, d, rs, [m], rfl, t4, tab4, datW.stay tW b04.t, ell, nll, lok', fun V5 bt5 t5 tab5 => ⟨_, rfl, iteF ?_⟩⟩
    have bt05 : ButT tp W0 V5 := b04.t.trans bt5
    have k5 := bt05.keep tW
    have bt25 : ButT tp V2 V5 := (But.of (s23.trans s34)).t.trans bt5
    refine ⟨_, rfl, _, rfl, _, rfl, _, rfl, _, rfl, tp, c, cx, q, .ref rp, .ref wp, d, es, rs, m, rfl, t5, tab5, datW.stay tW bt05, drn, stW.stay tW bt05, so', R, Im.mono k5 _ _ irW, Im.mono (bt25.keep t2) _ _ iw2, mst, fun V6 bt6 t6 tab6 => ⟨_, rfl, itf rfl ?_⟩⟩
    exact ⟨⟨_, _, _, _, _, _, _, _, _, _, _, _, _, rfl⟩, t6, tab6⟩
  rintro σ G ⟨_, _, _⟩
  exact rfl
end
end T82
/-! ### from the head's facts to the law -/
namespace T82
open PySem PySem.Spec
open PyProof.Rows L2
/-- what the written part must say -/
def LawOk (P : Program) (K : PySem.W.Frag) (mg : Str → Option Value) (Ps : List Addr) (fa : Addr) : Prop :=
  ∃ (T : Tx K mg) (_ : Ty T) (fT fM : Addr) (_ : BadTextX.Txt P K mg T.C_BadText fT) (_ : BadMachineX.Txt P K mg T.C_BadMachine fM) (_ : ErrT T) (c1 c2 P1 P2 : Addr), T.f_law = fa ∧ P1 ≠ P2 ∧
    FunC K "_law_is_misread" s__law_is_misread T.f__law_is_misread T.d__law_is_misread c1 ∧ FunC K "_law_is_no_machine" s__law_is_no_machine T.f__law_is_no_machine T.d__law_is_no_machine c2 ∧
    K.lookup P1 = none ∧ K.lookup P2 = none ∧ PySem.W.codeHdIn K c1 P1 = true ∧ PySem.W.codeHdIn K c2 P2 = true ∧ P1 ∈ Ps ∧ P2 ∈ Ps
theorem room16 : Room 16 callerA := ⟨rfl, by decide, by decide⟩
theorem walkT {l : PySem.W.OpenLaw} {q : Program} {loose : List Str} {XP : (Str → Option Value) → Heap → Prop} {YP : World → Heap → Prop} {d : DefRec} {K : Params → PySem.W.Frag} {Ps : List Addr} (most : l.most = some 63) (nodef : d.params.defaults = [])
    (hY : ∀ (w : World) (h : Heap), YP w h → (K w.params).In h ∧ ∀ P ∈ Ps, h.get? P = some (PySem.W.tabObj #[]))
    (F : ∀ (w : World) (mg : Str → Option Value) (fa : Addr) (h : Heap), (K w.params).In h → h.Ns mainGlobals mg → mg d.name = some (.ref fa) → LawOk l.prog (K w.params) mg Ps fa) :
    PySem.W.WalkO q loose XP YP l.row.toRowW d [] (fun f xs => PySem.call f xs) := by
  refine Att.attach_call most nodef fun w u0 u1 gm bm fa ob m1 m2 m3 sa xs is Gr Yp e1 e2 e3 e4 e5 e6 e7 e8 => ?_
  obtain ⟨kin, tabs⟩ := hY w _ Yp
  obtain ⟨T, Y, fT, fM, BT, BM, Er, c1, c2, P1, P2, rfl, ne, F1, F2, n1, n2, d1, d2, m1', m2'⟩ := F w gm fa _ kin Gr.T.g e4
  have both : ∀ {S : Addr × Addr → Prop}, S (c1, P1) → S (c2, P2) → ∀ p ∈ [(c1, P1), (c2, P2)], S p := fun a b p hp => by
    rcases List.mem_cons.mp hp with rfl | hp
    · exact a
    · rw [List.mem_singleton.mp hp]
      exact b
  refine law_runT (cs := [(c1, P1), (c2, P2)]) kin Gr.T.g Gr.T.b Gr.T.builtins Gr.T.nolimit e8 (both (tabs _ m1') (tabs _ m2')) (both n1 n2) (both (PySem.W.codeHd_of_K kin d1) (PySem.W.codeHd_of_K kin d2)) Gr.T.bmain e5 e6 (Nat.le_trans e7 (by decide)) ?_
  intro base H _ _ TB env hT hS
  exact run_law T Y BT BM Er ne (TB _ List.mem_cons_self) (TB _ (List.mem_cons_of_mem _ List.mem_cons_self)) F1 F2 room16 env (hT _ List.mem_cons_self) (hT _ (List.mem_cons_of_mem _ List.mem_cons_self)) hS (Nat.le_trans e7 (by decide))
end T82
namespace T82
open PySem PySem.Spec PySem.W
open PyProof.Rows L2 PySem.HandSPX PySem.Calls
/-! ### the end -/
theorem kit_same {K : PySem.W.Frag} {v : Value} : PySem.W.kitOne K v v = some true := if_pos (beq_self_eq_true v)
theorem kit_cls {K : PySem.W.Frag} {v : Value} {D : Addr} {b : Bool} (i : PySem.W.isClsIn K D = true) (t : PySem.W.typeIn K (.ref D) = some (.type "type")) (s : PySem.W.subIn K v (.ref D) = some b) : PySem.W.kitCls K v (.ref D) = some b := by
  have i : (PySem.W.clsIn K D).isSome = true := i
  unfold PySem.W.kitCls
  simp only [i, t, beq_self_eq_true, Bool.and_self, if_true]
  exact s
theorem kit_other {K : PySem.W.Frag} {v : Value} {D : Addr} {b : Bool} (n : (v == .ref D) = false) (i : PySem.W.isClsIn K D = true) (t : PySem.W.typeIn K (.ref D) = some (.type "type")) (s : PySem.W.subIn K v (.ref D) = some b) : PySem.W.kitOne K v (.ref D) = some b := by
  unfold PySem.W.kitOne
  rw [n]
  exact kit_cls i t s
theorem kit_VE {K : PySem.W.Frag} {C : Addr} {b : Bool} (s : PySem.W.subIn K (.ref C) (.type "ValueError") = some b) : PySem.W.kitOne K (.ref C) (.type "ValueError") = some b := s
theorem exm_cls {K : PySem.W.Frag} {v : Value} {D : Addr} {b : Bool} (e : PySem.W.subIn K (.ref D) (.type "BaseException") = some true) (i : PySem.W.isClsIn K D = true) (t : PySem.W.typeIn K (.ref D) = some (.type "type")) (s : PySem.W.subIn K v (.ref D) = some b) : PySem.W.exmOne K v (.ref D) = some b := by
  unfold PySem.W.exmOne
  rw [e]
  exact kit_cls i t s
theorem gather {P : Program} {K : PySem.W.Frag} {h : Heap} {mg : Str → Option Value} {fa : Addr} {Ps : List Addr} (X : K.In h) (G : h.Ns mainGlobals mg) (hfa : mg "law" = some (.ref fa))
    {k_LETTERS : Tok}
    {k_MOST_LETTERS : Tok}
    {k_MOST_NUMBER : Tok}
    {k_UNKNOWN : Tok}
    {k_MOST_STATES : Tok}
    {k_MOST_RULES : Tok}
    {k_MOST_PARTS : Tok}
    {k_MOST_KINDS : Tok}
    {k_MOST_WORDS : Tok}
    {k_MOST_HEADS : Tok}
    {k_MOST_LAWS : Tok}
    {k_MOST_LAW_PARTS : Tok}
    {k_MOST_SHAPE : Tok}
    {k_FIGURES : Tok}
    {k_MOST_FIGURES : Tok}
    {C_DoorError : Addr}
    {C_BadDoor : Addr}
    {C_BadText : Addr}
    {C_BadMachine : Addr}
    {C_NoBuilt : Addr}
    {C_Machine : Addr}
    {C_Order : Addr}
    {C_Shape : Addr}
    {C_Door : Addr}
    {c1 c2 P1 P2 : Addr}
    {f_is_integer : Addr}
    {oc_is_integer kv_is_integer dc_is_integer pm_is_integer cd_is_integer ct_is_integer : Value}
    {od_is_integer an_is_integer : Option Addr}
    {sl_is_integer : Array (Option Value)}
    {f_is_within : Addr}
    {oc_is_within kv_is_within dc_is_within pm_is_within cd_is_within ct_is_within : Value}
    {od_is_within an_is_within : Option Addr}
    {sl_is_within : Array (Option Value)}
    {f_is_name : Addr}
    {oc_is_name kv_is_name dc_is_name pm_is_name cd_is_name ct_is_name : Value}
    {od_is_name an_is_name : Option Addr}
    {sl_is_name : Array (Option Value)}
    {f_is_tuple : Addr}
    {oc_is_tuple kv_is_tuple dc_is_tuple pm_is_tuple cd_is_tuple ct_is_tuple : Value}
    {od_is_tuple an_is_tuple : Option Addr}
    {sl_is_tuple : Array (Option Value)}
    {f_are_unlike : Addr}
    {oc_are_unlike kv_are_unlike dc_are_unlike pm_are_unlike cd_are_unlike ct_are_unlike : Value}
    {od_are_unlike an_are_unlike : Option Addr}
    {sl_are_unlike : Array (Option Value)}
    {f_is_unknown : Addr}
    {oc_is_unknown kv_is_unknown dc_is_unknown pm_is_unknown cd_is_unknown ct_is_unknown : Value}
    {od_is_unknown an_is_unknown : Option Addr}
    {sl_is_unknown : Array (Option Value)}
    {f_is_word : Addr}
    {oc_is_word kv_is_word dc_is_word pm_is_word cd_is_word ct_is_word : Value}
    {od_is_word an_is_word : Option Addr}
    {sl_is_word : Array (Option Value)}
    {f_is_called : Addr}
    {oc_is_called kv_is_called dc_is_called pm_is_called cd_is_called ct_is_called : Value}
    {od_is_called an_is_called : Option Addr}
    {sl_is_called : Array (Option Value)}
    {f_size_of : Addr}
    {oc_size_of kv_size_of dc_size_of pm_size_of cd_size_of ct_size_of : Value}
    {od_size_of an_size_of : Option Addr}
    {sl_size_of : Array (Option Value)}
    {f_parts_of : Addr}
    {oc_parts_of kv_parts_of dc_parts_of pm_parts_of cd_parts_of ct_parts_of : Value}
    {od_parts_of an_parts_of : Option Addr}
    {sl_parts_of : Array (Option Value)}
    {f_numbers_in : Addr}
    {oc_numbers_in kv_numbers_in dc_numbers_in pm_numbers_in cd_numbers_in ct_numbers_in : Value}
    {od_numbers_in an_numbers_in : Option Addr}
    {sl_numbers_in : Array (Option Value)}
    {f_is_built : Addr}
    {oc_is_built kv_is_built dc_is_built pm_is_built cd_is_built ct_is_built : Value}
    {od_is_built an_is_built : Option Addr}
    {sl_is_built : Array (Option Value)}
    {f_check_built : Addr}
    {oc_check_built kv_check_built dc_check_built pm_check_built cd_check_built ct_check_built : Value}
    {od_check_built an_check_built : Option Addr}
    {sl_check_built : Array (Option Value)}
    {f_shape_of_name : Addr}
    {oc_shape_of_name kv_shape_of_name dc_shape_of_name pm_shape_of_name cd_shape_of_name ct_shape_of_name : Value}
    {od_shape_of_name an_shape_of_name : Option Addr}
    {sl_shape_of_name : Array (Option Value)}
    {f_Machine_init : Addr}
    {oc_Machine_init kv_Machine_init dc_Machine_init pm_Machine_init cd_Machine_init ct_Machine_init : Value}
    {od_Machine_init an_Machine_init : Option Addr}
    {sl_Machine_init : Array (Option Value)}
    {f_Machine_is_rule : Addr}
    {oc_Machine_is_rule kv_Machine_is_rule dc_Machine_is_rule pm_Machine_is_rule cd_Machine_is_rule ct_Machine_is_rule : Value}
    {od_Machine_is_rule an_Machine_is_rule : Option Addr}
    {sl_Machine_is_rule : Array (Option Value)}
    {f_Machine_eq : Addr}
    {oc_Machine_eq kv_Machine_eq dc_Machine_eq pm_Machine_eq cd_Machine_eq ct_Machine_eq : Value}
    {od_Machine_eq an_Machine_eq : Option Addr}
    {sl_Machine_eq : Array (Option Value)}
    {f_state_of : Addr}
    {oc_state_of kv_state_of dc_state_of pm_state_of cd_state_of ct_state_of : Value}
    {od_state_of an_state_of : Option Addr}
    {sl_state_of : Array (Option Value)}
    {f_state : Addr}
    {oc_state kv_state dc_state pm_state cd_state ct_state : Value}
    {od_state an_state : Option Addr}
    {sl_state : Array (Option Value)}
    {f_takes : Addr}
    {oc_takes kv_takes dc_takes pm_takes cd_takes ct_takes : Value}
    {od_takes an_takes : Option Addr}
    {sl_takes : Array (Option Value)}
    {f_Order_init : Addr}
    {oc_Order_init kv_Order_init dc_Order_init pm_Order_init cd_Order_init ct_Order_init : Value}
    {od_Order_init an_Order_init : Option Addr}
    {sl_Order_init : Array (Option Value)}
    {f_Order_is_greater : Addr}
    {oc_Order_is_greater kv_Order_is_greater dc_Order_is_greater pm_Order_is_greater cd_Order_is_greater ct_Order_is_greater : Value}
    {od_Order_is_greater an_Order_is_greater : Option Addr}
    {sl_Order_is_greater : Array (Option Value)}
    {f_Order_looked : Addr}
    {oc_Order_looked kv_Order_looked dc_Order_looked pm_Order_looked cd_Order_looked ct_Order_looked : Value}
    {od_Order_looked an_Order_looked : Option Addr}
    {sl_Order_looked : Array (Option Value)}
    {f_are_words : Addr}
    {oc_are_words kv_are_words dc_are_words pm_are_words cd_are_words ct_are_words : Value}
    {od_are_words an_are_words : Option Addr}
    {sl_are_words : Array (Option Value)}
    {f_are_sealed : Addr}
    {oc_are_sealed kv_are_sealed dc_are_sealed pm_are_sealed cd_are_sealed ct_are_sealed : Value}
    {od_are_sealed an_are_sealed : Option Addr}
    {sl_are_sealed : Array (Option Value)}
    {f_are_heads : Addr}
    {oc_are_heads kv_are_heads dc_are_heads pm_are_heads cd_are_heads ct_are_heads : Value}
    {od_are_heads an_are_heads : Option Addr}
    {sl_are_heads : Array (Option Value)}
    {f_Shape_init : Addr}
    {oc_Shape_init kv_Shape_init dc_Shape_init pm_Shape_init cd_Shape_init ct_Shape_init : Value}
    {od_Shape_init an_Shape_init : Option Addr}
    {sl_Shape_init : Array (Option Value)}
    {f_Shape_kind_of : Addr}
    {oc_Shape_kind_of kv_Shape_kind_of dc_Shape_kind_of pm_Shape_kind_of cd_Shape_kind_of ct_Shape_kind_of : Value}
    {od_Shape_kind_of an_Shape_kind_of : Option Addr}
    {sl_Shape_kind_of : Array (Option Value)}
    {f_Shape_is_asker : Addr}
    {oc_Shape_is_asker kv_Shape_is_asker dc_Shape_is_asker pm_Shape_is_asker cd_Shape_is_asker ct_Shape_is_asker : Value}
    {od_Shape_is_asker an_Shape_is_asker : Option Addr}
    {sl_Shape_is_asker : Array (Option Value)}
    {f_Shape_told : Addr}
    {oc_Shape_told kv_Shape_told dc_Shape_told pm_Shape_told cd_Shape_told ct_Shape_told : Value}
    {od_Shape_told an_Shape_told : Option Addr}
    {sl_Shape_told : Array (Option Value)}
    {f_Shape_told_together : Addr}
    {oc_Shape_told_together kv_Shape_told_together dc_Shape_told_together pm_Shape_told_together cd_Shape_told_together ct_Shape_told_together : Value}
    {od_Shape_told_together an_Shape_told_together : Option Addr}
    {sl_Shape_told_together : Array (Option Value)}
    {f_Shape_told_beside : Addr}
    {oc_Shape_told_beside kv_Shape_told_beside dc_Shape_told_beside pm_Shape_told_beside cd_Shape_told_beside ct_Shape_told_beside : Value}
    {od_Shape_told_beside an_Shape_told_beside : Option Addr}
    {sl_Shape_told_beside : Array (Option Value)}
    {f_Shape_kind_by : Addr}
    {oc_Shape_kind_by kv_Shape_kind_by dc_Shape_kind_by pm_Shape_kind_by cd_Shape_kind_by ct_Shape_kind_by : Value}
    {od_Shape_kind_by an_Shape_kind_by : Option Addr}
    {sl_Shape_kind_by : Array (Option Value)}
    {f_is_law : Addr}
    {oc_is_law kv_is_law dc_is_law pm_is_law cd_is_law ct_is_law : Value}
    {od_is_law an_is_law : Option Addr}
    {sl_is_law : Array (Option Value)}
    {f_Door_init : Addr}
    {oc_Door_init kv_Door_init dc_Door_init pm_Door_init cd_Door_init ct_Door_init : Value}
    {od_Door_init an_Door_init : Option Addr}
    {sl_Door_init : Array (Option Value)}
    {f_Door_eq : Addr}
    {oc_Door_eq kv_Door_eq dc_Door_eq pm_Door_eq cd_Door_eq ct_Door_eq : Value}
    {od_Door_eq an_Door_eq : Option Addr}
    {sl_Door_eq : Array (Option Value)}
    {f_number_of : Addr}
    {oc_number_of kv_number_of dc_number_of pm_number_of cd_number_of ct_number_of : Value}
    {od_number_of an_number_of : Option Addr}
    {sl_number_of : Array (Option Value)}
    {f_lines_of : Addr}
    {oc_lines_of kv_lines_of dc_lines_of pm_lines_of cd_lines_of ct_lines_of : Value}
    {od_lines_of an_lines_of : Option Addr}
    {sl_lines_of : Array (Option Value)}
    {f_machine_text : Addr}
    {oc_machine_text kv_machine_text dc_machine_text pm_machine_text cd_machine_text ct_machine_text : Value}
    {od_machine_text an_machine_text : Option Addr}
    {sl_machine_text : Array (Option Value)}
    {f_rule_line : Addr}
    {oc_rule_line kv_rule_line dc_rule_line pm_rule_line cd_rule_line ct_rule_line : Value}
    {od_rule_line an_rule_line : Option Addr}
    {sl_rule_line : Array (Option Value)}
    {f_last_line : Addr}
    {oc_last_line kv_last_line dc_last_line pm_last_line cd_last_line ct_last_line : Value}
    {od_last_line an_last_line : Option Addr}
    {sl_last_line : Array (Option Value)}
    {f_read_machine : Addr}
    {oc_read_machine kv_read_machine dc_read_machine pm_read_machine cd_read_machine ct_read_machine : Value}
    {od_read_machine an_read_machine : Option Addr}
    {sl_read_machine : Array (Option Value)}
    {f__law_tape : Addr}
    {oc__law_tape kv__law_tape dc__law_tape pm__law_tape cd__law_tape ct__law_tape : Value}
    {od__law_tape an__law_tape : Option Addr}
    {sl__law_tape : Array (Option Value)}
    {f__law_pick : Addr}
    {oc__law_pick kv__law_pick dc__law_pick pm__law_pick cd__law_pick ct__law_pick : Value}
    {od__law_pick an__law_pick : Option Addr}
    {sl__law_pick : Array (Option Value)}
    {f__law_any : Addr}
    {oc__law_any kv__law_any dc__law_any pm__law_any cd__law_any ct__law_any : Value}
    {od__law_any an__law_any : Option Addr}
    {sl__law_any : Array (Option Value)}
    {f__law_mixed : Addr}
    {oc__law_mixed kv__law_mixed dc__law_mixed pm__law_mixed cd__law_mixed ct__law_mixed : Value}
    {od__law_mixed an__law_mixed : Option Addr}
    {sl__law_mixed : Array (Option Value)}
    {f__law_parts : Addr}
    {oc__law_parts kv__law_parts dc__law_parts pm__law_parts cd__law_parts ct__law_parts : Value}
    {od__law_parts an__law_parts : Option Addr}
    {sl__law_parts : Array (Option Value)}
    {f__law_told : Addr}
    {oc__law_told kv__law_told dc__law_told pm__law_told cd__law_told ct__law_told : Value}
    {od__law_told an__law_told : Option Addr}
    {sl__law_told : Array (Option Value)}
    {f__law_states : Addr}
    {oc__law_states kv__law_states dc__law_states pm__law_states cd__law_states ct__law_states : Value}
    {od__law_states an__law_states : Option Addr}
    {sl__law_states : Array (Option Value)}
    {f__law_keys : Addr}
    {oc__law_keys kv__law_keys dc__law_keys pm__law_keys cd__law_keys ct__law_keys : Value}
    {od__law_keys an__law_keys : Option Addr}
    {sl__law_keys : Array (Option Value)}
    {f__law_rules : Addr}
    {oc__law_rules kv__law_rules dc__law_rules pm__law_rules cd__law_rules ct__law_rules : Value}
    {od__law_rules an__law_rules : Option Addr}
    {sl__law_rules : Array (Option Value)}
    {f__law_text : Addr}
    {oc__law_text kv__law_text dc__law_text pm__law_text cd__law_text ct__law_text : Value}
    {od__law_text an__law_text : Option Addr}
    {sl__law_text : Array (Option Value)}
    {f__law_term : Addr}
    {oc__law_term kv__law_term dc__law_term pm__law_term cd__law_term ct__law_term : Value}
    {od__law_term an__law_term : Option Addr}
    {sl__law_term : Array (Option Value)}
    {f__law_state : Addr}
    {oc__law_state kv__law_state dc__law_state pm__law_state cd__law_state ct__law_state : Value}
    {od__law_state an__law_state : Option Addr}
    {sl__law_state : Array (Option Value)}
    {f__law_is_read_alike : Addr}
    {oc__law_is_read_alike kv__law_is_read_alike dc__law_is_read_alike pm__law_is_read_alike cd__law_is_read_alike ct__law_is_read_alike : Value}
    {od__law_is_read_alike an__law_is_read_alike : Option Addr}
    {sl__law_is_read_alike : Array (Option Value)}
    {f__law_joined : Addr}
    {oc__law_joined kv__law_joined dc__law_joined pm__law_joined cd__law_joined ct__law_joined : Value}
    {od__law_joined an__law_joined : Option Addr}
    {sl__law_joined : Array (Option Value)}
    {f__law_is_misread : Addr}
    {oc__law_is_misread kv__law_is_misread dc__law_is_misread pm__law_is_misread ct__law_is_misread : Value}
    {od__law_is_misread an__law_is_misread : Option Addr}
    {sl__law_is_misread : Array (Option Value)}
    {f__law_is_no_machine : Addr}
    {oc__law_is_no_machine kv__law_is_no_machine dc__law_is_no_machine pm__law_is_no_machine ct__law_is_no_machine : Value}
    {od__law_is_no_machine an__law_is_no_machine : Option Addr}
    {sl__law_is_no_machine : Array (Option Value)}
    {f__law_known_right : Addr}
    {oc__law_known_right kv__law_known_right dc__law_known_right pm__law_known_right cd__law_known_right ct__law_known_right : Value}
    {od__law_known_right an__law_known_right : Option Addr}
    {sl__law_known_right : Array (Option Value)}
    {f_law : Addr}
    {oc_law kv_law dc_law pm_law cd_law ct_law : Value}
    {od_law an_law : Option Addr}
    {sl_law : Array (Option Value)}
    {f_BadText cd_BadText cc_BadText N_BadText : Addr}
    {nm_BadText q_BadText : Str}
    {bs_BadText bm_BadText sub_BadText : List Value}
    {sn_BadText : List Str}
    {ab_BadText : Bool}
    {col_BadText : Option Bool}
    {dd_BadText : Option Addr}
    {k0_BadText k1_BadText k2_BadText k3_BadText k5_BadText : Option Value}
    {oc_BadText dc_BadText pm_BadText ct_BadText ccl_BadText cl_BadText : Value}
    {od_BadText an_BadText cdd_BadText cld_BadText : Option Addr}
    {sl_BadText ccs_BadText csl_BadText : Array (Option Value)}
    {vs_BadText : Array Value}
    {file_BadText : Str}
    {tf_BadText : Tok}
    {f_BadMachine cd_BadMachine cc_BadMachine N_BadMachine : Addr}
    {nm_BadMachine q_BadMachine : Str}
    {bs_BadMachine bm_BadMachine sub_BadMachine : List Value}
    {sn_BadMachine : List Str}
    {ab_BadMachine : Bool}
    {col_BadMachine : Option Bool}
    {dd_BadMachine : Option Addr}
    {k0_BadMachine k1_BadMachine k2_BadMachine k3_BadMachine k5_BadMachine : Option Value}
    {oc_BadMachine dc_BadMachine pm_BadMachine ct_BadMachine ccl_BadMachine cl_BadMachine : Value}
    {od_BadMachine an_BadMachine cdd_BadMachine cld_BadMachine : Option Addr}
    {sl_BadMachine ccs_BadMachine csl_BadMachine : Array (Option Value)}
    {vs_BadMachine : Array Value}
    {file_BadMachine : Str}
    {tf_BadMachine : Tok}
    {vs1 vs2 : Array Value}
    {oc1 oc2 : Value}
    {od1 od2 : Option Addr}
    {sl1 sl2 : Array (Option Value)}
    (h_t_ValueError : PySem.W.nsIn K mainGlobals "ValueError" = some none)
    (h_t_abs : PySem.W.nsIn K mainGlobals "abs" = some none)
    (h_t_all : PySem.W.nsIn K mainGlobals "all" = some none)
    (h_t_any : PySem.W.nsIn K mainGlobals "any" = some none)
    (h_t_bool : PySem.W.nsIn K mainGlobals "bool" = some none)
    (h_t_dict : PySem.W.nsIn K mainGlobals "dict" = some none)
    (h_t_enumerate : PySem.W.nsIn K mainGlobals "enumerate" = some none)
    (h_t_int : PySem.W.nsIn K mainGlobals "int" = some none)
    (h_t_isinstance : PySem.W.nsIn K mainGlobals "isinstance" = some none)
    (h_t_len : PySem.W.nsIn K mainGlobals "len" = some none)
    (h_t_list : PySem.W.nsIn K mainGlobals "list" = some none)
    (h_t_range : PySem.W.nsIn K mainGlobals "range" = some none)
    (h_t_repr : PySem.W.nsIn K mainGlobals "repr" = some none)
    (h_t_set : PySem.W.nsIn K mainGlobals "set" = some none)
    (h_t_sorted : PySem.W.nsIn K mainGlobals "sorted" = some none)
    (h_t_str : PySem.W.nsIn K mainGlobals "str" = some none)
    (h_t_sum : PySem.W.nsIn K mainGlobals "sum" = some none)
    (h_t_super : PySem.W.nsIn K mainGlobals "super" = some none)
    (h_t_tuple : PySem.W.nsIn K mainGlobals "tuple" = some none)
    (h_t_zip : PySem.W.nsIn K mainGlobals "zip" = some none)
    (h_c_LETTERS : PySem.W.nsIn K mainGlobals "LETTERS" = some (some (.str "abcdefghijklmnopqrstuvwxyz" k_LETTERS)))
    (h_c_MOST_LETTERS : PySem.W.nsIn K mainGlobals "MOST_LETTERS" = some (some (.int 8 k_MOST_LETTERS)))
    (h_c_MOST_NUMBER : PySem.W.nsIn K mainGlobals "MOST_NUMBER" = some (some (.int 999 k_MOST_NUMBER)))
    (h_c_UNKNOWN : PySem.W.nsIn K mainGlobals "UNKNOWN" = some (some (.str "?" k_UNKNOWN)))
    (h_c_MOST_STATES : PySem.W.nsIn K mainGlobals "MOST_STATES" = some (some (.int 60 k_MOST_STATES)))
    (h_c_MOST_RULES : PySem.W.nsIn K mainGlobals "MOST_RULES" = some (some (.int 600 k_MOST_RULES)))
    (h_c_MOST_PARTS : PySem.W.nsIn K mainGlobals "MOST_PARTS" = some (some (.int 60 k_MOST_PARTS)))
    (h_c_MOST_KINDS : PySem.W.nsIn K mainGlobals "MOST_KINDS" = some (some (.int 4 k_MOST_KINDS)))
    (h_c_MOST_WORDS : PySem.W.nsIn K mainGlobals "MOST_WORDS" = some (some (.int 4 k_MOST_WORDS)))
    (h_c_MOST_HEADS : PySem.W.nsIn K mainGlobals "MOST_HEADS" = some (some (.int 12 k_MOST_HEADS)))
    (h_c_MOST_LAWS : PySem.W.nsIn K mainGlobals "MOST_LAWS" = some (some (.int 16 k_MOST_LAWS)))
    (h_c_MOST_LAW_PARTS : PySem.W.nsIn K mainGlobals "MOST_LAW_PARTS" = some (some (.int 30 k_MOST_LAW_PARTS)))
    (h_c_MOST_SHAPE : PySem.W.nsIn K mainGlobals "MOST_SHAPE" = some (some (.int 3 k_MOST_SHAPE)))
    (h_c_FIGURES : PySem.W.nsIn K mainGlobals "FIGURES" = some (some (.str "0123456789" k_FIGURES)))
    (h_c_MOST_FIGURES : PySem.W.nsIn K mainGlobals "MOST_FIGURES" = some (some (.int 3 k_MOST_FIGURES)))
    (h_m_DoorError : PySem.W.nsIn K mainGlobals "DoorError" = some (some (.ref C_DoorError)))
    (h_m_BadDoor : PySem.W.nsIn K mainGlobals "BadDoor" = some (some (.ref C_BadDoor)))
    (h_m_BadText : PySem.W.nsIn K mainGlobals "BadText" = some (some (.ref C_BadText)))
    (h_m_BadMachine : PySem.W.nsIn K mainGlobals "BadMachine" = some (some (.ref C_BadMachine)))
    (h_m_NoBuilt : PySem.W.nsIn K mainGlobals "NoBuilt" = some (some (.ref C_NoBuilt)))
    (h_m_Machine : PySem.W.nsIn K mainGlobals "Machine" = some (some (.ref C_Machine)))
    (h_m_Order : PySem.W.nsIn K mainGlobals "Order" = some (some (.ref C_Order)))
    (h_m_Shape : PySem.W.nsIn K mainGlobals "Shape" = some (some (.ref C_Shape)))
    (h_m_Door : PySem.W.nsIn K mainGlobals "Door" = some (some (.ref C_Door)))
    (h_m_is_integer : PySem.W.nsIn K mainGlobals "is_integer" = some (some (.ref f_is_integer)))
    (h_m_is_within : PySem.W.nsIn K mainGlobals "is_within" = some (some (.ref f_is_within)))
    (h_m_is_name : PySem.W.nsIn K mainGlobals "is_name" = some (some (.ref f_is_name)))
    (h_m_is_tuple : PySem.W.nsIn K mainGlobals "is_tuple" = some (some (.ref f_is_tuple)))
    (h_m_are_unlike : PySem.W.nsIn K mainGlobals "are_unlike" = some (some (.ref f_are_unlike)))
    (h_m_is_unknown : PySem.W.nsIn K mainGlobals "is_unknown" = some (some (.ref f_is_unknown)))
    (h_m_is_word : PySem.W.nsIn K mainGlobals "is_word" = some (some (.ref f_is_word)))
    (h_m_is_called : PySem.W.nsIn K mainGlobals "is_called" = some (some (.ref f_is_called)))
    (h_m_size_of : PySem.W.nsIn K mainGlobals "size_of" = some (some (.ref f_size_of)))
    (h_m_parts_of : PySem.W.nsIn K mainGlobals "parts_of" = some (some (.ref f_parts_of)))
    (h_m_numbers_in : PySem.W.nsIn K mainGlobals "numbers_in" = some (some (.ref f_numbers_in)))
    (h_m_is_built : PySem.W.nsIn K mainGlobals "is_built" = some (some (.ref f_is_built)))
    (h_m_check_built : PySem.W.nsIn K mainGlobals "check_built" = some (some (.ref f_check_built)))
    (h_m_shape_of_name : PySem.W.nsIn K mainGlobals "shape_of_name" = some (some (.ref f_shape_of_name)))
    (h_m_state_of : PySem.W.nsIn K mainGlobals "state_of" = some (some (.ref f_state_of)))
    (h_m_state : PySem.W.nsIn K mainGlobals "state" = some (some (.ref f_state)))
    (h_m_takes : PySem.W.nsIn K mainGlobals "takes" = some (some (.ref f_takes)))
    (h_m_are_words : PySem.W.nsIn K mainGlobals "are_words" = some (some (.ref f_are_words)))
    (h_m_are_sealed : PySem.W.nsIn K mainGlobals "are_sealed" = some (some (.ref f_are_sealed)))
    (h_m_are_heads : PySem.W.nsIn K mainGlobals "are_heads" = some (some (.ref f_are_heads)))
    (h_m_is_law : PySem.W.nsIn K mainGlobals "is_law" = some (some (.ref f_is_law)))
    (h_m_number_of : PySem.W.nsIn K mainGlobals "number_of" = some (some (.ref f_number_of)))
    (h_m_lines_of : PySem.W.nsIn K mainGlobals "lines_of" = some (some (.ref f_lines_of)))
    (h_m_machine_text : PySem.W.nsIn K mainGlobals "machine_text" = some (some (.ref f_machine_text)))
    (h_m_rule_line : PySem.W.nsIn K mainGlobals "rule_line" = some (some (.ref f_rule_line)))
    (h_m_last_line : PySem.W.nsIn K mainGlobals "last_line" = some (some (.ref f_last_line)))
    (h_m_read_machine : PySem.W.nsIn K mainGlobals "read_machine" = some (some (.ref f_read_machine)))
    (h_m__law_tape : PySem.W.nsIn K mainGlobals "_law_tape" = some (some (.ref f__law_tape)))
    (h_m__law_pick : PySem.W.nsIn K mainGlobals "_law_pick" = some (some (.ref f__law_pick)))
    (h_m__law_any : PySem.W.nsIn K mainGlobals "_law_any" = some (some (.ref f__law_any)))
    (h_m__law_mixed : PySem.W.nsIn K mainGlobals "_law_mixed" = some (some (.ref f__law_mixed)))
    (h_m__law_parts : PySem.W.nsIn K mainGlobals "_law_parts" = some (some (.ref f__law_parts)))
    (h_m__law_told : PySem.W.nsIn K mainGlobals "_law_told" = some (some (.ref f__law_told)))
    (h_m__law_states : PySem.W.nsIn K mainGlobals "_law_states" = some (some (.ref f__law_states)))
    (h_m__law_keys : PySem.W.nsIn K mainGlobals "_law_keys" = some (some (.ref f__law_keys)))
    (h_m__law_rules : PySem.W.nsIn K mainGlobals "_law_rules" = some (some (.ref f__law_rules)))
    (h_m__law_text : PySem.W.nsIn K mainGlobals "_law_text" = some (some (.ref f__law_text)))
    (h_m__law_term : PySem.W.nsIn K mainGlobals "_law_term" = some (some (.ref f__law_term)))
    (h_m__law_state : PySem.W.nsIn K mainGlobals "_law_state" = some (some (.ref f__law_state)))
    (h_m__law_is_read_alike : PySem.W.nsIn K mainGlobals "_law_is_read_alike" = some (some (.ref f__law_is_read_alike)))
    (h_m__law_joined : PySem.W.nsIn K mainGlobals "_law_joined" = some (some (.ref f__law_joined)))
    (h_m__law_is_misread : PySem.W.nsIn K mainGlobals "_law_is_misread" = some (some (.ref f__law_is_misread)))
    (h_m__law_is_no_machine : PySem.W.nsIn K mainGlobals "_law_is_no_machine" = some (some (.ref f__law_is_no_machine)))
    (h_m__law_known_right : PySem.W.nsIn K mainGlobals "_law_known_right" = some (some (.ref f__law_known_right)))
    (h_m_law : PySem.W.nsIn K mainGlobals "law" = some (some (.ref f_law)))
    (h_mk_C_Machine : PySem.W.makesIn K C_Machine = true)
    (h_in_C_Machine : PySem.W.findIn K (.ref C_Machine) "__init__" = some (some (.ref f_Machine_init)))
    (h_fn_f_Machine_init : PySem.W.isFn K (.ref f_Machine_init) = true)
    (h_kp_C_Machine : PySem.W.keepIn K (.ref C_Machine) = true)
    (h_mk_C_Order : PySem.W.makesIn K C_Order = true)
    (h_in_C_Order : PySem.W.findIn K (.ref C_Order) "__init__" = some (some (.ref f_Order_init)))
    (h_fn_f_Order_init : PySem.W.isFn K (.ref f_Order_init) = true)
    (h_kp_C_Order : PySem.W.keepIn K (.ref C_Order) = true)
    (h_mk_C_Shape : PySem.W.makesIn K C_Shape = true)
    (h_in_C_Shape : PySem.W.findIn K (.ref C_Shape) "__init__" = some (some (.ref f_Shape_init)))
    (h_fn_f_Shape_init : PySem.W.isFn K (.ref f_Shape_init) = true)
    (h_kp_C_Shape : PySem.W.keepIn K (.ref C_Shape) = true)
    (h_mk_C_Door : PySem.W.makesIn K C_Door = true)
    (h_in_C_Door : PySem.W.findIn K (.ref C_Door) "__init__" = some (some (.ref f_Door_init)))
    (h_fn_f_Door_init : PySem.W.isFn K (.ref f_Door_init) = true)
    (h_kp_C_Door : PySem.W.keepIn K (.ref C_Door) = true)
    (h_at_f_Machine_eq : PySem.W.findIn K (.ref C_Machine) "__eq__" = some (some (.ref f_Machine_eq)))
    (h_fn_f_Machine_eq : PySem.W.isFn K (.ref f_Machine_eq) = true)
    (h_at_f_Door_eq : PySem.W.findIn K (.ref C_Door) "__eq__" = some (some (.ref f_Door_eq)))
    (h_fn_f_Door_eq : PySem.W.isFn K (.ref f_Door_eq) = true)
    (h_at_f_Machine_is_rule : PySem.W.findIn K (.ref C_Machine) "is_rule" = some (some (.ref f_Machine_is_rule)))
    (h_fn_f_Machine_is_rule : PySem.W.isFn K (.ref f_Machine_is_rule) = true)
    (h_at_f_Order_is_greater : PySem.W.findIn K (.ref C_Order) "is_greater" = some (some (.ref f_Order_is_greater)))
    (h_fn_f_Order_is_greater : PySem.W.isFn K (.ref f_Order_is_greater) = true)
    (h_at_f_Order_looked : PySem.W.findIn K (.ref C_Order) "looked" = some (some (.ref f_Order_looked)))
    (h_fn_f_Order_looked : PySem.W.isFn K (.ref f_Order_looked) = true)
    (h_at_f_Shape_kind_of : PySem.W.findIn K (.ref C_Shape) "kind_of" = some (some (.ref f_Shape_kind_of)))
    (h_fn_f_Shape_kind_of : PySem.W.isFn K (.ref f_Shape_kind_of) = true)
    (h_at_f_Shape_is_asker : PySem.W.findIn K (.ref C_Shape) "is_asker" = some (some (.ref f_Shape_is_asker)))
    (h_fn_f_Shape_is_asker : PySem.W.isFn K (.ref f_Shape_is_asker) = true)
    (h_at_f_Shape_told : PySem.W.findIn K (.ref C_Shape) "told" = some (some (.ref f_Shape_told)))
    (h_fn_f_Shape_told : PySem.W.isFn K (.ref f_Shape_told) = true)
    (h_at_f_Shape_told_together : PySem.W.findIn K (.ref C_Shape) "told_together" = some (some (.ref f_Shape_told_together)))
    (h_fn_f_Shape_told_together : PySem.W.isFn K (.ref f_Shape_told_together) = true)
    (h_at_f_Shape_told_beside : PySem.W.findIn K (.ref C_Shape) "told_beside" = some (some (.ref f_Shape_told_beside)))
    (h_fn_f_Shape_told_beside : PySem.W.isFn K (.ref f_Shape_told_beside) = true)
    (h_at_f_Shape_kind_by : PySem.W.findIn K (.ref C_Shape) "kind_by" = some (some (.ref f_Shape_kind_by)))
    (h_fn_f_Shape_kind_by : PySem.W.isFn K (.ref f_Shape_kind_by) = true)
    (h_lk_is_integer : K.lookup f_is_integer = some ⟨oc_is_integer, od_is_integer, .func (PySem.W.fnOf "is_integer" "is_integer" (defArgs s_is_integer) (defBody s_is_integer) (defScope s_is_integer) .none kv_is_integer dc_is_integer pm_is_integer an_is_integer cd_is_integer ct_is_integer), sl_is_integer⟩)
    (h_cd_is_integer : PySem.W.codeIn K cd_is_integer "is_integer" = true)
    (h_kp_f_is_integer : PySem.W.keepIn K (.ref f_is_integer) = true)
    (h_lk_is_within : K.lookup f_is_within = some ⟨oc_is_within, od_is_within, .func (PySem.W.fnOf "is_within" "is_within" (defArgs s_is_within) (defBody s_is_within) (defScope s_is_within) .none kv_is_within dc_is_within pm_is_within an_is_within cd_is_within ct_is_within), sl_is_within⟩)
    (h_cd_is_within : PySem.W.codeIn K cd_is_within "is_within" = true)
    (h_kp_f_is_within : PySem.W.keepIn K (.ref f_is_within) = true)
    (h_lk_is_name : K.lookup f_is_name = some ⟨oc_is_name, od_is_name, .func (PySem.W.fnOf "is_name" "is_name" (defArgs s_is_name) (defBody s_is_name) (defScope s_is_name) .none kv_is_name dc_is_name pm_is_name an_is_name cd_is_name ct_is_name), sl_is_name⟩)
    (h_cd_is_name : PySem.W.codeIn K cd_is_name "is_name" = true)
    (h_kp_f_is_name : PySem.W.keepIn K (.ref f_is_name) = true)
    (h_lk_is_tuple : K.lookup f_is_tuple = some ⟨oc_is_tuple, od_is_tuple, .func (PySem.W.fnOf "is_tuple" "is_tuple" (defArgs s_is_tuple) (defBody s_is_tuple) (defScope s_is_tuple) .none kv_is_tuple dc_is_tuple pm_is_tuple an_is_tuple cd_is_tuple ct_is_tuple), sl_is_tuple⟩)
    (h_cd_is_tuple : PySem.W.codeIn K cd_is_tuple "is_tuple" = true)
    (h_kp_f_is_tuple : PySem.W.keepIn K (.ref f_is_tuple) = true)
    (h_lk_are_unlike : K.lookup f_are_unlike = some ⟨oc_are_unlike, od_are_unlike, .func (PySem.W.fnOf "are_unlike" "are_unlike" (defArgs s_are_unlike) (defBody s_are_unlike) (defScope s_are_unlike) .none kv_are_unlike dc_are_unlike pm_are_unlike an_are_unlike cd_are_unlike ct_are_unlike), sl_are_unlike⟩)
    (h_cd_are_unlike : PySem.W.codeIn K cd_are_unlike "are_unlike" = true)
    (h_kp_f_are_unlike : PySem.W.keepIn K (.ref f_are_unlike) = true)
    (h_lk_is_unknown : K.lookup f_is_unknown = some ⟨oc_is_unknown, od_is_unknown, .func (PySem.W.fnOf "is_unknown" "is_unknown" (defArgs s_is_unknown) (defBody s_is_unknown) (defScope s_is_unknown) .none kv_is_unknown dc_is_unknown pm_is_unknown an_is_unknown cd_is_unknown ct_is_unknown), sl_is_unknown⟩)
    (h_cd_is_unknown : PySem.W.codeIn K cd_is_unknown "is_unknown" = true)
    (h_kp_f_is_unknown : PySem.W.keepIn K (.ref f_is_unknown) = true)
    (h_lk_is_word : K.lookup f_is_word = some ⟨oc_is_word, od_is_word, .func (PySem.W.fnOf "is_word" "is_word" (defArgs s_is_word) (defBody s_is_word) (defScope s_is_word) .none kv_is_word dc_is_word pm_is_word an_is_word cd_is_word ct_is_word), sl_is_word⟩)
    (h_cd_is_word : PySem.W.codeIn K cd_is_word "is_word" = true)
    (h_kp_f_is_word : PySem.W.keepIn K (.ref f_is_word) = true)
    (h_lk_is_called : K.lookup f_is_called = some ⟨oc_is_called, od_is_called, .func (PySem.W.fnOf "is_called" "is_called" (defArgs s_is_called) (defBody s_is_called) (defScope s_is_called) .none kv_is_called dc_is_called pm_is_called an_is_called cd_is_called ct_is_called), sl_is_called⟩)
    (h_cd_is_called : PySem.W.codeIn K cd_is_called "is_called" = true)
    (h_kp_f_is_called : PySem.W.keepIn K (.ref f_is_called) = true)
    (h_lk_size_of : K.lookup f_size_of = some ⟨oc_size_of, od_size_of, .func (PySem.W.fnOf "size_of" "size_of" (defArgs s_size_of) (defBody s_size_of) (defScope s_size_of) .none kv_size_of dc_size_of pm_size_of an_size_of cd_size_of ct_size_of), sl_size_of⟩)
    (h_cd_size_of : PySem.W.codeIn K cd_size_of "size_of" = true)
    (h_kp_f_size_of : PySem.W.keepIn K (.ref f_size_of) = true)
    (h_lk_parts_of : K.lookup f_parts_of = some ⟨oc_parts_of, od_parts_of, .func (PySem.W.fnOf "parts_of" "parts_of" (defArgs s_parts_of) (defBody s_parts_of) (defScope s_parts_of) .none kv_parts_of dc_parts_of pm_parts_of an_parts_of cd_parts_of ct_parts_of), sl_parts_of⟩)
    (h_cd_parts_of : PySem.W.codeIn K cd_parts_of "parts_of" = true)
    (h_kp_f_parts_of : PySem.W.keepIn K (.ref f_parts_of) = true)
    (h_lk_numbers_in : K.lookup f_numbers_in = some ⟨oc_numbers_in, od_numbers_in, .func (PySem.W.fnOf "numbers_in" "numbers_in" (defArgs s_numbers_in) (defBody s_numbers_in) (defScope s_numbers_in) .none kv_numbers_in dc_numbers_in pm_numbers_in an_numbers_in cd_numbers_in ct_numbers_in), sl_numbers_in⟩)
    (h_cd_numbers_in : PySem.W.codeIn K cd_numbers_in "numbers_in" = true)
    (h_kp_f_numbers_in : PySem.W.keepIn K (.ref f_numbers_in) = true)
    (h_lk_is_built : K.lookup f_is_built = some ⟨oc_is_built, od_is_built, .func (PySem.W.fnOf "is_built" "is_built" (defArgs s_is_built) (defBody s_is_built) (defScope s_is_built) .none kv_is_built dc_is_built pm_is_built an_is_built cd_is_built ct_is_built), sl_is_built⟩)
    (h_cd_is_built : PySem.W.codeIn K cd_is_built "is_built" = true)
    (h_kp_f_is_built : PySem.W.keepIn K (.ref f_is_built) = true)
    (h_lk_check_built : K.lookup f_check_built = some ⟨oc_check_built, od_check_built, .func (PySem.W.fnOf "check_built" "check_built" (defArgs s_check_built) (defBody s_check_built) (defScope s_check_built) .none kv_check_built dc_check_built pm_check_built an_check_built cd_check_built ct_check_built), sl_check_built⟩)
    (h_cd_check_built : PySem.W.codeIn K cd_check_built "check_built" = true)
    (h_kp_f_check_built : PySem.W.keepIn K (.ref f_check_built) = true)
    (h_lk_shape_of_name : K.lookup f_shape_of_name = some ⟨oc_shape_of_name, od_shape_of_name, .func (PySem.W.fnOf "shape_of_name" "shape_of_name" (defArgs s_shape_of_name) (defBody s_shape_of_name) (defScope s_shape_of_name) .none kv_shape_of_name dc_shape_of_name pm_shape_of_name an_shape_of_name cd_shape_of_name ct_shape_of_name), sl_shape_of_name⟩)
    (h_cd_shape_of_name : PySem.W.codeIn K cd_shape_of_name "shape_of_name" = true)
    (h_kp_f_shape_of_name : PySem.W.keepIn K (.ref f_shape_of_name) = true)
    (h_lk_Machine_init : K.lookup f_Machine_init = some ⟨oc_Machine_init, od_Machine_init, .func (PySem.W.fnOf "__init__" "Machine.__init__" (defArgs s_Machine_init) (defBody s_Machine_init) (defScope s_Machine_init) .none kv_Machine_init dc_Machine_init pm_Machine_init an_Machine_init cd_Machine_init ct_Machine_init), sl_Machine_init⟩)
    (h_cd_Machine_init : PySem.W.codeIn K cd_Machine_init "Machine.__init__" = true)
    (h_kp_f_Machine_init : PySem.W.keepIn K (.ref f_Machine_init) = true)
    (h_lk_Machine_is_rule : K.lookup f_Machine_is_rule = some ⟨oc_Machine_is_rule, od_Machine_is_rule, .func (PySem.W.fnOf "is_rule" "Machine.is_rule" (defArgs s_Machine_is_rule) (defBody s_Machine_is_rule) (defScope s_Machine_is_rule) .none kv_Machine_is_rule dc_Machine_is_rule pm_Machine_is_rule an_Machine_is_rule cd_Machine_is_rule ct_Machine_is_rule), sl_Machine_is_rule⟩)
    (h_cd_Machine_is_rule : PySem.W.codeIn K cd_Machine_is_rule "Machine.is_rule" = true)
    (h_kp_f_Machine_is_rule : PySem.W.keepIn K (.ref f_Machine_is_rule) = true)
    (h_lk_Machine_eq : K.lookup f_Machine_eq = some ⟨oc_Machine_eq, od_Machine_eq, .func (PySem.W.fnOf "__eq__" "Machine.__eq__" (defArgs s_Machine_eq) (defBody s_Machine_eq) (defScope s_Machine_eq) .none kv_Machine_eq dc_Machine_eq pm_Machine_eq an_Machine_eq cd_Machine_eq ct_Machine_eq), sl_Machine_eq⟩)
    (h_cd_Machine_eq : PySem.W.codeIn K cd_Machine_eq "Machine.__eq__" = true)
    (h_kp_f_Machine_eq : PySem.W.keepIn K (.ref f_Machine_eq) = true)
    (h_lk_state_of : K.lookup f_state_of = some ⟨oc_state_of, od_state_of, .func (PySem.W.fnOf "state_of" "state_of" (defArgs s_state_of) (defBody s_state_of) (defScope s_state_of) .none kv_state_of dc_state_of pm_state_of an_state_of cd_state_of ct_state_of), sl_state_of⟩)
    (h_cd_state_of : PySem.W.codeIn K cd_state_of "state_of" = true)
    (h_kp_f_state_of : PySem.W.keepIn K (.ref f_state_of) = true)
    (h_lk_state : K.lookup f_state = some ⟨oc_state, od_state, .func (PySem.W.fnOf "state" "state" (defArgs s_state) (defBody s_state) (defScope s_state) .none kv_state dc_state pm_state an_state cd_state ct_state), sl_state⟩)
    (h_cd_state : PySem.W.codeIn K cd_state "state" = true)
    (h_kp_f_state : PySem.W.keepIn K (.ref f_state) = true)
    (h_lk_takes : K.lookup f_takes = some ⟨oc_takes, od_takes, .func (PySem.W.fnOf "takes" "takes" (defArgs s_takes) (defBody s_takes) (defScope s_takes) .none kv_takes dc_takes pm_takes an_takes cd_takes ct_takes), sl_takes⟩)
    (h_cd_takes : PySem.W.codeIn K cd_takes "takes" = true)
    (h_kp_f_takes : PySem.W.keepIn K (.ref f_takes) = true)
    (h_lk_Order_init : K.lookup f_Order_init = some ⟨oc_Order_init, od_Order_init, .func (PySem.W.fnOf "__init__" "Order.__init__" (defArgs s_Order_init) (defBody s_Order_init) (defScope s_Order_init) .none kv_Order_init dc_Order_init pm_Order_init an_Order_init cd_Order_init ct_Order_init), sl_Order_init⟩)
    (h_cd_Order_init : PySem.W.codeIn K cd_Order_init "Order.__init__" = true)
    (h_kp_f_Order_init : PySem.W.keepIn K (.ref f_Order_init) = true)
    (h_lk_Order_is_greater : K.lookup f_Order_is_greater = some ⟨oc_Order_is_greater, od_Order_is_greater, .func (PySem.W.fnOf "is_greater" "Order.is_greater" (defArgs s_Order_is_greater) (defBody s_Order_is_greater) (defScope s_Order_is_greater) .none kv_Order_is_greater dc_Order_is_greater pm_Order_is_greater an_Order_is_greater cd_Order_is_greater ct_Order_is_greater), sl_Order_is_greater⟩)
    (h_cd_Order_is_greater : PySem.W.codeIn K cd_Order_is_greater "Order.is_greater" = true)
    (h_kp_f_Order_is_greater : PySem.W.keepIn K (.ref f_Order_is_greater) = true)
    (h_lk_Order_looked : K.lookup f_Order_looked = some ⟨oc_Order_looked, od_Order_looked, .func (PySem.W.fnOf "looked" "Order.looked" (defArgs s_Order_looked) (defBody s_Order_looked) (defScope s_Order_looked) .none kv_Order_looked dc_Order_looked pm_Order_looked an_Order_looked cd_Order_looked ct_Order_looked), sl_Order_looked⟩)
    (h_cd_Order_looked : PySem.W.codeIn K cd_Order_looked "Order.looked" = true)
    (h_kp_f_Order_looked : PySem.W.keepIn K (.ref f_Order_looked) = true)
    (h_lk_are_words : K.lookup f_are_words = some ⟨oc_are_words, od_are_words, .func (PySem.W.fnOf "are_words" "are_words" (defArgs s_are_words) (defBody s_are_words) (defScope s_are_words) .none kv_are_words dc_are_words pm_are_words an_are_words cd_are_words ct_are_words), sl_are_words⟩)
    (h_cd_are_words : PySem.W.codeIn K cd_are_words "are_words" = true)
    (h_kp_f_are_words : PySem.W.keepIn K (.ref f_are_words) = true)
    (h_lk_are_sealed : K.lookup f_are_sealed = some ⟨oc_are_sealed, od_are_sealed, .func (PySem.W.fnOf "are_sealed" "are_sealed" (defArgs s_are_sealed) (defBody s_are_sealed) (defScope s_are_sealed) .none kv_are_sealed dc_are_sealed pm_are_sealed an_are_sealed cd_are_sealed ct_are_sealed), sl_are_sealed⟩)
    (h_cd_are_sealed : PySem.W.codeIn K cd_are_sealed "are_sealed" = true)
    (h_kp_f_are_sealed : PySem.W.keepIn K (.ref f_are_sealed) = true)
    (h_lk_are_heads : K.lookup f_are_heads = some ⟨oc_are_heads, od_are_heads, .func (PySem.W.fnOf "are_heads" "are_heads" (defArgs s_are_heads) (defBody s_are_heads) (defScope s_are_heads) .none kv_are_heads dc_are_heads pm_are_heads an_are_heads cd_are_heads ct_are_heads), sl_are_heads⟩)
    (h_cd_are_heads : PySem.W.codeIn K cd_are_heads "are_heads" = true)
    (h_kp_f_are_heads : PySem.W.keepIn K (.ref f_are_heads) = true)
    (h_lk_Shape_init : K.lookup f_Shape_init = some ⟨oc_Shape_init, od_Shape_init, .func (PySem.W.fnOf "__init__" "Shape.__init__" (defArgs s_Shape_init) (defBody s_Shape_init) (defScope s_Shape_init) .none kv_Shape_init dc_Shape_init pm_Shape_init an_Shape_init cd_Shape_init ct_Shape_init), sl_Shape_init⟩)
    (h_cd_Shape_init : PySem.W.codeIn K cd_Shape_init "Shape.__init__" = true)
    (h_kp_f_Shape_init : PySem.W.keepIn K (.ref f_Shape_init) = true)
    (h_lk_Shape_kind_of : K.lookup f_Shape_kind_of = some ⟨oc_Shape_kind_of, od_Shape_kind_of, .func (PySem.W.fnOf "kind_of" "Shape.kind_of" (defArgs s_Shape_kind_of) (defBody s_Shape_kind_of) (defScope s_Shape_kind_of) .none kv_Shape_kind_of dc_Shape_kind_of pm_Shape_kind_of an_Shape_kind_of cd_Shape_kind_of ct_Shape_kind_of), sl_Shape_kind_of⟩)
    (h_cd_Shape_kind_of : PySem.W.codeIn K cd_Shape_kind_of "Shape.kind_of" = true)
    (h_kp_f_Shape_kind_of : PySem.W.keepIn K (.ref f_Shape_kind_of) = true)
    (h_lk_Shape_is_asker : K.lookup f_Shape_is_asker = some ⟨oc_Shape_is_asker, od_Shape_is_asker, .func (PySem.W.fnOf "is_asker" "Shape.is_asker" (defArgs s_Shape_is_asker) (defBody s_Shape_is_asker) (defScope s_Shape_is_asker) .none kv_Shape_is_asker dc_Shape_is_asker pm_Shape_is_asker an_Shape_is_asker cd_Shape_is_asker ct_Shape_is_asker), sl_Shape_is_asker⟩)
    (h_cd_Shape_is_asker : PySem.W.codeIn K cd_Shape_is_asker "Shape.is_asker" = true)
    (h_kp_f_Shape_is_asker : PySem.W.keepIn K (.ref f_Shape_is_asker) = true)
    (h_lk_Shape_told : K.lookup f_Shape_told = some ⟨oc_Shape_told, od_Shape_told, .func (PySem.W.fnOf "told" "Shape.told" (defArgs s_Shape_told) (defBody s_Shape_told) (defScope s_Shape_told) .none kv_Shape_told dc_Shape_told pm_Shape_told an_Shape_told cd_Shape_told ct_Shape_told), sl_Shape_told⟩)
    (h_cd_Shape_told : PySem.W.codeIn K cd_Shape_told "Shape.told" = true)
    (h_kp_f_Shape_told : PySem.W.keepIn K (.ref f_Shape_told) = true)
    (h_lk_Shape_told_together : K.lookup f_Shape_told_together = some ⟨oc_Shape_told_together, od_Shape_told_together, .func (PySem.W.fnOf "told_together" "Shape.told_together" (defArgs s_Shape_told_together) (defBody s_Shape_told_together) (defScope s_Shape_told_together) .none kv_Shape_told_together dc_Shape_told_together pm_Shape_told_together an_Shape_told_together cd_Shape_told_together ct_Shape_told_together), sl_Shape_told_together⟩)
    (h_cd_Shape_told_together : PySem.W.codeIn K cd_Shape_told_together "Shape.told_together" = true)
    (h_kp_f_Shape_told_together : PySem.W.keepIn K (.ref f_Shape_told_together) = true)
    (h_lk_Shape_told_beside : K.lookup f_Shape_told_beside = some ⟨oc_Shape_told_beside, od_Shape_told_beside, .func (PySem.W.fnOf "told_beside" "Shape.told_beside" (defArgs s_Shape_told_beside) (defBody s_Shape_told_beside) (defScope s_Shape_told_beside) .none kv_Shape_told_beside dc_Shape_told_beside pm_Shape_told_beside an_Shape_told_beside cd_Shape_told_beside ct_Shape_told_beside), sl_Shape_told_beside⟩)
    (h_cd_Shape_told_beside : PySem.W.codeIn K cd_Shape_told_beside "Shape.told_beside" = true)
    (h_kp_f_Shape_told_beside : PySem.W.keepIn K (.ref f_Shape_told_beside) = true)
    (h_lk_Shape_kind_by : K.lookup f_Shape_kind_by = some ⟨oc_Shape_kind_by, od_Shape_kind_by, .func (PySem.W.fnOf "kind_by" "Shape.kind_by" (defArgs s_Shape_kind_by) (defBody s_Shape_kind_by) (defScope s_Shape_kind_by) .none kv_Shape_kind_by dc_Shape_kind_by pm_Shape_kind_by an_Shape_kind_by cd_Shape_kind_by ct_Shape_kind_by), sl_Shape_kind_by⟩)
    (h_cd_Shape_kind_by : PySem.W.codeIn K cd_Shape_kind_by "Shape.kind_by" = true)
    (h_kp_f_Shape_kind_by : PySem.W.keepIn K (.ref f_Shape_kind_by) = true)
    (h_lk_is_law : K.lookup f_is_law = some ⟨oc_is_law, od_is_law, .func (PySem.W.fnOf "is_law" "is_law" (defArgs s_is_law) (defBody s_is_law) (defScope s_is_law) .none kv_is_law dc_is_law pm_is_law an_is_law cd_is_law ct_is_law), sl_is_law⟩)
    (h_cd_is_law : PySem.W.codeIn K cd_is_law "is_law" = true)
    (h_kp_f_is_law : PySem.W.keepIn K (.ref f_is_law) = true)
    (h_lk_Door_init : K.lookup f_Door_init = some ⟨oc_Door_init, od_Door_init, .func (PySem.W.fnOf "__init__" "Door.__init__" (defArgs s_Door_init) (defBody s_Door_init) (defScope s_Door_init) .none kv_Door_init dc_Door_init pm_Door_init an_Door_init cd_Door_init ct_Door_init), sl_Door_init⟩)
    (h_cd_Door_init : PySem.W.codeIn K cd_Door_init "Door.__init__" = true)
    (h_kp_f_Door_init : PySem.W.keepIn K (.ref f_Door_init) = true)
    (h_lk_Door_eq : K.lookup f_Door_eq = some ⟨oc_Door_eq, od_Door_eq, .func (PySem.W.fnOf "__eq__" "Door.__eq__" (defArgs s_Door_eq) (defBody s_Door_eq) (defScope s_Door_eq) .none kv_Door_eq dc_Door_eq pm_Door_eq an_Door_eq cd_Door_eq ct_Door_eq), sl_Door_eq⟩)
    (h_cd_Door_eq : PySem.W.codeIn K cd_Door_eq "Door.__eq__" = true)
    (h_kp_f_Door_eq : PySem.W.keepIn K (.ref f_Door_eq) = true)
    (h_lk_number_of : K.lookup f_number_of = some ⟨oc_number_of, od_number_of, .func (PySem.W.fnOf "number_of" "number_of" (defArgs s_number_of) (defBody s_number_of) (defScope s_number_of) .none kv_number_of dc_number_of pm_number_of an_number_of cd_number_of ct_number_of), sl_number_of⟩)
    (h_cd_number_of : PySem.W.codeIn K cd_number_of "number_of" = true)
    (h_kp_f_number_of : PySem.W.keepIn K (.ref f_number_of) = true)
    (h_lk_lines_of : K.lookup f_lines_of = some ⟨oc_lines_of, od_lines_of, .func (PySem.W.fnOf "lines_of" "lines_of" (defArgs s_lines_of) (defBody s_lines_of) (defScope s_lines_of) .none kv_lines_of dc_lines_of pm_lines_of an_lines_of cd_lines_of ct_lines_of), sl_lines_of⟩)
    (h_cd_lines_of : PySem.W.codeIn K cd_lines_of "lines_of" = true)
    (h_kp_f_lines_of : PySem.W.keepIn K (.ref f_lines_of) = true)
    (h_lk_machine_text : K.lookup f_machine_text = some ⟨oc_machine_text, od_machine_text, .func (PySem.W.fnOf "machine_text" "machine_text" (defArgs s_machine_text) (defBody s_machine_text) (defScope s_machine_text) .none kv_machine_text dc_machine_text pm_machine_text an_machine_text cd_machine_text ct_machine_text), sl_machine_text⟩)
    (h_cd_machine_text : PySem.W.codeIn K cd_machine_text "machine_text" = true)
    (h_kp_f_machine_text : PySem.W.keepIn K (.ref f_machine_text) = true)
    (h_lk_rule_line : K.lookup f_rule_line = some ⟨oc_rule_line, od_rule_line, .func (PySem.W.fnOf "rule_line" "rule_line" (defArgs s_rule_line) (defBody s_rule_line) (defScope s_rule_line) .none kv_rule_line dc_rule_line pm_rule_line an_rule_line cd_rule_line ct_rule_line), sl_rule_line⟩)
    (h_cd_rule_line : PySem.W.codeIn K cd_rule_line "rule_line" = true)
    (h_kp_f_rule_line : PySem.W.keepIn K (.ref f_rule_line) = true)
    (h_lk_last_line : K.lookup f_last_line = some ⟨oc_last_line, od_last_line, .func (PySem.W.fnOf "last_line" "last_line" (defArgs s_last_line) (defBody s_last_line) (defScope s_last_line) .none kv_last_line dc_last_line pm_last_line an_last_line cd_last_line ct_last_line), sl_last_line⟩)
    (h_cd_last_line : PySem.W.codeIn K cd_last_line "last_line" = true)
    (h_kp_f_last_line : PySem.W.keepIn K (.ref f_last_line) = true)
    (h_lk_read_machine : K.lookup f_read_machine = some ⟨oc_read_machine, od_read_machine, .func (PySem.W.fnOf "read_machine" "read_machine" (defArgs s_read_machine) (defBody s_read_machine) (defScope s_read_machine) .none kv_read_machine dc_read_machine pm_read_machine an_read_machine cd_read_machine ct_read_machine), sl_read_machine⟩)
    (h_cd_read_machine : PySem.W.codeIn K cd_read_machine "read_machine" = true)
    (h_kp_f_read_machine : PySem.W.keepIn K (.ref f_read_machine) = true)
    (h_lk__law_tape : K.lookup f__law_tape = some ⟨oc__law_tape, od__law_tape, .func (PySem.W.fnOf "_law_tape" "_law_tape" (defArgs s__law_tape) (defBody s__law_tape) (defScope s__law_tape) .none kv__law_tape dc__law_tape pm__law_tape an__law_tape cd__law_tape ct__law_tape), sl__law_tape⟩)
    (h_cd__law_tape : PySem.W.codeIn K cd__law_tape "_law_tape" = true)
    (h_kp_f__law_tape : PySem.W.keepIn K (.ref f__law_tape) = true)
    (h_lk__law_pick : K.lookup f__law_pick = some ⟨oc__law_pick, od__law_pick, .func (PySem.W.fnOf "_law_pick" "_law_pick" (defArgs s__law_pick) (defBody s__law_pick) (defScope s__law_pick) .none kv__law_pick dc__law_pick pm__law_pick an__law_pick cd__law_pick ct__law_pick), sl__law_pick⟩)
    (h_cd__law_pick : PySem.W.codeIn K cd__law_pick "_law_pick" = true)
    (h_kp_f__law_pick : PySem.W.keepIn K (.ref f__law_pick) = true)
    (h_lk__law_any : K.lookup f__law_any = some ⟨oc__law_any, od__law_any, .func (PySem.W.fnOf "_law_any" "_law_any" (defArgs s__law_any) (defBody s__law_any) (defScope s__law_any) .none kv__law_any dc__law_any pm__law_any an__law_any cd__law_any ct__law_any), sl__law_any⟩)
    (h_cd__law_any : PySem.W.codeIn K cd__law_any "_law_any" = true)
    (h_kp_f__law_any : PySem.W.keepIn K (.ref f__law_any) = true)
    (h_lk__law_mixed : K.lookup f__law_mixed = some ⟨oc__law_mixed, od__law_mixed, .func (PySem.W.fnOf "_law_mixed" "_law_mixed" (defArgs s__law_mixed) (defBody s__law_mixed) (defScope s__law_mixed) .none kv__law_mixed dc__law_mixed pm__law_mixed an__law_mixed cd__law_mixed ct__law_mixed), sl__law_mixed⟩)
    (h_cd__law_mixed : PySem.W.codeIn K cd__law_mixed "_law_mixed" = true)
    (h_kp_f__law_mixed : PySem.W.keepIn K (.ref f__law_mixed) = true)
    (h_lk__law_parts : K.lookup f__law_parts = some ⟨oc__law_parts, od__law_parts, .func (PySem.W.fnOf "_law_parts" "_law_parts" (defArgs s__law_parts) (defBody s__law_parts) (defScope s__law_parts) .none kv__law_parts dc__law_parts pm__law_parts an__law_parts cd__law_parts ct__law_parts), sl__law_parts⟩)
    (h_cd__law_parts : PySem.W.codeIn K cd__law_parts "_law_parts" = true)
    (h_kp_f__law_parts : PySem.W.keepIn K (.ref f__law_parts) = true)
    (h_lk__law_told : K.lookup f__law_told = some ⟨oc__law_told, od__law_told, .func (PySem.W.fnOf "_law_told" "_law_told" (defArgs s__law_told) (defBody s__law_told) (defScope s__law_told) .none kv__law_told dc__law_told pm__law_told an__law_told cd__law_told ct__law_told), sl__law_told⟩)
    (h_cd__law_told : PySem.W.codeIn K cd__law_told "_law_told" = true)
    (h_kp_f__law_told : PySem.W.keepIn K (.ref f__law_told) = true)
    (h_lk__law_states : K.lookup f__law_states = some ⟨oc__law_states, od__law_states, .func (PySem.W.fnOf "_law_states" "_law_states" (defArgs s__law_states) (defBody s__law_states) (defScope s__law_states) .none kv__law_states dc__law_states pm__law_states an__law_states cd__law_states ct__law_states), sl__law_states⟩)
    (h_cd__law_states : PySem.W.codeIn K cd__law_states "_law_states" = true)
    (h_kp_f__law_states : PySem.W.keepIn K (.ref f__law_states) = true)
    (h_lk__law_keys : K.lookup f__law_keys = some ⟨oc__law_keys, od__law_keys, .func (PySem.W.fnOf "_law_keys" "_law_keys" (defArgs s__law_keys) (defBody s__law_keys) (defScope s__law_keys) .none kv__law_keys dc__law_keys pm__law_keys an__law_keys cd__law_keys ct__law_keys), sl__law_keys⟩)
    (h_cd__law_keys : PySem.W.codeIn K cd__law_keys "_law_keys" = true)
    (h_kp_f__law_keys : PySem.W.keepIn K (.ref f__law_keys) = true)
    (h_lk__law_rules : K.lookup f__law_rules = some ⟨oc__law_rules, od__law_rules, .func (PySem.W.fnOf "_law_rules" "_law_rules" (defArgs s__law_rules) (defBody s__law_rules) (defScope s__law_rules) .none kv__law_rules dc__law_rules pm__law_rules an__law_rules cd__law_rules ct__law_rules), sl__law_rules⟩)
    (h_cd__law_rules : PySem.W.codeIn K cd__law_rules "_law_rules" = true)
    (h_kp_f__law_rules : PySem.W.keepIn K (.ref f__law_rules) = true)
    (h_lk__law_text : K.lookup f__law_text = some ⟨oc__law_text, od__law_text, .func (PySem.W.fnOf "_law_text" "_law_text" (defArgs s__law_text) (defBody s__law_text) (defScope s__law_text) .none kv__law_text dc__law_text pm__law_text an__law_text cd__law_text ct__law_text), sl__law_text⟩)
    (h_cd__law_text : PySem.W.codeIn K cd__law_text "_law_text" = true)
    (h_kp_f__law_text : PySem.W.keepIn K (.ref f__law_text) = true)
    (h_lk__law_term : K.lookup f__law_term = some ⟨oc__law_term, od__law_term, .func (PySem.W.fnOf "_law_term" "_law_term" (defArgs s__law_term) (defBody s__law_term) (defScope s__law_term) .none kv__law_term dc__law_term pm__law_term an__law_term cd__law_term ct__law_term), sl__law_term⟩)
    (h_cd__law_term : PySem.W.codeIn K cd__law_term "_law_term" = true)
    (h_kp_f__law_term : PySem.W.keepIn K (.ref f__law_term) = true)
    (h_lk__law_state : K.lookup f__law_state = some ⟨oc__law_state, od__law_state, .func (PySem.W.fnOf "_law_state" "_law_state" (defArgs s__law_state) (defBody s__law_state) (defScope s__law_state) .none kv__law_state dc__law_state pm__law_state an__law_state cd__law_state ct__law_state), sl__law_state⟩)
    (h_cd__law_state : PySem.W.codeIn K cd__law_state "_law_state" = true)
    (h_kp_f__law_state : PySem.W.keepIn K (.ref f__law_state) = true)
    (h_lk__law_is_read_alike : K.lookup f__law_is_read_alike = some ⟨oc__law_is_read_alike, od__law_is_read_alike, .func (PySem.W.fnOf "_law_is_read_alike" "_law_is_read_alike" (defArgs s__law_is_read_alike) (defBody s__law_is_read_alike) (defScope s__law_is_read_alike) .none kv__law_is_read_alike dc__law_is_read_alike pm__law_is_read_alike an__law_is_read_alike cd__law_is_read_alike ct__law_is_read_alike), sl__law_is_read_alike⟩)
    (h_cd__law_is_read_alike : PySem.W.codeIn K cd__law_is_read_alike "_law_is_read_alike" = true)
    (h_kp_f__law_is_read_alike : PySem.W.keepIn K (.ref f__law_is_read_alike) = true)
    (h_lk__law_joined : K.lookup f__law_joined = some ⟨oc__law_joined, od__law_joined, .func (PySem.W.fnOf "_law_joined" "_law_joined" (defArgs s__law_joined) (defBody s__law_joined) (defScope s__law_joined) .none kv__law_joined dc__law_joined pm__law_joined an__law_joined cd__law_joined ct__law_joined), sl__law_joined⟩)
    (h_cd__law_joined : PySem.W.codeIn K cd__law_joined "_law_joined" = true)
    (h_kp_f__law_joined : PySem.W.keepIn K (.ref f__law_joined) = true)
    (h_lk__law_is_misread : K.lookup f__law_is_misread = some ⟨oc__law_is_misread, od__law_is_misread, .func (PySem.W.fnOf "_law_is_misread" "_law_is_misread" (defArgs s__law_is_misread) (defBody s__law_is_misread) (defScope s__law_is_misread) .none kv__law_is_misread dc__law_is_misread pm__law_is_misread an__law_is_misread (.ref c1) ct__law_is_misread), sl__law_is_misread⟩)
    (h_cd__law_is_misread : PySem.W.codeIn K (.ref c1) "_law_is_misread" = true)
    (h_kp_f__law_is_misread : PySem.W.keepIn K (.ref f__law_is_misread) = true)
    (h_lk__law_is_no_machine : K.lookup f__law_is_no_machine = some ⟨oc__law_is_no_machine, od__law_is_no_machine, .func (PySem.W.fnOf "_law_is_no_machine" "_law_is_no_machine" (defArgs s__law_is_no_machine) (defBody s__law_is_no_machine) (defScope s__law_is_no_machine) .none kv__law_is_no_machine dc__law_is_no_machine pm__law_is_no_machine an__law_is_no_machine (.ref c2) ct__law_is_no_machine), sl__law_is_no_machine⟩)
    (h_cd__law_is_no_machine : PySem.W.codeIn K (.ref c2) "_law_is_no_machine" = true)
    (h_kp_f__law_is_no_machine : PySem.W.keepIn K (.ref f__law_is_no_machine) = true)
    (h_lk__law_known_right : K.lookup f__law_known_right = some ⟨oc__law_known_right, od__law_known_right, .func (PySem.W.fnOf "_law_known_right" "_law_known_right" (defArgs s__law_known_right) (defBody s__law_known_right) (defScope s__law_known_right) .none kv__law_known_right dc__law_known_right pm__law_known_right an__law_known_right cd__law_known_right ct__law_known_right), sl__law_known_right⟩)
    (h_cd__law_known_right : PySem.W.codeIn K cd__law_known_right "_law_known_right" = true)
    (h_kp_f__law_known_right : PySem.W.keepIn K (.ref f__law_known_right) = true)
    (h_lk_law : K.lookup f_law = some ⟨oc_law, od_law, .func (PySem.W.fnOf "law" "law" (defArgs s_law) (defBody s_law) (defScope s_law) .none kv_law dc_law pm_law an_law cd_law ct_law), sl_law⟩)
    (h_cd_law : PySem.W.codeIn K cd_law "law" = true)
    (h_kp_f_law : PySem.W.keepIn K (.ref f_law) = true)
    (h_pg_C_Machine : PySem.W.plainGet K C_Machine Str.empty = true)
    (h_hd_C_Machine : PySem.W.hasDictIn K C_Machine = true)
    (h_po_C_Machine : PySem.W.plainOver K C_Machine = true)
    (h_sa_C_Machine : PySem.W.findIn K (.ref C_Machine) "__setattr__" = some (some (.builtin "object.__setattr__")))
    (h_n_Machine_door : PySem.W.findIn K (.ref C_Machine) "door" = some none)
    (h_n_Machine_leads : PySem.W.findIn K (.ref C_Machine) "leads" = some none)
    (h_n_Machine_state_kinds : PySem.W.findIn K (.ref C_Machine) "state_kinds" = some none)
    (h_n_Machine_order_told : PySem.W.findIn K (.ref C_Machine) "order_told" = some none)
    (h_n_Machine_rules : PySem.W.findIn K (.ref C_Machine) "rules" = some none)
    (h_n_Machine_last : PySem.W.findIn K (.ref C_Machine) "last" = some none)
    (h_pg_C_Order : PySem.W.plainGet K C_Order Str.empty = true)
    (h_hd_C_Order : PySem.W.hasDictIn K C_Order = true)
    (h_po_C_Order : PySem.W.plainOver K C_Order = true)
    (h_sa_C_Order : PySem.W.findIn K (.ref C_Order) "__setattr__" = some (some (.builtin "object.__setattr__")))
    (h_n_Order_rank : PySem.W.findIn K (.ref C_Order) "rank" = some none)
    (h_n_Order_found : PySem.W.findIn K (.ref C_Order) "found" = some none)
    (h_pg_C_Shape : PySem.W.plainGet K C_Shape Str.empty = true)
    (h_hd_C_Shape : PySem.W.hasDictIn K C_Shape = true)
    (h_po_C_Shape : PySem.W.plainOver K C_Shape = true)
    (h_sa_C_Shape : PySem.W.findIn K (.ref C_Shape) "__setattr__" = some (some (.builtin "object.__setattr__")))
    (h_n_Shape_sealed : PySem.W.findIn K (.ref C_Shape) "sealed" = some none)
    (h_n_Shape_word_kinds : PySem.W.findIn K (.ref C_Shape) "word_kinds" = some none)
    (h_n_Shape_lots : PySem.W.findIn K (.ref C_Shape) "lots" = some none)
    (h_n_Shape_heads : PySem.W.findIn K (.ref C_Shape) "heads" = some none)
    (h_n_Shape_rank : PySem.W.findIn K (.ref C_Shape) "rank" = some none)
    (h_pg_C_Door : PySem.W.plainGet K C_Door Str.empty = true)
    (h_hd_C_Door : PySem.W.hasDictIn K C_Door = true)
    (h_po_C_Door : PySem.W.plainOver K C_Door = true)
    (h_sa_C_Door : PySem.W.findIn K (.ref C_Door) "__setattr__" = some (some (.builtin "object.__setattr__")))
    (h_n_Door_shape : PySem.W.findIn K (.ref C_Door) "shape" = some none)
    (h_n_Door_words : PySem.W.findIn K (.ref C_Door) "words" = some none)
    (h_n_Door_sealed : PySem.W.findIn K (.ref C_Door) "sealed" = some none)
    (h_n_Door_heads : PySem.W.findIn K (.ref C_Door) "heads" = some none)
    (h_n_Door_laws : PySem.W.findIn K (.ref C_Door) "laws" = some none)
    (h_n_Door_meeting : PySem.W.findIn K (.ref C_Door) "meeting" = some none)
    (h_ne_C_Machine : PySem.W.findIn K (.ref C_Machine) "__ne__" = some (some (.builtin "object.__ne__")))
    (h_ca_C_Machine : PySem.W.findIn K (.ref C_Machine) "__class__" = some (some (.builtin "object.__class__")))
    (h_mo_C_Machine : PySem.W.mroIn K C_Machine (.type "object") = some true)
    (h_ne_C_Door : PySem.W.findIn K (.ref C_Door) "__ne__" = some (some (.builtin "object.__ne__")))
    (h_ca_C_Door : PySem.W.findIn K (.ref C_Door) "__class__" = some (some (.builtin "object.__class__")))
    (h_mo_C_Door : PySem.W.mroIn K C_Door (.type "object") = some true)
    (h_sg : PySem.W.specialIn K (.builtin "object.__class__") "__get__" = some (some (.builtin "getset_descriptor.__get__")))
    (h_tk : PySem.W.takesIn K (.builtin "object.__class__") = some true)
    (h_cls_BadText : K.lookup C_BadText = some (excClassObj nm_BadText q_BadText C_BadText N_BadText bs_BadText bm_BadText true sn_BadText sub_BadText ab_BadText col_BadText dd_BadText k0_BadText k1_BadText k2_BadText k3_BadText k5_BadText "ValueError.__new__"))
    (h_ve_BadText : refsVE bm_BadText = true)
    (h_sa_BadText : PySem.W.findIn K (.ref C_BadText) "__setattr__" = some (some (.builtin "object.__setattr__")))
    (h_ga_BadText : PySem.W.findIn K (.ref C_BadText) "__getattribute__" = some (some (.builtin "BaseException.__getattribute__")))
    (h_gg_BadText : PySem.W.findIn K (.ref C_BadText) "__getattr__" = some none)
    (h_nn_BadText : PySem.W.findIn K (.ref C_BadText) "at" = some none)
    (h_ii_BadText : PySem.W.findIn K (.ref C_BadText) "__init__" = some (some (.ref f_BadText)))
    (h_tt_BadText : PySem.W.typeIn K (.ref f_BadText) = some (.type "function"))
    (h_kc_BadText : PySem.W.keepIn K (.ref C_BadText) = true)
    (h_be_BadText : PySem.W.subIn K (.ref C_BadText) (.type "BaseException") = some true)
    (h_vv_BadText : PySem.W.subIn K (.ref C_BadText) (.type "ValueError") = some true)
    (h_ty_BadText : PySem.W.typeIn K (.ref C_BadText) = some (.type "type"))
    (h_hd_BadText : PySem.W.hasDictIn K C_BadText = true)
    (h_ow_BadText : PySem.W.mroIn K C_BadText (.ref C_BadText) = some true)
    (h_up_BadText : PySem.W.ks_superIn K C_BadText C_BadText "__init__" = some (some (.builtin "ValueError.__init__")))
    (h_fl_BadText : K.lookup f_BadText = some ⟨oc_BadText, od_BadText, .func (ksFn "__init__" "BadText.__init__" BadTextX.eP BadTextX.eB BadTextX.eS .none .none dc_BadText pm_BadText an_BadText (.ref cd_BadText) ct_BadText cc_BadText), sl_BadText⟩)
    (h_fc_BadText : PySem.W.codeIn K (.ref cd_BadText) "BadText.__init__" = true)
    (h_fv_BadText : K.lookup cd_BadText = some ⟨ccl_BadText, cdd_BadText, .fields vs_BadText, ccs_BadText⟩)
    (h_v2_BadText : vs_BadText[2]? = some (.str file_BadText tf_BadText))
    (h_ff_BadText : ((P.main.file : Str) == file_BadText) = true)
    (h_ce_BadText : K.lookup cc_BadText = some ⟨cl_BadText, cld_BadText, .cell (some (.ref C_BadText)), csl_BadText⟩)
    (h_ic_BadText : PySem.W.isClsIn K C_BadText = true)
    (h_ca_BadText : PySem.W.findIn K (.ref C_BadText) "__class__" = some (some (.builtin "object.__class__")))
    (h_mo_BadText : PySem.W.mroIn K C_BadText (.type "object") = some true)
    (h_de_BadText : PySem.W.subIn K (.ref C_BadText) (.ref C_DoorError) = some true)
    (h_cls_BadMachine : K.lookup C_BadMachine = some (excClassObj nm_BadMachine q_BadMachine C_BadMachine N_BadMachine bs_BadMachine bm_BadMachine true sn_BadMachine sub_BadMachine ab_BadMachine col_BadMachine dd_BadMachine k0_BadMachine k1_BadMachine k2_BadMachine k3_BadMachine k5_BadMachine "ValueError.__new__"))
    (h_ve_BadMachine : refsVE bm_BadMachine = true)
    (h_sa_BadMachine : PySem.W.findIn K (.ref C_BadMachine) "__setattr__" = some (some (.builtin "object.__setattr__")))
    (h_ga_BadMachine : PySem.W.findIn K (.ref C_BadMachine) "__getattribute__" = some (some (.builtin "BaseException.__getattribute__")))
    (h_gg_BadMachine : PySem.W.findIn K (.ref C_BadMachine) "__getattr__" = some none)
    (h_nn_BadMachine : PySem.W.findIn K (.ref C_BadMachine) "part" = some none)
    (h_ii_BadMachine : PySem.W.findIn K (.ref C_BadMachine) "__init__" = some (some (.ref f_BadMachine)))
    (h_tt_BadMachine : PySem.W.typeIn K (.ref f_BadMachine) = some (.type "function"))
    (h_kc_BadMachine : PySem.W.keepIn K (.ref C_BadMachine) = true)
    (h_be_BadMachine : PySem.W.subIn K (.ref C_BadMachine) (.type "BaseException") = some true)
    (h_vv_BadMachine : PySem.W.subIn K (.ref C_BadMachine) (.type "ValueError") = some true)
    (h_ty_BadMachine : PySem.W.typeIn K (.ref C_BadMachine) = some (.type "type"))
    (h_hd_BadMachine : PySem.W.hasDictIn K C_BadMachine = true)
    (h_ow_BadMachine : PySem.W.mroIn K C_BadMachine (.ref C_BadMachine) = some true)
    (h_up_BadMachine : PySem.W.ks_superIn K C_BadMachine C_BadMachine "__init__" = some (some (.builtin "ValueError.__init__")))
    (h_fl_BadMachine : K.lookup f_BadMachine = some ⟨oc_BadMachine, od_BadMachine, .func (ksFn "__init__" "BadMachine.__init__" BadMachineX.eP BadMachineX.eB BadMachineX.eS .none .none dc_BadMachine pm_BadMachine an_BadMachine (.ref cd_BadMachine) ct_BadMachine cc_BadMachine), sl_BadMachine⟩)
    (h_fc_BadMachine : PySem.W.codeIn K (.ref cd_BadMachine) "BadMachine.__init__" = true)
    (h_fv_BadMachine : K.lookup cd_BadMachine = some ⟨ccl_BadMachine, cdd_BadMachine, .fields vs_BadMachine, ccs_BadMachine⟩)
    (h_v2_BadMachine : vs_BadMachine[2]? = some (.str file_BadMachine tf_BadMachine))
    (h_ff_BadMachine : ((P.main.file : Str) == file_BadMachine) = true)
    (h_ce_BadMachine : K.lookup cc_BadMachine = some ⟨cl_BadMachine, cld_BadMachine, .cell (some (.ref C_BadMachine)), csl_BadMachine⟩)
    (h_ic_BadMachine : PySem.W.isClsIn K C_BadMachine = true)
    (h_ca_BadMachine : PySem.W.findIn K (.ref C_BadMachine) "__class__" = some (some (.builtin "object.__class__")))
    (h_mo_BadMachine : PySem.W.mroIn K C_BadMachine (.type "object") = some true)
    (h_de_BadMachine : PySem.W.subIn K (.ref C_BadMachine) (.ref C_DoorError) = some true)
    (h_op : PySem.W.nsIn K cStatics "thirdparty.any" = some none)
    (h_top : (P.main.scope.names.lookup ("super" : Str)).isSome = false)
    (h_dbe : PySem.W.subIn K (.ref C_DoorError) (.type "BaseException") = some true)
    (h_dic : PySem.W.isClsIn K C_DoorError = true)
    (h_dty : PySem.W.typeIn K (.ref C_DoorError) = some (.type "type"))
    (h_tm : PySem.W.subIn K (.ref C_BadText) (.ref C_BadMachine) = some false)
    (h_mt : PySem.W.subIn K (.ref C_BadMachine) (.ref C_BadText) = some false)
    (h_nc : (Value.ref C_BadText == Value.ref C_BadMachine) = false)
    (h_nc2 : (Value.ref C_BadMachine == Value.ref C_BadText) = false)
    (h_t1 : K.lookup c1 = some ⟨oc1, od1, .fields vs1, sl1⟩)
    (h_t2 : K.lookup c2 = some ⟨oc2, od2, .fields vs2, sl2⟩)
    (h_p1 : vs1[11]? = some (.ref P1))
    (h_p2 : vs2[11]? = some (.ref P2))
    (h_n1 : K.lookup P1 = none)
    (h_n2 : K.lookup P2 = none)
    (h_d1 : PySem.W.codeHdIn K c1 P1 = true)
    (h_d2 : PySem.W.codeHdIn K c2 P2 = true)
    (h_ne : P1 ≠ P2)
    (h_i1 : P1 ∈ Ps)
    (h_i2 : P2 ∈ Ps)
    : LawOk P K mg Ps fa := by
  have e := hfa.symm.trans (PySem.W.mg_of X G h_m_law)
  cases e
  let T : Tx K mg := {
    t_ValueError := PySem.W.mg_none_of X G h_t_ValueError,
    t_abs := PySem.W.mg_none_of X G h_t_abs,
    t_all := PySem.W.mg_none_of X G h_t_all,
    t_any := PySem.W.mg_none_of X G h_t_any,
    t_bool := PySem.W.mg_none_of X G h_t_bool,
    t_dict := PySem.W.mg_none_of X G h_t_dict,
    t_enumerate := PySem.W.mg_none_of X G h_t_enumerate,
    t_int := PySem.W.mg_none_of X G h_t_int,
    t_isinstance := PySem.W.mg_none_of X G h_t_isinstance,
    t_len := PySem.W.mg_none_of X G h_t_len,
    t_list := PySem.W.mg_none_of X G h_t_list,
    t_range := PySem.W.mg_none_of X G h_t_range,
    t_repr := PySem.W.mg_none_of X G h_t_repr,
    t_set := PySem.W.mg_none_of X G h_t_set,
    t_sorted := PySem.W.mg_none_of X G h_t_sorted,
    t_str := PySem.W.mg_none_of X G h_t_str,
    t_sum := PySem.W.mg_none_of X G h_t_sum,
    t_super := PySem.W.mg_none_of X G h_t_super,
    t_tuple := PySem.W.mg_none_of X G h_t_tuple,
    t_zip := PySem.W.mg_none_of X G h_t_zip,
    k_LETTERS := k_LETTERS,
    c_LETTERS := PySem.W.mg_of X G h_c_LETTERS,
    k_MOST_LETTERS := k_MOST_LETTERS,
    c_MOST_LETTERS := PySem.W.mg_of X G h_c_MOST_LETTERS,
    k_MOST_NUMBER := k_MOST_NUMBER,
    c_MOST_NUMBER := PySem.W.mg_of X G h_c_MOST_NUMBER,
    k_UNKNOWN := k_UNKNOWN,
    c_UNKNOWN := PySem.W.mg_of X G h_c_UNKNOWN,
    k_MOST_STATES := k_MOST_STATES,
    c_MOST_STATES := PySem.W.mg_of X G h_c_MOST_STATES,
    k_MOST_RULES := k_MOST_RULES,
    c_MOST_RULES := PySem.W.mg_of X G h_c_MOST_RULES,
    k_MOST_PARTS := k_MOST_PARTS,
    c_MOST_PARTS := PySem.W.mg_of X G h_c_MOST_PARTS,
    k_MOST_KINDS := k_MOST_KINDS,
    c_MOST_KINDS := PySem.W.mg_of X G h_c_MOST_KINDS,
    k_MOST_WORDS := k_MOST_WORDS,
    c_MOST_WORDS := PySem.W.mg_of X G h_c_MOST_WORDS,
    k_MOST_HEADS := k_MOST_HEADS,
    c_MOST_HEADS := PySem.W.mg_of X G h_c_MOST_HEADS,
    k_MOST_LAWS := k_MOST_LAWS,
    c_MOST_LAWS := PySem.W.mg_of X G h_c_MOST_LAWS,
    k_MOST_LAW_PARTS := k_MOST_LAW_PARTS,
    c_MOST_LAW_PARTS := PySem.W.mg_of X G h_c_MOST_LAW_PARTS,
    k_MOST_SHAPE := k_MOST_SHAPE,
    c_MOST_SHAPE := PySem.W.mg_of X G h_c_MOST_SHAPE,
    k_FIGURES := k_FIGURES,
    c_FIGURES := PySem.W.mg_of X G h_c_FIGURES,
    k_MOST_FIGURES := k_MOST_FIGURES,
    c_MOST_FIGURES := PySem.W.mg_of X G h_c_MOST_FIGURES,
    C_DoorError := C_DoorError,
    m_DoorError := PySem.W.mg_of X G h_m_DoorError,
    C_BadDoor := C_BadDoor,
    m_BadDoor := PySem.W.mg_of X G h_m_BadDoor,
    C_BadText := C_BadText,
    m_BadText := PySem.W.mg_of X G h_m_BadText,
    C_BadMachine := C_BadMachine,
    m_BadMachine := PySem.W.mg_of X G h_m_BadMachine,
    C_NoBuilt := C_NoBuilt,
    m_NoBuilt := PySem.W.mg_of X G h_m_NoBuilt,
    C_Machine := C_Machine,
    m_Machine := PySem.W.mg_of X G h_m_Machine,
    C_Order := C_Order,
    m_Order := PySem.W.mg_of X G h_m_Order,
    C_Shape := C_Shape,
    m_Shape := PySem.W.mg_of X G h_m_Shape,
    C_Door := C_Door,
    m_Door := PySem.W.mg_of X G h_m_Door,
    m_is_integer := PySem.W.mg_of X G h_m_is_integer,
    m_is_within := PySem.W.mg_of X G h_m_is_within,
    m_is_name := PySem.W.mg_of X G h_m_is_name,
    m_is_tuple := PySem.W.mg_of X G h_m_is_tuple,
    m_are_unlike := PySem.W.mg_of X G h_m_are_unlike,
    m_is_unknown := PySem.W.mg_of X G h_m_is_unknown,
    m_is_word := PySem.W.mg_of X G h_m_is_word,
    m_is_called := PySem.W.mg_of X G h_m_is_called,
    m_size_of := PySem.W.mg_of X G h_m_size_of,
    m_parts_of := PySem.W.mg_of X G h_m_parts_of,
    m_numbers_in := PySem.W.mg_of X G h_m_numbers_in,
    m_is_built := PySem.W.mg_of X G h_m_is_built,
    m_check_built := PySem.W.mg_of X G h_m_check_built,
    m_shape_of_name := PySem.W.mg_of X G h_m_shape_of_name,
    m_state_of := PySem.W.mg_of X G h_m_state_of,
    m_state := PySem.W.mg_of X G h_m_state,
    m_takes := PySem.W.mg_of X G h_m_takes,
    m_are_words := PySem.W.mg_of X G h_m_are_words,
    m_are_sealed := PySem.W.mg_of X G h_m_are_sealed,
    m_are_heads := PySem.W.mg_of X G h_m_are_heads,
    m_is_law := PySem.W.mg_of X G h_m_is_law,
    m_number_of := PySem.W.mg_of X G h_m_number_of,
    m_lines_of := PySem.W.mg_of X G h_m_lines_of,
    m_machine_text := PySem.W.mg_of X G h_m_machine_text,
    m_rule_line := PySem.W.mg_of X G h_m_rule_line,
    m_last_line := PySem.W.mg_of X G h_m_last_line,
    m_read_machine := PySem.W.mg_of X G h_m_read_machine,
    m__law_tape := PySem.W.mg_of X G h_m__law_tape,
    m__law_pick := PySem.W.mg_of X G h_m__law_pick,
    m__law_any := PySem.W.mg_of X G h_m__law_any,
    m__law_mixed := PySem.W.mg_of X G h_m__law_mixed,
    m__law_parts := PySem.W.mg_of X G h_m__law_parts,
    m__law_told := PySem.W.mg_of X G h_m__law_told,
    m__law_states := PySem.W.mg_of X G h_m__law_states,
    m__law_keys := PySem.W.mg_of X G h_m__law_keys,
    m__law_rules := PySem.W.mg_of X G h_m__law_rules,
    m__law_text := PySem.W.mg_of X G h_m__law_text,
    m__law_term := PySem.W.mg_of X G h_m__law_term,
    m__law_state := PySem.W.mg_of X G h_m__law_state,
    m__law_is_read_alike := PySem.W.mg_of X G h_m__law_is_read_alike,
    m__law_joined := PySem.W.mg_of X G h_m__law_joined,
    m__law_is_misread := PySem.W.mg_of X G h_m__law_is_misread,
    m__law_is_no_machine := PySem.W.mg_of X G h_m__law_is_no_machine,
    m__law_known_right := PySem.W.mg_of X G h_m__law_known_right,
    m_law := PySem.W.mg_of X G h_m_law,
    M_Machine := ⟨h_mk_C_Machine, h_in_C_Machine, h_fn_f_Machine_init, h_kp_C_Machine⟩,
    M_Order := ⟨h_mk_C_Order, h_in_C_Order, h_fn_f_Order_init, h_kp_C_Order⟩,
    M_Shape := ⟨h_mk_C_Shape, h_in_C_Shape, h_fn_f_Shape_init, h_kp_C_Shape⟩,
    M_Door := ⟨h_mk_C_Door, h_in_C_Door, h_fn_f_Door_init, h_kp_C_Door⟩,
    M_Machine_is_rule := ⟨h_at_f_Machine_is_rule, h_fn_f_Machine_is_rule, h_kp_f_Machine_is_rule⟩,
    M_Order_is_greater := ⟨h_at_f_Order_is_greater, h_fn_f_Order_is_greater, h_kp_f_Order_is_greater⟩,
    M_Order_looked := ⟨h_at_f_Order_looked, h_fn_f_Order_looked, h_kp_f_Order_looked⟩,
    M_Shape_kind_of := ⟨h_at_f_Shape_kind_of, h_fn_f_Shape_kind_of, h_kp_f_Shape_kind_of⟩,
    M_Shape_is_asker := ⟨h_at_f_Shape_is_asker, h_fn_f_Shape_is_asker, h_kp_f_Shape_is_asker⟩,
    M_Shape_told := ⟨h_at_f_Shape_told, h_fn_f_Shape_told, h_kp_f_Shape_told⟩,
    M_Shape_told_together := ⟨h_at_f_Shape_told_together, h_fn_f_Shape_told_together, h_kp_f_Shape_told_together⟩,
    M_Shape_told_beside := ⟨h_at_f_Shape_told_beside, h_fn_f_Shape_told_beside, h_kp_f_Shape_told_beside⟩,
    M_Shape_kind_by := ⟨h_at_f_Shape_kind_by, h_fn_f_Shape_kind_by, h_kp_f_Shape_kind_by⟩,
    f_is_integer := f_is_integer,
    d_is_integer := PySem.W.fnOf "is_integer" "is_integer" (defArgs s_is_integer) (defBody s_is_integer) (defScope s_is_integer) .none kv_is_integer dc_is_integer pm_is_integer an_is_integer cd_is_integer ct_is_integer,
    F_is_integer := fun_mk (st := s_is_integer) h_lk_is_integer h_cd_is_integer h_kp_f_is_integer,
    f_is_within := f_is_within,
    d_is_within := PySem.W.fnOf "is_within" "is_within" (defArgs s_is_within) (defBody s_is_within) (defScope s_is_within) .none kv_is_within dc_is_within pm_is_within an_is_within cd_is_within ct_is_within,
    F_is_within := fun_mk (st := s_is_within) h_lk_is_within h_cd_is_within h_kp_f_is_within,
    f_is_name := f_is_name,
    d_is_name := PySem.W.fnOf "is_name" "is_name" (defArgs s_is_name) (defBody s_is_name) (defScope s_is_name) .none kv_is_name dc_is_name pm_is_name an_is_name cd_is_name ct_is_name,
    F_is_name := fun_mk (st := s_is_name) h_lk_is_name h_cd_is_name h_kp_f_is_name,
    f_is_tuple := f_is_tuple,
    d_is_tuple := PySem.W.fnOf "is_tuple" "is_tuple" (defArgs s_is_tuple) (defBody s_is_tuple) (defScope s_is_tuple) .none kv_is_tuple dc_is_tuple pm_is_tuple an_is_tuple cd_is_tuple ct_is_tuple,
    F_is_tuple := fun_mk (st := s_is_tuple) h_lk_is_tuple h_cd_is_tuple h_kp_f_is_tuple,
    f_are_unlike := f_are_unlike,
    d_are_unlike := PySem.W.fnOf "are_unlike" "are_unlike" (defArgs s_are_unlike) (defBody s_are_unlike) (defScope s_are_unlike) .none kv_are_unlike dc_are_unlike pm_are_unlike an_are_unlike cd_are_unlike ct_are_unlike,
    F_are_unlike := fun_mk (st := s_are_unlike) h_lk_are_unlike h_cd_are_unlike h_kp_f_are_unlike,
    f_is_unknown := f_is_unknown,
    d_is_unknown := PySem.W.fnOf "is_unknown" "is_unknown" (defArgs s_is_unknown) (defBody s_is_unknown) (defScope s_is_unknown) .none kv_is_unknown dc_is_unknown pm_is_unknown an_is_unknown cd_is_unknown ct_is_unknown,
    F_is_unknown := fun_mk (st := s_is_unknown) h_lk_is_unknown h_cd_is_unknown h_kp_f_is_unknown,
    f_is_word := f_is_word,
    d_is_word := PySem.W.fnOf "is_word" "is_word" (defArgs s_is_word) (defBody s_is_word) (defScope s_is_word) .none kv_is_word dc_is_word pm_is_word an_is_word cd_is_word ct_is_word,
    F_is_word := fun_mk (st := s_is_word) h_lk_is_word h_cd_is_word h_kp_f_is_word,
    f_is_called := f_is_called,
    d_is_called := PySem.W.fnOf "is_called" "is_called" (defArgs s_is_called) (defBody s_is_called) (defScope s_is_called) .none kv_is_called dc_is_called pm_is_called an_is_called cd_is_called ct_is_called,
    F_is_called := fun_mk (st := s_is_called) h_lk_is_called h_cd_is_called h_kp_f_is_called,
    f_size_of := f_size_of,
    d_size_of := PySem.W.fnOf "size_of" "size_of" (defArgs s_size_of) (defBody s_size_of) (defScope s_size_of) .none kv_size_of dc_size_of pm_size_of an_size_of cd_size_of ct_size_of,
    F_size_of := fun_mk (st := s_size_of) h_lk_size_of h_cd_size_of h_kp_f_size_of,
    f_parts_of := f_parts_of,
    d_parts_of := PySem.W.fnOf "parts_of" "parts_of" (defArgs s_parts_of) (defBody s_parts_of) (defScope s_parts_of) .none kv_parts_of dc_parts_of pm_parts_of an_parts_of cd_parts_of ct_parts_of,
    F_parts_of := fun_mk (st := s_parts_of) h_lk_parts_of h_cd_parts_of h_kp_f_parts_of,
    f_numbers_in := f_numbers_in,
    d_numbers_in := PySem.W.fnOf "numbers_in" "numbers_in" (defArgs s_numbers_in) (defBody s_numbers_in) (defScope s_numbers_in) .none kv_numbers_in dc_numbers_in pm_numbers_in an_numbers_in cd_numbers_in ct_numbers_in,
    F_numbers_in := fun_mk (st := s_numbers_in) h_lk_numbers_in h_cd_numbers_in h_kp_f_numbers_in,
    f_is_built := f_is_built,
    d_is_built := PySem.W.fnOf "is_built" "is_built" (defArgs s_is_built) (defBody s_is_built) (defScope s_is_built) .none kv_is_built dc_is_built pm_is_built an_is_built cd_is_built ct_is_built,
    F_is_built := fun_mk (st := s_is_built) h_lk_is_built h_cd_is_built h_kp_f_is_built,
    f_check_built := f_check_built,
    d_check_built := PySem.W.fnOf "check_built" "check_built" (defArgs s_check_built) (defBody s_check_built) (defScope s_check_built) .none kv_check_built dc_check_built pm_check_built an_check_built cd_check_built ct_check_built,
    F_check_built := fun_mk (st := s_check_built) h_lk_check_built h_cd_check_built h_kp_f_check_built,
    f_shape_of_name := f_shape_of_name,
    d_shape_of_name := PySem.W.fnOf "shape_of_name" "shape_of_name" (defArgs s_shape_of_name) (defBody s_shape_of_name) (defScope s_shape_of_name) .none kv_shape_of_name dc_shape_of_name pm_shape_of_name an_shape_of_name cd_shape_of_name ct_shape_of_name,
    F_shape_of_name := fun_mk (st := s_shape_of_name) h_lk_shape_of_name h_cd_shape_of_name h_kp_f_shape_of_name,
    f_Machine_init := f_Machine_init,
    d_Machine_init := PySem.W.fnOf "__init__" "Machine.__init__" (defArgs s_Machine_init) (defBody s_Machine_init) (defScope s_Machine_init) .none kv_Machine_init dc_Machine_init pm_Machine_init an_Machine_init cd_Machine_init ct_Machine_init,
    F_Machine_init := fun_mk (st := s_Machine_init) h_lk_Machine_init h_cd_Machine_init h_kp_f_Machine_init,
    f_Machine_is_rule := f_Machine_is_rule,
    d_Machine_is_rule := PySem.W.fnOf "is_rule" "Machine.is_rule" (defArgs s_Machine_is_rule) (defBody s_Machine_is_rule) (defScope s_Machine_is_rule) .none kv_Machine_is_rule dc_Machine_is_rule pm_Machine_is_rule an_Machine_is_rule cd_Machine_is_rule ct_Machine_is_rule,
    F_Machine_is_rule := fun_mk (st := s_Machine_is_rule) h_lk_Machine_is_rule h_cd_Machine_is_rule h_kp_f_Machine_is_rule,
    f_Machine_eq := f_Machine_eq,
    d_Machine_eq := PySem.W.fnOf "__eq__" "Machine.__eq__" (defArgs s_Machine_eq) (defBody s_Machine_eq) (defScope s_Machine_eq) .none kv_Machine_eq dc_Machine_eq pm_Machine_eq an_Machine_eq cd_Machine_eq ct_Machine_eq,
    F_Machine_eq := fun_mk (st := s_Machine_eq) h_lk_Machine_eq h_cd_Machine_eq h_kp_f_Machine_eq,
    f_state_of := f_state_of,
    d_state_of := PySem.W.fnOf "state_of" "state_of" (defArgs s_state_of) (defBody s_state_of) (defScope s_state_of) .none kv_state_of dc_state_of pm_state_of an_state_of cd_state_of ct_state_of,
    F_state_of := fun_mk (st := s_state_of) h_lk_state_of h_cd_state_of h_kp_f_state_of,
    f_state := f_state,
    d_state := PySem.W.fnOf "state" "state" (defArgs s_state) (defBody s_state) (defScope s_state) .none kv_state dc_state pm_state an_state cd_state ct_state,
    F_state := fun_mk (st := s_state) h_lk_state h_cd_state h_kp_f_state,
    f_takes := f_takes,
    d_takes := PySem.W.fnOf "takes" "takes" (defArgs s_takes) (defBody s_takes) (defScope s_takes) .none kv_takes dc_takes pm_takes an_takes cd_takes ct_takes,
    F_takes := fun_mk (st := s_takes) h_lk_takes h_cd_takes h_kp_f_takes,
    f_Order_init := f_Order_init,
    d_Order_init := PySem.W.fnOf "__init__" "Order.__init__" (defArgs s_Order_init) (defBody s_Order_init) (defScope s_Order_init) .none kv_Order_init dc_Order_init pm_Order_init an_Order_init cd_Order_init ct_Order_init,
    F_Order_init := fun_mk (st := s_Order_init) h_lk_Order_init h_cd_Order_init h_kp_f_Order_init,
    f_Order_is_greater := f_Order_is_greater,
    d_Order_is_greater := PySem.W.fnOf "is_greater" "Order.is_greater" (defArgs s_Order_is_greater) (defBody s_Order_is_greater) (defScope s_Order_is_greater) .none kv_Order_is_greater dc_Order_is_greater pm_Order_is_greater an_Order_is_greater cd_Order_is_greater ct_Order_is_greater,
    F_Order_is_greater := fun_mk (st := s_Order_is_greater) h_lk_Order_is_greater h_cd_Order_is_greater h_kp_f_Order_is_greater,
    f_Order_looked := f_Order_looked,
    d_Order_looked := PySem.W.fnOf "looked" "Order.looked" (defArgs s_Order_looked) (defBody s_Order_looked) (defScope s_Order_looked) .none kv_Order_looked dc_Order_looked pm_Order_looked an_Order_looked cd_Order_looked ct_Order_looked,
    F_Order_looked := fun_mk (st := s_Order_looked) h_lk_Order_looked h_cd_Order_looked h_kp_f_Order_looked,
    f_are_words := f_are_words,
    d_are_words := PySem.W.fnOf "are_words" "are_words" (defArgs s_are_words) (defBody s_are_words) (defScope s_are_words) .none kv_are_words dc_are_words pm_are_words an_are_words cd_are_words ct_are_words,
    F_are_words := fun_mk (st := s_are_words) h_lk_are_words h_cd_are_words h_kp_f_are_words,
    f_are_sealed := f_are_sealed,
    d_are_sealed := PySem.W.fnOf "are_sealed" "are_sealed" (defArgs s_are_sealed) (defBody s_are_sealed) (defScope s_are_sealed) .none kv_are_sealed dc_are_sealed pm_are_sealed an_are_sealed cd_are_sealed ct_are_sealed,
    F_are_sealed := fun_mk (st := s_are_sealed) h_lk_are_sealed h_cd_are_sealed h_kp_f_are_sealed,
    f_are_heads := f_are_heads,
    d_are_heads := PySem.W.fnOf "are_heads" "are_heads" (defArgs s_are_heads) (defBody s_are_heads) (defScope s_are_heads) .none kv_are_heads dc_are_heads pm_are_heads an_are_heads cd_are_heads ct_are_heads,
    F_are_heads := fun_mk (st := s_are_heads) h_lk_are_heads h_cd_are_heads h_kp_f_are_heads,
    f_Shape_init := f_Shape_init,
    d_Shape_init := PySem.W.fnOf "__init__" "Shape.__init__" (defArgs s_Shape_init) (defBody s_Shape_init) (defScope s_Shape_init) .none kv_Shape_init dc_Shape_init pm_Shape_init an_Shape_init cd_Shape_init ct_Shape_init,
    F_Shape_init := fun_mk (st := s_Shape_init) h_lk_Shape_init h_cd_Shape_init h_kp_f_Shape_init,
    f_Shape_kind_of := f_Shape_kind_of,
    d_Shape_kind_of := PySem.W.fnOf "kind_of" "Shape.kind_of" (defArgs s_Shape_kind_of) (defBody s_Shape_kind_of) (defScope s_Shape_kind_of) .none kv_Shape_kind_of dc_Shape_kind_of pm_Shape_kind_of an_Shape_kind_of cd_Shape_kind_of ct_Shape_kind_of,
    F_Shape_kind_of := fun_mk (st := s_Shape_kind_of) h_lk_Shape_kind_of h_cd_Shape_kind_of h_kp_f_Shape_kind_of,
    f_Shape_is_asker := f_Shape_is_asker,
    d_Shape_is_asker := PySem.W.fnOf "is_asker" "Shape.is_asker" (defArgs s_Shape_is_asker) (defBody s_Shape_is_asker) (defScope s_Shape_is_asker) .none kv_Shape_is_asker dc_Shape_is_asker pm_Shape_is_asker an_Shape_is_asker cd_Shape_is_asker ct_Shape_is_asker,
    F_Shape_is_asker := fun_mk (st := s_Shape_is_asker) h_lk_Shape_is_asker h_cd_Shape_is_asker h_kp_f_Shape_is_asker,
    f_Shape_told := f_Shape_told,
    d_Shape_told := PySem.W.fnOf "told" "Shape.told" (defArgs s_Shape_told) (defBody s_Shape_told) (defScope s_Shape_told) .none kv_Shape_told dc_Shape_told pm_Shape_told an_Shape_told cd_Shape_told ct_Shape_told,
    F_Shape_told := fun_mk (st := s_Shape_told) h_lk_Shape_told h_cd_Shape_told h_kp_f_Shape_told,
    f_Shape_told_together := f_Shape_told_together,
    d_Shape_told_together := PySem.W.fnOf "told_together" "Shape.told_together" (defArgs s_Shape_told_together) (defBody s_Shape_told_together) (defScope s_Shape_told_together) .none kv_Shape_told_together dc_Shape_told_together pm_Shape_told_together an_Shape_told_together cd_Shape_told_together ct_Shape_told_together,
    F_Shape_told_together := fun_mk (st := s_Shape_told_together) h_lk_Shape_told_together h_cd_Shape_told_together h_kp_f_Shape_told_together,
    f_Shape_told_beside := f_Shape_told_beside,
    d_Shape_told_beside := PySem.W.fnOf "told_beside" "Shape.told_beside" (defArgs s_Shape_told_beside) (defBody s_Shape_told_beside) (defScope s_Shape_told_beside) .none kv_Shape_told_beside dc_Shape_told_beside pm_Shape_told_beside an_Shape_told_beside cd_Shape_told_beside ct_Shape_told_beside,
    F_Shape_told_beside := fun_mk (st := s_Shape_told_beside) h_lk_Shape_told_beside h_cd_Shape_told_beside h_kp_f_Shape_told_beside,
    f_Shape_kind_by := f_Shape_kind_by,
    d_Shape_kind_by := PySem.W.fnOf "kind_by" "Shape.kind_by" (defArgs s_Shape_kind_by) (defBody s_Shape_kind_by) (defScope s_Shape_kind_by) .none kv_Shape_kind_by dc_Shape_kind_by pm_Shape_kind_by an_Shape_kind_by cd_Shape_kind_by ct_Shape_kind_by,
    F_Shape_kind_by := fun_mk (st := s_Shape_kind_by) h_lk_Shape_kind_by h_cd_Shape_kind_by h_kp_f_Shape_kind_by,
    f_is_law := f_is_law,
    d_is_law := PySem.W.fnOf "is_law" "is_law" (defArgs s_is_law) (defBody s_is_law) (defScope s_is_law) .none kv_is_law dc_is_law pm_is_law an_is_law cd_is_law ct_is_law,
    F_is_law := fun_mk (st := s_is_law) h_lk_is_law h_cd_is_law h_kp_f_is_law,
    f_Door_init := f_Door_init,
    d_Door_init := PySem.W.fnOf "__init__" "Door.__init__" (defArgs s_Door_init) (defBody s_Door_init) (defScope s_Door_init) .none kv_Door_init dc_Door_init pm_Door_init an_Door_init cd_Door_init ct_Door_init,
    F_Door_init := fun_mk (st := s_Door_init) h_lk_Door_init h_cd_Door_init h_kp_f_Door_init,
    f_Door_eq := f_Door_eq,
    d_Door_eq := PySem.W.fnOf "__eq__" "Door.__eq__" (defArgs s_Door_eq) (defBody s_Door_eq) (defScope s_Door_eq) .none kv_Door_eq dc_Door_eq pm_Door_eq an_Door_eq cd_Door_eq ct_Door_eq,
    F_Door_eq := fun_mk (st := s_Door_eq) h_lk_Door_eq h_cd_Door_eq h_kp_f_Door_eq,
    f_number_of := f_number_of,
    d_number_of := PySem.W.fnOf "number_of" "number_of" (defArgs s_number_of) (defBody s_number_of) (defScope s_number_of) .none kv_number_of dc_number_of pm_number_of an_number_of cd_number_of ct_number_of,
    F_number_of := fun_mk (st := s_number_of) h_lk_number_of h_cd_number_of h_kp_f_number_of,
    f_lines_of := f_lines_of,
    d_lines_of := PySem.W.fnOf "lines_of" "lines_of" (defArgs s_lines_of) (defBody s_lines_of) (defScope s_lines_of) .none kv_lines_of dc_lines_of pm_lines_of an_lines_of cd_lines_of ct_lines_of,
    F_lines_of := fun_mk (st := s_lines_of) h_lk_lines_of h_cd_lines_of h_kp_f_lines_of,
    f_machine_text := f_machine_text,
    d_machine_text := PySem.W.fnOf "machine_text" "machine_text" (defArgs s_machine_text) (defBody s_machine_text) (defScope s_machine_text) .none kv_machine_text dc_machine_text pm_machine_text an_machine_text cd_machine_text ct_machine_text,
    F_machine_text := fun_mk (st := s_machine_text) h_lk_machine_text h_cd_machine_text h_kp_f_machine_text,
    f_rule_line := f_rule_line,
    d_rule_line := PySem.W.fnOf "rule_line" "rule_line" (defArgs s_rule_line) (defBody s_rule_line) (defScope s_rule_line) .none kv_rule_line dc_rule_line pm_rule_line an_rule_line cd_rule_line ct_rule_line,
    F_rule_line := fun_mk (st := s_rule_line) h_lk_rule_line h_cd_rule_line h_kp_f_rule_line,
    f_last_line := f_last_line,
    d_last_line := PySem.W.fnOf "last_line" "last_line" (defArgs s_last_line) (defBody s_last_line) (defScope s_last_line) .none kv_last_line dc_last_line pm_last_line an_last_line cd_last_line ct_last_line,
    F_last_line := fun_mk (st := s_last_line) h_lk_last_line h_cd_last_line h_kp_f_last_line,
    f_read_machine := f_read_machine,
    d_read_machine := PySem.W.fnOf "read_machine" "read_machine" (defArgs s_read_machine) (defBody s_read_machine) (defScope s_read_machine) .none kv_read_machine dc_read_machine pm_read_machine an_read_machine cd_read_machine ct_read_machine,
    F_read_machine := fun_mk (st := s_read_machine) h_lk_read_machine h_cd_read_machine h_kp_f_read_machine,
    f__law_tape := f__law_tape,
    d__law_tape := PySem.W.fnOf "_law_tape" "_law_tape" (defArgs s__law_tape) (defBody s__law_tape) (defScope s__law_tape) .none kv__law_tape dc__law_tape pm__law_tape an__law_tape cd__law_tape ct__law_tape,
    F__law_tape := fun_mk (st := s__law_tape) h_lk__law_tape h_cd__law_tape h_kp_f__law_tape,
    f__law_pick := f__law_pick,
    d__law_pick := PySem.W.fnOf "_law_pick" "_law_pick" (defArgs s__law_pick) (defBody s__law_pick) (defScope s__law_pick) .none kv__law_pick dc__law_pick pm__law_pick an__law_pick cd__law_pick ct__law_pick,
    F__law_pick := fun_mk (st := s__law_pick) h_lk__law_pick h_cd__law_pick h_kp_f__law_pick,
    f__law_any := f__law_any,
    d__law_any := PySem.W.fnOf "_law_any" "_law_any" (defArgs s__law_any) (defBody s__law_any) (defScope s__law_any) .none kv__law_any dc__law_any pm__law_any an__law_any cd__law_any ct__law_any,
    F__law_any := fun_mk (st := s__law_any) h_lk__law_any h_cd__law_any h_kp_f__law_any,
    f__law_mixed := f__law_mixed,
    d__law_mixed := PySem.W.fnOf "_law_mixed" "_law_mixed" (defArgs s__law_mixed) (defBody s__law_mixed) (defScope s__law_mixed) .none kv__law_mixed dc__law_mixed pm__law_mixed an__law_mixed cd__law_mixed ct__law_mixed,
    F__law_mixed := fun_mk (st := s__law_mixed) h_lk__law_mixed h_cd__law_mixed h_kp_f__law_mixed,
    f__law_parts := f__law_parts,
    d__law_parts := PySem.W.fnOf "_law_parts" "_law_parts" (defArgs s__law_parts) (defBody s__law_parts) (defScope s__law_parts) .none kv__law_parts dc__law_parts pm__law_parts an__law_parts cd__law_parts ct__law_parts,
    F__law_parts := fun_mk (st := s__law_parts) h_lk__law_parts h_cd__law_parts h_kp_f__law_parts,
    f__law_told := f__law_told,
    d__law_told := PySem.W.fnOf "_law_told" "_law_told" (defArgs s__law_told) (defBody s__law_told) (defScope s__law_told) .none kv__law_told dc__law_told pm__law_told an__law_told cd__law_told ct__law_told,
    F__law_told := fun_mk (st := s__law_told) h_lk__law_told h_cd__law_told h_kp_f__law_told,
    f__law_states := f__law_states,
    d__law_states := PySem.W.fnOf "_law_states" "_law_states" (defArgs s__law_states) (defBody s__law_states) (defScope s__law_states) .none kv__law_states dc__law_states pm__law_states an__law_states cd__law_states ct__law_states,
    F__law_states := fun_mk (st := s__law_states) h_lk__law_states h_cd__law_states h_kp_f__law_states,
    f__law_keys := f__law_keys,
    d__law_keys := PySem.W.fnOf "_law_keys" "_law_keys" (defArgs s__law_keys) (defBody s__law_keys) (defScope s__law_keys) .none kv__law_keys dc__law_keys pm__law_keys an__law_keys cd__law_keys ct__law_keys,
    F__law_keys := fun_mk (st := s__law_keys) h_lk__law_keys h_cd__law_keys h_kp_f__law_keys,
    f__law_rules := f__law_rules,
    d__law_rules := PySem.W.fnOf "_law_rules" "_law_rules" (defArgs s__law_rules) (defBody s__law_rules) (defScope s__law_rules) .none kv__law_rules dc__law_rules pm__law_rules an__law_rules cd__law_rules ct__law_rules,
    F__law_rules := fun_mk (st := s__law_rules) h_lk__law_rules h_cd__law_rules h_kp_f__law_rules,
    f__law_text := f__law_text,
    d__law_text := PySem.W.fnOf "_law_text" "_law_text" (defArgs s__law_text) (defBody s__law_text) (defScope s__law_text) .none kv__law_text dc__law_text pm__law_text an__law_text cd__law_text ct__law_text,
    F__law_text := fun_mk (st := s__law_text) h_lk__law_text h_cd__law_text h_kp_f__law_text,
    f__law_term := f__law_term,
    d__law_term := PySem.W.fnOf "_law_term" "_law_term" (defArgs s__law_term) (defBody s__law_term) (defScope s__law_term) .none kv__law_term dc__law_term pm__law_term an__law_term cd__law_term ct__law_term,
    F__law_term := fun_mk (st := s__law_term) h_lk__law_term h_cd__law_term h_kp_f__law_term,
    f__law_state := f__law_state,
    d__law_state := PySem.W.fnOf "_law_state" "_law_state" (defArgs s__law_state) (defBody s__law_state) (defScope s__law_state) .none kv__law_state dc__law_state pm__law_state an__law_state cd__law_state ct__law_state,
    F__law_state := fun_mk (st := s__law_state) h_lk__law_state h_cd__law_state h_kp_f__law_state,
    f__law_is_read_alike := f__law_is_read_alike,
    d__law_is_read_alike := PySem.W.fnOf "_law_is_read_alike" "_law_is_read_alike" (defArgs s__law_is_read_alike) (defBody s__law_is_read_alike) (defScope s__law_is_read_alike) .none kv__law_is_read_alike dc__law_is_read_alike pm__law_is_read_alike an__law_is_read_alike cd__law_is_read_alike ct__law_is_read_alike,
    F__law_is_read_alike := fun_mk (st := s__law_is_read_alike) h_lk__law_is_read_alike h_cd__law_is_read_alike h_kp_f__law_is_read_alike,
    f__law_joined := f__law_joined,
    d__law_joined := PySem.W.fnOf "_law_joined" "_law_joined" (defArgs s__law_joined) (defBody s__law_joined) (defScope s__law_joined) .none kv__law_joined dc__law_joined pm__law_joined an__law_joined cd__law_joined ct__law_joined,
    F__law_joined := fun_mk (st := s__law_joined) h_lk__law_joined h_cd__law_joined h_kp_f__law_joined,
    f__law_is_misread := f__law_is_misread,
    d__law_is_misread := PySem.W.fnOf "_law_is_misread" "_law_is_misread" (defArgs s__law_is_misread) (defBody s__law_is_misread) (defScope s__law_is_misread) .none kv__law_is_misread dc__law_is_misread pm__law_is_misread an__law_is_misread (.ref c1) ct__law_is_misread,
    F__law_is_misread := fun_mk (st := s__law_is_misread) h_lk__law_is_misread h_cd__law_is_misread h_kp_f__law_is_misread,
    f__law_is_no_machine := f__law_is_no_machine,
    d__law_is_no_machine := PySem.W.fnOf "_law_is_no_machine" "_law_is_no_machine" (defArgs s__law_is_no_machine) (defBody s__law_is_no_machine) (defScope s__law_is_no_machine) .none kv__law_is_no_machine dc__law_is_no_machine pm__law_is_no_machine an__law_is_no_machine (.ref c2) ct__law_is_no_machine,
    F__law_is_no_machine := fun_mk (st := s__law_is_no_machine) h_lk__law_is_no_machine h_cd__law_is_no_machine h_kp_f__law_is_no_machine,
    f__law_known_right := f__law_known_right,
    d__law_known_right := PySem.W.fnOf "_law_known_right" "_law_known_right" (defArgs s__law_known_right) (defBody s__law_known_right) (defScope s__law_known_right) .none kv__law_known_right dc__law_known_right pm__law_known_right an__law_known_right cd__law_known_right ct__law_known_right,
    F__law_known_right := fun_mk (st := s__law_known_right) h_lk__law_known_right h_cd__law_known_right h_kp_f__law_known_right,
    f_law := fa,
    d_law := PySem.W.fnOf "law" "law" (defArgs s_law) (defBody s_law) (defScope s_law) .none kv_law dc_law pm_law an_law cd_law ct_law,
    F_law := fun_mk (st := s_law) h_lk_law h_cd_law h_kp_f_law,
    cl_Machine := ⟨h_pg_C_Machine, h_hd_C_Machine, h_po_C_Machine, h_sa_C_Machine⟩,
    n_Machine_door := h_n_Machine_door,
    n_Machine_leads := h_n_Machine_leads,
    n_Machine_state_kinds := h_n_Machine_state_kinds,
    n_Machine_order_told := h_n_Machine_order_told,
    n_Machine_rules := h_n_Machine_rules,
    n_Machine_last := h_n_Machine_last,
    cl_Order := ⟨h_pg_C_Order, h_hd_C_Order, h_po_C_Order, h_sa_C_Order⟩,
    n_Order_rank := h_n_Order_rank,
    n_Order_found := h_n_Order_found,
    cl_Shape := ⟨h_pg_C_Shape, h_hd_C_Shape, h_po_C_Shape, h_sa_C_Shape⟩,
    n_Shape_sealed := h_n_Shape_sealed,
    n_Shape_word_kinds := h_n_Shape_word_kinds,
    n_Shape_lots := h_n_Shape_lots,
    n_Shape_heads := h_n_Shape_heads,
    n_Shape_rank := h_n_Shape_rank,
    cl_Door := ⟨h_pg_C_Door, h_hd_C_Door, h_po_C_Door, h_sa_C_Door⟩,
    n_Door_shape := h_n_Door_shape,
    n_Door_words := h_n_Door_words,
    n_Door_sealed := h_n_Door_sealed,
    n_Door_heads := h_n_Door_heads,
    n_Door_laws := h_n_Door_laws,
    n_Door_meeting := h_n_Door_meeting }
  refine ⟨T, ⟨⟨h_mo_C_Machine, h_ne_C_Machine, h_at_f_Machine_eq, h_fn_f_Machine_eq⟩, ⟨h_mo_C_Door, h_ne_C_Door, h_at_f_Door_eq, h_fn_f_Door_eq⟩, ⟨⟨h_pg_C_Machine, h_hd_C_Machine, h_po_C_Machine, h_sa_C_Machine⟩, h_ca_C_Machine, h_sg, h_tk, h_mo_C_Machine, kit_same⟩, ⟨⟨h_pg_C_Door, h_hd_C_Door, h_po_C_Door, h_sa_C_Door⟩, h_ca_C_Door, h_sg, h_tk, h_mo_C_Door, kit_same⟩⟩, f_BadText, f_BadMachine, ?_, ?_, ?_, c1, c2, P1, P2, rfl, h_ne, ⟨⟨(an__law_is_misread, od__law_is_misread), (kv__law_is_misread, dc__law_is_misread, pm__law_is_misread, ct__law_is_misread, oc__law_is_misread), sl__law_is_misread, rfl, h_lk__law_is_misread, h_cd__law_is_misread⟩⟩, ⟨⟨(an__law_is_no_machine, od__law_is_no_machine), (kv__law_is_no_machine, dc__law_is_no_machine, pm__law_is_no_machine, ct__law_is_no_machine, oc__law_is_no_machine), sl__law_is_no_machine, rfl, h_lk__law_is_no_machine, h_cd__law_is_no_machine⟩⟩, h_n1, h_n2, h_d1, h_d2, h_i1, h_i2⟩
  · exact ⟨PySem.W.mg_of X G h_m_BadText, ⟨nm_BadText, q_BadText, N_BadText, bs_BadText, bm_BadText, sn_BadText, sub_BadText, ab_BadText, col_BadText, dd_BadText, k0_BadText, k1_BadText, k2_BadText, k3_BadText, k5_BadText, h_cls_BadText, h_ve_BadText⟩, h_sa_BadText, h_ga_BadText, h_gg_BadText, h_nn_BadText, h_ii_BadText, h_tt_BadText, h_kc_BadText, h_be_BadText, h_vv_BadText, h_ty_BadText, h_hd_BadText, h_ow_BadText, h_op, h_up_BadText, PySem.W.mg_none_of X G h_t_super, h_top, ⟨oc_BadText, od_BadText, dc_BadText, pm_BadText, an_BadText, cd_BadText, ct_BadText, sl_BadText, cc_BadText, ccl_BadText, cdd_BadText, vs_BadText, ccs_BadText, file_BadText, tf_BadText, cl_BadText, cld_BadText, csl_BadText, h_fl_BadText, h_fc_BadText, h_fv_BadText, h_v2_BadText, h_ff_BadText, h_ce_BadText⟩⟩
  · exact ⟨PySem.W.mg_of X G h_m_BadMachine, ⟨nm_BadMachine, q_BadMachine, N_BadMachine, bs_BadMachine, bm_BadMachine, sn_BadMachine, sub_BadMachine, ab_BadMachine, col_BadMachine, dd_BadMachine, k0_BadMachine, k1_BadMachine, k2_BadMachine, k3_BadMachine, k5_BadMachine, h_cls_BadMachine, h_ve_BadMachine⟩, h_sa_BadMachine, h_ga_BadMachine, h_gg_BadMachine, h_nn_BadMachine, h_ii_BadMachine, h_tt_BadMachine, h_kc_BadMachine, h_be_BadMachine, h_vv_BadMachine, h_ty_BadMachine, h_hd_BadMachine, h_ow_BadMachine, h_op, h_up_BadMachine, PySem.W.mg_none_of X G h_t_super, h_top, ⟨oc_BadMachine, od_BadMachine, dc_BadMachine, pm_BadMachine, an_BadMachine, cd_BadMachine, ct_BadMachine, sl_BadMachine, cc_BadMachine, ccl_BadMachine, cdd_BadMachine, vs_BadMachine, ccs_BadMachine, file_BadMachine, tf_BadMachine, cl_BadMachine, cld_BadMachine, csl_BadMachine, h_fl_BadMachine, h_fc_BadMachine, h_fv_BadMachine, h_v2_BadMachine, h_ff_BadMachine, h_ce_BadMachine⟩⟩
  · exact ⟨⟨h_ic_BadText, h_ga_BadText, h_gg_BadText, h_be_BadText, h_ca_BadText, h_sg, h_tk, h_mo_BadText⟩, ⟨h_ic_BadMachine, h_ga_BadMachine, h_gg_BadMachine, h_be_BadMachine, h_ca_BadMachine, h_sg, h_tk, h_mo_BadMachine⟩, exm_cls h_dbe h_dic h_dty h_de_BadText, exm_cls h_dbe h_dic h_dty h_de_BadMachine, kit_same, kit_other h_nc h_ic_BadMachine h_ty_BadMachine h_tm, kit_other h_nc2 h_ic_BadText h_ty_BadText h_mt, kit_same, kit_VE h_vv_BadText, kit_VE h_vv_BadMachine⟩
end T82
open PySem PySem.W PyProof.Rows in
set_option maxRecDepth 100000 in
set_option maxHeartbeats 0 in
theorem PySem.Challenge.cw_doorhouses_k82_whole_texts_of_machines_holds : PySem.Challenge.rw_doorhouses_k82_whole_texts_of_machines.Holds := by
  w_on; o_law; k_head; (case hw => w_witness2)
  k_fill
  refine T82.walkT (l := PySem.Challenge.rw_doorhouses_k82_whole_texts_of_machines) rfl rfl (fun w h Y => ⟨km_in_of Y, km_tabs_of Y⟩) ?F
  case F =>
    intro w mg fa h KX G hmg
    refine' T82.gather KX G hmg ?h_t_ValueError ?h_t_abs ?h_t_all ?h_t_any ?h_t_bool ?h_t_dict ?h_t_enumerate ?h_t_int ?h_t_isinstance ?h_t_len ?h_t_list ?h_t_range ?h_t_repr ?h_t_set ?h_t_sorted ?h_t_str ?h_t_sum ?h_t_super ?h_t_tuple ?h_t_zip ?h_c_LETTERS ?h_c_MOST_LETTERS ?h_c_MOST_NUMBER ?h_c_UNKNOWN ?h_c_MOST_STATES ?h_c_MOST_RULES ?h_c_MOST_PARTS ?h_c_MOST_KINDS ?h_c_MOST_WORDS ?h_c_MOST_HEADS ?h_c_MOST_LAWS ?h_c_MOST_LAW_PARTS ?h_c_MOST_SHAPE ?h_c_FIGURES ?h_c_MOST_FIGURES ?h_m_DoorError ?h_m_BadDoor ?h_m_BadText ?h_m_BadMachine ?h_m_NoBuilt ?h_m_Machine ?h_m_Order ?h_m_Shape ?h_m_Door ?h_m_is_integer ?h_m_is_within ?h_m_is_name ?h_m_is_tuple ?h_m_are_unlike ?h_m_is_unknown ?h_m_is_word ?h_m_is_called ?h_m_size_of ?h_m_parts_of ?h_m_numbers_in ?h_m_is_built ?h_m_check_built ?h_m_shape_of_name ?h_m_state_of ?h_m_state ?h_m_takes ?h_m_are_words ?h_m_are_sealed ?h_m_are_heads ?h_m_is_law ?h_m_number_of ?h_m_lines_of ?h_m_machine_text ?h_m_rule_line ?h_m_last_line ?h_m_read_machine ?h_m__law_tape ?h_m__law_pick ?h_m__law_any ?h_m__law_mixed ?h_m__law_parts ?h_m__law_told ?h_m__law_states ?h_m__law_keys ?h_m__law_rules ?h_m__law_text ?h_m__law_term ?h_m__law_state ?h_m__law_is_read_alike ?h_m__law_joined ?h_m__law_is_misread ?h_m__law_is_no_machine ?h_m__law_known_right ?h_m_law ?h_mk_C_Machine ?h_in_C_Machine ?h_fn_f_Machine_init ?h_kp_C_Machine ?h_mk_C_Order ?h_in_C_Order ?h_fn_f_Order_init ?h_kp_C_Order ?h_mk_C_Shape ?h_in_C_Shape ?h_fn_f_Shape_init ?h_kp_C_Shape ?h_mk_C_Door ?h_in_C_Door ?h_fn_f_Door_init ?h_kp_C_Door ?h_at_f_Machine_eq ?h_fn_f_Machine_eq ?h_at_f_Door_eq ?h_fn_f_Door_eq ?h_at_f_Machine_is_rule ?h_fn_f_Machine_is_rule ?h_at_f_Order_is_greater ?h_fn_f_Order_is_greater ?h_at_f_Order_looked ?h_fn_f_Order_looked ?h_at_f_Shape_kind_of ?h_fn_f_Shape_kind_of ?h_at_f_Shape_is_asker ?h_fn_f_Shape_is_asker ?h_at_f_Shape_told ?h_fn_f_Shape_told ?h_at_f_Shape_told_together ?h_fn_f_Shape_told_together ?h_at_f_Shape_told_beside ?h_fn_f_Shape_told_beside ?h_at_f_Shape_kind_by ?h_fn_f_Shape_kind_by ?h_lk_is_integer ?h_cd_is_integer ?h_kp_f_is_integer ?h_lk_is_within ?h_cd_is_within ?h_kp_f_is_within ?h_lk_is_name ?h_cd_is_name ?h_kp_f_is_name ?h_lk_is_tuple ?h_cd_is_tuple ?h_kp_f_is_tuple ?h_lk_are_unlike ?h_cd_are_unlike ?h_kp_f_are_unlike ?h_lk_is_unknown ?h_cd_is_unknown ?h_kp_f_is_unknown ?h_lk_is_word ?h_cd_is_word ?h_kp_f_is_word ?h_lk_is_called ?h_cd_is_called ?h_kp_f_is_called ?h_lk_size_of ?h_cd_size_of ?h_kp_f_size_of ?h_lk_parts_of ?h_cd_parts_of ?h_kp_f_parts_of ?h_lk_numbers_in ?h_cd_numbers_in ?h_kp_f_numbers_in ?h_lk_is_built ?h_cd_is_built ?h_kp_f_is_built ?h_lk_check_built ?h_cd_check_built ?h_kp_f_check_built ?h_lk_shape_of_name ?h_cd_shape_of_name ?h_kp_f_shape_of_name ?h_lk_Machine_init ?h_cd_Machine_init ?h_kp_f_Machine_init ?h_lk_Machine_is_rule ?h_cd_Machine_is_rule ?h_kp_f_Machine_is_rule ?h_lk_Machine_eq ?h_cd_Machine_eq ?h_kp_f_Machine_eq ?h_lk_state_of ?h_cd_state_of ?h_kp_f_state_of ?h_lk_state ?h_cd_state ?h_kp_f_state ?h_lk_takes ?h_cd_takes ?h_kp_f_takes ?h_lk_Order_init ?h_cd_Order_init ?h_kp_f_Order_init ?h_lk_Order_is_greater ?h_cd_Order_is_greater ?h_kp_f_Order_is_greater ?h_lk_Order_looked ?h_cd_Order_looked ?h_kp_f_Order_looked ?h_lk_are_words ?h_cd_are_words ?h_kp_f_are_words ?h_lk_are_sealed ?h_cd_are_sealed ?h_kp_f_are_sealed ?h_lk_are_heads ?h_cd_are_heads ?h_kp_f_are_heads ?h_lk_Shape_init ?h_cd_Shape_init ?h_kp_f_Shape_init ?h_lk_Shape_kind_of ?h_cd_Shape_kind_of ?h_kp_f_Shape_kind_of ?h_lk_Shape_is_asker ?h_cd_Shape_is_asker ?h_kp_f_Shape_is_asker ?h_lk_Shape_told ?h_cd_Shape_told ?h_kp_f_Shape_told ?h_lk_Shape_told_together ?h_cd_Shape_told_together ?h_kp_f_Shape_told_together ?h_lk_Shape_told_beside ?h_cd_Shape_told_beside ?h_kp_f_Shape_told_beside ?h_lk_Shape_kind_by ?h_cd_Shape_kind_by ?h_kp_f_Shape_kind_by ?h_lk_is_law ?h_cd_is_law ?h_kp_f_is_law ?h_lk_Door_init ?h_cd_Door_init ?h_kp_f_Door_init ?h_lk_Door_eq ?h_cd_Door_eq ?h_kp_f_Door_eq ?h_lk_number_of ?h_cd_number_of ?h_kp_f_number_of ?h_lk_lines_of ?h_cd_lines_of ?h_kp_f_lines_of ?h_lk_machine_text ?h_cd_machine_text ?h_kp_f_machine_text ?h_lk_rule_line ?h_cd_rule_line ?h_kp_f_rule_line ?h_lk_last_line ?h_cd_last_line ?h_kp_f_last_line ?h_lk_read_machine ?h_cd_read_machine ?h_kp_f_read_machine ?h_lk__law_tape ?h_cd__law_tape ?h_kp_f__law_tape ?h_lk__law_pick ?h_cd__law_pick ?h_kp_f__law_pick ?h_lk__law_any ?h_cd__law_any ?h_kp_f__law_any ?h_lk__law_mixed ?h_cd__law_mixed ?h_kp_f__law_mixed ?h_lk__law_parts ?h_cd__law_parts ?h_kp_f__law_parts ?h_lk__law_told ?h_cd__law_told ?h_kp_f__law_told ?h_lk__law_states ?h_cd__law_states ?h_kp_f__law_states ?h_lk__law_keys ?h_cd__law_keys ?h_kp_f__law_keys ?h_lk__law_rules ?h_cd__law_rules ?h_kp_f__law_rules ?h_lk__law_text ?h_cd__law_text ?h_kp_f__law_text ?h_lk__law_term ?h_cd__law_term ?h_kp_f__law_term ?h_lk__law_state ?h_cd__law_state ?h_kp_f__law_state ?h_lk__law_is_read_alike ?h_cd__law_is_read_alike ?h_kp_f__law_is_read_alike ?h_lk__law_joined ?h_cd__law_joined ?h_kp_f__law_joined ?h_lk__law_is_misread ?h_cd__law_is_misread ?h_kp_f__law_is_misread ?h_lk__law_is_no_machine ?h_cd__law_is_no_machine ?h_kp_f__law_is_no_machine ?h_lk__law_known_right ?h_cd__law_known_right ?h_kp_f__law_known_right ?h_lk_law ?h_cd_law ?h_kp_f_law ?h_pg_C_Machine ?h_hd_C_Machine ?h_po_C_Machine ?h_sa_C_Machine ?h_n_Machine_door ?h_n_Machine_leads ?h_n_Machine_state_kinds ?h_n_Machine_order_told ?h_n_Machine_rules ?h_n_Machine_last ?h_pg_C_Order ?h_hd_C_Order ?h_po_C_Order ?h_sa_C_Order ?h_n_Order_rank ?h_n_Order_found ?h_pg_C_Shape ?h_hd_C_Shape ?h_po_C_Shape ?h_sa_C_Shape ?h_n_Shape_sealed ?h_n_Shape_word_kinds ?h_n_Shape_lots ?h_n_Shape_heads ?h_n_Shape_rank ?h_pg_C_Door ?h_hd_C_Door ?h_po_C_Door ?h_sa_C_Door ?h_n_Door_shape ?h_n_Door_words ?h_n_Door_sealed ?h_n_Door_heads ?h_n_Door_laws ?h_n_Door_meeting ?h_ne_C_Machine ?h_ca_C_Machine ?h_mo_C_Machine ?h_ne_C_Door ?h_ca_C_Door ?h_mo_C_Door ?h_sg ?h_tk ?h_cls_BadText ?h_ve_BadText ?h_sa_BadText ?h_ga_BadText ?h_gg_BadText ?h_nn_BadText ?h_ii_BadText ?h_tt_BadText ?h_kc_BadText ?h_be_BadText ?h_vv_BadText ?h_ty_BadText ?h_hd_BadText ?h_ow_BadText ?h_up_BadText ?h_fl_BadText ?h_fc_BadText ?h_fv_BadText ?h_v2_BadText ?h_ff_BadText ?h_ce_BadText ?h_ic_BadText ?h_ca_BadText ?h_mo_BadText ?h_de_BadText ?h_cls_BadMachine ?h_ve_BadMachine ?h_sa_BadMachine ?h_ga_BadMachine ?h_gg_BadMachine ?h_nn_BadMachine ?h_ii_BadMachine ?h_tt_BadMachine ?h_kc_BadMachine ?h_be_BadMachine ?h_vv_BadMachine ?h_ty_BadMachine ?h_hd_BadMachine ?h_ow_BadMachine ?h_up_BadMachine ?h_fl_BadMachine ?h_fc_BadMachine ?h_fv_BadMachine ?h_v2_BadMachine ?h_ff_BadMachine ?h_ce_BadMachine ?h_ic_BadMachine ?h_ca_BadMachine ?h_mo_BadMachine ?h_de_BadMachine ?h_op ?h_top ?h_dbe ?h_dic ?h_dty ?h_tm ?h_mt ?h_nc ?h_nc2 ?h_t1 ?h_t2 ?h_p1 ?h_p2 ?h_n1 ?h_n2 ?h_d1 ?h_d2 ?h_ne ?h_i1 ?h_i2
    (case h_t_ValueError => k_is)
    (case h_t_abs => k_is)
    (case h_t_all => k_is)
    (case h_t_any => k_is)
    (case h_t_bool => k_is)
    (case h_t_dict => k_is)
    (case h_t_enumerate => k_is)
    (case h_t_int => k_is)
    (case h_t_isinstance => k_is)
    (case h_t_len => k_is)
    (case h_t_list => k_is)
    (case h_t_range => k_is)
    (case h_t_repr => k_is)
    (case h_t_set => k_is)
    (case h_t_sorted => k_is)
    (case h_t_str => k_is)
    (case h_t_sum => k_is)
    (case h_t_super => k_is)
    (case h_t_tuple => k_is)
    (case h_t_zip => k_is)
    (case h_c_LETTERS => k_is)
    (case h_c_MOST_LETTERS => k_is)
    (case h_c_MOST_NUMBER => k_is)
    (case h_c_UNKNOWN => k_is)
    (case h_c_MOST_STATES => k_is)
    (case h_c_MOST_RULES => k_is)
    (case h_c_MOST_PARTS => k_is)
    (case h_c_MOST_KINDS => k_is)
    (case h_c_MOST_WORDS => k_is)
    (case h_c_MOST_HEADS => k_is)
    (case h_c_MOST_LAWS => k_is)
    (case h_c_MOST_LAW_PARTS => k_is)
    (case h_c_MOST_SHAPE => k_is)
    (case h_c_FIGURES => k_is)
    (case h_c_MOST_FIGURES => k_is)
    (case h_m_DoorError => k_is)
    (case h_m_BadDoor => k_is)
    (case h_m_BadText => k_is)
    (case h_m_BadMachine => k_is)
    (case h_m_NoBuilt => k_is)
    (case h_m_Machine => k_is)
    (case h_m_Order => k_is)
    (case h_m_Shape => k_is)
    (case h_m_Door => k_is)
    (case h_m_is_integer => k_is)
    (case h_m_is_within => k_is)
    (case h_m_is_name => k_is)
    (case h_m_is_tuple => k_is)
    (case h_m_are_unlike => k_is)
    (case h_m_is_unknown => k_is)
    (case h_m_is_word => k_is)
    (case h_m_is_called => k_is)
    (case h_m_size_of => k_is)
    (case h_m_parts_of => k_is)
    (case h_m_numbers_in => k_is)
    (case h_m_is_built => k_is)
    (case h_m_check_built => k_is)
    (case h_m_shape_of_name => k_is)
    (case h_m_state_of => k_is)
    (case h_m_state => k_is)
    (case h_m_takes => k_is)
    (case h_m_are_words => k_is)
    (case h_m_are_sealed => k_is)
    (case h_m_are_heads => k_is)
    (case h_m_is_law => k_is)
    (case h_m_number_of => k_is)
    (case h_m_lines_of => k_is)
    (case h_m_machine_text => k_is)
    (case h_m_rule_line => k_is)
    (case h_m_last_line => k_is)
    (case h_m_read_machine => k_is)
    (case h_m__law_tape => k_is)
    (case h_m__law_pick => k_is)
    (case h_m__law_any => k_is)
    (case h_m__law_mixed => k_is)
    (case h_m__law_parts => k_is)
    (case h_m__law_told => k_is)
    (case h_m__law_states => k_is)
    (case h_m__law_keys => k_is)
    (case h_m__law_rules => k_is)
    (case h_m__law_text => k_is)
    (case h_m__law_term => k_is)
    (case h_m__law_state => k_is)
    (case h_m__law_is_read_alike => k_is)
    (case h_m__law_joined => k_is)
    (case h_m__law_is_misread => k_is)
    (case h_m__law_is_no_machine => k_is)
    (case h_m__law_known_right => k_is)
    (case h_m_law => k_is)
    (case h_mk_C_Machine => k_is)
    (case h_in_C_Machine => k_is)
    (case h_fn_f_Machine_init => k_is)
    (case h_kp_C_Machine => k_is)
    (case h_mk_C_Order => k_is)
    (case h_in_C_Order => k_is)
    (case h_fn_f_Order_init => k_is)
    (case h_kp_C_Order => k_is)
    (case h_mk_C_Shape => k_is)
    (case h_in_C_Shape => k_is)
    (case h_fn_f_Shape_init => k_is)
    (case h_kp_C_Shape => k_is)
    (case h_mk_C_Door => k_is)
    (case h_in_C_Door => k_is)
    (case h_fn_f_Door_init => k_is)
    (case h_kp_C_Door => k_is)
    (case h_at_f_Machine_eq => k_is)
    (case h_fn_f_Machine_eq => k_is)
    (case h_at_f_Door_eq => k_is)
    (case h_fn_f_Door_eq => k_is)
    (case h_at_f_Machine_is_rule => k_is)
    (case h_fn_f_Machine_is_rule => k_is)
    (case h_at_f_Order_is_greater => k_is)
    (case h_fn_f_Order_is_greater => k_is)
    (case h_at_f_Order_looked => k_is)
    (case h_fn_f_Order_looked => k_is)
    (case h_at_f_Shape_kind_of => k_is)
    (case h_fn_f_Shape_kind_of => k_is)
    (case h_at_f_Shape_is_asker => k_is)
    (case h_fn_f_Shape_is_asker => k_is)
    (case h_at_f_Shape_told => k_is)
    (case h_fn_f_Shape_told => k_is)
    (case h_at_f_Shape_told_together => k_is)
    (case h_fn_f_Shape_told_together => k_is)
    (case h_at_f_Shape_told_beside => k_is)
    (case h_fn_f_Shape_told_beside => k_is)
    (case h_at_f_Shape_kind_by => k_is)
    (case h_fn_f_Shape_kind_by => k_is)
    (case h_lk_is_integer => k_is)
    (case h_cd_is_integer => k_is)
    (case h_kp_f_is_integer => k_is)
    (case h_lk_is_within => k_is)
    (case h_cd_is_within => k_is)
    (case h_kp_f_is_within => k_is)
    (case h_lk_is_name => k_is)
    (case h_cd_is_name => k_is)
    (case h_kp_f_is_name => k_is)
    (case h_lk_is_tuple => k_is)
    (case h_cd_is_tuple => k_is)
    (case h_kp_f_is_tuple => k_is)
    (case h_lk_are_unlike => k_is)
    (case h_cd_are_unlike => k_is)
    (case h_kp_f_are_unlike => k_is)
    (case h_lk_is_unknown => k_is)
    (case h_cd_is_unknown => k_is)
    (case h_kp_f_is_unknown => k_is)
    (case h_lk_is_word => k_is)
    (case h_cd_is_word => k_is)
    (case h_kp_f_is_word => k_is)
    (case h_lk_is_called => k_is)
    (case h_cd_is_called => k_is)
    (case h_kp_f_is_called => k_is)
    (case h_lk_size_of => k_is)
    (case h_cd_size_of => k_is)
    (case h_kp_f_size_of => k_is)
    (case h_lk_parts_of => k_is)
    (case h_cd_parts_of => k_is)
    (case h_kp_f_parts_of => k_is)
    (case h_lk_numbers_in => k_is)
    (case h_cd_numbers_in => k_is)
    (case h_kp_f_numbers_in => k_is)
    (case h_lk_is_built => k_is)
    (case h_cd_is_built => k_is)
    (case h_kp_f_is_built => k_is)
    (case h_lk_check_built => k_is)
    (case h_cd_check_built => k_is)
    (case h_kp_f_check_built => k_is)
    (case h_lk_shape_of_name => k_is)
    (case h_cd_shape_of_name => k_is)
    (case h_kp_f_shape_of_name => k_is)
    (case h_lk_Machine_init => k_is)
    (case h_cd_Machine_init => k_is)
    (case h_kp_f_Machine_init => k_is)
    (case h_lk_Machine_is_rule => k_is)
    (case h_cd_Machine_is_rule => k_is)
    (case h_kp_f_Machine_is_rule => k_is)
    (case h_lk_Machine_eq => k_is)
    (case h_cd_Machine_eq => k_is)
    (case h_kp_f_Machine_eq => k_is)
    (case h_lk_state_of => k_is)
    (case h_cd_state_of => k_is)
    (case h_kp_f_state_of => k_is)
    (case h_lk_state => k_is)
    (case h_cd_state => k_is)
    (case h_kp_f_state => k_is)
    (case h_lk_takes => k_is)
    (case h_cd_takes => k_is)
    (case h_kp_f_takes => k_is)
    (case h_lk_Order_init => k_is)
    (case h_cd_Order_init => k_is)
    (case h_kp_f_Order_init => k_is)
    (case h_lk_Order_is_greater => k_is)
    (case h_cd_Order_is_greater => k_is)
    (case h_kp_f_Order_is_greater => k_is)
    (case h_lk_Order_looked => k_is)
    (case h_cd_Order_looked => k_is)
    (case h_kp_f_Order_looked => k_is)
    (case h_lk_are_words => k_is)
    (case h_cd_are_words => k_is)
    (case h_kp_f_are_words => k_is)
    (case h_lk_are_sealed => k_is)
    (case h_cd_are_sealed => k_is)
    (case h_kp_f_are_sealed => k_is)
    (case h_lk_are_heads => k_is)
    (case h_cd_are_heads => k_is)
    (case h_kp_f_are_heads => k_is)
    (case h_lk_Shape_init => k_is)
    (case h_cd_Shape_init => k_is)
    (case h_kp_f_Shape_init => k_is)
    (case h_lk_Shape_kind_of => k_is)
    (case h_cd_Shape_kind_of => k_is)
    (case h_kp_f_Shape_kind_of => k_is)
    (case h_lk_Shape_is_asker => k_is)
    (case h_cd_Shape_is_asker => k_is)
    (case h_kp_f_Shape_is_asker => k_is)
    (case h_lk_Shape_told => k_is)
    (case h_cd_Shape_told => k_is)
    (case h_kp_f_Shape_told => k_is)
    (case h_lk_Shape_told_together => k_is)
    (case h_cd_Shape_told_together => k_is)
    (case h_kp_f_Shape_told_together => k_is)
    (case h_lk_Shape_told_beside => k_is)
    (case h_cd_Shape_told_beside => k_is)
    (case h_kp_f_Shape_told_beside => k_is)
    (case h_lk_Shape_kind_by => k_is)
    (case h_cd_Shape_kind_by => k_is)
    (case h_kp_f_Shape_kind_by => k_is)
    (case h_lk_is_law => k_is)
    (case h_cd_is_law => k_is)
    (case h_kp_f_is_law => k_is)
    (case h_lk_Door_init => k_is)
    (case h_cd_Door_init => k_is)
    (case h_kp_f_Door_init => k_is)
    (case h_lk_Door_eq => k_is)
    (case h_cd_Door_eq => k_is)
    (case h_kp_f_Door_eq => k_is)
    (case h_lk_number_of => k_is)
    (case h_cd_number_of => k_is)
    (case h_kp_f_number_of => k_is)
    (case h_lk_lines_of => k_is)
    (case h_cd_lines_of => k_is)
    (case h_kp_f_lines_of => k_is)
    (case h_lk_machine_text => k_is)
    (case h_cd_machine_text => k_is)
    (case h_kp_f_machine_text => k_is)
    (case h_lk_rule_line => k_is)
    (case h_cd_rule_line => k_is)
    (case h_kp_f_rule_line => k_is)
    (case h_lk_last_line => k_is)
    (case h_cd_last_line => k_is)
    (case h_kp_f_last_line => k_is)
    (case h_lk_read_machine => k_is)
    (case h_cd_read_machine => k_is)
    (case h_kp_f_read_machine => k_is)
    (case h_lk__law_tape => k_is)
    (case h_cd__law_tape => k_is)
    (case h_kp_f__law_tape => k_is)
    (case h_lk__law_pick => k_is)
    (case h_cd__law_pick => k_is)
    (case h_kp_f__law_pick => k_is)
    (case h_lk__law_any => k_is)
    (case h_cd__law_any => k_is)
    (case h_kp_f__law_any => k_is)
    (case h_lk__law_mixed => k_is)
    (case h_cd__law_mixed => k_is)
    (case h_kp_f__law_mixed => k_is)
    (case h_lk__law_parts => k_is)
    (case h_cd__law_parts => k_is)
    (case h_kp_f__law_parts => k_is)
    (case h_lk__law_told => k_is)
    (case h_cd__law_told => k_is)
    (case h_kp_f__law_told => k_is)
    (case h_lk__law_states => k_is)
    (case h_cd__law_states => k_is)
    (case h_kp_f__law_states => k_is)
    (case h_lk__law_keys => k_is)
    (case h_cd__law_keys => k_is)
    (case h_kp_f__law_keys => k_is)
    (case h_lk__law_rules => k_is)
    (case h_cd__law_rules => k_is)
    (case h_kp_f__law_rules => k_is)
    (case h_lk__law_text => k_is)
    (case h_cd__law_text => k_is)
    (case h_kp_f__law_text => k_is)
    (case h_lk__law_term => k_is)
    (case h_cd__law_term => k_is)
    (case h_kp_f__law_term => k_is)
    (case h_lk__law_state => k_is)
    (case h_cd__law_state => k_is)
    (case h_kp_f__law_state => k_is)
    (case h_lk__law_is_read_alike => k_is)
    (case h_cd__law_is_read_alike => k_is)
    (case h_kp_f__law_is_read_alike => k_is)
    (case h_lk__law_joined => k_is)
    (case h_cd__law_joined => k_is)
    (case h_kp_f__law_joined => k_is)
    (case h_lk__law_is_misread => k_is)
    (case h_cd__law_is_misread => k_is)
    (case h_kp_f__law_is_misread => k_is)
    (case h_lk__law_is_no_machine => k_is)
    (case h_cd__law_is_no_machine => k_is)
    (case h_kp_f__law_is_no_machine => k_is)
    (case h_lk__law_known_right => k_is)
    (case h_cd__law_known_right => k_is)
    (case h_kp_f__law_known_right => k_is)
    (case h_lk_law => k_is)
    (case h_cd_law => k_is)
    (case h_kp_f_law => k_is)
    (case h_pg_C_Machine => k_is)
    (case h_hd_C_Machine => k_is)
    (case h_po_C_Machine => k_is)
    (case h_sa_C_Machine => k_is)
    (case h_n_Machine_door => k_is)
    (case h_n_Machine_leads => k_is)
    (case h_n_Machine_state_kinds => k_is)
    (case h_n_Machine_order_told => k_is)
    (case h_n_Machine_rules => k_is)
    (case h_n_Machine_last => k_is)
    (case h_pg_C_Order => k_is)
    (case h_hd_C_Order => k_is)
    (case h_po_C_Order => k_is)
    (case h_sa_C_Order => k_is)
    (case h_n_Order_rank => k_is)
    (case h_n_Order_found => k_is)
    (case h_pg_C_Shape => k_is)
    (case h_hd_C_Shape => k_is)
    (case h_po_C_Shape => k_is)
    (case h_sa_C_Shape => k_is)
    (case h_n_Shape_sealed => k_is)
    (case h_n_Shape_word_kinds => k_is)
    (case h_n_Shape_lots => k_is)
    (case h_n_Shape_heads => k_is)
    (case h_n_Shape_rank => k_is)
    (case h_pg_C_Door => k_is)
    (case h_hd_C_Door => k_is)
    (case h_po_C_Door => k_is)
    (case h_sa_C_Door => k_is)
    (case h_n_Door_shape => k_is)
    (case h_n_Door_words => k_is)
    (case h_n_Door_sealed => k_is)
    (case h_n_Door_heads => k_is)
    (case h_n_Door_laws => k_is)
    (case h_n_Door_meeting => k_is)
    (case h_ne_C_Machine => k_is)
    (case h_ca_C_Machine => k_is)
    (case h_mo_C_Machine => k_is)
    (case h_ne_C_Door => k_is)
    (case h_ca_C_Door => k_is)
    (case h_mo_C_Door => k_is)
    (case h_sg => k_is)
    (case h_tk => k_is)
    (case h_cls_BadText => k_is)
    (case h_ve_BadText => kernel_rfl)
    (case h_sa_BadText => k_is)
    (case h_ga_BadText => k_is)
    (case h_gg_BadText => k_is)
    (case h_nn_BadText => k_is)
    (case h_ii_BadText => k_is)
    (case h_tt_BadText => k_is)
    (case h_kc_BadText => k_is)
    (case h_be_BadText => k_is)
    (case h_vv_BadText => k_is)
    (case h_ty_BadText => k_is)
    (case h_hd_BadText => k_is)
    (case h_ow_BadText => k_is)
    (case h_up_BadText => kernel_rfl)
    (case h_fl_BadText => k_is)
    (case h_fc_BadText => k_is)
    (case h_fv_BadText => k_is)
    (case h_v2_BadText => exact rfl)
    (case h_ff_BadText => kernel_rfl)
    (case h_ce_BadText => k_is)
    (case h_ic_BadText => k_is)
    (case h_ca_BadText => k_is)
    (case h_mo_BadText => k_is)
    (case h_de_BadText => k_is)
    (case h_cls_BadMachine => k_is)
    (case h_ve_BadMachine => kernel_rfl)
    (case h_sa_BadMachine => k_is)
    (case h_ga_BadMachine => k_is)
    (case h_gg_BadMachine => k_is)
    (case h_nn_BadMachine => k_is)
    (case h_ii_BadMachine => k_is)
    (case h_tt_BadMachine => k_is)
    (case h_kc_BadMachine => k_is)
    (case h_be_BadMachine => k_is)
    (case h_vv_BadMachine => k_is)
    (case h_ty_BadMachine => k_is)
    (case h_hd_BadMachine => k_is)
    (case h_ow_BadMachine => k_is)
    (case h_up_BadMachine => kernel_rfl)
    (case h_fl_BadMachine => k_is)
    (case h_fc_BadMachine => k_is)
    (case h_fv_BadMachine => k_is)
    (case h_v2_BadMachine => exact rfl)
    (case h_ff_BadMachine => kernel_rfl)
    (case h_ce_BadMachine => k_is)
    (case h_ic_BadMachine => k_is)
    (case h_ca_BadMachine => k_is)
    (case h_mo_BadMachine => k_is)
    (case h_de_BadMachine => k_is)
    (case h_op => k_is)
    (case h_top => kernel_rfl)
    (case h_dbe => k_is)
    (case h_dic => k_is)
    (case h_dty => k_is)
    (case h_tm => k_is)
    (case h_mt => k_is)
    (case h_nc => kernel_rfl)
    (case h_nc2 => kernel_rfl)
    (case h_t1 => k_is)
    (case h_t2 => k_is)
    (case h_p1 => exact rfl)
    (case h_p2 => exact rfl)
    (case h_n1 => kernel_rfl)
    (case h_n2 => kernel_rfl)
    (case h_d1 => kernel_rfl)
    (case h_d2 => kernel_rfl)
    (case h_ne => decide)
    (case h_i1 => decide)
    (case h_i2 => decide)
#print axioms PySem.Challenge.cw_doorhouses_k82_whole_texts_of_machines_holds
