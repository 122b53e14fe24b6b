import PyProof.Rows.All
import Wide.All
import OpenK.AllK
import Wide.FinOn
import PySem.Challenge.RW_xm0985_01
set_option Elab.async false
set_option linter.unusedVariables false
set_option maxRecDepth 100000
namespace Mine
section
open PySem PySem.Spec PySem.Calls PyProof.Rows
theorem bb_look : typeLookup (.type "bytes") "__bytes__" = pure (some (.builtin "bytes.__bytes__")) := by rw [typeLookup_type, builtinLookup_eq_fast]; kernel_rfl
section
variable {prog : Program} {w : World} {A : Around} {E : Value → Shared → Prop} {s : Shared}
theorem bb_new {b : Array UInt8} {t : Tok} {Q : Value → Shared → Prop} (hQ : Q (.bytes b t) s) :
    codeAny (model prog w) A (.call (.builtin "bytes.__new__") ⟨[.type "bytes", .bytes b t], []⟩) (wants Q E) s := by
  refine codeAny_of_tree ?_
  show wpAny _ A.in1 (do checkBuiltinCall "bytes.__new__" ⟨[.type "bytes", .bytes b t], []⟩; again (.builtin "bytes.__new__" ⟨[.type "bytes", .bytes b t], []⟩)) _ _ s
  refine wpAny_bind (wpAny_of_eq (F.bm_newCall _) (wpAny_pure ⟨plainId_quiet F.bm_plain _, codeAny_builtin F.bm_entry ?_⟩))
  rw [Around.under_plainId F.bm_plain _]
  unfold Builtin.«bytes.__new__»
  refine wpAny_bind (wpAny_of_eq (a := true) rfl ?_)
  refine bm_if_false rfl ?_
  refine wpAny_bind (wpAny_of_eq F.bm_sub ?_)
  refine bm_if_false rfl ?_
  refine wpAny_bind (wpAny_of_eq (F.bm_bind _) ?_)
  refine wpAny_bind (wpAny_of_eq (a := ()) rfl ?_)
  refine wpAny_bind (wpAny_of_eq (a := ()) rfl ?_)
  refine bm_if_false rfl ?_
  refine wpAny_bind (wpAny_specialOf (PySem.W.typeIs_bytes _ _ _) bb_look ?_)
  dsimp only
  repeat (any_goals (first | assumption | wp_step))
theorem bb_call {b : Array UInt8} {t : Tok} {Q : Value → Shared → Prop} (hQ : Q (.bytes b t) s) : wpAny (model prog w) A (call (.type "bytes") [.bytes b t]) Q E s := by
  refine callType_codes (Q₁ := fun obj s₁ => s₁.TypeIs obj "bytes" ∧ Q obj s₁) F.bm_called (F.bm_typeCall _) F.entry_object_init
    (bb_new ⟨PySem.W.typeIs_bytes _ _ _, hQ⟩) fun obj s₁ h₁ => ?_
  exact ⟨h₁.1, F.args_object_init_2 obj _, object_init_meets F.bm_called.init.lookup F.bm_called.made (by decide) prog w A.in1 _ s₁ ⟨h₁.1, rfl, h₁.2⟩⟩
end
theorem gen_toks {M : PySem.Model} {A : PySem.Around} {α : Type} {T : PySem.Sem α} {Q : α → PySem.Shared → Prop} {E : PySem.Value → PySem.Shared → Prop} {h : PySem.Heap} {g} {d} {n : Nat} {o} (H : ∀ tk : Nat, PySem.wpAny M A T Q E ⟨h, g, d, tk, o⟩) : PySem.wpAny M A T Q E ⟨h, g, d, n, o⟩ := H n
theorem gen_tk {M : PySem.Model} {A : PySem.Around} {α : Type} {T : PySem.Sem α} {Q : α → PySem.Shared → Prop} {E : PySem.Value → PySem.Shared → Prop} {h : PySem.Heap} {g} {d} {n k : Nat} {o} (H : ∀ tk : Nat, PySem.wpAny M A T Q E ⟨h, g, d, tk, o⟩) : PySem.wpAny M A T Q E ⟨h, g, d, n + k, o⟩ := H _
end
section
open PySem PySem.Calls PySem.NumText PyProof.Rows PySem.Builtin PySem.Builtin.Str
theorem dv_cons (c : Nat) (cs : List Nat) : digitsVal (c :: cs) = (c - 48) * 10 ^ cs.length + digitsVal cs := by
  have key : ∀ (cs : List Nat) (a : Nat), cs.foldl (fun acc c => acc * 10 + (c - 48)) a = a * 10 ^ cs.length + cs.foldl (fun acc c => acc * 10 + (c - 48)) 0 := by
    intro cs
    induction cs with
    | nil => intro a; simp
    | cons d r ih =>
      intro a
      rw [List.foldl_cons, List.foldl_cons, ih, ih (0 * 10 + (d - 48)), List.length_cons, Nat.pow_succ]
      rw [Nat.add_mul, Nat.add_mul, Nat.mul_assoc, Nat.mul_comm 10 (10 ^ r.length)]
      omega
  show (c :: cs).foldl _ 0 = _
  rw [List.foldl_cons, key]
  simp [digitsVal]
theorem dv_app (as bs : List Nat) : digitsVal (as ++ bs) = digitsVal as * 10 ^ bs.length + digitsVal bs := by
  induction as with
  | nil => simp [digitsVal]
  | cons a r ih =>
    rw [List.cons_append, dv_cons, ih, dv_cons, List.length_append, Nat.pow_add, Nat.add_mul, Nat.mul_assoc]
    omega
theorem dv_lt : ∀ (cs : List Nat), AllDigits cs → digitsVal cs < 10 ^ cs.length
  | [], _ => by simp [digitsVal]
  | c :: cs, h => by
    have hc := h.head
    have ih := dv_lt cs h.tail
    rw [dv_cons, List.length_cons, Nat.pow_succ]
    have : (c - 48) * 10 ^ cs.length ≤ 9 * 10 ^ cs.length := Nat.mul_le_mul_right _ (by omega)
    omega
theorem slice_neg {x : Str} {k : Nat} (h : k ≤ x.length) (h0 : 0 < k) : Txt.slice x (some (-(k : Int))) none = ⟨(x.cps.toList.drop (x.length - k)).toArray⟩ := by
  have e : strSliceIndices (some (-(k : Int))) none 1 x.length = strSliceIndices (some ((x.length : Int) - k)) none 1 x.length := by
    have h1 : (-(k : Int)) < 0 := by omega
    have h2 : ¬ ((x.length : Int) - k < 0) := by omega
    have h3 : max ((-(k : Int)) + x.length) 0 = (x.length : Int) - k := by omega
    have h4 : min ((x.length : Int) - k) x.length = (x.length : Int) - k := by omega
    simp only [strSliceIndices, h1, h2, if_true, if_false]
    first | rfl | (congr 1; omega) | (simp; omega)
  have e2 : Txt.slice x (some (-(k : Int))) none = Txt.slice x (some ((x.length : Int) - k)) none := by
    unfold Txt.slice
    rw [e]
  rw [e2, slice_from_eq (b := (x.length : Int)) (by omega) (by omega) rfl]
  have : ((x.length : Int) - k).toNat = x.length - k := by omega
  rw [this]
  congr 2
  apply List.take_of_length_le
  simp [Str.length] at *
  omega
theorem last_six {n : Int} (h0 : 0 ≤ n) (h1 : n < 1000000000) : (Str.ofString "00000" ++ Str.ofString (toString n)).length ≤ 640 ∧
    (Txt.slice (Str.ofString "00000" ++ Str.ofString (toString n)) (some (-6)) none).length ≤ 640 ∧ intText? (Txt.slice (Str.ofString "00000" ++ Str.ofString (toString n)) (some (-6)) none) = some (n.fmod 1000000) := by
  obtain ⟨m, rfl⟩ := Int.eq_ofNat_of_zero_le h0
  have hm : m < 1000000000 := by omega
  have e0 : (Str.ofString "00000").cps.toList = [48, 48, 48, 48, 48] := by decide +kernel
  have e1 := PySem.W.KIN.signs_num m
  generalize hX : (Str.ofString "00000" ++ Str.ofString (toString ((m : Nat) : Int))) = X
  have eX : X.cps.toList = [48, 48, 48, 48, 48] ++ (Nat.toDigits 10 m).map Char.toNat := by
    rw [← hX, Str.cps_append, Array.toList_append, e0, e1]
  have hd : AllDigits ((Nat.toDigits 10 m).map Char.toNat) := by
    intro c hc
    obtain ⟨ch, hch, e⟩ := List.mem_map.mp hc
    have r := digit_range (Nat.isDigit_of_mem_toDigits (by decide) (by decide) hch)
    rw [← e]
    exact r
  have hv := PySem.W.KIN.val_back m
  have hl : ((Nat.toDigits 10 m).map Char.toNat).length ≤ 10 := by
    have q := PySem.W.KT.len_num (n := ((m : Nat) : Int)) (by omega) (by omega)
    have : (Str.ofString (toString ((m : Nat) : Int))).length = (Str.ofString (toString ((m : Nat) : Int))).cps.toList.length := by simp [Str.length]
    rw [this, e1] at q
    exact q
  have hl1 : 1 ≤ ((Nat.toDigits 10 m).map Char.toNat).length := by
    have := toDigits_len_ge 10 m
    simp
    omega
  generalize (Nat.toDigits 10 m).map Char.toNat = ds at *
  have hXl : X.length = 5 + ds.length := by
    have : X.length = X.cps.toList.length := by simp [Str.length]
    rw [this, eX, List.length_append]
    rfl
  have hs := slice_neg (x := X) (k := 6) (by omega) (by decide)
  have hs' : Txt.slice X (some (-6)) none = ⟨(X.cps.toList.drop (X.length - 6)).toArray⟩ := hs
  rw [hs']
  have hXd : AllDigits X.cps.toList := by
    rw [eX]
    intro c hc
    rcases List.mem_append.mp hc with hc | hc
    · simp at hc; omega
    · exact hd c hc
  have hXv : digitsVal X.cps.toList = m := by
    rw [eX, dv_app, hv]
    simp [digitsVal]
  have hdl : (X.cps.toList.drop (X.length - 6)).length = 6 := by
    have : X.cps.toList.length = X.length := by simp [Str.length]
    rw [List.length_drop, this]
    omega
  have hsp := dv_app (X.cps.toList.take (X.length - 6)) (X.cps.toList.drop (X.length - 6))
  rw [List.take_append_drop, hXv, hdl] at hsp
  have hdd : AllDigits (X.cps.toList.drop (X.length - 6)) := fun c hc => hXd c (List.mem_of_mem_drop hc)
  have hlt := dv_lt _ hdd
  rw [hdl] at hlt
  refine ⟨by omega, ?_, ?_⟩
  · show (X.cps.toList.drop (X.length - 6)).toArray.size ≤ 640
    rw [List.size_toArray, hdl]
    decide
  · have e := intText_digits (x := ⟨(X.cps.toList.drop (X.length - 6)).toArray⟩) (by simpa using hdd) (by
      intro e
      have : (X.cps.toList.drop (X.length - 6)).length = 0 := by
        have e' : (X.cps.toList.drop (X.length - 6)) = [] := by simpa using e
        rw [e']; rfl
      omega) (by
        show (X.cps.toList.drop (X.length - 6)).toArray.size ≤ 4300
        rw [List.size_toArray, hdl]
        decide)
    rw [e]
    congr 1
    show ((digitsVal (X.cps.toList.drop (X.length - 6)).toArray.toList : Nat) : Int) = _
    rw [List.toList_toArray, Int.fmod_eq_emod_of_nonneg _ (by decide)]
    have : digitsVal (X.cps.toList.drop (X.length - 6)) = m % 1000000 := by omega
    rw [this]
    omega
end
end Mine
set_option Elab.async false
set_option linter.unusedVariables false
set_option maxRecDepth 100000
namespace Mine
open PySem PySem.W
noncomputable def tp (i : Nat) : Stmt := PySem.Challenge.pw_xm0985_01.main.body.getD i default
noncomputable def cB : Stmt → List Stmt | .ClassDef _ _ _ b _ _ _ _ _ _ _ => b | _ => []
noncomputable def fA : Stmt → Arguments | .FunctionDef _ a _ _ _ _ _ _ _ _ => a | _ => default
noncomputable def fB : Stmt → FuncBody | .FunctionDef _ _ b _ _ _ _ _ _ _ => .stmts b | _ => default
noncomputable def fS : Stmt → Scope | .FunctionDef _ _ _ _ _ _ s _ _ _ => s | _ => default
noncomputable def tc (i j : Nat) : Stmt := (cB (tp i)).getD j default
noncomputable def o2 (P : Params) : Obj := Obj.mk Value.none none (Data.dict #[DictEntry.mk (PyData.keyHash P (Str.ofString "type.__subclasses__.Exception.0")) (Value.str (Str.ofString "type.__subclasses__.Exception.0") 232) (Value.int 45 0), DictEntry.mk (PyData.keyHash P (Str.ofString "type.__subclasses__.Exception.n")) (Value.str (Str.ofString "type.__subclasses__.Exception.n") 233) (Value.int 1 0)] 2) #[]
noncomputable def o3 (P : Params) : Obj := Obj.mk (Value.type "dict") none (Data.dict #[DictEntry.mk (PyData.keyHash P (Str.ofString "__name__")) (Value.str (Str.ofString "__name__") 165) (Value.str (Str.ofString "law_xm0985_01") 718), DictEntry.mk (PyData.keyHash P (Str.ofString "__doc__")) (Value.str (Str.ofString "__doc__") 166) Value.none, DictEntry.mk (PyData.keyHash P (Str.ofString "__package__")) (Value.str (Str.ofString "__package__") 167) Value.none, DictEntry.mk (PyData.keyHash P (Str.ofString "__loader__")) (Value.str (Str.ofString "__loader__") 168) (Value.builtin "__main__.__loader__#opaque"), DictEntry.mk (PyData.keyHash P (Str.ofString "__spec__")) (Value.str (Str.ofString "__spec__") 169) Value.none, DictEntry.mk (PyData.keyHash P (Str.ofString "__annotations__")) (Value.str (Str.ofString "__annotations__") 170) (Value.ref 6), DictEntry.mk (PyData.keyHash P (Str.ofString "__builtins__")) (Value.str (Str.ofString "__builtins__") 171) (Value.ref 4), DictEntry.mk (PyData.keyHash P (Str.ofString "__file__")) (Value.str (Str.ofString "__file__") 173) (Value.str (Str.ofString "/claim/cut.py") 172), DictEntry.mk (PyData.keyHash P (Str.ofString "__cached__")) (Value.str (Str.ofString "__cached__") 174) Value.none, DictEntry.mk (PyData.keyHash P (Str.ofString "_wall")) (Value.str (Str.ofString "_wall") 193) (Value.ref 21), DictEntry.mk (PyData.keyHash P (Str.ofString "time_behind")) (Value.str (Str.ofString "time_behind") 204) (Value.ref 28), DictEntry.mk (PyData.keyHash P (Str.ofString "SwitchError")) (Value.str (Str.ofString "SwitchError") 235) (Value.ref 45), DictEntry.mk (PyData.keyHash P (Str.ofString "SizeError")) (Value.str (Str.ofString "SizeError") 251) (Value.ref 58), DictEntry.mk (PyData.keyHash P (Str.ofString "TableError")) (Value.str (Str.ofString "TableError") 267) (Value.ref 70), DictEntry.mk (PyData.keyHash P (Str.ofString "SettingError")) (Value.str (Str.ofString "SettingError") 294) (Value.ref 90), DictEntry.mk (PyData.keyHash P (Str.ofString "least_multiple")) (Value.str (Str.ofString "least_multiple") 307) (Value.ref 99), DictEntry.mk (PyData.keyHash P (Str.ofString "GREAT")) (Value.str (Str.ofString "GREAT") 311) (Value.int 2147483647 310), DictEntry.mk (PyData.keyHash P (Str.ofString "STEP")) (Value.str (Str.ofString "STEP") 313) (Value.int 48271 312), DictEntry.mk (PyData.keyHash P (Str.ofString "MOST_SEED")) (Value.str (Str.ofString "MOST_SEED") 315) (Value.int 1000000 314), DictEntry.mk (PyData.keyHash P (Str.ofString "field_worth")) (Value.str (Str.ofString "field_worth") 323) (Value.ref 106), DictEntry.mk (PyData.keyHash P (Str.ofString "mixed_worth")) (Value.str (Str.ofString "mixed_worth") 332) (Value.ref 113), DictEntry.mk (PyData.keyHash P (Str.ofString "HEAD_SIZE")) (Value.str (Str.ofString "HEAD_SIZE") 336) (Value.int 14 335), DictEntry.mk (PyData.keyHash P (Str.ofString "TAG_SIZE")) (Value.str (Str.ofString "TAG_SIZE") 338) (Value.int 4 337), DictEntry.mk (PyData.keyHash P (Str.ofString "SUM_SIZE")) (Value.str (Str.ofString "SUM_SIZE") 340) (Value.int 4 339), DictEntry.mk (PyData.keyHash P (Str.ofString "LEAST_SIZE")) (Value.str (Str.ofString "LEAST_SIZE") 342) (Value.int 60 341), DictEntry.mk (PyData.keyHash P (Str.ofString "Tag")) (Value.str (Str.ofString "Tag") 384) (Value.ref 137), DictEntry.mk (PyData.keyHash P (Str.ofString "Frame")) (Value.str (Str.ofString "Frame") 435) (Value.ref 171), DictEntry.mk (PyData.keyHash P (Str.ofString "GREEN")) (Value.str (Str.ofString "GREEN") 439) (Value.str (Str.ofString "green") 438), DictEntry.mk (PyData.keyHash P (Str.ofString "YELLOW")) (Value.str (Str.ofString "YELLOW") 441) (Value.str (Str.ofString "yellow") 440), DictEntry.mk (PyData.keyHash P (Str.ofString "RED")) (Value.str (Str.ofString "RED") 443) (Value.str (Str.ofString "red") 442), DictEntry.mk (PyData.keyHash P (Str.ofString "COLOURS")) (Value.str (Str.ofString "COLOURS") 444) (Value.ref 176), DictEntry.mk (PyData.keyHash P (Str.ofString "colour_before")) (Value.str (Str.ofString "colour_before") 452) (Value.ref 183), DictEntry.mk (PyData.keyHash P (Str.ofString "Port")) (Value.str (Str.ofString "Port") 492) (Value.ref 201), DictEntry.mk (PyData.keyHash P (Str.ofString "LinkWatch")) (Value.str (Str.ofString "LinkWatch") 536) (Value.ref 234), DictEntry.mk (PyData.keyHash P (Str.ofString "Ports")) (Value.str (Str.ofString "Ports") 641) (Value.ref 312), DictEntry.mk (PyData.keyHash P (Str.ofString "QueueRow")) (Value.str (Str.ofString "QueueRow") 708) (Value.ref 361), DictEntry.mk (PyData.keyHash P (Str.ofString "may_go")) (Value.str (Str.ofString "may_go") 717) (Value.ref 372), DictEntry.mk (PyData.keyHash P (Str.ofString "_law_reel")) (Value.str (Str.ofString "_law_reel") 728) (Value.ref 379), DictEntry.mk (PyData.keyHash P (Str.ofString "_law_wind")) (Value.str (Str.ofString "_law_wind") 737) (Value.ref 386), DictEntry.mk (PyData.keyHash P (Str.ofString "_law_one")) (Value.str (Str.ofString "_law_one") 745) (Value.ref 393), DictEntry.mk (PyData.keyHash P (Str.ofString "_law_fields_right")) (Value.str (Str.ofString "_law_fields_right") 751) (Value.ref 398), DictEntry.mk (PyData.keyHash P (Str.ofString "_law_mixed_right")) (Value.str (Str.ofString "_law_mixed_right") 767) (Value.ref 405), DictEntry.mk (PyData.keyHash P (Str.ofString "_law_colour")) (Value.str (Str.ofString "_law_colour") 775) (Value.ref 412), DictEntry.mk (PyData.keyHash P (Str.ofString "_law_colours_right")) (Value.str (Str.ofString "_law_colours_right") 784) (Value.ref 419), DictEntry.mk (PyData.keyHash P (Str.ofString "_law_times_right")) (Value.str (Str.ofString "_law_times_right") 795) (Value.ref 426), DictEntry.mk (PyData.keyHash P (Str.ofString "_law_recent_right")) (Value.str (Str.ofString "_law_recent_right") 801) (Value.ref 431), DictEntry.mk (PyData.keyHash P (Str.ofString "_law_multiple_right")) (Value.str (Str.ofString "_law_multiple_right") 807) (Value.ref 436), DictEntry.mk (PyData.keyHash P (Str.ofString "_law_is_refused")) (Value.str (Str.ofString "_law_is_refused") 815) (Value.ref 443), DictEntry.mk (PyData.keyHash P (Str.ofString "_law_queue_right")) (Value.str (Str.ofString "_law_queue_right") 821) (Value.ref 448), DictEntry.mk (PyData.keyHash P (Str.ofString "law")) (Value.str (Str.ofString "law") 829) (Value.ref 455)] 50) #[]
noncomputable def o11 (P : Params) : Obj := Obj.mk (Value.type "tuple") none (Data.seq #[] 0) #[]
noncomputable def o12 (P : Params) : Obj := Obj.mk Value.none none (Data.fields #[Value.int 1 0, Value.int 0 0, Value.ref 20, Value.int 5 0, Value.int 0 0, Value.ref 27, Value.int 8 0, Value.int 0 0, Value.ref 34, Value.int 13 0, Value.int 0 0, Value.ref 54, Value.int 15 0, Value.int 0 0, Value.ref 66, Value.int 17 0, Value.int 0 0, Value.ref 78, Value.int 23 0, Value.int 0 0, Value.ref 98, Value.int 35 0, Value.int 0 0, Value.ref 105, Value.int 43 0, Value.int 0 0, Value.ref 112, Value.int 51 0, Value.int 0 0, Value.ref 119, Value.int 61 0, Value.int 0 0, Value.ref 147, Value.int 80 0, Value.int 0 0, Value.ref 182, Value.int 87 0, Value.int 0 0, Value.ref 189, Value.int 95 0, Value.int 0 0, Value.ref 211, Value.int 108 0, Value.int 0 0, Value.ref 244, Value.int 172 0, Value.int 0 0, Value.ref 322, Value.int 201 0, Value.int 0 0, Value.ref 371, Value.int 204 0, Value.int 0 0, Value.ref 378, Value.int 208 0, Value.int 0 0, Value.ref 385, Value.int 215 0, Value.int 0 0, Value.ref 392, Value.int 217 0, Value.int 0 0, Value.ref 397, Value.int 224 0, Value.int 0 0, Value.ref 404, Value.int 237 0, Value.int 0 0, Value.ref 411, Value.int 242 0, Value.int 0 0, Value.ref 418, Value.int 246 0, Value.int 0 0, Value.ref 425, Value.int 252 0, Value.int 0 0, Value.ref 430, Value.int 266 0, Value.int 0 0, Value.ref 435, Value.int 271 0, Value.int 0 0, Value.ref 442, Value.int 277 0, Value.int 0 0, Value.ref 447, Value.int 299 0, Value.int 0 0, Value.ref 454]) #[]
noncomputable def o13 (P : Params) : Obj := Obj.mk (Value.type "code") none (Data.fields #[Value.str (Str.ofString "<module>") 182, Value.str (Str.ofString "<module>") 183, Value.str (Str.ofString "/claim/cut.py") 184, Value.int 1 0, Value.int 0 0, Value.int 0 0, Value.int 0 0, Value.int 0 0, Value.ref 11, Value.bool Bool.false, Value.int 181 0, Value.ref 12, Value.none, Value.none, Value.none, Value.none, Value.int 185 0, Value.int 1 0, Value.str (Str.ofString "/claim/cut.py") 186]) #[]
noncomputable def o14 (P : Params) : Obj := Obj.mk (Value.type "frame") none Data.plain #[(some (Value.ref 13)), (some (Value.ref 3)), (some (Value.ref 3)), none, (some (Value.str (Str.ofString "__main__") 164)), none, (some (Value.ref 0))]
noncomputable def o15 (P : Params) : Obj := Obj.mk (Value.type "tuple") none (Data.seq #[] 0) #[]
noncomputable def o16 (P : Params) : Obj := Obj.mk Value.none none (Data.fields #[]) #[]
noncomputable def o17 (P : Params) : Obj := Obj.mk (Value.type "tuple") none (Data.seq #[Value.str (Str.ofString "k") 190] 0) #[]
noncomputable def o18 (P : Params) : Obj := Obj.mk (Value.type "tuple") none (Data.seq #[] 0) #[]
noncomputable def o19 (P : Params) : Obj := Obj.mk Value.none none (Data.func (FuncData.mk (Str.ofString "_wall") (Str.ofString "_wall") (fA (tp 0)) (fB (tp 0)) (fS (tp 0)) 0 [] Value.none Value.none Value.none Value.none none Value.none Value.none 0)) #[]
noncomputable def o20 (P : Params) : Obj := Obj.mk (Value.type "code") none (Data.fields #[Value.str (Str.ofString "_wall") 187, Value.str (Str.ofString "_wall") 188, Value.str (Str.ofString "/claim/cut.py") 189, Value.int 1 0, Value.int 1 0, Value.int 0 0, Value.int 0 0, Value.int 3 0, Value.ref 15, Value.bool Bool.true, Value.int 181 0, Value.ref 16, Value.none, Value.ref 17, Value.ref 18, Value.ref 19, Value.int 191 0, Value.int 1 0, Value.str (Str.ofString "/claim/cut.py") 192]) #[]
noncomputable def o21 (P : Params) : Obj := Obj.mk (Value.type "function") none (Data.func (FuncData.mk (Str.ofString "_wall") (Str.ofString "_wall") (fA (tp 0)) (fB (tp 0)) (fS (tp 0)) 3 [] Value.none Value.none Value.none (Value.str (Str.ofString "__main__") 164) none (Value.ref 20) Value.none 0)) #[]
noncomputable def o22 (P : Params) : Obj := Obj.mk (Value.type "tuple") none (Data.seq #[] 0) #[]
noncomputable def o23 (P : Params) : Obj := Obj.mk Value.none none (Data.fields #[]) #[]
noncomputable def o24 (P : Params) : Obj := Obj.mk (Value.type "tuple") none (Data.seq #[Value.str (Str.ofString "now") 199, Value.str (Str.ofString "time") 200, Value.str (Str.ofString "tick") 201] 0) #[]
noncomputable def o25 (P : Params) : Obj := Obj.mk (Value.type "tuple") none (Data.seq #[] 0) #[]
noncomputable def o26 (P : Params) : Obj := Obj.mk Value.none none (Data.func (FuncData.mk (Str.ofString "time_behind") (Str.ofString "time_behind") (fA (tp 2)) (fB (tp 2)) (fS (tp 2)) 0 [] Value.none Value.none Value.none Value.none none Value.none Value.none 0)) #[]
noncomputable def o27 (P : Params) : Obj := Obj.mk (Value.type "code") none (Data.fields #[Value.str (Str.ofString "time_behind") 196, Value.str (Str.ofString "time_behind") 197, Value.str (Str.ofString "/claim/cut.py") 198, Value.int 5 0, Value.int 3 0, Value.int 0 0, Value.int 0 0, Value.int 3 0, Value.ref 22, Value.bool Bool.true, Value.int 181 0, Value.ref 23, Value.none, Value.ref 24, Value.ref 25, Value.ref 26, Value.int 202 0, Value.int 5 0, Value.str (Str.ofString "/claim/cut.py") 203]) #[]
noncomputable def o28 (P : Params) : Obj := Obj.mk (Value.type "function") none (Data.func (FuncData.mk (Str.ofString "time_behind") (Str.ofString "time_behind") (fA (tp 2)) (fB (tp 2)) (fS (tp 2)) 3 [] Value.none Value.none Value.none (Value.str (Str.ofString "switchloom.pause") 194) none (Value.ref 27) Value.none 0)) #[]
noncomputable def o29 (P : Params) : Obj := Obj.mk (Value.type "tuple") none (Data.seq #[Value.type "Exception"] 0) #[]
noncomputable def o30 (P : Params) : Obj := Obj.mk (Value.type "builtin_function_or_method") none (Data.fields #[Value.builtin "type.__prepare__", Value.type "type"]) #[]
noncomputable def o31 (P : Params) : Obj := Obj.mk (Value.type "dict") none (Data.dict #[DictEntry.mk (PyData.keyHash P (Str.ofString "__module__")) (Value.str (Str.ofString "__module__") 214) (Value.str (Str.ofString "switchloom.errors") 205), DictEntry.mk (PyData.keyHash P (Str.ofString "__qualname__")) (Value.str (Str.ofString "__qualname__") 216) (Value.str (Str.ofString "SwitchError") 215), DictEntry.mk (PyData.keyHash P (Str.ofString "__firstlineno__")) (Value.str (Str.ofString "__firstlineno__") 218) (Value.int 8 217), DictEntry.mk (PyData.keyHash P (Str.ofString "__init__")) (Value.str (Str.ofString "__init__") 226) (Value.ref 42), DictEntry.mk (PyData.keyHash P (Str.ofString "__static_attributes__")) (Value.str (Str.ofString "__static_attributes__") 228) (Value.ref 43)] 5) #[]
noncomputable def o32 (P : Params) : Obj := Obj.mk (Value.type "tuple") none (Data.seq #[] 0) #[]
noncomputable def o33 (P : Params) : Obj := Obj.mk Value.none none (Data.fields #[Value.int 10 0, Value.int 4 0, Value.ref 41]) #[]
noncomputable def o34 (P : Params) : Obj := Obj.mk (Value.type "code") none (Data.fields #[Value.str (Str.ofString "SwitchError") 209, Value.str (Str.ofString "SwitchError") 210, Value.str (Str.ofString "/claim/cut.py") 211, Value.int 8 0, Value.int 0 0, Value.int 0 0, Value.int 0 0, Value.int 0 0, Value.ref 32, Value.bool Bool.false, Value.int 181 0, Value.ref 33, Value.none, Value.none, Value.none, Value.none, Value.int 212 0, Value.int 8 0, Value.str (Str.ofString "/claim/cut.py") 213]) #[]
noncomputable def o35 (P : Params) : Obj := Obj.mk (Value.type "frame") none Data.plain #[(some (Value.ref 34)), (some (Value.ref 3)), (some (Value.ref 31)), none, (some (Value.str (Str.ofString "switchloom.errors") 205)), none, (some (Value.ref 0))]
noncomputable def o36 (P : Params) : Obj := Obj.mk (Value.type "tuple") none (Data.seq #[] 0) #[]
noncomputable def o37 (P : Params) : Obj := Obj.mk Value.none none (Data.fields #[]) #[]
noncomputable def o38 (P : Params) : Obj := Obj.mk (Value.type "tuple") none (Data.seq #[Value.str (Str.ofString "self") 222, Value.str (Str.ofString "message") 223] 0) #[]
noncomputable def o39 (P : Params) : Obj := Obj.mk (Value.type "tuple") none (Data.seq #[] 0) #[]
noncomputable def o40 (P : Params) : Obj := Obj.mk Value.none none (Data.func (FuncData.mk (Str.ofString "__init__") (Str.ofString "SwitchError.__init__") (fA (tc 4 0)) (fB (tc 4 0)) (fS (tc 4 0)) 0 [] Value.none Value.none Value.none Value.none none Value.none Value.none 0)) #[]
noncomputable def o41 (P : Params) : Obj := Obj.mk (Value.type "code") none (Data.fields #[Value.str (Str.ofString "__init__") 219, Value.str (Str.ofString "SwitchError.__init__") 220, Value.str (Str.ofString "/claim/cut.py") 221, Value.int 10 0, Value.int 2 0, Value.int 0 0, Value.int 0 0, Value.int 3 0, Value.ref 36, Value.bool Bool.true, Value.int 181 0, Value.ref 37, Value.none, Value.ref 38, Value.ref 39, Value.ref 40, Value.int 224 0, Value.int 10 0, Value.str (Str.ofString "/claim/cut.py") 225]) #[]
noncomputable def o42 (P : Params) : Obj := Obj.mk (Value.type "function") none (Data.func (FuncData.mk (Str.ofString "__init__") (Str.ofString "SwitchError.__init__") (fA (tc 4 0)) (fB (tc 4 0)) (fS (tc 4 0)) 3 [] Value.none Value.none Value.none (Value.str (Str.ofString "switchloom.errors") 205) none (Value.ref 41) Value.none 0)) #[]
noncomputable def o43 (P : Params) : Obj := Obj.mk (Value.type "tuple") none (Data.seq #[Value.str (Str.ofString "message") 227] 0) #[]
noncomputable def o44 (P : Params) : Obj := Obj.mk (Value.type "dict") none (Data.dict #[DictEntry.mk (PyData.keyHash P (Str.ofString "__module__")) (Value.str (Str.ofString "__module__") 214) (Value.str (Str.ofString "switchloom.errors") 205), DictEntry.mk (PyData.keyHash P (Str.ofString "__firstlineno__")) (Value.str (Str.ofString "__firstlineno__") 218) (Value.int 8 217), DictEntry.mk (PyData.keyHash P (Str.ofString "__init__")) (Value.str (Str.ofString "__init__") 226) (Value.ref 42), DictEntry.mk (PyData.keyHash P (Str.ofString "__static_attributes__")) (Value.str (Str.ofString "__static_attributes__") 228) (Value.ref 43), DictEntry.mk (PyData.keyHash P (Str.ofString "__weakref__")) (Value.str (Str.ofString "__weakref__") 230) (Value.ref 46), DictEntry.mk (PyData.keyHash P (Str.ofString "__doc__")) (Value.str (Str.ofString "__doc__") 231) Value.none] 3) #[]
noncomputable def o45 (P : Params) : Obj := Obj.mk (Value.type "type") none (Data.cls (ClassData.mk (Str.ofString "SwitchError") [Value.type "Exception"] [Value.ref 45, Value.type "Exception", Value.type "BaseException", Value.type "object"] 44 (Str.ofString "SwitchError") Bool.true [] [Value.ref 58, Value.ref 70, Value.ref 90] Bool.false none Bool.false)) #[(some (Value.ref 29)), none, (some (Value.str (Str.ofString "SwitchError") 207)), (some (Value.str (Str.ofString "SwitchError") 215)), (some (Value.builtin "Exception.__new__")), (some (Value.bool Bool.true))]
noncomputable def o46 (P : Params) : Obj := Obj.mk (Value.type "getset_descriptor") none (Data.fields #[Value.str (Str.ofString "__weakref__") 229, Value.ref 45, Value.builtin "ExceptionGroup.__weakref__", Value.none]) #[]
noncomputable def o47 (P : Params) : Obj := Obj.mk (Value.type "super") none (Data.fields #[Value.ref 45, Value.ref 45, Value.ref 45]) #[]
noncomputable def o48 (P : Params) : Obj := Obj.mk (Value.type "builtin_function_or_method") none (Data.fields #[Value.builtin "object.__init_subclass__", Value.ref 45]) #[]
noncomputable def o49 (P : Params) : Obj := Obj.mk (Value.type "tuple") none (Data.seq #[Value.ref 45] 0) #[]
noncomputable def o50 (P : Params) : Obj := Obj.mk (Value.type "builtin_function_or_method") none (Data.fields #[Value.builtin "type.__prepare__", Value.type "type"]) #[]
noncomputable def o51 (P : Params) : Obj := Obj.mk (Value.type "dict") none (Data.dict #[DictEntry.mk (PyData.keyHash P (Str.ofString "__module__")) (Value.str (Str.ofString "__module__") 243) (Value.str (Str.ofString "switchloom.errors") 205), DictEntry.mk (PyData.keyHash P (Str.ofString "__qualname__")) (Value.str (Str.ofString "__qualname__") 245) (Value.str (Str.ofString "SizeError") 244), DictEntry.mk (PyData.keyHash P (Str.ofString "__firstlineno__")) (Value.str (Str.ofString "__firstlineno__") 247) (Value.int 13 246), DictEntry.mk (PyData.keyHash P (Str.ofString "__static_attributes__")) (Value.str (Str.ofString "__static_attributes__") 248) (Value.ref 56)] 4) #[]
noncomputable def o52 (P : Params) : Obj := Obj.mk (Value.type "tuple") none (Data.seq #[] 0) #[]
noncomputable def o53 (P : Params) : Obj := Obj.mk Value.none none (Data.fields #[]) #[]
noncomputable def o54 (P : Params) : Obj := Obj.mk (Value.type "code") none (Data.fields #[Value.str (Str.ofString "SizeError") 238, Value.str (Str.ofString "SizeError") 239, Value.str (Str.ofString "/claim/cut.py") 240, Value.int 13 0, Value.int 0 0, Value.int 0 0, Value.int 0 0, Value.int 0 0, Value.ref 52, Value.bool Bool.false, Value.int 181 0, Value.ref 53, Value.none, Value.none, Value.none, Value.none, Value.int 241 0, Value.int 13 0, Value.str (Str.ofString "/claim/cut.py") 242]) #[]
noncomputable def o55 (P : Params) : Obj := Obj.mk (Value.type "frame") none Data.plain #[(some (Value.ref 54)), (some (Value.ref 3)), (some (Value.ref 51)), none, (some (Value.str (Str.ofString "switchloom.errors") 205)), none, (some (Value.ref 0))]
noncomputable def o56 (P : Params) : Obj := Obj.mk (Value.type "tuple") none (Data.seq #[] 0) #[]
noncomputable def o57 (P : Params) : Obj := Obj.mk (Value.type "dict") none (Data.dict #[DictEntry.mk (PyData.keyHash P (Str.ofString "__module__")) (Value.str (Str.ofString "__module__") 243) (Value.str (Str.ofString "switchloom.errors") 205), DictEntry.mk (PyData.keyHash P (Str.ofString "__firstlineno__")) (Value.str (Str.ofString "__firstlineno__") 247) (Value.int 13 246), DictEntry.mk (PyData.keyHash P (Str.ofString "__static_attributes__")) (Value.str (Str.ofString "__static_attributes__") 248) (Value.ref 56), DictEntry.mk (PyData.keyHash P (Str.ofString "__doc__")) (Value.str (Str.ofString "__doc__") 249) Value.none] 2) #[]
noncomputable def o58 (P : Params) : Obj := Obj.mk (Value.type "type") none (Data.cls (ClassData.mk (Str.ofString "SizeError") [Value.ref 45] [Value.ref 58, Value.ref 45, Value.type "Exception", Value.type "BaseException", Value.type "object"] 57 (Str.ofString "SizeError") Bool.true [] [] Bool.false none Bool.false)) #[(some (Value.ref 49)), none, (some (Value.str (Str.ofString "SizeError") 236)), (some (Value.str (Str.ofString "SizeError") 244)), (some (Value.builtin "Exception.__new__")), (some (Value.bool Bool.true))]
noncomputable def o59 (P : Params) : Obj := Obj.mk (Value.type "super") none (Data.fields #[Value.ref 58, Value.ref 58, Value.ref 58]) #[]
noncomputable def o60 (P : Params) : Obj := Obj.mk (Value.type "builtin_function_or_method") none (Data.fields #[Value.builtin "object.__init_subclass__", Value.ref 58]) #[]
noncomputable def o61 (P : Params) : Obj := Obj.mk (Value.type "tuple") none (Data.seq #[Value.ref 45] 0) #[]
noncomputable def o62 (P : Params) : Obj := Obj.mk (Value.type "builtin_function_or_method") none (Data.fields #[Value.builtin "type.__prepare__", Value.type "type"]) #[]
noncomputable def o63 (P : Params) : Obj := Obj.mk (Value.type "dict") none (Data.dict #[DictEntry.mk (PyData.keyHash P (Str.ofString "__module__")) (Value.str (Str.ofString "__module__") 259) (Value.str (Str.ofString "switchloom.errors") 205), DictEntry.mk (PyData.keyHash P (Str.ofString "__qualname__")) (Value.str (Str.ofString "__qualname__") 261) (Value.str (Str.ofString "TableError") 260), DictEntry.mk (PyData.keyHash P (Str.ofString "__firstlineno__")) (Value.str (Str.ofString "__firstlineno__") 263) (Value.int 15 262), DictEntry.mk (PyData.keyHash P (Str.ofString "__static_attributes__")) (Value.str (Str.ofString "__static_attributes__") 264) (Value.ref 68)] 4) #[]
noncomputable def o64 (P : Params) : Obj := Obj.mk (Value.type "tuple") none (Data.seq #[] 0) #[]
noncomputable def o65 (P : Params) : Obj := Obj.mk Value.none none (Data.fields #[]) #[]
noncomputable def o66 (P : Params) : Obj := Obj.mk (Value.type "code") none (Data.fields #[Value.str (Str.ofString "TableError") 254, Value.str (Str.ofString "TableError") 255, Value.str (Str.ofString "/claim/cut.py") 256, Value.int 15 0, Value.int 0 0, Value.int 0 0, Value.int 0 0, Value.int 0 0, Value.ref 64, Value.bool Bool.false, Value.int 181 0, Value.ref 65, Value.none, Value.none, Value.none, Value.none, Value.int 257 0, Value.int 15 0, Value.str (Str.ofString "/claim/cut.py") 258]) #[]
noncomputable def o67 (P : Params) : Obj := Obj.mk (Value.type "frame") none Data.plain #[(some (Value.ref 66)), (some (Value.ref 3)), (some (Value.ref 63)), none, (some (Value.str (Str.ofString "switchloom.errors") 205)), none, (some (Value.ref 0))]
noncomputable def o68 (P : Params) : Obj := Obj.mk (Value.type "tuple") none (Data.seq #[] 0) #[]
noncomputable def o69 (P : Params) : Obj := Obj.mk (Value.type "dict") none (Data.dict #[DictEntry.mk (PyData.keyHash P (Str.ofString "__module__")) (Value.str (Str.ofString "__module__") 259) (Value.str (Str.ofString "switchloom.errors") 205), DictEntry.mk (PyData.keyHash P (Str.ofString "__firstlineno__")) (Value.str (Str.ofString "__firstlineno__") 263) (Value.int 15 262), DictEntry.mk (PyData.keyHash P (Str.ofString "__static_attributes__")) (Value.str (Str.ofString "__static_attributes__") 264) (Value.ref 68), DictEntry.mk (PyData.keyHash P (Str.ofString "__doc__")) (Value.str (Str.ofString "__doc__") 265) Value.none] 2) #[]
noncomputable def o70 (P : Params) : Obj := Obj.mk (Value.type "type") none (Data.cls (ClassData.mk (Str.ofString "TableError") [Value.ref 45] [Value.ref 70, Value.ref 45, Value.type "Exception", Value.type "BaseException", Value.type "object"] 69 (Str.ofString "TableError") Bool.true [] [] Bool.false none Bool.false)) #[(some (Value.ref 61)), none, (some (Value.str (Str.ofString "TableError") 252)), (some (Value.str (Str.ofString "TableError") 260)), (some (Value.builtin "Exception.__new__")), (some (Value.bool Bool.true))]
noncomputable def o71 (P : Params) : Obj := Obj.mk (Value.type "super") none (Data.fields #[Value.ref 70, Value.ref 70, Value.ref 70]) #[]
noncomputable def o72 (P : Params) : Obj := Obj.mk (Value.type "builtin_function_or_method") none (Data.fields #[Value.builtin "object.__init_subclass__", Value.ref 70]) #[]
noncomputable def o73 (P : Params) : Obj := Obj.mk (Value.type "tuple") none (Data.seq #[Value.ref 45] 0) #[]
noncomputable def o74 (P : Params) : Obj := Obj.mk (Value.type "builtin_function_or_method") none (Data.fields #[Value.builtin "type.__prepare__", Value.type "type"]) #[]
noncomputable def o75 (P : Params) : Obj := Obj.mk (Value.type "dict") none (Data.dict #[DictEntry.mk (PyData.keyHash P (Str.ofString "__module__")) (Value.str (Str.ofString "__module__") 275) (Value.str (Str.ofString "switchloom.errors") 205), DictEntry.mk (PyData.keyHash P (Str.ofString "__qualname__")) (Value.str (Str.ofString "__qualname__") 277) (Value.str (Str.ofString "SettingError") 276), DictEntry.mk (PyData.keyHash P (Str.ofString "__firstlineno__")) (Value.str (Str.ofString "__firstlineno__") 279) (Value.int 17 278), DictEntry.mk (PyData.keyHash P (Str.ofString "__init__")) (Value.str (Str.ofString "__init__") 289) (Value.ref 87), DictEntry.mk (PyData.keyHash P (Str.ofString "__static_attributes__")) (Value.str (Str.ofString "__static_attributes__") 291) (Value.ref 88)] 5) #[]
noncomputable def o76 (P : Params) : Obj := Obj.mk (Value.type "tuple") none (Data.seq #[] 0) #[]
noncomputable def o77 (P : Params) : Obj := Obj.mk Value.none none (Data.fields #[Value.int 19 0, Value.int 4 0, Value.ref 86]) #[]
noncomputable def o78 (P : Params) : Obj := Obj.mk (Value.type "code") none (Data.fields #[Value.str (Str.ofString "SettingError") 270, Value.str (Str.ofString "SettingError") 271, Value.str (Str.ofString "/claim/cut.py") 272, Value.int 17 0, Value.int 0 0, Value.int 0 0, Value.int 0 0, Value.int 0 0, Value.ref 76, Value.bool Bool.false, Value.int 181 0, Value.ref 77, Value.none, Value.none, Value.none, Value.none, Value.int 273 0, Value.int 17 0, Value.str (Str.ofString "/claim/cut.py") 274]) #[]
noncomputable def o79 (P : Params) : Obj := Obj.mk (Value.type "frame") none Data.plain #[(some (Value.ref 78)), (some (Value.ref 3)), (some (Value.ref 75)), none, (some (Value.str (Str.ofString "switchloom.errors") 205)), none, (some (Value.ref 0))]
noncomputable def o80 (P : Params) : Obj := Obj.mk (Value.type "tuple") none (Data.seq #[Value.int 0 280] 0) #[]
noncomputable def o81 (P : Params) : Obj := Obj.mk (Value.type "tuple") none (Data.seq #[] 0) #[]
noncomputable def o82 (P : Params) : Obj := Obj.mk Value.none none (Data.fields #[]) #[]
noncomputable def o83 (P : Params) : Obj := Obj.mk (Value.type "tuple") none (Data.seq #[Value.str (Str.ofString "self") 284, Value.str (Str.ofString "message") 285, Value.str (Str.ofString "row") 286] 0) #[]
noncomputable def o84 (P : Params) : Obj := Obj.mk (Value.type "tuple") none (Data.seq #[] 0) #[]
noncomputable def o85 (P : Params) : Obj := Obj.mk Value.none none (Data.func (FuncData.mk (Str.ofString "__init__") (Str.ofString "SettingError.__init__") (fA (tc 7 0)) (fB (tc 7 0)) (fS (tc 7 0)) 0 [] Value.none Value.none Value.none Value.none none Value.none Value.none 0)) #[]
noncomputable def o86 (P : Params) : Obj := Obj.mk (Value.type "code") none (Data.fields #[Value.str (Str.ofString "__init__") 281, Value.str (Str.ofString "SettingError.__init__") 282, Value.str (Str.ofString "/claim/cut.py") 283, Value.int 19 0, Value.int 3 0, Value.int 0 0, Value.int 0 0, Value.int 3 0, Value.ref 81, Value.bool Bool.true, Value.int 181 0, Value.ref 82, Value.none, Value.ref 83, Value.ref 84, Value.ref 85, Value.int 287 0, Value.int 19 0, Value.str (Str.ofString "/claim/cut.py") 288]) #[]
noncomputable def o87 (P : Params) : Obj := Obj.mk (Value.type "function") none (Data.func (FuncData.mk (Str.ofString "__init__") (Str.ofString "SettingError.__init__") (fA (tc 7 0)) (fB (tc 7 0)) (fS (tc 7 0)) 3 [] (Value.ref 80) Value.none Value.none (Value.str (Str.ofString "switchloom.errors") 205) none (Value.ref 86) Value.none 0)) #[]
noncomputable def o88 (P : Params) : Obj := Obj.mk (Value.type "tuple") none (Data.seq #[Value.str (Str.ofString "row") 290] 0) #[]
noncomputable def o89 (P : Params) : Obj := Obj.mk (Value.type "dict") none (Data.dict #[DictEntry.mk (PyData.keyHash P (Str.ofString "__module__")) (Value.str (Str.ofString "__module__") 275) (Value.str (Str.ofString "switchloom.errors") 205), DictEntry.mk (PyData.keyHash P (Str.ofString "__firstlineno__")) (Value.str (Str.ofString "__firstlineno__") 279) (Value.int 17 278), DictEntry.mk (PyData.keyHash P (Str.ofString "__init__")) (Value.str (Str.ofString "__init__") 289) (Value.ref 87), DictEntry.mk (PyData.keyHash P (Str.ofString "__static_attributes__")) (Value.str (Str.ofString "__static_attributes__") 291) (Value.ref 88), DictEntry.mk (PyData.keyHash P (Str.ofString "__doc__")) (Value.str (Str.ofString "__doc__") 292) Value.none] 2) #[]
noncomputable def o90 (P : Params) : Obj := Obj.mk (Value.type "type") none (Data.cls (ClassData.mk (Str.ofString "SettingError") [Value.ref 45] [Value.ref 90, Value.ref 45, Value.type "Exception", Value.type "BaseException", Value.type "object"] 89 (Str.ofString "SettingError") Bool.true [] [] Bool.false none Bool.false)) #[(some (Value.ref 73)), none, (some (Value.str (Str.ofString "SettingError") 268)), (some (Value.str (Str.ofString "SettingError") 276)), (some (Value.builtin "Exception.__new__")), (some (Value.bool Bool.true))]
noncomputable def o91 (P : Params) : Obj := Obj.mk (Value.type "super") none (Data.fields #[Value.ref 90, Value.ref 90, Value.ref 90]) #[]
noncomputable def o92 (P : Params) : Obj := Obj.mk (Value.type "builtin_function_or_method") none (Data.fields #[Value.builtin "object.__init_subclass__", Value.ref 90]) #[]
noncomputable def o93 (P : Params) : Obj := Obj.mk (Value.type "tuple") none (Data.seq #[] 0) #[]
noncomputable def o94 (P : Params) : Obj := Obj.mk Value.none none (Data.fields #[]) #[]
noncomputable def o95 (P : Params) : Obj := Obj.mk (Value.type "tuple") none (Data.seq #[Value.str (Str.ofString "numbers") 300, Value.str (Str.ofString "found") 301, Value.str (Str.ofString "number") 302, Value.str (Str.ofString "one") 303, Value.str (Str.ofString "other") 304] 0) #[]
noncomputable def o96 (P : Params) : Obj := Obj.mk (Value.type "tuple") none (Data.seq #[] 0) #[]
noncomputable def o97 (P : Params) : Obj := Obj.mk Value.none none (Data.func (FuncData.mk (Str.ofString "least_multiple") (Str.ofString "least_multiple") (fA (tp 9)) (fB (tp 9)) (fS (tp 9)) 0 [] Value.none Value.none Value.none Value.none none Value.none Value.none 0)) #[]
noncomputable def o98 (P : Params) : Obj := Obj.mk (Value.type "code") none (Data.fields #[Value.str (Str.ofString "least_multiple") 297, Value.str (Str.ofString "least_multiple") 298, Value.str (Str.ofString "/claim/cut.py") 299, Value.int 23 0, Value.int 1 0, Value.int 0 0, Value.int 0 0, Value.int 3 0, Value.ref 93, Value.bool Bool.true, Value.int 181 0, Value.ref 94, Value.none, Value.ref 95, Value.ref 96, Value.ref 97, Value.int 305 0, Value.int 23 0, Value.str (Str.ofString "/claim/cut.py") 306]) #[]
noncomputable def o99 (P : Params) : Obj := Obj.mk (Value.type "function") none (Data.func (FuncData.mk (Str.ofString "least_multiple") (Str.ofString "least_multiple") (fA (tp 9)) (fB (tp 9)) (fS (tp 9)) 3 [] Value.none Value.none Value.none (Value.str (Str.ofString "switchloom.fair_queues") 295) none (Value.ref 98) Value.none 0)) #[]
noncomputable def o100 (P : Params) : Obj := Obj.mk (Value.type "tuple") none (Data.seq #[] 0) #[]
noncomputable def o101 (P : Params) : Obj := Obj.mk Value.none none (Data.fields #[]) #[]
noncomputable def o102 (P : Params) : Obj := Obj.mk (Value.type "tuple") none (Data.seq #[Value.str (Str.ofString "frame") 319, Value.str (Str.ofString "field") 320] 0) #[]
noncomputable def o103 (P : Params) : Obj := Obj.mk (Value.type "tuple") none (Data.seq #[] 0) #[]
noncomputable def o104 (P : Params) : Obj := Obj.mk Value.none none (Data.func (FuncData.mk (Str.ofString "field_worth") (Str.ofString "field_worth") (fA (tp 14)) (fB (tp 14)) (fS (tp 14)) 0 [] Value.none Value.none Value.none Value.none none Value.none Value.none 0)) #[]
noncomputable def o105 (P : Params) : Obj := Obj.mk (Value.type "code") none (Data.fields #[Value.str (Str.ofString "field_worth") 316, Value.str (Str.ofString "field_worth") 317, Value.str (Str.ofString "/claim/cut.py") 318, Value.int 35 0, Value.int 2 0, Value.int 0 0, Value.int 0 0, Value.int 3 0, Value.ref 100, Value.bool Bool.true, Value.int 181 0, Value.ref 101, Value.none, Value.ref 102, Value.ref 103, Value.ref 104, Value.int 321 0, Value.int 35 0, Value.str (Str.ofString "/claim/cut.py") 322]) #[]
noncomputable def o106 (P : Params) : Obj := Obj.mk (Value.type "function") none (Data.func (FuncData.mk (Str.ofString "field_worth") (Str.ofString "field_worth") (fA (tp 14)) (fB (tp 14)) (fS (tp 14)) 3 [] Value.none Value.none Value.none (Value.str (Str.ofString "switchloom.flow_hash") 308) none (Value.ref 105) Value.none 0)) #[]
noncomputable def o107 (P : Params) : Obj := Obj.mk (Value.type "tuple") none (Data.seq #[] 0) #[]
noncomputable def o108 (P : Params) : Obj := Obj.mk Value.none none (Data.fields #[]) #[]
noncomputable def o109 (P : Params) : Obj := Obj.mk (Value.type "tuple") none (Data.seq #[Value.str (Str.ofString "worth") 327, Value.str (Str.ofString "more") 328, Value.str (Str.ofString "seed") 329] 0) #[]
noncomputable def o110 (P : Params) : Obj := Obj.mk (Value.type "tuple") none (Data.seq #[] 0) #[]
noncomputable def o111 (P : Params) : Obj := Obj.mk Value.none none (Data.func (FuncData.mk (Str.ofString "mixed_worth") (Str.ofString "mixed_worth") (fA (tp 15)) (fB (tp 15)) (fS (tp 15)) 0 [] Value.none Value.none Value.none Value.none none Value.none Value.none 0)) #[]
noncomputable def o112 (P : Params) : Obj := Obj.mk (Value.type "code") none (Data.fields #[Value.str (Str.ofString "mixed_worth") 324, Value.str (Str.ofString "mixed_worth") 325, Value.str (Str.ofString "/claim/cut.py") 326, Value.int 43 0, Value.int 3 0, Value.int 0 0, Value.int 0 0, Value.int 3 0, Value.ref 107, Value.bool Bool.true, Value.int 181 0, Value.ref 108, Value.none, Value.ref 109, Value.ref 110, Value.ref 111, Value.int 330 0, Value.int 43 0, Value.str (Str.ofString "/claim/cut.py") 331]) #[]
noncomputable def o113 (P : Params) : Obj := Obj.mk (Value.type "function") none (Data.func (FuncData.mk (Str.ofString "mixed_worth") (Str.ofString "mixed_worth") (fA (tp 15)) (fB (tp 15)) (fS (tp 15)) 3 [] Value.none Value.none Value.none (Value.str (Str.ofString "switchloom.flow_hash") 308) none (Value.ref 112) Value.none 0)) #[]
noncomputable def o114 (P : Params) : Obj := Obj.mk (Value.type "tuple") none (Data.seq #[] 0) #[]
noncomputable def o115 (P : Params) : Obj := Obj.mk (Value.type "builtin_function_or_method") none (Data.fields #[Value.builtin "type.__prepare__", Value.type "type"]) #[]
noncomputable def o116 (P : Params) : Obj := Obj.mk (Value.type "dict") none (Data.dict #[DictEntry.mk (PyData.keyHash P (Str.ofString "__module__")) (Value.str (Str.ofString "__module__") 350) (Value.str (Str.ofString "switchloom.frames") 333), DictEntry.mk (PyData.keyHash P (Str.ofString "__qualname__")) (Value.str (Str.ofString "__qualname__") 352) (Value.str (Str.ofString "Tag") 351), DictEntry.mk (PyData.keyHash P (Str.ofString "__firstlineno__")) (Value.str (Str.ofString "__firstlineno__") 354) (Value.int 51 353), DictEntry.mk (PyData.keyHash P (Str.ofString "__init__")) (Value.str (Str.ofString "__init__") 365) (Value.ref 127), DictEntry.mk (PyData.keyHash P (Str.ofString "told")) (Value.str (Str.ofString "told") 372) (Value.ref 134), DictEntry.mk (PyData.keyHash P (Str.ofString "__static_attributes__")) (Value.str (Str.ofString "__static_attributes__") 377) (Value.ref 135)] 6) #[]
noncomputable def o117 (P : Params) : Obj := Obj.mk (Value.type "tuple") none (Data.seq #[] 0) #[]
noncomputable def o118 (P : Params) : Obj := Obj.mk Value.none none (Data.fields #[Value.int 53 0, Value.int 4 0, Value.ref 126, Value.int 59 0, Value.int 4 0, Value.ref 133]) #[]
noncomputable def o119 (P : Params) : Obj := Obj.mk (Value.type "code") none (Data.fields #[Value.str (Str.ofString "Tag") 345, Value.str (Str.ofString "Tag") 346, Value.str (Str.ofString "/claim/cut.py") 347, Value.int 51 0, Value.int 0 0, Value.int 0 0, Value.int 0 0, Value.int 0 0, Value.ref 117, Value.bool Bool.false, Value.int 181 0, Value.ref 118, Value.none, Value.none, Value.none, Value.none, Value.int 348 0, Value.int 51 0, Value.str (Str.ofString "/claim/cut.py") 349]) #[]
noncomputable def o120 (P : Params) : Obj := Obj.mk (Value.type "frame") none Data.plain #[(some (Value.ref 119)), (some (Value.ref 3)), (some (Value.ref 116)), none, (some (Value.str (Str.ofString "switchloom.frames") 333)), none, (some (Value.ref 0))]
noncomputable def o121 (P : Params) : Obj := Obj.mk (Value.type "tuple") none (Data.seq #[] 0) #[]
noncomputable def o122 (P : Params) : Obj := Obj.mk Value.none none (Data.fields #[]) #[]
noncomputable def o123 (P : Params) : Obj := Obj.mk (Value.type "tuple") none (Data.seq #[Value.str (Str.ofString "self") 358, Value.str (Str.ofString "kind") 359, Value.str (Str.ofString "priority") 360, Value.str (Str.ofString "may_drop") 361, Value.str (Str.ofString "vlan") 362] 0) #[]
noncomputable def o124 (P : Params) : Obj := Obj.mk (Value.type "tuple") none (Data.seq #[] 0) #[]
noncomputable def o125 (P : Params) : Obj := Obj.mk Value.none none (Data.func (FuncData.mk (Str.ofString "__init__") (Str.ofString "Tag.__init__") (fA (tc 21 0)) (fB (tc 21 0)) (fS (tc 21 0)) 0 [] Value.none Value.none Value.none Value.none none Value.none Value.none 0)) #[]
noncomputable def o126 (P : Params) : Obj := Obj.mk (Value.type "code") none (Data.fields #[Value.str (Str.ofString "__init__") 355, Value.str (Str.ofString "Tag.__init__") 356, Value.str (Str.ofString "/claim/cut.py") 357, Value.int 53 0, Value.int 5 0, Value.int 0 0, Value.int 0 0, Value.int 3 0, Value.ref 121, Value.bool Bool.true, Value.int 181 0, Value.ref 122, Value.none, Value.ref 123, Value.ref 124, Value.ref 125, Value.int 363 0, Value.int 53 0, Value.str (Str.ofString "/claim/cut.py") 364]) #[]
noncomputable def o127 (P : Params) : Obj := Obj.mk (Value.type "function") none (Data.func (FuncData.mk (Str.ofString "__init__") (Str.ofString "Tag.__init__") (fA (tc 21 0)) (fB (tc 21 0)) (fS (tc 21 0)) 3 [] Value.none Value.none Value.none (Value.str (Str.ofString "switchloom.frames") 333) none (Value.ref 126) Value.none 0)) #[]
noncomputable def o128 (P : Params) : Obj := Obj.mk (Value.type "tuple") none (Data.seq #[] 0) #[]
noncomputable def o129 (P : Params) : Obj := Obj.mk Value.none none (Data.fields #[]) #[]
noncomputable def o130 (P : Params) : Obj := Obj.mk (Value.type "tuple") none (Data.seq #[Value.str (Str.ofString "self") 369] 0) #[]
noncomputable def o131 (P : Params) : Obj := Obj.mk (Value.type "tuple") none (Data.seq #[] 0) #[]
noncomputable def o132 (P : Params) : Obj := Obj.mk Value.none none (Data.func (FuncData.mk (Str.ofString "told") (Str.ofString "Tag.told") (fA (tc 21 1)) (fB (tc 21 1)) (fS (tc 21 1)) 0 [] Value.none Value.none Value.none Value.none none Value.none Value.none 0)) #[]
noncomputable def o133 (P : Params) : Obj := Obj.mk (Value.type "code") none (Data.fields #[Value.str (Str.ofString "told") 366, Value.str (Str.ofString "Tag.told") 367, Value.str (Str.ofString "/claim/cut.py") 368, Value.int 59 0, Value.int 1 0, Value.int 0 0, Value.int 0 0, Value.int 3 0, Value.ref 128, Value.bool Bool.true, Value.int 181 0, Value.ref 129, Value.none, Value.ref 130, Value.ref 131, Value.ref 132, Value.int 370 0, Value.int 59 0, Value.str (Str.ofString "/claim/cut.py") 371]) #[]
noncomputable def o134 (P : Params) : Obj := Obj.mk (Value.type "function") none (Data.func (FuncData.mk (Str.ofString "told") (Str.ofString "Tag.told") (fA (tc 21 1)) (fB (tc 21 1)) (fS (tc 21 1)) 3 [] Value.none Value.none Value.none (Value.str (Str.ofString "switchloom.frames") 333) none (Value.ref 133) Value.none 0)) #[]
noncomputable def o135 (P : Params) : Obj := Obj.mk (Value.type "tuple") none (Data.seq #[Value.str (Str.ofString "kind") 373, Value.str (Str.ofString "may_drop") 374, Value.str (Str.ofString "priority") 375, Value.str (Str.ofString "vlan") 376] 0) #[]
noncomputable def o136 (P : Params) : Obj := Obj.mk (Value.type "dict") none (Data.dict #[DictEntry.mk (PyData.keyHash P (Str.ofString "__module__")) (Value.str (Str.ofString "__module__") 350) (Value.str (Str.ofString "switchloom.frames") 333), DictEntry.mk (PyData.keyHash P (Str.ofString "__firstlineno__")) (Value.str (Str.ofString "__firstlineno__") 354) (Value.int 51 353), DictEntry.mk (PyData.keyHash P (Str.ofString "__init__")) (Value.str (Str.ofString "__init__") 365) (Value.ref 127), DictEntry.mk (PyData.keyHash P (Str.ofString "told")) (Value.str (Str.ofString "told") 372) (Value.ref 134), DictEntry.mk (PyData.keyHash P (Str.ofString "__static_attributes__")) (Value.str (Str.ofString "__static_attributes__") 377) (Value.ref 135), DictEntry.mk (PyData.keyHash P (Str.ofString "__dict__")) (Value.str (Str.ofString "__dict__") 379) (Value.ref 138), DictEntry.mk (PyData.keyHash P (Str.ofString "__weakref__")) (Value.str (Str.ofString "__weakref__") 381) (Value.ref 139), DictEntry.mk (PyData.keyHash P (Str.ofString "__doc__")) (Value.str (Str.ofString "__doc__") 382) Value.none] 4) #[]
noncomputable def o137 (P : Params) : Obj := Obj.mk (Value.type "type") none (Data.cls (ClassData.mk (Str.ofString "Tag") [Value.type "object"] [Value.ref 137, Value.type "object"] 136 (Str.ofString "Tag") Bool.true [] [] Bool.false none Bool.false)) #[none, none, (some (Value.str (Str.ofString "Tag") 343)), (some (Value.str (Str.ofString "Tag") 351)), (some (Value.builtin "object.__new__")), (some (Value.bool Bool.true))]
noncomputable def o138 (P : Params) : Obj := Obj.mk (Value.type "getset_descriptor") none (Data.fields #[Value.str (Str.ofString "__dict__") 378, Value.ref 137, Value.builtin "function.__dict__", Value.builtin "function.__dict__#set"]) #[]
noncomputable def o139 (P : Params) : Obj := Obj.mk (Value.type "getset_descriptor") none (Data.fields #[Value.str (Str.ofString "__weakref__") 380, Value.ref 137, Value.builtin "ExceptionGroup.__weakref__", Value.none]) #[]
noncomputable def o140 (P : Params) : Obj := Obj.mk (Value.type "super") none (Data.fields #[Value.ref 137, Value.ref 137, Value.ref 137]) #[]
noncomputable def o141 (P : Params) : Obj := Obj.mk (Value.type "builtin_function_or_method") none (Data.fields #[Value.builtin "object.__init_subclass__", Value.ref 137]) #[]
noncomputable def o142 (P : Params) : Obj := Obj.mk (Value.type "tuple") none (Data.seq #[] 0) #[]
noncomputable def o143 (P : Params) : Obj := Obj.mk (Value.type "builtin_function_or_method") none (Data.fields #[Value.builtin "type.__prepare__", Value.type "type"]) #[]
noncomputable def o144 (P : Params) : Obj := Obj.mk (Value.type "dict") none (Data.dict #[DictEntry.mk (PyData.keyHash P (Str.ofString "__module__")) (Value.str (Str.ofString "__module__") 392) (Value.str (Str.ofString "switchloom.frames") 333), DictEntry.mk (PyData.keyHash P (Str.ofString "__qualname__")) (Value.str (Str.ofString "__qualname__") 394) (Value.str (Str.ofString "Frame") 393), DictEntry.mk (PyData.keyHash P (Str.ofString "__firstlineno__")) (Value.str (Str.ofString "__firstlineno__") 396) (Value.int 61 395), DictEntry.mk (PyData.keyHash P (Str.ofString "__init__")) (Value.str (Str.ofString "__init__") 408) (Value.ref 155), DictEntry.mk (PyData.keyHash P (Str.ofString "told")) (Value.str (Str.ofString "told") 414) (Value.ref 160), DictEntry.mk (PyData.keyHash P (Str.ofString "size")) (Value.str (Str.ofString "size") 422) (Value.ref 168), DictEntry.mk (PyData.keyHash P (Str.ofString "__static_attributes__")) (Value.str (Str.ofString "__static_attributes__") 428) (Value.ref 169)] 7) #[]
noncomputable def o145 (P : Params) : Obj := Obj.mk (Value.type "tuple") none (Data.seq #[] 0) #[]
noncomputable def o146 (P : Params) : Obj := Obj.mk Value.none none (Data.fields #[Value.int 63 0, Value.int 4 0, Value.ref 154, Value.int 70 0, Value.int 4 0, Value.ref 159, Value.int 73 0, Value.int 4 0, Value.ref 167]) #[]
noncomputable def o147 (P : Params) : Obj := Obj.mk (Value.type "code") none (Data.fields #[Value.str (Str.ofString "Frame") 387, Value.str (Str.ofString "Frame") 388, Value.str (Str.ofString "/claim/cut.py") 389, Value.int 61 0, Value.int 0 0, Value.int 0 0, Value.int 0 0, Value.int 0 0, Value.ref 145, Value.bool Bool.false, Value.int 181 0, Value.ref 146, Value.none, Value.none, Value.none, Value.none, Value.int 390 0, Value.int 61 0, Value.str (Str.ofString "/claim/cut.py") 391]) #[]
noncomputable def o148 (P : Params) : Obj := Obj.mk (Value.type "frame") none Data.plain #[(some (Value.ref 147)), (some (Value.ref 3)), (some (Value.ref 144)), none, (some (Value.str (Str.ofString "switchloom.frames") 333)), none, (some (Value.ref 0))]
noncomputable def o149 (P : Params) : Obj := Obj.mk (Value.type "tuple") none (Data.seq #[] 0) #[]
noncomputable def o150 (P : Params) : Obj := Obj.mk Value.none none (Data.fields #[]) #[]
noncomputable def o151 (P : Params) : Obj := Obj.mk (Value.type "tuple") none (Data.seq #[Value.str (Str.ofString "self") 400, Value.str (Str.ofString "target") 401, Value.str (Str.ofString "source") 402, Value.str (Str.ofString "tags") 403, Value.str (Str.ofString "kind") 404, Value.str (Str.ofString "payload") 405] 0) #[]
noncomputable def o152 (P : Params) : Obj := Obj.mk (Value.type "tuple") none (Data.seq #[] 0) #[]
noncomputable def o153 (P : Params) : Obj := Obj.mk Value.none none (Data.func (FuncData.mk (Str.ofString "__init__") (Str.ofString "Frame.__init__") (fA (tc 22 0)) (fB (tc 22 0)) (fS (tc 22 0)) 0 [] Value.none Value.none Value.none Value.none none Value.none Value.none 0)) #[]
noncomputable def o154 (P : Params) : Obj := Obj.mk (Value.type "code") none (Data.fields #[Value.str (Str.ofString "__init__") 397, Value.str (Str.ofString "Frame.__init__") 398, Value.str (Str.ofString "/claim/cut.py") 399, Value.int 63 0, Value.int 6 0, Value.int 0 0, Value.int 0 0, Value.int 3 0, Value.ref 149, Value.bool Bool.true, Value.int 181 0, Value.ref 150, Value.none, Value.ref 151, Value.ref 152, Value.ref 153, Value.int 406 0, Value.int 63 0, Value.str (Str.ofString "/claim/cut.py") 407]) #[]
noncomputable def o155 (P : Params) : Obj := Obj.mk (Value.type "function") none (Data.func (FuncData.mk (Str.ofString "__init__") (Str.ofString "Frame.__init__") (fA (tc 22 0)) (fB (tc 22 0)) (fS (tc 22 0)) 3 [] Value.none Value.none Value.none (Value.str (Str.ofString "switchloom.frames") 333) none (Value.ref 154) Value.none 0)) #[]
noncomputable def o156 (P : Params) : Obj := Obj.mk (Value.type "tuple") none (Data.seq #[] 0) #[]
noncomputable def o157 (P : Params) : Obj := Obj.mk Value.none none (Data.fields #[]) #[]
noncomputable def o158 (P : Params) : Obj := Obj.mk Value.none none (Data.func (FuncData.mk (Str.ofString "told") (Str.ofString "Frame.told") (fA (tc 22 1)) (fB (tc 22 1)) (fS (tc 22 1)) 0 [] Value.none Value.none Value.none Value.none none Value.none Value.none 0)) #[]
noncomputable def o159 (P : Params) : Obj := Obj.mk (Value.type "code") none (Data.fields #[Value.str (Str.ofString "told") 409, Value.str (Str.ofString "Frame.told") 410, Value.str (Str.ofString "/claim/cut.py") 411, Value.int 70 0, Value.int 1 0, Value.int 0 0, Value.int 0 0, Value.int 3 0, Value.ref 156, Value.bool Bool.true, Value.int 181 0, Value.ref 157, Value.none, Value.none, Value.none, Value.ref 158, Value.int 412 0, Value.int 70 0, Value.str (Str.ofString "/claim/cut.py") 413]) #[]
noncomputable def o160 (P : Params) : Obj := Obj.mk (Value.type "function") none (Data.func (FuncData.mk (Str.ofString "told") (Str.ofString "Frame.told") (fA (tc 22 1)) (fB (tc 22 1)) (fS (tc 22 1)) 3 [] Value.none Value.none Value.none (Value.str (Str.ofString "switchloom.frames") 333) none (Value.ref 159) Value.none 0)) #[]
noncomputable def o161 (P : Params) : Obj := Obj.mk (Value.type "tuple") none (Data.seq #[Value.int 60 341] 0) #[]
noncomputable def o162 (P : Params) : Obj := Obj.mk (Value.type "tuple") none (Data.seq #[] 0) #[]
noncomputable def o163 (P : Params) : Obj := Obj.mk Value.none none (Data.fields #[]) #[]
noncomputable def o164 (P : Params) : Obj := Obj.mk (Value.type "tuple") none (Data.seq #[Value.str (Str.ofString "self") 418, Value.str (Str.ofString "least") 419] 0) #[]
noncomputable def o165 (P : Params) : Obj := Obj.mk (Value.type "tuple") none (Data.seq #[] 0) #[]
noncomputable def o166 (P : Params) : Obj := Obj.mk Value.none none (Data.func (FuncData.mk (Str.ofString "size") (Str.ofString "Frame.size") (fA (tc 22 2)) (fB (tc 22 2)) (fS (tc 22 2)) 0 [] Value.none Value.none Value.none Value.none none Value.none Value.none 0)) #[]
noncomputable def o167 (P : Params) : Obj := Obj.mk (Value.type "code") none (Data.fields #[Value.str (Str.ofString "size") 415, Value.str (Str.ofString "Frame.size") 416, Value.str (Str.ofString "/claim/cut.py") 417, Value.int 73 0, Value.int 2 0, Value.int 0 0, Value.int 0 0, Value.int 3 0, Value.ref 162, Value.bool Bool.true, Value.int 181 0, Value.ref 163, Value.none, Value.ref 164, Value.ref 165, Value.ref 166, Value.int 420 0, Value.int 73 0, Value.str (Str.ofString "/claim/cut.py") 421]) #[]
noncomputable def o168 (P : Params) : Obj := Obj.mk (Value.type "function") none (Data.func (FuncData.mk (Str.ofString "size") (Str.ofString "Frame.size") (fA (tc 22 2)) (fB (tc 22 2)) (fS (tc 22 2)) 3 [] (Value.ref 161) Value.none Value.none (Value.str (Str.ofString "switchloom.frames") 333) none (Value.ref 167) Value.none 0)) #[]
noncomputable def o169 (P : Params) : Obj := Obj.mk (Value.type "tuple") none (Data.seq #[Value.str (Str.ofString "kind") 423, Value.str (Str.ofString "payload") 424, Value.str (Str.ofString "source") 425, Value.str (Str.ofString "tags") 426, Value.str (Str.ofString "target") 427] 0) #[]
noncomputable def o170 (P : Params) : Obj := Obj.mk (Value.type "dict") none (Data.dict #[DictEntry.mk (PyData.keyHash P (Str.ofString "__module__")) (Value.str (Str.ofString "__module__") 392) (Value.str (Str.ofString "switchloom.frames") 333), DictEntry.mk (PyData.keyHash P (Str.ofString "__firstlineno__")) (Value.str (Str.ofString "__firstlineno__") 396) (Value.int 61 395), DictEntry.mk (PyData.keyHash P (Str.ofString "__init__")) (Value.str (Str.ofString "__init__") 408) (Value.ref 155), DictEntry.mk (PyData.keyHash P (Str.ofString "told")) (Value.str (Str.ofString "told") 414) (Value.ref 160), DictEntry.mk (PyData.keyHash P (Str.ofString "size")) (Value.str (Str.ofString "size") 422) (Value.ref 168), DictEntry.mk (PyData.keyHash P (Str.ofString "__static_attributes__")) (Value.str (Str.ofString "__static_attributes__") 428) (Value.ref 169), DictEntry.mk (PyData.keyHash P (Str.ofString "__dict__")) (Value.str (Str.ofString "__dict__") 430) (Value.ref 172), DictEntry.mk (PyData.keyHash P (Str.ofString "__weakref__")) (Value.str (Str.ofString "__weakref__") 432) (Value.ref 173), DictEntry.mk (PyData.keyHash P (Str.ofString "__doc__")) (Value.str (Str.ofString "__doc__") 433) Value.none] 4) #[]
noncomputable def o171 (P : Params) : Obj := Obj.mk (Value.type "type") none (Data.cls (ClassData.mk (Str.ofString "Frame") [Value.type "object"] [Value.ref 171, Value.type "object"] 170 (Str.ofString "Frame") Bool.true [] [] Bool.false none Bool.false)) #[none, none, (some (Value.str (Str.ofString "Frame") 385)), (some (Value.str (Str.ofString "Frame") 393)), (some (Value.builtin "object.__new__")), (some (Value.bool Bool.true))]
noncomputable def o172 (P : Params) : Obj := Obj.mk (Value.type "getset_descriptor") none (Data.fields #[Value.str (Str.ofString "__dict__") 429, Value.ref 171, Value.builtin "function.__dict__", Value.builtin "function.__dict__#set"]) #[]
noncomputable def o173 (P : Params) : Obj := Obj.mk (Value.type "getset_descriptor") none (Data.fields #[Value.str (Str.ofString "__weakref__") 431, Value.ref 171, Value.builtin "ExceptionGroup.__weakref__", Value.none]) #[]
noncomputable def o174 (P : Params) : Obj := Obj.mk (Value.type "super") none (Data.fields #[Value.ref 171, Value.ref 171, Value.ref 171]) #[]
noncomputable def o175 (P : Params) : Obj := Obj.mk (Value.type "builtin_function_or_method") none (Data.fields #[Value.builtin "object.__init_subclass__", Value.ref 171]) #[]
noncomputable def o176 (P : Params) : Obj := Obj.mk (Value.type "tuple") none (Data.seq #[Value.str (Str.ofString "green") 438, Value.str (Str.ofString "yellow") 440, Value.str (Str.ofString "red") 442] 0) #[]
noncomputable def o177 (P : Params) : Obj := Obj.mk (Value.type "tuple") none (Data.seq #[] 0) #[]
noncomputable def o178 (P : Params) : Obj := Obj.mk Value.none none (Data.fields #[]) #[]
noncomputable def o179 (P : Params) : Obj := Obj.mk (Value.type "tuple") none (Data.seq #[Value.str (Str.ofString "before") 448, Value.str (Str.ofString "is_aware") 449] 0) #[]
noncomputable def o180 (P : Params) : Obj := Obj.mk (Value.type "tuple") none (Data.seq #[] 0) #[]
noncomputable def o181 (P : Params) : Obj := Obj.mk Value.none none (Data.func (FuncData.mk (Str.ofString "colour_before") (Str.ofString "colour_before") (fA (tp 28)) (fB (tp 28)) (fS (tp 28)) 0 [] Value.none Value.none Value.none Value.none none Value.none Value.none 0)) #[]
noncomputable def o182 (P : Params) : Obj := Obj.mk (Value.type "code") none (Data.fields #[Value.str (Str.ofString "colour_before") 445, Value.str (Str.ofString "colour_before") 446, Value.str (Str.ofString "/claim/cut.py") 447, Value.int 80 0, Value.int 2 0, Value.int 0 0, Value.int 0 0, Value.int 3 0, Value.ref 177, Value.bool Bool.true, Value.int 181 0, Value.ref 178, Value.none, Value.ref 179, Value.ref 180, Value.ref 181, Value.int 450 0, Value.int 80 0, Value.str (Str.ofString "/claim/cut.py") 451]) #[]
noncomputable def o183 (P : Params) : Obj := Obj.mk (Value.type "function") none (Data.func (FuncData.mk (Str.ofString "colour_before") (Str.ofString "colour_before") (fA (tp 28)) (fB (tp 28)) (fS (tp 28)) 3 [] Value.none Value.none Value.none (Value.str (Str.ofString "switchloom.policers") 436) none (Value.ref 182) Value.none 0)) #[]
noncomputable def o184 (P : Params) : Obj := Obj.mk (Value.type "tuple") none (Data.seq #[] 0) #[]
noncomputable def o185 (P : Params) : Obj := Obj.mk (Value.type "builtin_function_or_method") none (Data.fields #[Value.builtin "type.__prepare__", Value.type "type"]) #[]
noncomputable def o186 (P : Params) : Obj := Obj.mk (Value.type "dict") none (Data.dict #[DictEntry.mk (PyData.keyHash P (Str.ofString "__module__")) (Value.str (Str.ofString "__module__") 462) (Value.str (Str.ofString "switchloom.ports") 453), DictEntry.mk (PyData.keyHash P (Str.ofString "__qualname__")) (Value.str (Str.ofString "__qualname__") 464) (Value.str (Str.ofString "Port") 463), DictEntry.mk (PyData.keyHash P (Str.ofString "__firstlineno__")) (Value.str (Str.ofString "__firstlineno__") 466) (Value.int 87 465), DictEntry.mk (PyData.keyHash P (Str.ofString "__init__")) (Value.str (Str.ofString "__init__") 479) (Value.ref 198), DictEntry.mk (PyData.keyHash P (Str.ofString "__static_attributes__")) (Value.str (Str.ofString "__static_attributes__") 485) (Value.ref 199)] 5) #[]
noncomputable def o187 (P : Params) : Obj := Obj.mk (Value.type "tuple") none (Data.seq #[] 0) #[]
noncomputable def o188 (P : Params) : Obj := Obj.mk Value.none none (Data.fields #[Value.int 89 0, Value.int 4 0, Value.ref 197]) #[]
noncomputable def o189 (P : Params) : Obj := Obj.mk (Value.type "code") none (Data.fields #[Value.str (Str.ofString "Port") 457, Value.str (Str.ofString "Port") 458, Value.str (Str.ofString "/claim/cut.py") 459, Value.int 87 0, Value.int 0 0, Value.int 0 0, Value.int 0 0, Value.int 0 0, Value.ref 187, Value.bool Bool.false, Value.int 181 0, Value.ref 188, Value.none, Value.none, Value.none, Value.none, Value.int 460 0, Value.int 87 0, Value.str (Str.ofString "/claim/cut.py") 461]) #[]
noncomputable def o190 (P : Params) : Obj := Obj.mk (Value.type "frame") none Data.plain #[(some (Value.ref 189)), (some (Value.ref 3)), (some (Value.ref 186)), none, (some (Value.str (Str.ofString "switchloom.ports") 453)), none, (some (Value.ref 0))]
noncomputable def o191 (P : Params) : Obj := Obj.mk (Value.type "tuple") none (Data.seq #[Value.bool Bool.false, Value.bool Bool.true, Value.int 1500 467] 0) #[]
noncomputable def o192 (P : Params) : Obj := Obj.mk (Value.type "tuple") none (Data.seq #[] 0) #[]
noncomputable def o193 (P : Params) : Obj := Obj.mk Value.none none (Data.fields #[]) #[]
noncomputable def o194 (P : Params) : Obj := Obj.mk (Value.type "tuple") none (Data.seq #[Value.str (Str.ofString "self") 471, Value.str (Str.ofString "number") 472, Value.str (Str.ofString "speed") 473, Value.str (Str.ofString "is_up") 474, Value.str (Str.ofString "is_full") 475, Value.str (Str.ofString "mtu") 476] 0) #[]
noncomputable def o195 (P : Params) : Obj := Obj.mk (Value.type "tuple") none (Data.seq #[] 0) #[]
noncomputable def o196 (P : Params) : Obj := Obj.mk Value.none none (Data.func (FuncData.mk (Str.ofString "__init__") (Str.ofString "Port.__init__") (fA (tc 30 0)) (fB (tc 30 0)) (fS (tc 30 0)) 0 [] Value.none Value.none Value.none Value.none none Value.none Value.none 0)) #[]
noncomputable def o197 (P : Params) : Obj := Obj.mk (Value.type "code") none (Data.fields #[Value.str (Str.ofString "__init__") 468, Value.str (Str.ofString "Port.__init__") 469, Value.str (Str.ofString "/claim/cut.py") 470, Value.int 89 0, Value.int 6 0, Value.int 0 0, Value.int 0 0, Value.int 3 0, Value.ref 192, Value.bool Bool.true, Value.int 181 0, Value.ref 193, Value.none, Value.ref 194, Value.ref 195, Value.ref 196, Value.int 477 0, Value.int 89 0, Value.str (Str.ofString "/claim/cut.py") 478]) #[]
noncomputable def o198 (P : Params) : Obj := Obj.mk (Value.type "function") none (Data.func (FuncData.mk (Str.ofString "__init__") (Str.ofString "Port.__init__") (fA (tc 30 0)) (fB (tc 30 0)) (fS (tc 30 0)) 3 [] (Value.ref 191) Value.none Value.none (Value.str (Str.ofString "switchloom.ports") 453) none (Value.ref 197) Value.none 0)) #[]
noncomputable def o199 (P : Params) : Obj := Obj.mk (Value.type "tuple") none (Data.seq #[Value.str (Str.ofString "is_full") 480, Value.str (Str.ofString "is_up") 481, Value.str (Str.ofString "mtu") 482, Value.str (Str.ofString "number") 483, Value.str (Str.ofString "speed") 484] 0) #[]
noncomputable def o200 (P : Params) : Obj := Obj.mk (Value.type "dict") none (Data.dict #[DictEntry.mk (PyData.keyHash P (Str.ofString "__module__")) (Value.str (Str.ofString "__module__") 462) (Value.str (Str.ofString "switchloom.ports") 453), DictEntry.mk (PyData.keyHash P (Str.ofString "__firstlineno__")) (Value.str (Str.ofString "__firstlineno__") 466) (Value.int 87 465), DictEntry.mk (PyData.keyHash P (Str.ofString "__init__")) (Value.str (Str.ofString "__init__") 479) (Value.ref 198), DictEntry.mk (PyData.keyHash P (Str.ofString "__static_attributes__")) (Value.str (Str.ofString "__static_attributes__") 485) (Value.ref 199), DictEntry.mk (PyData.keyHash P (Str.ofString "__dict__")) (Value.str (Str.ofString "__dict__") 487) (Value.ref 202), DictEntry.mk (PyData.keyHash P (Str.ofString "__weakref__")) (Value.str (Str.ofString "__weakref__") 489) (Value.ref 203), DictEntry.mk (PyData.keyHash P (Str.ofString "__doc__")) (Value.str (Str.ofString "__doc__") 490) Value.none] 4) #[]
noncomputable def o201 (P : Params) : Obj := Obj.mk (Value.type "type") none (Data.cls (ClassData.mk (Str.ofString "Port") [Value.type "object"] [Value.ref 201, Value.type "object"] 200 (Str.ofString "Port") Bool.true [] [] Bool.false none Bool.false)) #[none, none, (some (Value.str (Str.ofString "Port") 455)), (some (Value.str (Str.ofString "Port") 463)), (some (Value.builtin "object.__new__")), (some (Value.bool Bool.true))]
noncomputable def o202 (P : Params) : Obj := Obj.mk (Value.type "getset_descriptor") none (Data.fields #[Value.str (Str.ofString "__dict__") 486, Value.ref 201, Value.builtin "function.__dict__", Value.builtin "function.__dict__#set"]) #[]
noncomputable def o203 (P : Params) : Obj := Obj.mk (Value.type "getset_descriptor") none (Data.fields #[Value.str (Str.ofString "__weakref__") 488, Value.ref 201, Value.builtin "ExceptionGroup.__weakref__", Value.none]) #[]
noncomputable def o204 (P : Params) : Obj := Obj.mk (Value.type "super") none (Data.fields #[Value.ref 201, Value.ref 201, Value.ref 201]) #[]
noncomputable def o205 (P : Params) : Obj := Obj.mk (Value.type "builtin_function_or_method") none (Data.fields #[Value.builtin "object.__init_subclass__", Value.ref 201]) #[]
noncomputable def o206 (P : Params) : Obj := Obj.mk (Value.type "tuple") none (Data.seq #[] 0) #[]
noncomputable def o207 (P : Params) : Obj := Obj.mk (Value.type "builtin_function_or_method") none (Data.fields #[Value.builtin "type.__prepare__", Value.type "type"]) #[]
noncomputable def o208 (P : Params) : Obj := Obj.mk (Value.type "dict") none (Data.dict #[DictEntry.mk (PyData.keyHash P (Str.ofString "__module__")) (Value.str (Str.ofString "__module__") 500) (Value.str (Str.ofString "switchloom.ports") 453), DictEntry.mk (PyData.keyHash P (Str.ofString "__qualname__")) (Value.str (Str.ofString "__qualname__") 502) (Value.str (Str.ofString "LinkWatch") 501), DictEntry.mk (PyData.keyHash P (Str.ofString "__firstlineno__")) (Value.str (Str.ofString "__firstlineno__") 504) (Value.int 95 503), DictEntry.mk (PyData.keyHash P (Str.ofString "__init__")) (Value.str (Str.ofString "__init__") 511) (Value.ref 219), DictEntry.mk (PyData.keyHash P (Str.ofString "is_held")) (Value.str (Str.ofString "is_held") 519) (Value.ref 226), DictEntry.mk (PyData.keyHash P (Str.ofString "recent")) (Value.str (Str.ofString "recent") 525) (Value.ref 231), DictEntry.mk (PyData.keyHash P (Str.ofString "__static_attributes__")) (Value.str (Str.ofString "__static_attributes__") 529) (Value.ref 232)] 7) #[]
noncomputable def o209 (P : Params) : Obj := Obj.mk (Value.type "tuple") none (Data.seq #[] 0) #[]
noncomputable def o210 (P : Params) : Obj := Obj.mk Value.none none (Data.fields #[Value.int 97 0, Value.int 4 0, Value.ref 218, Value.int 102 0, Value.int 4 0, Value.ref 225, Value.int 105 0, Value.int 4 0, Value.ref 230]) #[]
noncomputable def o211 (P : Params) : Obj := Obj.mk (Value.type "code") none (Data.fields #[Value.str (Str.ofString "LinkWatch") 495, Value.str (Str.ofString "LinkWatch") 496, Value.str (Str.ofString "/claim/cut.py") 497, Value.int 95 0, Value.int 0 0, Value.int 0 0, Value.int 0 0, Value.int 0 0, Value.ref 209, Value.bool Bool.false, Value.int 181 0, Value.ref 210, Value.none, Value.none, Value.none, Value.none, Value.int 498 0, Value.int 95 0, Value.str (Str.ofString "/claim/cut.py") 499]) #[]
noncomputable def o212 (P : Params) : Obj := Obj.mk (Value.type "frame") none Data.plain #[(some (Value.ref 211)), (some (Value.ref 3)), (some (Value.ref 208)), none, (some (Value.str (Str.ofString "switchloom.ports") 453)), none, (some (Value.ref 0))]
noncomputable def o213 (P : Params) : Obj := Obj.mk (Value.type "tuple") none (Data.seq #[] 0) #[]
noncomputable def o214 (P : Params) : Obj := Obj.mk Value.none none (Data.fields #[]) #[]
noncomputable def o215 (P : Params) : Obj := Obj.mk (Value.type "tuple") none (Data.seq #[Value.str (Str.ofString "self") 508] 0) #[]
noncomputable def o216 (P : Params) : Obj := Obj.mk (Value.type "tuple") none (Data.seq #[] 0) #[]
noncomputable def o217 (P : Params) : Obj := Obj.mk Value.none none (Data.func (FuncData.mk (Str.ofString "__init__") (Str.ofString "LinkWatch.__init__") (fA (tc 31 0)) (fB (tc 31 0)) (fS (tc 21 1)) 0 [] Value.none Value.none Value.none Value.none none Value.none Value.none 0)) #[]
noncomputable def o218 (P : Params) : Obj := Obj.mk (Value.type "code") none (Data.fields #[Value.str (Str.ofString "__init__") 505, Value.str (Str.ofString "LinkWatch.__init__") 506, Value.str (Str.ofString "/claim/cut.py") 507, Value.int 97 0, Value.int 1 0, Value.int 0 0, Value.int 0 0, Value.int 3 0, Value.ref 213, Value.bool Bool.true, Value.int 181 0, Value.ref 214, Value.none, Value.ref 215, Value.ref 216, Value.ref 217, Value.int 509 0, Value.int 97 0, Value.str (Str.ofString "/claim/cut.py") 510]) #[]
noncomputable def o219 (P : Params) : Obj := Obj.mk (Value.type "function") none (Data.func (FuncData.mk (Str.ofString "__init__") (Str.ofString "LinkWatch.__init__") (fA (tc 31 0)) (fB (tc 31 0)) (fS (tc 21 1)) 3 [] Value.none Value.none Value.none (Value.str (Str.ofString "switchloom.ports") 453) none (Value.ref 218) Value.none 0)) #[]
noncomputable def o220 (P : Params) : Obj := Obj.mk (Value.type "tuple") none (Data.seq #[] 0) #[]
noncomputable def o221 (P : Params) : Obj := Obj.mk Value.none none (Data.fields #[]) #[]
noncomputable def o222 (P : Params) : Obj := Obj.mk (Value.type "tuple") none (Data.seq #[Value.str (Str.ofString "self") 515, Value.str (Str.ofString "now") 516] 0) #[]
noncomputable def o223 (P : Params) : Obj := Obj.mk (Value.type "tuple") none (Data.seq #[] 0) #[]
noncomputable def o224 (P : Params) : Obj := Obj.mk Value.none none (Data.func (FuncData.mk (Str.ofString "is_held") (Str.ofString "LinkWatch.is_held") (fA (tc 31 1)) (fB (tc 31 1)) (fS (tc 31 1)) 0 [] Value.none Value.none Value.none Value.none none Value.none Value.none 0)) #[]
noncomputable def o225 (P : Params) : Obj := Obj.mk (Value.type "code") none (Data.fields #[Value.str (Str.ofString "is_held") 512, Value.str (Str.ofString "LinkWatch.is_held") 513, Value.str (Str.ofString "/claim/cut.py") 514, Value.int 102 0, Value.int 2 0, Value.int 0 0, Value.int 0 0, Value.int 3 0, Value.ref 220, Value.bool Bool.true, Value.int 181 0, Value.ref 221, Value.none, Value.ref 222, Value.ref 223, Value.ref 224, Value.int 517 0, Value.int 102 0, Value.str (Str.ofString "/claim/cut.py") 518]) #[]
noncomputable def o226 (P : Params) : Obj := Obj.mk (Value.type "function") none (Data.func (FuncData.mk (Str.ofString "is_held") (Str.ofString "LinkWatch.is_held") (fA (tc 31 1)) (fB (tc 31 1)) (fS (tc 31 1)) 3 [] Value.none Value.none Value.none (Value.str (Str.ofString "switchloom.ports") 453) none (Value.ref 225) Value.none 0)) #[]
noncomputable def o227 (P : Params) : Obj := Obj.mk (Value.type "tuple") none (Data.seq #[] 0) #[]
noncomputable def o228 (P : Params) : Obj := Obj.mk Value.none none (Data.fields #[]) #[]
noncomputable def o229 (P : Params) : Obj := Obj.mk Value.none none (Data.func (FuncData.mk (Str.ofString "recent") (Str.ofString "LinkWatch.recent") (fA (tc 31 2)) (fB (tc 31 2)) (fS (tc 31 2)) 0 [] Value.none Value.none Value.none Value.none none Value.none Value.none 0)) #[]
noncomputable def o230 (P : Params) : Obj := Obj.mk (Value.type "code") none (Data.fields #[Value.str (Str.ofString "recent") 520, Value.str (Str.ofString "LinkWatch.recent") 521, Value.str (Str.ofString "/claim/cut.py") 522, Value.int 105 0, Value.int 3 0, Value.int 0 0, Value.int 0 0, Value.int 3 0, Value.ref 227, Value.bool Bool.true, Value.int 181 0, Value.ref 228, Value.none, Value.none, Value.none, Value.ref 229, Value.int 523 0, Value.int 105 0, Value.str (Str.ofString "/claim/cut.py") 524]) #[]
noncomputable def o231 (P : Params) : Obj := Obj.mk (Value.type "function") none (Data.func (FuncData.mk (Str.ofString "recent") (Str.ofString "LinkWatch.recent") (fA (tc 31 2)) (fB (tc 31 2)) (fS (tc 31 2)) 3 [] Value.none Value.none Value.none (Value.str (Str.ofString "switchloom.ports") 453) none (Value.ref 230) Value.none 0)) #[]
noncomputable def o232 (P : Params) : Obj := Obj.mk (Value.type "tuple") none (Data.seq #[Value.str (Str.ofString "held_until") 526, Value.str (Str.ofString "is_there") 527, Value.str (Str.ofString "ups") 528] 0) #[]
noncomputable def o233 (P : Params) : Obj := Obj.mk (Value.type "dict") none (Data.dict #[DictEntry.mk (PyData.keyHash P (Str.ofString "__module__")) (Value.str (Str.ofString "__module__") 500) (Value.str (Str.ofString "switchloom.ports") 453), DictEntry.mk (PyData.keyHash P (Str.ofString "__firstlineno__")) (Value.str (Str.ofString "__firstlineno__") 504) (Value.int 95 503), DictEntry.mk (PyData.keyHash P (Str.ofString "__init__")) (Value.str (Str.ofString "__init__") 511) (Value.ref 219), DictEntry.mk (PyData.keyHash P (Str.ofString "is_held")) (Value.str (Str.ofString "is_held") 519) (Value.ref 226), DictEntry.mk (PyData.keyHash P (Str.ofString "recent")) (Value.str (Str.ofString "recent") 525) (Value.ref 231), DictEntry.mk (PyData.keyHash P (Str.ofString "__static_attributes__")) (Value.str (Str.ofString "__static_attributes__") 529) (Value.ref 232), DictEntry.mk (PyData.keyHash P (Str.ofString "__dict__")) (Value.str (Str.ofString "__dict__") 531) (Value.ref 235), DictEntry.mk (PyData.keyHash P (Str.ofString "__weakref__")) (Value.str (Str.ofString "__weakref__") 533) (Value.ref 236), DictEntry.mk (PyData.keyHash P (Str.ofString "__doc__")) (Value.str (Str.ofString "__doc__") 534) Value.none] 4) #[]
noncomputable def o234 (P : Params) : Obj := Obj.mk (Value.type "type") none (Data.cls (ClassData.mk (Str.ofString "LinkWatch") [Value.type "object"] [Value.ref 234, Value.type "object"] 233 (Str.ofString "LinkWatch") Bool.true [] [] Bool.false none Bool.false)) #[none, none, (some (Value.str (Str.ofString "LinkWatch") 493)), (some (Value.str (Str.ofString "LinkWatch") 501)), (some (Value.builtin "object.__new__")), (some (Value.bool Bool.true))]
noncomputable def o235 (P : Params) : Obj := Obj.mk (Value.type "getset_descriptor") none (Data.fields #[Value.str (Str.ofString "__dict__") 530, Value.ref 234, Value.builtin "function.__dict__", Value.builtin "function.__dict__#set"]) #[]
noncomputable def o236 (P : Params) : Obj := Obj.mk (Value.type "getset_descriptor") none (Data.fields #[Value.str (Str.ofString "__weakref__") 532, Value.ref 234, Value.builtin "ExceptionGroup.__weakref__", Value.none]) #[]
noncomputable def o237 (P : Params) : Obj := Obj.mk (Value.type "super") none (Data.fields #[Value.ref 234, Value.ref 234, Value.ref 234]) #[]
noncomputable def o238 (P : Params) : Obj := Obj.mk (Value.type "builtin_function_or_method") none (Data.fields #[Value.builtin "object.__init_subclass__", Value.ref 234]) #[]
noncomputable def o239 (P : Params) : Obj := Obj.mk (Value.type "tuple") none (Data.seq #[] 0) #[]
noncomputable def o240 (P : Params) : Obj := Obj.mk (Value.type "builtin_function_or_method") none (Data.fields #[Value.builtin "type.__prepare__", Value.type "type"]) #[]
noncomputable def o241 (P : Params) : Obj := Obj.mk (Value.type "dict") none (Data.dict #[DictEntry.mk (PyData.keyHash P (Str.ofString "__module__")) (Value.str (Str.ofString "__module__") 544) (Value.str (Str.ofString "switchloom.ports") 453), DictEntry.mk (PyData.keyHash P (Str.ofString "__qualname__")) (Value.str (Str.ofString "__qualname__") 546) (Value.str (Str.ofString "Ports") 545), DictEntry.mk (PyData.keyHash P (Str.ofString "__firstlineno__")) (Value.str (Str.ofString "__firstlineno__") 548) (Value.int 108 547), DictEntry.mk (PyData.keyHash P (Str.ofString "__init__")) (Value.str (Str.ofString "__init__") 560) (Value.ref 253), DictEntry.mk (PyData.keyHash P (Str.ofString "add")) (Value.str (Str.ofString "add") 568) (Value.ref 260), DictEntry.mk (PyData.keyHash P (Str.ofString "port")) (Value.str (Str.ofString "port") 576) (Value.ref 267), DictEntry.mk (PyData.keyHash P (Str.ofString "numbers")) (Value.str (Str.ofString "numbers") 583) (Value.ref 274), DictEntry.mk (PyData.keyHash P (Str.ofString "turn")) (Value.str (Str.ofString "turn") 592) (Value.ref 281), DictEntry.mk (PyData.keyHash P (Str.ofString "up")) (Value.str (Str.ofString "up") 603) (Value.ref 288), DictEntry.mk (PyData.keyHash P (Str.ofString "down")) (Value.str (Str.ofString "down") 612) (Value.ref 295), DictEntry.mk (PyData.keyHash P (Str.ofString "expire")) (Value.str (Str.ofString "expire") 620) (Value.ref 302), DictEntry.mk (PyData.keyHash P (Str.ofString "changes")) (Value.str (Str.ofString "changes") 627) (Value.ref 309), DictEntry.mk (PyData.keyHash P (Str.ofString "__static_attributes__")) (Value.str (Str.ofString "__static_attributes__") 634) (Value.ref 310)] 13) #[]
noncomputable def o242 (P : Params) : Obj := Obj.mk (Value.type "tuple") none (Data.seq #[] 0) #[]
noncomputable def o243 (P : Params) : Obj := Obj.mk Value.none none (Data.fields #[Value.int 110 0, Value.int 4 0, Value.ref 252, Value.int 120 0, Value.int 4 0, Value.ref 259, Value.int 129 0, Value.int 4 0, Value.ref 266, Value.int 134 0, Value.int 4 0, Value.ref 273, Value.int 137 0, Value.int 4 0, Value.ref 280, Value.int 141 0, Value.int 4 0, Value.ref 287, Value.int 158 0, Value.int 4 0, Value.ref 294, Value.int 166 0, Value.int 4 0, Value.ref 301, Value.int 169 0, Value.int 4 0, Value.ref 308]) #[]
noncomputable def o244 (P : Params) : Obj := Obj.mk (Value.type "code") none (Data.fields #[Value.str (Str.ofString "Ports") 539, Value.str (Str.ofString "Ports") 540, Value.str (Str.ofString "/claim/cut.py") 541, Value.int 108 0, Value.int 0 0, Value.int 0 0, Value.int 0 0, Value.int 0 0, Value.ref 242, Value.bool Bool.false, Value.int 181 0, Value.ref 243, Value.none, Value.none, Value.none, Value.none, Value.int 542 0, Value.int 108 0, Value.str (Str.ofString "/claim/cut.py") 543]) #[]
noncomputable def o245 (P : Params) : Obj := Obj.mk (Value.type "frame") none Data.plain #[(some (Value.ref 244)), (some (Value.ref 3)), (some (Value.ref 241)), none, (some (Value.str (Str.ofString "switchloom.ports") 453)), none, (some (Value.ref 0))]
noncomputable def o246 (P : Params) : Obj := Obj.mk (Value.type "tuple") none (Data.seq #[Value.none, Value.int 0 549, Value.int 0 550] 0) #[]
noncomputable def o247 (P : Params) : Obj := Obj.mk (Value.type "tuple") none (Data.seq #[] 0) #[]
noncomputable def o248 (P : Params) : Obj := Obj.mk Value.none none (Data.fields #[]) #[]
noncomputable def o249 (P : Params) : Obj := Obj.mk (Value.type "tuple") none (Data.seq #[Value.str (Str.ofString "self") 554, Value.str (Str.ofString "most") 555, Value.str (Str.ofString "span") 556, Value.str (Str.ofString "hold") 557] 0) #[]
noncomputable def o250 (P : Params) : Obj := Obj.mk (Value.type "tuple") none (Data.seq #[] 0) #[]
noncomputable def o251 (P : Params) : Obj := Obj.mk Value.none none (Data.func (FuncData.mk (Str.ofString "__init__") (Str.ofString "Ports.__init__") (fA (tc 32 0)) (fB (tc 32 0)) (fS (tc 32 0)) 0 [] Value.none Value.none Value.none Value.none none Value.none Value.none 0)) #[]
noncomputable def o252 (P : Params) : Obj := Obj.mk (Value.type "code") none (Data.fields #[Value.str (Str.ofString "__init__") 551, Value.str (Str.ofString "Ports.__init__") 552, Value.str (Str.ofString "/claim/cut.py") 553, Value.int 110 0, Value.int 4 0, Value.int 0 0, Value.int 0 0, Value.int 3 0, Value.ref 247, Value.bool Bool.true, Value.int 181 0, Value.ref 248, Value.none, Value.ref 249, Value.ref 250, Value.ref 251, Value.int 558 0, Value.int 110 0, Value.str (Str.ofString "/claim/cut.py") 559]) #[]
noncomputable def o253 (P : Params) : Obj := Obj.mk (Value.type "function") none (Data.func (FuncData.mk (Str.ofString "__init__") (Str.ofString "Ports.__init__") (fA (tc 32 0)) (fB (tc 32 0)) (fS (tc 32 0)) 3 [] (Value.ref 246) Value.none Value.none (Value.str (Str.ofString "switchloom.ports") 453) none (Value.ref 252) Value.none 0)) #[]
noncomputable def o254 (P : Params) : Obj := Obj.mk (Value.type "tuple") none (Data.seq #[] 0) #[]
noncomputable def o255 (P : Params) : Obj := Obj.mk Value.none none (Data.fields #[]) #[]
noncomputable def o256 (P : Params) : Obj := Obj.mk (Value.type "tuple") none (Data.seq #[Value.str (Str.ofString "self") 564, Value.str (Str.ofString "port") 565] 0) #[]
noncomputable def o257 (P : Params) : Obj := Obj.mk (Value.type "tuple") none (Data.seq #[] 0) #[]
noncomputable def o258 (P : Params) : Obj := Obj.mk Value.none none (Data.func (FuncData.mk (Str.ofString "add") (Str.ofString "Ports.add") (fA (tc 32 1)) (fB (tc 32 1)) (fS (tc 32 1)) 0 [] Value.none Value.none Value.none Value.none none Value.none Value.none 0)) #[]
noncomputable def o259 (P : Params) : Obj := Obj.mk (Value.type "code") none (Data.fields #[Value.str (Str.ofString "add") 561, Value.str (Str.ofString "Ports.add") 562, Value.str (Str.ofString "/claim/cut.py") 563, Value.int 120 0, Value.int 2 0, Value.int 0 0, Value.int 0 0, Value.int 3 0, Value.ref 254, Value.bool Bool.true, Value.int 181 0, Value.ref 255, Value.none, Value.ref 256, Value.ref 257, Value.ref 258, Value.int 566 0, Value.int 120 0, Value.str (Str.ofString "/claim/cut.py") 567]) #[]
noncomputable def o260 (P : Params) : Obj := Obj.mk (Value.type "function") none (Data.func (FuncData.mk (Str.ofString "add") (Str.ofString "Ports.add") (fA (tc 32 1)) (fB (tc 32 1)) (fS (tc 32 1)) 3 [] Value.none Value.none Value.none (Value.str (Str.ofString "switchloom.ports") 453) none (Value.ref 259) Value.none 0)) #[]
noncomputable def o261 (P : Params) : Obj := Obj.mk (Value.type "tuple") none (Data.seq #[] 0) #[]
noncomputable def o262 (P : Params) : Obj := Obj.mk Value.none none (Data.fields #[]) #[]
noncomputable def o263 (P : Params) : Obj := Obj.mk (Value.type "tuple") none (Data.seq #[Value.str (Str.ofString "self") 572, Value.str (Str.ofString "number") 573] 0) #[]
noncomputable def o264 (P : Params) : Obj := Obj.mk (Value.type "tuple") none (Data.seq #[] 0) #[]
noncomputable def o265 (P : Params) : Obj := Obj.mk Value.none none (Data.func (FuncData.mk (Str.ofString "port") (Str.ofString "Ports.port") (fA (tc 32 2)) (fB (tc 32 2)) (fS (tc 32 2)) 0 [] Value.none Value.none Value.none Value.none none Value.none Value.none 0)) #[]
noncomputable def o266 (P : Params) : Obj := Obj.mk (Value.type "code") none (Data.fields #[Value.str (Str.ofString "port") 569, Value.str (Str.ofString "Ports.port") 570, Value.str (Str.ofString "/claim/cut.py") 571, Value.int 129 0, Value.int 2 0, Value.int 0 0, Value.int 0 0, Value.int 3 0, Value.ref 261, Value.bool Bool.true, Value.int 181 0, Value.ref 262, Value.none, Value.ref 263, Value.ref 264, Value.ref 265, Value.int 574 0, Value.int 129 0, Value.str (Str.ofString "/claim/cut.py") 575]) #[]
noncomputable def o267 (P : Params) : Obj := Obj.mk (Value.type "function") none (Data.func (FuncData.mk (Str.ofString "port") (Str.ofString "Ports.port") (fA (tc 32 2)) (fB (tc 32 2)) (fS (tc 32 2)) 3 [] Value.none Value.none Value.none (Value.str (Str.ofString "switchloom.ports") 453) none (Value.ref 266) Value.none 0)) #[]
noncomputable def o268 (P : Params) : Obj := Obj.mk (Value.type "tuple") none (Data.seq #[] 0) #[]
noncomputable def o269 (P : Params) : Obj := Obj.mk Value.none none (Data.fields #[]) #[]
noncomputable def o270 (P : Params) : Obj := Obj.mk (Value.type "tuple") none (Data.seq #[Value.str (Str.ofString "self") 580] 0) #[]
noncomputable def o271 (P : Params) : Obj := Obj.mk (Value.type "tuple") none (Data.seq #[] 0) #[]
noncomputable def o272 (P : Params) : Obj := Obj.mk Value.none none (Data.func (FuncData.mk (Str.ofString "numbers") (Str.ofString "Ports.numbers") (fA (tc 32 3)) (fB (tc 32 3)) (fS (tc 32 3)) 0 [] Value.none Value.none Value.none Value.none none Value.none Value.none 0)) #[]
noncomputable def o273 (P : Params) : Obj := Obj.mk (Value.type "code") none (Data.fields #[Value.str (Str.ofString "numbers") 577, Value.str (Str.ofString "Ports.numbers") 578, Value.str (Str.ofString "/claim/cut.py") 579, Value.int 134 0, Value.int 1 0, Value.int 0 0, Value.int 0 0, Value.int 3 0, Value.ref 268, Value.bool Bool.true, Value.int 181 0, Value.ref 269, Value.none, Value.ref 270, Value.ref 271, Value.ref 272, Value.int 581 0, Value.int 134 0, Value.str (Str.ofString "/claim/cut.py") 582]) #[]
noncomputable def o274 (P : Params) : Obj := Obj.mk (Value.type "function") none (Data.func (FuncData.mk (Str.ofString "numbers") (Str.ofString "Ports.numbers") (fA (tc 32 3)) (fB (tc 32 3)) (fS (tc 32 3)) 3 [] Value.none Value.none Value.none (Value.str (Str.ofString "switchloom.ports") 453) none (Value.ref 273) Value.none 0)) #[]
noncomputable def o275 (P : Params) : Obj := Obj.mk (Value.type "tuple") none (Data.seq #[] 0) #[]
noncomputable def o276 (P : Params) : Obj := Obj.mk Value.none none (Data.fields #[]) #[]
noncomputable def o277 (P : Params) : Obj := Obj.mk (Value.type "tuple") none (Data.seq #[Value.str (Str.ofString "self") 587, Value.str (Str.ofString "number") 588, Value.str (Str.ofString "is_up") 589] 0) #[]
noncomputable def o278 (P : Params) : Obj := Obj.mk (Value.type "tuple") none (Data.seq #[] 0) #[]
noncomputable def o279 (P : Params) : Obj := Obj.mk Value.none none (Data.func (FuncData.mk (Str.ofString "turn") (Str.ofString "Ports.turn") (fA (tc 32 4)) (fB (tc 32 4)) (fS (tc 32 4)) 0 [] Value.none Value.none Value.none Value.none none Value.none Value.none 0)) #[]
noncomputable def o280 (P : Params) : Obj := Obj.mk (Value.type "code") none (Data.fields #[Value.str (Str.ofString "turn") 584, Value.str (Str.ofString "Ports.turn") 585, Value.str (Str.ofString "/claim/cut.py") 586, Value.int 137 0, Value.int 3 0, Value.int 0 0, Value.int 0 0, Value.int 3 0, Value.ref 275, Value.bool Bool.true, Value.int 181 0, Value.ref 276, Value.none, Value.ref 277, Value.ref 278, Value.ref 279, Value.int 590 0, Value.int 137 0, Value.str (Str.ofString "/claim/cut.py") 591]) #[]
noncomputable def o281 (P : Params) : Obj := Obj.mk (Value.type "function") none (Data.func (FuncData.mk (Str.ofString "turn") (Str.ofString "Ports.turn") (fA (tc 32 4)) (fB (tc 32 4)) (fS (tc 32 4)) 3 [] Value.none Value.none Value.none (Value.str (Str.ofString "switchloom.ports") 453) none (Value.ref 280) Value.none 0)) #[]
noncomputable def o282 (P : Params) : Obj := Obj.mk (Value.type "tuple") none (Data.seq #[] 0) #[]
noncomputable def o283 (P : Params) : Obj := Obj.mk Value.none none (Data.fields #[]) #[]
noncomputable def o284 (P : Params) : Obj := Obj.mk (Value.type "tuple") none (Data.seq #[Value.str (Str.ofString "self") 596, Value.str (Str.ofString "number") 597, Value.str (Str.ofString "now") 598, Value.str (Str.ofString "port") 599, Value.str (Str.ofString "watch") 600] 0) #[]
noncomputable def o285 (P : Params) : Obj := Obj.mk (Value.type "tuple") none (Data.seq #[] 0) #[]
noncomputable def o286 (P : Params) : Obj := Obj.mk Value.none none (Data.func (FuncData.mk (Str.ofString "up") (Str.ofString "Ports.up") (fA (tc 32 5)) (fB (tc 32 5)) (fS (tc 32 5)) 0 [] Value.none Value.none Value.none Value.none none Value.none Value.none 0)) #[]
noncomputable def o287 (P : Params) : Obj := Obj.mk (Value.type "code") none (Data.fields #[Value.str (Str.ofString "up") 593, Value.str (Str.ofString "Ports.up") 594, Value.str (Str.ofString "/claim/cut.py") 595, Value.int 141 0, Value.int 3 0, Value.int 0 0, Value.int 0 0, Value.int 3 0, Value.ref 282, Value.bool Bool.true, Value.int 181 0, Value.ref 283, Value.none, Value.ref 284, Value.ref 285, Value.ref 286, Value.int 601 0, Value.int 141 0, Value.str (Str.ofString "/claim/cut.py") 602]) #[]
noncomputable def o288 (P : Params) : Obj := Obj.mk (Value.type "function") none (Data.func (FuncData.mk (Str.ofString "up") (Str.ofString "Ports.up") (fA (tc 32 5)) (fB (tc 32 5)) (fS (tc 32 5)) 3 [] Value.none Value.none Value.none (Value.str (Str.ofString "switchloom.ports") 453) none (Value.ref 287) Value.none 0)) #[]
noncomputable def o289 (P : Params) : Obj := Obj.mk (Value.type "tuple") none (Data.seq #[] 0) #[]
noncomputable def o290 (P : Params) : Obj := Obj.mk Value.none none (Data.fields #[]) #[]
noncomputable def o291 (P : Params) : Obj := Obj.mk (Value.type "tuple") none (Data.seq #[Value.str (Str.ofString "self") 607, Value.str (Str.ofString "number") 608, Value.str (Str.ofString "port") 609] 0) #[]
noncomputable def o292 (P : Params) : Obj := Obj.mk (Value.type "tuple") none (Data.seq #[] 0) #[]
noncomputable def o293 (P : Params) : Obj := Obj.mk Value.none none (Data.func (FuncData.mk (Str.ofString "down") (Str.ofString "Ports.down") (fA (tc 32 6)) (fB (tc 32 6)) (fS (tc 32 6)) 0 [] Value.none Value.none Value.none Value.none none Value.none Value.none 0)) #[]
noncomputable def o294 (P : Params) : Obj := Obj.mk (Value.type "code") none (Data.fields #[Value.str (Str.ofString "down") 604, Value.str (Str.ofString "Ports.down") 605, Value.str (Str.ofString "/claim/cut.py") 606, Value.int 158 0, Value.int 2 0, Value.int 0 0, Value.int 0 0, Value.int 3 0, Value.ref 289, Value.bool Bool.true, Value.int 181 0, Value.ref 290, Value.none, Value.ref 291, Value.ref 292, Value.ref 293, Value.int 610 0, Value.int 158 0, Value.str (Str.ofString "/claim/cut.py") 611]) #[]
noncomputable def o295 (P : Params) : Obj := Obj.mk (Value.type "function") none (Data.func (FuncData.mk (Str.ofString "down") (Str.ofString "Ports.down") (fA (tc 32 6)) (fB (tc 32 6)) (fS (tc 32 6)) 3 [] Value.none Value.none Value.none (Value.str (Str.ofString "switchloom.ports") 453) none (Value.ref 294) Value.none 0)) #[]
noncomputable def o296 (P : Params) : Obj := Obj.mk (Value.type "tuple") none (Data.seq #[] 0) #[]
noncomputable def o297 (P : Params) : Obj := Obj.mk Value.none none (Data.fields #[]) #[]
noncomputable def o298 (P : Params) : Obj := Obj.mk (Value.type "tuple") none (Data.seq #[Value.str (Str.ofString "self") 616, Value.str (Str.ofString "now") 617] 0) #[]
noncomputable def o299 (P : Params) : Obj := Obj.mk (Value.type "tuple") none (Data.seq #[] 0) #[]
noncomputable def o300 (P : Params) : Obj := Obj.mk Value.none none (Data.func (FuncData.mk (Str.ofString "expire") (Str.ofString "Ports.expire") (fA (tc 32 7)) (fB (tc 32 7)) (fS (tc 32 7)) 0 [] Value.none Value.none Value.none Value.none none Value.none Value.none 0)) #[]
noncomputable def o301 (P : Params) : Obj := Obj.mk (Value.type "code") none (Data.fields #[Value.str (Str.ofString "expire") 613, Value.str (Str.ofString "Ports.expire") 614, Value.str (Str.ofString "/claim/cut.py") 615, Value.int 166 0, Value.int 2 0, Value.int 0 0, Value.int 0 0, Value.int 3 0, Value.ref 296, Value.bool Bool.true, Value.int 181 0, Value.ref 297, Value.none, Value.ref 298, Value.ref 299, Value.ref 300, Value.int 618 0, Value.int 166 0, Value.str (Str.ofString "/claim/cut.py") 619]) #[]
noncomputable def o302 (P : Params) : Obj := Obj.mk (Value.type "function") none (Data.func (FuncData.mk (Str.ofString "expire") (Str.ofString "Ports.expire") (fA (tc 32 7)) (fB (tc 32 7)) (fS (tc 32 7)) 3 [] Value.none Value.none Value.none (Value.str (Str.ofString "switchloom.ports") 453) none (Value.ref 301) Value.none 0)) #[]
noncomputable def o303 (P : Params) : Obj := Obj.mk (Value.type "tuple") none (Data.seq #[] 0) #[]
noncomputable def o304 (P : Params) : Obj := Obj.mk Value.none none (Data.fields #[]) #[]
noncomputable def o305 (P : Params) : Obj := Obj.mk (Value.type "tuple") none (Data.seq #[Value.str (Str.ofString "self") 624] 0) #[]
noncomputable def o306 (P : Params) : Obj := Obj.mk (Value.type "tuple") none (Data.seq #[] 0) #[]
noncomputable def o307 (P : Params) : Obj := Obj.mk Value.none none (Data.func (FuncData.mk (Str.ofString "changes") (Str.ofString "Ports.changes") (fA (tc 32 8)) (fB (tc 32 8)) (fS (tc 32 8)) 0 [] Value.none Value.none Value.none Value.none none Value.none Value.none 0)) #[]
noncomputable def o308 (P : Params) : Obj := Obj.mk (Value.type "code") none (Data.fields #[Value.str (Str.ofString "changes") 621, Value.str (Str.ofString "Ports.changes") 622, Value.str (Str.ofString "/claim/cut.py") 623, Value.int 169 0, Value.int 1 0, Value.int 0 0, Value.int 0 0, Value.int 3 0, Value.ref 303, Value.bool Bool.true, Value.int 181 0, Value.ref 304, Value.none, Value.ref 305, Value.ref 306, Value.ref 307, Value.int 625 0, Value.int 169 0, Value.str (Str.ofString "/claim/cut.py") 626]) #[]
noncomputable def o309 (P : Params) : Obj := Obj.mk (Value.type "function") none (Data.func (FuncData.mk (Str.ofString "changes") (Str.ofString "Ports.changes") (fA (tc 32 8)) (fB (tc 32 8)) (fS (tc 32 8)) 3 [] Value.none Value.none Value.none (Value.str (Str.ofString "switchloom.ports") 453) none (Value.ref 308) Value.none 0)) #[]
noncomputable def o310 (P : Params) : Obj := Obj.mk (Value.type "tuple") none (Data.seq #[Value.str (Str.ofString "changed") 628, Value.str (Str.ofString "hold") 629, Value.str (Str.ofString "most") 630, Value.str (Str.ofString "rows") 631, Value.str (Str.ofString "span") 632, Value.str (Str.ofString "watches") 633] 0) #[]
noncomputable def o311 (P : Params) : Obj := Obj.mk (Value.type "dict") none (Data.dict #[DictEntry.mk (PyData.keyHash P (Str.ofString "__module__")) (Value.str (Str.ofString "__module__") 544) (Value.str (Str.ofString "switchloom.ports") 453), DictEntry.mk (PyData.keyHash P (Str.ofString "__firstlineno__")) (Value.str (Str.ofString "__firstlineno__") 548) (Value.int 108 547), DictEntry.mk (PyData.keyHash P (Str.ofString "__init__")) (Value.str (Str.ofString "__init__") 560) (Value.ref 253), DictEntry.mk (PyData.keyHash P (Str.ofString "add")) (Value.str (Str.ofString "add") 568) (Value.ref 260), DictEntry.mk (PyData.keyHash P (Str.ofString "port")) (Value.str (Str.ofString "port") 576) (Value.ref 267), DictEntry.mk (PyData.keyHash P (Str.ofString "numbers")) (Value.str (Str.ofString "numbers") 583) (Value.ref 274), DictEntry.mk (PyData.keyHash P (Str.ofString "turn")) (Value.str (Str.ofString "turn") 592) (Value.ref 281), DictEntry.mk (PyData.keyHash P (Str.ofString "up")) (Value.str (Str.ofString "up") 603) (Value.ref 288), DictEntry.mk (PyData.keyHash P (Str.ofString "down")) (Value.str (Str.ofString "down") 612) (Value.ref 295), DictEntry.mk (PyData.keyHash P (Str.ofString "expire")) (Value.str (Str.ofString "expire") 620) (Value.ref 302), DictEntry.mk (PyData.keyHash P (Str.ofString "changes")) (Value.str (Str.ofString "changes") 627) (Value.ref 309), DictEntry.mk (PyData.keyHash P (Str.ofString "__static_attributes__")) (Value.str (Str.ofString "__static_attributes__") 634) (Value.ref 310), DictEntry.mk (PyData.keyHash P (Str.ofString "__dict__")) (Value.str (Str.ofString "__dict__") 636) (Value.ref 313), DictEntry.mk (PyData.keyHash P (Str.ofString "__weakref__")) (Value.str (Str.ofString "__weakref__") 638) (Value.ref 314), DictEntry.mk (PyData.keyHash P (Str.ofString "__doc__")) (Value.str (Str.ofString "__doc__") 639) Value.none] 4) #[]
noncomputable def o312 (P : Params) : Obj := Obj.mk (Value.type "type") none (Data.cls (ClassData.mk (Str.ofString "Ports") [Value.type "object"] [Value.ref 312, Value.type "object"] 311 (Str.ofString "Ports") Bool.true [] [] Bool.false none Bool.false)) #[none, none, (some (Value.str (Str.ofString "Ports") 537)), (some (Value.str (Str.ofString "Ports") 545)), (some (Value.builtin "object.__new__")), (some (Value.bool Bool.true))]
noncomputable def o313 (P : Params) : Obj := Obj.mk (Value.type "getset_descriptor") none (Data.fields #[Value.str (Str.ofString "__dict__") 635, Value.ref 312, Value.builtin "function.__dict__", Value.builtin "function.__dict__#set"]) #[]
noncomputable def o314 (P : Params) : Obj := Obj.mk (Value.type "getset_descriptor") none (Data.fields #[Value.str (Str.ofString "__weakref__") 637, Value.ref 312, Value.builtin "ExceptionGroup.__weakref__", Value.none]) #[]
noncomputable def o315 (P : Params) : Obj := Obj.mk (Value.type "super") none (Data.fields #[Value.ref 312, Value.ref 312, Value.ref 312]) #[]
noncomputable def o316 (P : Params) : Obj := Obj.mk (Value.type "builtin_function_or_method") none (Data.fields #[Value.builtin "object.__init_subclass__", Value.ref 312]) #[]
noncomputable def o317 (P : Params) : Obj := Obj.mk (Value.type "tuple") none (Data.seq #[] 0) #[]
noncomputable def o318 (P : Params) : Obj := Obj.mk (Value.type "builtin_function_or_method") none (Data.fields #[Value.builtin "type.__prepare__", Value.type "type"]) #[]
noncomputable def o319 (P : Params) : Obj := Obj.mk (Value.type "dict") none (Data.dict #[DictEntry.mk (PyData.keyHash P (Str.ofString "__module__")) (Value.str (Str.ofString "__module__") 651) (Value.str (Str.ofString "switchloom.queues") 642), DictEntry.mk (PyData.keyHash P (Str.ofString "__qualname__")) (Value.str (Str.ofString "__qualname__") 653) (Value.str (Str.ofString "QueueRow") 652), DictEntry.mk (PyData.keyHash P (Str.ofString "__firstlineno__")) (Value.str (Str.ofString "__firstlineno__") 655) (Value.int 172 654), DictEntry.mk (PyData.keyHash P (Str.ofString "__init__")) (Value.str (Str.ofString "__init__") 664) (Value.ref 330), DictEntry.mk (PyData.keyHash P (Str.ofString "put")) (Value.str (Str.ofString "put") 673) (Value.ref 337), DictEntry.mk (PyData.keyHash P (Str.ofString "is_empty")) (Value.str (Str.ofString "is_empty") 680) (Value.ref 344), DictEntry.mk (PyData.keyHash P (Str.ofString "head_size")) (Value.str (Str.ofString "head_size") 687) (Value.ref 351), DictEntry.mk (PyData.keyHash P (Str.ofString "take")) (Value.str (Str.ofString "take") 695) (Value.ref 358), DictEntry.mk (PyData.keyHash P (Str.ofString "__static_attributes__")) (Value.str (Str.ofString "__static_attributes__") 701) (Value.ref 359)] 9) #[]
noncomputable def o320 (P : Params) : Obj := Obj.mk (Value.type "tuple") none (Data.seq #[] 0) #[]
noncomputable def o321 (P : Params) : Obj := Obj.mk Value.none none (Data.fields #[Value.int 174 0, Value.int 4 0, Value.ref 329, Value.int 183 0, Value.int 4 0, Value.ref 336, Value.int 191 0, Value.int 4 0, Value.ref 343, Value.int 194 0, Value.int 4 0, Value.ref 350, Value.int 197 0, Value.int 4 0, Value.ref 357]) #[]
noncomputable def o322 (P : Params) : Obj := Obj.mk (Value.type "code") none (Data.fields #[Value.str (Str.ofString "QueueRow") 646, Value.str (Str.ofString "QueueRow") 647, Value.str (Str.ofString "/claim/cut.py") 648, Value.int 172 0, Value.int 0 0, Value.int 0 0, Value.int 0 0, Value.int 0 0, Value.ref 320, Value.bool Bool.false, Value.int 181 0, Value.ref 321, Value.none, Value.none, Value.none, Value.none, Value.int 649 0, Value.int 172 0, Value.str (Str.ofString "/claim/cut.py") 650]) #[]
noncomputable def o323 (P : Params) : Obj := Obj.mk (Value.type "frame") none Data.plain #[(some (Value.ref 322)), (some (Value.ref 3)), (some (Value.ref 319)), none, (some (Value.str (Str.ofString "switchloom.queues") 642)), none, (some (Value.ref 0))]
noncomputable def o324 (P : Params) : Obj := Obj.mk (Value.type "tuple") none (Data.seq #[] 0) #[]
noncomputable def o325 (P : Params) : Obj := Obj.mk Value.none none (Data.fields #[]) #[]
noncomputable def o326 (P : Params) : Obj := Obj.mk (Value.type "tuple") none (Data.seq #[Value.str (Str.ofString "self") 659, Value.str (Str.ofString "most") 660, Value.str (Str.ofString "most_octets") 661] 0) #[]
noncomputable def o327 (P : Params) : Obj := Obj.mk (Value.type "tuple") none (Data.seq #[] 0) #[]
noncomputable def o328 (P : Params) : Obj := Obj.mk Value.none none (Data.func (FuncData.mk (Str.ofString "__init__") (Str.ofString "QueueRow.__init__") (fA (tc 34 0)) (fB (tc 34 0)) (fS (tc 34 0)) 0 [] Value.none Value.none Value.none Value.none none Value.none Value.none 0)) #[]
noncomputable def o329 (P : Params) : Obj := Obj.mk (Value.type "code") none (Data.fields #[Value.str (Str.ofString "__init__") 656, Value.str (Str.ofString "QueueRow.__init__") 657, Value.str (Str.ofString "/claim/cut.py") 658, Value.int 174 0, Value.int 3 0, Value.int 0 0, Value.int 0 0, Value.int 3 0, Value.ref 324, Value.bool Bool.true, Value.int 181 0, Value.ref 325, Value.none, Value.ref 326, Value.ref 327, Value.ref 328, Value.int 662 0, Value.int 174 0, Value.str (Str.ofString "/claim/cut.py") 663]) #[]
noncomputable def o330 (P : Params) : Obj := Obj.mk (Value.type "function") none (Data.func (FuncData.mk (Str.ofString "__init__") (Str.ofString "QueueRow.__init__") (fA (tc 34 0)) (fB (tc 34 0)) (fS (tc 34 0)) 3 [] Value.none Value.none Value.none (Value.str (Str.ofString "switchloom.queues") 642) none (Value.ref 329) Value.none 0)) #[]
noncomputable def o331 (P : Params) : Obj := Obj.mk (Value.type "tuple") none (Data.seq #[] 0) #[]
noncomputable def o332 (P : Params) : Obj := Obj.mk Value.none none (Data.fields #[]) #[]
noncomputable def o333 (P : Params) : Obj := Obj.mk (Value.type "tuple") none (Data.seq #[Value.str (Str.ofString "self") 668, Value.str (Str.ofString "size") 669, Value.str (Str.ofString "thing") 670] 0) #[]
noncomputable def o334 (P : Params) : Obj := Obj.mk (Value.type "tuple") none (Data.seq #[] 0) #[]
noncomputable def o335 (P : Params) : Obj := Obj.mk Value.none none (Data.func (FuncData.mk (Str.ofString "put") (Str.ofString "QueueRow.put") (fA (tc 34 1)) (fB (tc 34 1)) (fS (tc 34 1)) 0 [] Value.none Value.none Value.none Value.none none Value.none Value.none 0)) #[]
noncomputable def o336 (P : Params) : Obj := Obj.mk (Value.type "code") none (Data.fields #[Value.str (Str.ofString "put") 665, Value.str (Str.ofString "QueueRow.put") 666, Value.str (Str.ofString "/claim/cut.py") 667, Value.int 183 0, Value.int 3 0, Value.int 0 0, Value.int 0 0, Value.int 3 0, Value.ref 331, Value.bool Bool.true, Value.int 181 0, Value.ref 332, Value.none, Value.ref 333, Value.ref 334, Value.ref 335, Value.int 671 0, Value.int 183 0, Value.str (Str.ofString "/claim/cut.py") 672]) #[]
noncomputable def o337 (P : Params) : Obj := Obj.mk (Value.type "function") none (Data.func (FuncData.mk (Str.ofString "put") (Str.ofString "QueueRow.put") (fA (tc 34 1)) (fB (tc 34 1)) (fS (tc 34 1)) 3 [] Value.none Value.none Value.none (Value.str (Str.ofString "switchloom.queues") 642) none (Value.ref 336) Value.none 0)) #[]
noncomputable def o338 (P : Params) : Obj := Obj.mk (Value.type "tuple") none (Data.seq #[] 0) #[]
noncomputable def o339 (P : Params) : Obj := Obj.mk Value.none none (Data.fields #[]) #[]
noncomputable def o340 (P : Params) : Obj := Obj.mk (Value.type "tuple") none (Data.seq #[Value.str (Str.ofString "self") 677] 0) #[]
noncomputable def o341 (P : Params) : Obj := Obj.mk (Value.type "tuple") none (Data.seq #[] 0) #[]
noncomputable def o342 (P : Params) : Obj := Obj.mk Value.none none (Data.func (FuncData.mk (Str.ofString "is_empty") (Str.ofString "QueueRow.is_empty") (fA (tc 34 2)) (fB (tc 34 2)) (fS (tc 21 1)) 0 [] Value.none Value.none Value.none Value.none none Value.none Value.none 0)) #[]
noncomputable def o343 (P : Params) : Obj := Obj.mk (Value.type "code") none (Data.fields #[Value.str (Str.ofString "is_empty") 674, Value.str (Str.ofString "QueueRow.is_empty") 675, Value.str (Str.ofString "/claim/cut.py") 676, Value.int 191 0, Value.int 1 0, Value.int 0 0, Value.int 0 0, Value.int 3 0, Value.ref 338, Value.bool Bool.true, Value.int 181 0, Value.ref 339, Value.none, Value.ref 340, Value.ref 341, Value.ref 342, Value.int 678 0, Value.int 191 0, Value.str (Str.ofString "/claim/cut.py") 679]) #[]
noncomputable def o344 (P : Params) : Obj := Obj.mk (Value.type "function") none (Data.func (FuncData.mk (Str.ofString "is_empty") (Str.ofString "QueueRow.is_empty") (fA (tc 34 2)) (fB (tc 34 2)) (fS (tc 21 1)) 3 [] Value.none Value.none Value.none (Value.str (Str.ofString "switchloom.queues") 642) none (Value.ref 343) Value.none 0)) #[]
noncomputable def o345 (P : Params) : Obj := Obj.mk (Value.type "tuple") none (Data.seq #[] 0) #[]
noncomputable def o346 (P : Params) : Obj := Obj.mk Value.none none (Data.fields #[]) #[]
noncomputable def o347 (P : Params) : Obj := Obj.mk (Value.type "tuple") none (Data.seq #[Value.str (Str.ofString "self") 684] 0) #[]
noncomputable def o348 (P : Params) : Obj := Obj.mk (Value.type "tuple") none (Data.seq #[] 0) #[]
noncomputable def o349 (P : Params) : Obj := Obj.mk Value.none none (Data.func (FuncData.mk (Str.ofString "head_size") (Str.ofString "QueueRow.head_size") (fA (tc 34 3)) (fB (tc 34 3)) (fS (tc 21 1)) 0 [] Value.none Value.none Value.none Value.none none Value.none Value.none 0)) #[]
noncomputable def o350 (P : Params) : Obj := Obj.mk (Value.type "code") none (Data.fields #[Value.str (Str.ofString "head_size") 681, Value.str (Str.ofString "QueueRow.head_size") 682, Value.str (Str.ofString "/claim/cut.py") 683, Value.int 194 0, Value.int 1 0, Value.int 0 0, Value.int 0 0, Value.int 3 0, Value.ref 345, Value.bool Bool.true, Value.int 181 0, Value.ref 346, Value.none, Value.ref 347, Value.ref 348, Value.ref 349, Value.int 685 0, Value.int 194 0, Value.str (Str.ofString "/claim/cut.py") 686]) #[]
noncomputable def o351 (P : Params) : Obj := Obj.mk (Value.type "function") none (Data.func (FuncData.mk (Str.ofString "head_size") (Str.ofString "QueueRow.head_size") (fA (tc 34 3)) (fB (tc 34 3)) (fS (tc 21 1)) 3 [] Value.none Value.none Value.none (Value.str (Str.ofString "switchloom.queues") 642) none (Value.ref 350) Value.none 0)) #[]
noncomputable def o352 (P : Params) : Obj := Obj.mk (Value.type "tuple") none (Data.seq #[] 0) #[]
noncomputable def o353 (P : Params) : Obj := Obj.mk Value.none none (Data.fields #[]) #[]
noncomputable def o354 (P : Params) : Obj := Obj.mk (Value.type "tuple") none (Data.seq #[Value.str (Str.ofString "self") 691, Value.str (Str.ofString "found") 692] 0) #[]
noncomputable def o355 (P : Params) : Obj := Obj.mk (Value.type "tuple") none (Data.seq #[] 0) #[]
noncomputable def o356 (P : Params) : Obj := Obj.mk Value.none none (Data.func (FuncData.mk (Str.ofString "take") (Str.ofString "QueueRow.take") (fA (tc 34 4)) (fB (tc 34 4)) (fS (tc 34 4)) 0 [] Value.none Value.none Value.none Value.none none Value.none Value.none 0)) #[]
noncomputable def o357 (P : Params) : Obj := Obj.mk (Value.type "code") none (Data.fields #[Value.str (Str.ofString "take") 688, Value.str (Str.ofString "QueueRow.take") 689, Value.str (Str.ofString "/claim/cut.py") 690, Value.int 197 0, Value.int 1 0, Value.int 0 0, Value.int 0 0, Value.int 3 0, Value.ref 352, Value.bool Bool.true, Value.int 181 0, Value.ref 353, Value.none, Value.ref 354, Value.ref 355, Value.ref 356, Value.int 693 0, Value.int 197 0, Value.str (Str.ofString "/claim/cut.py") 694]) #[]
noncomputable def o358 (P : Params) : Obj := Obj.mk (Value.type "function") none (Data.func (FuncData.mk (Str.ofString "take") (Str.ofString "QueueRow.take") (fA (tc 34 4)) (fB (tc 34 4)) (fS (tc 34 4)) 3 [] Value.none Value.none Value.none (Value.str (Str.ofString "switchloom.queues") 642) none (Value.ref 357) Value.none 0)) #[]
noncomputable def o359 (P : Params) : Obj := Obj.mk (Value.type "tuple") none (Data.seq #[Value.str (Str.ofString "dropped") 696, Value.str (Str.ofString "most") 697, Value.str (Str.ofString "most_octets") 698, Value.str (Str.ofString "octets") 699, Value.str (Str.ofString "things") 700] 0) #[]
noncomputable def o360 (P : Params) : Obj := Obj.mk (Value.type "dict") none (Data.dict #[DictEntry.mk (PyData.keyHash P (Str.ofString "__module__")) (Value.str (Str.ofString "__module__") 651) (Value.str (Str.ofString "switchloom.queues") 642), DictEntry.mk (PyData.keyHash P (Str.ofString "__firstlineno__")) (Value.str (Str.ofString "__firstlineno__") 655) (Value.int 172 654), DictEntry.mk (PyData.keyHash P (Str.ofString "__init__")) (Value.str (Str.ofString "__init__") 664) (Value.ref 330), DictEntry.mk (PyData.keyHash P (Str.ofString "put")) (Value.str (Str.ofString "put") 673) (Value.ref 337), DictEntry.mk (PyData.keyHash P (Str.ofString "is_empty")) (Value.str (Str.ofString "is_empty") 680) (Value.ref 344), DictEntry.mk (PyData.keyHash P (Str.ofString "head_size")) (Value.str (Str.ofString "head_size") 687) (Value.ref 351), DictEntry.mk (PyData.keyHash P (Str.ofString "take")) (Value.str (Str.ofString "take") 695) (Value.ref 358), DictEntry.mk (PyData.keyHash P (Str.ofString "__static_attributes__")) (Value.str (Str.ofString "__static_attributes__") 701) (Value.ref 359), DictEntry.mk (PyData.keyHash P (Str.ofString "__dict__")) (Value.str (Str.ofString "__dict__") 703) (Value.ref 362), DictEntry.mk (PyData.keyHash P (Str.ofString "__weakref__")) (Value.str (Str.ofString "__weakref__") 705) (Value.ref 363), DictEntry.mk (PyData.keyHash P (Str.ofString "__doc__")) (Value.str (Str.ofString "__doc__") 706) Value.none] 4) #[]
noncomputable def o361 (P : Params) : Obj := Obj.mk (Value.type "type") none (Data.cls (ClassData.mk (Str.ofString "QueueRow") [Value.type "object"] [Value.ref 361, Value.type "object"] 360 (Str.ofString "QueueRow") Bool.true [] [] Bool.false none Bool.false)) #[none, none, (some (Value.str (Str.ofString "QueueRow") 644)), (some (Value.str (Str.ofString "QueueRow") 652)), (some (Value.builtin "object.__new__")), (some (Value.bool Bool.true))]
noncomputable def o362 (P : Params) : Obj := Obj.mk (Value.type "getset_descriptor") none (Data.fields #[Value.str (Str.ofString "__dict__") 702, Value.ref 361, Value.builtin "function.__dict__", Value.builtin "function.__dict__#set"]) #[]
noncomputable def o363 (P : Params) : Obj := Obj.mk (Value.type "getset_descriptor") none (Data.fields #[Value.str (Str.ofString "__weakref__") 704, Value.ref 361, Value.builtin "ExceptionGroup.__weakref__", Value.none]) #[]
noncomputable def o364 (P : Params) : Obj := Obj.mk (Value.type "super") none (Data.fields #[Value.ref 361, Value.ref 361, Value.ref 361]) #[]
noncomputable def o365 (P : Params) : Obj := Obj.mk (Value.type "builtin_function_or_method") none (Data.fields #[Value.builtin "object.__init_subclass__", Value.ref 361]) #[]
noncomputable def o366 (P : Params) : Obj := Obj.mk (Value.type "tuple") none (Data.seq #[] 0) #[]
noncomputable def o367 (P : Params) : Obj := Obj.mk Value.none none (Data.fields #[]) #[]
noncomputable def o368 (P : Params) : Obj := Obj.mk (Value.type "tuple") none (Data.seq #[Value.str (Str.ofString "rows") 712, Value.str (Str.ofString "number") 713, Value.str (Str.ofString "allowed") 714] 0) #[]
noncomputable def o369 (P : Params) : Obj := Obj.mk (Value.type "tuple") none (Data.seq #[] 0) #[]
noncomputable def o370 (P : Params) : Obj := Obj.mk Value.none none (Data.func (FuncData.mk (Str.ofString "may_go") (Str.ofString "may_go") (fA (tp 35)) (fB (tp 35)) (fS (tp 35)) 0 [] Value.none Value.none Value.none Value.none none Value.none Value.none 0)) #[]
noncomputable def o371 (P : Params) : Obj := Obj.mk (Value.type "code") none (Data.fields #[Value.str (Str.ofString "may_go") 709, Value.str (Str.ofString "may_go") 710, Value.str (Str.ofString "/claim/cut.py") 711, Value.int 201 0, Value.int 3 0, Value.int 0 0, Value.int 0 0, Value.int 3 0, Value.ref 366, Value.bool Bool.true, Value.int 181 0, Value.ref 367, Value.none, Value.ref 368, Value.ref 369, Value.ref 370, Value.int 715 0, Value.int 201 0, Value.str (Str.ofString "/claim/cut.py") 716]) #[]
noncomputable def o372 (P : Params) : Obj := Obj.mk (Value.type "function") none (Data.func (FuncData.mk (Str.ofString "may_go") (Str.ofString "may_go") (fA (tp 35)) (fB (tp 35)) (fS (tp 35)) 3 [] Value.none Value.none Value.none (Value.str (Str.ofString "switchloom.queues") 642) none (Value.ref 371) Value.none 0)) #[]
noncomputable def o373 (P : Params) : Obj := Obj.mk (Value.type "tuple") none (Data.seq #[] 0) #[]
noncomputable def o374 (P : Params) : Obj := Obj.mk Value.none none (Data.fields #[]) #[]
noncomputable def o375 (P : Params) : Obj := Obj.mk (Value.type "tuple") none (Data.seq #[Value.str (Str.ofString "script") 723, Value.str (Str.ofString "told") 724, Value.str (Str.ofString "far") 725] 0) #[]
noncomputable def o376 (P : Params) : Obj := Obj.mk (Value.type "tuple") none (Data.seq #[] 0) #[]
noncomputable def o377 (P : Params) : Obj := Obj.mk Value.none none (Data.func (FuncData.mk (Str.ofString "_law_reel") (Str.ofString "_law_reel") (fA (tp 37)) (fB (tp 37)) (fS (tp 37)) 0 [] Value.none Value.none Value.none Value.none none Value.none Value.none 0)) #[]
noncomputable def o378 (P : Params) : Obj := Obj.mk (Value.type "code") none (Data.fields #[Value.str (Str.ofString "_law_reel") 720, Value.str (Str.ofString "_law_reel") 721, Value.str (Str.ofString "/claim/cut.py") 722, Value.int 204 0, Value.int 1 0, Value.int 0 0, Value.int 0 0, Value.int 3 0, Value.ref 373, Value.bool Bool.true, Value.int 181 0, Value.ref 374, Value.none, Value.ref 375, Value.ref 376, Value.ref 377, Value.int 726 0, Value.int 204 0, Value.str (Str.ofString "/claim/cut.py") 727]) #[]
noncomputable def o379 (P : Params) : Obj := Obj.mk (Value.type "function") none (Data.func (FuncData.mk (Str.ofString "_law_reel") (Str.ofString "_law_reel") (fA (tp 37)) (fB (tp 37)) (fS (tp 37)) 3 [] Value.none Value.none Value.none (Value.str (Str.ofString "law_xm0985_01") 718) none (Value.ref 378) Value.none 0)) #[]
noncomputable def o380 (P : Params) : Obj := Obj.mk (Value.type "tuple") none (Data.seq #[] 0) #[]
noncomputable def o381 (P : Params) : Obj := Obj.mk Value.none none (Data.fields #[]) #[]
noncomputable def o382 (P : Params) : Obj := Obj.mk (Value.type "tuple") none (Data.seq #[Value.str (Str.ofString "reel") 732, Value.str (Str.ofString "top") 733, Value.str (Str.ofString "drawn") 734] 0) #[]
noncomputable def o383 (P : Params) : Obj := Obj.mk (Value.type "tuple") none (Data.seq #[] 0) #[]
noncomputable def o384 (P : Params) : Obj := Obj.mk Value.none none (Data.func (FuncData.mk (Str.ofString "_law_wind") (Str.ofString "_law_wind") (fA (tp 38)) (fB (tp 38)) (fS (tp 38)) 0 [] Value.none Value.none Value.none Value.none none Value.none Value.none 0)) #[]
noncomputable def o385 (P : Params) : Obj := Obj.mk (Value.type "code") none (Data.fields #[Value.str (Str.ofString "_law_wind") 729, Value.str (Str.ofString "_law_wind") 730, Value.str (Str.ofString "/claim/cut.py") 731, Value.int 208 0, Value.int 2 0, Value.int 0 0, Value.int 0 0, Value.int 3 0, Value.ref 380, Value.bool Bool.true, Value.int 181 0, Value.ref 381, Value.none, Value.ref 382, Value.ref 383, Value.ref 384, Value.int 735 0, Value.int 208 0, Value.str (Str.ofString "/claim/cut.py") 736]) #[]
noncomputable def o386 (P : Params) : Obj := Obj.mk (Value.type "function") none (Data.func (FuncData.mk (Str.ofString "_law_wind") (Str.ofString "_law_wind") (fA (tp 38)) (fB (tp 38)) (fS (tp 38)) 3 [] Value.none Value.none Value.none (Value.str (Str.ofString "law_xm0985_01") 718) none (Value.ref 385) Value.none 0)) #[]
noncomputable def o387 (P : Params) : Obj := Obj.mk (Value.type "tuple") none (Data.seq #[] 0) #[]
noncomputable def o388 (P : Params) : Obj := Obj.mk Value.none none (Data.fields #[]) #[]
noncomputable def o389 (P : Params) : Obj := Obj.mk (Value.type "tuple") none (Data.seq #[Value.str (Str.ofString "reel") 741, Value.str (Str.ofString "things") 742] 0) #[]
noncomputable def o390 (P : Params) : Obj := Obj.mk (Value.type "tuple") none (Data.seq #[] 0) #[]
noncomputable def o391 (P : Params) : Obj := Obj.mk Value.none none (Data.func (FuncData.mk (Str.ofString "_law_one") (Str.ofString "_law_one") (fA (tp 39)) (fB (tp 39)) (fS (tp 39)) 0 [] Value.none Value.none Value.none Value.none none Value.none Value.none 0)) #[]
noncomputable def o392 (P : Params) : Obj := Obj.mk (Value.type "code") none (Data.fields #[Value.str (Str.ofString "_law_one") 738, Value.str (Str.ofString "_law_one") 739, Value.str (Str.ofString "/claim/cut.py") 740, Value.int 215 0, Value.int 2 0, Value.int 0 0, Value.int 0 0, Value.int 3 0, Value.ref 387, Value.bool Bool.true, Value.int 181 0, Value.ref 388, Value.none, Value.ref 389, Value.ref 390, Value.ref 391, Value.int 743 0, Value.int 215 0, Value.str (Str.ofString "/claim/cut.py") 744]) #[]
noncomputable def o393 (P : Params) : Obj := Obj.mk (Value.type "function") none (Data.func (FuncData.mk (Str.ofString "_law_one") (Str.ofString "_law_one") (fA (tp 39)) (fB (tp 39)) (fS (tp 39)) 3 [] Value.none Value.none Value.none (Value.str (Str.ofString "law_xm0985_01") 718) none (Value.ref 392) Value.none 0)) #[]
noncomputable def o394 (P : Params) : Obj := Obj.mk (Value.type "tuple") none (Data.seq #[] 0) #[]
noncomputable def o395 (P : Params) : Obj := Obj.mk Value.none none (Data.fields #[]) #[]
noncomputable def o396 (P : Params) : Obj := Obj.mk Value.none none (Data.func (FuncData.mk (Str.ofString "_law_fields_right") (Str.ofString "_law_fields_right") (fA (tp 40)) (fB (tp 40)) (fS (tp 40)) 0 [] Value.none Value.none Value.none Value.none none Value.none Value.none 0)) #[]
noncomputable def o397 (P : Params) : Obj := Obj.mk (Value.type "code") none (Data.fields #[Value.str (Str.ofString "_law_fields_right") 746, Value.str (Str.ofString "_law_fields_right") 747, Value.str (Str.ofString "/claim/cut.py") 748, Value.int 217 0, Value.int 1 0, Value.int 0 0, Value.int 0 0, Value.int 3 0, Value.ref 394, Value.bool Bool.true, Value.int 181 0, Value.ref 395, Value.none, Value.none, Value.none, Value.ref 396, Value.int 749 0, Value.int 217 0, Value.str (Str.ofString "/claim/cut.py") 750]) #[]
noncomputable def o398 (P : Params) : Obj := Obj.mk (Value.type "function") none (Data.func (FuncData.mk (Str.ofString "_law_fields_right") (Str.ofString "_law_fields_right") (fA (tp 40)) (fB (tp 40)) (fS (tp 40)) 3 [] Value.none Value.none Value.none (Value.str (Str.ofString "law_xm0985_01") 718) none (Value.ref 397) Value.none 0)) #[]
noncomputable def o399 (P : Params) : Obj := Obj.mk (Value.type "tuple") none (Data.seq #[] 0) #[]
noncomputable def o400 (P : Params) : Obj := Obj.mk Value.none none (Data.fields #[]) #[]
noncomputable def o401 (P : Params) : Obj := Obj.mk (Value.type "tuple") none (Data.seq #[Value.str (Str.ofString "reel") 755, Value.str (Str.ofString "great") 756, Value.str (Str.ofString "far") 757, Value.str (Str.ofString "seed") 758, Value.str (Str.ofString "worth") 759, Value.str (Str.ofString "more") 760, Value.str (Str.ofString "base") 761, Value.str (Str.ofString "last") 762, Value.str (Str.ofString "one") 763, Value.str (Str.ofString "other") 764] 0) #[]
noncomputable def o402 (P : Params) : Obj := Obj.mk (Value.type "tuple") none (Data.seq #[] 0) #[]
noncomputable def o403 (P : Params) : Obj := Obj.mk Value.none none (Data.func (FuncData.mk (Str.ofString "_law_mixed_right") (Str.ofString "_law_mixed_right") (fA (tp 41)) (fB (tp 41)) (fS (tp 41)) 0 [] Value.none Value.none Value.none Value.none none Value.none Value.none 0)) #[]
noncomputable def o404 (P : Params) : Obj := Obj.mk (Value.type "code") none (Data.fields #[Value.str (Str.ofString "_law_mixed_right") 752, Value.str (Str.ofString "_law_mixed_right") 753, Value.str (Str.ofString "/claim/cut.py") 754, Value.int 224 0, Value.int 1 0, Value.int 0 0, Value.int 0 0, Value.int 3 0, Value.ref 399, Value.bool Bool.true, Value.int 181 0, Value.ref 400, Value.none, Value.ref 401, Value.ref 402, Value.ref 403, Value.int 765 0, Value.int 224 0, Value.str (Str.ofString "/claim/cut.py") 766]) #[]
noncomputable def o405 (P : Params) : Obj := Obj.mk (Value.type "function") none (Data.func (FuncData.mk (Str.ofString "_law_mixed_right") (Str.ofString "_law_mixed_right") (fA (tp 41)) (fB (tp 41)) (fS (tp 41)) 3 [] Value.none Value.none Value.none (Value.str (Str.ofString "law_xm0985_01") 718) none (Value.ref 404) Value.none 0)) #[]
noncomputable def o406 (P : Params) : Obj := Obj.mk (Value.type "tuple") none (Data.seq #[] 0) #[]
noncomputable def o407 (P : Params) : Obj := Obj.mk Value.none none (Data.fields #[]) #[]
noncomputable def o408 (P : Params) : Obj := Obj.mk (Value.type "tuple") none (Data.seq #[Value.str (Str.ofString "before") 771, Value.str (Str.ofString "is_aware") 772] 0) #[]
noncomputable def o409 (P : Params) : Obj := Obj.mk (Value.type "tuple") none (Data.seq #[] 0) #[]
noncomputable def o410 (P : Params) : Obj := Obj.mk Value.none none (Data.func (FuncData.mk (Str.ofString "_law_colour") (Str.ofString "_law_colour") (fA (tp 42)) (fB (tp 42)) (fS (tp 42)) 0 [] Value.none Value.none Value.none Value.none none Value.none Value.none 0)) #[]
noncomputable def o411 (P : Params) : Obj := Obj.mk (Value.type "code") none (Data.fields #[Value.str (Str.ofString "_law_colour") 768, Value.str (Str.ofString "_law_colour") 769, Value.str (Str.ofString "/claim/cut.py") 770, Value.int 237 0, Value.int 2 0, Value.int 0 0, Value.int 0 0, Value.int 3 0, Value.ref 406, Value.bool Bool.true, Value.int 181 0, Value.ref 407, Value.none, Value.ref 408, Value.ref 409, Value.ref 410, Value.int 773 0, Value.int 237 0, Value.str (Str.ofString "/claim/cut.py") 774]) #[]
noncomputable def o412 (P : Params) : Obj := Obj.mk (Value.type "function") none (Data.func (FuncData.mk (Str.ofString "_law_colour") (Str.ofString "_law_colour") (fA (tp 42)) (fB (tp 42)) (fS (tp 42)) 3 [] Value.none Value.none Value.none (Value.str (Str.ofString "law_xm0985_01") 718) none (Value.ref 411) Value.none 0)) #[]
noncomputable def o413 (P : Params) : Obj := Obj.mk (Value.type "tuple") none (Data.seq #[] 0) #[]
noncomputable def o414 (P : Params) : Obj := Obj.mk Value.none none (Data.fields #[]) #[]
noncomputable def o415 (P : Params) : Obj := Obj.mk (Value.type "tuple") none (Data.seq #[Value.str (Str.ofString "reel") 779, Value.str (Str.ofString "before") 780, Value.str (Str.ofString "due") 781] 0) #[]
noncomputable def o416 (P : Params) : Obj := Obj.mk (Value.type "tuple") none (Data.seq #[] 0) #[]
noncomputable def o417 (P : Params) : Obj := Obj.mk Value.none none (Data.func (FuncData.mk (Str.ofString "_law_colours_right") (Str.ofString "_law_colours_right") (fA (tp 43)) (fB (tp 43)) (fS (tp 43)) 0 [] Value.none Value.none Value.none Value.none none Value.none Value.none 0)) #[]
noncomputable def o418 (P : Params) : Obj := Obj.mk (Value.type "code") none (Data.fields #[Value.str (Str.ofString "_law_colours_right") 776, Value.str (Str.ofString "_law_colours_right") 777, Value.str (Str.ofString "/claim/cut.py") 778, Value.int 242 0, Value.int 1 0, Value.int 0 0, Value.int 0 0, Value.int 3 0, Value.ref 413, Value.bool Bool.true, Value.int 181 0, Value.ref 414, Value.none, Value.ref 415, Value.ref 416, Value.ref 417, Value.int 782 0, Value.int 242 0, Value.str (Str.ofString "/claim/cut.py") 783]) #[]
noncomputable def o419 (P : Params) : Obj := Obj.mk (Value.type "function") none (Data.func (FuncData.mk (Str.ofString "_law_colours_right") (Str.ofString "_law_colours_right") (fA (tp 43)) (fB (tp 43)) (fS (tp 43)) 3 [] Value.none Value.none Value.none (Value.str (Str.ofString "law_xm0985_01") 718) none (Value.ref 418) Value.none 0)) #[]
noncomputable def o420 (P : Params) : Obj := Obj.mk (Value.type "tuple") none (Data.seq #[] 0) #[]
noncomputable def o421 (P : Params) : Obj := Obj.mk Value.none none (Data.fields #[]) #[]
noncomputable def o422 (P : Params) : Obj := Obj.mk (Value.type "tuple") none (Data.seq #[Value.str (Str.ofString "reel") 788, Value.str (Str.ofString "now") 789, Value.str (Str.ofString "time") 790, Value.str (Str.ofString "tick") 791, Value.str (Str.ofString "told") 792] 0) #[]
noncomputable def o423 (P : Params) : Obj := Obj.mk (Value.type "tuple") none (Data.seq #[] 0) #[]
noncomputable def o424 (P : Params) : Obj := Obj.mk Value.none none (Data.func (FuncData.mk (Str.ofString "_law_times_right") (Str.ofString "_law_times_right") (fA (tp 44)) (fB (tp 44)) (fS (tp 44)) 0 [] Value.none Value.none Value.none Value.none none Value.none Value.none 0)) #[]
noncomputable def o425 (P : Params) : Obj := Obj.mk (Value.type "code") none (Data.fields #[Value.str (Str.ofString "_law_times_right") 785, Value.str (Str.ofString "_law_times_right") 786, Value.str (Str.ofString "/claim/cut.py") 787, Value.int 246 0, Value.int 1 0, Value.int 0 0, Value.int 0 0, Value.int 3 0, Value.ref 420, Value.bool Bool.true, Value.int 181 0, Value.ref 421, Value.none, Value.ref 422, Value.ref 423, Value.ref 424, Value.int 793 0, Value.int 246 0, Value.str (Str.ofString "/claim/cut.py") 794]) #[]
noncomputable def o426 (P : Params) : Obj := Obj.mk (Value.type "function") none (Data.func (FuncData.mk (Str.ofString "_law_times_right") (Str.ofString "_law_times_right") (fA (tp 44)) (fB (tp 44)) (fS (tp 44)) 3 [] Value.none Value.none Value.none (Value.str (Str.ofString "law_xm0985_01") 718) none (Value.ref 425) Value.none 0)) #[]
noncomputable def o427 (P : Params) : Obj := Obj.mk (Value.type "tuple") none (Data.seq #[] 0) #[]
noncomputable def o428 (P : Params) : Obj := Obj.mk Value.none none (Data.fields #[]) #[]
noncomputable def o429 (P : Params) : Obj := Obj.mk Value.none none (Data.func (FuncData.mk (Str.ofString "_law_recent_right") (Str.ofString "_law_recent_right") (fA (tp 45)) (fB (tp 45)) (fS (tp 45)) 0 [] Value.none Value.none Value.none Value.none none Value.none Value.none 0)) #[]
noncomputable def o430 (P : Params) : Obj := Obj.mk (Value.type "code") none (Data.fields #[Value.str (Str.ofString "_law_recent_right") 796, Value.str (Str.ofString "_law_recent_right") 797, Value.str (Str.ofString "/claim/cut.py") 798, Value.int 252 0, Value.int 1 0, Value.int 0 0, Value.int 0 0, Value.int 3 0, Value.ref 427, Value.bool Bool.true, Value.int 181 0, Value.ref 428, Value.none, Value.none, Value.none, Value.ref 429, Value.int 799 0, Value.int 252 0, Value.str (Str.ofString "/claim/cut.py") 800]) #[]
noncomputable def o431 (P : Params) : Obj := Obj.mk (Value.type "function") none (Data.func (FuncData.mk (Str.ofString "_law_recent_right") (Str.ofString "_law_recent_right") (fA (tp 45)) (fB (tp 45)) (fS (tp 45)) 3 [] Value.none Value.none Value.none (Value.str (Str.ofString "law_xm0985_01") 718) none (Value.ref 430) Value.none 0)) #[]
noncomputable def o432 (P : Params) : Obj := Obj.mk (Value.type "tuple") none (Data.seq #[] 0) #[]
noncomputable def o433 (P : Params) : Obj := Obj.mk Value.none none (Data.fields #[]) #[]
noncomputable def o434 (P : Params) : Obj := Obj.mk Value.none none (Data.func (FuncData.mk (Str.ofString "_law_multiple_right") (Str.ofString "_law_multiple_right") (fA (tp 46)) (fB (tp 46)) (fS (tp 46)) 0 [] Value.none Value.none Value.none Value.none none Value.none Value.none 0)) #[]
noncomputable def o435 (P : Params) : Obj := Obj.mk (Value.type "code") none (Data.fields #[Value.str (Str.ofString "_law_multiple_right") 802, Value.str (Str.ofString "_law_multiple_right") 803, Value.str (Str.ofString "/claim/cut.py") 804, Value.int 266 0, Value.int 1 0, Value.int 0 0, Value.int 0 0, Value.int 3 0, Value.ref 432, Value.bool Bool.true, Value.int 181 0, Value.ref 433, Value.none, Value.none, Value.none, Value.ref 434, Value.int 805 0, Value.int 266 0, Value.str (Str.ofString "/claim/cut.py") 806]) #[]
noncomputable def o436 (P : Params) : Obj := Obj.mk (Value.type "function") none (Data.func (FuncData.mk (Str.ofString "_law_multiple_right") (Str.ofString "_law_multiple_right") (fA (tp 46)) (fB (tp 46)) (fS (tp 46)) 3 [] Value.none Value.none Value.none (Value.str (Str.ofString "law_xm0985_01") 718) none (Value.ref 435) Value.none 0)) #[]
noncomputable def o437 (P : Params) : Obj := Obj.mk (Value.type "tuple") none (Data.seq #[] 0) #[]
noncomputable def o438 (P : Params) : Obj := Obj.mk Value.none none (Data.fields #[]) #[]
noncomputable def o439 (P : Params) : Obj := Obj.mk (Value.type "tuple") none (Data.seq #[Value.str (Str.ofString "most") 811, Value.str (Str.ofString "octets") 812] 0) #[]
noncomputable def o440 (P : Params) : Obj := Obj.mk (Value.type "tuple") none (Data.seq #[] 0) #[]
noncomputable def o441 (P : Params) : Obj := Obj.mk Value.none none (Data.func (FuncData.mk (Str.ofString "_law_is_refused") (Str.ofString "_law_is_refused") (fA (tp 47)) (fB (tp 47)) (fS (tp 47)) 0 [] Value.none Value.none Value.none Value.none none Value.none Value.none 0)) #[]
noncomputable def o442 (P : Params) : Obj := Obj.mk (Value.type "code") none (Data.fields #[Value.str (Str.ofString "_law_is_refused") 808, Value.str (Str.ofString "_law_is_refused") 809, Value.str (Str.ofString "/claim/cut.py") 810, Value.int 271 0, Value.int 2 0, Value.int 0 0, Value.int 0 0, Value.int 3 0, Value.ref 437, Value.bool Bool.true, Value.int 181 0, Value.ref 438, Value.none, Value.ref 439, Value.ref 440, Value.ref 441, Value.int 813 0, Value.int 271 0, Value.str (Str.ofString "/claim/cut.py") 814]) #[]
noncomputable def o443 (P : Params) : Obj := Obj.mk (Value.type "function") none (Data.func (FuncData.mk (Str.ofString "_law_is_refused") (Str.ofString "_law_is_refused") (fA (tp 47)) (fB (tp 47)) (fS (tp 47)) 3 [] Value.none Value.none Value.none (Value.str (Str.ofString "law_xm0985_01") 718) none (Value.ref 442) Value.none 0)) #[]
noncomputable def o444 (P : Params) : Obj := Obj.mk (Value.type "tuple") none (Data.seq #[] 0) #[]
noncomputable def o445 (P : Params) : Obj := Obj.mk Value.none none (Data.fields #[]) #[]
noncomputable def o446 (P : Params) : Obj := Obj.mk Value.none none (Data.func (FuncData.mk (Str.ofString "_law_queue_right") (Str.ofString "_law_queue_right") (fA (tp 48)) (fB (tp 48)) (fS (tp 48)) 0 [] Value.none Value.none Value.none Value.none none Value.none Value.none 0)) #[]
noncomputable def o447 (P : Params) : Obj := Obj.mk (Value.type "code") none (Data.fields #[Value.str (Str.ofString "_law_queue_right") 816, Value.str (Str.ofString "_law_queue_right") 817, Value.str (Str.ofString "/claim/cut.py") 818, Value.int 277 0, Value.int 1 0, Value.int 0 0, Value.int 0 0, Value.int 3 0, Value.ref 444, Value.bool Bool.true, Value.int 181 0, Value.ref 445, Value.none, Value.none, Value.none, Value.ref 446, Value.int 819 0, Value.int 277 0, Value.str (Str.ofString "/claim/cut.py") 820]) #[]
noncomputable def o448 (P : Params) : Obj := Obj.mk (Value.type "function") none (Data.func (FuncData.mk (Str.ofString "_law_queue_right") (Str.ofString "_law_queue_right") (fA (tp 48)) (fB (tp 48)) (fS (tp 48)) 3 [] Value.none Value.none Value.none (Value.str (Str.ofString "law_xm0985_01") 718) none (Value.ref 447) Value.none 0)) #[]
noncomputable def o449 (P : Params) : Obj := Obj.mk (Value.type "tuple") none (Data.seq #[] 0) #[]
noncomputable def o450 (P : Params) : Obj := Obj.mk Value.none none (Data.fields #[]) #[]
noncomputable def o451 (P : Params) : Obj := Obj.mk (Value.type "tuple") none (Data.seq #[Value.str (Str.ofString "script") 825, Value.str (Str.ofString "reel") 826] 0) #[]
noncomputable def o452 (P : Params) : Obj := Obj.mk (Value.type "tuple") none (Data.seq #[] 0) #[]
noncomputable def o453 (P : Params) : Obj := Obj.mk Value.none none (Data.func (FuncData.mk (Str.ofString "law") (Str.ofString "law") (fA (tp 49)) (fB (tp 49)) (fS (tp 49)) 0 [] Value.none Value.none Value.none Value.none none Value.none Value.none 0)) #[]
noncomputable def o454 (P : Params) : Obj := Obj.mk (Value.type "code") none (Data.fields #[Value.str (Str.ofString "law") 822, Value.str (Str.ofString "law") 823, Value.str (Str.ofString "/claim/cut.py") 824, Value.int 299 0, Value.int 1 0, Value.int 0 0, Value.int 0 0, Value.int 3 0, Value.ref 449, Value.bool Bool.true, Value.int 181 0, Value.ref 450, Value.none, Value.ref 451, Value.ref 452, Value.ref 453, Value.int 827 0, Value.int 299 0, Value.str (Str.ofString "/claim/cut.py") 828]) #[]
noncomputable def o455 (P : Params) : Obj := Obj.mk (Value.type "function") none (Data.func (FuncData.mk (Str.ofString "law") (Str.ofString "law") (fA (tp 49)) (fB (tp 49)) (fS (tp 49)) 3 [] Value.none Value.none Value.none (Value.str (Str.ofString "law_xm0985_01") 718) none (Value.ref 454) Value.none 0)) #[]
noncomputable def hc0 (P : Params) : List Obj := [boot_o_0 P, boot_o_1 P, o2 P, o3 P, boot_o_4 P, boot_o_5 P, boot_o_6 P, boot_o_7 P, boot_o_8 P, boot_o_9 P, boot_o_10 P, o11 P, o12 P, o13 P, o14 P, o15 P]
noncomputable def hc1 (P : Params) : List Obj := [o16 P, o17 P, o18 P, o19 P, o20 P, o21 P, o22 P, o23 P, o24 P, o25 P, o26 P, o27 P, o28 P, o29 P, o30 P, o31 P]
noncomputable def hc2 (P : Params) : List Obj := [o32 P, o33 P, o34 P, o35 P, o36 P, o37 P, o38 P, o39 P, o40 P, o41 P, o42 P, o43 P, o44 P, o45 P, o46 P, o47 P]
noncomputable def hc3 (P : Params) : List Obj := [o48 P, o49 P, o50 P, o51 P, o52 P, o53 P, o54 P, o55 P, o56 P, o57 P, o58 P, o59 P, o60 P, o61 P, o62 P, o63 P]
noncomputable def hc4 (P : Params) : List Obj := [o64 P, o65 P, o66 P, o67 P, o68 P, o69 P, o70 P, o71 P, o72 P, o73 P, o74 P, o75 P, o76 P, o77 P, o78 P, o79 P]
noncomputable def hc5 (P : Params) : List Obj := [o80 P, o81 P, o82 P, o83 P, o84 P, o85 P, o86 P, o87 P, o88 P, o89 P, o90 P, o91 P, o92 P, o93 P, o94 P, o95 P]
noncomputable def hc6 (P : Params) : List Obj := [o96 P, o97 P, o98 P, o99 P, o100 P, o101 P, o102 P, o103 P, o104 P, o105 P, o106 P, o107 P, o108 P, o109 P, o110 P, o111 P]
noncomputable def hc7 (P : Params) : List Obj := [o112 P, o113 P, o114 P, o115 P, o116 P, o117 P, o118 P, o119 P, o120 P, o121 P, o122 P, o123 P, o124 P, o125 P, o126 P, o127 P]
noncomputable def hc8 (P : Params) : List Obj := [o128 P, o129 P, o130 P, o131 P, o132 P, o133 P, o134 P, o135 P, o136 P, o137 P, o138 P, o139 P, o140 P, o141 P, o142 P, o143 P]
noncomputable def hc9 (P : Params) : List Obj := [o144 P, o145 P, o146 P, o147 P, o148 P, o149 P, o150 P, o151 P, o152 P, o153 P, o154 P, o155 P, o156 P, o157 P, o158 P, o159 P]
noncomputable def hc10 (P : Params) : List Obj := [o160 P, o161 P, o162 P, o163 P, o164 P, o165 P, o166 P, o167 P, o168 P, o169 P, o170 P, o171 P, o172 P, o173 P, o174 P, o175 P]
noncomputable def hc11 (P : Params) : List Obj := [o176 P, o177 P, o178 P, o179 P, o180 P, o181 P, o182 P, o183 P, o184 P, o185 P, o186 P, o187 P, o188 P, o189 P, o190 P, o191 P]
noncomputable def hc12 (P : Params) : List Obj := [o192 P, o193 P, o194 P, o195 P, o196 P, o197 P, o198 P, o199 P, o200 P, o201 P, o202 P, o203 P, o204 P, o205 P, o206 P, o207 P]
noncomputable def hc13 (P : Params) : List Obj := [o208 P, o209 P, o210 P, o211 P, o212 P, o213 P, o214 P, o215 P, o216 P, o217 P, o218 P, o219 P, o220 P, o221 P, o222 P, o223 P]
noncomputable def hc14 (P : Params) : List Obj := [o224 P, o225 P, o226 P, o227 P, o228 P, o229 P, o230 P, o231 P, o232 P, o233 P, o234 P, o235 P, o236 P, o237 P, o238 P, o239 P]
noncomputable def hc15 (P : Params) : List Obj := [o240 P, o241 P, o242 P, o243 P, o244 P, o245 P, o246 P, o247 P, o248 P, o249 P, o250 P, o251 P, o252 P, o253 P, o254 P, o255 P]
noncomputable def hc16 (P : Params) : List Obj := [o256 P, o257 P, o258 P, o259 P, o260 P, o261 P, o262 P, o263 P, o264 P, o265 P, o266 P, o267 P, o268 P, o269 P, o270 P, o271 P]
noncomputable def hc17 (P : Params) : List Obj := [o272 P, o273 P, o274 P, o275 P, o276 P, o277 P, o278 P, o279 P, o280 P, o281 P, o282 P, o283 P, o284 P, o285 P, o286 P, o287 P]
noncomputable def hc18 (P : Params) : List Obj := [o288 P, o289 P, o290 P, o291 P, o292 P, o293 P, o294 P, o295 P, o296 P, o297 P, o298 P, o299 P, o300 P, o301 P, o302 P, o303 P]
noncomputable def hc19 (P : Params) : List Obj := [o304 P, o305 P, o306 P, o307 P, o308 P, o309 P, o310 P, o311 P, o312 P, o313 P, o314 P, o315 P, o316 P, o317 P, o318 P, o319 P]
noncomputable def hc20 (P : Params) : List Obj := [o320 P, o321 P, o322 P, o323 P, o324 P, o325 P, o326 P, o327 P, o328 P, o329 P, o330 P, o331 P, o332 P, o333 P, o334 P, o335 P]
noncomputable def hc21 (P : Params) : List Obj := [o336 P, o337 P, o338 P, o339 P, o340 P, o341 P, o342 P, o343 P, o344 P, o345 P, o346 P, o347 P, o348 P, o349 P, o350 P, o351 P]
noncomputable def hc22 (P : Params) : List Obj := [o352 P, o353 P, o354 P, o355 P, o356 P, o357 P, o358 P, o359 P, o360 P, o361 P, o362 P, o363 P, o364 P, o365 P, o366 P, o367 P]
noncomputable def hc23 (P : Params) : List Obj := [o368 P, o369 P, o370 P, o371 P, o372 P, o373 P, o374 P, o375 P, o376 P, o377 P, o378 P, o379 P, o380 P, o381 P, o382 P, o383 P]
noncomputable def hc24 (P : Params) : List Obj := [o384 P, o385 P, o386 P, o387 P, o388 P, o389 P, o390 P, o391 P, o392 P, o393 P, o394 P, o395 P, o396 P, o397 P, o398 P, o399 P]
noncomputable def hc25 (P : Params) : List Obj := [o400 P, o401 P, o402 P, o403 P, o404 P, o405 P, o406 P, o407 P, o408 P, o409 P, o410 P, o411 P, o412 P, o413 P, o414 P, o415 P]
noncomputable def hc26 (P : Params) : List Obj := [o416 P, o417 P, o418 P, o419 P, o420 P, o421 P, o422 P, o423 P, o424 P, o425 P, o426 P, o427 P, o428 P, o429 P, o430 P, o431 P]
noncomputable def hc27 (P : Params) : List Obj := [o432 P, o433 P, o434 P, o435 P, o436 P, o437 P, o438 P, o439 P, o440 P, o441 P, o442 P, o443 P, o444 P, o445 P, o446 P, o447 P]
noncomputable def hc28 (P : Params) : List Obj := [o448 P, o449 P, o450 P, o451 P, o452 P, o453 P, o454 P, o455 P]
noncomputable def hs0 (P : Params) : List Obj := hc0 P ++ (hc1 P ++ (hc2 P ++ (hc3 P ++ (hc4 P ++ (hc5 P ++ (hc6 P ++ (hc7 P)))))))
noncomputable def hs1 (P : Params) : List Obj := hc8 P ++ (hc9 P ++ (hc10 P ++ (hc11 P ++ (hc12 P ++ (hc13 P ++ (hc14 P ++ (hc15 P)))))))
noncomputable def hs2 (P : Params) : List Obj := hc16 P ++ (hc17 P ++ (hc18 P ++ (hc19 P ++ (hc20 P ++ (hc21 P ++ (hc22 P ++ (hc23 P)))))))
noncomputable def hs3 (P : Params) : List Obj := hc24 P ++ (hc25 P ++ (hc26 P ++ (hc27 P ++ (hc28 P))))
noncomputable def H1 (P : Params) : Heap := ⟨⟨hs0 P ++ (hs1 P ++ (hs2 P ++ (hs3 P)))⟩, Life.mk [] [] [] 0 [] [] Bool.false #[] [] 0 Bool.false Bool.false Bool.false 0 [2000, 10, 10] Bool.false 0 Bool.true [] [] 0 Bool.false⟩
noncomputable def K (P : Params) : Frag := (nat_lit 2, (Obj.mk Value.none none (Data.dict #[DictEntry.mk (PyData.keyHash P (Str.ofString "type.__subclasses__.Exception.0")) (Value.str (Str.ofString "type.__subclasses__.Exception.0") 232) (Value.int 45 0), DictEntry.mk (PyData.keyHash P (Str.ofString "type.__subclasses__.Exception.n")) (Value.str (Str.ofString "type.__subclasses__.Exception.n") 233) (Value.int 1 0)] 2) #[] : Obj)) :: (nat_lit 3, (Obj.mk (Value.type "dict") none (Data.dict #[DictEntry.mk (PyData.keyHash P (Str.ofString "__name__")) (Value.str (Str.ofString "__name__") 165) (Value.str (Str.ofString "law_xm0985_01") 718), DictEntry.mk (PyData.keyHash P (Str.ofString "__doc__")) (Value.str (Str.ofString "__doc__") 166) Value.none, DictEntry.mk (PyData.keyHash P (Str.ofString "__package__")) (Value.str (Str.ofString "__package__") 167) Value.none, DictEntry.mk (PyData.keyHash P (Str.ofString "__loader__")) (Value.str (Str.ofString "__loader__") 168) (Value.builtin "__main__.__loader__#opaque"), DictEntry.mk (PyData.keyHash P (Str.ofString "__spec__")) (Value.str (Str.ofString "__spec__") 169) Value.none, DictEntry.mk (PyData.keyHash P (Str.ofString "__annotations__")) (Value.str (Str.ofString "__annotations__") 170) (Value.ref 6), DictEntry.mk (PyData.keyHash P (Str.ofString "__builtins__")) (Value.str (Str.ofString "__builtins__") 171) (Value.ref 4), DictEntry.mk (PyData.keyHash P (Str.ofString "__file__")) (Value.str (Str.ofString "__file__") 173) (Value.str (Str.ofString "/claim/cut.py") 172), DictEntry.mk (PyData.keyHash P (Str.ofString "__cached__")) (Value.str (Str.ofString "__cached__") 174) Value.none, DictEntry.mk (PyData.keyHash P (Str.ofString "_wall")) (Value.str (Str.ofString "_wall") 193) (Value.ref 21), DictEntry.mk (PyData.keyHash P (Str.ofString "time_behind")) (Value.str (Str.ofString "time_behind") 204) (Value.ref 28), DictEntry.mk (PyData.keyHash P (Str.ofString "SwitchError")) (Value.str (Str.ofString "SwitchError") 235) (Value.ref 45), DictEntry.mk (PyData.keyHash P (Str.ofString "SizeError")) (Value.str (Str.ofString "SizeError") 251) (Value.ref 58), DictEntry.mk (PyData.keyHash P (Str.ofString "TableError")) (Value.str (Str.ofString "TableError") 267) (Value.ref 70), DictEntry.mk (PyData.keyHash P (Str.ofString "SettingError")) (Value.str (Str.ofString "SettingError") 294) (Value.ref 90), DictEntry.mk (PyData.keyHash P (Str.ofString "least_multiple")) (Value.str (Str.ofString "least_multiple") 307) (Value.ref 99), DictEntry.mk (PyData.keyHash P (Str.ofString "GREAT")) (Value.str (Str.ofString "GREAT") 311) (Value.int 2147483647 310), DictEntry.mk (PyData.keyHash P (Str.ofString "STEP")) (Value.str (Str.ofString "STEP") 313) (Value.int 48271 312), DictEntry.mk (PyData.keyHash P (Str.ofString "MOST_SEED")) (Value.str (Str.ofString "MOST_SEED") 315) (Value.int 1000000 314), DictEntry.mk (PyData.keyHash P (Str.ofString "field_worth")) (Value.str (Str.ofString "field_worth") 323) (Value.ref 106), DictEntry.mk (PyData.keyHash P (Str.ofString "mixed_worth")) (Value.str (Str.ofString "mixed_worth") 332) (Value.ref 113), DictEntry.mk (PyData.keyHash P (Str.ofString "HEAD_SIZE")) (Value.str (Str.ofString "HEAD_SIZE") 336) (Value.int 14 335), DictEntry.mk (PyData.keyHash P (Str.ofString "TAG_SIZE")) (Value.str (Str.ofString "TAG_SIZE") 338) (Value.int 4 337), DictEntry.mk (PyData.keyHash P (Str.ofString "SUM_SIZE")) (Value.str (Str.ofString "SUM_SIZE") 340) (Value.int 4 339), DictEntry.mk (PyData.keyHash P (Str.ofString "LEAST_SIZE")) (Value.str (Str.ofString "LEAST_SIZE") 342) (Value.int 60 341), DictEntry.mk (PyData.keyHash P (Str.ofString "Tag")) (Value.str (Str.ofString "Tag") 384) (Value.ref 137), DictEntry.mk (PyData.keyHash P (Str.ofString "Frame")) (Value.str (Str.ofString "Frame") 435) (Value.ref 171), DictEntry.mk (PyData.keyHash P (Str.ofString "GREEN")) (Value.str (Str.ofString "GREEN") 439) (Value.str (Str.ofString "green") 438), DictEntry.mk (PyData.keyHash P (Str.ofString "YELLOW")) (Value.str (Str.ofString "YELLOW") 441) (Value.str (Str.ofString "yellow") 440), DictEntry.mk (PyData.keyHash P (Str.ofString "RED")) (Value.str (Str.ofString "RED") 443) (Value.str (Str.ofString "red") 442), DictEntry.mk (PyData.keyHash P (Str.ofString "COLOURS")) (Value.str (Str.ofString "COLOURS") 444) (Value.ref 176), DictEntry.mk (PyData.keyHash P (Str.ofString "colour_before")) (Value.str (Str.ofString "colour_before") 452) (Value.ref 183), DictEntry.mk (PyData.keyHash P (Str.ofString "Port")) (Value.str (Str.ofString "Port") 492) (Value.ref 201), DictEntry.mk (PyData.keyHash P (Str.ofString "LinkWatch")) (Value.str (Str.ofString "LinkWatch") 536) (Value.ref 234), DictEntry.mk (PyData.keyHash P (Str.ofString "Ports")) (Value.str (Str.ofString "Ports") 641) (Value.ref 312), DictEntry.mk (PyData.keyHash P (Str.ofString "QueueRow")) (Value.str (Str.ofString "QueueRow") 708) (Value.ref 361), DictEntry.mk (PyData.keyHash P (Str.ofString "may_go")) (Value.str (Str.ofString "may_go") 717) (Value.ref 372), DictEntry.mk (PyData.keyHash P (Str.ofString "_law_reel")) (Value.str (Str.ofString "_law_reel") 728) (Value.ref 379), DictEntry.mk (PyData.keyHash P (Str.ofString "_law_wind")) (Value.str (Str.ofString "_law_wind") 737) (Value.ref 386), DictEntry.mk (PyData.keyHash P (Str.ofString "_law_one")) (Value.str (Str.ofString "_law_one") 745) (Value.ref 393), DictEntry.mk (PyData.keyHash P (Str.ofString "_law_fields_right")) (Value.str (Str.ofString "_law_fields_right") 751) (Value.ref 398), DictEntry.mk (PyData.keyHash P (Str.ofString "_law_mixed_right")) (Value.str (Str.ofString "_law_mixed_right") 767) (Value.ref 405), DictEntry.mk (PyData.keyHash P (Str.ofString "_law_colour")) (Value.str (Str.ofString "_law_colour") 775) (Value.ref 412), DictEntry.mk (PyData.keyHash P (Str.ofString "_law_colours_right")) (Value.str (Str.ofString "_law_colours_right") 784) (Value.ref 419), DictEntry.mk (PyData.keyHash P (Str.ofString "_law_times_right")) (Value.str (Str.ofString "_law_times_right") 795) (Value.ref 426), DictEntry.mk (PyData.keyHash P (Str.ofString "_law_recent_right")) (Value.str (Str.ofString "_law_recent_right") 801) (Value.ref 431), DictEntry.mk (PyData.keyHash P (Str.ofString "_law_multiple_right")) (Value.str (Str.ofString "_law_multiple_right") 807) (Value.ref 436), DictEntry.mk (PyData.keyHash P (Str.ofString "_law_is_refused")) (Value.str (Str.ofString "_law_is_refused") 815) (Value.ref 443), DictEntry.mk (PyData.keyHash P (Str.ofString "_law_queue_right")) (Value.str (Str.ofString "_law_queue_right") 821) (Value.ref 448), DictEntry.mk (PyData.keyHash P (Str.ofString "law")) (Value.str (Str.ofString "law") 829) (Value.ref 455)] 50) #[] : Obj)) :: (nat_lit 15, (Obj.mk (Value.type "tuple") none (Data.seq #[] 0) #[] : Obj)) :: (nat_lit 17, (Obj.mk (Value.type "tuple") none (Data.seq #[Value.str (Str.ofString "k") 190] 0) #[] : Obj)) :: (nat_lit 18, (Obj.mk (Value.type "tuple") none (Data.seq #[] 0) #[] : Obj)) :: (nat_lit 20, (Obj.mk (Value.type "code") none (Data.fields #[Value.str (Str.ofString "_wall") 187, Value.str (Str.ofString "_wall") 188, Value.str (Str.ofString "/claim/cut.py") 189, Value.int 1 0, Value.int 1 0, Value.int 0 0, Value.int 0 0, Value.int 3 0, Value.ref 15, Value.bool Bool.true, Value.int 181 0, Value.ref 16, Value.none, Value.ref 17, Value.ref 18, Value.ref 19, Value.int 191 0, Value.int 1 0, Value.str (Str.ofString "/claim/cut.py") 192]) #[] : Obj)) :: (nat_lit 21, (Obj.mk (Value.type "function") none (Data.func (FuncData.mk (Str.ofString "_wall") (Str.ofString "_wall") (fA (tp 0)) (fB (tp 0)) (fS (tp 0)) 3 [] Value.none Value.none Value.none (Value.str (Str.ofString "__main__") 164) none (Value.ref 20) Value.none 0)) #[] : Obj)) :: (nat_lit 22, (Obj.mk (Value.type "tuple") none (Data.seq #[] 0) #[] : Obj)) :: (nat_lit 24, (Obj.mk (Value.type "tuple") none (Data.seq #[Value.str (Str.ofString "now") 199, Value.str (Str.ofString "time") 200, Value.str (Str.ofString "tick") 201] 0) #[] : Obj)) :: (nat_lit 25, (Obj.mk (Value.type "tuple") none (Data.seq #[] 0) #[] : Obj)) :: (nat_lit 27, (Obj.mk (Value.type "code") none (Data.fields #[Value.str (Str.ofString "time_behind") 196, Value.str (Str.ofString "time_behind") 197, Value.str (Str.ofString "/claim/cut.py") 198, Value.int 5 0, Value.int 3 0, Value.int 0 0, Value.int 0 0, Value.int 3 0, Value.ref 22, Value.bool Bool.true, Value.int 181 0, Value.ref 23, Value.none, Value.ref 24, Value.ref 25, Value.ref 26, Value.int 202 0, Value.int 5 0, Value.str (Str.ofString "/claim/cut.py") 203]) #[] : Obj)) :: (nat_lit 28, (Obj.mk (Value.type "function") none (Data.func (FuncData.mk (Str.ofString "time_behind") (Str.ofString "time_behind") (fA (tp 2)) (fB (tp 2)) (fS (tp 2)) 3 [] Value.none Value.none Value.none (Value.str (Str.ofString "switchloom.pause") 194) none (Value.ref 27) Value.none 0)) #[] : Obj)) :: (nat_lit 29, (Obj.mk (Value.type "tuple") none (Data.seq #[Value.type "Exception"] 0) #[] : Obj)) :: (nat_lit 36, (Obj.mk (Value.type "tuple") none (Data.seq #[] 0) #[] : Obj)) :: (nat_lit 38, (Obj.mk (Value.type "tuple") none (Data.seq #[Value.str (Str.ofString "self") 222, Value.str (Str.ofString "message") 223] 0) #[] : Obj)) :: (nat_lit 39, (Obj.mk (Value.type "tuple") none (Data.seq #[] 0) #[] : Obj)) :: (nat_lit 41, (Obj.mk (Value.type "code") none (Data.fields #[Value.str (Str.ofString "__init__") 219, Value.str (Str.ofString "SwitchError.__init__") 220, Value.str (Str.ofString "/claim/cut.py") 221, Value.int 10 0, Value.int 2 0, Value.int 0 0, Value.int 0 0, Value.int 3 0, Value.ref 36, Value.bool Bool.true, Value.int 181 0, Value.ref 37, Value.none, Value.ref 38, Value.ref 39, Value.ref 40, Value.int 224 0, Value.int 10 0, Value.str (Str.ofString "/claim/cut.py") 225]) #[] : Obj)) :: (nat_lit 42, (Obj.mk (Value.type "function") none (Data.func (FuncData.mk (Str.ofString "__init__") (Str.ofString "SwitchError.__init__") (fA (tc 4 0)) (fB (tc 4 0)) (fS (tc 4 0)) 3 [] Value.none Value.none Value.none (Value.str (Str.ofString "switchloom.errors") 205) none (Value.ref 41) Value.none 0)) #[] : Obj)) :: (nat_lit 43, (Obj.mk (Value.type "tuple") none (Data.seq #[Value.str (Str.ofString "message") 227] 0) #[] : Obj)) :: (nat_lit 44, (Obj.mk (Value.type "dict") none (Data.dict #[DictEntry.mk (PyData.keyHash P (Str.ofString "__module__")) (Value.str (Str.ofString "__module__") 214) (Value.str (Str.ofString "switchloom.errors") 205), DictEntry.mk (PyData.keyHash P (Str.ofString "__firstlineno__")) (Value.str (Str.ofString "__firstlineno__") 218) (Value.int 8 217), DictEntry.mk (PyData.keyHash P (Str.ofString "__init__")) (Value.str (Str.ofString "__init__") 226) (Value.ref 42), DictEntry.mk (PyData.keyHash P (Str.ofString "__static_attributes__")) (Value.str (Str.ofString "__static_attributes__") 228) (Value.ref 43), DictEntry.mk (PyData.keyHash P (Str.ofString "__weakref__")) (Value.str (Str.ofString "__weakref__") 230) (Value.ref 46), DictEntry.mk (PyData.keyHash P (Str.ofString "__doc__")) (Value.str (Str.ofString "__doc__") 231) Value.none] 3) #[] : Obj)) :: (nat_lit 45, (Obj.mk (Value.type "type") none (Data.cls (ClassData.mk (Str.ofString "SwitchError") [Value.type "Exception"] [Value.ref 45, Value.type "Exception", Value.type "BaseException", Value.type "object"] 44 (Str.ofString "SwitchError") Bool.true [] [Value.ref 58, Value.ref 70, Value.ref 90] Bool.false none Bool.false)) #[(some (Value.ref 29)), none, (some (Value.str (Str.ofString "SwitchError") 207)), (some (Value.str (Str.ofString "SwitchError") 215)), (some (Value.builtin "Exception.__new__")), (some (Value.bool Bool.true))] : Obj)) :: (nat_lit 46, (Obj.mk (Value.type "getset_descriptor") none (Data.fields #[Value.str (Str.ofString "__weakref__") 229, Value.ref 45, Value.builtin "ExceptionGroup.__weakref__", Value.none]) #[] : Obj)) :: (nat_lit 49, (Obj.mk (Value.type "tuple") none (Data.seq #[Value.ref 45] 0) #[] : Obj)) :: (nat_lit 56, (Obj.mk (Value.type "tuple") none (Data.seq #[] 0) #[] : Obj)) :: (nat_lit 57, (Obj.mk (Value.type "dict") none (Data.dict #[DictEntry.mk (PyData.keyHash P (Str.ofString "__module__")) (Value.str (Str.ofString "__module__") 243) (Value.str (Str.ofString "switchloom.errors") 205), DictEntry.mk (PyData.keyHash P (Str.ofString "__firstlineno__")) (Value.str (Str.ofString "__firstlineno__") 247) (Value.int 13 246), DictEntry.mk (PyData.keyHash P (Str.ofString "__static_attributes__")) (Value.str (Str.ofString "__static_attributes__") 248) (Value.ref 56), DictEntry.mk (PyData.keyHash P (Str.ofString "__doc__")) (Value.str (Str.ofString "__doc__") 249) Value.none] 2) #[] : Obj)) :: (nat_lit 58, (Obj.mk (Value.type "type") none (Data.cls (ClassData.mk (Str.ofString "SizeError") [Value.ref 45] [Value.ref 58, Value.ref 45, Value.type "Exception", Value.type "BaseException", Value.type "object"] 57 (Str.ofString "SizeError") Bool.true [] [] Bool.false none Bool.false)) #[(some (Value.ref 49)), none, (some (Value.str (Str.ofString "SizeError") 236)), (some (Value.str (Str.ofString "SizeError") 244)), (some (Value.builtin "Exception.__new__")), (some (Value.bool Bool.true))] : Obj)) :: (nat_lit 61, (Obj.mk (Value.type "tuple") none (Data.seq #[Value.ref 45] 0) #[] : Obj)) :: (nat_lit 68, (Obj.mk (Value.type "tuple") none (Data.seq #[] 0) #[] : Obj)) :: (nat_lit 69, (Obj.mk (Value.type "dict") none (Data.dict #[DictEntry.mk (PyData.keyHash P (Str.ofString "__module__")) (Value.str (Str.ofString "__module__") 259) (Value.str (Str.ofString "switchloom.errors") 205), DictEntry.mk (PyData.keyHash P (Str.ofString "__firstlineno__")) (Value.str (Str.ofString "__firstlineno__") 263) (Value.int 15 262), DictEntry.mk (PyData.keyHash P (Str.ofString "__static_attributes__")) (Value.str (Str.ofString "__static_attributes__") 264) (Value.ref 68), DictEntry.mk (PyData.keyHash P (Str.ofString "__doc__")) (Value.str (Str.ofString "__doc__") 265) Value.none] 2) #[] : Obj)) :: (nat_lit 70, (Obj.mk (Value.type "type") none (Data.cls (ClassData.mk (Str.ofString "TableError") [Value.ref 45] [Value.ref 70, Value.ref 45, Value.type "Exception", Value.type "BaseException", Value.type "object"] 69 (Str.ofString "TableError") Bool.true [] [] Bool.false none Bool.false)) #[(some (Value.ref 61)), none, (some (Value.str (Str.ofString "TableError") 252)), (some (Value.str (Str.ofString "TableError") 260)), (some (Value.builtin "Exception.__new__")), (some (Value.bool Bool.true))] : Obj)) :: (nat_lit 73, (Obj.mk (Value.type "tuple") none (Data.seq #[Value.ref 45] 0) #[] : Obj)) :: (nat_lit 80, (Obj.mk (Value.type "tuple") none (Data.seq #[Value.int 0 280] 0) #[] : Obj)) :: (nat_lit 81, (Obj.mk (Value.type "tuple") none (Data.seq #[] 0) #[] : Obj)) :: (nat_lit 83, (Obj.mk (Value.type "tuple") none (Data.seq #[Value.str (Str.ofString "self") 284, Value.str (Str.ofString "message") 285, Value.str (Str.ofString "row") 286] 0) #[] : Obj)) :: (nat_lit 84, (Obj.mk (Value.type "tuple") none (Data.seq #[] 0) #[] : Obj)) :: (nat_lit 86, (Obj.mk (Value.type "code") none (Data.fields #[Value.str (Str.ofString "__init__") 281, Value.str (Str.ofString "SettingError.__init__") 282, Value.str (Str.ofString "/claim/cut.py") 283, Value.int 19 0, Value.int 3 0, Value.int 0 0, Value.int 0 0, Value.int 3 0, Value.ref 81, Value.bool Bool.true, Value.int 181 0, Value.ref 82, Value.none, Value.ref 83, Value.ref 84, Value.ref 85, Value.int 287 0, Value.int 19 0, Value.str (Str.ofString "/claim/cut.py") 288]) #[] : Obj)) :: (nat_lit 87, (Obj.mk (Value.type "function") none (Data.func (FuncData.mk (Str.ofString "__init__") (Str.ofString "SettingError.__init__") (fA (tc 7 0)) (fB (tc 7 0)) (fS (tc 7 0)) 3 [] (Value.ref 80) Value.none Value.none (Value.str (Str.ofString "switchloom.errors") 205) none (Value.ref 86) Value.none 0)) #[] : Obj)) :: (nat_lit 88, (Obj.mk (Value.type "tuple") none (Data.seq #[Value.str (Str.ofString "row") 290] 0) #[] : Obj)) :: (nat_lit 89, (Obj.mk (Value.type "dict") none (Data.dict #[DictEntry.mk (PyData.keyHash P (Str.ofString "__module__")) (Value.str (Str.ofString "__module__") 275) (Value.str (Str.ofString "switchloom.errors") 205), DictEntry.mk (PyData.keyHash P (Str.ofString "__firstlineno__")) (Value.str (Str.ofString "__firstlineno__") 279) (Value.int 17 278), DictEntry.mk (PyData.keyHash P (Str.ofString "__init__")) (Value.str (Str.ofString "__init__") 289) (Value.ref 87), DictEntry.mk (PyData.keyHash P (Str.ofString "__static_attributes__")) (Value.str (Str.ofString "__static_attributes__") 291) (Value.ref 88), DictEntry.mk (PyData.keyHash P (Str.ofString "__doc__")) (Value.str (Str.ofString "__doc__") 292) Value.none] 2) #[] : Obj)) :: (nat_lit 90, (Obj.mk (Value.type "type") none (Data.cls (ClassData.mk (Str.ofString "SettingError") [Value.ref 45] [Value.ref 90, Value.ref 45, Value.type "Exception", Value.type "BaseException", Value.type "object"] 89 (Str.ofString "SettingError") Bool.true [] [] Bool.false none Bool.false)) #[(some (Value.ref 73)), none, (some (Value.str (Str.ofString "SettingError") 268)), (some (Value.str (Str.ofString "SettingError") 276)), (some (Value.builtin "Exception.__new__")), (some (Value.bool Bool.true))] : Obj)) :: (nat_lit 93, (Obj.mk (Value.type "tuple") none (Data.seq #[] 0) #[] : Obj)) :: (nat_lit 95, (Obj.mk (Value.type "tuple") none (Data.seq #[Value.str (Str.ofString "numbers") 300, Value.str (Str.ofString "found") 301, Value.str (Str.ofString "number") 302, Value.str (Str.ofString "one") 303, Value.str (Str.ofString "other") 304] 0) #[] : Obj)) :: (nat_lit 96, (Obj.mk (Value.type "tuple") none (Data.seq #[] 0) #[] : Obj)) :: (nat_lit 98, (Obj.mk (Value.type "code") none (Data.fields #[Value.str (Str.ofString "least_multiple") 297, Value.str (Str.ofString "least_multiple") 298, Value.str (Str.ofString "/claim/cut.py") 299, Value.int 23 0, Value.int 1 0, Value.int 0 0, Value.int 0 0, Value.int 3 0, Value.ref 93, Value.bool Bool.true, Value.int 181 0, Value.ref 94, Value.none, Value.ref 95, Value.ref 96, Value.ref 97, Value.int 305 0, Value.int 23 0, Value.str (Str.ofString "/claim/cut.py") 306]) #[] : Obj)) :: (nat_lit 99, (Obj.mk (Value.type "function") none (Data.func (FuncData.mk (Str.ofString "least_multiple") (Str.ofString "least_multiple") (fA (tp 9)) (fB (tp 9)) (fS (tp 9)) 3 [] Value.none Value.none Value.none (Value.str (Str.ofString "switchloom.fair_queues") 295) none (Value.ref 98) Value.none 0)) #[] : Obj)) :: (nat_lit 100, (Obj.mk (Value.type "tuple") none (Data.seq #[] 0) #[] : Obj)) :: (nat_lit 102, (Obj.mk (Value.type "tuple") none (Data.seq #[Value.str (Str.ofString "frame") 319, Value.str (Str.ofString "field") 320] 0) #[] : Obj)) :: (nat_lit 103, (Obj.mk (Value.type "tuple") none (Data.seq #[] 0) #[] : Obj)) :: (nat_lit 105, (Obj.mk (Value.type "code") none (Data.fields #[Value.str (Str.ofString "field_worth") 316, Value.str (Str.ofString "field_worth") 317, Value.str (Str.ofString "/claim/cut.py") 318, Value.int 35 0, Value.int 2 0, Value.int 0 0, Value.int 0 0, Value.int 3 0, Value.ref 100, Value.bool Bool.true, Value.int 181 0, Value.ref 101, Value.none, Value.ref 102, Value.ref 103, Value.ref 104, Value.int 321 0, Value.int 35 0, Value.str (Str.ofString "/claim/cut.py") 322]) #[] : Obj)) :: (nat_lit 106, (Obj.mk (Value.type "function") none (Data.func (FuncData.mk (Str.ofString "field_worth") (Str.ofString "field_worth") (fA (tp 14)) (fB (tp 14)) (fS (tp 14)) 3 [] Value.none Value.none Value.none (Value.str (Str.ofString "switchloom.flow_hash") 308) none (Value.ref 105) Value.none 0)) #[] : Obj)) :: (nat_lit 107, (Obj.mk (Value.type "tuple") none (Data.seq #[] 0) #[] : Obj)) :: (nat_lit 109, (Obj.mk (Value.type "tuple") none (Data.seq #[Value.str (Str.ofString "worth") 327, Value.str (Str.ofString "more") 328, Value.str (Str.ofString "seed") 329] 0) #[] : Obj)) :: (nat_lit 110, (Obj.mk (Value.type "tuple") none (Data.seq #[] 0) #[] : Obj)) :: (nat_lit 112, (Obj.mk (Value.type "code") none (Data.fields #[Value.str (Str.ofString "mixed_worth") 324, Value.str (Str.ofString "mixed_worth") 325, Value.str (Str.ofString "/claim/cut.py") 326, Value.int 43 0, Value.int 3 0, Value.int 0 0, Value.int 0 0, Value.int 3 0, Value.ref 107, Value.bool Bool.true, Value.int 181 0, Value.ref 108, Value.none, Value.ref 109, Value.ref 110, Value.ref 111, Value.int 330 0, Value.int 43 0, Value.str (Str.ofString "/claim/cut.py") 331]) #[] : Obj)) :: (nat_lit 113, (Obj.mk (Value.type "function") none (Data.func (FuncData.mk (Str.ofString "mixed_worth") (Str.ofString "mixed_worth") (fA (tp 15)) (fB (tp 15)) (fS (tp 15)) 3 [] Value.none Value.none Value.none (Value.str (Str.ofString "switchloom.flow_hash") 308) none (Value.ref 112) Value.none 0)) #[] : Obj)) :: (nat_lit 121, (Obj.mk (Value.type "tuple") none (Data.seq #[] 0) #[] : Obj)) :: (nat_lit 123, (Obj.mk (Value.type "tuple") none (Data.seq #[Value.str (Str.ofString "self") 358, Value.str (Str.ofString "kind") 359, Value.str (Str.ofString "priority") 360, Value.str (Str.ofString "may_drop") 361, Value.str (Str.ofString "vlan") 362] 0) #[] : Obj)) :: (nat_lit 124, (Obj.mk (Value.type "tuple") none (Data.seq #[] 0) #[] : Obj)) :: (nat_lit 126, (Obj.mk (Value.type "code") none (Data.fields #[Value.str (Str.ofString "__init__") 355, Value.str (Str.ofString "Tag.__init__") 356, Value.str (Str.ofString "/claim/cut.py") 357, Value.int 53 0, Value.int 5 0, Value.int 0 0, Value.int 0 0, Value.int 3 0, Value.ref 121, Value.bool Bool.true, Value.int 181 0, Value.ref 122, Value.none, Value.ref 123, Value.ref 124, Value.ref 125, Value.int 363 0, Value.int 53 0, Value.str (Str.ofString "/claim/cut.py") 364]) #[] : Obj)) :: (nat_lit 127, (Obj.mk (Value.type "function") none (Data.func (FuncData.mk (Str.ofString "__init__") (Str.ofString "Tag.__init__") (fA (tc 21 0)) (fB (tc 21 0)) (fS (tc 21 0)) 3 [] Value.none Value.none Value.none (Value.str (Str.ofString "switchloom.frames") 333) none (Value.ref 126) Value.none 0)) #[] : Obj)) :: (nat_lit 128, (Obj.mk (Value.type "tuple") none (Data.seq #[] 0) #[] : Obj)) :: (nat_lit 130, (Obj.mk (Value.type "tuple") none (Data.seq #[Value.str (Str.ofString "self") 369] 0) #[] : Obj)) :: (nat_lit 131, (Obj.mk (Value.type "tuple") none (Data.seq #[] 0) #[] : Obj)) :: (nat_lit 133, (Obj.mk (Value.type "code") none (Data.fields #[Value.str (Str.ofString "told") 366, Value.str (Str.ofString "Tag.told") 367, Value.str (Str.ofString "/claim/cut.py") 368, Value.int 59 0, Value.int 1 0, Value.int 0 0, Value.int 0 0, Value.int 3 0, Value.ref 128, Value.bool Bool.true, Value.int 181 0, Value.ref 129, Value.none, Value.ref 130, Value.ref 131, Value.ref 132, Value.int 370 0, Value.int 59 0, Value.str (Str.ofString "/claim/cut.py") 371]) #[] : Obj)) :: (nat_lit 134, (Obj.mk (Value.type "function") none (Data.func (FuncData.mk (Str.ofString "told") (Str.ofString "Tag.told") (fA (tc 21 1)) (fB (tc 21 1)) (fS (tc 21 1)) 3 [] Value.none Value.none Value.none (Value.str (Str.ofString "switchloom.frames") 333) none (Value.ref 133) Value.none 0)) #[] : Obj)) :: (nat_lit 135, (Obj.mk (Value.type "tuple") none (Data.seq #[Value.str (Str.ofString "kind") 373, Value.str (Str.ofString "may_drop") 374, Value.str (Str.ofString "priority") 375, Value.str (Str.ofString "vlan") 376] 0) #[] : Obj)) :: (nat_lit 136, (Obj.mk (Value.type "dict") none (Data.dict #[DictEntry.mk (PyData.keyHash P (Str.ofString "__module__")) (Value.str (Str.ofString "__module__") 350) (Value.str (Str.ofString "switchloom.frames") 333), DictEntry.mk (PyData.keyHash P (Str.ofString "__firstlineno__")) (Value.str (Str.ofString "__firstlineno__") 354) (Value.int 51 353), DictEntry.mk (PyData.keyHash P (Str.ofString "__init__")) (Value.str (Str.ofString "__init__") 365) (Value.ref 127), DictEntry.mk (PyData.keyHash P (Str.ofString "told")) (Value.str (Str.ofString "told") 372) (Value.ref 134), DictEntry.mk (PyData.keyHash P (Str.ofString "__static_attributes__")) (Value.str (Str.ofString "__static_attributes__") 377) (Value.ref 135), DictEntry.mk (PyData.keyHash P (Str.ofString "__dict__")) (Value.str (Str.ofString "__dict__") 379) (Value.ref 138), DictEntry.mk (PyData.keyHash P (Str.ofString "__weakref__")) (Value.str (Str.ofString "__weakref__") 381) (Value.ref 139), DictEntry.mk (PyData.keyHash P (Str.ofString "__doc__")) (Value.str (Str.ofString "__doc__") 382) Value.none] 4) #[] : Obj)) :: (nat_lit 137, (Obj.mk (Value.type "type") none (Data.cls (ClassData.mk (Str.ofString "Tag") [Value.type "object"] [Value.ref 137, Value.type "object"] 136 (Str.ofString "Tag") Bool.true [] [] Bool.false none Bool.false)) #[none, none, (some (Value.str (Str.ofString "Tag") 343)), (some (Value.str (Str.ofString "Tag") 351)), (some (Value.builtin "object.__new__")), (some (Value.bool Bool.true))] : Obj)) :: (nat_lit 138, (Obj.mk (Value.type "getset_descriptor") none (Data.fields #[Value.str (Str.ofString "__dict__") 378, Value.ref 137, Value.builtin "function.__dict__", Value.builtin "function.__dict__#set"]) #[] : Obj)) :: (nat_lit 139, (Obj.mk (Value.type "getset_descriptor") none (Data.fields #[Value.str (Str.ofString "__weakref__") 380, Value.ref 137, Value.builtin "ExceptionGroup.__weakref__", Value.none]) #[] : Obj)) :: (nat_lit 149, (Obj.mk (Value.type "tuple") none (Data.seq #[] 0) #[] : Obj)) :: (nat_lit 151, (Obj.mk (Value.type "tuple") none (Data.seq #[Value.str (Str.ofString "self") 400, Value.str (Str.ofString "target") 401, Value.str (Str.ofString "source") 402, Value.str (Str.ofString "tags") 403, Value.str (Str.ofString "kind") 404, Value.str (Str.ofString "payload") 405] 0) #[] : Obj)) :: (nat_lit 152, (Obj.mk (Value.type "tuple") none (Data.seq #[] 0) #[] : Obj)) :: (nat_lit 154, (Obj.mk (Value.type "code") none (Data.fields #[Value.str (Str.ofString "__init__") 397, Value.str (Str.ofString "Frame.__init__") 398, Value.str (Str.ofString "/claim/cut.py") 399, Value.int 63 0, Value.int 6 0, Value.int 0 0, Value.int 0 0, Value.int 3 0, Value.ref 149, Value.bool Bool.true, Value.int 181 0, Value.ref 150, Value.none, Value.ref 151, Value.ref 152, Value.ref 153, Value.int 406 0, Value.int 63 0, Value.str (Str.ofString "/claim/cut.py") 407]) #[] : Obj)) :: (nat_lit 155, (Obj.mk (Value.type "function") none (Data.func (FuncData.mk (Str.ofString "__init__") (Str.ofString "Frame.__init__") (fA (tc 22 0)) (fB (tc 22 0)) (fS (tc 22 0)) 3 [] Value.none Value.none Value.none (Value.str (Str.ofString "switchloom.frames") 333) none (Value.ref 154) Value.none 0)) #[] : Obj)) :: (nat_lit 156, (Obj.mk (Value.type "tuple") none (Data.seq #[] 0) #[] : Obj)) :: (nat_lit 159, (Obj.mk (Value.type "code") none (Data.fields #[Value.str (Str.ofString "told") 409, Value.str (Str.ofString "Frame.told") 410, Value.str (Str.ofString "/claim/cut.py") 411, Value.int 70 0, Value.int 1 0, Value.int 0 0, Value.int 0 0, Value.int 3 0, Value.ref 156, Value.bool Bool.true, Value.int 181 0, Value.ref 157, Value.none, Value.none, Value.none, Value.ref 158, Value.int 412 0, Value.int 70 0, Value.str (Str.ofString "/claim/cut.py") 413]) #[] : Obj)) :: (nat_lit 160, (Obj.mk (Value.type "function") none (Data.func (FuncData.mk (Str.ofString "told") (Str.ofString "Frame.told") (fA (tc 22 1)) (fB (tc 22 1)) (fS (tc 22 1)) 3 [] Value.none Value.none Value.none (Value.str (Str.ofString "switchloom.frames") 333) none (Value.ref 159) Value.none 0)) #[] : Obj)) :: (nat_lit 161, (Obj.mk (Value.type "tuple") none (Data.seq #[Value.int 60 341] 0) #[] : Obj)) :: (nat_lit 162, (Obj.mk (Value.type "tuple") none (Data.seq #[] 0) #[] : Obj)) :: (nat_lit 164, (Obj.mk (Value.type "tuple") none (Data.seq #[Value.str (Str.ofString "self") 418, Value.str (Str.ofString "least") 419] 0) #[] : Obj)) :: (nat_lit 165, (Obj.mk (Value.type "tuple") none (Data.seq #[] 0) #[] : Obj)) :: (nat_lit 167, (Obj.mk (Value.type "code") none (Data.fields #[Value.str (Str.ofString "size") 415, Value.str (Str.ofString "Frame.size") 416, Value.str (Str.ofString "/claim/cut.py") 417, Value.int 73 0, Value.int 2 0, Value.int 0 0, Value.int 0 0, Value.int 3 0, Value.ref 162, Value.bool Bool.true, Value.int 181 0, Value.ref 163, Value.none, Value.ref 164, Value.ref 165, Value.ref 166, Value.int 420 0, Value.int 73 0, Value.str (Str.ofString "/claim/cut.py") 421]) #[] : Obj)) :: (nat_lit 168, (Obj.mk (Value.type "function") none (Data.func (FuncData.mk (Str.ofString "size") (Str.ofString "Frame.size") (fA (tc 22 2)) (fB (tc 22 2)) (fS (tc 22 2)) 3 [] (Value.ref 161) Value.none Value.none (Value.str (Str.ofString "switchloom.frames") 333) none (Value.ref 167) Value.none 0)) #[] : Obj)) :: (nat_lit 169, (Obj.mk (Value.type "tuple") none (Data.seq #[Value.str (Str.ofString "kind") 423, Value.str (Str.ofString "payload") 424, Value.str (Str.ofString "source") 425, Value.str (Str.ofString "tags") 426, Value.str (Str.ofString "target") 427] 0) #[] : Obj)) :: (nat_lit 170, (Obj.mk (Value.type "dict") none (Data.dict #[DictEntry.mk (PyData.keyHash P (Str.ofString "__module__")) (Value.str (Str.ofString "__module__") 392) (Value.str (Str.ofString "switchloom.frames") 333), DictEntry.mk (PyData.keyHash P (Str.ofString "__firstlineno__")) (Value.str (Str.ofString "__firstlineno__") 396) (Value.int 61 395), DictEntry.mk (PyData.keyHash P (Str.ofString "__init__")) (Value.str (Str.ofString "__init__") 408) (Value.ref 155), DictEntry.mk (PyData.keyHash P (Str.ofString "told")) (Value.str (Str.ofString "told") 414) (Value.ref 160), DictEntry.mk (PyData.keyHash P (Str.ofString "size")) (Value.str (Str.ofString "size") 422) (Value.ref 168), DictEntry.mk (PyData.keyHash P (Str.ofString "__static_attributes__")) (Value.str (Str.ofString "__static_attributes__") 428) (Value.ref 169), DictEntry.mk (PyData.keyHash P (Str.ofString "__dict__")) (Value.str (Str.ofString "__dict__") 430) (Value.ref 172), DictEntry.mk (PyData.keyHash P (Str.ofString "__weakref__")) (Value.str (Str.ofString "__weakref__") 432) (Value.ref 173), DictEntry.mk (PyData.keyHash P (Str.ofString "__doc__")) (Value.str (Str.ofString "__doc__") 433) Value.none] 4) #[] : Obj)) :: (nat_lit 171, (Obj.mk (Value.type "type") none (Data.cls (ClassData.mk (Str.ofString "Frame") [Value.type "object"] [Value.ref 171, Value.type "object"] 170 (Str.ofString "Frame") Bool.true [] [] Bool.false none Bool.false)) #[none, none, (some (Value.str (Str.ofString "Frame") 385)), (some (Value.str (Str.ofString "Frame") 393)), (some (Value.builtin "object.__new__")), (some (Value.bool Bool.true))] : Obj)) :: (nat_lit 172, (Obj.mk (Value.type "getset_descriptor") none (Data.fields #[Value.str (Str.ofString "__dict__") 429, Value.ref 171, Value.builtin "function.__dict__", Value.builtin "function.__dict__#set"]) #[] : Obj)) :: (nat_lit 173, (Obj.mk (Value.type "getset_descriptor") none (Data.fields #[Value.str (Str.ofString "__weakref__") 431, Value.ref 171, Value.builtin "ExceptionGroup.__weakref__", Value.none]) #[] : Obj)) :: (nat_lit 176, (Obj.mk (Value.type "tuple") none (Data.seq #[Value.str (Str.ofString "green") 438, Value.str (Str.ofString "yellow") 440, Value.str (Str.ofString "red") 442] 0) #[] : Obj)) :: (nat_lit 177, (Obj.mk (Value.type "tuple") none (Data.seq #[] 0) #[] : Obj)) :: (nat_lit 179, (Obj.mk (Value.type "tuple") none (Data.seq #[Value.str (Str.ofString "before") 448, Value.str (Str.ofString "is_aware") 449] 0) #[] : Obj)) :: (nat_lit 180, (Obj.mk (Value.type "tuple") none (Data.seq #[] 0) #[] : Obj)) :: (nat_lit 182, (Obj.mk (Value.type "code") none (Data.fields #[Value.str (Str.ofString "colour_before") 445, Value.str (Str.ofString "colour_before") 446, Value.str (Str.ofString "/claim/cut.py") 447, Value.int 80 0, Value.int 2 0, Value.int 0 0, Value.int 0 0, Value.int 3 0, Value.ref 177, Value.bool Bool.true, Value.int 181 0, Value.ref 178, Value.none, Value.ref 179, Value.ref 180, Value.ref 181, Value.int 450 0, Value.int 80 0, Value.str (Str.ofString "/claim/cut.py") 451]) #[] : Obj)) :: (nat_lit 183, (Obj.mk (Value.type "function") none (Data.func (FuncData.mk (Str.ofString "colour_before") (Str.ofString "colour_before") (fA (tp 28)) (fB (tp 28)) (fS (tp 28)) 3 [] Value.none Value.none Value.none (Value.str (Str.ofString "switchloom.policers") 436) none (Value.ref 182) Value.none 0)) #[] : Obj)) :: (nat_lit 191, (Obj.mk (Value.type "tuple") none (Data.seq #[Value.bool Bool.false, Value.bool Bool.true, Value.int 1500 467] 0) #[] : Obj)) :: (nat_lit 192, (Obj.mk (Value.type "tuple") none (Data.seq #[] 0) #[] : Obj)) :: (nat_lit 194, (Obj.mk (Value.type "tuple") none (Data.seq #[Value.str (Str.ofString "self") 471, Value.str (Str.ofString "number") 472, Value.str (Str.ofString "speed") 473, Value.str (Str.ofString "is_up") 474, Value.str (Str.ofString "is_full") 475, Value.str (Str.ofString "mtu") 476] 0) #[] : Obj)) :: (nat_lit 195, (Obj.mk (Value.type "tuple") none (Data.seq #[] 0) #[] : Obj)) :: (nat_lit 197, (Obj.mk (Value.type "code") none (Data.fields #[Value.str (Str.ofString "__init__") 468, Value.str (Str.ofString "Port.__init__") 469, Value.str (Str.ofString "/claim/cut.py") 470, Value.int 89 0, Value.int 6 0, Value.int 0 0, Value.int 0 0, Value.int 3 0, Value.ref 192, Value.bool Bool.true, Value.int 181 0, Value.ref 193, Value.none, Value.ref 194, Value.ref 195, Value.ref 196, Value.int 477 0, Value.int 89 0, Value.str (Str.ofString "/claim/cut.py") 478]) #[] : Obj)) :: (nat_lit 198, (Obj.mk (Value.type "function") none (Data.func (FuncData.mk (Str.ofString "__init__") (Str.ofString "Port.__init__") (fA (tc 30 0)) (fB (tc 30 0)) (fS (tc 30 0)) 3 [] (Value.ref 191) Value.none Value.none (Value.str (Str.ofString "switchloom.ports") 453) none (Value.ref 197) Value.none 0)) #[] : Obj)) :: (nat_lit 199, (Obj.mk (Value.type "tuple") none (Data.seq #[Value.str (Str.ofString "is_full") 480, Value.str (Str.ofString "is_up") 481, Value.str (Str.ofString "mtu") 482, Value.str (Str.ofString "number") 483, Value.str (Str.ofString "speed") 484] 0) #[] : Obj)) :: (nat_lit 200, (Obj.mk (Value.type "dict") none (Data.dict #[DictEntry.mk (PyData.keyHash P (Str.ofString "__module__")) (Value.str (Str.ofString "__module__") 462) (Value.str (Str.ofString "switchloom.ports") 453), DictEntry.mk (PyData.keyHash P (Str.ofString "__firstlineno__")) (Value.str (Str.ofString "__firstlineno__") 466) (Value.int 87 465), DictEntry.mk (PyData.keyHash P (Str.ofString "__init__")) (Value.str (Str.ofString "__init__") 479) (Value.ref 198), DictEntry.mk (PyData.keyHash P (Str.ofString "__static_attributes__")) (Value.str (Str.ofString "__static_attributes__") 485) (Value.ref 199), DictEntry.mk (PyData.keyHash P (Str.ofString "__dict__")) (Value.str (Str.ofString "__dict__") 487) (Value.ref 202), DictEntry.mk (PyData.keyHash P (Str.ofString "__weakref__")) (Value.str (Str.ofString "__weakref__") 489) (Value.ref 203), DictEntry.mk (PyData.keyHash P (Str.ofString "__doc__")) (Value.str (Str.ofString "__doc__") 490) Value.none] 4) #[] : Obj)) :: (nat_lit 201, (Obj.mk (Value.type "type") none (Data.cls (ClassData.mk (Str.ofString "Port") [Value.type "object"] [Value.ref 201, Value.type "object"] 200 (Str.ofString "Port") Bool.true [] [] Bool.false none Bool.false)) #[none, none, (some (Value.str (Str.ofString "Port") 455)), (some (Value.str (Str.ofString "Port") 463)), (some (Value.builtin "object.__new__")), (some (Value.bool Bool.true))] : Obj)) :: (nat_lit 202, (Obj.mk (Value.type "getset_descriptor") none (Data.fields #[Value.str (Str.ofString "__dict__") 486, Value.ref 201, Value.builtin "function.__dict__", Value.builtin "function.__dict__#set"]) #[] : Obj)) :: (nat_lit 203, (Obj.mk (Value.type "getset_descriptor") none (Data.fields #[Value.str (Str.ofString "__weakref__") 488, Value.ref 201, Value.builtin "ExceptionGroup.__weakref__", Value.none]) #[] : Obj)) :: (nat_lit 213, (Obj.mk (Value.type "tuple") none (Data.seq #[] 0) #[] : Obj)) :: (nat_lit 215, (Obj.mk (Value.type "tuple") none (Data.seq #[Value.str (Str.ofString "self") 508] 0) #[] : Obj)) :: (nat_lit 216, (Obj.mk (Value.type "tuple") none (Data.seq #[] 0) #[] : Obj)) :: (nat_lit 218, (Obj.mk (Value.type "code") none (Data.fields #[Value.str (Str.ofString "__init__") 505, Value.str (Str.ofString "LinkWatch.__init__") 506, Value.str (Str.ofString "/claim/cut.py") 507, Value.int 97 0, Value.int 1 0, Value.int 0 0, Value.int 0 0, Value.int 3 0, Value.ref 213, Value.bool Bool.true, Value.int 181 0, Value.ref 214, Value.none, Value.ref 215, Value.ref 216, Value.ref 217, Value.int 509 0, Value.int 97 0, Value.str (Str.ofString "/claim/cut.py") 510]) #[] : Obj)) :: (nat_lit 219, (Obj.mk (Value.type "function") none (Data.func (FuncData.mk (Str.ofString "__init__") (Str.ofString "LinkWatch.__init__") (fA (tc 31 0)) (fB (tc 31 0)) (fS (tc 21 1)) 3 [] Value.none Value.none Value.none (Value.str (Str.ofString "switchloom.ports") 453) none (Value.ref 218) Value.none 0)) #[] : Obj)) :: (nat_lit 220, (Obj.mk (Value.type "tuple") none (Data.seq #[] 0) #[] : Obj)) :: (nat_lit 222, (Obj.mk (Value.type "tuple") none (Data.seq #[Value.str (Str.ofString "self") 515, Value.str (Str.ofString "now") 516] 0) #[] : Obj)) :: (nat_lit 223, (Obj.mk (Value.type "tuple") none (Data.seq #[] 0) #[] : Obj)) :: (nat_lit 225, (Obj.mk (Value.type "code") none (Data.fields #[Value.str (Str.ofString "is_held") 512, Value.str (Str.ofString "LinkWatch.is_held") 513, Value.str (Str.ofString "/claim/cut.py") 514, Value.int 102 0, Value.int 2 0, Value.int 0 0, Value.int 0 0, Value.int 3 0, Value.ref 220, Value.bool Bool.true, Value.int 181 0, Value.ref 221, Value.none, Value.ref 222, Value.ref 223, Value.ref 224, Value.int 517 0, Value.int 102 0, Value.str (Str.ofString "/claim/cut.py") 518]) #[] : Obj)) :: (nat_lit 226, (Obj.mk (Value.type "function") none (Data.func (FuncData.mk (Str.ofString "is_held") (Str.ofString "LinkWatch.is_held") (fA (tc 31 1)) (fB (tc 31 1)) (fS (tc 31 1)) 3 [] Value.none Value.none Value.none (Value.str (Str.ofString "switchloom.ports") 453) none (Value.ref 225) Value.none 0)) #[] : Obj)) :: (nat_lit 227, (Obj.mk (Value.type "tuple") none (Data.seq #[] 0) #[] : Obj)) :: (nat_lit 230, (Obj.mk (Value.type "code") none (Data.fields #[Value.str (Str.ofString "recent") 520, Value.str (Str.ofString "LinkWatch.recent") 521, Value.str (Str.ofString "/claim/cut.py") 522, Value.int 105 0, Value.int 3 0, Value.int 0 0, Value.int 0 0, Value.int 3 0, Value.ref 227, Value.bool Bool.true, Value.int 181 0, Value.ref 228, Value.none, Value.none, Value.none, Value.ref 229, Value.int 523 0, Value.int 105 0, Value.str (Str.ofString "/claim/cut.py") 524]) #[] : Obj)) :: (nat_lit 231, (Obj.mk (Value.type "function") none (Data.func (FuncData.mk (Str.ofString "recent") (Str.ofString "LinkWatch.recent") (fA (tc 31 2)) (fB (tc 31 2)) (fS (tc 31 2)) 3 [] Value.none Value.none Value.none (Value.str (Str.ofString "switchloom.ports") 453) none (Value.ref 230) Value.none 0)) #[] : Obj)) :: (nat_lit 232, (Obj.mk (Value.type "tuple") none (Data.seq #[Value.str (Str.ofString "held_until") 526, Value.str (Str.ofString "is_there") 527, Value.str (Str.ofString "ups") 528] 0) #[] : Obj)) :: (nat_lit 233, (Obj.mk (Value.type "dict") none (Data.dict #[DictEntry.mk (PyData.keyHash P (Str.ofString "__module__")) (Value.str (Str.ofString "__module__") 500) (Value.str (Str.ofString "switchloom.ports") 453), DictEntry.mk (PyData.keyHash P (Str.ofString "__firstlineno__")) (Value.str (Str.ofString "__firstlineno__") 504) (Value.int 95 503), DictEntry.mk (PyData.keyHash P (Str.ofString "__init__")) (Value.str (Str.ofString "__init__") 511) (Value.ref 219), DictEntry.mk (PyData.keyHash P (Str.ofString "is_held")) (Value.str (Str.ofString "is_held") 519) (Value.ref 226), DictEntry.mk (PyData.keyHash P (Str.ofString "recent")) (Value.str (Str.ofString "recent") 525) (Value.ref 231), DictEntry.mk (PyData.keyHash P (Str.ofString "__static_attributes__")) (Value.str (Str.ofString "__static_attributes__") 529) (Value.ref 232), DictEntry.mk (PyData.keyHash P (Str.ofString "__dict__")) (Value.str (Str.ofString "__dict__") 531) (Value.ref 235), DictEntry.mk (PyData.keyHash P (Str.ofString "__weakref__")) (Value.str (Str.ofString "__weakref__") 533) (Value.ref 236), DictEntry.mk (PyData.keyHash P (Str.ofString "__doc__")) (Value.str (Str.ofString "__doc__") 534) Value.none] 4) #[] : Obj)) :: (nat_lit 234, (Obj.mk (Value.type "type") none (Data.cls (ClassData.mk (Str.ofString "LinkWatch") [Value.type "object"] [Value.ref 234, Value.type "object"] 233 (Str.ofString "LinkWatch") Bool.true [] [] Bool.false none Bool.false)) #[none, none, (some (Value.str (Str.ofString "LinkWatch") 493)), (some (Value.str (Str.ofString "LinkWatch") 501)), (some (Value.builtin "object.__new__")), (some (Value.bool Bool.true))] : Obj)) :: (nat_lit 235, (Obj.mk (Value.type "getset_descriptor") none (Data.fields #[Value.str (Str.ofString "__dict__") 530, Value.ref 234, Value.builtin "function.__dict__", Value.builtin "function.__dict__#set"]) #[] : Obj)) :: (nat_lit 236, (Obj.mk (Value.type "getset_descriptor") none (Data.fields #[Value.str (Str.ofString "__weakref__") 532, Value.ref 234, Value.builtin "ExceptionGroup.__weakref__", Value.none]) #[] : Obj)) :: (nat_lit 246, (Obj.mk (Value.type "tuple") none (Data.seq #[Value.none, Value.int 0 549, Value.int 0 550] 0) #[] : Obj)) :: (nat_lit 247, (Obj.mk (Value.type "tuple") none (Data.seq #[] 0) #[] : Obj)) :: (nat_lit 249, (Obj.mk (Value.type "tuple") none (Data.seq #[Value.str (Str.ofString "self") 554, Value.str (Str.ofString "most") 555, Value.str (Str.ofString "span") 556, Value.str (Str.ofString "hold") 557] 0) #[] : Obj)) :: (nat_lit 250, (Obj.mk (Value.type "tuple") none (Data.seq #[] 0) #[] : Obj)) :: (nat_lit 252, (Obj.mk (Value.type "code") none (Data.fields #[Value.str (Str.ofString "__init__") 551, Value.str (Str.ofString "Ports.__init__") 552, Value.str (Str.ofString "/claim/cut.py") 553, Value.int 110 0, Value.int 4 0, Value.int 0 0, Value.int 0 0, Value.int 3 0, Value.ref 247, Value.bool Bool.true, Value.int 181 0, Value.ref 248, Value.none, Value.ref 249, Value.ref 250, Value.ref 251, Value.int 558 0, Value.int 110 0, Value.str (Str.ofString "/claim/cut.py") 559]) #[] : Obj)) :: (nat_lit 253, (Obj.mk (Value.type "function") none (Data.func (FuncData.mk (Str.ofString "__init__") (Str.ofString "Ports.__init__") (fA (tc 32 0)) (fB (tc 32 0)) (fS (tc 32 0)) 3 [] (Value.ref 246) Value.none Value.none (Value.str (Str.ofString "switchloom.ports") 453) none (Value.ref 252) Value.none 0)) #[] : Obj)) :: (nat_lit 254, (Obj.mk (Value.type "tuple") none (Data.seq #[] 0) #[] : Obj)) :: (nat_lit 256, (Obj.mk (Value.type "tuple") none (Data.seq #[Value.str (Str.ofString "self") 564, Value.str (Str.ofString "port") 565] 0) #[] : Obj)) :: (nat_lit 257, (Obj.mk (Value.type "tuple") none (Data.seq #[] 0) #[] : Obj)) :: (nat_lit 259, (Obj.mk (Value.type "code") none (Data.fields #[Value.str (Str.ofString "add") 561, Value.str (Str.ofString "Ports.add") 562, Value.str (Str.ofString "/claim/cut.py") 563, Value.int 120 0, Value.int 2 0, Value.int 0 0, Value.int 0 0, Value.int 3 0, Value.ref 254, Value.bool Bool.true, Value.int 181 0, Value.ref 255, Value.none, Value.ref 256, Value.ref 257, Value.ref 258, Value.int 566 0, Value.int 120 0, Value.str (Str.ofString "/claim/cut.py") 567]) #[] : Obj)) :: (nat_lit 260, (Obj.mk (Value.type "function") none (Data.func (FuncData.mk (Str.ofString "add") (Str.ofString "Ports.add") (fA (tc 32 1)) (fB (tc 32 1)) (fS (tc 32 1)) 3 [] Value.none Value.none Value.none (Value.str (Str.ofString "switchloom.ports") 453) none (Value.ref 259) Value.none 0)) #[] : Obj)) :: (nat_lit 261, (Obj.mk (Value.type "tuple") none (Data.seq #[] 0) #[] : Obj)) :: (nat_lit 263, (Obj.mk (Value.type "tuple") none (Data.seq #[Value.str (Str.ofString "self") 572, Value.str (Str.ofString "number") 573] 0) #[] : Obj)) :: (nat_lit 264, (Obj.mk (Value.type "tuple") none (Data.seq #[] 0) #[] : Obj)) :: (nat_lit 266, (Obj.mk (Value.type "code") none (Data.fields #[Value.str (Str.ofString "port") 569, Value.str (Str.ofString "Ports.port") 570, Value.str (Str.ofString "/claim/cut.py") 571, Value.int 129 0, Value.int 2 0, Value.int 0 0, Value.int 0 0, Value.int 3 0, Value.ref 261, Value.bool Bool.true, Value.int 181 0, Value.ref 262, Value.none, Value.ref 263, Value.ref 264, Value.ref 265, Value.int 574 0, Value.int 129 0, Value.str (Str.ofString "/claim/cut.py") 575]) #[] : Obj)) :: (nat_lit 267, (Obj.mk (Value.type "function") none (Data.func (FuncData.mk (Str.ofString "port") (Str.ofString "Ports.port") (fA (tc 32 2)) (fB (tc 32 2)) (fS (tc 32 2)) 3 [] Value.none Value.none Value.none (Value.str (Str.ofString "switchloom.ports") 453) none (Value.ref 266) Value.none 0)) #[] : Obj)) :: (nat_lit 268, (Obj.mk (Value.type "tuple") none (Data.seq #[] 0) #[] : Obj)) :: (nat_lit 270, (Obj.mk (Value.type "tuple") none (Data.seq #[Value.str (Str.ofString "self") 580] 0) #[] : Obj)) :: (nat_lit 271, (Obj.mk (Value.type "tuple") none (Data.seq #[] 0) #[] : Obj)) :: (nat_lit 273, (Obj.mk (Value.type "code") none (Data.fields #[Value.str (Str.ofString "numbers") 577, Value.str (Str.ofString "Ports.numbers") 578, Value.str (Str.ofString "/claim/cut.py") 579, Value.int 134 0, Value.int 1 0, Value.int 0 0, Value.int 0 0, Value.int 3 0, Value.ref 268, Value.bool Bool.true, Value.int 181 0, Value.ref 269, Value.none, Value.ref 270, Value.ref 271, Value.ref 272, Value.int 581 0, Value.int 134 0, Value.str (Str.ofString "/claim/cut.py") 582]) #[] : Obj)) :: (nat_lit 274, (Obj.mk (Value.type "function") none (Data.func (FuncData.mk (Str.ofString "numbers") (Str.ofString "Ports.numbers") (fA (tc 32 3)) (fB (tc 32 3)) (fS (tc 32 3)) 3 [] Value.none Value.none Value.none (Value.str (Str.ofString "switchloom.ports") 453) none (Value.ref 273) Value.none 0)) #[] : Obj)) :: (nat_lit 275, (Obj.mk (Value.type "tuple") none (Data.seq #[] 0) #[] : Obj)) :: (nat_lit 277, (Obj.mk (Value.type "tuple") none (Data.seq #[Value.str (Str.ofString "self") 587, Value.str (Str.ofString "number") 588, Value.str (Str.ofString "is_up") 589] 0) #[] : Obj)) :: (nat_lit 278, (Obj.mk (Value.type "tuple") none (Data.seq #[] 0) #[] : Obj)) :: (nat_lit 280, (Obj.mk (Value.type "code") none (Data.fields #[Value.str (Str.ofString "turn") 584, Value.str (Str.ofString "Ports.turn") 585, Value.str (Str.ofString "/claim/cut.py") 586, Value.int 137 0, Value.int 3 0, Value.int 0 0, Value.int 0 0, Value.int 3 0, Value.ref 275, Value.bool Bool.true, Value.int 181 0, Value.ref 276, Value.none, Value.ref 277, Value.ref 278, Value.ref 279, Value.int 590 0, Value.int 137 0, Value.str (Str.ofString "/claim/cut.py") 591]) #[] : Obj)) :: (nat_lit 281, (Obj.mk (Value.type "function") none (Data.func (FuncData.mk (Str.ofString "turn") (Str.ofString "Ports.turn") (fA (tc 32 4)) (fB (tc 32 4)) (fS (tc 32 4)) 3 [] Value.none Value.none Value.none (Value.str (Str.ofString "switchloom.ports") 453) none (Value.ref 280) Value.none 0)) #[] : Obj)) :: (nat_lit 282, (Obj.mk (Value.type "tuple") none (Data.seq #[] 0) #[] : Obj)) :: (nat_lit 284, (Obj.mk (Value.type "tuple") none (Data.seq #[Value.str (Str.ofString "self") 596, Value.str (Str.ofString "number") 597, Value.str (Str.ofString "now") 598, Value.str (Str.ofString "port") 599, Value.str (Str.ofString "watch") 600] 0) #[] : Obj)) :: (nat_lit 285, (Obj.mk (Value.type "tuple") none (Data.seq #[] 0) #[] : Obj)) :: (nat_lit 287, (Obj.mk (Value.type "code") none (Data.fields #[Value.str (Str.ofString "up") 593, Value.str (Str.ofString "Ports.up") 594, Value.str (Str.ofString "/claim/cut.py") 595, Value.int 141 0, Value.int 3 0, Value.int 0 0, Value.int 0 0, Value.int 3 0, Value.ref 282, Value.bool Bool.true, Value.int 181 0, Value.ref 283, Value.none, Value.ref 284, Value.ref 285, Value.ref 286, Value.int 601 0, Value.int 141 0, Value.str (Str.ofString "/claim/cut.py") 602]) #[] : Obj)) :: (nat_lit 288, (Obj.mk (Value.type "function") none (Data.func (FuncData.mk (Str.ofString "up") (Str.ofString "Ports.up") (fA (tc 32 5)) (fB (tc 32 5)) (fS (tc 32 5)) 3 [] Value.none Value.none Value.none (Value.str (Str.ofString "switchloom.ports") 453) none (Value.ref 287) Value.none 0)) #[] : Obj)) :: (nat_lit 289, (Obj.mk (Value.type "tuple") none (Data.seq #[] 0) #[] : Obj)) :: (nat_lit 291, (Obj.mk (Value.type "tuple") none (Data.seq #[Value.str (Str.ofString "self") 607, Value.str (Str.ofString "number") 608, Value.str (Str.ofString "port") 609] 0) #[] : Obj)) :: (nat_lit 292, (Obj.mk (Value.type "tuple") none (Data.seq #[] 0) #[] : Obj)) :: (nat_lit 294, (Obj.mk (Value.type "code") none (Data.fields #[Value.str (Str.ofString "down") 604, Value.str (Str.ofString "Ports.down") 605, Value.str (Str.ofString "/claim/cut.py") 606, Value.int 158 0, Value.int 2 0, Value.int 0 0, Value.int 0 0, Value.int 3 0, Value.ref 289, Value.bool Bool.true, Value.int 181 0, Value.ref 290, Value.none, Value.ref 291, Value.ref 292, Value.ref 293, Value.int 610 0, Value.int 158 0, Value.str (Str.ofString "/claim/cut.py") 611]) #[] : Obj)) :: (nat_lit 295, (Obj.mk (Value.type "function") none (Data.func (FuncData.mk (Str.ofString "down") (Str.ofString "Ports.down") (fA (tc 32 6)) (fB (tc 32 6)) (fS (tc 32 6)) 3 [] Value.none Value.none Value.none (Value.str (Str.ofString "switchloom.ports") 453) none (Value.ref 294) Value.none 0)) #[] : Obj)) :: (nat_lit 296, (Obj.mk (Value.type "tuple") none (Data.seq #[] 0) #[] : Obj)) :: (nat_lit 298, (Obj.mk (Value.type "tuple") none (Data.seq #[Value.str (Str.ofString "self") 616, Value.str (Str.ofString "now") 617] 0) #[] : Obj)) :: (nat_lit 299, (Obj.mk (Value.type "tuple") none (Data.seq #[] 0) #[] : Obj)) :: (nat_lit 301, (Obj.mk (Value.type "code") none (Data.fields #[Value.str (Str.ofString "expire") 613, Value.str (Str.ofString "Ports.expire") 614, Value.str (Str.ofString "/claim/cut.py") 615, Value.int 166 0, Value.int 2 0, Value.int 0 0, Value.int 0 0, Value.int 3 0, Value.ref 296, Value.bool Bool.true, Value.int 181 0, Value.ref 297, Value.none, Value.ref 298, Value.ref 299, Value.ref 300, Value.int 618 0, Value.int 166 0, Value.str (Str.ofString "/claim/cut.py") 619]) #[] : Obj)) :: (nat_lit 302, (Obj.mk (Value.type "function") none (Data.func (FuncData.mk (Str.ofString "expire") (Str.ofString "Ports.expire") (fA (tc 32 7)) (fB (tc 32 7)) (fS (tc 32 7)) 3 [] Value.none Value.none Value.none (Value.str (Str.ofString "switchloom.ports") 453) none (Value.ref 301) Value.none 0)) #[] : Obj)) :: (nat_lit 303, (Obj.mk (Value.type "tuple") none (Data.seq #[] 0) #[] : Obj)) :: (nat_lit 305, (Obj.mk (Value.type "tuple") none (Data.seq #[Value.str (Str.ofString "self") 624] 0) #[] : Obj)) :: (nat_lit 306, (Obj.mk (Value.type "tuple") none (Data.seq #[] 0) #[] : Obj)) :: (nat_lit 308, (Obj.mk (Value.type "code") none (Data.fields #[Value.str (Str.ofString "changes") 621, Value.str (Str.ofString "Ports.changes") 622, Value.str (Str.ofString "/claim/cut.py") 623, Value.int 169 0, Value.int 1 0, Value.int 0 0, Value.int 0 0, Value.int 3 0, Value.ref 303, Value.bool Bool.true, Value.int 181 0, Value.ref 304, Value.none, Value.ref 305, Value.ref 306, Value.ref 307, Value.int 625 0, Value.int 169 0, Value.str (Str.ofString "/claim/cut.py") 626]) #[] : Obj)) :: (nat_lit 309, (Obj.mk (Value.type "function") none (Data.func (FuncData.mk (Str.ofString "changes") (Str.ofString "Ports.changes") (fA (tc 32 8)) (fB (tc 32 8)) (fS (tc 32 8)) 3 [] Value.none Value.none Value.none (Value.str (Str.ofString "switchloom.ports") 453) none (Value.ref 308) Value.none 0)) #[] : Obj)) :: (nat_lit 310, (Obj.mk (Value.type "tuple") none (Data.seq #[Value.str (Str.ofString "changed") 628, Value.str (Str.ofString "hold") 629, Value.str (Str.ofString "most") 630, Value.str (Str.ofString "rows") 631, Value.str (Str.ofString "span") 632, Value.str (Str.ofString "watches") 633] 0) #[] : Obj)) :: (nat_lit 311, (Obj.mk (Value.type "dict") none (Data.dict #[DictEntry.mk (PyData.keyHash P (Str.ofString "__module__")) (Value.str (Str.ofString "__module__") 544) (Value.str (Str.ofString "switchloom.ports") 453), DictEntry.mk (PyData.keyHash P (Str.ofString "__firstlineno__")) (Value.str (Str.ofString "__firstlineno__") 548) (Value.int 108 547), DictEntry.mk (PyData.keyHash P (Str.ofString "__init__")) (Value.str (Str.ofString "__init__") 560) (Value.ref 253), DictEntry.mk (PyData.keyHash P (Str.ofString "add")) (Value.str (Str.ofString "add") 568) (Value.ref 260), DictEntry.mk (PyData.keyHash P (Str.ofString "port")) (Value.str (Str.ofString "port") 576) (Value.ref 267), DictEntry.mk (PyData.keyHash P (Str.ofString "numbers")) (Value.str (Str.ofString "numbers") 583) (Value.ref 274), DictEntry.mk (PyData.keyHash P (Str.ofString "turn")) (Value.str (Str.ofString "turn") 592) (Value.ref 281), DictEntry.mk (PyData.keyHash P (Str.ofString "up")) (Value.str (Str.ofString "up") 603) (Value.ref 288), DictEntry.mk (PyData.keyHash P (Str.ofString "down")) (Value.str (Str.ofString "down") 612) (Value.ref 295), DictEntry.mk (PyData.keyHash P (Str.ofString "expire")) (Value.str (Str.ofString "expire") 620) (Value.ref 302), DictEntry.mk (PyData.keyHash P (Str.ofString "changes")) (Value.str (Str.ofString "changes") 627) (Value.ref 309), DictEntry.mk (PyData.keyHash P (Str.ofString "__static_attributes__")) (Value.str (Str.ofString "__static_attributes__") 634) (Value.ref 310), DictEntry.mk (PyData.keyHash P (Str.ofString "__dict__")) (Value.str (Str.ofString "__dict__") 636) (Value.ref 313), DictEntry.mk (PyData.keyHash P (Str.ofString "__weakref__")) (Value.str (Str.ofString "__weakref__") 638) (Value.ref 314), DictEntry.mk (PyData.keyHash P (Str.ofString "__doc__")) (Value.str (Str.ofString "__doc__") 639) Value.none] 4) #[] : Obj)) :: (nat_lit 312, (Obj.mk (Value.type "type") none (Data.cls (ClassData.mk (Str.ofString "Ports") [Value.type "object"] [Value.ref 312, Value.type "object"] 311 (Str.ofString "Ports") Bool.true [] [] Bool.false none Bool.false)) #[none, none, (some (Value.str (Str.ofString "Ports") 537)), (some (Value.str (Str.ofString "Ports") 545)), (some (Value.builtin "object.__new__")), (some (Value.bool Bool.true))] : Obj)) :: (nat_lit 313, (Obj.mk (Value.type "getset_descriptor") none (Data.fields #[Value.str (Str.ofString "__dict__") 635, Value.ref 312, Value.builtin "function.__dict__", Value.builtin "function.__dict__#set"]) #[] : Obj)) :: (nat_lit 314, (Obj.mk (Value.type "getset_descriptor") none (Data.fields #[Value.str (Str.ofString "__weakref__") 637, Value.ref 312, Value.builtin "ExceptionGroup.__weakref__", Value.none]) #[] : Obj)) :: (nat_lit 324, (Obj.mk (Value.type "tuple") none (Data.seq #[] 0) #[] : Obj)) :: (nat_lit 326, (Obj.mk (Value.type "tuple") none (Data.seq #[Value.str (Str.ofString "self") 659, Value.str (Str.ofString "most") 660, Value.str (Str.ofString "most_octets") 661] 0) #[] : Obj)) :: (nat_lit 327, (Obj.mk (Value.type "tuple") none (Data.seq #[] 0) #[] : Obj)) :: (nat_lit 329, (Obj.mk (Value.type "code") none (Data.fields #[Value.str (Str.ofString "__init__") 656, Value.str (Str.ofString "QueueRow.__init__") 657, Value.str (Str.ofString "/claim/cut.py") 658, Value.int 174 0, Value.int 3 0, Value.int 0 0, Value.int 0 0, Value.int 3 0, Value.ref 324, Value.bool Bool.true, Value.int 181 0, Value.ref 325, Value.none, Value.ref 326, Value.ref 327, Value.ref 328, Value.int 662 0, Value.int 174 0, Value.str (Str.ofString "/claim/cut.py") 663]) #[] : Obj)) :: (nat_lit 330, (Obj.mk (Value.type "function") none (Data.func (FuncData.mk (Str.ofString "__init__") (Str.ofString "QueueRow.__init__") (fA (tc 34 0)) (fB (tc 34 0)) (fS (tc 34 0)) 3 [] Value.none Value.none Value.none (Value.str (Str.ofString "switchloom.queues") 642) none (Value.ref 329) Value.none 0)) #[] : Obj)) :: (nat_lit 331, (Obj.mk (Value.type "tuple") none (Data.seq #[] 0) #[] : Obj)) :: (nat_lit 333, (Obj.mk (Value.type "tuple") none (Data.seq #[Value.str (Str.ofString "self") 668, Value.str (Str.ofString "size") 669, Value.str (Str.ofString "thing") 670] 0) #[] : Obj)) :: (nat_lit 334, (Obj.mk (Value.type "tuple") none (Data.seq #[] 0) #[] : Obj)) :: (nat_lit 336, (Obj.mk (Value.type "code") none (Data.fields #[Value.str (Str.ofString "put") 665, Value.str (Str.ofString "QueueRow.put") 666, Value.str (Str.ofString "/claim/cut.py") 667, Value.int 183 0, Value.int 3 0, Value.int 0 0, Value.int 0 0, Value.int 3 0, Value.ref 331, Value.bool Bool.true, Value.int 181 0, Value.ref 332, Value.none, Value.ref 333, Value.ref 334, Value.ref 335, Value.int 671 0, Value.int 183 0, Value.str (Str.ofString "/claim/cut.py") 672]) #[] : Obj)) :: (nat_lit 337, (Obj.mk (Value.type "function") none (Data.func (FuncData.mk (Str.ofString "put") (Str.ofString "QueueRow.put") (fA (tc 34 1)) (fB (tc 34 1)) (fS (tc 34 1)) 3 [] Value.none Value.none Value.none (Value.str (Str.ofString "switchloom.queues") 642) none (Value.ref 336) Value.none 0)) #[] : Obj)) :: (nat_lit 338, (Obj.mk (Value.type "tuple") none (Data.seq #[] 0) #[] : Obj)) :: (nat_lit 340, (Obj.mk (Value.type "tuple") none (Data.seq #[Value.str (Str.ofString "self") 677] 0) #[] : Obj)) :: (nat_lit 341, (Obj.mk (Value.type "tuple") none (Data.seq #[] 0) #[] : Obj)) :: (nat_lit 343, (Obj.mk (Value.type "code") none (Data.fields #[Value.str (Str.ofString "is_empty") 674, Value.str (Str.ofString "QueueRow.is_empty") 675, Value.str (Str.ofString "/claim/cut.py") 676, Value.int 191 0, Value.int 1 0, Value.int 0 0, Value.int 0 0, Value.int 3 0, Value.ref 338, Value.bool Bool.true, Value.int 181 0, Value.ref 339, Value.none, Value.ref 340, Value.ref 341, Value.ref 342, Value.int 678 0, Value.int 191 0, Value.str (Str.ofString "/claim/cut.py") 679]) #[] : Obj)) :: (nat_lit 344, (Obj.mk (Value.type "function") none (Data.func (FuncData.mk (Str.ofString "is_empty") (Str.ofString "QueueRow.is_empty") (fA (tc 34 2)) (fB (tc 34 2)) (fS (tc 21 1)) 3 [] Value.none Value.none Value.none (Value.str (Str.ofString "switchloom.queues") 642) none (Value.ref 343) Value.none 0)) #[] : Obj)) :: (nat_lit 345, (Obj.mk (Value.type "tuple") none (Data.seq #[] 0) #[] : Obj)) :: (nat_lit 347, (Obj.mk (Value.type "tuple") none (Data.seq #[Value.str (Str.ofString "self") 684] 0) #[] : Obj)) :: (nat_lit 348, (Obj.mk (Value.type "tuple") none (Data.seq #[] 0) #[] : Obj)) :: (nat_lit 350, (Obj.mk (Value.type "code") none (Data.fields #[Value.str (Str.ofString "head_size") 681, Value.str (Str.ofString "QueueRow.head_size") 682, Value.str (Str.ofString "/claim/cut.py") 683, Value.int 194 0, Value.int 1 0, Value.int 0 0, Value.int 0 0, Value.int 3 0, Value.ref 345, Value.bool Bool.true, Value.int 181 0, Value.ref 346, Value.none, Value.ref 347, Value.ref 348, Value.ref 349, Value.int 685 0, Value.int 194 0, Value.str (Str.ofString "/claim/cut.py") 686]) #[] : Obj)) :: (nat_lit 351, (Obj.mk (Value.type "function") none (Data.func (FuncData.mk (Str.ofString "head_size") (Str.ofString "QueueRow.head_size") (fA (tc 34 3)) (fB (tc 34 3)) (fS (tc 21 1)) 3 [] Value.none Value.none Value.none (Value.str (Str.ofString "switchloom.queues") 642) none (Value.ref 350) Value.none 0)) #[] : Obj)) :: (nat_lit 352, (Obj.mk (Value.type "tuple") none (Data.seq #[] 0) #[] : Obj)) :: (nat_lit 354, (Obj.mk (Value.type "tuple") none (Data.seq #[Value.str (Str.ofString "self") 691, Value.str (Str.ofString "found") 692] 0) #[] : Obj)) :: (nat_lit 355, (Obj.mk (Value.type "tuple") none (Data.seq #[] 0) #[] : Obj)) :: (nat_lit 357, (Obj.mk (Value.type "code") none (Data.fields #[Value.str (Str.ofString "take") 688, Value.str (Str.ofString "QueueRow.take") 689, Value.str (Str.ofString "/claim/cut.py") 690, Value.int 197 0, Value.int 1 0, Value.int 0 0, Value.int 0 0, Value.int 3 0, Value.ref 352, Value.bool Bool.true, Value.int 181 0, Value.ref 353, Value.none, Value.ref 354, Value.ref 355, Value.ref 356, Value.int 693 0, Value.int 197 0, Value.str (Str.ofString "/claim/cut.py") 694]) #[] : Obj)) :: (nat_lit 358, (Obj.mk (Value.type "function") none (Data.func (FuncData.mk (Str.ofString "take") (Str.ofString "QueueRow.take") (fA (tc 34 4)) (fB (tc 34 4)) (fS (tc 34 4)) 3 [] Value.none Value.none Value.none (Value.str (Str.ofString "switchloom.queues") 642) none (Value.ref 357) Value.none 0)) #[] : Obj)) :: (nat_lit 359, (Obj.mk (Value.type "tuple") none (Data.seq #[Value.str (Str.ofString "dropped") 696, Value.str (Str.ofString "most") 697, Value.str (Str.ofString "most_octets") 698, Value.str (Str.ofString "octets") 699, Value.str (Str.ofString "things") 700] 0) #[] : Obj)) :: (nat_lit 360, (Obj.mk (Value.type "dict") none (Data.dict #[DictEntry.mk (PyData.keyHash P (Str.ofString "__module__")) (Value.str (Str.ofString "__module__") 651) (Value.str (Str.ofString "switchloom.queues") 642), DictEntry.mk (PyData.keyHash P (Str.ofString "__firstlineno__")) (Value.str (Str.ofString "__firstlineno__") 655) (Value.int 172 654), DictEntry.mk (PyData.keyHash P (Str.ofString "__init__")) (Value.str (Str.ofString "__init__") 664) (Value.ref 330), DictEntry.mk (PyData.keyHash P (Str.ofString "put")) (Value.str (Str.ofString "put") 673) (Value.ref 337), DictEntry.mk (PyData.keyHash P (Str.ofString "is_empty")) (Value.str (Str.ofString "is_empty") 680) (Value.ref 344), DictEntry.mk (PyData.keyHash P (Str.ofString "head_size")) (Value.str (Str.ofString "head_size") 687) (Value.ref 351), DictEntry.mk (PyData.keyHash P (Str.ofString "take")) (Value.str (Str.ofString "take") 695) (Value.ref 358), DictEntry.mk (PyData.keyHash P (Str.ofString "__static_attributes__")) (Value.str (Str.ofString "__static_attributes__") 701) (Value.ref 359), DictEntry.mk (PyData.keyHash P (Str.ofString "__dict__")) (Value.str (Str.ofString "__dict__") 703) (Value.ref 362), DictEntry.mk (PyData.keyHash P (Str.ofString "__weakref__")) (Value.str (Str.ofString "__weakref__") 705) (Value.ref 363), DictEntry.mk (PyData.keyHash P (Str.ofString "__doc__")) (Value.str (Str.ofString "__doc__") 706) Value.none] 4) #[] : Obj)) :: (nat_lit 361, (Obj.mk (Value.type "type") none (Data.cls (ClassData.mk (Str.ofString "QueueRow") [Value.type "object"] [Value.ref 361, Value.type "object"] 360 (Str.ofString "QueueRow") Bool.true [] [] Bool.false none Bool.false)) #[none, none, (some (Value.str (Str.ofString "QueueRow") 644)), (some (Value.str (Str.ofString "QueueRow") 652)), (some (Value.builtin "object.__new__")), (some (Value.bool Bool.true))] : Obj)) :: (nat_lit 362, (Obj.mk (Value.type "getset_descriptor") none (Data.fields #[Value.str (Str.ofString "__dict__") 702, Value.ref 361, Value.builtin "function.__dict__", Value.builtin "function.__dict__#set"]) #[] : Obj)) :: (nat_lit 363, (Obj.mk (Value.type "getset_descriptor") none (Data.fields #[Value.str (Str.ofString "__weakref__") 704, Value.ref 361, Value.builtin "ExceptionGroup.__weakref__", Value.none]) #[] : Obj)) :: (nat_lit 366, (Obj.mk (Value.type "tuple") none (Data.seq #[] 0) #[] : Obj)) :: (nat_lit 368, (Obj.mk (Value.type "tuple") none (Data.seq #[Value.str (Str.ofString "rows") 712, Value.str (Str.ofString "number") 713, Value.str (Str.ofString "allowed") 714] 0) #[] : Obj)) :: (nat_lit 369, (Obj.mk (Value.type "tuple") none (Data.seq #[] 0) #[] : Obj)) :: (nat_lit 371, (Obj.mk (Value.type "code") none (Data.fields #[Value.str (Str.ofString "may_go") 709, Value.str (Str.ofString "may_go") 710, Value.str (Str.ofString "/claim/cut.py") 711, Value.int 201 0, Value.int 3 0, Value.int 0 0, Value.int 0 0, Value.int 3 0, Value.ref 366, Value.bool Bool.true, Value.int 181 0, Value.ref 367, Value.none, Value.ref 368, Value.ref 369, Value.ref 370, Value.int 715 0, Value.int 201 0, Value.str (Str.ofString "/claim/cut.py") 716]) #[] : Obj)) :: (nat_lit 372, (Obj.mk (Value.type "function") none (Data.func (FuncData.mk (Str.ofString "may_go") (Str.ofString "may_go") (fA (tp 35)) (fB (tp 35)) (fS (tp 35)) 3 [] Value.none Value.none Value.none (Value.str (Str.ofString "switchloom.queues") 642) none (Value.ref 371) Value.none 0)) #[] : Obj)) :: (nat_lit 373, (Obj.mk (Value.type "tuple") none (Data.seq #[] 0) #[] : Obj)) :: (nat_lit 375, (Obj.mk (Value.type "tuple") none (Data.seq #[Value.str (Str.ofString "script") 723, Value.str (Str.ofString "told") 724, Value.str (Str.ofString "far") 725] 0) #[] : Obj)) :: (nat_lit 376, (Obj.mk (Value.type "tuple") none (Data.seq #[] 0) #[] : Obj)) :: (nat_lit 378, (Obj.mk (Value.type "code") none (Data.fields #[Value.str (Str.ofString "_law_reel") 720, Value.str (Str.ofString "_law_reel") 721, Value.str (Str.ofString "/claim/cut.py") 722, Value.int 204 0, Value.int 1 0, Value.int 0 0, Value.int 0 0, Value.int 3 0, Value.ref 373, Value.bool Bool.true, Value.int 181 0, Value.ref 374, Value.none, Value.ref 375, Value.ref 376, Value.ref 377, Value.int 726 0, Value.int 204 0, Value.str (Str.ofString "/claim/cut.py") 727]) #[] : Obj)) :: (nat_lit 379, (Obj.mk (Value.type "function") none (Data.func (FuncData.mk (Str.ofString "_law_reel") (Str.ofString "_law_reel") (fA (tp 37)) (fB (tp 37)) (fS (tp 37)) 3 [] Value.none Value.none Value.none (Value.str (Str.ofString "law_xm0985_01") 718) none (Value.ref 378) Value.none 0)) #[] : Obj)) :: (nat_lit 380, (Obj.mk (Value.type "tuple") none (Data.seq #[] 0) #[] : Obj)) :: (nat_lit 382, (Obj.mk (Value.type "tuple") none (Data.seq #[Value.str (Str.ofString "reel") 732, Value.str (Str.ofString "top") 733, Value.str (Str.ofString "drawn") 734] 0) #[] : Obj)) :: (nat_lit 383, (Obj.mk (Value.type "tuple") none (Data.seq #[] 0) #[] : Obj)) :: (nat_lit 385, (Obj.mk (Value.type "code") none (Data.fields #[Value.str (Str.ofString "_law_wind") 729, Value.str (Str.ofString "_law_wind") 730, Value.str (Str.ofString "/claim/cut.py") 731, Value.int 208 0, Value.int 2 0, Value.int 0 0, Value.int 0 0, Value.int 3 0, Value.ref 380, Value.bool Bool.true, Value.int 181 0, Value.ref 381, Value.none, Value.ref 382, Value.ref 383, Value.ref 384, Value.int 735 0, Value.int 208 0, Value.str (Str.ofString "/claim/cut.py") 736]) #[] : Obj)) :: (nat_lit 386, (Obj.mk (Value.type "function") none (Data.func (FuncData.mk (Str.ofString "_law_wind") (Str.ofString "_law_wind") (fA (tp 38)) (fB (tp 38)) (fS (tp 38)) 3 [] Value.none Value.none Value.none (Value.str (Str.ofString "law_xm0985_01") 718) none (Value.ref 385) Value.none 0)) #[] : Obj)) :: (nat_lit 387, (Obj.mk (Value.type "tuple") none (Data.seq #[] 0) #[] : Obj)) :: (nat_lit 389, (Obj.mk (Value.type "tuple") none (Data.seq #[Value.str (Str.ofString "reel") 741, Value.str (Str.ofString "things") 742] 0) #[] : Obj)) :: (nat_lit 390, (Obj.mk (Value.type "tuple") none (Data.seq #[] 0) #[] : Obj)) :: (nat_lit 392, (Obj.mk (Value.type "code") none (Data.fields #[Value.str (Str.ofString "_law_one") 738, Value.str (Str.ofString "_law_one") 739, Value.str (Str.ofString "/claim/cut.py") 740, Value.int 215 0, Value.int 2 0, Value.int 0 0, Value.int 0 0, Value.int 3 0, Value.ref 387, Value.bool Bool.true, Value.int 181 0, Value.ref 388, Value.none, Value.ref 389, Value.ref 390, Value.ref 391, Value.int 743 0, Value.int 215 0, Value.str (Str.ofString "/claim/cut.py") 744]) #[] : Obj)) :: (nat_lit 393, (Obj.mk (Value.type "function") none (Data.func (FuncData.mk (Str.ofString "_law_one") (Str.ofString "_law_one") (fA (tp 39)) (fB (tp 39)) (fS (tp 39)) 3 [] Value.none Value.none Value.none (Value.str (Str.ofString "law_xm0985_01") 718) none (Value.ref 392) Value.none 0)) #[] : Obj)) :: (nat_lit 394, (Obj.mk (Value.type "tuple") none (Data.seq #[] 0) #[] : Obj)) :: (nat_lit 397, (Obj.mk (Value.type "code") none (Data.fields #[Value.str (Str.ofString "_law_fields_right") 746, Value.str (Str.ofString "_law_fields_right") 747, Value.str (Str.ofString "/claim/cut.py") 748, Value.int 217 0, Value.int 1 0, Value.int 0 0, Value.int 0 0, Value.int 3 0, Value.ref 394, Value.bool Bool.true, Value.int 181 0, Value.ref 395, Value.none, Value.none, Value.none, Value.ref 396, Value.int 749 0, Value.int 217 0, Value.str (Str.ofString "/claim/cut.py") 750]) #[] : Obj)) :: (nat_lit 398, (Obj.mk (Value.type "function") none (Data.func (FuncData.mk (Str.ofString "_law_fields_right") (Str.ofString "_law_fields_right") (fA (tp 40)) (fB (tp 40)) (fS (tp 40)) 3 [] Value.none Value.none Value.none (Value.str (Str.ofString "law_xm0985_01") 718) none (Value.ref 397) Value.none 0)) #[] : Obj)) :: (nat_lit 399, (Obj.mk (Value.type "tuple") none (Data.seq #[] 0) #[] : Obj)) :: (nat_lit 401, (Obj.mk (Value.type "tuple") none (Data.seq #[Value.str (Str.ofString "reel") 755, Value.str (Str.ofString "great") 756, Value.str (Str.ofString "far") 757, Value.str (Str.ofString "seed") 758, Value.str (Str.ofString "worth") 759, Value.str (Str.ofString "more") 760, Value.str (Str.ofString "base") 761, Value.str (Str.ofString "last") 762, Value.str (Str.ofString "one") 763, Value.str (Str.ofString "other") 764] 0) #[] : Obj)) :: (nat_lit 402, (Obj.mk (Value.type "tuple") none (Data.seq #[] 0) #[] : Obj)) :: (nat_lit 404, (Obj.mk (Value.type "code") none (Data.fields #[Value.str (Str.ofString "_law_mixed_right") 752, Value.str (Str.ofString "_law_mixed_right") 753, Value.str (Str.ofString "/claim/cut.py") 754, Value.int 224 0, Value.int 1 0, Value.int 0 0, Value.int 0 0, Value.int 3 0, Value.ref 399, Value.bool Bool.true, Value.int 181 0, Value.ref 400, Value.none, Value.ref 401, Value.ref 402, Value.ref 403, Value.int 765 0, Value.int 224 0, Value.str (Str.ofString "/claim/cut.py") 766]) #[] : Obj)) :: (nat_lit 405, (Obj.mk (Value.type "function") none (Data.func (FuncData.mk (Str.ofString "_law_mixed_right") (Str.ofString "_law_mixed_right") (fA (tp 41)) (fB (tp 41)) (fS (tp 41)) 3 [] Value.none Value.none Value.none (Value.str (Str.ofString "law_xm0985_01") 718) none (Value.ref 404) Value.none 0)) #[] : Obj)) :: (nat_lit 406, (Obj.mk (Value.type "tuple") none (Data.seq #[] 0) #[] : Obj)) :: (nat_lit 408, (Obj.mk (Value.type "tuple") none (Data.seq #[Value.str (Str.ofString "before") 771, Value.str (Str.ofString "is_aware") 772] 0) #[] : Obj)) :: (nat_lit 409, (Obj.mk (Value.type "tuple") none (Data.seq #[] 0) #[] : Obj)) :: (nat_lit 411, (Obj.mk (Value.type "code") none (Data.fields #[Value.str (Str.ofString "_law_colour") 768, Value.str (Str.ofString "_law_colour") 769, Value.str (Str.ofString "/claim/cut.py") 770, Value.int 237 0, Value.int 2 0, Value.int 0 0, Value.int 0 0, Value.int 3 0, Value.ref 406, Value.bool Bool.true, Value.int 181 0, Value.ref 407, Value.none, Value.ref 408, Value.ref 409, Value.ref 410, Value.int 773 0, Value.int 237 0, Value.str (Str.ofString "/claim/cut.py") 774]) #[] : Obj)) :: (nat_lit 412, (Obj.mk (Value.type "function") none (Data.func (FuncData.mk (Str.ofString "_law_colour") (Str.ofString "_law_colour") (fA (tp 42)) (fB (tp 42)) (fS (tp 42)) 3 [] Value.none Value.none Value.none (Value.str (Str.ofString "law_xm0985_01") 718) none (Value.ref 411) Value.none 0)) #[] : Obj)) :: (nat_lit 413, (Obj.mk (Value.type "tuple") none (Data.seq #[] 0) #[] : Obj)) :: (nat_lit 415, (Obj.mk (Value.type "tuple") none (Data.seq #[Value.str (Str.ofString "reel") 779, Value.str (Str.ofString "before") 780, Value.str (Str.ofString "due") 781] 0) #[] : Obj)) :: (nat_lit 416, (Obj.mk (Value.type "tuple") none (Data.seq #[] 0) #[] : Obj)) :: (nat_lit 418, (Obj.mk (Value.type "code") none (Data.fields #[Value.str (Str.ofString "_law_colours_right") 776, Value.str (Str.ofString "_law_colours_right") 777, Value.str (Str.ofString "/claim/cut.py") 778, Value.int 242 0, Value.int 1 0, Value.int 0 0, Value.int 0 0, Value.int 3 0, Value.ref 413, Value.bool Bool.true, Value.int 181 0, Value.ref 414, Value.none, Value.ref 415, Value.ref 416, Value.ref 417, Value.int 782 0, Value.int 242 0, Value.str (Str.ofString "/claim/cut.py") 783]) #[] : Obj)) :: (nat_lit 419, (Obj.mk (Value.type "function") none (Data.func (FuncData.mk (Str.ofString "_law_colours_right") (Str.ofString "_law_colours_right") (fA (tp 43)) (fB (tp 43)) (fS (tp 43)) 3 [] Value.none Value.none Value.none (Value.str (Str.ofString "law_xm0985_01") 718) none (Value.ref 418) Value.none 0)) #[] : Obj)) :: (nat_lit 420, (Obj.mk (Value.type "tuple") none (Data.seq #[] 0) #[] : Obj)) :: (nat_lit 422, (Obj.mk (Value.type "tuple") none (Data.seq #[Value.str (Str.ofString "reel") 788, Value.str (Str.ofString "now") 789, Value.str (Str.ofString "time") 790, Value.str (Str.ofString "tick") 791, Value.str (Str.ofString "told") 792] 0) #[] : Obj)) :: (nat_lit 423, (Obj.mk (Value.type "tuple") none (Data.seq #[] 0) #[] : Obj)) :: (nat_lit 425, (Obj.mk (Value.type "code") none (Data.fields #[Value.str (Str.ofString "_law_times_right") 785, Value.str (Str.ofString "_law_times_right") 786, Value.str (Str.ofString "/claim/cut.py") 787, Value.int 246 0, Value.int 1 0, Value.int 0 0, Value.int 0 0, Value.int 3 0, Value.ref 420, Value.bool Bool.true, Value.int 181 0, Value.ref 421, Value.none, Value.ref 422, Value.ref 423, Value.ref 424, Value.int 793 0, Value.int 246 0, Value.str (Str.ofString "/claim/cut.py") 794]) #[] : Obj)) :: (nat_lit 426, (Obj.mk (Value.type "function") none (Data.func (FuncData.mk (Str.ofString "_law_times_right") (Str.ofString "_law_times_right") (fA (tp 44)) (fB (tp 44)) (fS (tp 44)) 3 [] Value.none Value.none Value.none (Value.str (Str.ofString "law_xm0985_01") 718) none (Value.ref 425) Value.none 0)) #[] : Obj)) :: (nat_lit 427, (Obj.mk (Value.type "tuple") none (Data.seq #[] 0) #[] : Obj)) :: (nat_lit 430, (Obj.mk (Value.type "code") none (Data.fields #[Value.str (Str.ofString "_law_recent_right") 796, Value.str (Str.ofString "_law_recent_right") 797, Value.str (Str.ofString "/claim/cut.py") 798, Value.int 252 0, Value.int 1 0, Value.int 0 0, Value.int 0 0, Value.int 3 0, Value.ref 427, Value.bool Bool.true, Value.int 181 0, Value.ref 428, Value.none, Value.none, Value.none, Value.ref 429, Value.int 799 0, Value.int 252 0, Value.str (Str.ofString "/claim/cut.py") 800]) #[] : Obj)) :: (nat_lit 431, (Obj.mk (Value.type "function") none (Data.func (FuncData.mk (Str.ofString "_law_recent_right") (Str.ofString "_law_recent_right") (fA (tp 45)) (fB (tp 45)) (fS (tp 45)) 3 [] Value.none Value.none Value.none (Value.str (Str.ofString "law_xm0985_01") 718) none (Value.ref 430) Value.none 0)) #[] : Obj)) :: (nat_lit 432, (Obj.mk (Value.type "tuple") none (Data.seq #[] 0) #[] : Obj)) :: (nat_lit 435, (Obj.mk (Value.type "code") none (Data.fields #[Value.str (Str.ofString "_law_multiple_right") 802, Value.str (Str.ofString "_law_multiple_right") 803, Value.str (Str.ofString "/claim/cut.py") 804, Value.int 266 0, Value.int 1 0, Value.int 0 0, Value.int 0 0, Value.int 3 0, Value.ref 432, Value.bool Bool.true, Value.int 181 0, Value.ref 433, Value.none, Value.none, Value.none, Value.ref 434, Value.int 805 0, Value.int 266 0, Value.str (Str.ofString "/claim/cut.py") 806]) #[] : Obj)) :: (nat_lit 436, (Obj.mk (Value.type "function") none (Data.func (FuncData.mk (Str.ofString "_law_multiple_right") (Str.ofString "_law_multiple_right") (fA (tp 46)) (fB (tp 46)) (fS (tp 46)) 3 [] Value.none Value.none Value.none (Value.str (Str.ofString "law_xm0985_01") 718) none (Value.ref 435) Value.none 0)) #[] : Obj)) :: (nat_lit 437, (Obj.mk (Value.type "tuple") none (Data.seq #[] 0) #[] : Obj)) :: (nat_lit 439, (Obj.mk (Value.type "tuple") none (Data.seq #[Value.str (Str.ofString "most") 811, Value.str (Str.ofString "octets") 812] 0) #[] : Obj)) :: (nat_lit 440, (Obj.mk (Value.type "tuple") none (Data.seq #[] 0) #[] : Obj)) :: (nat_lit 442, (Obj.mk (Value.type "code") none (Data.fields #[Value.str (Str.ofString "_law_is_refused") 808, Value.str (Str.ofString "_law_is_refused") 809, Value.str (Str.ofString "/claim/cut.py") 810, Value.int 271 0, Value.int 2 0, Value.int 0 0, Value.int 0 0, Value.int 3 0, Value.ref 437, Value.bool Bool.true, Value.int 181 0, Value.ref 438, Value.none, Value.ref 439, Value.ref 440, Value.ref 441, Value.int 813 0, Value.int 271 0, Value.str (Str.ofString "/claim/cut.py") 814]) #[] : Obj)) :: (nat_lit 443, (Obj.mk (Value.type "function") none (Data.func (FuncData.mk (Str.ofString "_law_is_refused") (Str.ofString "_law_is_refused") (fA (tp 47)) (fB (tp 47)) (fS (tp 47)) 3 [] Value.none Value.none Value.none (Value.str (Str.ofString "law_xm0985_01") 718) none (Value.ref 442) Value.none 0)) #[] : Obj)) :: (nat_lit 444, (Obj.mk (Value.type "tuple") none (Data.seq #[] 0) #[] : Obj)) :: (nat_lit 447, (Obj.mk (Value.type "code") none (Data.fields #[Value.str (Str.ofString "_law_queue_right") 816, Value.str (Str.ofString "_law_queue_right") 817, Value.str (Str.ofString "/claim/cut.py") 818, Value.int 277 0, Value.int 1 0, Value.int 0 0, Value.int 0 0, Value.int 3 0, Value.ref 444, Value.bool Bool.true, Value.int 181 0, Value.ref 445, Value.none, Value.none, Value.none, Value.ref 446, Value.int 819 0, Value.int 277 0, Value.str (Str.ofString "/claim/cut.py") 820]) #[] : Obj)) :: (nat_lit 448, (Obj.mk (Value.type "function") none (Data.func (FuncData.mk (Str.ofString "_law_queue_right") (Str.ofString "_law_queue_right") (fA (tp 48)) (fB (tp 48)) (fS (tp 48)) 3 [] Value.none Value.none Value.none (Value.str (Str.ofString "law_xm0985_01") 718) none (Value.ref 447) Value.none 0)) #[] : Obj)) :: (nat_lit 449, (Obj.mk (Value.type "tuple") none (Data.seq #[] 0) #[] : Obj)) :: (nat_lit 451, (Obj.mk (Value.type "tuple") none (Data.seq #[Value.str (Str.ofString "script") 825, Value.str (Str.ofString "reel") 826] 0) #[] : Obj)) :: (nat_lit 452, (Obj.mk (Value.type "tuple") none (Data.seq #[] 0) #[] : Obj)) :: (nat_lit 454, (Obj.mk (Value.type "code") none (Data.fields #[Value.str (Str.ofString "law") 822, Value.str (Str.ofString "law") 823, Value.str (Str.ofString "/claim/cut.py") 824, Value.int 299 0, Value.int 1 0, Value.int 0 0, Value.int 0 0, Value.int 3 0, Value.ref 449, Value.bool Bool.true, Value.int 181 0, Value.ref 450, Value.none, Value.ref 451, Value.ref 452, Value.ref 453, Value.int 827 0, Value.int 299 0, Value.str (Str.ofString "/claim/cut.py") 828]) #[] : Obj)) :: (nat_lit 455, (Obj.mk (Value.type "function") none (Data.func (FuncData.mk (Str.ofString "law") (Str.ofString "law") (fA (tp 49)) (fB (tp 49)) (fS (tp 49)) 3 [] Value.none Value.none Value.none (Value.str (Str.ofString "law_xm0985_01") 718) none (Value.ref 454) Value.none 0)) #[] : Obj)) :: []
noncomputable def kc0 (P : Params) : Frag := [(nat_lit 2, o2 P), (nat_lit 3, o3 P), (nat_lit 15, o15 P), (nat_lit 17, o17 P), (nat_lit 18, o18 P), (nat_lit 20, o20 P), (nat_lit 21, o21 P), (nat_lit 22, o22 P), (nat_lit 24, o24 P), (nat_lit 25, o25 P), (nat_lit 27, o27 P), (nat_lit 28, o28 P), (nat_lit 29, o29 P), (nat_lit 36, o36 P), (nat_lit 38, o38 P), (nat_lit 39, o39 P)]
noncomputable def kc1 (P : Params) : Frag := [(nat_lit 41, o41 P), (nat_lit 42, o42 P), (nat_lit 43, o43 P), (nat_lit 44, o44 P), (nat_lit 45, o45 P), (nat_lit 46, o46 P), (nat_lit 49, o49 P), (nat_lit 56, o56 P), (nat_lit 57, o57 P), (nat_lit 58, o58 P), (nat_lit 61, o61 P), (nat_lit 68, o68 P), (nat_lit 69, o69 P), (nat_lit 70, o70 P), (nat_lit 73, o73 P), (nat_lit 80, o80 P)]
noncomputable def kc2 (P : Params) : Frag := [(nat_lit 81, o81 P), (nat_lit 83, o83 P), (nat_lit 84, o84 P), (nat_lit 86, o86 P), (nat_lit 87, o87 P), (nat_lit 88, o88 P), (nat_lit 89, o89 P), (nat_lit 90, o90 P), (nat_lit 93, o93 P), (nat_lit 95, o95 P), (nat_lit 96, o96 P), (nat_lit 98, o98 P), (nat_lit 99, o99 P), (nat_lit 100, o100 P), (nat_lit 102, o102 P), (nat_lit 103, o103 P)]
noncomputable def kc3 (P : Params) : Frag := [(nat_lit 105, o105 P), (nat_lit 106, o106 P), (nat_lit 107, o107 P), (nat_lit 109, o109 P), (nat_lit 110, o110 P), (nat_lit 112, o112 P), (nat_lit 113, o113 P), (nat_lit 121, o121 P), (nat_lit 123, o123 P), (nat_lit 124, o124 P), (nat_lit 126, o126 P), (nat_lit 127, o127 P), (nat_lit 128, o128 P), (nat_lit 130, o130 P), (nat_lit 131, o131 P), (nat_lit 133, o133 P)]
noncomputable def kc4 (P : Params) : Frag := [(nat_lit 134, o134 P), (nat_lit 135, o135 P), (nat_lit 136, o136 P), (nat_lit 137, o137 P), (nat_lit 138, o138 P), (nat_lit 139, o139 P), (nat_lit 149, o149 P), (nat_lit 151, o151 P), (nat_lit 152, o152 P), (nat_lit 154, o154 P), (nat_lit 155, o155 P), (nat_lit 156, o156 P), (nat_lit 159, o159 P), (nat_lit 160, o160 P), (nat_lit 161, o161 P), (nat_lit 162, o162 P)]
noncomputable def kc5 (P : Params) : Frag := [(nat_lit 164, o164 P), (nat_lit 165, o165 P), (nat_lit 167, o167 P), (nat_lit 168, o168 P), (nat_lit 169, o169 P), (nat_lit 170, o170 P), (nat_lit 171, o171 P), (nat_lit 172, o172 P), (nat_lit 173, o173 P), (nat_lit 176, o176 P), (nat_lit 177, o177 P), (nat_lit 179, o179 P), (nat_lit 180, o180 P), (nat_lit 182, o182 P), (nat_lit 183, o183 P), (nat_lit 191, o191 P)]
noncomputable def kc6 (P : Params) : Frag := [(nat_lit 192, o192 P), (nat_lit 194, o194 P), (nat_lit 195, o195 P), (nat_lit 197, o197 P), (nat_lit 198, o198 P), (nat_lit 199, o199 P), (nat_lit 200, o200 P), (nat_lit 201, o201 P), (nat_lit 202, o202 P), (nat_lit 203, o203 P), (nat_lit 213, o213 P), (nat_lit 215, o215 P), (nat_lit 216, o216 P), (nat_lit 218, o218 P), (nat_lit 219, o219 P), (nat_lit 220, o220 P)]
noncomputable def kc7 (P : Params) : Frag := [(nat_lit 222, o222 P), (nat_lit 223, o223 P), (nat_lit 225, o225 P), (nat_lit 226, o226 P), (nat_lit 227, o227 P), (nat_lit 230, o230 P), (nat_lit 231, o231 P), (nat_lit 232, o232 P), (nat_lit 233, o233 P), (nat_lit 234, o234 P), (nat_lit 235, o235 P), (nat_lit 236, o236 P), (nat_lit 246, o246 P), (nat_lit 247, o247 P), (nat_lit 249, o249 P), (nat_lit 250, o250 P)]
noncomputable def kc8 (P : Params) : Frag := [(nat_lit 252, o252 P), (nat_lit 253, o253 P), (nat_lit 254, o254 P), (nat_lit 256, o256 P), (nat_lit 257, o257 P), (nat_lit 259, o259 P), (nat_lit 260, o260 P), (nat_lit 261, o261 P), (nat_lit 263, o263 P), (nat_lit 264, o264 P), (nat_lit 266, o266 P), (nat_lit 267, o267 P), (nat_lit 268, o268 P), (nat_lit 270, o270 P), (nat_lit 271, o271 P), (nat_lit 273, o273 P)]
noncomputable def kc9 (P : Params) : Frag := [(nat_lit 274, o274 P), (nat_lit 275, o275 P), (nat_lit 277, o277 P), (nat_lit 278, o278 P), (nat_lit 280, o280 P), (nat_lit 281, o281 P), (nat_lit 282, o282 P), (nat_lit 284, o284 P), (nat_lit 285, o285 P), (nat_lit 287, o287 P), (nat_lit 288, o288 P), (nat_lit 289, o289 P), (nat_lit 291, o291 P), (nat_lit 292, o292 P), (nat_lit 294, o294 P), (nat_lit 295, o295 P)]
noncomputable def kc10 (P : Params) : Frag := [(nat_lit 296, o296 P), (nat_lit 298, o298 P), (nat_lit 299, o299 P), (nat_lit 301, o301 P), (nat_lit 302, o302 P), (nat_lit 303, o303 P), (nat_lit 305, o305 P), (nat_lit 306, o306 P), (nat_lit 308, o308 P), (nat_lit 309, o309 P), (nat_lit 310, o310 P), (nat_lit 311, o311 P), (nat_lit 312, o312 P), (nat_lit 313, o313 P), (nat_lit 314, o314 P), (nat_lit 324, o324 P)]
noncomputable def kc11 (P : Params) : Frag := [(nat_lit 326, o326 P), (nat_lit 327, o327 P), (nat_lit 329, o329 P), (nat_lit 330, o330 P), (nat_lit 331, o331 P), (nat_lit 333, o333 P), (nat_lit 334, o334 P), (nat_lit 336, o336 P), (nat_lit 337, o337 P), (nat_lit 338, o338 P), (nat_lit 340, o340 P), (nat_lit 341, o341 P), (nat_lit 343, o343 P), (nat_lit 344, o344 P), (nat_lit 345, o345 P), (nat_lit 347, o347 P)]
noncomputable def kc12 (P : Params) : Frag := [(nat_lit 348, o348 P), (nat_lit 350, o350 P), (nat_lit 351, o351 P), (nat_lit 352, o352 P), (nat_lit 354, o354 P), (nat_lit 355, o355 P), (nat_lit 357, o357 P), (nat_lit 358, o358 P), (nat_lit 359, o359 P), (nat_lit 360, o360 P), (nat_lit 361, o361 P), (nat_lit 362, o362 P), (nat_lit 363, o363 P), (nat_lit 366, o366 P), (nat_lit 368, o368 P), (nat_lit 369, o369 P)]
noncomputable def kc13 (P : Params) : Frag := [(nat_lit 371, o371 P), (nat_lit 372, o372 P), (nat_lit 373, o373 P), (nat_lit 375, o375 P), (nat_lit 376, o376 P), (nat_lit 378, o378 P), (nat_lit 379, o379 P), (nat_lit 380, o380 P), (nat_lit 382, o382 P), (nat_lit 383, o383 P), (nat_lit 385, o385 P), (nat_lit 386, o386 P), (nat_lit 387, o387 P), (nat_lit 389, o389 P), (nat_lit 390, o390 P), (nat_lit 392, o392 P)]
noncomputable def kc14 (P : Params) : Frag := [(nat_lit 393, o393 P), (nat_lit 394, o394 P), (nat_lit 397, o397 P), (nat_lit 398, o398 P), (nat_lit 399, o399 P), (nat_lit 401, o401 P), (nat_lit 402, o402 P), (nat_lit 404, o404 P), (nat_lit 405, o405 P), (nat_lit 406, o406 P), (nat_lit 408, o408 P), (nat_lit 409, o409 P), (nat_lit 411, o411 P), (nat_lit 412, o412 P), (nat_lit 413, o413 P), (nat_lit 415, o415 P)]
noncomputable def kc15 (P : Params) : Frag := [(nat_lit 416, o416 P), (nat_lit 418, o418 P), (nat_lit 419, o419 P), (nat_lit 420, o420 P), (nat_lit 422, o422 P), (nat_lit 423, o423 P), (nat_lit 425, o425 P), (nat_lit 426, o426 P), (nat_lit 427, o427 P), (nat_lit 430, o430 P), (nat_lit 431, o431 P), (nat_lit 432, o432 P), (nat_lit 435, o435 P), (nat_lit 436, o436 P), (nat_lit 437, o437 P), (nat_lit 439, o439 P)]
noncomputable def kc16 (P : Params) : Frag := [(nat_lit 440, o440 P), (nat_lit 442, o442 P), (nat_lit 443, o443 P), (nat_lit 444, o444 P), (nat_lit 447, o447 P), (nat_lit 448, o448 P), (nat_lit 449, o449 P), (nat_lit 451, o451 P), (nat_lit 452, o452 P), (nat_lit 454, o454 P), (nat_lit 455, o455 P)]
noncomputable def Kh (P : Params) : Frag := kc0 P ++ (kc1 P ++ (kc2 P ++ (kc3 P ++ (kc4 P ++ (kc5 P ++ (kc6 P ++ (kc7 P ++ (kc8 P ++ (kc9 P ++ (kc10 P ++ (kc11 P ++ (kc12 P ++ (kc13 P ++ (kc14 P ++ (kc15 P ++ (kc16 P))))))))))))))))
noncomputable def Ka : List Addr := [2, 3, 15, 17, 18, 20, 21, 22, 24, 25, 27, 28, 29, 36, 38, 39, 41, 42, 43, 44, 45, 46, 49, 56, 57, 58, 61, 68, 69, 70, 73, 80, 81, 83, 84, 86, 87, 88, 89, 90, 93, 95, 96, 98, 99, 100, 102, 103, 105, 106, 107, 109, 110, 112, 113, 121, 123, 124, 126, 127, 128, 130, 131, 133, 134, 135, 136, 137, 138, 139, 149, 151, 152, 154, 155, 156, 159, 160, 161, 162, 164, 165, 167, 168, 169, 170, 171, 172, 173, 176, 177, 179, 180, 182, 183, 191, 192, 194, 195, 197, 198, 199, 200, 201, 202, 203, 213, 215, 216, 218, 219, 220, 222, 223, 225, 226, 227, 230, 231, 232, 233, 234, 235, 236, 246, 247, 249, 250, 252, 253, 254, 256, 257, 259, 260, 261, 263, 264, 266, 267, 268, 270, 271, 273, 274, 275, 277, 278, 280, 281, 282, 284, 285, 287, 288, 289, 291, 292, 294, 295, 296, 298, 299, 301, 302, 303, 305, 306, 308, 309, 310, 311, 312, 313, 314, 324, 326, 327, 329, 330, 331, 333, 334, 336, 337, 338, 340, 341, 343, 344, 345, 347, 348, 350, 351, 352, 354, 355, 357, 358, 359, 360, 361, 362, 363, 366, 368, 369, 371, 372, 373, 375, 376, 378, 379, 380, 382, 383, 385, 386, 387, 389, 390, 392, 393, 394, 397, 398, 399, 401, 402, 404, 405, 406, 408, 409, 411, 412, 413, 415, 416, 418, 419, 420, 422, 423, 425, 426, 427, 430, 431, 432, 435, 436, 437, 439, 440, 442, 443, 444, 447, 448, 449, 451, 452, 454, 455]
set_option maxRecDepth 100000
theorem K_eq : K = Kh := by kernel_rfl
theorem Ka_eq : ∀ P, Ka = (K P).map (·.1) := by intro P; kernel_rfl
end Mine
open PySem PySem.W PySem.Calls PyProof.Rows
namespace Mine
noncomputable def vw : Program := { PySem.Challenge.pw_xm0985_01 with main := { PySem.Challenge.pw_xm0985_01.main with body := [tp 0, tp 2, tp 4, tp 5, tp 6, tp 7, tp 9, tp 11, tp 12, tp 13, tp 14, tp 15, tp 17, tp 18, tp 19, tp 20, tp 21, tp 22, tp 24, tp 25, tp 26, tp 27, tp 28, tp 30, tp 31, tp 32, tp 34, tp 35, tp 37, tp 38, tp 39, tp 40, tp 41, tp 42, tp 43, tp 44, tp 45, tp 46, tp 47, tp 48, tp 49] } }
noncomputable def loose : List Str := [Str.ofString "SettingError", Str.ofString "Frame", Str.ofString "COLOURS"]
noncomputable def lv : List (Str × WData) := [(Str.ofString "COLOURS", WData.tuple [WData.str ⟨#[103, 114, 101, 101, 110]⟩, WData.str ⟨#[121, 101, 108, 108, 111, 119]⟩, WData.str ⟨#[114, 101, 100]⟩])]
noncomputable abbrev kH : Hook := kHook K Ka Ka_eq
noncomputable abbrev rowW : RowW := OpenRow.toRowW (OpenLaw.row PySem.Challenge.rw_xm0985_01)
end Mine
namespace Mine
set_option maxHeartbeats 0
theorem lk_size (w : World) : ((boot_heap w.params).isNs mainGlobals && (Array.mk ([] : List GenState)).size == 0, (boot_heap w.params).objs.size, (boot_heap w.params).nsMap mainGlobals "__annotations__") = (true, 11, some (Value.ref 6)) := by
  rw [PySem.W.Fast.te8920871248978507458]
  kernel_rfl
theorem lk_stat (w : World) (os : OsState) : staticsOk (importedModules PySem.Challenge.pw_xm0985_01.main.body) (boot_heap w.params) (H1 w.params) = true := by
  rw [PySem.W.Fast.te5923862056798008813]
  kernel_rfl
theorem lk_names (w : World) (os : OsState) : namesBound PySem.Challenge.pw_xm0985_01 (H1 w.params) = true := by
  kernel_rfl
theorem lk_gens (w : World) (os : OsState) : gensDone (⟨H1 w.params, Array.mk [], boot_drawn, 830, os⟩ : Shared) = true := by
  kernel_rfl
theorem lk_laid (w : World) (os : OsState) : laidKept (boot_heap w.params) (H1 w.params) = true := by
  kernel_rfl
theorem lk_s1 (w : World) (os : OsState) : seen ((recsOf vw).map (·.name)) (ownsOf vw) [] { (⟨H1 w.params, Array.mk [], boot_drawn, 830, os⟩ : Shared) with gens := #[] } = expectedOf vw := by
  rw [PySem.W.Fast.te5160383126252970620, PySem.W.R.mapR_eq, PySem.W.Fast.te3399658132070893891, PySem.W.Fast.te5991557255702980513]
  kernel_rfl
theorem lk_s2 (w : World) (os : OsState) : (⟨H1 w.params, Array.mk [], boot_drawn, 830, os⟩ : Shared).heap.bltView = bltViewBooted := by
  kernel_rfl
theorem lk_s3a (w : World) (os : OsState) : (⟨H1 w.params, Array.mk [], boot_drawn, 830, os⟩ : Shared).heap.keysOk (looseW vw loose) ((recsOf vw).map (·.name)) ((litsOf vw).map (·.1)) ((clssOf vw (looseW vw loose)).map (·.name)) = true := by
  rw [PySem.W.Fast.te10880121769531294198, PySem.W.Fast.te821141287760084731, PySem.W.R.mapR_eq, PySem.W.Fast.te3399658132070893891, PySem.W.Fast.te7409074990110511671, PySem.W.Fast.te13664370479719496447]
  kernel_rfl
theorem lk_s3b (w : World) (os : OsState) : (⟨H1 w.params, Array.mk [], boot_drawn, 830, os⟩ : Shared).heap.accountedOkI (importedModules PySem.Challenge.pw_xm0985_01.main.body) = true := by
  rw [PySem.W.Fast.te14722251495701143533, PySem.W.Fast.te5923862056798008813]
  kernel_rfl
theorem lk_s3c (w : World) (os : OsState) : (⟨H1 w.params, Array.mk [], boot_drawn, 830, os⟩ : Shared).heap.isNs mainGlobals = true := by
  kernel_rfl
theorem lk_s3f (w : World) (os : OsState) : (⟨H1 w.params, Array.mk [], boot_drawn, 830, os⟩ : Shared).heap.isNs builtinsNs = true := by
  kernel_rfl
theorem lk_s3d (w : World) (os : OsState) : tablesOk vw (⟨H1 w.params, Array.mk [], boot_drawn, 830, os⟩ : Shared).heap = true := by
  rw [PySem.W.Fast.te10994771534591457954]
  kernel_rfl
theorem lk_s3e (w : World) (os : OsState) : (xlAt vw lv (⟨H1 w.params, Array.mk [], boot_drawn, 830, os⟩ : Shared) && recOk (RowW.records rowW) (⟨H1 w.params, Array.mk [], boot_drawn, 830, os⟩ : Shared)) = true := by
  kernel_rfl
theorem lk_s4 (w : World) (os : OsState) : tabsOk vw (⟨H1 w.params, Array.mk [], boot_drawn, 830, os⟩ : Shared) = true := by
  rw [PySem.W.Fast.te479339242167458305]
  kernel_rfl
theorem lk_s5 (w : World) (os : OsState) : pinSeenD vw (drecsOf vw) (⟨H1 w.params, Array.mk [], boot_drawn, 830, os⟩ : Shared) = pinGoodD (drecsOf vw) := by
  rw [PySem.W.Fast.te16090120013241838585, PySem.W.Fast.te3247288618530077131]
  kernel_rfl
theorem lk_s6 (w : World) (os : OsState) : plainSeenE vw (looseW vw loose) (⟨H1 w.params, Array.mk [], boot_drawn, 830, os⟩ : Shared) = plainGoodE vw (looseW vw loose) := by
  rw [PySem.W.Fast.te2386780881361962483, PySem.W.Fast.te821141287760084731]
  kernel_rfl
theorem lk_s7 (w : World) (os : OsState) : plainSeenD vw loose (⟨H1 w.params, Array.mk [], boot_drawn, 830, os⟩ : Shared) = plainGoodD vw loose := by
  rw [PySem.W.Fast.te11698064438423848299]
  kernel_rfl
theorem lk_s8 (w : World) (os : OsState) : wideSeen vw (⟨H1 w.params, Array.mk [], boot_drawn, 830, os⟩ : Shared) = wideGood vw := by
  rw [PySem.W.Fast.te7317090234206586261]
  kernel_rfl
theorem lk_s9 (w : World) (os : OsState) : clsSeenW vw loose (⟨H1 w.params, Array.mk [], boot_drawn, 830, os⟩ : Shared) = clsGoodW vw loose := by
  rw [PySem.W.Fast.te7369524293546568484]
  kernel_rfl
theorem lk_yf (w : World) (os : OsState) : (Ka.map (H1 w.params).get?) = ((Kh w.params).map fun p => some p.2) := by kernel_rfl
noncomputable def s1_o2 (P : Params) : Obj := Obj.mk Value.none none (Data.dict #[] 0) #[]
noncomputable def s1_o3 (P : Params) : Obj := Obj.mk (Value.type "dict") none (Data.dict #[DictEntry.mk (PyData.keyHash P (Str.ofString "__name__")) (Value.str (Str.ofString "__name__") 165) (Value.str (Str.ofString "__main__") 164), DictEntry.mk (PyData.keyHash P (Str.ofString "__doc__")) (Value.str (Str.ofString "__doc__") 166) Value.none, DictEntry.mk (PyData.keyHash P (Str.ofString "__package__")) (Value.str (Str.ofString "__package__") 167) Value.none, DictEntry.mk (PyData.keyHash P (Str.ofString "__loader__")) (Value.str (Str.ofString "__loader__") 168) (Value.builtin "__main__.__loader__#opaque"), DictEntry.mk (PyData.keyHash P (Str.ofString "__spec__")) (Value.str (Str.ofString "__spec__") 169) Value.none, DictEntry.mk (PyData.keyHash P (Str.ofString "__annotations__")) (Value.str (Str.ofString "__annotations__") 170) (Value.ref 6), DictEntry.mk (PyData.keyHash P (Str.ofString "__builtins__")) (Value.str (Str.ofString "__builtins__") 171) (Value.ref 4), DictEntry.mk (PyData.keyHash P (Str.ofString "__file__")) (Value.str (Str.ofString "__file__") 173) (Value.str (Str.ofString "/claim/cut.py") 172), DictEntry.mk (PyData.keyHash P (Str.ofString "__cached__")) (Value.str (Str.ofString "__cached__") 174) Value.none] 9) #[]
noncomputable def s1_o12 (P : Params) : Obj := Obj.mk Value.none none (Data.fields #[]) #[]
noncomputable def Hs1 (P : Params) : Heap := ⟨⟨[boot_o_0 P, boot_o_1 P, s1_o2 P, s1_o3 P, boot_o_4 P, boot_o_5 P, boot_o_6 P, boot_o_7 P, boot_o_8 P, boot_o_9 P, boot_o_10 P, o11 P, s1_o12 P, o13 P, o14 P]⟩, Life.mk [] [] [] 0 [] [] Bool.false #[] [] 0 Bool.false Bool.false Bool.false 0 [2000, 10, 10] Bool.false 0 Bool.true [] [] 0 Bool.false⟩
noncomputable def s6_o3 (P : Params) : Obj := Obj.mk (Value.type "dict") none (Data.dict #[DictEntry.mk (PyData.keyHash P (Str.ofString "__name__")) (Value.str (Str.ofString "__name__") 165) (Value.str (Str.ofString "switchloom.errors") 205), DictEntry.mk (PyData.keyHash P (Str.ofString "__doc__")) (Value.str (Str.ofString "__doc__") 166) Value.none, DictEntry.mk (PyData.keyHash P (Str.ofString "__package__")) (Value.str (Str.ofString "__package__") 167) Value.none, DictEntry.mk (PyData.keyHash P (Str.ofString "__loader__")) (Value.str (Str.ofString "__loader__") 168) (Value.builtin "__main__.__loader__#opaque"), DictEntry.mk (PyData.keyHash P (Str.ofString "__spec__")) (Value.str (Str.ofString "__spec__") 169) Value.none, DictEntry.mk (PyData.keyHash P (Str.ofString "__annotations__")) (Value.str (Str.ofString "__annotations__") 170) (Value.ref 6), DictEntry.mk (PyData.keyHash P (Str.ofString "__builtins__")) (Value.str (Str.ofString "__builtins__") 171) (Value.ref 4), DictEntry.mk (PyData.keyHash P (Str.ofString "__file__")) (Value.str (Str.ofString "__file__") 173) (Value.str (Str.ofString "/claim/cut.py") 172), DictEntry.mk (PyData.keyHash P (Str.ofString "__cached__")) (Value.str (Str.ofString "__cached__") 174) Value.none, DictEntry.mk (PyData.keyHash P (Str.ofString "_wall")) (Value.str (Str.ofString "_wall") 193) (Value.ref 21), DictEntry.mk (PyData.keyHash P (Str.ofString "time_behind")) (Value.str (Str.ofString "time_behind") 204) (Value.ref 28), DictEntry.mk (PyData.keyHash P (Str.ofString "SwitchError")) (Value.str (Str.ofString "SwitchError") 235) (Value.ref 45)] 12) #[]
noncomputable def s6_o12 (P : Params) : Obj := Obj.mk Value.none none (Data.fields #[Value.int 1 0, Value.int 0 0, Value.ref 20, Value.int 5 0, Value.int 0 0, Value.ref 27, Value.int 8 0, Value.int 0 0, Value.ref 34]) #[]
noncomputable def s6_o45 (P : Params) : Obj := Obj.mk (Value.type "type") none (Data.cls (ClassData.mk (Str.ofString "SwitchError") [Value.type "Exception"] [Value.ref 45, Value.type "Exception", Value.type "BaseException", Value.type "object"] 44 (Str.ofString "SwitchError") Bool.true [] [] Bool.false none Bool.false)) #[(some (Value.ref 29)), none, (some (Value.str (Str.ofString "SwitchError") 207)), (some (Value.str (Str.ofString "SwitchError") 215)), (some (Value.builtin "Exception.__new__")), (some (Value.bool Bool.true))]
noncomputable def Hs6 (P : Params) : Heap := ⟨⟨[boot_o_0 P, boot_o_1 P, o2 P, s6_o3 P, boot_o_4 P, boot_o_5 P, boot_o_6 P, boot_o_7 P, boot_o_8 P, boot_o_9 P, boot_o_10 P, o11 P, s6_o12 P, o13 P, o14 P, o15 P] ++ (hc1 P ++ ([o32 P, o33 P, o34 P, o35 P, o36 P, o37 P, o38 P, o39 P, o40 P, o41 P, o42 P, o43 P, o44 P, s6_o45 P, o46 P, o47 P] ++ ([o48 P])))⟩, Life.mk [] [] [] 0 [] [] Bool.false #[] [] 0 Bool.false Bool.false Bool.false 0 [2000, 10, 10] Bool.false 0 Bool.true [] [] 0 Bool.false⟩
noncomputable def s9_o3 (P : Params) : Obj := Obj.mk (Value.type "dict") none (Data.dict #[DictEntry.mk (PyData.keyHash P (Str.ofString "__name__")) (Value.str (Str.ofString "__name__") 165) (Value.str (Str.ofString "switchloom.errors") 205), DictEntry.mk (PyData.keyHash P (Str.ofString "__doc__")) (Value.str (Str.ofString "__doc__") 166) Value.none, DictEntry.mk (PyData.keyHash P (Str.ofString "__package__")) (Value.str (Str.ofString "__package__") 167) Value.none, DictEntry.mk (PyData.keyHash P (Str.ofString "__loader__")) (Value.str (Str.ofString "__loader__") 168) (Value.builtin "__main__.__loader__#opaque"), DictEntry.mk (PyData.keyHash P (Str.ofString "__spec__")) (Value.str (Str.ofString "__spec__") 169) Value.none, DictEntry.mk (PyData.keyHash P (Str.ofString "__annotations__")) (Value.str (Str.ofString "__annotations__") 170) (Value.ref 6), DictEntry.mk (PyData.keyHash P (Str.ofString "__builtins__")) (Value.str (Str.ofString "__builtins__") 171) (Value.ref 4), DictEntry.mk (PyData.keyHash P (Str.ofString "__file__")) (Value.str (Str.ofString "__file__") 173) (Value.str (Str.ofString "/claim/cut.py") 172), DictEntry.mk (PyData.keyHash P (Str.ofString "__cached__")) (Value.str (Str.ofString "__cached__") 174) Value.none, DictEntry.mk (PyData.keyHash P (Str.ofString "_wall")) (Value.str (Str.ofString "_wall") 193) (Value.ref 21), DictEntry.mk (PyData.keyHash P (Str.ofString "time_behind")) (Value.str (Str.ofString "time_behind") 204) (Value.ref 28), DictEntry.mk (PyData.keyHash P (Str.ofString "SwitchError")) (Value.str (Str.ofString "SwitchError") 235) (Value.ref 45), DictEntry.mk (PyData.keyHash P (Str.ofString "SizeError")) (Value.str (Str.ofString "SizeError") 251) (Value.ref 58), DictEntry.mk (PyData.keyHash P (Str.ofString "TableError")) (Value.str (Str.ofString "TableError") 267) (Value.ref 70), DictEntry.mk (PyData.keyHash P (Str.ofString "SettingError")) (Value.str (Str.ofString "SettingError") 294) (Value.ref 90)] 15) #[]
noncomputable def s9_o12 (P : Params) : Obj := Obj.mk Value.none none (Data.fields #[Value.int 1 0, Value.int 0 0, Value.ref 20, Value.int 5 0, Value.int 0 0, Value.ref 27, Value.int 8 0, Value.int 0 0, Value.ref 34, Value.int 13 0, Value.int 0 0, Value.ref 54, Value.int 15 0, Value.int 0 0, Value.ref 66, Value.int 17 0, Value.int 0 0, Value.ref 78]) #[]
noncomputable def Hs9 (P : Params) : Heap := ⟨⟨[boot_o_0 P, boot_o_1 P, o2 P, s9_o3 P, boot_o_4 P, boot_o_5 P, boot_o_6 P, boot_o_7 P, boot_o_8 P, boot_o_9 P, boot_o_10 P, o11 P, s9_o12 P, o13 P, o14 P, o15 P] ++ (hc1 P ++ (hc2 P ++ (hc3 P ++ (hc4 P ++ ([o80 P, o81 P, o82 P, o83 P, o84 P, o85 P, o86 P, o87 P, o88 P, o89 P, o90 P, o91 P, o92 P])))))⟩, Life.mk [] [] [] 0 [] [] Bool.false #[] [] 0 Bool.false Bool.false Bool.false 0 [2000, 10, 10] Bool.false 0 Bool.true [] [] 0 Bool.false⟩
noncomputable def s24_o3 (P : Params) : Obj := Obj.mk (Value.type "dict") none (Data.dict #[DictEntry.mk (PyData.keyHash P (Str.ofString "__name__")) (Value.str (Str.ofString "__name__") 165) (Value.str (Str.ofString "switchloom.frames") 333), DictEntry.mk (PyData.keyHash P (Str.ofString "__doc__")) (Value.str (Str.ofString "__doc__") 166) Value.none, DictEntry.mk (PyData.keyHash P (Str.ofString "__package__")) (Value.str (Str.ofString "__package__") 167) Value.none, DictEntry.mk (PyData.keyHash P (Str.ofString "__loader__")) (Value.str (Str.ofString "__loader__") 168) (Value.builtin "__main__.__loader__#opaque"), DictEntry.mk (PyData.keyHash P (Str.ofString "__spec__")) (Value.str (Str.ofString "__spec__") 169) Value.none, DictEntry.mk (PyData.keyHash P (Str.ofString "__annotations__")) (Value.str (Str.ofString "__annotations__") 170) (Value.ref 6), DictEntry.mk (PyData.keyHash P (Str.ofString "__builtins__")) (Value.str (Str.ofString "__builtins__") 171) (Value.ref 4), DictEntry.mk (PyData.keyHash P (Str.ofString "__file__")) (Value.str (Str.ofString "__file__") 173) (Value.str (Str.ofString "/claim/cut.py") 172), DictEntry.mk (PyData.keyHash P (Str.ofString "__cached__")) (Value.str (Str.ofString "__cached__") 174) Value.none, DictEntry.mk (PyData.keyHash P (Str.ofString "_wall")) (Value.str (Str.ofString "_wall") 193) (Value.ref 21), DictEntry.mk (PyData.keyHash P (Str.ofString "time_behind")) (Value.str (Str.ofString "time_behind") 204) (Value.ref 28), DictEntry.mk (PyData.keyHash P (Str.ofString "SwitchError")) (Value.str (Str.ofString "SwitchError") 235) (Value.ref 45), DictEntry.mk (PyData.keyHash P (Str.ofString "SizeError")) (Value.str (Str.ofString "SizeError") 251) (Value.ref 58), DictEntry.mk (PyData.keyHash P (Str.ofString "TableError")) (Value.str (Str.ofString "TableError") 267) (Value.ref 70), DictEntry.mk (PyData.keyHash P (Str.ofString "SettingError")) (Value.str (Str.ofString "SettingError") 294) (Value.ref 90), DictEntry.mk (PyData.keyHash P (Str.ofString "least_multiple")) (Value.str (Str.ofString "least_multiple") 307) (Value.ref 99), DictEntry.mk (PyData.keyHash P (Str.ofString "GREAT")) (Value.str (Str.ofString "GREAT") 311) (Value.int 2147483647 310), DictEntry.mk (PyData.keyHash P (Str.ofString "STEP")) (Value.str (Str.ofString "STEP") 313) (Value.int 48271 312), DictEntry.mk (PyData.keyHash P (Str.ofString "MOST_SEED")) (Value.str (Str.ofString "MOST_SEED") 315) (Value.int 1000000 314), DictEntry.mk (PyData.keyHash P (Str.ofString "field_worth")) (Value.str (Str.ofString "field_worth") 323) (Value.ref 106), DictEntry.mk (PyData.keyHash P (Str.ofString "mixed_worth")) (Value.str (Str.ofString "mixed_worth") 332) (Value.ref 113), DictEntry.mk (PyData.keyHash P (Str.ofString "HEAD_SIZE")) (Value.str (Str.ofString "HEAD_SIZE") 336) (Value.int 14 335), DictEntry.mk (PyData.keyHash P (Str.ofString "TAG_SIZE")) (Value.str (Str.ofString "TAG_SIZE") 338) (Value.int 4 337), DictEntry.mk (PyData.keyHash P (Str.ofString "SUM_SIZE")) (Value.str (Str.ofString "SUM_SIZE") 340) (Value.int 4 339), DictEntry.mk (PyData.keyHash P (Str.ofString "LEAST_SIZE")) (Value.str (Str.ofString "LEAST_SIZE") 342) (Value.int 60 341), DictEntry.mk (PyData.keyHash P (Str.ofString "Tag")) (Value.str (Str.ofString "Tag") 384) (Value.ref 137), DictEntry.mk (PyData.keyHash P (Str.ofString "Frame")) (Value.str (Str.ofString "Frame") 435) (Value.ref 171)] 27) #[]
noncomputable def s24_o12 (P : Params) : Obj := Obj.mk Value.none none (Data.fields #[Value.int 1 0, Value.int 0 0, Value.ref 20, Value.int 5 0, Value.int 0 0, Value.ref 27, Value.int 8 0, Value.int 0 0, Value.ref 34, Value.int 13 0, Value.int 0 0, Value.ref 54, Value.int 15 0, Value.int 0 0, Value.ref 66, Value.int 17 0, Value.int 0 0, Value.ref 78, Value.int 23 0, Value.int 0 0, Value.ref 98, Value.int 35 0, Value.int 0 0, Value.ref 105, Value.int 43 0, Value.int 0 0, Value.ref 112, Value.int 51 0, Value.int 0 0, Value.ref 119, Value.int 61 0, Value.int 0 0, Value.ref 147]) #[]
noncomputable def Hs24 (P : Params) : Heap := ⟨⟨[boot_o_0 P, boot_o_1 P, o2 P, s24_o3 P, boot_o_4 P, boot_o_5 P, boot_o_6 P, boot_o_7 P, boot_o_8 P, boot_o_9 P, boot_o_10 P, o11 P, s24_o12 P, o13 P, o14 P, o15 P] ++ (hc1 P ++ (hc2 P ++ (hc3 P ++ (hc4 P ++ (hc5 P ++ (hc6 P ++ (hc7 P ++ (hc8 P ++ (hc9 P ++ (hc10 P))))))))))⟩, Life.mk [] [] [] 0 [] [] Bool.false #[] [] 0 Bool.false Bool.false Bool.false 0 [2000, 10, 10] Bool.false 0 Bool.true [] [] 0 Bool.false⟩
noncomputable def s33_o3 (P : Params) : Obj := Obj.mk (Value.type "dict") none (Data.dict #[DictEntry.mk (PyData.keyHash P (Str.ofString "__name__")) (Value.str (Str.ofString "__name__") 165) (Value.str (Str.ofString "switchloom.ports") 453), DictEntry.mk (PyData.keyHash P (Str.ofString "__doc__")) (Value.str (Str.ofString "__doc__") 166) Value.none, DictEntry.mk (PyData.keyHash P (Str.ofString "__package__")) (Value.str (Str.ofString "__package__") 167) Value.none, DictEntry.mk (PyData.keyHash P (Str.ofString "__loader__")) (Value.str (Str.ofString "__loader__") 168) (Value.builtin "__main__.__loader__#opaque"), DictEntry.mk (PyData.keyHash P (Str.ofString "__spec__")) (Value.str (Str.ofString "__spec__") 169) Value.none, DictEntry.mk (PyData.keyHash P (Str.ofString "__annotations__")) (Value.str (Str.ofString "__annotations__") 170) (Value.ref 6), DictEntry.mk (PyData.keyHash P (Str.ofString "__builtins__")) (Value.str (Str.ofString "__builtins__") 171) (Value.ref 4), DictEntry.mk (PyData.keyHash P (Str.ofString "__file__")) (Value.str (Str.ofString "__file__") 173) (Value.str (Str.ofString "/claim/cut.py") 172), DictEntry.mk (PyData.keyHash P (Str.ofString "__cached__")) (Value.str (Str.ofString "__cached__") 174) Value.none, DictEntry.mk (PyData.keyHash P (Str.ofString "_wall")) (Value.str (Str.ofString "_wall") 193) (Value.ref 21), DictEntry.mk (PyData.keyHash P (Str.ofString "time_behind")) (Value.str (Str.ofString "time_behind") 204) (Value.ref 28), DictEntry.mk (PyData.keyHash P (Str.ofString "SwitchError")) (Value.str (Str.ofString "SwitchError") 235) (Value.ref 45), DictEntry.mk (PyData.keyHash P (Str.ofString "SizeError")) (Value.str (Str.ofString "SizeError") 251) (Value.ref 58), DictEntry.mk (PyData.keyHash P (Str.ofString "TableError")) (Value.str (Str.ofString "TableError") 267) (Value.ref 70), DictEntry.mk (PyData.keyHash P (Str.ofString "SettingError")) (Value.str (Str.ofString "SettingError") 294) (Value.ref 90), DictEntry.mk (PyData.keyHash P (Str.ofString "least_multiple")) (Value.str (Str.ofString "least_multiple") 307) (Value.ref 99), DictEntry.mk (PyData.keyHash P (Str.ofString "GREAT")) (Value.str (Str.ofString "GREAT") 311) (Value.int 2147483647 310), DictEntry.mk (PyData.keyHash P (Str.ofString "STEP")) (Value.str (Str.ofString "STEP") 313) (Value.int 48271 312), DictEntry.mk (PyData.keyHash P (Str.ofString "MOST_SEED")) (Value.str (Str.ofString "MOST_SEED") 315) (Value.int 1000000 314), DictEntry.mk (PyData.keyHash P (Str.ofString "field_worth")) (Value.str (Str.ofString "field_worth") 323) (Value.ref 106), DictEntry.mk (PyData.keyHash P (Str.ofString "mixed_worth")) (Value.str (Str.ofString "mixed_worth") 332) (Value.ref 113), DictEntry.mk (PyData.keyHash P (Str.ofString "HEAD_SIZE")) (Value.str (Str.ofString "HEAD_SIZE") 336) (Value.int 14 335), DictEntry.mk (PyData.keyHash P (Str.ofString "TAG_SIZE")) (Value.str (Str.ofString "TAG_SIZE") 338) (Value.int 4 337), DictEntry.mk (PyData.keyHash P (Str.ofString "SUM_SIZE")) (Value.str (Str.ofString "SUM_SIZE") 340) (Value.int 4 339), DictEntry.mk (PyData.keyHash P (Str.ofString "LEAST_SIZE")) (Value.str (Str.ofString "LEAST_SIZE") 342) (Value.int 60 341), DictEntry.mk (PyData.keyHash P (Str.ofString "Tag")) (Value.str (Str.ofString "Tag") 384) (Value.ref 137), DictEntry.mk (PyData.keyHash P (Str.ofString "Frame")) (Value.str (Str.ofString "Frame") 435) (Value.ref 171), DictEntry.mk (PyData.keyHash P (Str.ofString "GREEN")) (Value.str (Str.ofString "GREEN") 439) (Value.str (Str.ofString "green") 438), DictEntry.mk (PyData.keyHash P (Str.ofString "YELLOW")) (Value.str (Str.ofString "YELLOW") 441) (Value.str (Str.ofString "yellow") 440), DictEntry.mk (PyData.keyHash P (Str.ofString "RED")) (Value.str (Str.ofString "RED") 443) (Value.str (Str.ofString "red") 442), DictEntry.mk (PyData.keyHash P (Str.ofString "COLOURS")) (Value.str (Str.ofString "COLOURS") 444) (Value.ref 176), DictEntry.mk (PyData.keyHash P (Str.ofString "colour_before")) (Value.str (Str.ofString "colour_before") 452) (Value.ref 183), DictEntry.mk (PyData.keyHash P (Str.ofString "Port")) (Value.str (Str.ofString "Port") 492) (Value.ref 201), DictEntry.mk (PyData.keyHash P (Str.ofString "LinkWatch")) (Value.str (Str.ofString "LinkWatch") 536) (Value.ref 234)] 34) #[]
noncomputable def s33_o12 (P : Params) : Obj := Obj.mk Value.none none (Data.fields #[Value.int 1 0, Value.int 0 0, Value.ref 20, Value.int 5 0, Value.int 0 0, Value.ref 27, Value.int 8 0, Value.int 0 0, Value.ref 34, Value.int 13 0, Value.int 0 0, Value.ref 54, Value.int 15 0, Value.int 0 0, Value.ref 66, Value.int 17 0, Value.int 0 0, Value.ref 78, Value.int 23 0, Value.int 0 0, Value.ref 98, Value.int 35 0, Value.int 0 0, Value.ref 105, Value.int 43 0, Value.int 0 0, Value.ref 112, Value.int 51 0, Value.int 0 0, Value.ref 119, Value.int 61 0, Value.int 0 0, Value.ref 147, Value.int 80 0, Value.int 0 0, Value.ref 182, Value.int 87 0, Value.int 0 0, Value.ref 189, Value.int 95 0, Value.int 0 0, Value.ref 211]) #[]
noncomputable def Hs33 (P : Params) : Heap := ⟨⟨[boot_o_0 P, boot_o_1 P, o2 P, s33_o3 P, boot_o_4 P, boot_o_5 P, boot_o_6 P, boot_o_7 P, boot_o_8 P, boot_o_9 P, boot_o_10 P, o11 P, s33_o12 P, o13 P, o14 P, o15 P] ++ (hc1 P ++ (hc2 P ++ (hc3 P ++ (hc4 P ++ (hc5 P ++ (hc6 P ++ (hc7 P ++ (hc8 P ++ (hc9 P ++ (hc10 P ++ (hc11 P ++ (hc12 P ++ (hc13 P ++ ([o224 P, o225 P, o226 P, o227 P, o228 P, o229 P, o230 P, o231 P, o232 P, o233 P, o234 P, o235 P, o236 P, o237 P, o238 P]))))))))))))))⟩, Life.mk [] [] [] 0 [] [] Bool.false #[] [] 0 Bool.false Bool.false Bool.false 0 [2000, 10, 10] Bool.false 0 Bool.true [] [] 0 Bool.false⟩
noncomputable def s34_o3 (P : Params) : Obj := Obj.mk (Value.type "dict") none (Data.dict #[DictEntry.mk (PyData.keyHash P (Str.ofString "__name__")) (Value.str (Str.ofString "__name__") 165) (Value.str (Str.ofString "switchloom.ports") 453), DictEntry.mk (PyData.keyHash P (Str.ofString "__doc__")) (Value.str (Str.ofString "__doc__") 166) Value.none, DictEntry.mk (PyData.keyHash P (Str.ofString "__package__")) (Value.str (Str.ofString "__package__") 167) Value.none, DictEntry.mk (PyData.keyHash P (Str.ofString "__loader__")) (Value.str (Str.ofString "__loader__") 168) (Value.builtin "__main__.__loader__#opaque"), DictEntry.mk (PyData.keyHash P (Str.ofString "__spec__")) (Value.str (Str.ofString "__spec__") 169) Value.none, DictEntry.mk (PyData.keyHash P (Str.ofString "__annotations__")) (Value.str (Str.ofString "__annotations__") 170) (Value.ref 6), DictEntry.mk (PyData.keyHash P (Str.ofString "__builtins__")) (Value.str (Str.ofString "__builtins__") 171) (Value.ref 4), DictEntry.mk (PyData.keyHash P (Str.ofString "__file__")) (Value.str (Str.ofString "__file__") 173) (Value.str (Str.ofString "/claim/cut.py") 172), DictEntry.mk (PyData.keyHash P (Str.ofString "__cached__")) (Value.str (Str.ofString "__cached__") 174) Value.none, DictEntry.mk (PyData.keyHash P (Str.ofString "_wall")) (Value.str (Str.ofString "_wall") 193) (Value.ref 21), DictEntry.mk (PyData.keyHash P (Str.ofString "time_behind")) (Value.str (Str.ofString "time_behind") 204) (Value.ref 28), DictEntry.mk (PyData.keyHash P (Str.ofString "SwitchError")) (Value.str (Str.ofString "SwitchError") 235) (Value.ref 45), DictEntry.mk (PyData.keyHash P (Str.ofString "SizeError")) (Value.str (Str.ofString "SizeError") 251) (Value.ref 58), DictEntry.mk (PyData.keyHash P (Str.ofString "TableError")) (Value.str (Str.ofString "TableError") 267) (Value.ref 70), DictEntry.mk (PyData.keyHash P (Str.ofString "SettingError")) (Value.str (Str.ofString "SettingError") 294) (Value.ref 90), DictEntry.mk (PyData.keyHash P (Str.ofString "least_multiple")) (Value.str (Str.ofString "least_multiple") 307) (Value.ref 99), DictEntry.mk (PyData.keyHash P (Str.ofString "GREAT")) (Value.str (Str.ofString "GREAT") 311) (Value.int 2147483647 310), DictEntry.mk (PyData.keyHash P (Str.ofString "STEP")) (Value.str (Str.ofString "STEP") 313) (Value.int 48271 312), DictEntry.mk (PyData.keyHash P (Str.ofString "MOST_SEED")) (Value.str (Str.ofString "MOST_SEED") 315) (Value.int 1000000 314), DictEntry.mk (PyData.keyHash P (Str.ofString "field_worth")) (Value.str (Str.ofString "field_worth") 323) (Value.ref 106), DictEntry.mk (PyData.keyHash P (Str.ofString "mixed_worth")) (Value.str (Str.ofString "mixed_worth") 332) (Value.ref 113), DictEntry.mk (PyData.keyHash P (Str.ofString "HEAD_SIZE")) (Value.str (Str.ofString "HEAD_SIZE") 336) (Value.int 14 335), DictEntry.mk (PyData.keyHash P (Str.ofString "TAG_SIZE")) (Value.str (Str.ofString "TAG_SIZE") 338) (Value.int 4 337), DictEntry.mk (PyData.keyHash P (Str.ofString "SUM_SIZE")) (Value.str (Str.ofString "SUM_SIZE") 340) (Value.int 4 339), DictEntry.mk (PyData.keyHash P (Str.ofString "LEAST_SIZE")) (Value.str (Str.ofString "LEAST_SIZE") 342) (Value.int 60 341), DictEntry.mk (PyData.keyHash P (Str.ofString "Tag")) (Value.str (Str.ofString "Tag") 384) (Value.ref 137), DictEntry.mk (PyData.keyHash P (Str.ofString "Frame")) (Value.str (Str.ofString "Frame") 435) (Value.ref 171), DictEntry.mk (PyData.keyHash P (Str.ofString "GREEN")) (Value.str (Str.ofString "GREEN") 439) (Value.str (Str.ofString "green") 438), DictEntry.mk (PyData.keyHash P (Str.ofString "YELLOW")) (Value.str (Str.ofString "YELLOW") 441) (Value.str (Str.ofString "yellow") 440), DictEntry.mk (PyData.keyHash P (Str.ofString "RED")) (Value.str (Str.ofString "RED") 443) (Value.str (Str.ofString "red") 442), DictEntry.mk (PyData.keyHash P (Str.ofString "COLOURS")) (Value.str (Str.ofString "COLOURS") 444) (Value.ref 176), DictEntry.mk (PyData.keyHash P (Str.ofString "colour_before")) (Value.str (Str.ofString "colour_before") 452) (Value.ref 183), DictEntry.mk (PyData.keyHash P (Str.ofString "Port")) (Value.str (Str.ofString "Port") 492) (Value.ref 201), DictEntry.mk (PyData.keyHash P (Str.ofString "LinkWatch")) (Value.str (Str.ofString "LinkWatch") 536) (Value.ref 234), DictEntry.mk (PyData.keyHash P (Str.ofString "Ports")) (Value.str (Str.ofString "Ports") 641) (Value.ref 312)] 35) #[]
noncomputable def s34_o12 (P : Params) : Obj := Obj.mk Value.none none (Data.fields #[Value.int 1 0, Value.int 0 0, Value.ref 20, Value.int 5 0, Value.int 0 0, Value.ref 27, Value.int 8 0, Value.int 0 0, Value.ref 34, Value.int 13 0, Value.int 0 0, Value.ref 54, Value.int 15 0, Value.int 0 0, Value.ref 66, Value.int 17 0, Value.int 0 0, Value.ref 78, Value.int 23 0, Value.int 0 0, Value.ref 98, Value.int 35 0, Value.int 0 0, Value.ref 105, Value.int 43 0, Value.int 0 0, Value.ref 112, Value.int 51 0, Value.int 0 0, Value.ref 119, Value.int 61 0, Value.int 0 0, Value.ref 147, Value.int 80 0, Value.int 0 0, Value.ref 182, Value.int 87 0, Value.int 0 0, Value.ref 189, Value.int 95 0, Value.int 0 0, Value.ref 211, Value.int 108 0, Value.int 0 0, Value.ref 244]) #[]
noncomputable def Hs34 (P : Params) : Heap := ⟨⟨[boot_o_0 P, boot_o_1 P, o2 P, s34_o3 P, boot_o_4 P, boot_o_5 P, boot_o_6 P, boot_o_7 P, boot_o_8 P, boot_o_9 P, boot_o_10 P, o11 P, s34_o12 P, o13 P, o14 P, o15 P] ++ (hc1 P ++ (hc2 P ++ (hc3 P ++ (hc4 P ++ (hc5 P ++ (hc6 P ++ (hc7 P ++ (hc8 P ++ (hc9 P ++ (hc10 P ++ (hc11 P ++ (hc12 P ++ (hc13 P ++ (hc14 P ++ (hc15 P ++ (hc16 P ++ (hc17 P ++ (hc18 P ++ ([o304 P, o305 P, o306 P, o307 P, o308 P, o309 P, o310 P, o311 P, o312 P, o313 P, o314 P, o315 P, o316 P])))))))))))))))))))⟩, Life.mk [] [] [] 0 [] [] Bool.false #[] [] 0 Bool.false Bool.false Bool.false 0 [2000, 10, 10] Bool.false 0 Bool.true [] [] 0 Bool.false⟩
noncomputable def s36_o3 (P : Params) : Obj := Obj.mk (Value.type "dict") none (Data.dict #[DictEntry.mk (PyData.keyHash P (Str.ofString "__name__")) (Value.str (Str.ofString "__name__") 165) (Value.str (Str.ofString "switchloom.queues") 642), DictEntry.mk (PyData.keyHash P (Str.ofString "__doc__")) (Value.str (Str.ofString "__doc__") 166) Value.none, DictEntry.mk (PyData.keyHash P (Str.ofString "__package__")) (Value.str (Str.ofString "__package__") 167) Value.none, DictEntry.mk (PyData.keyHash P (Str.ofString "__loader__")) (Value.str (Str.ofString "__loader__") 168) (Value.builtin "__main__.__loader__#opaque"), DictEntry.mk (PyData.keyHash P (Str.ofString "__spec__")) (Value.str (Str.ofString "__spec__") 169) Value.none, DictEntry.mk (PyData.keyHash P (Str.ofString "__annotations__")) (Value.str (Str.ofString "__annotations__") 170) (Value.ref 6), DictEntry.mk (PyData.keyHash P (Str.ofString "__builtins__")) (Value.str (Str.ofString "__builtins__") 171) (Value.ref 4), DictEntry.mk (PyData.keyHash P (Str.ofString "__file__")) (Value.str (Str.ofString "__file__") 173) (Value.str (Str.ofString "/claim/cut.py") 172), DictEntry.mk (PyData.keyHash P (Str.ofString "__cached__")) (Value.str (Str.ofString "__cached__") 174) Value.none, DictEntry.mk (PyData.keyHash P (Str.ofString "_wall")) (Value.str (Str.ofString "_wall") 193) (Value.ref 21), DictEntry.mk (PyData.keyHash P (Str.ofString "time_behind")) (Value.str (Str.ofString "time_behind") 204) (Value.ref 28), DictEntry.mk (PyData.keyHash P (Str.ofString "SwitchError")) (Value.str (Str.ofString "SwitchError") 235) (Value.ref 45), DictEntry.mk (PyData.keyHash P (Str.ofString "SizeError")) (Value.str (Str.ofString "SizeError") 251) (Value.ref 58), DictEntry.mk (PyData.keyHash P (Str.ofString "TableError")) (Value.str (Str.ofString "TableError") 267) (Value.ref 70), DictEntry.mk (PyData.keyHash P (Str.ofString "SettingError")) (Value.str (Str.ofString "SettingError") 294) (Value.ref 90), DictEntry.mk (PyData.keyHash P (Str.ofString "least_multiple")) (Value.str (Str.ofString "least_multiple") 307) (Value.ref 99), DictEntry.mk (PyData.keyHash P (Str.ofString "GREAT")) (Value.str (Str.ofString "GREAT") 311) (Value.int 2147483647 310), DictEntry.mk (PyData.keyHash P (Str.ofString "STEP")) (Value.str (Str.ofString "STEP") 313) (Value.int 48271 312), DictEntry.mk (PyData.keyHash P (Str.ofString "MOST_SEED")) (Value.str (Str.ofString "MOST_SEED") 315) (Value.int 1000000 314), DictEntry.mk (PyData.keyHash P (Str.ofString "field_worth")) (Value.str (Str.ofString "field_worth") 323) (Value.ref 106), DictEntry.mk (PyData.keyHash P (Str.ofString "mixed_worth")) (Value.str (Str.ofString "mixed_worth") 332) (Value.ref 113), DictEntry.mk (PyData.keyHash P (Str.ofString "HEAD_SIZE")) (Value.str (Str.ofString "HEAD_SIZE") 336) (Value.int 14 335), DictEntry.mk (PyData.keyHash P (Str.ofString "TAG_SIZE")) (Value.str (Str.ofString "TAG_SIZE") 338) (Value.int 4 337), DictEntry.mk (PyData.keyHash P (Str.ofString "SUM_SIZE")) (Value.str (Str.ofString "SUM_SIZE") 340) (Value.int 4 339), DictEntry.mk (PyData.keyHash P (Str.ofString "LEAST_SIZE")) (Value.str (Str.ofString "LEAST_SIZE") 342) (Value.int 60 341), DictEntry.mk (PyData.keyHash P (Str.ofString "Tag")) (Value.str (Str.ofString "Tag") 384) (Value.ref 137), DictEntry.mk (PyData.keyHash P (Str.ofString "Frame")) (Value.str (Str.ofString "Frame") 435) (Value.ref 171), DictEntry.mk (PyData.keyHash P (Str.ofString "GREEN")) (Value.str (Str.ofString "GREEN") 439) (Value.str (Str.ofString "green") 438), DictEntry.mk (PyData.keyHash P (Str.ofString "YELLOW")) (Value.str (Str.ofString "YELLOW") 441) (Value.str (Str.ofString "yellow") 440), DictEntry.mk (PyData.keyHash P (Str.ofString "RED")) (Value.str (Str.ofString "RED") 443) (Value.str (Str.ofString "red") 442), DictEntry.mk (PyData.keyHash P (Str.ofString "COLOURS")) (Value.str (Str.ofString "COLOURS") 444) (Value.ref 176), DictEntry.mk (PyData.keyHash P (Str.ofString "colour_before")) (Value.str (Str.ofString "colour_before") 452) (Value.ref 183), DictEntry.mk (PyData.keyHash P (Str.ofString "Port")) (Value.str (Str.ofString "Port") 492) (Value.ref 201), DictEntry.mk (PyData.keyHash P (Str.ofString "LinkWatch")) (Value.str (Str.ofString "LinkWatch") 536) (Value.ref 234), DictEntry.mk (PyData.keyHash P (Str.ofString "Ports")) (Value.str (Str.ofString "Ports") 641) (Value.ref 312), DictEntry.mk (PyData.keyHash P (Str.ofString "QueueRow")) (Value.str (Str.ofString "QueueRow") 708) (Value.ref 361)] 36) #[]
noncomputable def s36_o12 (P : Params) : Obj := Obj.mk Value.none none (Data.fields #[Value.int 1 0, Value.int 0 0, Value.ref 20, Value.int 5 0, Value.int 0 0, Value.ref 27, Value.int 8 0, Value.int 0 0, Value.ref 34, Value.int 13 0, Value.int 0 0, Value.ref 54, Value.int 15 0, Value.int 0 0, Value.ref 66, Value.int 17 0, Value.int 0 0, Value.ref 78, Value.int 23 0, Value.int 0 0, Value.ref 98, Value.int 35 0, Value.int 0 0, Value.ref 105, Value.int 43 0, Value.int 0 0, Value.ref 112, Value.int 51 0, Value.int 0 0, Value.ref 119, Value.int 61 0, Value.int 0 0, Value.ref 147, Value.int 80 0, Value.int 0 0, Value.ref 182, Value.int 87 0, Value.int 0 0, Value.ref 189, Value.int 95 0, Value.int 0 0, Value.ref 211, Value.int 108 0, Value.int 0 0, Value.ref 244, Value.int 172 0, Value.int 0 0, Value.ref 322]) #[]
noncomputable def Hs36 (P : Params) : Heap := ⟨⟨[boot_o_0 P, boot_o_1 P, o2 P, s36_o3 P, boot_o_4 P, boot_o_5 P, boot_o_6 P, boot_o_7 P, boot_o_8 P, boot_o_9 P, boot_o_10 P, o11 P, s36_o12 P, o13 P, o14 P, o15 P] ++ (hc1 P ++ (hc2 P ++ (hc3 P ++ (hc4 P ++ (hc5 P ++ (hc6 P ++ (hc7 P ++ (hc8 P ++ (hc9 P ++ (hc10 P ++ (hc11 P ++ (hc12 P ++ (hc13 P ++ (hc14 P ++ (hc15 P ++ (hc16 P ++ (hc17 P ++ (hc18 P ++ (hc19 P ++ (hc20 P ++ (hc21 P ++ ([o352 P, o353 P, o354 P, o355 P, o356 P, o357 P, o358 P, o359 P, o360 P, o361 P, o362 P, o363 P, o364 P, o365 P]))))))))))))))))))))))⟩, Life.mk [] [] [] 0 [] [] Bool.false #[] [] 0 Bool.false Bool.false Bool.false 0 [2000, 10, 10] Bool.false 0 Bool.true [] [] 0 Bool.false⟩
noncomputable def bE : Env := { scope := PySem.Challenge.pw_xm0985_01.main.scope, locals := mainNs, globals := mainNs, cells := [], code := .ref 13, frame := some 14 }
noncomputable def bL : List Stmt := behindTheImports PySem.Challenge.pw_xm0985_01
noncomputable def gl (i n : Nat) : List Stmt := (bL.drop i).take n
noncomputable abbrev rA : Option Value := some (.ref 6)
noncomputable abbrev rP (a b c d : Nat) : Pos := ⟨a, b, c, d⟩
theorem rn_pre (w : World) (os : OsState) : topGo treeTable PySem.Challenge.pw_xm0985_01 w 11 rA 12 ⟨boot_heap w.params, Array.mk [], boot_drawn, boot_toks, os⟩ (topStub PySem.Challenge.pw_xm0985_01) = some (⟨Hs1 w.params, Array.mk [], boot_drawn, 187, os⟩, ⟨denote treeTable (Code.body bL bE), (Code.body bL bE), (rP 0 0 0 0), [topFrame (rP 0 0 0 0)]⟩) := by
  rw [PySem.W.Fast.te15667345088766844465, PySem.W.Fast.te14364793385576792824, PySem.W.Fast.te11892475500146522536]
  kernel_rfl
theorem rn_block (w : World) (os : OsState) : segRun treeTable PySem.Challenge.pw_xm0985_01 w 11 rA 1 1 ⟨Hs1 w.params, Array.mk [], boot_drawn, 187, os⟩ (blockOf bL bE (Code.body bL bE) (rP 0 0 0 0) [topFrame (rP 0 0 0 0)]) = some (.next, ⟨Hs1 w.params, Array.mk [], boot_drawn, 187, os⟩, (Code.body bL bE), (rP 0 0 0 0)) := by
  rw [PySem.W.Fast.te14374325043358763698, PySem.W.Fast.te14364793385576792824]
  kernel_rfl
theorem rn_6 (w : World) (os : OsState) : segRun treeTable PySem.Challenge.pw_xm0985_01 w 11 rA 1 307 ⟨Hs1 w.params, Array.mk [], boot_drawn, 187, os⟩ (piecesOf (gl 0 5) bE (Code.body bL bE) (rP 0 0 0 0) [topFrame (rP 0 0 0 0)]) = some (.next, ⟨Hs6 w.params, Array.mk [], boot_drawn, 236, os⟩, (Code.body bL bE), (rP 8 0 12 30)) := by
  rw [PySem.W.Fast.te14374325043358763698, PySem.W.Fast.te14364793385576792824]
  kernel_rfl
theorem rn_9 (w : World) (os : OsState) : segRun treeTable PySem.Challenge.pw_xm0985_01 w 11 rA 1 675 ⟨Hs6 w.params, Array.mk [], boot_drawn, 236, os⟩ (piecesOf (gl 5 3) bE (Code.body bL bE) (rP 8 0 12 30) [topFrame (rP 0 0 0 0)]) = some (.next, ⟨Hs9 w.params, Array.mk [], boot_drawn, 295, os⟩, (Code.body bL bE), (rP 17 0 21 22)) := by
  rw [PySem.W.Fast.te14374325043358763698, PySem.W.Fast.te14364793385576792824]
  kernel_rfl
theorem rn_24 (w : World) (os : OsState) : segRun treeTable PySem.Challenge.pw_xm0985_01 w 11 rA 1 739 ⟨Hs9 w.params, Array.mk [], boot_drawn, 295, os⟩ (piecesOf (gl 8 15) bE (Code.body bL bE) (rP 17 0 21 22) [topFrame (rP 0 0 0 0)]) = some (.next, ⟨Hs24 w.params, Array.mk [], boot_drawn, 436, os⟩, (Code.body bL bE), (rP 61 0 74 95)) := by
  rw [PySem.W.Fast.te14374325043358763698, PySem.W.Fast.te14364793385576792824]
  kernel_rfl
theorem rn_33 (w : World) (os : OsState) : segRun treeTable PySem.Challenge.pw_xm0985_01 w 11 rA 1 607 ⟨Hs24 w.params, Array.mk [], boot_drawn, 436, os⟩ (piecesOf (gl 23 9) bE (Code.body bL bE) (rP 61 0 74 95) [topFrame (rP 0 0 0 0)]) = some (.next, ⟨Hs33 w.params, Array.mk [], boot_drawn, 537, os⟩, (Code.body bL bE), (rP 95 0 107 28)) := by
  rw [PySem.W.Fast.te14374325043358763698, PySem.W.Fast.te14364793385576792824]
  kernel_rfl
theorem rn_34 (w : World) (os : OsState) : segRun treeTable PySem.Challenge.pw_xm0985_01 w 11 rA 1 492 ⟨Hs33 w.params, Array.mk [], boot_drawn, 537, os⟩ (piecesOf (gl 32 1) bE (Code.body bL bE) (rP 95 0 107 28) [topFrame (rP 0 0 0 0)]) = some (.next, ⟨Hs34 w.params, Array.mk [], boot_drawn, 642, os⟩, (Code.body bL bE), (rP 108 0 170 16)) := by
  rw [PySem.W.Fast.te14374325043358763698, PySem.W.Fast.te14364793385576792824]
  kernel_rfl
theorem rn_36 (w : World) (os : OsState) : segRun treeTable PySem.Challenge.pw_xm0985_01 w 11 rA 1 364 ⟨Hs34 w.params, Array.mk [], boot_drawn, 642, os⟩ (piecesOf (gl 33 2) bE (Code.body bL bE) (rP 108 0 170 16) [topFrame (rP 0 0 0 0)]) = some (.next, ⟨Hs36 w.params, Array.mk [], boot_drawn, 709, os⟩, (Code.body bL bE), (rP 172 0 200 20)) := by
  rw [PySem.W.Fast.te14374325043358763698, PySem.W.Fast.te14364793385576792824]
  kernel_rfl
theorem rn_51 (w : World) (os : OsState) : segRun treeTable PySem.Challenge.pw_xm0985_01 w 11 rA 1 429 ⟨Hs36 w.params, Array.mk [], boot_drawn, 709, os⟩ (piecesOf (gl 35 15) bE (Code.body bL bE) (rP 172 0 200 20) [topFrame (rP 0 0 0 0)]) = some (.next, ⟨H1 w.params, Array.mk [], boot_drawn, 830, os⟩, (Code.body bL bE), (rP 299 0 307 63)) := by
  rw [PySem.W.Fast.te14374325043358763698, PySem.W.Fast.te14364793385576792824]
  kernel_rfl
theorem rn_fin (w : World) (os : OsState) : topRun treeTable PySem.Challenge.pw_xm0985_01 w 11 rA 2 ⟨H1 w.params, Array.mk [], boot_drawn, 830, os⟩ ⟨doneF .next, (Code.body bL bE), (rP 299 0 307 63), [topFrame (rP 0 0 0 0)]⟩ = some ⟨H1 w.params, Array.mk [], boot_drawn, 830, os⟩ := by
  rw [PySem.W.Fast.te14082659384304107361, PySem.W.Fast.te14364793385576792824]
  kernel_rfl
theorem bL_split : bL = gl 0 5 ++ (gl 5 3 ++ (gl 8 15 ++ (gl 23 9 ++ (gl 32 1 ++ (gl 33 2 ++ (gl 35 15 ++ ([]))))))) := by kernel_rfl
theorem lk_run (w : World) (os : OsState) : topRun treeTable PySem.Challenge.pw_xm0985_01 w 11 (some (.ref 6)) (12 + (1 + (307 + (675 + (739 + (607 + (492 + (364 + (429 + 2))))))))) ⟨boot_heap w.params, Array.mk [], boot_drawn, boot_toks, os⟩ (topStub PySem.Challenge.pw_xm0985_01) = some ⟨H1 w.params, Array.mk [], boot_drawn, 830, os⟩ :=
  go_top (rn_pre w os) (piece_block (rn_block w os) ((congrArg (fun b => topRun treeTable PySem.Challenge.pw_xm0985_01 w 11 rA ((307 + (675 + (739 + (607 + (492 + (364 + (429 + 2)))))))) ⟨Hs1 w.params, Array.mk [], boot_drawn, 187, os⟩ (restOf b bE (Code.body bL bE) (rP 0 0 0 0) [topFrame (rP 0 0 0 0)])) bL_split).trans (piece_app (rn_6 w os) (piece_app (rn_9 w os) (piece_app (rn_24 w os) (piece_app (rn_33 w os) (piece_app (rn_34 w os) (piece_app (rn_36 w os) (piece_app (rn_51 w os) (piece_nil (rn_fin w os)))))))))))
theorem lk_open1 : opening PySem.Challenge.pw_xm0985_01 = plainProg PySem.Challenge.pw_xm0985_01.main.scope.names := by kernel_rfl
theorem lk_open2 (s : Shared) : fenceModules? PySem.Challenge.pw_xm0985_01 s = some s := by kernel_rfl
theorem looks (w : World) : (fun os => ((staticsOk (importedModules PySem.Challenge.pw_xm0985_01.main.body) (boot_heap w.params) (H1 w.params) && namesBound PySem.Challenge.pw_xm0985_01 (H1 w.params) && gensDone ⟨H1 w.params, Array.mk [], boot_drawn, 830, os⟩ && laidKept (boot_heap w.params) (H1 w.params)),
        openSeen vw loose (importedModules PySem.Challenge.pw_xm0985_01.main.body) (fun s => xlAt vw lv s && recOk (RowW.records rowW) s) true ⟨H1 w.params, Array.mk [], boot_drawn, 830, os⟩, kH.obs ⟨H1 w.params, Array.mk [], boot_drawn, 830, os⟩)) = fun _ => (true, openGood vw loose, kH.val w) := by
  funext os
  refine looks_pair (look_both (look_both (look_both (lk_stat w os) (lk_names w os)) (lk_gens w os)) (lk_laid w os)) (looks_pair ?_ ?_)
  · exact looks_pair (lk_s1 w os) (looks_pair (lk_s2 w os) (looks_pair (look_both (look_both (look_both (look_both (look_both (look_both (lk_s3a w os) (lk_s3b w os)) (lk_s3c w os)) (lk_s3f w os)) (lk_s3d w os)) (lk_s3e w os)) rfl) (looks_pair (lk_s4 w os) (looks_pair (lk_s5 w os) (looks_pair (lk_s6 w os) (looks_pair (lk_s7 w os) (looks_pair (lk_s8 w os) (lk_s9 w os))))))))
  · refine (lk_yf w os).trans ?_
    rw [← K_eq]
    exact rfl
theorem left : LeftO PySem.Challenge.pw_xm0985_01 vw loose (fun s => xlAt vw lv s && recOk (RowW.records rowW) s) kH.obs kH.val 7338 true :=
  LeftO.of_pieces (boot_open lk_open1 (by decide) lk_open2) lk_size lk_run (by decide) looks
theorem ws_row : OpenRow.wellSaid (OpenLaw.row PySem.Challenge.rw_xm0985_01) = true := by
  rw [PySem.W.Fast.te17960256430627541270]
  kernel_rfl
theorem wellSaid_rw : OpenLaw.wellSaid PySem.Challenge.rw_xm0985_01 = true := by
  unfold OpenLaw.wellSaid
  rw [ws_row]
  repeat' (with_reducible refine look_both ?_ ?_)
  all_goals (try rw [PySem.W.Fast.te8326940854005059898])
  all_goals (try rw [PySem.W.Fast.te17119622794617984870])
  all_goals (try rw [PySem.W.Fast.te8179353310426384613])
  all_goals (try rw [PySem.W.Fast.te9558739934217749035])
  all_goals kernel_rfl
end Mine

set_option maxHeartbeats 4000000
open PySem PySem.W PySem.Spec PySem.Calls PyProof.Rows
set_option Elab.async false
set_option maxRecDepth 100000
set_option rowWalk.seconds 0
namespace Mine
local macro_rules | `(tactic| walk_at $s:str) => `(tactic| k_extra $s)
local macro_rules | `(tactic| k_all) => `(tactic| k_extra "k_all")
local macro_rules | `(tactic| k_mem) => `(tactic| k_extra "k_mem")
local macro_rules | `(tactic| k_ne) => `(tactic| k_extra "k_ne")
local macro_rules | `(tactic| k_room) => `(tactic| k_extra "k_room")
local macro_rules | `(tactic| k_units) => `(tactic| k_extra "k_units")
local macro_rules | `(tactic| k_upd) => `(tactic| k_extra "k_upd")
local macro_rules | `(tactic| ktr_rel) => `(tactic| k_extra "ktr_rel")
local macro_rules | `(tactic| lcg_src) => `(tactic| k_extra "lcg_src")
section
open LCg
section
variable {prog : Program} {w : World} {A : Around} {E : Value → Shared → Prop} {s : Shared} {h₀ : Heap} {L : Addr} {m : Str → Option Value} {env : Env}
noncomputable abbrev tupO (its : Array Value) (k : Nat) : Obj := { cls := .type "tuple", data := .seq its k }
noncomputable def TupSrc (prog : Program) (w : World) (A : Around) (h₀ : Heap) (L : Addr) (m : Str → Option Value) (env : Env) (elt : Expr) (x : Str) (scope : Scope) (cl : List (Str × Addr)) (Fin : Shared → List Value → List (Addr × Obj) → Prop) (xv : Value) (s₁ : Shared) : Prop :=
  ∃ ax its k news, xv = .ref ax ∧ A.handled = none ∧ Fr h₀ L s₁.heap m ∧ News h₀ L s₁.heap news ∧ (ax, tupO its k) ∈ news ∧ its.size ≤ sizeLine ∧
    ∀ s₂ : Shared, (∃ h, s₂ = { s₁ with heap := h }) → CompRest prog w A h₀ L m env elt x scope cl s₂ (fun nw => (ax, tupO its k) ∈ nw) (fun i v => its[i]? = some v) (Fin s₂) its.size 0 [] news
theorem TupSrc.intro {elt : Expr} {x : Str} {scope : Scope} {cl : List (Str × Addr)} {Fin : Shared → List Value → List (Addr × Obj) → Prop} {ax : Addr} {its : Array Value} {k : Nat} {news : List (Addr × Obj)} {s₁ : Shared}
    (hh : A.handled = none) (F : Fr h₀ L s₁.heap m) (N : News h₀ L s₁.heap news) (hm : (ax, tupO its k) ∈ news) (hsz : its.size ≤ sizeLine)
    (h : ∀ g, CompRest prog w A h₀ L m env elt x scope cl { s₁ with heap := g } (fun nw => (ax, tupO its k) ∈ nw) (fun i v => its[i]? = some v) (Fin { s₁ with heap := g }) its.size 0 [] news) :
    TupSrc prog w A h₀ L m env elt x scope cl Fin (.ref ax) s₁ := ⟨ax, its, k, news, rfl, hh, F, N, hm, hsz, fun _ ⟨g, e⟩ => e ▸ h g⟩
theorem tup_st {ax I : Addr} {its : Array Value} {k : Nat} : ∀ i (h h' : Heap) (o : Obj) (nw : List (Addr × Obj)), (h.IsTupleIter I ax i ∧ h.IsTuple ax its) → h.get? I = some o → h'.get? I = some o → (∀ b o, h₀.get? b = some o → h'.get? b = some o) → News h₀ L h' nw → (ax, tupO its k) ∈ nw → (h'.IsTupleIter I ax i ∧ h'.IsTuple ax its) :=
  fun i h h' o nw st e e' _ N S => ⟨by obtain ⟨o', q, r⟩ := st.1; rw [e] at q; cases q; exact ⟨o, e', r⟩, ⟨_, (N _ S).1, rfl, _, rfl⟩⟩
theorem ListComp_T {elt iter : Expr} {x : Str} {px : Pos} {scope : Scope} {cl : List (Str × Addr)} {pos : Pos} {Q : Value → Shared → Prop} (F₀ : Fr h₀ L s.heap m)
    (hclos : closureFor scope env = pure cl) (hcell : ∀ y ∈ scope.names, y.2 ≠ .cell) (hkind : scope.kind = .function)
    (hnames : ∀ y ∈ scope.names, y.2 = .local → scope.names.lookup y.1 = some .local) (hx : scope.names.lookup x = some .local)
    (h : wpAny (model prog w) A (eval iter env) (TupSrc prog w A h₀ L m env elt x scope cl (fun s₂ => FinE h₀ L m s₂ Q)) E s)
    (hs : ∀ x, foldedSetIterable iter env x = pure x := by intro _; rfl) :
    wpAny (model prog w) A (eval (.ListComp elt [⟨.Name x px, iter, [], 0⟩] scope pos) env) Q E s := by
  rw [eval_ListComp]
  refine wpAny_comprehension_free (use := none) rfl hs hclos hkind hnames (wpAny_mono h (fun xv s₁ h₁ => ?_) fun _ _ e => e)
  obtain ⟨ax, its, k, news, rfl, hh, F, N, S, hsz, R⟩ := h₁
  have hl : s₁.heap.IsTuple ax its := ⟨_, (N _ S).1, rfl, _, rfl⟩
  have hlt : ax < s₁.heap.objs.size := by obtain ⟨_, e, _⟩ := hl; exact Heap.lt_size e
  refine wpAny_pyIter_tuple hl ?_
  have up : ∀ b o, s₁.heap.get? b = some o → (s₁.heap.push { cls := .type "tuple_iterator", data := .fields #[.ref ax, .int 0 0] }).get? b = some o := fun b o e => Heap.get?_push_of_some _ e
  refine block_U (Walks.tuple hh s₁.heap.objs.size ax (Nat.ne_of_lt hlt) its) hsz (fun i h st => by obtain ⟨o, e, _⟩ := st.1; exact ⟨o, e⟩) tup_st hcell hkind hx ⟨⟨_, Heap.get?_push_size _ rfl, rfl, rfl⟩, hl.push _⟩ (fun b hb => ?_)
    (F.keeps up) (N.grown up) (Nat.ne_of_lt F.ns.lt) (next_is_new F) (fun p hp => Nat.ne_of_lt (Heap.lt_size (N p hp).1)) S (R _ ⟨_, rfl⟩) ?_
  · show b < (s₁.heap.push _).objs.size
    rw [Heap.size_push]
    rcases List.mem_cons.mp hb with rfl | hb
    · exact Nat.lt_succ_self _
    · rw [List.mem_singleton.mp hb]; exact Nat.lt_succ_of_lt hlt
  · intro D C h tk m' ys news' F' N' o1 hn hC₀ hD₀ hCL hDL hCD offC fin
    refine ⟨m', hn, fun h'' hs'' => fin D h'' tk (F'.change hs'' hCL hC₀) (fun p hp => ?_) o1⟩
    refine ⟨hs''.extBut _ _ ?_ (N' p hp).1, (N' p hp).2⟩
    rcases List.mem_cons.mp hp with rfl | hp
    · exact Ne.symm hCD
    · exact offC p hp
end
theorem all_ne {d : Addr} {big small : List (Addr × Obj)} (l : ∀ p ∈ big, p.1 < d) (hs : ∀ p ∈ small, p ∈ big) : ∀ p ∈ small, p.1 ≠ d := fun p hp => Nat.ne_of_lt (l p (hs p hp))
theorem ltA {d a : Addr} {o : Obj} {news : List (Addr × Obj)} (l : ∀ p ∈ news, p.1 < d) (h : (a, o) ∈ news) : a < d := l _ h
theorem neA {d a : Addr} {o : Obj} {news : List (Addr × Obj)} (l : ∀ p ∈ news, p.1 < d) (h : (a, o) ∈ news) : @Ne Nat a d := Nat.ne_of_lt (l _ h)
theorem neA2 {d x a : Addr} {o : Obj} {news : List (Addr × Obj)} (l2 : @LT.lt Nat _ d x) (l : ∀ p ∈ news, p.1 < d) (h : (a, o) ∈ news) : @Ne Nat a x := Nat.ne_of_lt (Nat.lt_trans (l _ h) l2)
theorem off1_mem {D : Addr} : ∀ {l : List (Addr × Obj)}, Off1 D l → ∀ p ∈ l, p.1 ≠ D
  | [], _, _, h => nomatch h
  | _ :: _, x, p, h => by
    rcases List.mem_cons.mp h with rfl | h
    · exact x.1
    · exact off1_mem x.2 p h
theorem neO {D a : Addr} {o : Obj} {news : List (Addr × Obj)} (l : Off1 D news) (h : (a, o) ∈ news) : @Ne Nat a D := off1_mem l _ h
theorem neI {I C D a : Addr} {o : Obj} {news : List (Addr × Obj)} (l : Off3 I C D news) (h : (a, o) ∈ news) : @Ne Nat a I := (l.mem _ h).1
theorem neC {I C D a : Addr} {o : Obj} {news : List (Addr × Obj)} (l : Off3 I C D news) (h : (a, o) ∈ news) : @Ne Nat a C := (l.mem _ h).2.1
theorem neD {I C D a : Addr} {o : Obj} {news : List (Addr × Obj)} (l : Off3 I C D news) (h : (a, o) ∈ news) : @Ne Nat a D := (l.mem _ h).2.2
theorem news_del2 {h₀ h : Heap} {L : Addr} {p q : Addr × Obj} {r : List (Addr × Obj)} (N : News h₀ L h (p :: q :: r)) : News h₀ L h r := fun x hx => N x (.tail _ (.tail _ hx))
theorem news_del1 {h₀ h : Heap} {L : Addr} {p : Addr × Obj} {r : List (Addr × Obj)} (N : News h₀ L h (p :: r)) : News h₀ L h r := fun x hx => N x (.tail _ hx)
end
section
/-- 2^a 3^b 5^c 7^d -/
noncomputable def V4 (a b c d : Nat) : Nat := 2 ^ a * 3 ^ b * 5 ^ c * 7 ^ d
theorem V4_pos (a b c d : Nat) : 0 < V4 a b c d := Nat.mul_pos (Nat.mul_pos (Nat.mul_pos (Nat.pow_pos (by decide)) (Nat.pow_pos (by decide))) (Nat.pow_pos (by decide))) (Nat.pow_pos (by decide))
theorem V4_add (a b c d a' b' c' d' : Nat) : V4 (a + a') (b + b') (c + c') (d + d') = V4 a b c d * V4 a' b' c' d' := by
  simp only [V4, Nat.pow_add]
  ac_rfl
theorem cop_pow {p q : Nat} (h : Nat.Coprime p q) (a b : Nat) : Nat.Coprime (p ^ a) (q ^ b) := Nat.Coprime.pow a b h
theorem cop_V4 {p : Nat} {k a b c d : Nat} (h2 : k = 0 ∨ a = 0 ∨ Nat.Coprime p 2) (h3 : k = 0 ∨ b = 0 ∨ Nat.Coprime p 3) (h5 : k = 0 ∨ c = 0 ∨ Nat.Coprime p 5) (h7 : k = 0 ∨ d = 0 ∨ Nat.Coprime p 7) : Nat.Coprime (p ^ k) (V4 a b c d) := by
  have one : ∀ {q e : Nat}, (k = 0 ∨ e = 0 ∨ Nat.Coprime p q) → Nat.Coprime (p ^ k) (q ^ e) := fun {q e} h => by
    rcases h with h | h | h
    · rw [h, Nat.pow_zero]; exact Nat.coprime_one_left _
    · rw [h, Nat.pow_zero]; exact Nat.coprime_one_right _
    · exact Nat.Coprime.pow _ _ h
  exact Nat.Coprime.mul_right (Nat.Coprime.mul_right (Nat.Coprime.mul_right (one h2) (one h3)) (one h5)) (one h7)
theorem cop_V {a b c d a' b' c' d' : Nat} (ha : a = 0 ∨ a' = 0) (hb : b = 0 ∨ b' = 0) (hc : c = 0 ∨ c' = 0) (hd : d = 0 ∨ d' = 0) : Nat.Coprime (V4 a b c d) (V4 a' b' c' d') := by
  have w : ∀ {x y : Nat} {P : Prop}, (x = 0 ∨ y = 0) → x = 0 ∨ y = 0 ∨ P := fun h => h.elim .inl fun h => .inr (.inl h)
  refine Nat.Coprime.mul_left (Nat.Coprime.mul_left (Nat.Coprime.mul_left ?_ ?_) ?_) ?_
  · exact cop_V4 (w ha) (.inr (.inr (by decide))) (.inr (.inr (by decide))) (.inr (.inr (by decide)))
  · exact cop_V4 (.inr (.inr (by decide))) (w hb) (.inr (.inr (by decide))) (.inr (.inr (by decide)))
  · exact cop_V4 (.inr (.inr (by decide))) (.inr (.inr (by decide))) (w hc) (.inr (.inr (by decide)))
  · exact cop_V4 (.inr (.inr (by decide))) (.inr (.inr (by decide))) (.inr (.inr (by decide))) (w hd)
theorem V4_gcd (a b c d a' b' c' d' : Nat) : Nat.gcd (V4 a b c d) (V4 a' b' c' d') = V4 (min a a') (min b b') (min c c') (min d d') := by
  have e : V4 a b c d = V4 (min a a') (min b b') (min c c') (min d d') * V4 (a - a') (b - b') (c - c') (d - d') := by
    rw [← V4_add]; congr 1 <;> omega
  have e' : V4 a' b' c' d' = V4 (min a a') (min b b') (min c c') (min d d') * V4 (a' - a) (b' - b) (c' - c) (d' - d) := by
    rw [← V4_add]; congr 1 <;> omega
  have g : Nat.gcd (V4 (a - a') (b - b') (c - c') (d - d')) (V4 (a' - a) (b' - b) (c' - c) (d' - d)) = 1 := (cop_V (by omega) (by omega) (by omega) (by omega)).gcd_eq_one
  rw [e, e', Nat.gcd_mul_left, g, Nat.mul_one]
theorem V4_lcm (a b c d a' b' c' d' : Nat) : V4 a b c d * V4 a' b' c' d' / Nat.gcd (V4 a b c d) (V4 a' b' c' d') = V4 (max a a') (max b b') (max c c') (max d d') := by
  rw [V4_gcd]
  have e : V4 a b c d * V4 a' b' c' d' = V4 (min a a') (min b b') (min c c') (min d d') * V4 (max a a') (max b b') (max c c') (max d d') := by
    rw [← V4_add, ← V4_add]; congr 1 <;> omega
  rw [e, Nat.mul_div_cancel_left _ (V4_pos ..)]
/-- what least_multiple computes, on Int -/
noncomputable def lcmI (f n : Int) : Int := (f * n).fdiv (Int.gcd f n : Int)
noncomputable def lcmL : Int → List Int → Int
  | f, [] => f
  | f, n :: r => lcmL (lcmI f n) r
theorem lcmI_V (a b c d a' b' c' d' : Nat) : lcmI (V4 a b c d : Nat) (V4 a' b' c' d' : Nat) = (V4 (max a a') (max b b') (max c c') (max d d') : Nat) := by
  unfold lcmI
  rw [Int.gcd_natCast_natCast, ← Int.natCast_mul, Int.fdiv_eq_ediv_of_nonneg _ (by omega), ← V4_lcm]
  exact (Int.natCast_ediv _ _).symm
end
section
section
open LCg
variable {prog : Program} {w : World} {A : Around} {E : Value → Shared → Prop} {s : Shared} {h₀ : Heap} {L : Addr} {m : Str → Option Value} {env : Env}
noncomputable abbrev cell0 : Obj := { cls := .type "cell", data := .cell none }
noncomputable def CellEnd (h₀ : Heap) (L : Addr) (m : Str → Option Value) (s : Shared) (news : List (Addr × Obj)) (G : Value → Prop) (y : Value) (s' : Shared) : Prop := ∃ h' tk', s' = { s with heap := h', toks := tk' } ∧ Fr h₀ L h' m ∧ News h₀ L h' news ∧ G y
noncomputable def CellTurn (prog : Program) (w : World) (A : Around) (h₀ : Heap) (L : Addr) (m : Str → Option Value) (env : Env) (elt : Expr) (scope : Scope) (cl : List (Str × Addr)) (x : Str) (news : List (Addr × Obj)) (n : Nat) (s : Shared) (J : Nat → List Value → Prop) : Prop :=
  ∀ i ys t I oI C oC cA oA D h tk (E' : Value → Shared → Prop), i < n → J i ys → oA.data = .cell (some (.int (i : Int) t)) → Fr h₀ L h m → News h₀ L h ((cA, oA) :: (I, oI) :: (C, oC) :: (D, lst ys) :: news) → Off3 I C D news → (∀ q ∈ news, q.1 ≠ cA) → ((@Ne Nat I C) ∧ (@Ne Nat I D) ∧ (@Ne Nat C D)) → (@Ne Nat cA I ∧ @Ne Nat cA C ∧ @Ne Nat cA D) →
    wpAny (model prog w) A (eval elt (compEnvC scope ((x, cA) :: cl) C env)) (CellEnd h₀ L m s ((cA, oA) :: (I, oI) :: (C, oC) :: (D, lst ys) :: news) (fun y => J (i + 1) (ys ++ [y]))) E' { s with heap := h, toks := tk }
noncomputable def CellSrc (prog : Program) (w : World) (A : Around) (h₀ : Heap) (L : Addr) (m : Str → Option Value) (env : Env) (elt : Expr) (scope : Scope) (cl : List (Str × Addr)) (x : Str) (Fin : Shared → List Value → List (Addr × Obj) → Prop) (xv : Value) (s₁ : Shared) : Prop :=
  ∃ r b t u v n news J, xv = .ref r ∧ A.handled = none ∧ Fr h₀ L s₁.heap m ∧ News h₀ L s₁.heap news ∧ IsRange s₁.heap r 0 b 1 t u v ∧ Builtin.Range.small 0 b 1 = true ∧ Builtin.Range.rangeSize 0 b 1 = ((n : Nat) : Int) ∧ n ≤ sizeLine ∧ J 0 [] ∧
      CellTurn prog w A h₀ L m env elt scope cl x news n s₁ J ∧ ∀ ys, J n ys → Fin s₁ ys news
theorem cell_loop {elt iter : Expr} {x : Str} {px : Pos} {scope : Scope} {cl : List (Str × Addr)} {pos : Pos} {RR : Result → Shared → Prop} {I C D cA : Addr} {n : Nat} {news : List (Addr × Obj)} {J : Nat → List Value → Prop} {s₁ : Shared} {oC : Obj} {mC : Str → Option Value}
    (hxk : (compEnvC scope ((x, cA) :: cl) C env).kindOf x = some .cell) (hkind : scope.kind = .function) (hh : A.handled = none) (hsz : n ≤ sizeLine) (turn : CellTurn prog w A h₀ L m env elt scope cl x news n s₁ J)
    (d : (@Ne Nat I C) ∧ (@Ne Nat I D) ∧ (@Ne Nat C D)) (dA : @Ne Nat cA I ∧ @Ne Nat cA C ∧ @Ne Nat cA D) (off : Off3 I C D news) (offA : ∀ q ∈ news, q.1 ≠ cA) (hC : NsObj oC mC)
    (fin : ∀ h tk ys oA, J n ys → Fr h₀ L h m → News h₀ L h ((cA, oA) :: (C, oC) :: (D, lst ys) :: news) → RR (.ok .next) { s₁ with heap := h, toks := tk })
    {h : Heap} {tk : Nat} {oI oA : Obj} {v₀ : Option Value} (hJ : J 0 []) (F : Fr h₀ L h m) (N : News h₀ L h ((cA, oA) :: (I, oI) :: (C, oC) :: (D, lst []) :: news)) (hI : IsRangeIter h I (0 + ((0 : Nat) : Int) * 1) ((n : Int) - ((0 : Nat) : Int)) 1) (hA : oA.data = .cell v₀) :
    codeAny (model prog w) A (.compLoop (.ListComp elt [⟨.Name x px, iter, [], 0⟩] scope pos) 0 (.ref I) (.ref D) (compEnvC scope ((x, cA) :: cl) C env)) RR { s₁ with heap := h, toks := tk } := by
  have W := range_walks (prog := prog) (w := w) (A := A) (I := I) hh 0 n
  refine codeAny_compLoop_tests
    (fun k s' => ∃ h' tk' i ys oI' oA' v', s' = { s₁ with heap := h', toks := tk' } ∧ i ≤ n ∧ k = n + 1 - i ∧ ys.length = i ∧ J i ys ∧ Fr h₀ L h' m ∧ News h₀ L h' ((cA, oA') :: (I, oI') :: (C, oC) :: (D, lst ys) :: news) ∧ IsRangeIter h' I (0 + (i : Nat) * 1) ((n : Int) - (i : Nat)) 1 ∧ oA'.data = .cell v') ?_ (n + 1)
    ⟨h, tk, 0, [], oI, oA, v₀, rfl, Nat.zero_le _, rfl, rfl, hJ, F, N, hI, hA⟩
  rintro k s' ⟨h', tk', i, ys, oI', oA', v', rfl, hi, rfl, hyl, hJ', F', N', st, hA'⟩
  have off3 := off.mem
  have nI := (N' (I, oI') (.tail _ (.head _)))
  have nA := (N' (cA, oA') (.head _))
  have nC := (N' (C, oC) (.tail _ (.tail _ (.head _))))
  have nD := (N' (D, lst ys) (.tail _ (.tail _ (.tail _ (.head _)))))
  have keepI : ∀ h₂ : Heap, (∀ b o, b ∉ [I] → h'.get? b = some o → h₂.get? b = some o) → Fr h₀ L h₂ m ∧ News h₀ L h₂ ((cA, oA') :: (C, oC) :: (D, lst ys) :: news) := fun h₂ hk => by
    refine ⟨fr_but F' hk (Ne.symm nI.2.1) nI.2.2, news_but (fun q hq => N' q ?_) hk ?_⟩
    · rcases List.mem_cons.mp hq with rfl | hq
      · exact .head _
      · exact .tail _ (.tail _ hq)
    · intro q hq
      rcases List.mem_cons.mp hq with rfl | hq
      · exact dA.1
      · rcases List.mem_cons.mp hq with rfl | hq
        · exact Ne.symm d.1
        · rcases List.mem_cons.mp hq with rfl | hq
          · exact Ne.symm d.2.1
          · exact (off3 q hq).1
  by_cases hlt : i < n
  · refine W.item i _ _ _ hlt st fun v h₂ tk₂ hPv st₂ hk₂ => ?_
    obtain ⟨t, rfl⟩ := hPv
    obtain ⟨F₂, N₂⟩ := keepI h₂ hk₂
    have nA₂ := N₂ _ (.head _)
    refine wpAny_assign_Name (wpAny_storeName_cell hkind hxk (by simp [compEnvC]) ⟨oA', nA₂.1, hA'⟩ fun h₃ hc₃ hs₃ => ?_)
    obtain ⟨oA₃, gA₃, hA₃⟩ := hc₃
    refine wpAny_tests_nil ?_
    simp only [if_true]
    obtain ⟨oI₃, eI₃, hI₃⟩ : ∃ o, h₂.get? I = some o ∧ ∀ h' : Heap, h'.get? I = some o → IsRangeIter h' I (0 + ((i + 1 : Nat) : Int) * 1) ((n : Int) - ((i + 1 : Nat) : Int)) 1 := ⟨_, st₂, fun _ e => e⟩
    have gI₃ : h₃.get? I = some oI₃ := hs₃.extBut I _ (Ne.symm dA.1) eI₃
    have F₃ : Fr h₀ L h₃ m := F₂.change hs₃ nA₂.2.1 nA₂.2.2
    have N₃ : News h₀ L h₃ ((cA, oA₃) :: (I, oI₃) :: (C, oC) :: (D, lst ys) :: news) := fun q hq => by
      rcases List.mem_cons.mp hq with rfl | hq
      · exact ⟨gA₃, nA₂.2⟩
      · rcases List.mem_cons.mp hq with rfl | hq
        · exact ⟨gI₃, nI.2⟩
        · have z := N₂ q (.tail _ hq)
          refine ⟨hs₃.extBut _ _ ?_ z.1, z.2⟩
          rcases List.mem_cons.mp hq with rfl | hq
          · exact Ne.symm dA.2.1
          · rcases List.mem_cons.mp hq with rfl | hq
            · exact Ne.symm dA.2.2
            · exact offA q hq
    refine wpAny_mono (turn i ys t I oI₃ C oC cA oA₃ D h₃ tk₂ _ hlt hJ' (by rw [hA₃, Int.zero_add]) F₃ N₃ off offA d dA) (fun y s₄ h₄ => ?_) fun _ _ e => e
    obtain ⟨h₄, tk₄, rfl, F₄, N₄, hJ₄⟩ := h₄
    have zI := N₄ _ (.tail _ (.head _))
    have zD := N₄ (D, lst ys) (.tail _ (.tail _ (.tail _ (.head _))))
    refine append_at (hsz := by show ys.toArray.size ≤ sizeLine; rw [List.size_toArray, hyl]; exact Nat.le_trans hi hsz) zD.1 fun h₅ hs₅ hD₅ => ?_
    refine ⟨n + 1 - (i + 1), by omega, h₅, tk₄, i + 1, ys ++ [y], oI₃, oA₃, _, rfl, hlt, rfl, by rw [List.length_append, List.length_singleton, hyl], hJ₄, F₄.change hs₅ zD.2.1 zD.2.2, fun q hq => ?_, hI₃ _ (hs₅.extBut I _ d.2.1 zI.1), hA₃⟩
    have key : ∀ q, q ∈ (cA, oA₃) :: (I, oI₃) :: (C, oC) :: news → q.1 ≠ D := fun q hq => by
      rcases List.mem_cons.mp hq with rfl | hq
      · exact dA.2.2
      · rcases List.mem_cons.mp hq with rfl | hq
        · exact d.2.1
        · rcases List.mem_cons.mp hq with rfl | hq
          · exact d.2.2
          · exact (off3 q hq).2.2
    have old : ∀ q, q ∈ (cA, oA₃) :: (I, oI₃) :: (C, oC) :: news → h₅.get? q.1 = some q.2 ∧ q.1 ≠ L ∧ h₀.get? q.1 = none := fun q hq => by
      have z := N₄ q (by
        rcases List.mem_cons.mp hq with rfl | hq
        · exact .head _
        · rcases List.mem_cons.mp hq with rfl | hq
          · exact .tail _ (.head _)
          · rcases List.mem_cons.mp hq with rfl | hq
            · exact .tail _ (.tail _ (.head _))
            · exact .tail _ (.tail _ (.tail _ (.tail _ hq))))
      exact ⟨hs₅.extBut _ _ (key q hq) z.1, z.2⟩
    rcases List.mem_cons.mp hq with rfl | hq
    · exact old _ (.head _)
    · rcases List.mem_cons.mp hq with rfl | hq
      · exact old _ (.tail _ (.head _))
      · rcases List.mem_cons.mp hq with rfl | hq
        · exact old _ (.tail _ (.tail _ (.head _)))
        · rcases List.mem_cons.mp hq with rfl | hq
          · exact ⟨hD₅.trans (congrArg some (lst_snoc ys y)), zD.2⟩
          · exact old _ (.tail _ (.tail _ (.tail _ hq)))
  · obtain rfl : i = n := Nat.le_antisymm hi (Nat.not_lt.mp hlt)
    refine W.done _ _ _ st fun h₂ tk₂ hk₂ => ?_
    obtain ⟨F₂, N₂⟩ := keepI h₂ hk₂
    exact fin h₂ tk₂ ys oA' hJ' F₂ N₂
theorem cell_core {elt iter : Expr} {x : Str} {px : Pos} {scope : Scope} {cl : List (Str × Addr)} {pos : Pos} {RR : Value → Addr → Result → Shared → Prop} {b : Int} {n : Nat} {news : List (Addr × Obj)} {J : Nat → List Value → Prop} {s₁ : Shared}
    (hkind : scope.kind = .function) (hx : (relabel scope env).names.lookup x = some .cell) (hcf : ∀ a, cellsFrom a scope.names cl = (x, a) :: cl) (hpc : ∀ h, pushCells h scope.names = h.push cell0)
    (hh : A.handled = none) (F : Fr h₀ L s₁.heap m) (N : News h₀ L s₁.heap news) (hn : Builtin.Range.rangeSize 0 b 1 = ((n : Nat) : Int)) (hsz : n ≤ sizeLine) (hJ : J 0 [])
    (turn : CellTurn prog w A h₀ L m env elt scope cl x news n s₁ J)
    (fin : ∀ D C oC h tk ys, J n ys → Fr h₀ L h m → News h₀ L h ((C, oC) :: (D, lst ys) :: news) → NsObj oC (fun _ => none) → @LT.lt Nat _ D C → (∀ q ∈ news, q.1 < D) → RR (.ref D) C (.ok .next) { s₁ with heap := h, toks := tk }) :
    wpAny (model prog w) A (newList []) (fun acc s₃ => wpAny (model prog w) A (newFunctionEnv scope env.globals cl [] env.qual none .none (some env)) (fun cenv s₄ =>
      codeAny (model prog w) A (.compStart (.ListComp elt [⟨.Name x px, iter, [], 0⟩] scope pos) 0 (.ref s₁.heap.objs.size) acc { cenv with scope := relabel scope env }) (RR acc cenv.locals) s₄) E s₃) E { s₁ with heap := s₁.heap.push { cls := .type "range_iterator", data := .fields #[rawInt 0, rawInt (Builtin.Range.rangeSize 0 b 1), rawInt 1] } } := by
  refine wpAny_newObj_type ?_
  simp only [newFunctionEnv, Option.isSome_some, if_true]
  refine wpAny_bind (wpAny_alloc ?_)
  refine wpAny_bind (wpAny_layCells _ (fun name kind cells => by cases hkc : kind == NameKind.cell <;> simp [hkc]) _ _ _ _ ?_)
  rw [hcf, hpc, List.forIn_nil]
  refine wpAny_bind (wpAny_pure (wpAny_pure ?_))
  dsimp only
  obtain ⟨H1, e1⟩ : ∃ H, H = s₁.heap.push { cls := .type "range_iterator", data := .fields #[rawInt 0, rawInt (Builtin.Range.rangeSize 0 b 1), rawInt 1] } := ⟨_, rfl⟩
  obtain ⟨H2, e2⟩ : ∃ H, H = H1.push { cls := .type "list", data := .seq #[] } := ⟨_, rfl⟩
  obtain ⟨H3, e3⟩ : ∃ H, H = H2.push { cls := .type "dict", data := .dict #[] } := ⟨_, rfl⟩
  obtain ⟨H4, e4⟩ : ∃ H, H = H3.push cell0 := ⟨_, rfl⟩
  rw [← e1, ← e2, ← e3, ← e4]
  have z1 : H1.objs.size = s₁.heap.objs.size + 1 := by rw [e1, Heap.size_push]
  have z2 : H2.objs.size = s₁.heap.objs.size + 2 := by rw [e2, Heap.size_push, z1]
  have z3 : H3.objs.size = s₁.heap.objs.size + 3 := by rw [e3, Heap.size_push, z2]
  have old : ∀ b o, s₁.heap.get? b = some o → H4.get? b = some o := fun b o e => by
    rw [e4, e3, e2, e1]
    exact Heap.get?_push_of_some _ (Heap.get?_push_of_some _ (Heap.get?_push_of_some _ (Heap.get?_push_of_some _ e)))
  have gI : H4.get? s₁.heap.objs.size = some { cls := .type "range_iterator", data := .fields #[rawInt 0, rawInt (Builtin.Range.rangeSize 0 b 1), rawInt 1] } := by
    rw [e4, e3, e2, e1]
    exact Heap.get?_push_of_some _ (Heap.get?_push_of_some _ (Heap.get?_push_of_some _ (Heap.get?_push_size _ rfl)))
  have gD : H4.get? H1.objs.size = some (lst []) := by
    rw [e4, e3, e2]
    exact Heap.get?_push_of_some _ (Heap.get?_push_of_some _ (Heap.get?_push_size _ rfl))
  have gC : H4.get? H2.objs.size = some { cls := .type "dict", data := .dict #[] } := by
    rw [e4, e3]
    exact Heap.get?_push_of_some _ (Heap.get?_push_size _ rfl)
  have gA : H4.get? H3.objs.size = some cell0 := by
    rw [e4]
    exact Heap.get?_push_size _ rfl
  have nsC : NsObj { cls := .type "dict", data := .dict #[] } (fun _ => none) := ⟨#[], 0, rfl, by intro i hi; simp at hi, fun _ => rfl⟩
  have hLlt : L < s₁.heap.objs.size := F.ns.lt
  have fresh : ∀ a, s₁.heap.objs.size ≤ a → h₀.get? a = none := fun a ha => by
    cases e : h₀.get? a with
    | none => rfl
    | some o => exact absurd (Heap.lt_size (F.keep a o e)) (Nat.not_lt.mpr ha)
  have below : ∀ q ∈ news, q.1 < s₁.heap.objs.size := fun q hq => Heap.lt_size (N q hq).1
  have F4 : Fr h₀ L H4 m := F.keeps old
  have hIr : IsRangeIter H4 s₁.heap.objs.size (0 + ((0 : Nat) : Int) * 1) ((n : Int) - ((0 : Nat) : Int)) 1 := by
    show H4.get? _ = _
    rw [gI, hn]
    simp
  generalize hIa : s₁.heap.objs.size = I at *
  generalize hDa : H1.objs.size = D at *
  generalize hCa : H2.objs.size = C at *
  generalize hAa : H3.objs.size = cA at *
  have hd1 : I < D := by omega
  have hd2 : D < C := by omega
  have hd3 : C < cA := by omega
  have k1 : @LT.lt Nat _ L I := hLlt
  have k2 : @LT.lt Nat _ L D := Nat.lt_trans k1 hd1
  have k3 : @LT.lt Nat _ L C := Nat.lt_trans k2 hd2
  have k4 : @LT.lt Nat _ L cA := Nat.lt_trans k3 hd3
  have j1 : @LT.lt Nat _ I C := Nat.lt_trans hd1 hd2
  have j2 : @LT.lt Nat _ I cA := Nat.lt_trans j1 hd3
  have N4 : News h₀ L H4 ((cA, cell0) :: (I, { cls := .type "range_iterator", data := .fields #[rawInt 0, rawInt (Builtin.Range.rangeSize 0 b 1), rawInt 1] }) :: (C, { cls := .type "dict", data := .dict #[] }) :: (D, lst []) :: news) := fun q hq => by
    rcases List.mem_cons.mp hq with rfl | hq
    · exact ⟨gA, Nat.ne_of_gt k4, fresh _ (Nat.le_of_lt j2)⟩
    · rcases List.mem_cons.mp hq with rfl | hq
      · exact ⟨gI, Nat.ne_of_gt k1, fresh _ (Nat.le_refl _)⟩
      · rcases List.mem_cons.mp hq with rfl | hq
        · exact ⟨gC, Nat.ne_of_gt k3, fresh _ (Nat.le_of_lt j1)⟩
        · rcases List.mem_cons.mp hq with rfl | hq
          · exact ⟨gD, Nat.ne_of_gt k2, fresh _ (Nat.le_of_lt hd1)⟩
          · exact ⟨old _ _ (N q hq).1, (N q hq).2⟩
  have hl : codeAny (model prog w) A (.compLoop (.ListComp elt [⟨.Name x px, iter, [], 0⟩] scope pos) 0 (.ref I) (.ref D) (compEnvC scope ((x, cA) :: cl) C env)) (RR (.ref D) C) { s₁ with heap := H4, toks := s₁.toks } := by
    refine cell_loop hx hkind hh hsz turn ⟨Nat.ne_of_lt j1, Nat.ne_of_lt hd1, Nat.ne_of_gt hd2⟩ ⟨Nat.ne_of_gt j2, Nat.ne_of_gt hd3, Nat.ne_of_gt (Nat.lt_trans hd2 hd3)⟩ (Off3.of fun q hq => ?_) (fun q hq => ?_) nsC (fun h tk ys oA hJ' F' N' => fin D C _ h tk ys hJ' F' (fun q hq => N' q (.tail _ hq)) nsC hd2 fun q hq => Nat.lt_trans (below q hq) hd1) hJ F4 N4 hIr rfl
    · have := below q hq
      exact ⟨Nat.ne_of_lt this, Nat.ne_of_lt (Nat.lt_trans this j1), Nat.ne_of_lt (Nat.lt_trans this hd1)⟩
    · have := below q hq
      exact Nat.ne_of_lt (Nat.lt_trans this j2)
  exact codeAny_compStart_list hl ((range_walks hh 0 n).self 0 _ _ _ hIr hl)
theorem comp_cell {elt iter : Expr} {x : Str} {px : Pos} {scope : Scope} {cl : List (Str × Addr)} {pos : Pos} {Q : Value → Shared → Prop} (_F : Fr h₀ L s.heap m)
    (hclos : closureFor scope env = pure cl) (hkind : scope.kind = .function) (hnames : ∀ y ∈ scope.names, y.2 = .local → scope.names.lookup y.1 = some .local)
    (hx : (relabel scope env).names.lookup x = some .cell) (hcf : ∀ a, cellsFrom a scope.names cl = (x, a) :: cl) (hpc : ∀ h, pushCells h scope.names = h.push cell0)
    (h : wpAny (model prog w) A (eval iter env) (fun xv s₁ => CellSrc prog w A h₀ L m env elt scope cl x (fun s₁ ys news => ∀ D h tk, Fr h₀ L h m → News h₀ L h ((D, lst ys) :: news) → (∀ q ∈ news, q.1 < D) → Q (.ref D) { s₁ with heap := h, toks := tk }) xv s₁) E s)
    (hs : ∀ x, foldedSetIterable iter env x = pure x := by intro _; rfl) :
    wpAny (model prog w) A (eval (.ListComp elt [⟨.Name x px, iter, [], 0⟩] scope pos) env) Q E s := by
  rw [eval_ListComp]
  refine wpAny_comprehension_free (use := none) rfl hs hclos hkind hnames (wpAny_mono h (fun xv s₁ h₁ => ?_) fun _ _ e => e)
  obtain ⟨r, b, t, u, v, n, news, J, rfl, hh, F, N, hr, hsm, hn, hsz, hJ, turn, fin⟩ := h₁
  refine wpAny_pyIter_range hr hsm ?_
  refine cell_core hkind hx hcf hpc hh F N hn hsz hJ turn fun D C oC h tk ys hJ' F' N' nsC hd2 hd1 => ?_
  refine ⟨_, nsC.ns (N' _ (.head _)).1, fun h'' hs'' => fin ys hJ' D h'' tk (F'.change hs'' (N' _ (.head _)).2.1 (N' _ (.head _)).2.2) (fun q hq => ?_) hd1⟩
  have z := N' q (.tail _ hq)
  refine ⟨hs''.extBut _ _ ?_ z.1, z.2⟩
  rcases List.mem_cons.mp hq with rfl | hq
  · exact Nat.ne_of_lt hd2
  · exact Nat.ne_of_lt (Nat.lt_trans (hd1 q hq) hd2)
theorem assign_comp_cell {elt iter : Expr} {x y : Str} {px py : Pos} {scope : Scope} {cl : List (Str × Addr)} {pos spos : Pos} {Q : Flow → Shared → Prop} (_F : Fr h₀ L s.heap m) (hLe : env.locals = L)
    (hsw : swapsWith (.ListComp elt [⟨.Name x px, iter, [], 0⟩] scope pos) (some (.Name y py)) spos.line env = pure true)
    (hclos : closureFor scope env = pure cl) (hkind : scope.kind = .function) (hnames : ∀ y ∈ scope.names, y.2 = .local → scope.names.lookup y.1 = some .local)
    (hx : (relabel scope env).names.lookup x = some .cell) (hcf : ∀ a, cellsFrom a scope.names cl = (x, a) :: cl) (hpc : ∀ h, pushCells h scope.names = h.push cell0)
    (hy : env.kindOf y = some .local) (hp : (env.scope.kind == .class || (env.scope.kind == .module && env.locals != env.globals)) = false)
    (h : wpAny (model prog w) A (eval iter env) (fun xv s₁ => CellSrc prog w A h₀ L m env elt scope cl x (fun s₁ ys news => ∀ D h tk, Fr h₀ L h (fun z => if z = y then some (.ref D) else m z) → News h₀ L h ((D, lst ys) :: news) → (∀ q ∈ news, q.1 < D) → Q .next { s₁ with heap := h, toks := tk }) xv s₁) E s)
    (hs : ∀ x, foldedSetIterable iter env x = pure x := by intro _; rfl) :
    wpAny (model prog w) A (exec (.Assign [.Name y py] (.ListComp elt [⟨.Name x px, iter, [], 0⟩] scope pos) spos) env) Q E s := by
  subst hLe
  rw [exec_Assign_Name_used _ _ _ _ hsw]
  refine wpAny_bind (wpAny_standAt (wpAny_bind ?_))
  show wpAny _ A (do let _ ← comprehension (.ListComp elt [⟨.Name x px, iter, [], 0⟩] scope pos) scope env _ (newList []) false (eval iter env) (some (assign (.Name y py) env))) _ _ s
  refine wpAny_bind (wpAny_mono (wpAny_comprehension_free (use := some (assign (.Name y py) env)) (Q := fun _ s' => Q .next s') rfl hs hclos hkind hnames (wpAny_mono h (fun xv s₁ h₁ => ?_) fun _ _ e => e)) (fun _ s' hq => wpAny_pure (wpAny_pure hq)) fun _ _ e => e)
  obtain ⟨r, b, t, u, v, n, news, J, rfl, hh, F, N, hr, hsm, hn, hsz, hJ, turn, fin⟩ := h₁
  refine wpAny_pyIter_range hr hsm ?_
  refine cell_core hkind hx hcf hpc hh F N hn hsz hJ turn fun D C oC h tk ys hJ' F' N' nsC hd2 hd1 => ?_
  refine wpAny_assign_Name (wpAny_storeName_local hy F'.ns (fun h₁ hn₁ hs₁ => ?_) hp)
  have F₁ := F'.set hn₁ hs₁
  have N₁ := N'.set hs₁
  refine ⟨_, nsC.ns (N₁ _ (.head _)).1, fun h'' hs'' => fin ys hJ' D h'' _ (F₁.change hs'' (N₁ _ (.head _)).2.1 (N₁ _ (.head _)).2.2) (fun q hq => ?_) hd1⟩
  have z := N₁ q (.tail _ hq)
  refine ⟨hs''.extBut _ _ ?_ z.1, z.2⟩
  rcases List.mem_cons.mp hq with rfl | hq
  · exact Nat.ne_of_lt hd2
  · exact Nat.ne_of_lt (Nat.lt_trans (hd1 q hq) hd2)
end
end
section
theorem wd_1 : True := by
  k_with_none
  k_with "eval Call" => (k_here; k_fold)
  k_with "eval BinOp" => (k_here; k_fold)
  k_with "eval Compare" => (k_here; k_fold)
  k_with "isTrue Compare" => (k_here; k_fold)
  k_with "isTrue Call" => (k_here; k_fold)
  k_with "eval BoolOp" => (k_here; k_fold)
  k_with "isTrue BoolOp" => (k_here; k_fold)
  k_with "isTrue" => (k_here; k_fold)
  k_with "eval Attribute" => (k_here; k_fold)
  k_with "eval Tuple" => (k_here; k_fold)
  k_with "eval List" => (k_here; k_fold)
  k_with "eval Subscript" => (k_here; k_fold)
  k_with "eval IfExp" => (k_here; k_fold)
  k_with "execs cons" => (k_here; with_reducible refine gen_tk ?_; intro tk; (try dsimp only))
  k_with "eval Call" => (k_here; with_reducible refine gen_tk ?_; intro tk; (try dsimp only))
  k_with "setAttr ref" => (k_here; with_reducible refine gen_tk ?_; intro tk; (try dsimp only))
  k_with "newList" => (k_here; with_reducible refine gen_tk ?_; intro tk; (try dsimp only))
  k_with "eval BinOp" => (k_here; with_reducible refine gen_tk ?_; intro tk; (try dsimp only))
  k_with "eval Subscript" => (k_here; with_reducible refine gen_tk ?_; intro tk; (try dsimp only))
  trivial
theorem fill_k : PySem.Challenge.rw_xm0985_01 = PySem.Challenge.rw_xm0985_01 ∧ Mine.K = Mine.K := by
  k_fill
  exact ⟨rfl, rfl⟩
theorem wd_2 : True := by
  k_with "k_all" => (assumption)
  trivial
theorem noPy {a b : Int} (h0 : 0 < b) (h : b ≤ 1073741824) : Builtin.divisionGoesByPylong a b = false := by
  refine PyProof.noPylong_of_log2 ?_
  have h1 : b.natAbs ≠ 0 := by omega
  have : b.natAbs.log2 < 31 := (Nat.log2_lt h1).mpr (by omega)
  omega
theorem wd_3 : True := by
  k_with "binaryOp FloorDiv int int" => ((k_here; (refine' floordiv_int ?kbe ?_ (Or.inl (noPy ?kbp ?kbq)); (case kbe => omega); (case kbp => omega); (case kbq => omega))))
  trivial
theorem my_item {prog : Program} {w : World} {A : Around} {E : Value → Shared → Prop} {s : Shared} {h₀ : Heap} {L : Addr} {news : List (Addr × Obj)} {value slice : PySem.Expr} {l : Addr} {vs : List Value} {n : Nat} {k : Int} {u : Tok} {v : Value} {Q : Value → Shared → Prop}
    (N : News h₀ L s.heap news) (hm : (l, listOf vs.toArray n) ∈ news) (h0 : 0 ≤ k) (hhi : k < 2 ^ 63) (hx : vs[k.toNat]? = some v) (h : Q v s)
    (hs : subscripted slice false (.ref l) (.int k u) = operate [.ref l, .int k u] (getItem (.ref l) (.int k u)) := by with_unfolding_all rfl) :
    wpAny (model prog w) A (subscriptTail value slice (.ref l) (.int k u)) Q E s :=
  have hl := PySem.IsL.isList (n := n) (N _ hm).1
  tail_any hl.typeIs slot_list_getitem.lookup (wpAny_getItem_list hl h0 hhi (by simpa using hx) h) hs
theorem wd_4 : True := by
  k_with "subscriptTail Name Constant ref int" => ((k_here; k_dflt (refine' my_item ?k1 ?k2 ?k3 ?k4 ?k5 ?_ ?k7; (case k1 => k_asm); (case k2 => k_mem); (case k3 => decide); (case k4 => decide); (case k5 => exact rfl); (case k7 => with_unfolding_all rfl); k_whole)))
  trivial
theorem mulOkL {a b : Int} (h1 : -1000000000000000 ≤ a) (h2 : a ≤ 1000000000000000) : PySem.IntMulOk a b := PySem.IntMulOk.of_left (PySem.intBits_le_64 (by omega) (by omega))
theorem fmodB {a b : Int} (h : 0 < b) : 0 ≤ a.fmod b ∧ a.fmod b < b := ⟨Int.fmod_nonneg_of_pos _ h, Int.fmod_lt_of_pos _ h⟩
theorem fdivB {a b : Int} (h0 : 0 ≤ a) (h : 0 < b) : 0 ≤ a.fdiv b := Int.fdiv_nonneg h0 (by omega)
theorem wd_5 : True := by
  k_with "binaryOp Mult int int" => ((k_here; (refine' mul_int ?_ (mulOkL ?kba ?kbb)); rotate_left; (first | omega | (refine (fmodB (by omega)).1.trans' ?_; omega)); (first | omega | (have := (fmodB (a := (y * 39373 + 11)) (b := 2147483647) (by omega)); omega))))
  trivial
noncomputable abbrev reelO (a b : Int) (ta tb : Tok) (n : Nat) : Obj := { cls := .type "list", data := .seq [Value.int a ta, Value.int b tb].toArray n }
set_option maxHeartbeats 4000000 in
theorem wind_spec {w : World} {p : Program} {loose : List Str} {mean : ExcName → Option Value} {mg mb : Str → Option Value}
    (dp un : Nat) (gd : Option (List Code)) (cn : Str) (cs : Scope) (a : Addr) (ccd : Value) (cl : List (Str × Addr)) (outer : List Env) (A₀ : Around) (base h₀ : Heap) (L : Addr) (m : Str → Option Value) (s : Shared) (Q E : Value → Shared → Prop)
    (news : List (Addr × Obj)) (r : Addr) (x y : Int) (tx ty : Tok) (nn : Nat) (top : Int) (tt : Tok)
    (B : Below A₀ base outer h₀) (F : Fr h₀ L s.heap m) (X : (Mine.K w.params).In h₀) (N : News h₀ L s.heap ((r, reelO x y tx ty nn) :: news)) (T : Top p loose mean mg mb h₀) (hk : cs.kind = .function)
    (off : ∀ p ∈ news, p.1 ≠ r) (hx : 0 ≤ x) (hy0 : 0 ≤ y) (hy : y < 2147483647) (ht : 0 < top) (ht2 : top ≤ 1073741824) (hd : dp + 1 < recursionLimit) (hu : un + 8 < cLine)
    (ret : ∀ d x' y' td tx' ty' h' tk', 0 ≤ d → d < top → 0 ≤ x' → 0 ≤ y' → y' < 2147483647 → Fr h₀ L h' m → News h₀ L h' ((r, reelO x' y' tx' ty' nn) :: news) → Q (.int d td) { s with heap := h', toks := tk' }) :
    wpAny (model PySem.Challenge.pw_xm0985_01 w) (ktrTop dp un gd cn cs L a ccd cl outer) (call (.ref 386) [.ref r, .int top tt]) Q E s := by
  refine wpAny_call ?_
  k_dflt cell_enter
  k_steps
  · exact ret _ _ _ _ _ _ _ _ (fmodB ht).1 (fmodB ht).2 (fdivB hx ht) hy0 hy (by k_asm) (by k_asm)
  · exact ret _ _ _ _ _ _ _ _ (fmodB ht).1 (fmodB ht).2 hx (fmodB (by omega)).1 (fmodB (by omega)).2 (by k_asm) (by k_asm)
theorem wind_at {w : World} {p : Program} {loose : List Str} {mean : ExcName → Option Value} {mg mb : Str → Option Value}
    {dp un : Nat} {gd : Option (List Code)} {cn : Str} {cs : Scope} {a : Addr} {ccd : Value} {cl : List (Str × Addr)} {outer : List Env} {A₀ : Around} {base h₀ : Heap} {L : Addr} {m : Str → Option Value} {s : Shared} {Q E : Value → Shared → Prop}
    {news : List (Addr × Obj)} {g : Obj → List (Addr × Obj)} {r : Addr} {x y : Int} {tx ty : Tok} {nn : Nat} {top : Int} {tt : Tok}
    (B : Below A₀ base outer h₀) (F : Fr h₀ L s.heap m) (X : (Mine.K w.params).In h₀) (N : News h₀ L s.heap news) (T : Top p loose mean mg mb h₀) (hk : cs.kind = .function)
    (U : UpdF r (reelO x y tx ty nn) news g) (hx : 0 ≤ x) (hy0 : 0 ≤ y) (hy : y < 2147483647) (ht : 0 < top) (ht2 : top ≤ 1073741824) (hd : dp + 1 < recursionLimit) (hu : un + 8 < cLine)
    (ret : ∀ d x' y' td tx' ty' h' tk', 0 ≤ d → d < top → 0 ≤ x' → 0 ≤ y' → y' < 2147483647 → Fr h₀ L h' m → News h₀ L h' (g (reelO x' y' tx' ty' nn)) → Q (.int d td) { s with heap := h', toks := tk' }) :
    wpAny (model PySem.Challenge.pw_xm0985_01 w) (ktrTop dp un gd cn cs L a ccd cl outer) (call (.ref 386) [.ref r, .int top tt]) Q E s := by
  obtain ⟨pre, post, rfl, hg, a1, b1⟩ := U.split
  refine wind_spec dp un gd cn cs a ccd cl outer A₀ base h₀ L m s Q E (pre ++ post) r x y tx ty nn top tt B F X ?_ T hk ?_ hx hy0 hy ht ht2 hd hu ?_
  · intro q hq
    refine N q ?_
    rcases List.mem_cons.mp hq with rfl | hq
    · exact List.mem_append_right _ (.head _)
    · rcases List.mem_append.mp hq with hq | hq
      · exact List.mem_append_left _ hq
      · exact List.mem_append_right _ (.tail _ hq)
  · intro q hq
    rcases List.mem_append.mp hq with hq | hq
    · exact a1 q hq
    · exact b1 q hq
  · intro d x' y' td tx' ty' h' tk' h1 h2 h3 h4 h5 F' N'
    refine ret d x' y' td tx' ty' h' tk' h1 h2 h3 h4 h5 F' ?_
    rw [hg]
    intro q hq
    refine N' q ?_
    rcases List.mem_append.mp hq with hq | hq
    · exact .tail _ (List.mem_append_left _ hq)
    · rcases List.mem_cons.mp hq with rfl | hq
      · exact .head _
      · exact .tail _ (List.mem_append_right _ hq)
noncomputable def PartSpec (f : Addr) (D : Nat) : Prop :=
  ∀ (w : World) (p : Program) (loose : List Str) (mean : ExcName → Option Value) (mg mb : Str → Option Value)
    (dp un : Nat) (gd : Option (List Code)) (cn : Str) (cs : Scope) (a : Addr) (ccd : Value) (cl : List (Str × Addr)) (outer : List Env) (A₀ : Around) (base h₀ : Heap) (L : Addr) (m : Str → Option Value) (s : Shared) (Q E : Value → Shared → Prop)
    (r : Addr) (x y : Int) (tx ty : Tok) (nn : Nat),
    Below A₀ base outer h₀ → Fr h₀ L s.heap m → (Mine.K w.params).In h₀ → News h₀ L s.heap [(r, reelO x y tx ty nn)] → Top p loose mean mg mb h₀ → cs.kind = .function →
    0 ≤ x → 0 ≤ y → y < 2147483647 → dp + D < recursionLimit → un + (64 + 8 * D) < cLine →
    (∀ x' y' tx' ty' h' tk', 0 ≤ x' → 0 ≤ y' → y' < 2147483647 → Fr h₀ L h' m → News h₀ L h' [(r, reelO x' y' tx' ty' nn)] → Q (.bool true) { s with heap := h', toks := tk' }) →
    wpAny (model PySem.Challenge.pw_xm0985_01 w) (ktrTop dp un gd cn cs L a ccd cl outer) (call (.ref f) [.ref r]) Q E s
theorem part_ret {h₀ : Heap} {L : Addr} {m : Str → Option Value} {r : Addr} {nn : Nat} {s : Shared} {Q : Value → Shared → Prop}
    (ret : ∀ x' y' tx' ty' h' tk', 0 ≤ x' → 0 ≤ y' → y' < 2147483647 → Fr h₀ L h' m → News h₀ L h' [(r, reelO x' y' tx' ty' nn)] → Q (.bool true) { s with heap := h', toks := tk' })
    {b : Bool} {x' y' : Int} {tx' ty' : Tok} {h' : Heap} {tk' : Nat} {all : List (Addr × Obj)} (F : Fr h₀ L h' m) (N : News h₀ L h' all) (hr : (r, reelO x' y' tx' ty' nn) ∈ all)
    (h1 : 0 ≤ x') (h2 : 0 ≤ y') (h3 : y' < 2147483647) (e : b = true) : Q (.bool b) { s with heap := h', toks := tk' } := by
  subst e
  refine ret x' y' tx' ty' h' tk' h1 h2 h3 F fun q hq => N q ?_
  rw [List.mem_singleton.mp hq]
  exact hr
theorem fdiv_spec {a T : Int} (h : 0 < T) : a.fdiv T * T ≤ a ∧ a < a.fdiv T * T + T := by
  have h1 := Int.fmod_add_mul_fdiv a T
  have h2 := Int.fmod_nonneg_of_pos a h
  have h3 := Int.fmod_lt_of_pos a h
  have h4 : a.fdiv T * T = T * a.fdiv T := Int.mul_comm _ _
  omega
theorem times_1 {n t k : Int} (h : 0 ≤ k) : ¬ (n + (t + (1 + k) - 1).fdiv (1 + k) - n) * (1 + k) < t := by
  have h1 := fdiv_spec (a := t + (1 + k) - 1) (T := 1 + k) (by omega)
  have e : n + (t + (1 + k) - 1).fdiv (1 + k) - n = (t + (1 + k) - 1).fdiv (1 + k) := by omega
  rw [e]
  omega
theorem times_2 {n k : Int} (h : 0 ≤ k) : n + (0 + (1 + k) - 1).fdiv (1 + k) = n := by
  have e : (0 + (1 + k) - 1).fdiv (1 + k) = 0 := by
    rw [Int.fdiv_eq_ediv_of_nonneg _ (by omega)]
    exact Int.ediv_eq_zero_of_lt (by omega) (by omega)
  omega
theorem times_3 {n t k : Int} (h : 0 ≤ k) : (n + (t + (1 + k) - 1).fdiv (1 + k) - 1 - n) * (1 + k) < t := by
  have h1 := fdiv_spec (a := t + (1 + k) - 1) (T := 1 + k) (by omega)
  have e : n + (t + (1 + k) - 1).fdiv (1 + k) - 1 - n = (t + (1 + k) - 1).fdiv (1 + k) - 1 := by omega
  rw [e, Int.sub_mul]
  omega
theorem wd_6 : True := by
  k_with "call ref" => ((k_here; (with_reducible show wpAny _ _ (call (Value.ref 386) [Value.ref _, Value.int _ _]) _ _ _); k_dflt (refine' wind_at ?kB ?kF ?kX ?kN ?kT ?kK ?kU ?kx ?ky ?kz ?kt ?ku ?kd ?ke ?_; (case kB => k_asm); (case kF => k_asm); (case kX => k_asm); (case kN => k_asm); (case kT => k_asm); (case kK => first | exact rfl | assumption); (case kU => k_updF); (case kx => assumption); (case ky => assumption); (case kz => assumption); (case kt => omega); (case ku => omega); (case kd => ktr_room); (case ke => ktr_units)); intro d' x' y' td' tx' ty' h' tk' hd0 hd1 hx' hy' hz' F' N'; (try dsimp only at N'); (try dsimp only); (try k_sweep); walk_say "WIND"))
  k_with "k_room" => (ktr_room)
  k_with "k_units" => (ktr_units)
  trivial
theorem item_at {prog : Program} {w : World} {A : Around} {E : Value → Shared → Prop} {s : Shared} {h₀ : Heap} {L : Addr} {news : List (Addr × Obj)} {value slice : PySem.Expr} {l : Addr} {vs : List Value} {n : Nat} {k : Int} {u : Tok} {Q : Value → Shared → Prop}
    (N : News h₀ L s.heap news) (hm : (l, listOf vs.toArray n) ∈ news) (h0 : 0 ≤ k) (hl : k < (vs.length : Int)) (hhi : k < 2 ^ 63) (h : ∀ v, v ∈ vs → Q v s)
    (hs : subscripted slice false (.ref l) (.int k u) = operate [.ref l, .int k u] (getItem (.ref l) (.int k u)) := by with_unfolding_all rfl) :
    wpAny (model prog w) A (subscriptTail value slice (.ref l) (.int k u)) Q E s :=
  have hl' := PySem.IsL.isList (n := n) (N _ hm).1
  have hk : k.toNat < vs.length := by omega
  tail_any hl'.typeIs slot_list_getitem.lookup (wpAny_getItem_list hl' h0 hhi (x := vs[k.toNat]) (by simp [hk]) (h _ (List.getElem_mem hk))) hs
theorem my_len {prog : Program} {w : World} {A : Around} {E : Value → Shared → Prop} {s : Shared} {h₀ : Heap} {L : Addr} {news : List (Addr × Obj)} {l : Addr} {vs : List Value} {n : Nat} {Q : Value → Shared → Prop}
    (N : News h₀ L s.heap news) (hm : (l, listOf vs.toArray n) ∈ news) (hl : vs.length ≤ 1000000) (h : ∀ t, Q (.int (vs.length : Int) t) { s with toks := s.toks + 1 + 1 }) :
    wpAny (model prog w) A (call (.builtin "len") [.ref l]) Q E s := by
  refine len_list (PySem.IsL.isList (n := n) (N _ hm).1) (by simp; omega) ?_
  simpa using h (s.toks + 1)
theorem wd_7 : True := by
  k_with "call builtin:len" => ((k_here; (with_reducible show wpAny _ _ (call (Value.builtin "len") [Value.ref _]) _ _ _); k_dflt (refine' my_len ?k1 ?k2 ?k3 ?_; (case k1 => k_asm); (case k2 => k_mem); (case k3 => omega)); intro t'))
  k_with "subscriptTail Name Call ref int" => ((k_here; k_dflt (refine' item_at ?k1 ?k2 ?k3 ?k4 ?k5 ?_ ?k7; (case k1 => k_asm); (case k2 => k_mem); (case k3 => assumption); (case k4 => assumption); (case k5 => omega); (case k7 => with_unfolding_all rfl); k_whole); intro v' hv'))
  trivial
set_option maxHeartbeats 4000000 in
theorem one_spec {w : World} {p : Program} {loose : List Str} {mean : ExcName → Option Value} {mg mb : Str → Option Value}
    (dp un : Nat) (gd : Option (List Code)) (cn : Str) (cs : Scope) (a : Addr) (ccd : Value) (cl : List (Str × Addr)) (outer : List Env) (A₀ : Around) (base h₀ : Heap) (L : Addr) (m : Str → Option Value) (s : Shared) (Q E : Value → Shared → Prop)
    (news : List (Addr × Obj)) (r l : Addr) (vs : List Value) (kk : Nat) (x y : Int) (tx ty : Tok) (nn : Nat)
    (B : Below A₀ base outer h₀) (F : Fr h₀ L s.heap m) (X : (Mine.K w.params).In h₀) (N : News h₀ L s.heap ((l, listOf vs.toArray kk) :: (r, reelO x y tx ty nn) :: news)) (T : Top p loose mean mg mb h₀) (hk : cs.kind = .function)
    (off : ∀ p ∈ news, p.1 ≠ r) (hlr : l ≠ r) (hx : 0 ≤ x) (hy0 : 0 ≤ y) (hy : y < 2147483647) (hv0 : 0 < vs.length) (hv1 : vs.length ≤ 1000) (hd : dp + 2 < recursionLimit) (hu : un + 16 < cLine)
    (ret : ∀ v x' y' tx' ty' h' tk', v ∈ vs → 0 ≤ x' → 0 ≤ y' → y' < 2147483647 → Fr h₀ L h' m → News h₀ L h' ((l, listOf vs.toArray kk) :: (r, reelO x' y' tx' ty' nn) :: news) → Q v { s with heap := h', toks := tk' }) :
    wpAny (model PySem.Challenge.pw_xm0985_01 w) (ktrTop dp un gd cn cs L a ccd cl outer) (call (.ref 393) [.ref r, .ref l]) Q E s := by
  have hv2 : (0 : Int) < (vs.length : Int) := by omega
  refine wpAny_call ?_
  k_dflt cell_enter
  k_steps
  (with_reducible rename News _ _ _ _ => kN9)
  refine ret _ _ _ _ _ _ _ (by assumption) ?_ ?_ ?_ (by k_asm) kN9 <;> assumption
theorem one_at {w : World} {p : Program} {loose : List Str} {mean : ExcName → Option Value} {mg mb : Str → Option Value}
    {dp un : Nat} {gd : Option (List Code)} {cn : Str} {cs : Scope} {a : Addr} {ccd : Value} {cl : List (Str × Addr)} {outer : List Env} {A₀ : Around} {base h₀ : Heap} {L : Addr} {m : Str → Option Value} {s : Shared} {Q E : Value → Shared → Prop}
    {news : List (Addr × Obj)} {g : Obj → List (Addr × Obj)} {r l : Addr} {vs : List Value} {kk : Nat} {x y : Int} {tx ty : Tok} {nn : Nat}
    (B : Below A₀ base outer h₀) (F : Fr h₀ L s.heap m) (X : (Mine.K w.params).In h₀) (N : News h₀ L s.heap ((l, listOf vs.toArray kk) :: news)) (T : Top p loose mean mg mb h₀) (hk : cs.kind = .function)
    (U : UpdF r (reelO x y tx ty nn) news g) (hlr : l ≠ r) (hx : 0 ≤ x) (hy0 : 0 ≤ y) (hy : y < 2147483647) (hv0 : 0 < vs.length) (hv1 : vs.length ≤ 1000) (hd : dp + 2 < recursionLimit) (hu : un + 16 < cLine)
    (ret : ∀ v x' y' tx' ty' h' tk', v ∈ vs → 0 ≤ x' → 0 ≤ y' → y' < 2147483647 → Fr h₀ L h' m → News h₀ L h' ((l, listOf vs.toArray kk) :: g (reelO x' y' tx' ty' nn)) → Q v { s with heap := h', toks := tk' }) :
    wpAny (model PySem.Challenge.pw_xm0985_01 w) (ktrTop dp un gd cn cs L a ccd cl outer) (call (.ref 393) [.ref r, .ref l]) Q E s := by
  obtain ⟨pre, post, rfl, hg, a1, b1⟩ := U.split
  refine one_spec dp un gd cn cs a ccd cl outer A₀ base h₀ L m s Q E (pre ++ post) r l vs kk x y tx ty nn B F X ?_ T hk ?_ hlr hx hy0 hy hv0 hv1 hd hu ?_
  · intro q hq
    refine N q ?_
    rcases List.mem_cons.mp hq with rfl | hq
    · exact .head _
    · refine .tail _ ?_
      rcases List.mem_cons.mp hq with rfl | hq
      · exact List.mem_append_right _ (.head _)
      · rcases List.mem_append.mp hq with hq | hq
        · exact List.mem_append_left _ hq
        · exact List.mem_append_right _ (.tail _ hq)
  · intro q hq
    rcases List.mem_append.mp hq with hq | hq
    · exact a1 q hq
    · exact b1 q hq
  · intro v x' y' tx' ty' h' tk' h2 h3 h4 h5 F' N'
    refine ret v x' y' tx' ty' h' tk' h2 h3 h4 h5 F' ?_
    rw [hg]
    intro q hq
    refine N' q ?_
    rcases List.mem_cons.mp hq with rfl | hq
    · exact .head _
    · refine .tail _ ?_
      rcases List.mem_append.mp hq with hq | hq
      · exact .tail _ (List.mem_append_left _ hq)
      · rcases List.mem_cons.mp hq with rfl | hq
        · exact .head _
        · exact .tail _ (List.mem_append_right _ hq)
theorem pow_lit {prog : Program} {w : World} {A : Around} {E : Value → Shared → Prop} {s : Shared} {a n r : Int} {t u : Tok} {Q : Value → Shared → Prop} (hn : 0 ≤ n) (hb : (Builtin.Int.intBits a : Int) * n ≤ 2 ^ 27) (e : a ^ n.toNat = r) (h : Q (.int r s.toks) { s with toks := s.toks + 1 }) :
    wpAny (model prog w) A (binaryOp .Pow (.int a t) (.int n u)) Q E s := by
  subst e
  exact PyProof.Rows.pow_int hn hb h
noncomputable def mixF (a b s : Int) : Int := (a * 48271 + b.fmod 2147483647 * (2 * s.fmod 1000000 + 1) + s.fmod 1000000).fmod 2147483647
theorem mulOkL2 {a b : Int} (h : 0 ≤ a) (h2 : a ≤ 1000000000000000) : PySem.IntMulOk a b := mulOkL (by omega) h2
theorem wd_8 : True := by
  k_with "binaryOp Mult int int" => ((k_here; (refine' mul_int ?_ (mulOkL2 (fmodB (by decide)).1 ((fmodB (by decide)).2.le.trans (by decide))))))
  trivial
set_option maxHeartbeats 4000000 in
theorem mixw_spec {w : World} {p : Program} {loose : List Str} {mean : ExcName → Option Value} {mg mb : Str → Option Value}
    {dp un : Nat} {gd : Option (List Code)} {cn : Str} {cs : Scope} {a : Addr} {ccd : Value} {cl : List (Str × Addr)} {outer : List Env} {A₀ : Around} {base h₀ : Heap} {L : Addr} {m : Str → Option Value} {s : Shared} {Q E : Value → Shared → Prop}
    {news : List (Addr × Obj)} {x y z : Int} {tx ty tz : Tok}
    (B : Below A₀ base outer h₀) (F : Fr h₀ L s.heap m) (X : (Mine.K w.params).In h₀) (N : News h₀ L s.heap news) (T : Top p loose mean mg mb h₀) (hk : cs.kind = .function)
    (hd : dp + 1 < recursionLimit)
    (ret : ∀ t h' tk', Fr h₀ L h' m → News h₀ L h' news → Q (.int (mixF x y z) t) { s with heap := h', toks := tk' }) :
    wpAny (model PySem.Challenge.pw_xm0985_01 w) (ktrTop dp un gd cn cs L a ccd cl outer) (call (.ref 113) [.int x tx, .int y ty, .int z tz]) Q E s := by
  refine wpAny_call ?_
  k_dflt cell_enter
  k_steps
  exact ret _ _ _ (by k_asm) (by k_asm)
section
open LCg
variable {h₀ : Heap} {L I C D : Addr} {m : Str → Option Value} {s₁ : Shared} {oI oC oD : Obj} {S : List (Addr × Obj) → Prop} {rest : Value → List (Addr × Obj) → Prop} {y : Value} {h' : Heap} {tk : Nat} {nws : List (Addr × Obj)}
theorem compEnd0 (F : Fr h₀ L h' m) (N : News h₀ L h' ((I, oI) :: (C, oC) :: (D, oD) :: nws)) (off : Off3 I C D nws) (hS : S nws) (r : rest y nws) : CompEnd h₀ L m s₁ I oI C oC D oD S rest y { s₁ with heap := h', toks := tk } :=
  CompEnd.intro F N nws (fun _ hp => hp) off hS r
theorem compEnd2 {x d : Addr} {ox od : Obj} (F : Fr h₀ L h' m) (N : News h₀ L h' ((x, ox) :: (d, od) :: (I, oI) :: (C, oC) :: (D, oD) :: nws)) (hx : x ≠ I ∧ x ≠ C ∧ x ≠ D) (hd : d ≠ I ∧ d ≠ C ∧ d ≠ D) (off : Off3 I C D nws) (hS : S ((x, ox) :: (d, od) :: nws)) (r : rest y ((x, ox) :: (d, od) :: nws)) :
    CompEnd h₀ L m s₁ I oI C oC D oD S rest y { s₁ with heap := h', toks := tk } := by
  refine CompEnd.intro F N ((x, ox) :: (d, od) :: nws) (fun q hq => ?_) ⟨hx, hd, off⟩ hS r
  simp only [List.mem_cons] at hq ⊢
  rcases hq with h | h | h | h | h | h <;> simp [h]
theorem compEnd1 {x : Addr} {ox : Obj} (F : Fr h₀ L h' m) (N : News h₀ L h' ((x, ox) :: (I, oI) :: (C, oC) :: (D, oD) :: nws)) (hx : x ≠ I ∧ x ≠ C ∧ x ≠ D) (off : Off3 I C D nws) (hS : S ((x, ox) :: nws)) (r : rest y ((x, ox) :: nws)) :
    CompEnd h₀ L m s₁ I oI C oC D oD S rest y { s₁ with heap := h', toks := tk } := by
  refine CompEnd.intro F N ((x, ox) :: nws) (fun q hq => ?_) ⟨hx, off⟩ hS r
  simp only [List.mem_cons] at hq ⊢
  rcases hq with h | h | h | h | h <;> simp [h]
end
theorem lt1 {a b : Nat} (h : a < b) : a < b + 1 := by omega
theorem lt2 (a : Nat) : a < a + 1 := by omega
end
section
theorem fmod_e (a : Int) : a.fmod 2147483647 = a % 2147483647 := Int.fmod_eq_emod_of_nonneg _ (by decide)
theorem mix_1 (s : Int) : mixF 0 0 s = s.fmod 1000000 := by
  have h := fmodB (a := s) (b := 1000000) (by decide)
  unfold mixF
  rw [fmod_e, fmod_e]
  generalize s.fmod 1000000 = k at *
  simp
  omega
theorem mix_2 (s : Int) : mixF 1 0 s = (s.fmod 1000000 + 48271).fmod 2147483647 := by
  unfold mixF
  rw [fmod_e, fmod_e, fmod_e]
  generalize s.fmod 1000000 = k at *
  simp
  omega
theorem mix_3 (s : Int) : (mixF 0 1 s - mixF 0 0 s - 2 * s.fmod 1000000 - 1).fmod 2147483647 = 0 := by
  rw [mix_1]
  unfold mixF
  rw [fmod_e, fmod_e, fmod_e]
  generalize s.fmod 1000000 = k at *
  simp
  omega
theorem mix_4 (a b s : Int) : mixF a b s < 2147483647 := (fmodB (by decide)).2
theorem mix_5 (a s : Int) : (mixF a 0 s - mixF 0 0 s - 48271 * a).fmod 2147483647 = 0 := by
  rw [mix_1]
  unfold mixF
  rw [fmod_e, fmod_e, fmod_e]
  generalize s.fmod 1000000 = k at *
  simp
  omega
theorem mix_6 (b s : Int) : (mixF 0 b s - mixF 0 0 s - b * (2 * s.fmod 1000000 + 1)).fmod 2147483647 = 0 := by
  rw [mix_1]
  unfold mixF
  rw [fmod_e, fmod_e, fmod_e]
  generalize s.fmod 1000000 = k at *
  have h1 : b * (2 * k + 1) = (b % 2147483647) * (2 * k + 1) + 2147483647 * (b / 2147483647 * (2 * k + 1)) := by
    have h := Int.emod_add_mul_ediv b 2147483647
    have e : b * (2 * k + 1) = (b % 2147483647 + 2147483647 * (b / 2147483647)) * (2 * k + 1) := by rw [h]
    rw [e, Int.add_mul, Int.mul_assoc]
  rw [h1]
  generalize (b % 2147483647) * (2 * k + 1) = u
  generalize b / 2147483647 * (2 * k + 1) = v
  simp
  omega
theorem mix_7 (a b s : Int) : mixF a b s = (mixF a 0 s + mixF 0 b s - mixF 0 0 s).fmod 2147483647 := by
  rw [mix_1]
  unfold mixF
  simp only [fmod_e]
  generalize s.fmod 1000000 = k at *
  generalize (b % 2147483647) * (2 * k + 1) = u
  simp
  omega
theorem mix_8 (a b s : Int) : mixF a (b + 2147483647) s = mixF a b s := by
  unfold mixF
  simp only [fmod_e]
  have : (b + 2147483647) % 2147483647 = b % 2147483647 := by omega
  rw [this]
theorem mix_9 (a b s : Int) : (mixF a 0 s + mixF 0 b s - mixF 0 0 s).fmod 2147483647 = mixF a (b + 2147483647) s := by rw [mix_8, ← mix_7]
theorem fmod_fmod (z : Int) : (z.fmod 1000000000).fmod 1000000 = z.fmod 1000000 := by
  simp only [Int.fmod_eq_emod_of_nonneg _ (show (0 : Int) ≤ 1000000000 by decide), Int.fmod_eq_emod_of_nonneg _ (show (0 : Int) ≤ 1000000 by decide)]
  omega
section
variable {prog : Program} {w : World} {A : Around} {E : Value → Shared → Prop} {s : Shared} {a b : Int} {t u : Tok} {Q : Value → Shared → Prop}
theorem ne_no (e : a = b) (h : Q (.bool false) s) : wpAny (model prog w) A (compareOp .NotEq (.int a t) (.int b u)) Q E s := PyProof.Rows.ne_int (by rw [show (a != b) = false by simp [e]]; exact h)
theorem ge_no (e : a < b) (h : Q (.bool false) s) : wpAny (model prog w) A (compareOp .GtE (.int a t) (.int b u)) Q E s := PyProof.Rows.ge_int (by rw [show decide (b ≤ a) = false by simp; omega]; exact h)
theorem eq_yes (e : a = b) (h : Q (.bool true) s) : wpAny (model prog w) A (compareOp .Eq (.int a t) (.int b u)) Q E s := PyProof.Rows.eq_int (by rw [show (a == b) = true by simp [e]]; exact h)
end
theorem text_six {prog : Program} {w : World} {A : Around} {E : Value → Shared → Prop} {s : Shared} {z : Int} {t : Tok} {Q : Value → Shared → Prop} (h : Q (.int (z.fmod 1000000) s.toks) { s with toks := s.toks + 1 }) :
    wpAny (model prog w) A (call (.type "int") [.str (Txt.slice (Str.ofString "00000" ++ Str.ofString (toString (z.fmod 1000000000))) (some (-6)) none) t]) Q E s := by
  have k := last_six (n := z.fmod 1000000000) (fmodB (by decide)).1 (fmodB (by decide)).2
  rw [fmod_fmod] at k
  exact PySem.W.KIN.call_text k.2.2 k.2.1 h
theorem text_len (z : Int) : (Str.ofString "00000" ++ Str.ofString (toString (z.fmod 1000000000))).length ≤ sizeLine := by
  have k := last_six (n := z.fmod 1000000000) (fmodB (by decide)).1 (fmodB (by decide)).2
  rw [sizeLine_eq]
  omega
end
section
theorem wd_9 : True := by
  k_with_none
  k_with "eval Call" => (k_here; k_fold)
  k_with "eval BinOp" => (k_here; k_fold)
  k_with "eval Compare" => (k_here; k_fold)
  k_with "isTrue Compare" => (k_here; k_fold)
  k_with "isTrue Call" => (k_here; k_fold)
  k_with "eval BoolOp" => (k_here; k_fold)
  k_with "isTrue BoolOp" => (k_here; k_fold)
  k_with "isTrue" => (k_here; k_fold)
  k_with "eval Attribute" => (k_here; k_fold)
  k_with "eval Tuple" => (k_here; k_fold)
  k_with "eval List" => (k_here; k_fold)
  k_with "eval Subscript" => (k_here; k_fold)
  k_with "eval IfExp" => (k_here; k_fold)
  k_with "execs cons" => (k_here; with_reducible refine gen_tk ?_; intro tk; (try dsimp only))
  k_with "eval Call" => (k_here; with_reducible refine gen_tk ?_; intro tk; (try dsimp only))
  k_with "setAttr ref" => (k_here; with_reducible refine gen_tk ?_; intro tk; (try dsimp only))
  k_with "newList" => (k_here; with_reducible refine gen_tk ?_; intro tk; (try dsimp only))
  k_with "eval BinOp" => (k_here; with_reducible refine gen_tk ?_; intro tk; (try dsimp only))
  k_with "eval Subscript" => (k_here; with_reducible refine gen_tk ?_; intro tk; (try dsimp only))
  k_with "k_all" => (assumption)
  k_with "subscriptTail Name Constant ref int" => ((k_here; k_dflt (refine' my_item ?k1 ?k2 ?k3 ?k4 ?k5 ?_ ?k7; (case k1 => k_asm); (case k2 => k_mem); (case k3 => decide); (case k4 => decide); (case k5 => exact rfl); (case k7 => with_unfolding_all rfl); k_whole)))
  k_with "call ref" => ((k_here; (with_reducible show wpAny _ _ (call (Value.ref 386) [Value.ref _, Value.int _ _]) _ _ _); k_dflt (refine' wind_at ?kB ?kF ?kX ?kN ?kT ?kK ?kU ?kx ?ky ?kz ?kt ?ku ?kd ?ke ?_; (case kB => k_asm); (case kF => k_asm); (case kX => k_asm); (case kN => k_asm); (case kT => k_asm); (case kK => first | exact rfl | assumption); (case kU => k_updF); (case kx => assumption); (case ky => assumption); (case kz => assumption); (case kt => omega); (case ku => omega); (case kd => ktr_room); (case ke => ktr_units)); intro d' x' y' td' tx' ty' h' tk' hd0 hd1 hx' hy' hz' F' N'; (try dsimp only at N'); (try dsimp only); (try k_sweep); walk_say "WIND"))
  k_with "k_room" => (ktr_room)
  k_with "k_units" => (ktr_units)
  k_with "ktr_rel" => ((intro q9 hq9; repeat (first | exact hq9 | refine List.Mem.tail _ ?_)))
  trivial
set_option maxHeartbeats 4000000 in
theorem times_spec : PartSpec 426 3 := by
  intro w p loose mean mg mb dp un gd cn cs a ccd cl outer A₀ base h₀ L m s Q E r x y tx ty nn B F X N T hk hx hy0 hy hd hu ret
  refine wpAny_call ?_
  k_dflt cell_enter
  k_steps
  · exfalso; (with_reducible rename (_ * _ < _) => hA); exact absurd hA (times_1 (by omega))
  · exfalso; (with_reducible rename (_ ≠ _) => hA); exact hA (times_2 (by omega))
  · refine part_ret ret (by k_asm) (by k_asm) (by k_mem) (by assumption) (by assumption) (by assumption) ?_
    simpa using (by assumption : (_ : Int) = 0)
  · refine part_ret ret (by k_asm) (by k_asm) (by k_mem) (by assumption) (by assumption) (by assumption) ?_
    exact decide_eq_true (times_3 (by omega))
end
section
theorem wd_10 : True := by
  k_with_none
  k_with "eval Call" => (k_here; k_fold)
  k_with "eval BinOp" => (k_here; k_fold)
  k_with "eval Compare" => (k_here; k_fold)
  k_with "isTrue Compare" => (k_here; k_fold)
  k_with "isTrue Call" => (k_here; k_fold)
  k_with "eval BoolOp" => (k_here; k_fold)
  k_with "isTrue BoolOp" => (k_here; k_fold)
  k_with "isTrue" => (k_here; k_fold)
  k_with "eval Attribute" => (k_here; k_fold)
  k_with "eval Tuple" => (k_here; k_fold)
  k_with "eval List" => (k_here; k_fold)
  k_with "eval Subscript" => (k_here; k_fold)
  k_with "eval IfExp" => (k_here; k_fold)
  k_with "execs cons" => (k_here; with_reducible refine gen_tk ?_; intro tk; (try dsimp only))
  k_with "eval Call" => (k_here; with_reducible refine gen_tk ?_; intro tk; (try dsimp only))
  k_with "setAttr ref" => (k_here; with_reducible refine gen_tk ?_; intro tk; (try dsimp only))
  k_with "newList" => (k_here; with_reducible refine gen_tk ?_; intro tk; (try dsimp only))
  k_with "eval BinOp" => (k_here; with_reducible refine gen_tk ?_; intro tk; (try dsimp only))
  k_with "eval Subscript" => (k_here; with_reducible refine gen_tk ?_; intro tk; (try dsimp only))
  k_with "k_all" => (assumption)
  k_with "subscriptTail Name Constant ref int" => ((k_here; k_dflt (refine' my_item ?k1 ?k2 ?k3 ?k4 ?k5 ?_ ?k7; (case k1 => k_asm); (case k2 => k_mem); (case k3 => decide); (case k4 => decide); (case k5 => exact rfl); (case k7 => with_unfolding_all rfl); k_whole)))
  k_with "call ref" => ((k_here; (with_reducible show wpAny _ _ (call (Value.ref 386) [Value.ref _, Value.int _ _]) _ _ _); k_dflt (refine' wind_at ?kB ?kF ?kX ?kN ?kT ?kK ?kU ?kx ?ky ?kz ?kt ?ku ?kd ?ke ?_; (case kB => k_asm); (case kF => k_asm); (case kX => k_asm); (case kN => k_asm); (case kT => k_asm); (case kK => first | exact rfl | assumption); (case kU => k_updF); (case kx => assumption); (case ky => assumption); (case kz => assumption); (case kt => omega); (case ku => omega); (case kd => ktr_room); (case ke => ktr_units)); intro d' x' y' td' tx' ty' h' tk' hd0 hd1 hx' hy' hz' F' N'; (try dsimp only at N'); (try dsimp only); (try k_sweep); walk_say "WIND"))
  k_with "k_room" => (ktr_room)
  k_with "k_units" => (ktr_units)
  k_with "ktr_rel" => ((intro q9 hq9; repeat (first | exact hq9 | refine List.Mem.tail _ ?_)))
  k_with "call ref" => ((k_here; (with_reducible show wpAny _ _ (call (Value.ref 393) [Value.ref _, Value.ref _]) _ _ _); k_dflt (refine' one_at ?kB ?kF ?kX ?kN ?kT ?kK ?kU ?kl ?kx ?ky ?kz ?kt ?ku ?kd ?ke ?_; (case kB => k_asm); (case kF => k_asm); (case kX => k_asm); (case kN => k_asm); (case kT => k_asm); (case kK => first | exact rfl | assumption); (case kU => k_updF); (case kl => k_ne); (case kx => assumption); (case ky => assumption); (case kz => assumption); (case kt => exact Nat.le_of_ble_eq_true rfl); (case ku => exact Nat.le_of_ble_eq_true rfl); (case kd => ktr_room); (case ke => ktr_units)); intro v' x' y' tx' ty' h' tk' hv' hx' hy' hz' F' N'; (try dsimp only at N'); (try dsimp only); (try k_sweep); walk_say "ONE"; (try k_extra "one")))
  k_with "binaryOp Pow int int" => ((k_here; (refine' pow_lit ?kb1 ?kb2 ?kb3 ?_); (case kb1 => decide); (case kb2 => decide); (case kb3 => ((simp only [Int.reduceToNat, Int.reducePow]); exact rfl))))
  k_with "call ref" => ((k_here; (with_reducible show wpAny _ _ (call (Value.ref 113) [Value.int _ _, Value.int _ _, Value.int _ _]) _ _ _); k_dflt (refine' mixw_spec ?kB ?kF ?kX ?kN ?kT ?kK ?kd ?_; (case kB => k_asm); (case kF => k_asm); (case kX => k_asm); (case kN => k_asm); (case kT => k_asm); (case kK => first | exact rfl | assumption); (case kd => ktr_room)); intro t' h' tk' F' N'; (try dsimp only); (try k_sweep); walk_say "MIXW"))
  trivial
theorem int_of_mem {v : Value} {vs : List Value} {B : Int} (h : v ∈ vs) (hv : ∀ u ∈ vs, ∃ z t, u = Value.int z t ∧ -B ≤ z ∧ z ≤ B) : ∃ z t, v = Value.int z t ∧ -B ≤ z ∧ z ≤ B := hv v h
section
theorem wd_11 : True := by
  k_with "compareOp NotEq int int" => ((k_here; refine' ne_no ?e ?_; (case e => first | exact mix_1 _ | exact mix_2 _ | exact mix_3 _ | exact mix_5 _ _ | exact mix_6 _ _)))
  k_with "compareOp GtE int int" => ((k_here; refine' ge_no ?e ?_; (case e => exact mix_4 _ _ _)))
  k_with "compareOp Eq int int" => ((k_here; refine' eq_yes ?e ?_; (case e => first | exact mix_7 _ _ _ | exact mix_9 _ _ _)))
  k_with "execs nil" => (((with_reducible refine wpAny_execs_nil ?_); (try dsimp only)))
  k_with "call type:int" => ((k_here; refine' text_six ?_))
  k_with "subscriptTail" => ((k_here; (with_reducible show wpAny _ _ (subscriptTail _ _ (Value.str _ _) (Value.ref _)) _ _ _); k_dflt (refine' slice_strN_sn ?kF ?kN ?kh ?ks ?kt ?kz; (case kF => k_asm); (case kN => k_asm); (case ks => with_unfolding_all rfl); (case kt => (intro _; with_unfolding_all rfl)); (case kz => exact text_len _)); intro h' t' k' F' N'))
  k_with "binaryOp Mult int int" => ((k_here; (refine' mul_int ?_ ?kbm); (case kbm => first | exact mulOkL (by omega) (by omega) | exact PySem.IntMulOk.of_right (PySem.intBits_le_64 (by omega) (by omega)))))
  trivial
set_option maxHeartbeats 1500000 in
theorem mixed_spec : PartSpec 405 4 := by
  intro w p loose mean mg mb dp un gd cn cs a ccd cl outer A₀ base h₀ L m s Q E r x y tx ty nn B F X N T hk hx hy0 hy hd hu ret
  refine wpAny_call ?_
  k_dflt cell_enter
  k_with "one" => ((with_reducible rename (_ ∈ _) => hv9); (have hv8 := int_of_mem (B := 1000000000000000) hv9 (by (simp only [List.forall_mem_cons]; (repeat (first | exact List.forall_mem_nil _ | refine And.intro ⟨_, _, rfl, by omega, by omega⟩ ?_))))); clear hv9; obtain ⟨z9, t9, e9, b9, c9⟩ := hv8; subst e9)
  k_steps
  (with_reducible rename News _ _ _ _ => kN9)
  refine part_ret ret (by k_asm) kN9 (by k_mem) (by assumption) (by assumption) (by assumption) rfl
end
end
section
theorem iter_rangeJ {prog : Program} {w : World} {A : Around} {E : Value → Shared → Prop} {s : Shared} {env : Env} {h₀ : Heap} {target : Expr} {body : List Stmt} {Q : Flow → Shared → Prop}
    {r : Addr} {b : Int} {t u v : Tok} {n : Nat} {m₀ : Str → Option Value} {news : List (Addr × Obj)} (J : Nat → (Str → Option Value) → List (Addr × Obj) → Prop)
    (hh : A.handled = none) (F : Fr h₀ env.locals s.heap m₀) (N : News h₀ env.locals s.heap news) (hr : IsRange s.heap r 0 b 1 t u v) (hsm : Builtin.Range.small 0 b 1 = true) (hn : Builtin.Range.rangeSize 0 b 1 = ((n : Nat) : Int))
    (hgo : ∀ it v, letOwnedTupleGo target it v = pure ()) (hJ : J 0 m₀ news)
    (turn : ∀ i m₁ news₁ h tk tv I oI, i < n → J i m₁ news₁ → (∀ p ∈ news₁, p.1 ≠ I) → Fr h₀ env.locals h m₁ → News h₀ env.locals h ((I, oI) :: news₁) →
      wpAny (model prog w) A (assign target env (.int (i : Int) tv)) (fun _ s₂ => wpAny (model prog w) A (execs body env) (UnrPostW h₀ env.locals { s with heap := h, toks := tk } [(I, oI)] (J (i + 1)) Q) E s₂) E { s with heap := h, toks := tk })
    (fin : ∀ h tk m' news', J n m' news' → Fr h₀ env.locals h m' → News h₀ env.locals h news' → Q .next { s with heap := h, toks := tk }) :
    wpAny (model prog w) A (pyIter (.ref r)) (fun it s₂ => TurnsAt prog w A h₀ env target body Q E it s₂) E s := by
  refine wpAny_pyIter_range hr hsm ?_
  have W : KTurns prog w A target s.heap.objs.size [s.heap.objs.size] [s.heap.objs.size] n _ _ _ := KTurns.ofWalks (LCg.range_walks (prog := prog) (w := w) (A := A) (I := s.heap.objs.size) hh 0 n) fun i v s Q E _ q => wpAny_of_eq (hgo _ v) q
  refine ⟨s.heap.objs.size, [s.heap.objs.size], [s.heap.objs.size], n, _, _, _, m₀, news, J, rfl, W, ?_, ?_, ?_, ?_, F.push _, fun p hp => ⟨Heap.get?_push_of_some _ (N p hp).1, (N p hp).2⟩, hJ, ?_, ?_⟩
  · intro hI
    exact absurd F.ns.lt (by rw [List.mem_singleton.mp hI]; exact Nat.lt_irrefl _)
  · intro b hb
    rw [List.mem_singleton.mp hb]
    exact next_is_new F
  · intro p hp hI
    exact absurd (Heap.lt_size (N p hp).1) (by rw [List.mem_singleton.mp hI]; exact Nat.lt_irrefl _)
  · show IsRangeIter _ _ _ _ _
    rw [hn]
    simpa using Heap.get?_push_size _ rfl
  · intro i v m₁ news₁ h₁ tk₁ own hin hP hJ hoff hown hget hall hst F₁ N₁
    obtain ⟨tv, rfl⟩ := hP
    obtain ⟨oI, eI⟩ : ∃ o, h₁.get? s.heap.objs.size = some o := ⟨_, hst⟩
    have hIo := hall s.heap.objs.size (List.mem_singleton.mpr rfl) (next_is_new F) oI eI
    rw [Int.zero_add]
    refine wpAny_mono (turn i m₁ news₁ h₁ tk₁ tv s.heap.objs.size oI hin hJ (fun p hp e => hoff p hp (List.mem_singleton.mpr e)) F₁ fun p hp => ?_) (fun _ s₂ h₂ => wpAny_mono h₂ (fun f s₃ p => ?_) fun _ _ e => e) fun _ _ e => e
    · rcases List.mem_cons.mp hp with rfl | hp
      · exact N₁ _ (List.mem_append_left _ hIo)
      · exact N₁ _ (List.mem_append_right _ hp)
    · have go : UnrEndW h₀ env.locals { s with heap := h₁, toks := tk₁ } [(s.heap.objs.size, oI)] (J (i + 1)) s₃ → LoopStepU h₀ env.locals [s.heap.objs.size] own (J (i + 1)) { s with heap := h₁, toks := tk₁ } .next s₃ := by
        rintro ⟨h', tk, m', news', e, F', N', ho, hJ'⟩
        refine ⟨rfl, h', tk, m', news', e, F', ?_, fun p hp hI => ho p hp _ (.head _) (List.mem_singleton.mp hI), hJ'⟩
        rintro ⟨pa, po⟩ hp
        rcases List.mem_append.mp hp with hp | hp
        · have e1 := List.mem_singleton.mp (hown _ hp)
          have e1' : pa = s.heap.objs.size := e1
          subst e1'
          have e2 : h₁.get? s.heap.objs.size = some po := hget _ hp
          rw [eI] at e2
          cases e2
          exact N' _ (.head _)
        · exact N' _ (.tail _ hp)
      cases f with
      | ret v => exact .ret p
      | brk => exact .brk p
      | next => exact .next (go p)
      | cont => exact .cont (go p)
  · intro h' tk m' news' F' N' _ hJ'
    exact fin h' tk m' news' hJ' F' N'
theorem turn_end {h₀ h' : Heap} {L I : Addr} {oI : Obj} {m' : Str → Option Value} {news' all : List (Addr × Obj)} {s : Shared} {tk : Nat} {rest : (Str → Option Value) → List (Addr × Obj) → Prop}
    (F : Fr h₀ L h' m') (N : News h₀ L h' all) (hI : (I, oI) ∈ all) (hs : ∀ q ∈ news', q ∈ all) (hn : ∀ q ∈ news', q.1 ≠ I) (r : rest m' news') : UnrEndW h₀ L s [(I, oI)] rest { s with heap := h', toks := tk } :=
  ⟨h', tk, m', news', rfl, F, fun q hq => by
    rcases List.mem_cons.mp hq with rfl | hq
    · exact N _ hI
    · exact N _ (hs q hq), fun p hp q hq => by rw [List.mem_singleton.mp hq]; exact hn p hp, r⟩
noncomputable def setO (x : Str) (v : Option Value) (m : Str → Option Value) : Str → Option Value := fun y => if y = x then v else m y
theorem setO_self (x : Str) (m : Str → Option Value) : setO x (m x) m = m := by
  funext y
  unfold setO
  by_cases h : y = x <;> simp [h]
theorem setO_set {x : Str} {v : Option Value} {u : Value} {m : Str → Option Value} : (fun y => if y = x then some u else setO x v m y) = setO x (some u) m := by
  funext y
  unfold setO
  by_cases h : y = x <;> simp [h]
end
local macro_rules | `(tactic| k_lt $h:ident) => `(tactic| skip)
section
theorem wd_12 : True := by
  k_with_none
  k_with "eval Call" => (k_here; k_fold)
  k_with "eval BinOp" => (k_here; k_fold)
  k_with "eval Compare" => (k_here; k_fold)
  k_with "isTrue Compare" => (k_here; k_fold)
  k_with "isTrue Call" => (k_here; k_fold)
  k_with "eval BoolOp" => (k_here; k_fold)
  k_with "isTrue BoolOp" => (k_here; k_fold)
  k_with "isTrue" => (k_here; k_fold)
  k_with "eval Attribute" => (k_here; k_fold)
  k_with "eval Tuple" => (k_here; k_fold)
  k_with "eval List" => (k_here; k_fold)
  k_with "eval Subscript" => (k_here; k_fold)
  k_with "eval IfExp" => (k_here; k_fold)
  k_with "execs cons" => (k_here; with_reducible refine gen_tk ?_; intro tk; (try dsimp only))
  k_with "eval Call" => (k_here; with_reducible refine gen_tk ?_; intro tk; (try dsimp only))
  k_with "setAttr ref" => (k_here; with_reducible refine gen_tk ?_; intro tk; (try dsimp only))
  k_with "newList" => (k_here; with_reducible refine gen_tk ?_; intro tk; (try dsimp only))
  k_with "eval BinOp" => (k_here; with_reducible refine gen_tk ?_; intro tk; (try dsimp only))
  k_with "eval Subscript" => (k_here; with_reducible refine gen_tk ?_; intro tk; (try dsimp only))
  k_with "k_all" => (first | assumption | exact all_ne (by with_reducible assumption) (by (intro q9 hq9; repeat (first | exact hq9 | refine List.Mem.tail _ ?_))))
  k_with "subscriptTail Name Constant ref int" => ((k_here; k_dflt (refine' my_item ?k1 ?k2 ?k3 ?k4 ?k5 ?_ ?k7; (case k1 => k_asm); (case k2 => k_mem); (case k3 => decide); (case k4 => decide); (case k5 => exact rfl); (case k7 => with_unfolding_all rfl); k_whole)))
  k_with "call ref" => ((k_here; (with_reducible show wpAny _ _ (call (Value.ref 386) [Value.ref _, Value.int _ _]) _ _ _); k_dflt (refine' wind_at ?kB ?kF ?kX ?kN ?kT ?kK ?kU ?kx ?ky ?kz ?kt ?ku ?kd ?ke ?_; (case kB => k_asm); (case kF => k_asm); (case kX => k_asm); (case kN => k_asm); (case kT => k_asm); (case kK => first | exact rfl | assumption); (case kU => k_updF); (case kx => assumption); (case ky => assumption); (case kz => assumption); (case kt => omega); (case ku => omega); (case kd => ktr_room); (case ke => ktr_units)); intro d' x' y' td' tx' ty' h' tk' hd0 hd1 hx' hy' hz' F' N'; (try dsimp only at N'); (try dsimp only); (try k_sweep); walk_say "WIND"; (try k_extra "wind")))
  k_with "k_room" => (ktr_room)
  k_with "k_units" => (ktr_units)
  k_with "ktr_rel" => ((intro q9 hq9; repeat (first | exact hq9 | refine List.Mem.tail _ ?_)))
  k_with "binaryOp Pow int int" => ((k_here; (refine' pow_lit ?kb1 ?kb2 ?kb3 ?_); (case kb1 => decide); (case kb2 => decide); (case kb3 => ((simp only [Int.reduceToNat, Int.reducePow]); exact rfl))))
  k_with "CompSrc" => ((k_here; k_dflt (first | (refine LCg.CompSrc.ledger (by rfl) (by k_asm) (by k_asm) (by k_mem) (by first | size_fits | exact Nat.le_of_ble_eq_true rfl) ?_; intro g'; lcg_lit) | (refine LCg.CompSrc.range (by rfl) (by k_asm) (by k_asm) (by assumption) (by first | decide | rfl) (by first | rfl | decide) (by first | size_fits | exact Nat.le_of_ble_eq_true rfl) ?_; intro g'; lcg_lit))))
  k_with "CompRest" => ((with_unfolding_all first | (refine LCg.CompRest.succ ?_; intro v' I' oI' C' oC' D' m' h' tk' E' hv' hC' hx' F' N' off' ne'; (first | lcg_open hv' | (obtain ⟨t9', hv9'⟩ := hv'; subst hv9')); (obtain ⟨ne1', ne2', ne3'⟩ := ne')) | refine LCg.CompRest.zero ?_))
  k_with "CompEnd" => ((first | (refine' compEnd0 ?kF ?kN ?ko ?kS ?_; (case kN => assumption); (case kF => assumption); (case ko => assumption); (case kS => lcg_src)) | (refine' compEnd2 ?kF ?kN ?kx ?kd ?ko ?kS ?_; (case kN => assumption); (case kF => assumption); (case kx => exact ⟨by k_ne, by k_ne, by k_ne⟩); (case kd => exact ⟨by k_ne, by k_ne, by k_ne⟩); (case ko => assumption); (case kS => lcg_src)) | (refine' compEnd1 ?kF ?kN ?kx ?ko ?kS ?_; (case kN => assumption); (case kF => assumption); (case kx => exact ⟨by k_ne, by k_ne, by k_ne⟩); (case ko => assumption); (case kS => lcg_src)) | lcg_end))
  k_with "call type:bytes" => ((k_here; (with_reducible show wpAny _ _ (call (Value.type "bytes") [Value.bytes _ _]) _ _ _); refine' bb_call ?_))
  k_with "k_ne" => ((refine neN ?_; (try dsimp only); first | (with_reducible assumption) | exact Ne.symm (by with_reducible assumption) | exact Nat.ne_of_gt (by with_reducible assumption) | exact Nat.ne_of_lt (by with_reducible assumption) | exact neA (by with_reducible assumption) (by k_mem) | exact Ne.symm (neA (by with_reducible assumption) (by k_mem)) | exact neO (by with_reducible assumption) (by k_mem) | exact Ne.symm (neO (by with_reducible assumption) (by k_mem)) | exact neI (by with_reducible assumption) (by k_mem) | exact Ne.symm (neI (by with_reducible assumption) (by k_mem)) | exact neC (by with_reducible assumption) (by k_mem) | exact Ne.symm (neC (by with_reducible assumption) (by k_mem)) | exact neD (by with_reducible assumption) (by k_mem) | exact Ne.symm (neD (by with_reducible assumption) (by k_mem)) | exact neA2 (by with_reducible assumption) (by with_reducible assumption) (by k_mem) | exact Ne.symm (neA2 (by with_reducible assumption) (by with_reducible assumption) (by k_mem)) | omega))
  k_with "FinE" => (((unfold LCg.FinE); intro D' h' tk' F' N' o1'; (try simp only [List.nil_append, List.cons_append] at N'); (try dsimp only)))
  k_with "FinA" => (((unfold LCg.FinA); intro D' h' tk' F' N' o1'; (try simp only [List.nil_append, List.cons_append] at N'); (try dsimp only)))
  trivial
theorem tag_spec {w : World} {p : Program} {loose : List Str} {mean : ExcName → Option Value} {mg mb : Str → Option Value}
    {dp un : Nat} {gd : Option (List Code)} {cn : Str} {cs : Scope} {a : Addr} {ccd : Value} {cl : List (Str × Addr)} {outer : List Env} {A₀ : Around} {base h₀ : Heap} {L : Addr} {m : Str → Option Value} {s : Shared} {Q E : Value → Shared → Prop}
    {news : List (Addr × Obj)} {t1 t2 : Tok} {v : Value}
    (B : Below A₀ base outer h₀) (F : Fr h₀ L s.heap m) (X : (Mine.K w.params).In h₀) (N : News h₀ L s.heap news) (T : Top p loose mean mg mb h₀) (hk : cs.kind = .function)
     (hd : dp + 2 < recursionLimit) (hu : un + 16 < cLine)
    (ret : ∀ (x d : Addr) (u1 u2 u3 u4 : Tok) (h' : Heap) (tk' : Nat), (∀ q ∈ news, q.1 < d) → d < x → Fr h₀ L h' m → News h₀ L h' ((x, instObj 137 d) :: (d, dictOf [⟨PyData.keyHash w.params (Str.ofString "kind"), .str (Str.ofString "kind") u1, .int 33024 t1⟩, ⟨PyData.keyHash w.params (Str.ofString "priority"), .str (Str.ofString "priority") u2, .int 3 t2⟩, ⟨PyData.keyHash w.params (Str.ofString "may_drop"), .str (Str.ofString "may_drop") u3, .bool false⟩, ⟨PyData.keyHash w.params (Str.ofString "vlan"), .str (Str.ofString "vlan") u4, v⟩] 4) :: news) → Q (.ref x) { s with heap := h', toks := tk' }) :
    wpAny (model PySem.Challenge.pw_xm0985_01 w) (ktrTop dp un gd cn cs L a ccd cl outer) (call (.ref 137) [.int 33024 t1, .int 3 t2, .bool false, v]) Q E s := by
  k_dflt (refine' call_cls ?k1 ?k2 ?k3 ?k4 ?k5 ?k6 ?_; (case k1 => k_asm); (case k2 => k_asm); (case k3 => k_asm); (case k4 => k_is); (case k5 => k_is); (case k6 => k_is); k_whole; intro x' d' h' F' N' l1 l2)
  have l9 := l1
  (try k_lt l1)
  (try k_lt2 l2)
  k_dflt cell_enter
  k_steps
  exact ret _ _ _ _ _ _ _ _ l9 l2 (by k_asm) (by k_asm)
theorem wd_13 : True := by
  k_with "call type:tuple" => ((k_here; (with_reducible show wpAny _ _ (call (Value.type _) [Value.ref _]) _ _ _); k_dflt (refine' kde_tupleOf ?k1 ?k2 ?k3 ?k4 ?k5 ?_; (case k1 => k_asm); (case k2 => k_asm); (case k3 => exact News.isList (by k_asm) (by k_mem)); (case k4 => (simp only [List.size_toArray]; omega)); (case k5 => exact rfl); k_whole); intro D' h' F' N' l1; (try k_lt l1); (try dsimp only); (try k_sweep)))
  trivial
theorem frame_spec {w : World} {p : Program} {loose : List Str} {mean : ExcName → Option Value} {mg mb : Str → Option Value}
    {dp un : Nat} {gd : Option (List Code)} {cn : Str} {cs : Scope} {a : Addr} {ccd : Value} {cl : List (Str × Addr)} {outer : List Env} {A₀ : Around} {base h₀ : Heap} {L : Addr} {m : Str → Option Value} {s : Shared} {Q E : Value → Shared → Prop}
    {news : List (Addr × Obj)} {a1 a2 : Int} {t1 t2 t3 : Tok} {kv : Value} {bb : Array UInt8} {l : Addr} {vs : List Value}
    (B : Below A₀ base outer h₀) (F : Fr h₀ L s.heap m) (X : (Mine.K w.params).In h₀) (N : News h₀ L s.heap ((l, LCg.lst vs) :: news)) (T : Top p loose mean mg mb h₀) (hk : cs.kind = .function)
    (hv : vs.length ≤ 1000) (hd : dp + 2 < recursionLimit) (hu : un + 16 < cLine)
    (ret : ∀ (x d T : Addr) (u1 u2 u3 u4 u5 : Tok) (h' : Heap) (tk' : Nat), (∀ q ∈ (l, LCg.lst vs) :: news, q.1 < d) → d < x → x < T → Fr h₀ L h' m → News h₀ L h' ((T, tupO vs.toArray 0) :: (x, instObj 171 d) :: (d, dictOf [⟨PyData.keyHash w.params (Str.ofString "target"), .str (Str.ofString "target") u1, .int a1 t1⟩, ⟨PyData.keyHash w.params (Str.ofString "source"), .str (Str.ofString "source") u2, .int a2 t2⟩, ⟨PyData.keyHash w.params (Str.ofString "tags"), .str (Str.ofString "tags") u3, .ref T⟩, ⟨PyData.keyHash w.params (Str.ofString "kind"), .str (Str.ofString "kind") u4, kv⟩, ⟨PyData.keyHash w.params (Str.ofString "payload"), .str (Str.ofString "payload") u5, .bytes bb t3⟩] 5) :: (l, LCg.lst vs) :: news) → Q (.ref x) { s with heap := h', toks := tk' }) :
    wpAny (model PySem.Challenge.pw_xm0985_01 w) (ktrTop dp un gd cn cs L a ccd cl outer) (call (.ref 171) [.int a1 t1, .int a2 t2, .ref l, kv, .bytes bb t3]) Q E s := by
  k_dflt (refine' call_cls ?k1 ?k2 ?k3 ?k4 ?k5 ?k6 ?_; (case k1 => k_asm); (case k2 => k_asm); (case k3 => k_asm); (case k4 => k_is); (case k5 => k_is); (case k6 => k_is); k_whole; intro x' d' h' F' N' l1 l2)
  have l9 := l1
  (try k_lt l1)
  (try k_lt2 l2)
  k_dflt cell_enter
  k_steps
  (with_reducible rename News _ _ _ _ => kN9)
  refine ret _ _ _ _ _ _ _ _ _ _ l9 l2 ?_ ?_ kN9
  · exact ltA (by assumption) (by k_mem)
  · k_asm
end
section
theorem wd_14 : True := by
  k_with_none
  k_with "eval Call" => (k_here; k_fold)
  k_with "eval BinOp" => (k_here; k_fold)
  k_with "eval Compare" => (k_here; k_fold)
  k_with "isTrue Compare" => (k_here; k_fold)
  k_with "isTrue Call" => (k_here; k_fold)
  k_with "eval BoolOp" => (k_here; k_fold)
  k_with "isTrue BoolOp" => (k_here; k_fold)
  k_with "isTrue" => (k_here; k_fold)
  k_with "eval Attribute" => (k_here; k_fold)
  k_with "eval Tuple" => (k_here; k_fold)
  k_with "eval List" => (k_here; k_fold)
  k_with "eval Subscript" => (k_here; k_fold)
  k_with "eval IfExp" => (k_here; k_fold)
  k_with "execs cons" => (k_here; with_reducible refine gen_tk ?_; intro tk; (try dsimp only))
  k_with "eval Call" => (k_here; with_reducible refine gen_tk ?_; intro tk; (try dsimp only))
  k_with "setAttr ref" => (k_here; with_reducible refine gen_tk ?_; intro tk; (try dsimp only))
  k_with "newList" => (k_here; with_reducible refine gen_tk ?_; intro tk; (try dsimp only))
  k_with "eval BinOp" => (k_here; with_reducible refine gen_tk ?_; intro tk; (try dsimp only))
  k_with "eval Subscript" => (k_here; with_reducible refine gen_tk ?_; intro tk; (try dsimp only))
  k_with "k_all" => (first | assumption | exact all_ne (by with_reducible assumption) (by (intro q9 hq9; repeat (first | exact hq9 | refine List.Mem.tail _ ?_))))
  k_with "subscriptTail Name Constant ref int" => ((k_here; k_dflt (refine' my_item ?k1 ?k2 ?k3 ?k4 ?k5 ?_ ?k7; (case k1 => k_asm); (case k2 => k_mem); (case k3 => decide); (case k4 => decide); (case k5 => exact rfl); (case k7 => with_unfolding_all rfl); k_whole)))
  k_with "call ref" => ((k_here; (with_reducible show wpAny _ _ (call (Value.ref 386) [Value.ref _, Value.int _ _]) _ _ _); k_dflt (refine' wind_at ?kB ?kF ?kX ?kN ?kT ?kK ?kU ?kx ?ky ?kz ?kt ?ku ?kd ?ke ?_; (case kB => k_asm); (case kF => k_asm); (case kX => k_asm); (case kN => k_asm); (case kT => k_asm); (case kK => first | exact rfl | assumption); (case kU => k_updF); (case kx => assumption); (case ky => assumption); (case kz => assumption); (case kt => omega); (case ku => omega); (case kd => ktr_room); (case ke => ktr_units)); intro d' x' y' td' tx' ty' h' tk' hd0 hd1 hx' hy' hz' F' N'; (try dsimp only at N'); (try dsimp only); (try k_sweep); walk_say "WIND"; (try k_extra "wind")))
  k_with "k_room" => (ktr_room)
  k_with "k_units" => (ktr_units)
  k_with "ktr_rel" => ((intro q9 hq9; repeat (first | exact hq9 | refine List.Mem.tail _ ?_)))
  k_with "binaryOp Pow int int" => ((k_here; (refine' pow_lit ?kb1 ?kb2 ?kb3 ?_); (case kb1 => decide); (case kb2 => decide); (case kb3 => ((simp only [Int.reduceToNat, Int.reducePow]); exact rfl))))
  k_with "CompSrc" => ((k_here; k_dflt (first | (refine LCg.CompSrc.ledger (by rfl) (by k_asm) (by k_asm) (by k_mem) (by first | size_fits | exact Nat.le_of_ble_eq_true rfl) ?_; intro g'; lcg_lit) | (refine LCg.CompSrc.range (by rfl) (by k_asm) (by k_asm) (by assumption) (by first | decide | rfl) (by first | rfl | decide) (by first | size_fits | exact Nat.le_of_ble_eq_true rfl) ?_; intro g'; lcg_lit))))
  k_with "CompRest" => ((with_unfolding_all first | (refine LCg.CompRest.succ ?_; intro v' I' oI' C' oC' D' m' h' tk' E' hv' hC' hx' F' N' off' ne'; (first | lcg_open hv' | (obtain ⟨t9', hv9'⟩ := hv'; subst hv9')); (obtain ⟨ne1', ne2', ne3'⟩ := ne')) | refine LCg.CompRest.zero ?_))
  k_with "CompEnd" => ((first | (refine' compEnd0 ?kF ?kN ?ko ?kS ?_; (case kN => assumption); (case kF => assumption); (case ko => assumption); (case kS => lcg_src)) | (refine' compEnd2 ?kF ?kN ?kx ?kd ?ko ?kS ?_; (case kN => assumption); (case kF => assumption); (case kx => exact ⟨by k_ne, by k_ne, by k_ne⟩); (case kd => exact ⟨by k_ne, by k_ne, by k_ne⟩); (case ko => assumption); (case kS => lcg_src)) | (refine' compEnd1 ?kF ?kN ?kx ?ko ?kS ?_; (case kN => assumption); (case kF => assumption); (case kx => exact ⟨by k_ne, by k_ne, by k_ne⟩); (case ko => assumption); (case kS => lcg_src)) | lcg_end))
  k_with "k_ne" => ((refine neN ?_; (try dsimp only); first | (with_reducible assumption) | exact Ne.symm (by with_reducible assumption) | exact Nat.ne_of_gt (by with_reducible assumption) | exact Nat.ne_of_lt (by with_reducible assumption) | exact neA (by with_reducible assumption) (by k_mem) | exact Ne.symm (neA (by with_reducible assumption) (by k_mem)) | exact neO (by with_reducible assumption) (by k_mem) | exact Ne.symm (neO (by with_reducible assumption) (by k_mem)) | exact neI (by with_reducible assumption) (by k_mem) | exact Ne.symm (neI (by with_reducible assumption) (by k_mem)) | exact neC (by with_reducible assumption) (by k_mem) | exact Ne.symm (neC (by with_reducible assumption) (by k_mem)) | exact neD (by with_reducible assumption) (by k_mem) | exact Ne.symm (neD (by with_reducible assumption) (by k_mem)) | exact neA2 (by with_reducible assumption) (by with_reducible assumption) (by k_mem) | exact Ne.symm (neA2 (by with_reducible assumption) (by with_reducible assumption) (by k_mem)) | omega))
  k_with "FinE" => (((unfold LCg.FinE); intro D' h' tk' F' N' o1'; (try simp only [List.nil_append, List.cons_append] at N'); (try dsimp only)))
  k_with "FinA" => (((unfold LCg.FinA); intro D' h' tk' F' N' o1'; (try simp only [List.nil_append, List.cons_append] at N'); (try dsimp only)))
  trivial
noncomputable def KN (kv : Value) (z : Int) : Prop := (kv = .none ∧ z = 0) ∨ ∃ t, kv = .int z t
theorem fw_target {w : World} {p : Program} {loose : List Str} {mean : ExcName → Option Value} {mg mb : Str → Option Value}
    {dp un : Nat} {gd : Option (List Code)} {cn : Str} {cs : Scope} {a : Addr} {ccd : Value} {cl : List (Str × Addr)} {outer : List Env} {A₀ : Around} {base h₀ : Heap} {L : Addr} {m : Str → Option Value} {s : Shared} {Q E : Value → Shared → Prop}
    {news : List (Addr × Obj)} {a1 a2 : Int} {t1 t2 t3 tw : Tok} {kv : Value} {bb : Array UInt8} {x d G : Addr} {u1 u2 u3 u4 u5 : Tok}
    (B : Below A₀ base outer h₀) (F : Fr h₀ L s.heap m) (X : (Mine.K w.params).In h₀) (N : News h₀ L s.heap ((x, instObj 171 d) :: (d, dictOf [⟨PyData.keyHash w.params (Str.ofString "target"), .str (Str.ofString "target") u1, .int a1 t1⟩, ⟨PyData.keyHash w.params (Str.ofString "source"), .str (Str.ofString "source") u2, .int a2 t2⟩, ⟨PyData.keyHash w.params (Str.ofString "tags"), .str (Str.ofString "tags") u3, .ref G⟩, ⟨PyData.keyHash w.params (Str.ofString "kind"), .str (Str.ofString "kind") u4, kv⟩, ⟨PyData.keyHash w.params (Str.ofString "payload"), .str (Str.ofString "payload") u5, .bytes bb t3⟩] 5) :: news)) (T : Top p loose mean mg mb h₀) (hk : cs.kind = .function)
     (hd : dp + 1 < recursionLimit) (hu : un + 8 < cLine)
    (ret : ∀ (tv : Tok) (h' : Heap) (tk' : Nat), Fr h₀ L h' m → News h₀ L h' ((x, instObj 171 d) :: (d, dictOf [⟨PyData.keyHash w.params (Str.ofString "target"), .str (Str.ofString "target") u1, .int a1 t1⟩, ⟨PyData.keyHash w.params (Str.ofString "source"), .str (Str.ofString "source") u2, .int a2 t2⟩, ⟨PyData.keyHash w.params (Str.ofString "tags"), .str (Str.ofString "tags") u3, .ref G⟩, ⟨PyData.keyHash w.params (Str.ofString "kind"), .str (Str.ofString "kind") u4, kv⟩, ⟨PyData.keyHash w.params (Str.ofString "payload"), .str (Str.ofString "payload") u5, .bytes bb t3⟩] 5) :: news) → Q (.int a1 t1) { s with heap := h', toks := tk' }) :
    wpAny (model PySem.Challenge.pw_xm0985_01 w) (ktrTop dp un gd cn cs L a ccd cl outer) (call (.ref 106) [.ref x, .str (Str.ofString "target") tw]) Q E s := by
  refine wpAny_call ?_
  k_dflt cell_enter
  k_steps
  exact ret 0 _ _ (by k_asm) (by k_asm)
theorem fw_source {w : World} {p : Program} {loose : List Str} {mean : ExcName → Option Value} {mg mb : Str → Option Value}
    {dp un : Nat} {gd : Option (List Code)} {cn : Str} {cs : Scope} {a : Addr} {ccd : Value} {cl : List (Str × Addr)} {outer : List Env} {A₀ : Around} {base h₀ : Heap} {L : Addr} {m : Str → Option Value} {s : Shared} {Q E : Value → Shared → Prop}
    {news : List (Addr × Obj)} {a1 a2 : Int} {t1 t2 t3 tw : Tok} {kv : Value} {bb : Array UInt8} {x d G : Addr} {u1 u2 u3 u4 u5 : Tok}
    (B : Below A₀ base outer h₀) (F : Fr h₀ L s.heap m) (X : (Mine.K w.params).In h₀) (N : News h₀ L s.heap ((x, instObj 171 d) :: (d, dictOf [⟨PyData.keyHash w.params (Str.ofString "target"), .str (Str.ofString "target") u1, .int a1 t1⟩, ⟨PyData.keyHash w.params (Str.ofString "source"), .str (Str.ofString "source") u2, .int a2 t2⟩, ⟨PyData.keyHash w.params (Str.ofString "tags"), .str (Str.ofString "tags") u3, .ref G⟩, ⟨PyData.keyHash w.params (Str.ofString "kind"), .str (Str.ofString "kind") u4, kv⟩, ⟨PyData.keyHash w.params (Str.ofString "payload"), .str (Str.ofString "payload") u5, .bytes bb t3⟩] 5) :: news)) (T : Top p loose mean mg mb h₀) (hk : cs.kind = .function)
     (hd : dp + 1 < recursionLimit) (hu : un + 8 < cLine)
    (ret : ∀ (tv : Tok) (h' : Heap) (tk' : Nat), Fr h₀ L h' m → News h₀ L h' ((x, instObj 171 d) :: (d, dictOf [⟨PyData.keyHash w.params (Str.ofString "target"), .str (Str.ofString "target") u1, .int a1 t1⟩, ⟨PyData.keyHash w.params (Str.ofString "source"), .str (Str.ofString "source") u2, .int a2 t2⟩, ⟨PyData.keyHash w.params (Str.ofString "tags"), .str (Str.ofString "tags") u3, .ref G⟩, ⟨PyData.keyHash w.params (Str.ofString "kind"), .str (Str.ofString "kind") u4, kv⟩, ⟨PyData.keyHash w.params (Str.ofString "payload"), .str (Str.ofString "payload") u5, .bytes bb t3⟩] 5) :: news) → Q (.int a2 t2) { s with heap := h', toks := tk' }) :
    wpAny (model PySem.Challenge.pw_xm0985_01 w) (ktrTop dp un gd cn cs L a ccd cl outer) (call (.ref 106) [.ref x, .str (Str.ofString "source") tw]) Q E s := by
  refine wpAny_call ?_
  k_dflt cell_enter
  k_steps
  exact ret 0 _ _ (by k_asm) (by k_asm)
theorem fw_kind0 {w : World} {p : Program} {loose : List Str} {mean : ExcName → Option Value} {mg mb : Str → Option Value}
    {dp un : Nat} {gd : Option (List Code)} {cn : Str} {cs : Scope} {a : Addr} {ccd : Value} {cl : List (Str × Addr)} {outer : List Env} {A₀ : Around} {base h₀ : Heap} {L : Addr} {m : Str → Option Value} {s : Shared} {Q E : Value → Shared → Prop}
    {news : List (Addr × Obj)} {a1 a2 : Int} {t1 t2 t3 tw : Tok} {kv : Value} {bb : Array UInt8} {x d G : Addr} {u1 u2 u3 u4 u5 : Tok}
    (B : Below A₀ base outer h₀) (F : Fr h₀ L s.heap m) (X : (Mine.K w.params).In h₀) (N : News h₀ L s.heap ((x, instObj 171 d) :: (d, dictOf [⟨PyData.keyHash w.params (Str.ofString "target"), .str (Str.ofString "target") u1, .int a1 t1⟩, ⟨PyData.keyHash w.params (Str.ofString "source"), .str (Str.ofString "source") u2, .int a2 t2⟩, ⟨PyData.keyHash w.params (Str.ofString "tags"), .str (Str.ofString "tags") u3, .ref G⟩, ⟨PyData.keyHash w.params (Str.ofString "kind"), .str (Str.ofString "kind") u4, .none⟩, ⟨PyData.keyHash w.params (Str.ofString "payload"), .str (Str.ofString "payload") u5, .bytes bb t3⟩] 5) :: news)) (T : Top p loose mean mg mb h₀) (hk : cs.kind = .function)
     (hd : dp + 1 < recursionLimit) (hu : un + 8 < cLine)
    (ret : ∀ (tv : Tok) (h' : Heap) (tk' : Nat), Fr h₀ L h' m → News h₀ L h' ((x, instObj 171 d) :: (d, dictOf [⟨PyData.keyHash w.params (Str.ofString "target"), .str (Str.ofString "target") u1, .int a1 t1⟩, ⟨PyData.keyHash w.params (Str.ofString "source"), .str (Str.ofString "source") u2, .int a2 t2⟩, ⟨PyData.keyHash w.params (Str.ofString "tags"), .str (Str.ofString "tags") u3, .ref G⟩, ⟨PyData.keyHash w.params (Str.ofString "kind"), .str (Str.ofString "kind") u4, .none⟩, ⟨PyData.keyHash w.params (Str.ofString "payload"), .str (Str.ofString "payload") u5, .bytes bb t3⟩] 5) :: news) → Q (.int 0 tv) { s with heap := h', toks := tk' }) :
    wpAny (model PySem.Challenge.pw_xm0985_01 w) (ktrTop dp un gd cn cs L a ccd cl outer) (call (.ref 106) [.ref x, .str (Str.ofString "kind") tw]) Q E s := by
  refine wpAny_call ?_
  k_dflt cell_enter
  k_steps
  exact ret _ _ _ (by k_asm) (by k_asm)
theorem fw_kind1 {w : World} {p : Program} {loose : List Str} {mean : ExcName → Option Value} {mg mb : Str → Option Value}
    {dp un : Nat} {gd : Option (List Code)} {cn : Str} {cs : Scope} {a : Addr} {ccd : Value} {cl : List (Str × Addr)} {outer : List Env} {A₀ : Around} {base h₀ : Heap} {L : Addr} {m : Str → Option Value} {s : Shared} {Q E : Value → Shared → Prop}
    {news : List (Addr × Obj)} {a1 a2 : Int} {t1 t2 t3 tw : Tok} {kv : Value} {bb : Array UInt8} {x d G : Addr} {u1 u2 u3 u4 u5 : Tok}{z : Int} {tz : Tok}
    (B : Below A₀ base outer h₀) (F : Fr h₀ L s.heap m) (X : (Mine.K w.params).In h₀) (N : News h₀ L s.heap ((x, instObj 171 d) :: (d, dictOf [⟨PyData.keyHash w.params (Str.ofString "target"), .str (Str.ofString "target") u1, .int a1 t1⟩, ⟨PyData.keyHash w.params (Str.ofString "source"), .str (Str.ofString "source") u2, .int a2 t2⟩, ⟨PyData.keyHash w.params (Str.ofString "tags"), .str (Str.ofString "tags") u3, .ref G⟩, ⟨PyData.keyHash w.params (Str.ofString "kind"), .str (Str.ofString "kind") u4, .int z tz⟩, ⟨PyData.keyHash w.params (Str.ofString "payload"), .str (Str.ofString "payload") u5, .bytes bb t3⟩] 5) :: news)) (T : Top p loose mean mg mb h₀) (hk : cs.kind = .function)
     (hd : dp + 1 < recursionLimit) (hu : un + 8 < cLine)
    (ret : ∀ (tv : Tok) (h' : Heap) (tk' : Nat), Fr h₀ L h' m → News h₀ L h' ((x, instObj 171 d) :: (d, dictOf [⟨PyData.keyHash w.params (Str.ofString "target"), .str (Str.ofString "target") u1, .int a1 t1⟩, ⟨PyData.keyHash w.params (Str.ofString "source"), .str (Str.ofString "source") u2, .int a2 t2⟩, ⟨PyData.keyHash w.params (Str.ofString "tags"), .str (Str.ofString "tags") u3, .ref G⟩, ⟨PyData.keyHash w.params (Str.ofString "kind"), .str (Str.ofString "kind") u4, .int z tz⟩, ⟨PyData.keyHash w.params (Str.ofString "payload"), .str (Str.ofString "payload") u5, .bytes bb t3⟩] 5) :: news) → Q (.int z tz) { s with heap := h', toks := tk' }) :
    wpAny (model PySem.Challenge.pw_xm0985_01 w) (ktrTop dp un gd cn cs L a ccd cl outer) (call (.ref 106) [.ref x, .str (Str.ofString "kind") tw]) Q E s := by
  refine wpAny_call ?_
  k_dflt cell_enter
  k_steps
  exact ret 0 _ _ (by k_asm) (by k_asm)
theorem fw_vlan0 {w : World} {p : Program} {loose : List Str} {mean : ExcName → Option Value} {mg mb : Str → Option Value}
    {dp un : Nat} {gd : Option (List Code)} {cn : Str} {cs : Scope} {a : Addr} {ccd : Value} {cl : List (Str × Addr)} {outer : List Env} {A₀ : Around} {base h₀ : Heap} {L : Addr} {m : Str → Option Value} {s : Shared} {Q E : Value → Shared → Prop}
    {news : List (Addr × Obj)} {a1 a2 : Int} {t1 t2 t3 tw : Tok} {kv : Value} {bb : Array UInt8} {x d G : Addr} {u1 u2 u3 u4 u5 : Tok}
    (B : Below A₀ base outer h₀) (F : Fr h₀ L s.heap m) (X : (Mine.K w.params).In h₀) (N : News h₀ L s.heap ((x, instObj 171 d) :: (d, dictOf [⟨PyData.keyHash w.params (Str.ofString "target"), .str (Str.ofString "target") u1, .int a1 t1⟩, ⟨PyData.keyHash w.params (Str.ofString "source"), .str (Str.ofString "source") u2, .int a2 t2⟩, ⟨PyData.keyHash w.params (Str.ofString "tags"), .str (Str.ofString "tags") u3, .ref G⟩, ⟨PyData.keyHash w.params (Str.ofString "kind"), .str (Str.ofString "kind") u4, kv⟩, ⟨PyData.keyHash w.params (Str.ofString "payload"), .str (Str.ofString "payload") u5, .bytes bb t3⟩] 5) :: (G, tupO #[] 0) :: news)) (T : Top p loose mean mg mb h₀) (hk : cs.kind = .function)
     (hd : dp + 1 < recursionLimit) (hu : un + 8 < cLine)
    (ret : ∀ (tv : Tok) (h' : Heap) (tk' : Nat), Fr h₀ L h' m → News h₀ L h' ((x, instObj 171 d) :: (d, dictOf [⟨PyData.keyHash w.params (Str.ofString "target"), .str (Str.ofString "target") u1, .int a1 t1⟩, ⟨PyData.keyHash w.params (Str.ofString "source"), .str (Str.ofString "source") u2, .int a2 t2⟩, ⟨PyData.keyHash w.params (Str.ofString "tags"), .str (Str.ofString "tags") u3, .ref G⟩, ⟨PyData.keyHash w.params (Str.ofString "kind"), .str (Str.ofString "kind") u4, kv⟩, ⟨PyData.keyHash w.params (Str.ofString "payload"), .str (Str.ofString "payload") u5, .bytes bb t3⟩] 5) :: (G, tupO #[] 0) :: news) → Q (.int 0 tv) { s with heap := h', toks := tk' }) :
    wpAny (model PySem.Challenge.pw_xm0985_01 w) (ktrTop dp un gd cn cs L a ccd cl outer) (call (.ref 106) [.ref x, .str (Str.ofString "vlan") tw]) Q E s := by
  refine wpAny_call ?_
  k_dflt cell_enter
  k_steps
  exact ret _ _ _ (by k_asm) (by k_asm)
theorem fw_vlan1 {w : World} {p : Program} {loose : List Str} {mean : ExcName → Option Value} {mg mb : Str → Option Value}
    {dp un : Nat} {gd : Option (List Code)} {cn : Str} {cs : Scope} {a : Addr} {ccd : Value} {cl : List (Str × Addr)} {outer : List Env} {A₀ : Around} {base h₀ : Heap} {L : Addr} {m : Str → Option Value} {s : Shared} {Q E : Value → Shared → Prop}
    {news : List (Addr × Obj)} {a1 a2 : Int} {t1 t2 t3 tw : Tok} {kv : Value} {bb : Array UInt8} {x d G : Addr} {u1 u2 u3 u4 u5 : Tok}{y dy : Addr} {z : Int} {tz : Tok} {w1 w2 w3 w4 k1 k2 : Tok}
    (B : Below A₀ base outer h₀) (F : Fr h₀ L s.heap m) (X : (Mine.K w.params).In h₀) (N : News h₀ L s.heap ((x, instObj 171 d) :: (d, dictOf [⟨PyData.keyHash w.params (Str.ofString "target"), .str (Str.ofString "target") u1, .int a1 t1⟩, ⟨PyData.keyHash w.params (Str.ofString "source"), .str (Str.ofString "source") u2, .int a2 t2⟩, ⟨PyData.keyHash w.params (Str.ofString "tags"), .str (Str.ofString "tags") u3, .ref G⟩, ⟨PyData.keyHash w.params (Str.ofString "kind"), .str (Str.ofString "kind") u4, kv⟩, ⟨PyData.keyHash w.params (Str.ofString "payload"), .str (Str.ofString "payload") u5, .bytes bb t3⟩] 5) :: (G, tupO #[.ref y] 0) :: (y, instObj 137 dy) :: (dy, dictOf [⟨PyData.keyHash w.params (Str.ofString "kind"), .str (Str.ofString "kind") w1, .int 33024 k1⟩, ⟨PyData.keyHash w.params (Str.ofString "priority"), .str (Str.ofString "priority") w2, .int 3 k2⟩, ⟨PyData.keyHash w.params (Str.ofString "may_drop"), .str (Str.ofString "may_drop") w3, .bool false⟩, ⟨PyData.keyHash w.params (Str.ofString "vlan"), .str (Str.ofString "vlan") w4, .int z tz⟩] 4) :: news)) (T : Top p loose mean mg mb h₀) (hk : cs.kind = .function)
     (hd : dp + 1 < recursionLimit) (hu : un + 8 < cLine)
    (ret : ∀ (tv : Tok) (h' : Heap) (tk' : Nat), Fr h₀ L h' m → News h₀ L h' ((x, instObj 171 d) :: (d, dictOf [⟨PyData.keyHash w.params (Str.ofString "target"), .str (Str.ofString "target") u1, .int a1 t1⟩, ⟨PyData.keyHash w.params (Str.ofString "source"), .str (Str.ofString "source") u2, .int a2 t2⟩, ⟨PyData.keyHash w.params (Str.ofString "tags"), .str (Str.ofString "tags") u3, .ref G⟩, ⟨PyData.keyHash w.params (Str.ofString "kind"), .str (Str.ofString "kind") u4, kv⟩, ⟨PyData.keyHash w.params (Str.ofString "payload"), .str (Str.ofString "payload") u5, .bytes bb t3⟩] 5) :: (G, tupO #[.ref y] 0) :: (y, instObj 137 dy) :: (dy, dictOf [⟨PyData.keyHash w.params (Str.ofString "kind"), .str (Str.ofString "kind") w1, .int 33024 k1⟩, ⟨PyData.keyHash w.params (Str.ofString "priority"), .str (Str.ofString "priority") w2, .int 3 k2⟩, ⟨PyData.keyHash w.params (Str.ofString "may_drop"), .str (Str.ofString "may_drop") w3, .bool false⟩, ⟨PyData.keyHash w.params (Str.ofString "vlan"), .str (Str.ofString "vlan") w4, .int z tz⟩] 4) :: news) → Q (.int z tz) { s with heap := h', toks := tk' }) :
    wpAny (model PySem.Challenge.pw_xm0985_01 w) (ktrTop dp un gd cn cs L a ccd cl outer) (call (.ref 106) [.ref x, .str (Str.ofString "vlan") tw]) Q E s := by
  refine wpAny_call ?_
  k_dflt cell_enter
  k_steps
  exact ret 0 _ _ (by k_asm) (by k_asm)
theorem fw_vlan2 {w : World} {p : Program} {loose : List Str} {mean : ExcName → Option Value} {mg mb : Str → Option Value}
    {dp un : Nat} {gd : Option (List Code)} {cn : Str} {cs : Scope} {a : Addr} {ccd : Value} {cl : List (Str × Addr)} {outer : List Env} {A₀ : Around} {base h₀ : Heap} {L : Addr} {m : Str → Option Value} {s : Shared} {Q E : Value → Shared → Prop}
    {news : List (Addr × Obj)} {a1 a2 : Int} {t1 t2 t3 tw : Tok} {kv : Value} {bb : Array UInt8} {x d G : Addr} {u1 u2 u3 u4 u5 : Tok}{y dy : Addr} {z : Int} {tz : Tok} {y2 : Value} {w1 w2 w3 w4 k1 k2 : Tok}
    (B : Below A₀ base outer h₀) (F : Fr h₀ L s.heap m) (X : (Mine.K w.params).In h₀) (N : News h₀ L s.heap ((x, instObj 171 d) :: (d, dictOf [⟨PyData.keyHash w.params (Str.ofString "target"), .str (Str.ofString "target") u1, .int a1 t1⟩, ⟨PyData.keyHash w.params (Str.ofString "source"), .str (Str.ofString "source") u2, .int a2 t2⟩, ⟨PyData.keyHash w.params (Str.ofString "tags"), .str (Str.ofString "tags") u3, .ref G⟩, ⟨PyData.keyHash w.params (Str.ofString "kind"), .str (Str.ofString "kind") u4, kv⟩, ⟨PyData.keyHash w.params (Str.ofString "payload"), .str (Str.ofString "payload") u5, .bytes bb t3⟩] 5) :: (G, tupO #[.ref y, y2] 0) :: (y, instObj 137 dy) :: (dy, dictOf [⟨PyData.keyHash w.params (Str.ofString "kind"), .str (Str.ofString "kind") w1, .int 33024 k1⟩, ⟨PyData.keyHash w.params (Str.ofString "priority"), .str (Str.ofString "priority") w2, .int 3 k2⟩, ⟨PyData.keyHash w.params (Str.ofString "may_drop"), .str (Str.ofString "may_drop") w3, .bool false⟩, ⟨PyData.keyHash w.params (Str.ofString "vlan"), .str (Str.ofString "vlan") w4, .int z tz⟩] 4) :: news)) (T : Top p loose mean mg mb h₀) (hk : cs.kind = .function)
     (hd : dp + 1 < recursionLimit) (hu : un + 8 < cLine)
    (ret : ∀ (tv : Tok) (h' : Heap) (tk' : Nat), Fr h₀ L h' m → News h₀ L h' ((x, instObj 171 d) :: (d, dictOf [⟨PyData.keyHash w.params (Str.ofString "target"), .str (Str.ofString "target") u1, .int a1 t1⟩, ⟨PyData.keyHash w.params (Str.ofString "source"), .str (Str.ofString "source") u2, .int a2 t2⟩, ⟨PyData.keyHash w.params (Str.ofString "tags"), .str (Str.ofString "tags") u3, .ref G⟩, ⟨PyData.keyHash w.params (Str.ofString "kind"), .str (Str.ofString "kind") u4, kv⟩, ⟨PyData.keyHash w.params (Str.ofString "payload"), .str (Str.ofString "payload") u5, .bytes bb t3⟩] 5) :: (G, tupO #[.ref y, y2] 0) :: (y, instObj 137 dy) :: (dy, dictOf [⟨PyData.keyHash w.params (Str.ofString "kind"), .str (Str.ofString "kind") w1, .int 33024 k1⟩, ⟨PyData.keyHash w.params (Str.ofString "priority"), .str (Str.ofString "priority") w2, .int 3 k2⟩, ⟨PyData.keyHash w.params (Str.ofString "may_drop"), .str (Str.ofString "may_drop") w3, .bool false⟩, ⟨PyData.keyHash w.params (Str.ofString "vlan"), .str (Str.ofString "vlan") w4, .int z tz⟩] 4) :: news) → Q (.int z tz) { s with heap := h', toks := tk' }) :
    wpAny (model PySem.Challenge.pw_xm0985_01 w) (ktrTop dp un gd cn cs L a ccd cl outer) (call (.ref 106) [.ref x, .str (Str.ofString "vlan") tw]) Q E s := by
  refine wpAny_call ?_
  k_dflt cell_enter
  k_steps
  exact ret 0 _ _ (by k_asm) (by k_asm)
end
section
theorem wd_15 : True := by
  k_with_none
  k_with "eval Call" => (k_here; k_fold)
  k_with "eval BinOp" => (k_here; k_fold)
  k_with "eval Compare" => (k_here; k_fold)
  k_with "isTrue Compare" => (k_here; k_fold)
  k_with "isTrue Call" => (k_here; k_fold)
  k_with "eval BoolOp" => (k_here; k_fold)
  k_with "isTrue BoolOp" => (k_here; k_fold)
  k_with "isTrue" => (k_here; k_fold)
  k_with "eval Attribute" => (k_here; k_fold)
  k_with "eval Tuple" => (k_here; k_fold)
  k_with "eval List" => (k_here; k_fold)
  k_with "eval Subscript" => (k_here; k_fold)
  k_with "eval IfExp" => (k_here; k_fold)
  k_with "execs cons" => (k_here; with_reducible refine gen_tk ?_; intro tk; (try dsimp only))
  k_with "eval Call" => (k_here; with_reducible refine gen_tk ?_; intro tk; (try dsimp only))
  k_with "setAttr ref" => (k_here; with_reducible refine gen_tk ?_; intro tk; (try dsimp only))
  k_with "newList" => (k_here; with_reducible refine gen_tk ?_; intro tk; (try dsimp only))
  k_with "eval BinOp" => (k_here; with_reducible refine gen_tk ?_; intro tk; (try dsimp only))
  k_with "eval Subscript" => (k_here; with_reducible refine gen_tk ?_; intro tk; (try dsimp only))
  k_with "k_all" => (first | assumption | exact all_ne (by with_reducible assumption) (by (intro q9 hq9; repeat (first | exact hq9 | refine List.Mem.tail _ ?_))))
  k_with "subscriptTail Name Constant ref int" => ((k_here; k_dflt (refine' my_item ?k1 ?k2 ?k3 ?k4 ?k5 ?_ ?k7; (case k1 => k_asm); (case k2 => k_mem); (case k3 => decide); (case k4 => decide); (case k5 => exact rfl); (case k7 => with_unfolding_all rfl); k_whole)))
  k_with "call ref" => ((k_here; (with_reducible show wpAny _ _ (call (Value.ref 386) [Value.ref _, Value.int _ _]) _ _ _); k_dflt (refine' wind_at ?kB ?kF ?kX ?kN ?kT ?kK ?kU ?kx ?ky ?kz ?kt ?ku ?kd ?ke ?_; (case kB => k_asm); (case kF => k_asm); (case kX => k_asm); (case kN => k_asm); (case kT => k_asm); (case kK => first | exact rfl | assumption); (case kU => k_updF); (case kx => assumption); (case ky => assumption); (case kz => assumption); (case kt => omega); (case ku => omega); (case kd => ktr_room); (case ke => ktr_units)); intro d' x' y' td' tx' ty' h' tk' hd0 hd1 hx' hy' hz' F' N'; (try dsimp only at N'); (try dsimp only); (try k_sweep); walk_say "WIND"; (try k_extra "wind")))
  k_with "k_room" => (ktr_room)
  k_with "k_units" => (ktr_units)
  k_with "ktr_rel" => ((intro q9 hq9; repeat (first | exact hq9 | refine List.Mem.tail _ ?_)))
  k_with "binaryOp Pow int int" => ((k_here; (refine' pow_lit ?kb1 ?kb2 ?kb3 ?_); (case kb1 => decide); (case kb2 => decide); (case kb3 => ((simp only [Int.reduceToNat, Int.reducePow]); exact rfl))))
  k_with "CompSrc" => ((k_here; k_dflt (first | (refine LCg.CompSrc.ledger (by rfl) (by k_asm) (by k_asm) (by k_mem) (by first | size_fits | exact Nat.le_of_ble_eq_true rfl) ?_; intro g'; lcg_lit) | (refine LCg.CompSrc.range (by rfl) (by k_asm) (by k_asm) (by assumption) (by first | decide | rfl) (by first | rfl | decide) (by first | size_fits | exact Nat.le_of_ble_eq_true rfl) ?_; intro g'; lcg_lit))))
  k_with "CompRest" => ((with_unfolding_all first | (refine LCg.CompRest.succ ?_; intro v' I' oI' C' oC' D' m' h' tk' E' hv' hC' hx' F' N' off' ne'; (first | lcg_open hv' | (obtain ⟨t9', hv9'⟩ := hv'; subst hv9')); (obtain ⟨ne1', ne2', ne3'⟩ := ne')) | refine LCg.CompRest.zero ?_))
  k_with "CompEnd" => ((first | (refine' compEnd0 ?kF ?kN ?ko ?kS ?_; (case kN => assumption); (case kF => assumption); (case ko => assumption); (case kS => lcg_src)) | (refine' compEnd2 ?kF ?kN ?kx ?kd ?ko ?kS ?_; (case kN => assumption); (case kF => assumption); (case kx => exact ⟨by k_ne, by k_ne, by k_ne⟩); (case kd => exact ⟨by k_ne, by k_ne, by k_ne⟩); (case ko => assumption); (case kS => lcg_src)) | (refine' compEnd1 ?kF ?kN ?kx ?ko ?kS ?_; (case kN => assumption); (case kF => assumption); (case kx => exact ⟨by k_ne, by k_ne, by k_ne⟩); (case ko => assumption); (case kS => lcg_src)) | lcg_end))
  k_with "k_ne" => ((refine neN ?_; (try dsimp only); first | (with_reducible assumption) | exact Ne.symm (by with_reducible assumption) | exact Nat.ne_of_gt (by with_reducible assumption) | exact Nat.ne_of_lt (by with_reducible assumption) | exact neA (by with_reducible assumption) (by k_mem) | exact Ne.symm (neA (by with_reducible assumption) (by k_mem)) | exact neO (by with_reducible assumption) (by k_mem) | exact Ne.symm (neO (by with_reducible assumption) (by k_mem)) | exact neI (by with_reducible assumption) (by k_mem) | exact Ne.symm (neI (by with_reducible assumption) (by k_mem)) | exact neC (by with_reducible assumption) (by k_mem) | exact Ne.symm (neC (by with_reducible assumption) (by k_mem)) | exact neD (by with_reducible assumption) (by k_mem) | exact Ne.symm (neD (by with_reducible assumption) (by k_mem)) | exact neA2 (by with_reducible assumption) (by with_reducible assumption) (by k_mem) | exact Ne.symm (neA2 (by with_reducible assumption) (by with_reducible assumption) (by k_mem)) | omega))
  k_with "FinE" => (((unfold LCg.FinE); intro D' h' tk' F' N' o1'; (try simp only [List.nil_append, List.cons_append] at N'); (try dsimp only)))
  k_with "FinA" => (((unfold LCg.FinA); intro D' h' tk' F' N' o1'; (try simp only [List.nil_append, List.cons_append] at N'); (try dsimp only)))
  trivial
theorem news_pick {h₀ h : Heap} {L : Addr} {pre news : List (Addr × Obj)} (N : News h₀ L h news) (hp : ∀ q ∈ pre, q ∈ news) : News h₀ L h (pre ++ news) := fun q hq => by
  rcases List.mem_append.mp hq with h | h
  · exact N q (hp q h)
  · exact N q h
theorem news_drop {h₀ h : Heap} {L : Addr} {pre news : List (Addr × Obj)} (N : News h₀ L h (pre ++ news)) : News h₀ L h news := fun q hq => N q (List.mem_append_right _ hq)
theorem fw_target_p {w : World} {p : Program} {loose : List Str} {mean : ExcName → Option Value} {mg mb : Str → Option Value}
    {dp un : Nat} {gd : Option (List Code)} {cn : Str} {cs : Scope} {a : Addr} {ccd : Value} {cl : List (Str × Addr)} {outer : List Env} {A₀ : Around} {base h₀ : Heap} {L : Addr} {m : Str → Option Value} {s : Shared} {Q E : Value → Shared → Prop}
    {news : List (Addr × Obj)} {a1 a2 : Int} {t1 t2 t3 tw : Tok} {kv : Value} {bb : Array UInt8} {x d G : Addr} {u1 u2 u3 u4 u5 : Tok}
    (B : Below A₀ base outer h₀) (F : Fr h₀ L s.heap m) (X : (Mine.K w.params).In h₀) (N : News h₀ L s.heap news) (T : Top p loose mean mg mb h₀) (hk : cs.kind = .function)
    (m0 : (x, instObj 171 d) ∈ news) (m1 : (d, dictOf [⟨PyData.keyHash w.params (Str.ofString "target"), .str (Str.ofString "target") u1, .int a1 t1⟩, ⟨PyData.keyHash w.params (Str.ofString "source"), .str (Str.ofString "source") u2, .int a2 t2⟩, ⟨PyData.keyHash w.params (Str.ofString "tags"), .str (Str.ofString "tags") u3, .ref G⟩, ⟨PyData.keyHash w.params (Str.ofString "kind"), .str (Str.ofString "kind") u4, kv⟩, ⟨PyData.keyHash w.params (Str.ofString "payload"), .str (Str.ofString "payload") u5, .bytes bb t3⟩] 5) ∈ news) (hd : dp + 1 < recursionLimit) (hu : un + 8 < cLine)
    (ret : ∀ (tv : Tok) (h' : Heap) (tk' : Nat), Fr h₀ L h' m → News h₀ L h' news → Q (.int a1 t1) { s with heap := h', toks := tk' }) :
    wpAny (model PySem.Challenge.pw_xm0985_01 w) (ktrTop dp un gd cn cs L a ccd cl outer) (call (.ref 106) [.ref x, .str (Str.ofString "target") tw]) Q E s := by
  exact fw_target B F X (news_pick (pre := [(x, instObj 171 d), (d, dictOf [⟨PyData.keyHash w.params (Str.ofString "target"), .str (Str.ofString "target") u1, .int a1 t1⟩, ⟨PyData.keyHash w.params (Str.ofString "source"), .str (Str.ofString "source") u2, .int a2 t2⟩, ⟨PyData.keyHash w.params (Str.ofString "tags"), .str (Str.ofString "tags") u3, .ref G⟩, ⟨PyData.keyHash w.params (Str.ofString "kind"), .str (Str.ofString "kind") u4, kv⟩, ⟨PyData.keyHash w.params (Str.ofString "payload"), .str (Str.ofString "payload") u5, .bytes bb t3⟩] 5)]) N (fun q hq => by (simp only [List.mem_cons, List.not_mem_nil, or_false] at hq; rcases hq with rfl | rfl <;> assumption))) T hk hd hu fun tv h' tk' F' N' => ret tv h' tk' F' (news_drop (pre := [(x, instObj 171 d), (d, dictOf [⟨PyData.keyHash w.params (Str.ofString "target"), .str (Str.ofString "target") u1, .int a1 t1⟩, ⟨PyData.keyHash w.params (Str.ofString "source"), .str (Str.ofString "source") u2, .int a2 t2⟩, ⟨PyData.keyHash w.params (Str.ofString "tags"), .str (Str.ofString "tags") u3, .ref G⟩, ⟨PyData.keyHash w.params (Str.ofString "kind"), .str (Str.ofString "kind") u4, kv⟩, ⟨PyData.keyHash w.params (Str.ofString "payload"), .str (Str.ofString "payload") u5, .bytes bb t3⟩] 5)]) N')
theorem fw_source_p {w : World} {p : Program} {loose : List Str} {mean : ExcName → Option Value} {mg mb : Str → Option Value}
    {dp un : Nat} {gd : Option (List Code)} {cn : Str} {cs : Scope} {a : Addr} {ccd : Value} {cl : List (Str × Addr)} {outer : List Env} {A₀ : Around} {base h₀ : Heap} {L : Addr} {m : Str → Option Value} {s : Shared} {Q E : Value → Shared → Prop}
    {news : List (Addr × Obj)} {a1 a2 : Int} {t1 t2 t3 tw : Tok} {kv : Value} {bb : Array UInt8} {x d G : Addr} {u1 u2 u3 u4 u5 : Tok}
    (B : Below A₀ base outer h₀) (F : Fr h₀ L s.heap m) (X : (Mine.K w.params).In h₀) (N : News h₀ L s.heap news) (T : Top p loose mean mg mb h₀) (hk : cs.kind = .function)
    (m0 : (x, instObj 171 d) ∈ news) (m1 : (d, dictOf [⟨PyData.keyHash w.params (Str.ofString "target"), .str (Str.ofString "target") u1, .int a1 t1⟩, ⟨PyData.keyHash w.params (Str.ofString "source"), .str (Str.ofString "source") u2, .int a2 t2⟩, ⟨PyData.keyHash w.params (Str.ofString "tags"), .str (Str.ofString "tags") u3, .ref G⟩, ⟨PyData.keyHash w.params (Str.ofString "kind"), .str (Str.ofString "kind") u4, kv⟩, ⟨PyData.keyHash w.params (Str.ofString "payload"), .str (Str.ofString "payload") u5, .bytes bb t3⟩] 5) ∈ news) (hd : dp + 1 < recursionLimit) (hu : un + 8 < cLine)
    (ret : ∀ (tv : Tok) (h' : Heap) (tk' : Nat), Fr h₀ L h' m → News h₀ L h' news → Q (.int a2 t2) { s with heap := h', toks := tk' }) :
    wpAny (model PySem.Challenge.pw_xm0985_01 w) (ktrTop dp un gd cn cs L a ccd cl outer) (call (.ref 106) [.ref x, .str (Str.ofString "source") tw]) Q E s := by
  exact fw_source B F X (news_pick (pre := [(x, instObj 171 d), (d, dictOf [⟨PyData.keyHash w.params (Str.ofString "target"), .str (Str.ofString "target") u1, .int a1 t1⟩, ⟨PyData.keyHash w.params (Str.ofString "source"), .str (Str.ofString "source") u2, .int a2 t2⟩, ⟨PyData.keyHash w.params (Str.ofString "tags"), .str (Str.ofString "tags") u3, .ref G⟩, ⟨PyData.keyHash w.params (Str.ofString "kind"), .str (Str.ofString "kind") u4, kv⟩, ⟨PyData.keyHash w.params (Str.ofString "payload"), .str (Str.ofString "payload") u5, .bytes bb t3⟩] 5)]) N (fun q hq => by (simp only [List.mem_cons, List.not_mem_nil, or_false] at hq; rcases hq with rfl | rfl <;> assumption))) T hk hd hu fun tv h' tk' F' N' => ret tv h' tk' F' (news_drop (pre := [(x, instObj 171 d), (d, dictOf [⟨PyData.keyHash w.params (Str.ofString "target"), .str (Str.ofString "target") u1, .int a1 t1⟩, ⟨PyData.keyHash w.params (Str.ofString "source"), .str (Str.ofString "source") u2, .int a2 t2⟩, ⟨PyData.keyHash w.params (Str.ofString "tags"), .str (Str.ofString "tags") u3, .ref G⟩, ⟨PyData.keyHash w.params (Str.ofString "kind"), .str (Str.ofString "kind") u4, kv⟩, ⟨PyData.keyHash w.params (Str.ofString "payload"), .str (Str.ofString "payload") u5, .bytes bb t3⟩] 5)]) N')
theorem fw_kind_p {w : World} {p : Program} {loose : List Str} {mean : ExcName → Option Value} {mg mb : Str → Option Value}
    {dp un : Nat} {gd : Option (List Code)} {cn : Str} {cs : Scope} {a : Addr} {ccd : Value} {cl : List (Str × Addr)} {outer : List Env} {A₀ : Around} {base h₀ : Heap} {L : Addr} {m : Str → Option Value} {s : Shared} {Q E : Value → Shared → Prop}
    {news : List (Addr × Obj)} {a1 a2 : Int} {t1 t2 t3 tw : Tok} {kv : Value} {bb : Array UInt8} {x d G : Addr} {u1 u2 u3 u4 u5 : Tok}{z : Int}
    (B : Below A₀ base outer h₀) (F : Fr h₀ L s.heap m) (X : (Mine.K w.params).In h₀) (N : News h₀ L s.heap news) (T : Top p loose mean mg mb h₀) (hk : cs.kind = .function)
    (hz : KN kv z) (m0 : (x, instObj 171 d) ∈ news) (m1 : (d, dictOf [⟨PyData.keyHash w.params (Str.ofString "target"), .str (Str.ofString "target") u1, .int a1 t1⟩, ⟨PyData.keyHash w.params (Str.ofString "source"), .str (Str.ofString "source") u2, .int a2 t2⟩, ⟨PyData.keyHash w.params (Str.ofString "tags"), .str (Str.ofString "tags") u3, .ref G⟩, ⟨PyData.keyHash w.params (Str.ofString "kind"), .str (Str.ofString "kind") u4, kv⟩, ⟨PyData.keyHash w.params (Str.ofString "payload"), .str (Str.ofString "payload") u5, .bytes bb t3⟩] 5) ∈ news) (hd : dp + 1 < recursionLimit) (hu : un + 8 < cLine)
    (ret : ∀ (tv : Tok) (h' : Heap) (tk' : Nat), Fr h₀ L h' m → News h₀ L h' news → Q (.int z tv) { s with heap := h', toks := tk' }) :
    wpAny (model PySem.Challenge.pw_xm0985_01 w) (ktrTop dp un gd cn cs L a ccd cl outer) (call (.ref 106) [.ref x, .str (Str.ofString "kind") tw]) Q E s := by
  obtain ⟨rfl, rfl⟩ | ⟨tz, rfl⟩ := hz
  · exact fw_kind0 (kv := .none) B F X (news_pick (pre := [(x, instObj 171 d), (d, dictOf [⟨PyData.keyHash w.params (Str.ofString "target"), .str (Str.ofString "target") u1, .int a1 t1⟩, ⟨PyData.keyHash w.params (Str.ofString "source"), .str (Str.ofString "source") u2, .int a2 t2⟩, ⟨PyData.keyHash w.params (Str.ofString "tags"), .str (Str.ofString "tags") u3, .ref G⟩, ⟨PyData.keyHash w.params (Str.ofString "kind"), .str (Str.ofString "kind") u4, .none⟩, ⟨PyData.keyHash w.params (Str.ofString "payload"), .str (Str.ofString "payload") u5, .bytes bb t3⟩] 5)]) N (fun q hq => by (simp only [List.mem_cons, List.not_mem_nil, or_false] at hq; rcases hq with rfl | rfl <;> assumption))) T hk hd hu fun tv h' tk' F' N' => ret tv h' tk' F' (news_drop (pre := [(x, instObj 171 d), (d, dictOf [⟨PyData.keyHash w.params (Str.ofString "target"), .str (Str.ofString "target") u1, .int a1 t1⟩, ⟨PyData.keyHash w.params (Str.ofString "source"), .str (Str.ofString "source") u2, .int a2 t2⟩, ⟨PyData.keyHash w.params (Str.ofString "tags"), .str (Str.ofString "tags") u3, .ref G⟩, ⟨PyData.keyHash w.params (Str.ofString "kind"), .str (Str.ofString "kind") u4, .none⟩, ⟨PyData.keyHash w.params (Str.ofString "payload"), .str (Str.ofString "payload") u5, .bytes bb t3⟩] 5)]) N')
  · exact fw_kind1 (kv := .none) B F X (news_pick (pre := [(x, instObj 171 d), (d, dictOf [⟨PyData.keyHash w.params (Str.ofString "target"), .str (Str.ofString "target") u1, .int a1 t1⟩, ⟨PyData.keyHash w.params (Str.ofString "source"), .str (Str.ofString "source") u2, .int a2 t2⟩, ⟨PyData.keyHash w.params (Str.ofString "tags"), .str (Str.ofString "tags") u3, .ref G⟩, ⟨PyData.keyHash w.params (Str.ofString "kind"), .str (Str.ofString "kind") u4, .int z tz⟩, ⟨PyData.keyHash w.params (Str.ofString "payload"), .str (Str.ofString "payload") u5, .bytes bb t3⟩] 5)]) N (fun q hq => by (simp only [List.mem_cons, List.not_mem_nil, or_false] at hq; rcases hq with rfl | rfl <;> assumption))) T hk hd hu fun tv h' tk' F' N' => ret tz h' tk' F' (news_drop (pre := [(x, instObj 171 d), (d, dictOf [⟨PyData.keyHash w.params (Str.ofString "target"), .str (Str.ofString "target") u1, .int a1 t1⟩, ⟨PyData.keyHash w.params (Str.ofString "source"), .str (Str.ofString "source") u2, .int a2 t2⟩, ⟨PyData.keyHash w.params (Str.ofString "tags"), .str (Str.ofString "tags") u3, .ref G⟩, ⟨PyData.keyHash w.params (Str.ofString "kind"), .str (Str.ofString "kind") u4, .int z tz⟩, ⟨PyData.keyHash w.params (Str.ofString "payload"), .str (Str.ofString "payload") u5, .bytes bb t3⟩] 5)]) N')
theorem fw_vlan0_p {w : World} {p : Program} {loose : List Str} {mean : ExcName → Option Value} {mg mb : Str → Option Value}
    {dp un : Nat} {gd : Option (List Code)} {cn : Str} {cs : Scope} {a : Addr} {ccd : Value} {cl : List (Str × Addr)} {outer : List Env} {A₀ : Around} {base h₀ : Heap} {L : Addr} {m : Str → Option Value} {s : Shared} {Q E : Value → Shared → Prop}
    {news : List (Addr × Obj)} {a1 a2 : Int} {t1 t2 t3 tw : Tok} {kv : Value} {bb : Array UInt8} {x d G : Addr} {u1 u2 u3 u4 u5 : Tok}
    (B : Below A₀ base outer h₀) (F : Fr h₀ L s.heap m) (X : (Mine.K w.params).In h₀) (N : News h₀ L s.heap news) (T : Top p loose mean mg mb h₀) (hk : cs.kind = .function)
    (m0 : (x, instObj 171 d) ∈ news) (m1 : (d, dictOf [⟨PyData.keyHash w.params (Str.ofString "target"), .str (Str.ofString "target") u1, .int a1 t1⟩, ⟨PyData.keyHash w.params (Str.ofString "source"), .str (Str.ofString "source") u2, .int a2 t2⟩, ⟨PyData.keyHash w.params (Str.ofString "tags"), .str (Str.ofString "tags") u3, .ref G⟩, ⟨PyData.keyHash w.params (Str.ofString "kind"), .str (Str.ofString "kind") u4, kv⟩, ⟨PyData.keyHash w.params (Str.ofString "payload"), .str (Str.ofString "payload") u5, .bytes bb t3⟩] 5) ∈ news) (m2 : (G, tupO #[] 0) ∈ news) (hd : dp + 1 < recursionLimit) (hu : un + 8 < cLine)
    (ret : ∀ (tv : Tok) (h' : Heap) (tk' : Nat), Fr h₀ L h' m → News h₀ L h' news → Q (.int 0 tv) { s with heap := h', toks := tk' }) :
    wpAny (model PySem.Challenge.pw_xm0985_01 w) (ktrTop dp un gd cn cs L a ccd cl outer) (call (.ref 106) [.ref x, .str (Str.ofString "vlan") tw]) Q E s := by
  exact fw_vlan0 B F X (news_pick (pre := [(x, instObj 171 d), (d, dictOf [⟨PyData.keyHash w.params (Str.ofString "target"), .str (Str.ofString "target") u1, .int a1 t1⟩, ⟨PyData.keyHash w.params (Str.ofString "source"), .str (Str.ofString "source") u2, .int a2 t2⟩, ⟨PyData.keyHash w.params (Str.ofString "tags"), .str (Str.ofString "tags") u3, .ref G⟩, ⟨PyData.keyHash w.params (Str.ofString "kind"), .str (Str.ofString "kind") u4, kv⟩, ⟨PyData.keyHash w.params (Str.ofString "payload"), .str (Str.ofString "payload") u5, .bytes bb t3⟩] 5), (G, tupO #[] 0)]) N (fun q hq => by (simp only [List.mem_cons, List.not_mem_nil, or_false] at hq; rcases hq with rfl | rfl | rfl <;> assumption))) T hk hd hu fun tv h' tk' F' N' => ret tv h' tk' F' (news_drop (pre := [(x, instObj 171 d), (d, dictOf [⟨PyData.keyHash w.params (Str.ofString "target"), .str (Str.ofString "target") u1, .int a1 t1⟩, ⟨PyData.keyHash w.params (Str.ofString "source"), .str (Str.ofString "source") u2, .int a2 t2⟩, ⟨PyData.keyHash w.params (Str.ofString "tags"), .str (Str.ofString "tags") u3, .ref G⟩, ⟨PyData.keyHash w.params (Str.ofString "kind"), .str (Str.ofString "kind") u4, kv⟩, ⟨PyData.keyHash w.params (Str.ofString "payload"), .str (Str.ofString "payload") u5, .bytes bb t3⟩] 5), (G, tupO #[] 0)]) N')
theorem fw_vlan1_p {w : World} {p : Program} {loose : List Str} {mean : ExcName → Option Value} {mg mb : Str → Option Value}
    {dp un : Nat} {gd : Option (List Code)} {cn : Str} {cs : Scope} {a : Addr} {ccd : Value} {cl : List (Str × Addr)} {outer : List Env} {A₀ : Around} {base h₀ : Heap} {L : Addr} {m : Str → Option Value} {s : Shared} {Q E : Value → Shared → Prop}
    {news : List (Addr × Obj)} {a1 a2 : Int} {t1 t2 t3 tw : Tok} {kv : Value} {bb : Array UInt8} {x d G : Addr} {u1 u2 u3 u4 u5 : Tok}{y dy : Addr} {z : Int} {tz : Tok} {w1 w2 w3 w4 k1 k2 : Tok}
    (B : Below A₀ base outer h₀) (F : Fr h₀ L s.heap m) (X : (Mine.K w.params).In h₀) (N : News h₀ L s.heap news) (T : Top p loose mean mg mb h₀) (hk : cs.kind = .function)
    (m0 : (x, instObj 171 d) ∈ news) (m1 : (d, dictOf [⟨PyData.keyHash w.params (Str.ofString "target"), .str (Str.ofString "target") u1, .int a1 t1⟩, ⟨PyData.keyHash w.params (Str.ofString "source"), .str (Str.ofString "source") u2, .int a2 t2⟩, ⟨PyData.keyHash w.params (Str.ofString "tags"), .str (Str.ofString "tags") u3, .ref G⟩, ⟨PyData.keyHash w.params (Str.ofString "kind"), .str (Str.ofString "kind") u4, kv⟩, ⟨PyData.keyHash w.params (Str.ofString "payload"), .str (Str.ofString "payload") u5, .bytes bb t3⟩] 5) ∈ news) (m2 : (G, tupO #[.ref y] 0) ∈ news) (m3 : (y, instObj 137 dy) ∈ news) (m4 : (dy, dictOf [⟨PyData.keyHash w.params (Str.ofString "kind"), .str (Str.ofString "kind") w1, .int 33024 k1⟩, ⟨PyData.keyHash w.params (Str.ofString "priority"), .str (Str.ofString "priority") w2, .int 3 k2⟩, ⟨PyData.keyHash w.params (Str.ofString "may_drop"), .str (Str.ofString "may_drop") w3, .bool false⟩, ⟨PyData.keyHash w.params (Str.ofString "vlan"), .str (Str.ofString "vlan") w4, .int z tz⟩] 4) ∈ news) (hd : dp + 1 < recursionLimit) (hu : un + 8 < cLine)
    (ret : ∀ (tv : Tok) (h' : Heap) (tk' : Nat), Fr h₀ L h' m → News h₀ L h' news → Q (.int z tz) { s with heap := h', toks := tk' }) :
    wpAny (model PySem.Challenge.pw_xm0985_01 w) (ktrTop dp un gd cn cs L a ccd cl outer) (call (.ref 106) [.ref x, .str (Str.ofString "vlan") tw]) Q E s := by
  exact fw_vlan1 B F X (news_pick (pre := [(x, instObj 171 d), (d, dictOf [⟨PyData.keyHash w.params (Str.ofString "target"), .str (Str.ofString "target") u1, .int a1 t1⟩, ⟨PyData.keyHash w.params (Str.ofString "source"), .str (Str.ofString "source") u2, .int a2 t2⟩, ⟨PyData.keyHash w.params (Str.ofString "tags"), .str (Str.ofString "tags") u3, .ref G⟩, ⟨PyData.keyHash w.params (Str.ofString "kind"), .str (Str.ofString "kind") u4, kv⟩, ⟨PyData.keyHash w.params (Str.ofString "payload"), .str (Str.ofString "payload") u5, .bytes bb t3⟩] 5), (G, tupO #[.ref y] 0), (y, instObj 137 dy), (dy, dictOf [⟨PyData.keyHash w.params (Str.ofString "kind"), .str (Str.ofString "kind") w1, .int 33024 k1⟩, ⟨PyData.keyHash w.params (Str.ofString "priority"), .str (Str.ofString "priority") w2, .int 3 k2⟩, ⟨PyData.keyHash w.params (Str.ofString "may_drop"), .str (Str.ofString "may_drop") w3, .bool false⟩, ⟨PyData.keyHash w.params (Str.ofString "vlan"), .str (Str.ofString "vlan") w4, .int z tz⟩] 4)]) N (fun q hq => by (simp only [List.mem_cons, List.not_mem_nil, or_false] at hq; rcases hq with rfl | rfl | rfl | rfl | rfl <;> assumption))) T hk hd hu fun tv h' tk' F' N' => ret tv h' tk' F' (news_drop (pre := [(x, instObj 171 d), (d, dictOf [⟨PyData.keyHash w.params (Str.ofString "target"), .str (Str.ofString "target") u1, .int a1 t1⟩, ⟨PyData.keyHash w.params (Str.ofString "source"), .str (Str.ofString "source") u2, .int a2 t2⟩, ⟨PyData.keyHash w.params (Str.ofString "tags"), .str (Str.ofString "tags") u3, .ref G⟩, ⟨PyData.keyHash w.params (Str.ofString "kind"), .str (Str.ofString "kind") u4, kv⟩, ⟨PyData.keyHash w.params (Str.ofString "payload"), .str (Str.ofString "payload") u5, .bytes bb t3⟩] 5), (G, tupO #[.ref y] 0), (y, instObj 137 dy), (dy, dictOf [⟨PyData.keyHash w.params (Str.ofString "kind"), .str (Str.ofString "kind") w1, .int 33024 k1⟩, ⟨PyData.keyHash w.params (Str.ofString "priority"), .str (Str.ofString "priority") w2, .int 3 k2⟩, ⟨PyData.keyHash w.params (Str.ofString "may_drop"), .str (Str.ofString "may_drop") w3, .bool false⟩, ⟨PyData.keyHash w.params (Str.ofString "vlan"), .str (Str.ofString "vlan") w4, .int z tz⟩] 4)]) N')
theorem fw_vlan2_p {w : World} {p : Program} {loose : List Str} {mean : ExcName → Option Value} {mg mb : Str → Option Value}
    {dp un : Nat} {gd : Option (List Code)} {cn : Str} {cs : Scope} {a : Addr} {ccd : Value} {cl : List (Str × Addr)} {outer : List Env} {A₀ : Around} {base h₀ : Heap} {L : Addr} {m : Str → Option Value} {s : Shared} {Q E : Value → Shared → Prop}
    {news : List (Addr × Obj)} {a1 a2 : Int} {t1 t2 t3 tw : Tok} {kv : Value} {bb : Array UInt8} {x d G : Addr} {u1 u2 u3 u4 u5 : Tok}{y dy : Addr} {z : Int} {tz : Tok} {y2 : Value} {w1 w2 w3 w4 k1 k2 : Tok}
    (B : Below A₀ base outer h₀) (F : Fr h₀ L s.heap m) (X : (Mine.K w.params).In h₀) (N : News h₀ L s.heap news) (T : Top p loose mean mg mb h₀) (hk : cs.kind = .function)
    (m0 : (x, instObj 171 d) ∈ news) (m1 : (d, dictOf [⟨PyData.keyHash w.params (Str.ofString "target"), .str (Str.ofString "target") u1, .int a1 t1⟩, ⟨PyData.keyHash w.params (Str.ofString "source"), .str (Str.ofString "source") u2, .int a2 t2⟩, ⟨PyData.keyHash w.params (Str.ofString "tags"), .str (Str.ofString "tags") u3, .ref G⟩, ⟨PyData.keyHash w.params (Str.ofString "kind"), .str (Str.ofString "kind") u4, kv⟩, ⟨PyData.keyHash w.params (Str.ofString "payload"), .str (Str.ofString "payload") u5, .bytes bb t3⟩] 5) ∈ news) (m2 : (G, tupO #[.ref y, y2] 0) ∈ news) (m3 : (y, instObj 137 dy) ∈ news) (m4 : (dy, dictOf [⟨PyData.keyHash w.params (Str.ofString "kind"), .str (Str.ofString "kind") w1, .int 33024 k1⟩, ⟨PyData.keyHash w.params (Str.ofString "priority"), .str (Str.ofString "priority") w2, .int 3 k2⟩, ⟨PyData.keyHash w.params (Str.ofString "may_drop"), .str (Str.ofString "may_drop") w3, .bool false⟩, ⟨PyData.keyHash w.params (Str.ofString "vlan"), .str (Str.ofString "vlan") w4, .int z tz⟩] 4) ∈ news) (hd : dp + 1 < recursionLimit) (hu : un + 8 < cLine)
    (ret : ∀ (tv : Tok) (h' : Heap) (tk' : Nat), Fr h₀ L h' m → News h₀ L h' news → Q (.int z tz) { s with heap := h', toks := tk' }) :
    wpAny (model PySem.Challenge.pw_xm0985_01 w) (ktrTop dp un gd cn cs L a ccd cl outer) (call (.ref 106) [.ref x, .str (Str.ofString "vlan") tw]) Q E s := by
  exact fw_vlan2 B F X (news_pick (pre := [(x, instObj 171 d), (d, dictOf [⟨PyData.keyHash w.params (Str.ofString "target"), .str (Str.ofString "target") u1, .int a1 t1⟩, ⟨PyData.keyHash w.params (Str.ofString "source"), .str (Str.ofString "source") u2, .int a2 t2⟩, ⟨PyData.keyHash w.params (Str.ofString "tags"), .str (Str.ofString "tags") u3, .ref G⟩, ⟨PyData.keyHash w.params (Str.ofString "kind"), .str (Str.ofString "kind") u4, kv⟩, ⟨PyData.keyHash w.params (Str.ofString "payload"), .str (Str.ofString "payload") u5, .bytes bb t3⟩] 5), (G, tupO #[.ref y, y2] 0), (y, instObj 137 dy), (dy, dictOf [⟨PyData.keyHash w.params (Str.ofString "kind"), .str (Str.ofString "kind") w1, .int 33024 k1⟩, ⟨PyData.keyHash w.params (Str.ofString "priority"), .str (Str.ofString "priority") w2, .int 3 k2⟩, ⟨PyData.keyHash w.params (Str.ofString "may_drop"), .str (Str.ofString "may_drop") w3, .bool false⟩, ⟨PyData.keyHash w.params (Str.ofString "vlan"), .str (Str.ofString "vlan") w4, .int z tz⟩] 4)]) N (fun q hq => by (simp only [List.mem_cons, List.not_mem_nil, or_false] at hq; rcases hq with rfl | rfl | rfl | rfl | rfl <;> assumption))) T hk hd hu fun tv h' tk' F' N' => ret tv h' tk' F' (news_drop (pre := [(x, instObj 171 d), (d, dictOf [⟨PyData.keyHash w.params (Str.ofString "target"), .str (Str.ofString "target") u1, .int a1 t1⟩, ⟨PyData.keyHash w.params (Str.ofString "source"), .str (Str.ofString "source") u2, .int a2 t2⟩, ⟨PyData.keyHash w.params (Str.ofString "tags"), .str (Str.ofString "tags") u3, .ref G⟩, ⟨PyData.keyHash w.params (Str.ofString "kind"), .str (Str.ofString "kind") u4, kv⟩, ⟨PyData.keyHash w.params (Str.ofString "payload"), .str (Str.ofString "payload") u5, .bytes bb t3⟩] 5), (G, tupO #[.ref y, y2] 0), (y, instObj 137 dy), (dy, dictOf [⟨PyData.keyHash w.params (Str.ofString "kind"), .str (Str.ofString "kind") w1, .int 33024 k1⟩, ⟨PyData.keyHash w.params (Str.ofString "priority"), .str (Str.ofString "priority") w2, .int 3 k2⟩, ⟨PyData.keyHash w.params (Str.ofString "may_drop"), .str (Str.ofString "may_drop") w3, .bool false⟩, ⟨PyData.keyHash w.params (Str.ofString "vlan"), .str (Str.ofString "vlan") w4, .int z tz⟩] 4)]) N')
theorem if_kind {w : World} {A : Around} {h₀ : Heap} {L : Addr} {m : Str → Option Value} {s : Shared} {Q E : Value → Shared → Prop} {kv : Value} {z : Int} {n1 n2 : Nat} {p1 p2 p3 p4 p5 p6 : Pos} (F : Fr h₀ L s.heap (fun y => if y = Str.ofString "kind" then some kv else m y)) (hz : KN kv z) (h : ∀ t tk', Q (.int z t) { s with toks := tk' }) :
    wpAny (model PySem.Challenge.pw_xm0985_01 w) A (eval (.IfExp (.Compare (.Name (Str.ofString "kind") p1) [.IsNot] [.Constant .none n1 p2] p3) (.Name (Str.ofString "kind") p4) (.Constant (.int 0) n2 p5) p6) (envOfC (Str.ofString "_law_fields_right") (fS (tp 40)) L 398 (.ref 397))) Q E s := by
  obtain ⟨rfl, rfl⟩ | ⟨tz, rfl⟩ := hz
  all_goals k_steps
  all_goals exact h _ _
end
section
theorem wd_16 : True := by
  k_with_none
  k_with "eval Call" => (k_here; k_fold)
  k_with "eval BinOp" => (k_here; k_fold)
  k_with "eval Compare" => (k_here; k_fold)
  k_with "isTrue Compare" => (k_here; k_fold)
  k_with "isTrue Call" => (k_here; k_fold)
  k_with "eval BoolOp" => (k_here; k_fold)
  k_with "isTrue BoolOp" => (k_here; k_fold)
  k_with "isTrue" => (k_here; k_fold)
  k_with "eval Attribute" => (k_here; k_fold)
  k_with "eval Tuple" => (k_here; k_fold)
  k_with "eval List" => (k_here; k_fold)
  k_with "eval Subscript" => (k_here; k_fold)
  k_with "eval IfExp" => (k_here; k_fold)
  k_with "execs cons" => (k_here; with_reducible refine gen_tk ?_; intro tk; (try dsimp only))
  k_with "eval Call" => (k_here; with_reducible refine gen_tk ?_; intro tk; (try dsimp only))
  k_with "setAttr ref" => (k_here; with_reducible refine gen_tk ?_; intro tk; (try dsimp only))
  k_with "newList" => (k_here; with_reducible refine gen_tk ?_; intro tk; (try dsimp only))
  k_with "eval BinOp" => (k_here; with_reducible refine gen_tk ?_; intro tk; (try dsimp only))
  k_with "eval Subscript" => (k_here; with_reducible refine gen_tk ?_; intro tk; (try dsimp only))
  k_with "k_all" => (first | assumption | exact all_ne (by with_reducible assumption) (by (intro q9 hq9; repeat (first | exact hq9 | refine List.Mem.tail _ ?_))))
  k_with "subscriptTail Name Constant ref int" => ((k_here; k_dflt (refine' my_item ?k1 ?k2 ?k3 ?k4 ?k5 ?_ ?k7; (case k1 => k_asm); (case k2 => k_mem); (case k3 => decide); (case k4 => decide); (case k5 => exact rfl); (case k7 => with_unfolding_all rfl); k_whole)))
  k_with "call ref" => ((k_here; (with_reducible show wpAny _ _ (call (Value.ref 386) [Value.ref _, Value.int _ _]) _ _ _); k_dflt (refine' wind_at ?kB ?kF ?kX ?kN ?kT ?kK ?kU ?kx ?ky ?kz ?kt ?ku ?kd ?ke ?_; (case kB => k_asm); (case kF => k_asm); (case kX => k_asm); (case kN => k_asm); (case kT => k_asm); (case kK => first | exact rfl | assumption); (case kU => k_updF); (case kx => assumption); (case ky => assumption); (case kz => assumption); (case kt => omega); (case ku => omega); (case kd => ktr_room); (case ke => ktr_units)); intro d' x' y' td' tx' ty' h' tk' hd0 hd1 hx' hy' hz' F' N'; (try dsimp only at N'); (try dsimp only); (try k_sweep); walk_say "WIND"; (try k_extra "wind")))
  k_with "k_room" => (ktr_room)
  k_with "k_units" => (ktr_units)
  k_with "ktr_rel" => ((intro q9 hq9; repeat (first | exact hq9 | refine List.Mem.tail _ ?_)))
  k_with "binaryOp Pow int int" => ((k_here; (refine' pow_lit ?kb1 ?kb2 ?kb3 ?_); (case kb1 => decide); (case kb2 => decide); (case kb3 => ((simp only [Int.reduceToNat, Int.reducePow]); exact rfl))))
  k_with "CompSrc" => ((k_here; k_dflt (first | (refine LCg.CompSrc.ledger (by rfl) (by k_asm) (by k_asm) (by k_mem) (by first | size_fits | exact Nat.le_of_ble_eq_true rfl) ?_; intro g'; lcg_lit) | (refine LCg.CompSrc.range (by rfl) (by k_asm) (by k_asm) (by assumption) (by first | decide | rfl) (by first | rfl | decide) (by first | size_fits | exact Nat.le_of_ble_eq_true rfl) ?_; intro g'; lcg_lit))))
  k_with "CompRest" => ((with_unfolding_all first | (refine LCg.CompRest.succ ?_; intro v' I' oI' C' oC' D' m' h' tk' E' hv' hC' hx' F' N' off' ne'; (first | lcg_open hv' | (obtain ⟨t9', hv9'⟩ := hv'; subst hv9')); (obtain ⟨ne1', ne2', ne3'⟩ := ne')) | refine LCg.CompRest.zero ?_))
  k_with "CompEnd" => ((first | (refine' compEnd0 ?kF ?kN ?ko ?kS ?_; (case kN => assumption); (case kF => assumption); (case ko => assumption); (case kS => lcg_src)) | (refine' compEnd2 ?kF ?kN ?kx ?kd ?ko ?kS ?_; (case kN => assumption); (case kF => assumption); (case kx => exact ⟨by k_ne, by k_ne, by k_ne⟩); (case kd => exact ⟨by k_ne, by k_ne, by k_ne⟩); (case ko => assumption); (case kS => lcg_src)) | (refine' compEnd1 ?kF ?kN ?kx ?ko ?kS ?_; (case kN => assumption); (case kF => assumption); (case kx => exact ⟨by k_ne, by k_ne, by k_ne⟩); (case ko => assumption); (case kS => lcg_src)) | lcg_end))
  k_with "k_ne" => ((refine neN ?_; (try dsimp only); first | (with_reducible assumption) | exact Ne.symm (by with_reducible assumption) | exact Nat.ne_of_gt (by with_reducible assumption) | exact Nat.ne_of_lt (by with_reducible assumption) | exact neA (by with_reducible assumption) (by k_mem) | exact Ne.symm (neA (by with_reducible assumption) (by k_mem)) | exact neO (by with_reducible assumption) (by k_mem) | exact Ne.symm (neO (by with_reducible assumption) (by k_mem)) | exact neI (by with_reducible assumption) (by k_mem) | exact Ne.symm (neI (by with_reducible assumption) (by k_mem)) | exact neC (by with_reducible assumption) (by k_mem) | exact Ne.symm (neC (by with_reducible assumption) (by k_mem)) | exact neD (by with_reducible assumption) (by k_mem) | exact Ne.symm (neD (by with_reducible assumption) (by k_mem)) | exact neA2 (by with_reducible assumption) (by with_reducible assumption) (by k_mem) | exact Ne.symm (neA2 (by with_reducible assumption) (by with_reducible assumption) (by k_mem)) | omega))
  k_with "FinE" => (((unfold LCg.FinE); intro D' h' tk' F' N' o1'; (try simp only [List.nil_append, List.cons_append] at N'); (try dsimp only)))
  k_with "FinA" => (((unfold LCg.FinA); intro D' h' tk' F' N' o1'; (try simp only [List.nil_append, List.cons_append] at N'); (try dsimp only)))
  trivial
theorem news_sub {h₀ h : Heap} {L : Addr} {big small : List (Addr × Obj)} (N : News h₀ L h big) (k : ∀ q ∈ small, q ∈ big) : News h₀ L h small := fun q hq => N q (k q hq)
noncomputable def bodyF : FuncBody → List Stmt | .stmts b => b | _ => []
noncomputable def fRest : List Stmt := (bodyF (fB (tp 40))).drop 4
inductive VL (w : World) (TS : List (Addr × Obj)) (vv ts : List Value) (z : Int) : Prop
  | zero (e1 : vv = []) (e2 : ts = []) (e3 : z = 0)
  | one (y dy : Addr) (t tz w1 w2 w3 w4 k1 k2 : Tok) (e1 : vv = [.int z t]) (e2 : ts = [.ref y]) (m1 : (y, instObj 137 dy) ∈ TS) (m2 : (dy, dictOf [⟨PyData.keyHash w.params (Str.ofString "kind"), .str (Str.ofString "kind") w1, .int 33024 k1⟩, ⟨PyData.keyHash w.params (Str.ofString "priority"), .str (Str.ofString "priority") w2, .int 3 k2⟩, ⟨PyData.keyHash w.params (Str.ofString "may_drop"), .str (Str.ofString "may_drop") w3, .bool false⟩, ⟨PyData.keyHash w.params (Str.ofString "vlan"), .str (Str.ofString "vlan") w4, .int z tz⟩] 4) ∈ TS)
  | two (y dy : Addr) (v2 y2 : Value) (t tz w1 w2 w3 w4 k1 k2 : Tok) (e1 : vv = [.int z t, v2]) (e2 : ts = [.ref y, y2]) (m1 : (y, instObj 137 dy) ∈ TS) (m2 : (dy, dictOf [⟨PyData.keyHash w.params (Str.ofString "kind"), .str (Str.ofString "kind") w1, .int 33024 k1⟩, ⟨PyData.keyHash w.params (Str.ofString "priority"), .str (Str.ofString "priority") w2, .int 3 k2⟩, ⟨PyData.keyHash w.params (Str.ofString "may_drop"), .str (Str.ofString "may_drop") w3, .bool false⟩, ⟨PyData.keyHash w.params (Str.ofString "vlan"), .str (Str.ofString "vlan") w4, .int z tz⟩] 4) ∈ TS)
theorem VL.mono {w : World} {TS US : List (Addr × Obj)} {vv ts : List Value} {z : Int} (hs : ∀ q ∈ TS, q ∈ US) (h : VL w TS vv ts z) : VL w US vv ts z := by
  cases h with
  | zero e1 e2 e3 => exact .zero e1 e2 e3
  | one y dy t tz w1 w2 w3 w4 k1 k2 e1 e2 m1 m2 => exact .one y dy t tz w1 w2 w3 w4 k1 k2 e1 e2 (hs _ m1) (hs _ m2)
  | two y dy v2 y2 t tz w1 w2 w3 w4 k1 k2 e1 e2 m1 m2 => exact .two y dy v2 y2 t tz w1 w2 w3 w4 k1 k2 e1 e2 (hs _ m1) (hs _ m2)
theorem fw_vlan_p {w : World} {p : Program} {loose : List Str} {mean : ExcName → Option Value} {mg mb : Str → Option Value}
    {dp un : Nat} {gd : Option (List Code)} {cn : Str} {cs : Scope} {a : Addr} {ccd : Value} {cl : List (Str × Addr)} {outer : List Env} {A₀ : Around} {base h₀ : Heap} {L : Addr} {m : Str → Option Value} {s : Shared} {Q E : Value → Shared → Prop}
    {news : List (Addr × Obj)} {a1 a2 z : Int} {t1 t2 t3 tw : Tok} {kv : Value} {bb : Array UInt8} {x d G : Addr} {u1 u2 u3 u4 u5 : Tok} {vv ts : List Value}
    (B : Below A₀ base outer h₀) (F : Fr h₀ L s.heap m) (X : (Mine.K w.params).In h₀) (N : News h₀ L s.heap news) (T : Top p loose mean mg mb h₀) (hk : cs.kind = .function)
    (m0 : (x, instObj 171 d) ∈ news) (m1 : (d, dictOf [⟨PyData.keyHash w.params (Str.ofString "target"), .str (Str.ofString "target") u1, .int a1 t1⟩, ⟨PyData.keyHash w.params (Str.ofString "source"), .str (Str.ofString "source") u2, .int a2 t2⟩, ⟨PyData.keyHash w.params (Str.ofString "tags"), .str (Str.ofString "tags") u3, .ref G⟩, ⟨PyData.keyHash w.params (Str.ofString "kind"), .str (Str.ofString "kind") u4, kv⟩, ⟨PyData.keyHash w.params (Str.ofString "payload"), .str (Str.ofString "payload") u5, .bytes bb t3⟩] 5) ∈ news) (m2 : (G, tupO ts.toArray 0) ∈ news) (hv : VL w news vv ts z) (hd : dp + 1 < recursionLimit) (hu : un + 8 < cLine)
    (ret : ∀ (tv : Tok) (h' : Heap) (tk' : Nat), Fr h₀ L h' m → News h₀ L h' news → Q (.int z tv) { s with heap := h', toks := tk' }) :
    wpAny (model PySem.Challenge.pw_xm0985_01 w) (ktrTop dp un gd cn cs L a ccd cl outer) (call (.ref 106) [.ref x, .str (Str.ofString "vlan") tw]) Q E s := by
  cases hv with
  | zero e1 e2 e3 => subst e2; subst e3; exact fw_vlan0_p B F X N T hk m0 m1 m2 hd hu ret
  | one y dy t tz w1 w2 w3 w4 k1 k2 e1 e2 my md => subst e2; exact fw_vlan1_p B F X N T hk m0 m1 m2 my md hd hu fun tv h' tk' => ret _ h' tk'
  | two y dy v2 y2 t tz w1 w2 w3 w4 k1 k2 e1 e2 my md => subst e2; exact fw_vlan2_p B F X N T hk m0 m1 m2 my md hd hu fun tv h' tk' => ret _ h' tk'
theorem wd_17 : True := by
  k_with "k_mem" => (((repeat (first | exact List.Mem.head _ | refine' List.Mem.tail _ ?_)); first | done | (show (_ : Addr × Obj) ∈ (_ : List (Addr × Obj)); with_reducible assumption)))
  trivial
set_option maxHeartbeats 4000000 in
theorem first_vlan {w : World} {dp un : Nat} {gd : Option (List Code)} {cn : Str} {cs : Scope} {a : Addr} {ccd : Value} {cl : List (Str × Addr)} {outer : List Env} {h₀ : Heap} {L₀ L lv : Addr} {m : Str → Option Value} {s : Shared} {Q E : Value → Shared → Prop} {kv : Value} {z a1 a2 : Int} {t1 t2 : Tok} {n1 n2 : Nat} {p1 p2 p3 p4 p5 p6 : Pos} {vv ts : List Value} {news : List (Addr × Obj)} (X : (Mine.K w.params).In h₀) (F : Fr h₀ L s.heap (fun y => if y = Str.ofString "kind" then some kv else if y = Str.ofString "target" then some (.int a1 t1) else if y = Str.ofString "source" then some (.int a2 t2) else if y = Str.ofString "vlans" then some (.ref lv) else m y)) (N : News h₀ L s.heap news) (mv : (lv, LCg.lst vv) ∈ news) (hv : VL w news vv ts z)
    (h : ∀ (t : Tok) (h' : Heap) (tk' : Nat), Fr h₀ L h' (fun y => if y = Str.ofString "kind" then some kv else if y = Str.ofString "target" then some (.int a1 t1) else if y = Str.ofString "source" then some (.int a2 t2) else if y = Str.ofString "vlans" then some (.ref lv) else m y) → News h₀ L h' news → Q (.int z t) { s with heap := h', toks := tk' }) :
    wpAny (model PySem.Challenge.pw_xm0985_01 w) ((ktrTop dp un gd cn cs L₀ a ccd cl outer).deeper (envOfC (Str.ofString "_law_fields_right") (fS (tp 40)) L 398 (.ref 397))) (eval (.Subscript (.BinOp (.Name (Str.ofString "vlans") p1) .Add (.List [.Constant (.int 0) n1 p2] p3) p4) (.Constant (.int 0) n2 p5) p6) (envOfC (Str.ofString "_law_fields_right") (fS (tp 40)) L 398 (.ref 397))) Q E s := by
  cases hv with
  | zero e1 e2 e3 =>
    subst e1; subst e3
    k_steps
    (with_reducible rename News _ _ _ _ => kN9)
    (with_reducible rename Fr _ _ _ _ => kF9)
    exact h _ _ _ kF9 (news_sub kN9 (by ktr_rel))
  | one y dy t tz w1 w2 w3 w4 k1 k2 e1 e2 m1 m2 =>
    subst e1
    k_steps
    (with_reducible rename News _ _ _ _ => kN9)
    (with_reducible rename Fr _ _ _ _ => kF9)
    exact h _ _ _ kF9 (news_sub kN9 (by ktr_rel))
  | two y dy v2 y2 t tz w1 w2 w3 w4 k1 k2 e1 e2 m1 m2 =>
    subst e1
    k_steps
    (with_reducible rename News _ _ _ _ => kN9)
    (with_reducible rename Fr _ _ _ _ => kF9)
    exact h _ _ _ kF9 (news_sub kN9 (by ktr_rel))
theorem wd_18 : True := by
  k_with "eval ListComp" => ((k_here; (with_reducible show wpAny _ _ (eval (Expr.ListComp _ [⟨Expr.Name _ _, Expr.Tuple _ _ _, [], 0⟩] _ _) _) _ _ _); k_dflt (refine ListComp_T (F₀ := by k_asm) (by rfl) (by decide) (by rfl) (by decide) (by rfl) ?_)))
  k_with "TupSrc" => ((k_here; k_dflt (refine TupSrc.intro (by rfl) (by k_asm) (by k_asm) (by k_mem) (by exact Nat.le_of_ble_eq_true rfl) ?_; intro g'; lcg_lit)))
  k_with "lcg_src" => (k_mem)
  k_with "call ref" => ((k_here; (with_reducible show wpAny _ _ (call (Value.ref 106) [Value.ref _, Value.str (PySem.Str.ofString "target") _]) _ _ _); k_dflt (refine' fw_target_p ?kB ?kF ?kX ?kN ?kT ?kK ?m0 ?m1 ?kd ?ke ?_; (case kB => k_asm); (case kF => k_asm); (case kX => k_asm); (case kN => k_asm); (case kT => k_asm); (case kK => first | exact rfl | assumption); (case m0 => k_mem); (case m1 => k_mem); (case kd => ktr_room); (case ke => ktr_units)); intro tv' h' tk' F' N'; (try dsimp only); (try k_sweep); walk_say "FW"))
  k_with "call ref" => ((k_here; (with_reducible show wpAny _ _ (call (Value.ref 106) [Value.ref _, Value.str (PySem.Str.ofString "source") _]) _ _ _); k_dflt (refine' fw_source_p ?kB ?kF ?kX ?kN ?kT ?kK ?m0 ?m1 ?kd ?ke ?_; (case kB => k_asm); (case kF => k_asm); (case kX => k_asm); (case kN => k_asm); (case kT => k_asm); (case kK => first | exact rfl | assumption); (case m0 => k_mem); (case m1 => k_mem); (case kd => ktr_room); (case ke => ktr_units)); intro tv' h' tk' F' N'; (try dsimp only); (try k_sweep); walk_say "FW"))
  k_with "call ref" => ((k_here; (with_reducible show wpAny _ _ (call (Value.ref 106) [Value.ref _, Value.str (PySem.Str.ofString "kind") _]) _ _ _); k_dflt (refine' fw_kind_p ?kB ?kF ?kX ?kN ?kT ?kK ?kz ?m0 ?m1 ?kd ?ke ?_; (case kB => k_asm); (case kF => k_asm); (case kX => k_asm); (case kN => k_asm); (case kT => k_asm); (case kK => first | exact rfl | assumption); (case m0 => k_mem); (case m1 => k_mem); (case kz => assumption); (case kd => ktr_room); (case ke => ktr_units)); intro tv' h' tk' F' N'; (try dsimp only); (try k_sweep); walk_say "FW"))
  k_with "eval IfExp" => ((k_here; k_dflt (refine' if_kind ?kF ?kz ?_; (case kF => k_asm); (case kz => assumption)); intro tv' tk'))
  k_with "compareOp Eq ref ref" => ((k_here; (with_reducible show wpAny _ _ (compareOp CmpOp.Eq (Value.ref _) (Value.ref _)) _ _ _); (trace "EQ0"); k_dflt ((trace "EQ1"); refine' ke_eq_ints ?k1 ?k2 ?k3 ?k4 ?k5 ?_; (case k1 => exact News.isList (by k_asm) (by k_mem)); (trace "EQ2"); (case k2 => exact News.isList (by k_asm) (by k_mem)); (trace "EQ3"); (case k3 => exact IntsAre.cons _ _ (IntsAre.cons _ _ (IntsAre.cons _ _ (IntsAre.cons _ _ IntsAre.nil)))); (case k4 => exact IntsAre.cons _ _ (IntsAre.cons _ _ (IntsAre.cons _ _ (IntsAre.cons _ _ IntsAre.nil)))); (trace "EQ4"); (case k5 => ktr_units)); walk_say "EQL"))
  k_with "k_mem" => (((repeat (first | exact List.Mem.head _ | refine' List.Mem.tail _ ?_)); first | done | (show (_ : Addr × Obj) ∈ (_ : List (Addr × Obj)); with_reducible assumption)))
  k_with "call ref" => ((k_here; (with_reducible show wpAny _ _ (call (Value.ref 106) [Value.ref _, Value.str (PySem.Str.ofString "vlan") _]) _ _ _); k_dflt (refine' fw_vlan_p ?kB ?kF ?kX ?kN ?kT ?kK ?m0 ?m1 ?m2 ?hv ?kd ?ke ?_; (case kB => k_asm); (case kF => k_asm); (case kX => k_asm); (case kN => k_asm); (case kT => k_asm); (case kK => first | exact rfl | assumption); (case m0 => k_mem); (case m1 => k_mem); (case m2 => k_mem); (case hv => (refine' VL.mono ?b ?a; (case a => assumption); (case b => (intro q9 hq9; repeat (first | exact hq9 | refine List.Mem.tail _ ?_))))); (case kd => ktr_room); (case ke => ktr_units)); intro tv' h' tk' F' N'; (try dsimp only); (try k_sweep); walk_say "FW"))
  k_with "eval Subscript" => ((k_here; (with_reducible show wpAny _ _ (eval (PySem.Expr.Subscript (PySem.Expr.BinOp _ _ _ _) _ _) _) _ _ _); k_dflt (refine' first_vlan ?kX ?kF ?kN ?mv ?hv ?_; (case kX => k_asm); (case kF => k_asm); (case kN => k_asm); (case mv => k_mem); (case hv => (refine' VL.mono ?b ?a; (case a => assumption); (case b => (intro q9 hq9; repeat (first | exact hq9 | refine List.Mem.tail _ ?_)))))); intro tv' h' tk' F' N'; (try dsimp only); (try k_sweep); walk_say "VLAN"))
  trivial
set_option maxHeartbeats 4000000 in
theorem fields_rest {w : World} {p : Program} {loose : List Str} {mean : ExcName → Option Value} {mg mb : Str → Option Value}
    {dp un : Nat} {gd : Option (List Code)} {cn : Str} {cs : Scope} {a : Addr} {ccd : Value} {cl : List (Str × Addr)} {outer : List Env} {base h₀ : Heap} {L₀ L : Addr} {s : Shared} {Q : Flow → Shared → Prop} {E : Value → Shared → Prop}
    {lv x d G : Addr} {m : Str → Option Value} {oF : Obj} {a1 a2 z zk : Int} {t1 t2 t3 u1 u2 u3 u4 u5 : Tok} {kv : Value} {bb : Array UInt8} {vv ts : List Value} {TS : List (Addr × Obj)}
    (B : Below (ktrTop dp un gd cn cs L₀ a ccd cl outer) base (envX cn cs L₀ a ccd cl :: outer) h₀) (X : (Mine.K w.params).In h₀) (T : Top p loose mean mg mb h₀)
    (F : Fr h₀ L s.heap (fun y => if y = Str.ofString "kind" then some kv else if y = Str.ofString "target" then some (.int a1 t1) else if y = Str.ofString "source" then some (.int a2 t2) else if y = Str.ofString "vlans" then some (.ref lv) else m y)) (N : News h₀ L s.heap TS) (mv : (lv, LCg.lst vv) ∈ TS) (mx : (x, instObj 171 d) ∈ TS) (md : (d, dictOf [⟨PyData.keyHash w.params (Str.ofString "target"), .str (Str.ofString "target") u1, .int a1 t1⟩, ⟨PyData.keyHash w.params (Str.ofString "source"), .str (Str.ofString "source") u2, .int a2 t2⟩, ⟨PyData.keyHash w.params (Str.ofString "tags"), .str (Str.ofString "tags") u3, .ref G⟩, ⟨PyData.keyHash w.params (Str.ofString "kind"), .str (Str.ofString "kind") u4, kv⟩, ⟨PyData.keyHash w.params (Str.ofString "payload"), .str (Str.ofString "payload") u5, .bytes bb t3⟩] 5) ∈ TS) (mG : (G, tupO ts.toArray 0) ∈ TS) (mF : (L + 1 + 1, oF) ∈ TS) (dF : oF.data = .cell (some (.ref x))) (hv : VL w TS vv ts z) (hz : KN kv zk) (hd : dp + 5 < recursionLimit) (hun : un + (64 + 8 * 5) < cLine)
    (fin : ∀ (b : Bool) (h' : Heap) (tk' : Nat) (m' : Str → Option Value), b = true → Fr h₀ L h' m' → News h₀ L h' TS → Q (.ret (.bool b)) { s with heap := h', toks := tk' }) :
    wpAny (model PySem.Challenge.pw_xm0985_01 w) ((ktrTop dp un gd cn cs L₀ a ccd cl outer).deeper (envOfC (Str.ofString "_law_fields_right") (fS (tp 40)) L 398 (.ref 397))) (execs fRest (envOfC (Str.ofString "_law_fields_right") (fS (tp 40)) L 398 (.ref 397))) Q E s := by
  k_steps
  (with_reducible rename News _ _ _ _ => kN9)
  (with_reducible rename Fr _ _ _ _ => kF9)
  exact fin _ _ _ _ (decide_eq_true rfl) kF9 (news_sub kN9 (by ktr_rel))
end
section
theorem wd_19 : True := by
  k_with_none
  k_with "eval Call" => (k_here; k_fold)
  k_with "eval BinOp" => (k_here; k_fold)
  k_with "eval Compare" => (k_here; k_fold)
  k_with "isTrue Compare" => (k_here; k_fold)
  k_with "isTrue Call" => (k_here; k_fold)
  k_with "eval BoolOp" => (k_here; k_fold)
  k_with "isTrue BoolOp" => (k_here; k_fold)
  k_with "isTrue" => (k_here; k_fold)
  k_with "eval Attribute" => (k_here; k_fold)
  k_with "eval Tuple" => (k_here; k_fold)
  k_with "eval List" => (k_here; k_fold)
  k_with "eval Subscript" => (k_here; k_fold)
  k_with "eval IfExp" => (k_here; k_fold)
  k_with "execs cons" => (k_here; with_reducible refine gen_tk ?_; intro tk; (try dsimp only))
  k_with "eval Call" => (k_here; with_reducible refine gen_tk ?_; intro tk; (try dsimp only))
  k_with "setAttr ref" => (k_here; with_reducible refine gen_tk ?_; intro tk; (try dsimp only))
  k_with "newList" => (k_here; with_reducible refine gen_tk ?_; intro tk; (try dsimp only))
  k_with "eval BinOp" => (k_here; with_reducible refine gen_tk ?_; intro tk; (try dsimp only))
  k_with "eval Subscript" => (k_here; with_reducible refine gen_tk ?_; intro tk; (try dsimp only))
  k_with "k_all" => (first | assumption | exact all_ne (by with_reducible assumption) (by (intro q9 hq9; repeat (first | exact hq9 | refine List.Mem.tail _ ?_))))
  k_with "subscriptTail Name Constant ref int" => ((k_here; k_dflt (refine' my_item ?k1 ?k2 ?k3 ?k4 ?k5 ?_ ?k7; (case k1 => k_asm); (case k2 => k_mem); (case k3 => decide); (case k4 => decide); (case k5 => exact rfl); (case k7 => with_unfolding_all rfl); k_whole)))
  k_with "call ref" => ((k_here; (with_reducible show wpAny _ _ (call (Value.ref 386) [Value.ref _, Value.int _ _]) _ _ _); k_dflt (refine' wind_at ?kB ?kF ?kX ?kN ?kT ?kK ?kU ?kx ?ky ?kz ?kt ?ku ?kd ?ke ?_; (case kB => k_asm); (case kF => k_asm); (case kX => k_asm); (case kN => k_asm); (case kT => k_asm); (case kK => first | exact rfl | assumption); (case kU => k_updF); (case kx => assumption); (case ky => assumption); (case kz => assumption); (case kt => omega); (case ku => omega); (case kd => ktr_room); (case ke => ktr_units)); intro d' x' y' td' tx' ty' h' tk' hd0 hd1 hx' hy' hz' F' N'; (try dsimp only at N'); (try dsimp only); (try k_sweep); walk_say "WIND"; (try k_extra "wind")))
  k_with "k_room" => (ktr_room)
  k_with "k_units" => (ktr_units)
  k_with "ktr_rel" => ((intro q9 hq9; repeat (first | exact hq9 | refine List.Mem.tail _ ?_)))
  k_with "call ref" => ((k_here; (with_reducible show wpAny _ _ (call (Value.ref 393) [Value.ref _, Value.ref _]) _ _ _); k_dflt (refine' one_at ?kB ?kF ?kX ?kN ?kT ?kK ?kU ?kl ?kx ?ky ?kz ?kt ?ku ?kd ?ke ?_; (case kB => k_asm); (case kF => k_asm); (case kX => k_asm); (case kN => k_asm); (case kT => k_asm); (case kK => first | exact rfl | assumption); (case kU => k_updF); (case kl => k_ne); (case kx => assumption); (case ky => assumption); (case kz => assumption); (case kt => exact Nat.le_of_ble_eq_true rfl); (case ku => exact Nat.le_of_ble_eq_true rfl); (case kd => ktr_room); (case ke => ktr_units)); intro v' x' y' tx' ty' h' tk' hv' hx' hy' hz' F' N'; (try dsimp only at N'); (try dsimp only); (try k_sweep); walk_say "ONE"; (try k_extra "one")))
  k_with "binaryOp Pow int int" => ((k_here; (refine' pow_lit ?kb1 ?kb2 ?kb3 ?_); (case kb1 => decide); (case kb2 => decide); (case kb3 => ((simp only [Int.reduceToNat, Int.reducePow]); exact rfl))))
  k_with "CompSrc" => ((k_here; k_dflt (first | (refine LCg.CompSrc.ledger (by rfl) (by k_asm) (by k_asm) (by k_mem) (by first | size_fits | exact Nat.le_of_ble_eq_true rfl) ?_; intro g'; lcg_lit) | (refine LCg.CompSrc.range (by rfl) (by k_asm) (by k_asm) (by assumption) (by first | decide | rfl) (by first | rfl | decide) (by first | size_fits | exact Nat.le_of_ble_eq_true rfl) ?_; intro g'; lcg_lit))))
  k_with "CompRest" => ((with_unfolding_all first | (refine LCg.CompRest.succ ?_; intro v' I' oI' C' oC' D' m' h' tk' E' hv' hC' hx' F' N' off' ne'; (first | lcg_open hv' | (obtain ⟨t9', hv9'⟩ := hv'; subst hv9')); (obtain ⟨ne1', ne2', ne3'⟩ := ne')) | refine LCg.CompRest.zero ?_))
  k_with "CompEnd" => ((first | (refine' compEnd0 ?kF ?kN ?ko ?kS ?_; (case kN => assumption); (case kF => assumption); (case ko => assumption); (case kS => lcg_src)) | (refine' compEnd2 ?kF ?kN ?kx ?kd ?ko ?kS ?_; (case kN => assumption); (case kF => assumption); (case kx => exact ⟨by k_ne, by k_ne, by k_ne⟩); (case kd => exact ⟨by k_ne, by k_ne, by k_ne⟩); (case ko => assumption); (case kS => lcg_src)) | (refine' compEnd1 ?kF ?kN ?kx ?ko ?kS ?_; (case kN => assumption); (case kF => assumption); (case kx => exact ⟨by k_ne, by k_ne, by k_ne⟩); (case ko => assumption); (case kS => lcg_src)) | lcg_end))
  k_with "call type:bytes" => ((k_here; (with_reducible show wpAny _ _ (call (Value.type "bytes") [Value.bytes _ _]) _ _ _); refine' bb_call ?_))
  k_with "k_ne" => ((refine neN ?_; (try dsimp only); first | (with_reducible assumption) | exact Ne.symm (by with_reducible assumption) | exact Nat.ne_of_gt (by with_reducible assumption) | exact Nat.ne_of_lt (by with_reducible assumption) | exact neA (by with_reducible assumption) (by k_mem) | exact Ne.symm (neA (by with_reducible assumption) (by k_mem)) | exact neO (by with_reducible assumption) (by k_mem) | exact Ne.symm (neO (by with_reducible assumption) (by k_mem)) | exact neI (by with_reducible assumption) (by k_mem) | exact Ne.symm (neI (by with_reducible assumption) (by k_mem)) | exact neC (by with_reducible assumption) (by k_mem) | exact Ne.symm (neC (by with_reducible assumption) (by k_mem)) | exact neD (by with_reducible assumption) (by k_mem) | exact Ne.symm (neD (by with_reducible assumption) (by k_mem)) | exact neA2 (by with_reducible assumption) (by with_reducible assumption) (by k_mem) | exact Ne.symm (neA2 (by with_reducible assumption) (by with_reducible assumption) (by k_mem)) | omega))
  k_with "FinE" => (((unfold LCg.FinE); intro D' h' tk' F' N' o1'; (try simp only [List.nil_append, List.cons_append] at N'); (try dsimp only)))
  k_with "FinA" => (((unfold LCg.FinA); intro D' h' tk' F' N' o1'; (try simp only [List.nil_append, List.cons_append] at N'); (try dsimp only)))
  trivial
theorem frame_at {w : World} {p : Program} {loose : List Str} {mean : ExcName → Option Value} {mg mb : Str → Option Value}
    {dp un : Nat} {gd : Option (List Code)} {cn : Str} {cs : Scope} {a : Addr} {ccd : Value} {cl : List (Str × Addr)} {outer : List Env} {A₀ : Around} {base h₀ : Heap} {L : Addr} {m : Str → Option Value} {s : Shared} {Q E : Value → Shared → Prop}
    {news : List (Addr × Obj)} {a1 a2 : Int} {t1 t2 t3 : Tok} {kv : Value} {bb : Array UInt8} {l : Addr} {vs : List Value}
    (B : Below A₀ base outer h₀) (F : Fr h₀ L s.heap m) (X : (Mine.K w.params).In h₀) (N : News h₀ L s.heap news) (T : Top p loose mean mg mb h₀) (hk : cs.kind = .function)
    (hm : (l, LCg.lst vs) ∈ news) (hv : vs.length ≤ 1000) (hd : dp + 2 < recursionLimit) (hu : un + 16 < cLine)
    (ret : ∀ (x d G : Addr) (u1 u2 u3 u4 u5 : Tok) (h' : Heap) (tk' : Nat), (∀ q ∈ news, q.1 < d) → d < x → x < G → Fr h₀ L h' m → News h₀ L h' ((G, tupO vs.toArray 0) :: (x, instObj 171 d) :: (d, dictOf [⟨PyData.keyHash w.params (Str.ofString "target"), .str (Str.ofString "target") u1, .int a1 t1⟩, ⟨PyData.keyHash w.params (Str.ofString "source"), .str (Str.ofString "source") u2, .int a2 t2⟩, ⟨PyData.keyHash w.params (Str.ofString "tags"), .str (Str.ofString "tags") u3, .ref G⟩, ⟨PyData.keyHash w.params (Str.ofString "kind"), .str (Str.ofString "kind") u4, kv⟩, ⟨PyData.keyHash w.params (Str.ofString "payload"), .str (Str.ofString "payload") u5, .bytes bb t3⟩] 5) :: news) → Q (.ref x) { s with heap := h', toks := tk' }) :
    wpAny (model PySem.Challenge.pw_xm0985_01 w) (ktrTop dp un gd cn cs L a ccd cl outer) (call (.ref 171) [.int a1 t1, .int a2 t2, .ref l, kv, .bytes bb t3]) Q E s := by
  refine frame_spec B F X (news_pick (pre := [(l, LCg.lst vs)]) N (fun q hq => by rw [List.mem_singleton.mp hq]; exact hm)) T hk hv hd hu ?_
  intro x d G u1 u2 u3 u4 u5 h' tk' l1 l2 l3 F' N'
  refine ret x d G u1 u2 u3 u4 u5 h' tk' (fun q hq => l1 q (.tail _ hq)) l2 l3 F' fun q hq => N' q ?_
  simp only [List.mem_cons, List.cons_append, List.nil_append] at hq ⊢
  rcases hq with h | h | h | h
  · exact .inl h
  · exact .inr (.inl h)
  · exact .inr (.inr (.inl h))
  · exact .inr (.inr (.inr (.inr h)))
theorem wd_20 : True := by
  k_with "storeName" => ((k_here; (with_reducible show wpAny _ _ (storeName (envOfC _ _ _ _ _) (PySem.Str.ofString "frame") _) _ _ _); k_dflt (refine' storeX_C ?F ?N ?c ?U ?d ?_ ?a ?b; (case a => rfl); (case b => rfl); (case F => k_asm); (case N => k_asm); (case c => rfl); (case U => k_updF); (case d => k_asm); k_whole; intro h' o' F' N' d'; (try dsimp only at N'); (try dsimp only); (try k_sweep))))
  k_with "lcg_src" => (k_mem)
  k_with "call ref" => ((k_here; (with_reducible show wpAny _ _ (call (Value.ref 137) _) _ _ _); k_dflt (refine' tag_spec ?kB ?kF ?kX ?kN ?kT ?kK ?kd ?ke ?_; (case kB => k_asm); (case kF => k_asm); (case kX => k_asm); (case kN => k_asm); (case kT => k_asm); (case kK => first | exact rfl | assumption); (case kd => ktr_room); (case ke => ktr_units)); intro x' d' u1' u2' u3' u4' h' tk' l1 l2 F' N'; (have l5 := fun p hp => Nat.lt_trans (l1 p hp) l2); (try k_lt2 l2); (try dsimp only at N'); (try dsimp only); (try k_sweep); walk_say "TAG"))
  k_with "call ref" => ((k_here; (with_reducible show wpAny _ _ (call (Value.ref 171) _) _ _ _); k_dflt (refine' frame_at ?kB ?kF ?kX ?kN ?kT ?kK ?km ?kv ?kd ?ke ?_; (case kB => k_asm); (case kF => k_asm); (case kX => k_asm); (case kN => k_asm); (case kT => k_asm); (case kK => first | exact rfl | assumption); (case km => k_mem); (case kv => exact Nat.le_of_ble_eq_true rfl); (case kd => ktr_room); (case ke => ktr_units)); intro x' d' G' u1' u2' u3' u4' u5' h' tk' l1 l2 l3 F' N'; (have l5 := fun p hp => Nat.lt_trans (l1 p hp) l2); (have l6 := fun p hp => Nat.lt_trans (l5 p hp) l3); (try k_lt2 l2); (try k_lt2 l3); (have l7 := Nat.lt_trans l2 l3); (try dsimp only at N'); (try dsimp only); (try k_sweep); walk_say "FRAME"))
  trivial
noncomputable def Held (P : Prop) : Prop := P
theorem held {P : Prop} (h : Held P) : P := h
theorem wd_21 : True := by
  k_with "execs cons" => ((k_here; (with_reducible show wpAny _ _ (execs [PySem.Stmt.Assign _ _ _, PySem.Stmt.Return _ _] _) _ _ _); refine held ?_))
  trivial
theorem kn_of {v : Value} {a b c : Int} {t u w : Tok} (h : v ∈ [Value.none, Value.int a t, Value.int b u, Value.int c w]) : ∃ z, KN v z := by
  simp only [List.mem_cons, List.not_mem_nil, or_false] at h
  rcases h with h | h | h | h
  · exact ⟨0, .inl ⟨h, rfl⟩⟩
  all_goals exact ⟨_, .inr ⟨_, h⟩⟩
theorem int3 {d : Int} (h : d < 3) (h0 : 0 ≤ d) : d = 0 ∨ d = 1 ∨ d = 2 := by omega
set_option maxHeartbeats 4000000 in
theorem fields_spec : PartSpec 398 5 := by
  intro w p loose mean mg mb dp un gd cn cs a ccd cl outer A₀ base h₀ L m s Q E r x y tx ty nn B F X N T hk hx hy0 hy hd hu ret
  refine wpAny_call ?_
  k_dflt (refine' code_defC ?k1 ?k2 ?k3 ?k4 ?k5 ?kA ?kF ?kK ?k6 ?k7 ?k8 ?k9 ?kB ?kD ?_ ?c2 ?c3 ?c4; (case kA => exact rfl); (case kF => exact rfl); (case kK => exact hk); (case k1 => k_asm); (case k2 => k_asm); (case k3 => k_asm); (case k4 => k_asm); (case k5 => k_asm); (case k6 => k_is); (case k7 => k_is); (case k8 => k_room); (case k9 => exact BindsTo.of_eq rfl); (case kB => exact rfl); (case kD => decide +kernel); (case c2 => exact rfl); (case c3 => exact rfl); (case c4 => exact rfl); k_whole; intro g' L' h' tk' cells' FG' F' N' Y' B' X' T' l1; (try k_lt l1); k_cells Y'; (try simp only [List.cons_append, List.nil_append] at N'); (try dsimp only); (try k_lift B'); (try k_fold))
  have hc1 := lt1 (ltA l1 (.head _))
  have hc2 := lt1 hc1
  have hc3 := lt2 (L' + 1)
  k_with "wind" => ((with_reducible rename (_ < (3 : Int)) => hB9); (have hC9 := int3 hB9 (by omega)); clear hB9; rcases hC9 with h9 | h9 | h9 <;> subst h9)
  k_with "one" => ((with_reducible rename (_ ∈ _) => hv9); (have hv8 := kn_of hv9); clear hv9; obtain ⟨z9, hz9⟩ := hv8; (with_reducible rename News _ _ _ _ => kN8); (have kN7 := news_del2 kN8); clear kN8)
  k_steps
  all_goals (
    unfold Held
    (with_reducible rename News _ _ _ _ => kN9)
    (with_reducible rename Fr _ _ _ _ => kF9)
    refine' fields_rest B' X' T' kF9 kN9 ?mv ?mx ?md ?mG ?mF ?dF ?hv ?hz ?hd ?hu ?fin
    case mv => k_mem
    case mx => k_mem
    case md => k_mem
    case mG => k_mem
    case mF => k_mem
    case dF => assumption
    case hv => (first | exact VL.zero rfl rfl rfl | (refine' VL.one _ _ _ _ _ _ _ _ _ _ rfl rfl ?m1 ?m2; (case m1 => k_mem); (case m2 => k_mem)) | (refine' VL.two _ _ _ _ _ _ _ _ _ _ _ _ rfl rfl ?m1 ?m2; (case m1 => k_mem); (case m2 => k_mem)))
    case hz => assumption
    case hd => ktr_room
    case hu => ktr_units
    case fin =>
      intro b9 h9 tk9 m9 hb9 F9 N9
      k_steps
      (with_reducible rename News _ _ _ _ => kN8)
      exact part_ret ret (by k_asm) kN8 (by k_mem) (by assumption) (by assumption) (by assumption) hb9)
end
section
theorem wd_22 : True := by
  k_with_none
  k_with "eval Call" => (k_here; k_fold)
  k_with "eval BinOp" => (k_here; k_fold)
  k_with "eval Compare" => (k_here; k_fold)
  k_with "isTrue Compare" => (k_here; k_fold)
  k_with "isTrue Call" => (k_here; k_fold)
  k_with "eval BoolOp" => (k_here; k_fold)
  k_with "isTrue BoolOp" => (k_here; k_fold)
  k_with "isTrue" => (k_here; k_fold)
  k_with "eval Attribute" => (k_here; k_fold)
  k_with "eval Tuple" => (k_here; k_fold)
  k_with "eval List" => (k_here; k_fold)
  k_with "eval Subscript" => (k_here; k_fold)
  k_with "eval IfExp" => (k_here; k_fold)
  k_with "execs cons" => (k_here; with_reducible refine gen_tk ?_; intro tk; (try dsimp only))
  k_with "eval Call" => (k_here; with_reducible refine gen_tk ?_; intro tk; (try dsimp only))
  k_with "setAttr ref" => (k_here; with_reducible refine gen_tk ?_; intro tk; (try dsimp only))
  k_with "newList" => (k_here; with_reducible refine gen_tk ?_; intro tk; (try dsimp only))
  k_with "eval BinOp" => (k_here; with_reducible refine gen_tk ?_; intro tk; (try dsimp only))
  k_with "eval Subscript" => (k_here; with_reducible refine gen_tk ?_; intro tk; (try dsimp only))
  k_with "k_all" => (first | assumption | exact all_ne (by with_reducible assumption) (by (intro q9 hq9; repeat (first | exact hq9 | refine List.Mem.tail _ ?_))))
  k_with "subscriptTail Name Constant ref int" => ((k_here; k_dflt (refine' my_item ?k1 ?k2 ?k3 ?k4 ?k5 ?_ ?k7; (case k1 => k_asm); (case k2 => k_mem); (case k3 => decide); (case k4 => decide); (case k5 => exact rfl); (case k7 => with_unfolding_all rfl); k_whole)))
  k_with "call ref" => ((k_here; (with_reducible show wpAny _ _ (call (Value.ref 386) [Value.ref _, Value.int _ _]) _ _ _); k_dflt (refine' wind_at ?kB ?kF ?kX ?kN ?kT ?kK ?kU ?kx ?ky ?kz ?kt ?ku ?kd ?ke ?_; (case kB => k_asm); (case kF => k_asm); (case kX => k_asm); (case kN => k_asm); (case kT => k_asm); (case kK => first | exact rfl | assumption); (case kU => k_updF); (case kx => assumption); (case ky => assumption); (case kz => assumption); (case kt => omega); (case ku => omega); (case kd => ktr_room); (case ke => ktr_units)); intro d' x' y' td' tx' ty' h' tk' hd0 hd1 hx' hy' hz' F' N'; (try dsimp only at N'); (try dsimp only); (try k_sweep); walk_say "WIND"; (try k_extra "wind")))
  k_with "k_room" => (ktr_room)
  k_with "k_units" => (ktr_units)
  k_with "ktr_rel" => ((intro q9 hq9; repeat (first | exact hq9 | refine List.Mem.tail _ ?_)))
  k_with "binaryOp Pow int int" => ((k_here; (refine' pow_lit ?kb1 ?kb2 ?kb3 ?_); (case kb1 => decide); (case kb2 => decide); (case kb3 => ((simp only [Int.reduceToNat, Int.reducePow]); exact rfl))))
  k_with "CompSrc" => ((k_here; k_dflt (first | (refine LCg.CompSrc.ledger (by rfl) (by k_asm) (by k_asm) (by k_mem) (by first | size_fits | exact Nat.le_of_ble_eq_true rfl) ?_; intro g'; lcg_lit) | (refine LCg.CompSrc.range (by rfl) (by k_asm) (by k_asm) (by assumption) (by first | decide | rfl) (by first | rfl | decide) (by first | size_fits | exact Nat.le_of_ble_eq_true rfl) ?_; intro g'; lcg_lit))))
  k_with "CompRest" => ((with_unfolding_all first | (refine LCg.CompRest.succ ?_; intro v' I' oI' C' oC' D' m' h' tk' E' hv' hC' hx' F' N' off' ne'; (first | lcg_open hv' | (obtain ⟨t9', hv9'⟩ := hv'; subst hv9')); (obtain ⟨ne1', ne2', ne3'⟩ := ne')) | refine LCg.CompRest.zero ?_))
  k_with "CompEnd" => ((first | (refine' compEnd0 ?kF ?kN ?ko ?kS ?_; (case kN => assumption); (case kF => assumption); (case ko => assumption); (case kS => lcg_src)) | (refine' compEnd2 ?kF ?kN ?kx ?kd ?ko ?kS ?_; (case kN => assumption); (case kF => assumption); (case kx => exact ⟨by k_ne, by k_ne, by k_ne⟩); (case kd => exact ⟨by k_ne, by k_ne, by k_ne⟩); (case ko => assumption); (case kS => lcg_src)) | (refine' compEnd1 ?kF ?kN ?kx ?ko ?kS ?_; (case kN => assumption); (case kF => assumption); (case kx => exact ⟨by k_ne, by k_ne, by k_ne⟩); (case ko => assumption); (case kS => lcg_src)) | lcg_end))
  k_with "k_ne" => ((refine neN ?_; (try dsimp only); first | (with_reducible assumption) | exact Ne.symm (by with_reducible assumption) | exact Nat.ne_of_gt (by with_reducible assumption) | exact Nat.ne_of_lt (by with_reducible assumption) | exact neA (by with_reducible assumption) (by k_mem) | exact Ne.symm (neA (by with_reducible assumption) (by k_mem)) | exact neO (by with_reducible assumption) (by k_mem) | exact Ne.symm (neO (by with_reducible assumption) (by k_mem)) | exact neI (by with_reducible assumption) (by k_mem) | exact Ne.symm (neI (by with_reducible assumption) (by k_mem)) | exact neC (by with_reducible assumption) (by k_mem) | exact Ne.symm (neC (by with_reducible assumption) (by k_mem)) | exact neD (by with_reducible assumption) (by k_mem) | exact Ne.symm (neD (by with_reducible assumption) (by k_mem)) | exact neA2 (by with_reducible assumption) (by with_reducible assumption) (by k_mem) | exact Ne.symm (neA2 (by with_reducible assumption) (by with_reducible assumption) (by k_mem)) | omega))
  k_with "FinE" => (((unfold LCg.FinE); intro D' h' tk' F' N' o1'; (try simp only [List.nil_append, List.cons_append] at N'); (try dsimp only)))
  k_with "FinA" => (((unfold LCg.FinA); intro D' h' tk' F' N' o1'; (try simp only [List.nil_append, List.cons_append] at N'); (try dsimp only)))
  trivial
noncomputable abbrev Row := Nat × Nat × Nat × Nat
noncomputable def VI (r : Row) : Int := ((V4 r.1 r.2.1 r.2.2.1 r.2.2.2 : Nat) : Int)
noncomputable def mx (r q : Row) : Row := (max r.1 q.1, max r.2.1 q.2.1, max r.2.2.1 q.2.2.1, max r.2.2.2 q.2.2.2)
noncomputable def Le3 (r : Row) : Prop := r.1 ≤ 3 ∧ r.2.1 ≤ 3 ∧ r.2.2.1 ≤ 3 ∧ r.2.2.2 ≤ 3
noncomputable def mxL : Row → List Row → Row
  | e, [] => e
  | e, r :: q => mxL (mx e r) q
noncomputable def setM (x : Str) (v : Value) (m : Str → Option Value) : Str → Option Value := fun y => if y = x then some v else m y
theorem items_ind {prog : Program} {w : World} {A : Around} {E : Value → Shared → Prop} {h₀ : Heap} {env : Env} {target : Expr} {body : List Stmt} {Q : Flow → Shared → Prop} {s : Shared} {ws : List (Addr × String)} {keep : List (Addr × Obj)} {news : List (Addr × Obj)}
    (J : List Itm → (Str → Option Value) → Prop)
    (zero : ∀ m', J [] m' → ItemsRest prog w A E h₀ env target body Q s ws keep [] m' news)
    (step : ∀ a r m', J (a :: r) m' → (∀ m'', J r m'' → ItemsRest prog w A E h₀ env target body Q s ws keep r m'' news) → ItemsRest prog w A E h₀ env target body Q s ws keep (a :: r) m' news) :
    ∀ {xs : List Itm} {m : Str → Option Value}, J xs m → ItemsRest prog w A E h₀ env target body Q s ws keep xs m news
  | [], m, h => zero m h
  | a :: r, m, h => step a r m h fun m'' h' => items_ind J zero step h'
theorem wd_23 : True := by
  k_with "exec For Name Name cons nil" => ((k_here; (rename Fr _ _ _ _ => lF'); (with_unfolding_all refine' For_turns lF' ?_; k_whole)))
  k_with "pyIter ref" => ((k_here; (rename Fr _ _ _ _ => lF'); (rename News _ _ _ _ => lN'); (with_unfolding_all refine iter_listTurns (by rfl) lF' lN' (by k_mem) (by rfl) (by rfl) ?_); intro i' l1))
  trivial
theorem setM_swap {x y : Str} {a b c d : Value} {m : Str → Option Value} : setM x a (setM y b (setM x c (setM y d m))) = setM x a (setM y b m) := by
  funext z
  unfold setM
  by_cases h1 : z = x <;> by_cases h2 : z = y <;> simp [h1, h2]
theorem noPyM {a b : Int} (h0 : 0 < b) (h : b ≤ 1073741824) : Builtin.divisionGoesByPylong a b = false := noPy h0 h
theorem VI_pos (r : Row) : 0 < VI r := by have := V4_pos r.1 r.2.1 r.2.2.1 r.2.2.2; unfold VI; omega
theorem VI_le {r : Row} (h : Le3 r) : VI r ≤ 1073741824 := by
  obtain ⟨a, b, c, d⟩ := r
  obtain ⟨h1, h2, h3, h4⟩ := h
  have e : V4 a b c d ≤ 2 ^ 3 * 3 ^ 3 * 5 ^ 3 * 7 ^ 3 := Nat.mul_le_mul (Nat.mul_le_mul (Nat.mul_le_mul (Nat.pow_le_pow_right (by decide) h1) (Nat.pow_le_pow_right (by decide) h2)) (Nat.pow_le_pow_right (by decide) h3)) (Nat.pow_le_pow_right (by decide) h4)
  have : V4 a b c d ≤ 1073741824 := Nat.le_trans e (by decide)
  unfold VI
  show ((V4 a b c d : Nat) : Int) ≤ 1073741824
  omega
noncomputable def GcdJ (m0 : Str → Option Value) (n0 : List (Addr × Obj)) (g : Nat) : Nat → (Str → Option Value) → List (Addr × Obj) → Prop := fun n m₁ news₁ => ∃ (one other : Int) (t u : Tok), m₁ = setM (Str.ofString "one") (.int one t) (setM (Str.ofString "other") (.int other u) m0) ∧ news₁ = n0 ∧ Int.gcd one other = g ∧ 0 < one ∧ 0 ≤ other ∧ other.toNat = n ∧ one ≤ 1073741824 ∧ other ≤ 1073741824
theorem wd_24 : True := by
  k_with "exec While Compare cons nil" => ((k_here; (with_reducible show wpAny _ _ (exec (PySem.Stmt.While _ _ _ _) _) _ _ _); (rename Fr _ _ _ _ => lF'); (rename News _ _ _ _ => lN'); (with_unfolding_all refine' While_inv (GcdJ _ _ _) lF' lN' ⟨_, _, _, _, rfl, rfl, rfl, VI_pos _, Int.le_of_lt (VI_pos _), rfl, VI_le (by assumption), VI_le (by assumption)⟩ ?_); (rintro n1 m1 w1 h1 tk1 F1 N1 ⟨one, other, t1, u1, e1, e2, hg1, ho1, hp1, hn1, hb1, hc1⟩); subst e1; subst e2; clear lF' lN'; (try unfold setM at F1); (try dsimp only at F1 ⊢)))
  k_with "exec While" => ((k_here; (with_reducible show wpAny _ _ (exec (PySem.Stmt.While _ _ _ _) _) _ _ _); (rename Fr _ _ _ _ => lF'); (rename News _ _ _ _ => lN'); (with_unfolding_all refine' While_inv (GcdJ _ _ _) lF' lN' ⟨_, _, _, _, rfl, rfl, rfl, VI_pos _, Int.le_of_lt (VI_pos _), rfl, VI_le (by assumption), VI_le (by assumption)⟩ ?_); (rintro n1 m1 w1 h1 tk1 F1 N1 ⟨one, other, t1, u1, e1, e2, hg1, ho1, hp1, hn1, hb1, hc1⟩); subst e1; subst e2; clear lF' lN'; (try unfold setM at F1); (try dsimp only at F1 ⊢)))
  k_with "exec While Compare" => ((k_here; (with_reducible show wpAny _ _ (exec (PySem.Stmt.While _ _ _ _) _) _ _ _); (rename Fr _ _ _ _ => lF'); (rename News _ _ _ _ => lN'); (with_unfolding_all refine' While_inv (GcdJ _ _ _) lF' lN' ⟨_, _, _, _, rfl, rfl, rfl, VI_pos _, Int.le_of_lt (VI_pos _), rfl, VI_le (by assumption), VI_le (by assumption)⟩ ?_); (rintro n1 m1 w1 h1 tk1 F1 N1 ⟨one, other, t1, u1, e1, e2, hg1, ho1, hp1, hn1, hb1, hc1⟩); subst e1; subst e2; clear lF' lN'; (try unfold setM at F1); (try dsimp only at F1 ⊢)))
  k_with "exec" => ((k_here; (with_reducible show wpAny _ _ (exec (PySem.Stmt.While _ _ _ _) _) _ _ _); (rename Fr _ _ _ _ => lF'); (rename News _ _ _ _ => lN'); (with_unfolding_all refine' While_inv (GcdJ _ _ _) lF' lN' ⟨_, _, _, _, rfl, rfl, rfl, VI_pos _, Int.le_of_lt (VI_pos _), rfl, VI_le (by assumption), VI_le (by assumption)⟩ ?_); (rintro n1 m1 w1 h1 tk1 F1 N1 ⟨one, other, t1, u1, e1, e2, hg1, ho1, hp1, hn1, hb1, hc1⟩); subst e1; subst e2; clear lF' lN'; (try unfold setM at F1); (try dsimp only at F1 ⊢)))
  trivial
theorem gcd_mod {a b : Int} (ha : 0 < a) (hb : 0 < b) : Int.gcd b (a.fmod b) = Int.gcd a b := by
  rw [Int.fmod_eq_emod_of_nonneg _ (by omega)]
  obtain ⟨x, rfl⟩ := Int.eq_ofNat_of_zero_le (Int.le_of_lt ha)
  obtain ⟨y, rfl⟩ := Int.eq_ofNat_of_zero_le (Int.le_of_lt hb)
  rw [show ((x : Int) % (y : Int)) = ((x % y : Nat) : Int) from (Int.natCast_emod _ _).symm, Int.gcd_natCast_natCast, Int.gcd_natCast_natCast, Nat.gcd_comm y, ← Nat.gcd_rec y x, Nat.gcd_comm]
theorem gcd_step {h₀ h' : Heap} {L : Addr} {m0 : Str → Option Value} {n0 : List (Addr × Obj)} {e1 : Addr × Obj} {one other : Int} {u v : Tok} {a b : Value} {g n tk : Nat} {s : Shared}
    (F : Fr h₀ L h' (setM (Str.ofString "one") (.int other u) (setM (Str.ofString "other") (.int (one.fmod other) v) (setM (Str.ofString "one") a (setM (Str.ofString "other") b m0))))) (N : News h₀ L h' (e1 :: n0))
    (hn : other.toNat = n) (hg : one.gcd other = g) (pos : 0 < other) (ho : 0 < one) (hc : other ≤ 1073741824) : WhileStep h₀ L s (GcdJ m0 n0 g) n .next { s with heap := h', toks := tk } := by
  rw [setM_swap] at F
  have h1 := fmodB (a := one) pos
  exact WhileStep.intro F (fun q hq => N q (.tail _ hq)) (n' := (one.fmod other).toNat) (by omega) ⟨other, one.fmod other, u, v, rfl, rfl, (gcd_mod ho pos).trans hg, pos, h1.1, rfl, hc, by omega⟩
theorem wd_25 : True := by
  k_with "WhileStep" => ((refine' gcd_step ?kF ?kN ?kn ?kg ?kp ?ko ?kc; (case kF => (unfold setM; k_asm)); (case kN => k_asm); (case kn => assumption); (case kg => assumption); (case kp => assumption); (case ko => assumption); (case kc => assumption)))
  k_with "binaryOp Mult int int" => ((k_here; (refine' mul_int ?_ (mulOkL (by omega) (by omega)))))
  k_with "binaryOp FloorDiv int int" => ((k_here; (refine' floordiv_int ?kbe ?_ (Or.inl (noPy ?kbp ?kbq)); (case kbe => omega); (case kbp => omega); (case kbq => omega))))
  trivial
theorem lcm_end {e r0 : Row} {one other : Int} (hg : one.gcd other = (VI e).gcd (VI r0)) (ho : 0 < one) (hp : 0 ≤ other) (hn : ¬ 0 < other) : (VI e * VI r0).fdiv one = VI (mx e r0) := by
  have h0 : other = 0 := by omega
  subst h0
  obtain ⟨x, rfl⟩ := Int.eq_ofNat_of_zero_le (Int.le_of_lt ho)
  have h1 : x = (VI e).gcd (VI r0) := by rw [← hg]; simp
  subst h1
  obtain ⟨a, b, c, d⟩ := e
  obtain ⟨a', b', c', d'⟩ := r0
  exact lcmI_V a b c d a' b' c' d'
theorem mx_le {e r : Row} (h : Le3 e) (h' : Le3 r) : Le3 (mx e r) := by
  obtain ⟨a, b, c, d⟩ := h
  obtain ⟨a', b', c', d'⟩ := h'
  exact ⟨Nat.max_le.mpr ⟨a, a'⟩, Nat.max_le.mpr ⟨b, b'⟩, Nat.max_le.mpr ⟨c, c'⟩, Nat.max_le.mpr ⟨d, d'⟩⟩
theorem unrEnd2 {h₀ h' : Heap} {L I : Addr} {oI : Obj} {e1 : Addr × Obj} {m' : Str → Option Value} {news' : List (Addr × Obj)} {s : Shared} {tk : Nat} {rest : (Str → Option Value) → List (Addr × Obj) → Prop}
    (F : Fr h₀ L h' m') (N : News h₀ L h' (e1 :: (I, oI) :: news')) (l1 : ∀ p ∈ news', p.1 < I) (r : rest m' news') : UnrEndW h₀ L s [(I, oI)] rest { s with heap := h', toks := tk } :=
  ⟨h', tk, m', news', rfl, F, fun q hq => N q (.tail _ hq), fun p hp q hq => by rw [List.mem_singleton.mp hq]; exact Nat.ne_of_lt (l1 p hp), r⟩
theorem least_spec {w : World} {p : Program} {loose : List Str} {mean : ExcName → Option Value} {mg mb : Str → Option Value}
    {dp un : Nat} {gd : Option (List Code)} {cn : Str} {cs : Scope} {a : Addr} {ccd : Value} {cl : List (Str × Addr)} {outer : List Env} {A₀ : Around} {base h₀ : Heap} {L : Addr} {m : Str → Option Value} {s : Shared} {Q E : Value → Shared → Prop}
    {news : List (Addr × Obj)} {l : Addr} {vs : List Value} {kk : Nat} {rows : List Row}
    (B : Below A₀ base outer h₀) (F : Fr h₀ L s.heap m) (X : (Mine.K w.params).In h₀) (N : News h₀ L s.heap ((l, listOf vs.toArray kk) :: news)) (T : Top p loose mean mg mb h₀) (hk : cs.kind = .function)
    (hv : IntsAre vs (rows.map VI)) (h3 : ∀ r ∈ rows, Le3 r) (hd : dp + 1 < recursionLimit) (hu : un + 8 < cLine)
    (ret : ∀ (t : Tok) (h' : Heap) (tk' : Nat), Fr h₀ L h' m → News h₀ L h' ((l, listOf vs.toArray kk) :: news) → Q (.int (VI (mxL (0, 0, 0, 0) rows)) t) { s with heap := h', toks := tk' }) :
    wpAny (model PySem.Challenge.pw_xm0985_01 w) (ktrTop dp un gd cn cs L a ccd cl outer) (call (.ref 99) [.ref l]) Q E s := by
  refine wpAny_call ?_
  k_dflt cell_enter
  k_steps
  refine items_ind (fun xs m' => ∃ (rows' : List Row) (e : Row) (t : Tok) (m2 : Str → Option Value) (vs' : List Value), xs = vs'.map Itm.val ∧ IntsAre vs' (rows'.map VI) ∧ (∀ r ∈ rows', Le3 r) ∧ Le3 e ∧ mxL e rows' = mxL (0, 0, 0, 0) rows ∧ m' = setM (Str.ofString "found") (.int (VI e) t) m2) ?_ ?_ ⟨rows, (0, 0, 0, 0), _, _, vs, rfl, hv, h3, ⟨by decide, by decide, by decide, by decide⟩, rfl, rfl⟩
  · rintro m' ⟨rows', e, t, m2, vs', hx, hi, -, -, hm, rfl⟩
    cases vs' with
    | cons => cases hx
    | nil =>
      cases rows' with
      | cons => cases hi
      | nil =>
        have hm' : e = mxL (0, 0, 0, 0) rows := hm
        subst hm'
        unfold setM
        refine ItemsRest.zero (fun h' tk' F' N' => ?_)
        k_steps
        exact ret _ _ _ (by k_asm) (by k_asm)
  · rintro a r m' ⟨rows', e, t, m2, vs', hx, hi, hl, he, hm, rfl⟩ ih
    cases vs' with
    | nil => cases hx
    | cons v vs'' =>
      cases rows' with
      | nil => cases hi
      | cons r0 rows'' =>
        cases hx
        cases hi with
        | cons _ t9 hi' =>
          unfold setM
          refine ItemsRest.val (fun h' tk' F' => ?_)
          ktu_objs
          have hr0 : Le3 r0 := hl r0 (.head _)
          have hp1 := VI_pos e
          have hp2 := VI_le he
          have hp3 := VI_pos r0
          have hp4 := VI_le hr0
          k_steps
          (with_reducible rename Fr _ _ _ _ => kF9)
          (with_reducible rename News _ _ _ _ => kN9)
          (with_reducible rename Int.gcd _ _ = _ => hg9)
          (with_reducible rename ¬ (0 : Int) < _ => hn9)
          rw [lcm_end hg9 (by assumption) (by assumption) hn9] at kF9
          refine unrEnd2 kF9 kN9 (by assumption) ⟨⟨.head _, trivial⟩, ih _ ⟨rows'', mx e r0, _, _, vs'', rfl, hi', fun q hq => hl q (.tail _ hq), mx_le he hr0, hm, rfl⟩⟩
end
section
theorem wd_26 : True := by
  k_with_none
  k_with "eval Call" => (k_here; k_fold)
  k_with "eval BinOp" => (k_here; k_fold)
  k_with "eval Compare" => (k_here; k_fold)
  k_with "isTrue Compare" => (k_here; k_fold)
  k_with "isTrue Call" => (k_here; k_fold)
  k_with "eval BoolOp" => (k_here; k_fold)
  k_with "isTrue BoolOp" => (k_here; k_fold)
  k_with "isTrue" => (k_here; k_fold)
  k_with "eval Attribute" => (k_here; k_fold)
  k_with "eval Tuple" => (k_here; k_fold)
  k_with "eval List" => (k_here; k_fold)
  k_with "eval Subscript" => (k_here; k_fold)
  k_with "eval IfExp" => (k_here; k_fold)
  k_with "execs cons" => (k_here; with_reducible refine gen_tk ?_; intro tk; (try dsimp only))
  k_with "eval Call" => (k_here; with_reducible refine gen_tk ?_; intro tk; (try dsimp only))
  k_with "setAttr ref" => (k_here; with_reducible refine gen_tk ?_; intro tk; (try dsimp only))
  k_with "newList" => (k_here; with_reducible refine gen_tk ?_; intro tk; (try dsimp only))
  k_with "eval BinOp" => (k_here; with_reducible refine gen_tk ?_; intro tk; (try dsimp only))
  k_with "eval Subscript" => (k_here; with_reducible refine gen_tk ?_; intro tk; (try dsimp only))
  k_with "k_all" => (first | assumption | exact all_ne (by with_reducible assumption) (by (intro q9 hq9; repeat (first | exact hq9 | refine List.Mem.tail _ ?_))))
  k_with "subscriptTail Name Constant ref int" => ((k_here; k_dflt (refine' my_item ?k1 ?k2 ?k3 ?k4 ?k5 ?_ ?k7; (case k1 => k_asm); (case k2 => k_mem); (case k3 => decide); (case k4 => decide); (case k5 => exact rfl); (case k7 => with_unfolding_all rfl); k_whole)))
  k_with "call ref" => ((k_here; (with_reducible show wpAny _ _ (call (Value.ref 386) [Value.ref _, Value.int _ _]) _ _ _); k_dflt (refine' wind_at ?kB ?kF ?kX ?kN ?kT ?kK ?kU ?kx ?ky ?kz ?kt ?ku ?kd ?ke ?_; (case kB => k_asm); (case kF => k_asm); (case kX => k_asm); (case kN => k_asm); (case kT => k_asm); (case kK => first | exact rfl | assumption); (case kU => k_updF); (case kx => assumption); (case ky => assumption); (case kz => assumption); (case kt => omega); (case ku => omega); (case kd => ktr_room); (case ke => ktr_units)); intro d' x' y' td' tx' ty' h' tk' hd0 hd1 hx' hy' hz' F' N'; (try dsimp only at N'); (try dsimp only); (try k_sweep); walk_say "WIND"; (try k_extra "wind")))
  k_with "k_room" => (ktr_room)
  k_with "k_units" => (ktr_units)
  k_with "ktr_rel" => ((intro q9 hq9; repeat (first | exact hq9 | refine List.Mem.tail _ ?_)))
  k_with "binaryOp Pow int int" => ((k_here; (refine' pow_lit ?kb1 ?kb2 ?kb3 ?_); (case kb1 => decide); (case kb2 => decide); (case kb3 => ((simp only [Int.reduceToNat, Int.reducePow]); exact rfl))))
  k_with "CompSrc" => ((k_here; k_dflt (first | (refine LCg.CompSrc.ledger (by rfl) (by k_asm) (by k_asm) (by k_mem) (by first | size_fits | exact Nat.le_of_ble_eq_true rfl) ?_; intro g'; lcg_lit) | (refine LCg.CompSrc.range (by rfl) (by k_asm) (by k_asm) (by assumption) (by first | decide | rfl) (by first | rfl | decide) (by first | size_fits | exact Nat.le_of_ble_eq_true rfl) ?_; intro g'; lcg_lit))))
  k_with "CompRest" => ((with_unfolding_all first | (refine LCg.CompRest.succ ?_; intro v' I' oI' C' oC' D' m' h' tk' E' hv' hC' hx' F' N' off' ne'; (first | lcg_open hv' | (obtain ⟨t9', hv9'⟩ := hv'; subst hv9')); (obtain ⟨ne1', ne2', ne3'⟩ := ne')) | refine LCg.CompRest.zero ?_))
  k_with "CompEnd" => ((first | (refine' compEnd0 ?kF ?kN ?ko ?kS ?_; (case kN => assumption); (case kF => assumption); (case ko => assumption); (case kS => lcg_src)) | (refine' compEnd2 ?kF ?kN ?kx ?kd ?ko ?kS ?_; (case kN => assumption); (case kF => assumption); (case kx => exact ⟨by k_ne, by k_ne, by k_ne⟩); (case kd => exact ⟨by k_ne, by k_ne, by k_ne⟩); (case ko => assumption); (case kS => lcg_src)) | (refine' compEnd1 ?kF ?kN ?kx ?ko ?kS ?_; (case kN => assumption); (case kF => assumption); (case kx => exact ⟨by k_ne, by k_ne, by k_ne⟩); (case ko => assumption); (case kS => lcg_src)) | lcg_end))
  k_with "k_ne" => ((refine neN ?_; (try dsimp only); first | (with_reducible assumption) | exact Ne.symm (by with_reducible assumption) | exact Nat.ne_of_gt (by with_reducible assumption) | exact Nat.ne_of_lt (by with_reducible assumption) | exact neA (by with_reducible assumption) (by k_mem) | exact Ne.symm (neA (by with_reducible assumption) (by k_mem)) | exact neO (by with_reducible assumption) (by k_mem) | exact Ne.symm (neO (by with_reducible assumption) (by k_mem)) | exact neI (by with_reducible assumption) (by k_mem) | exact Ne.symm (neI (by with_reducible assumption) (by k_mem)) | exact neC (by with_reducible assumption) (by k_mem) | exact Ne.symm (neC (by with_reducible assumption) (by k_mem)) | exact neD (by with_reducible assumption) (by k_mem) | exact Ne.symm (neD (by with_reducible assumption) (by k_mem)) | exact neA2 (by with_reducible assumption) (by with_reducible assumption) (by k_mem) | exact Ne.symm (neA2 (by with_reducible assumption) (by with_reducible assumption) (by k_mem)) | omega))
  k_with "FinE" => (((unfold LCg.FinE); intro D' h' tk' F' N' o1'; (try simp only [List.nil_append, List.cons_append] at N'); (try dsimp only)))
  k_with "FinA" => (((unfold LCg.FinA); intro D' h' tk' F' N' o1'; (try simp only [List.nil_append, List.cons_append] at N'); (try dsimp only)))
  trivial
theorem comp_ind {prog : Program} {w : World} {A : Around} {h₀ : Heap} {L : Addr} {m : Str → Option Value} {env : Env} {elt : Expr} {x : Str} {scope : Scope} {cl : List (Str × Addr)} {s : Shared} {S : List (Addr × Obj) → Prop} {P : Nat → Value → Prop} {Fin : List Value → List (Addr × Obj) → Prop} (J : Nat → List Value → List (Addr × Obj) → Prop) (n : Nat)
    (zero : ∀ ys nw, J n ys nw → Fin ys nw)
    (step : ∀ k i ys nw, i < n → J i ys nw → (∀ ys' nw', J (i + 1) ys' nw' → LCg.CompRest prog w A h₀ L m env elt x scope cl s S P Fin k (i + 1) ys' nw') → LCg.CompRest prog w A h₀ L m env elt x scope cl s S P Fin (k + 1) i ys nw) :
    ∀ {k i : Nat} {ys : List Value} {nw : List (Addr × Obj)}, i + k = n → J i ys nw → LCg.CompRest prog w A h₀ L m env elt x scope cl s S P Fin k i ys nw
  | 0, i, ys, nw, e, h => LCg.CompRest.zero (zero ys nw (by rw [Nat.add_zero] at e; exact e ▸ h))
  | k + 1, i, ys, nw, e, h => step k i ys nw (by omega) h fun ys' nw' h' => comp_ind J n zero step (by omega) h'
theorem rs6 {d : Int} (h0 : 0 ≤ d) (h : d < 6) : Builtin.Range.small 0 d 1 = true ∧ Builtin.Range.rangeSize 0 d 1 = ((d.toNat : Nat) : Int) ∧ d.toNat ≤ sizeLine := by
  have : d = 0 ∨ d = 1 ∨ d = 2 ∨ d = 3 ∨ d = 4 ∨ d = 5 := by omega
  rcases this with h | h | h | h | h | h <;> subst h <;> exact ⟨by decide, by decide, by decide⟩
/-- the row's list stands in the ledger -/
noncomputable def RowAt (nw : List (Addr × Obj)) (v : Value) (q : Row) : Prop := ∃ (l : Addr) (t0 t1 t2 t3 : Tok), v = .ref l ∧ (l, LCg.lst [.int (q.1 : Int) t0, .int (q.2.1 : Int) t1, .int (q.2.2.1 : Int) t2, .int (q.2.2.2 : Int) t3]) ∈ nw
noncomputable def RowsIn (nw : List (Addr × Obj)) (ys : List Value) (rs : List Row) : Prop := ys.length = rs.length ∧ ∀ (i : Nat) (v : Value), ys[i]? = some v → ∃ q, rs[i]? = some q ∧ RowAt nw v q ∧ Le3 q
theorem RowsIn.nil {nw : List (Addr × Obj)} : RowsIn nw [] [] := ⟨rfl, fun i v h => by simp at h⟩
theorem RowsIn.snoc {nw nw' : List (Addr × Obj)} {ys : List Value} {rs : List Row} {v : Value} {q : Row} (h : RowsIn nw ys rs) (hs : ∀ p ∈ nw, p ∈ nw') (hv : RowAt nw' v q) (h3 : Le3 q) : RowsIn nw' (ys ++ [v]) (rs ++ [q]) := by
  refine ⟨by simp [h.1], fun i u hu => ?_⟩
  rcases Nat.lt_trichotomy i ys.length with hi | hi | hi
  · rw [List.getElem?_append_left hi] at hu
    obtain ⟨q', e, ⟨l, t0, t1, t2, t3, e1, e2⟩, e3⟩ := h.2 i u hu
    exact ⟨q', by rw [List.getElem?_append_left (h.1 ▸ hi)]; exact e, ⟨l, t0, t1, t2, t3, e1, hs _ e2⟩, e3⟩
  · subst hi
    rw [List.getElem?_append_right (Nat.le_refl _), Nat.sub_self] at hu
    have : v = u := by simpa using hu
    subst this
    exact ⟨q, by rw [h.1, List.getElem?_append_right (Nat.le_refl _), Nat.sub_self]; rfl, hv, h3⟩
  · rw [List.getElem?_eq_none (by simp; omega)] at hu
    cases hu
theorem row4 {a b c d : Int} (a0 : 0 ≤ a) (a1 : a < 4) (b0 : 0 ≤ b) (b1 : b < 4) (c0 : 0 ≤ c) (c1 : c < 4) (d0 : 0 ≤ d) (d1 : d < 4) : ∃ q : Row, Le3 q ∧ a = (q.1 : Int) ∧ b = (q.2.1 : Int) ∧ c = (q.2.2.1 : Int) ∧ d = (q.2.2.2 : Int) :=
  ⟨(a.toNat, b.toNat, c.toNat, d.toNat), ⟨by show a.toNat ≤ 3; omega, by show b.toNat ≤ 3; omega, by show c.toNat ≤ 3; omega, by show d.toNat ≤ 3; omega⟩, by show a = (a.toNat : Int); omega, by show b = (b.toNat : Int); omega, by show c = (c.toNat : Int); omega, by show d = (d.toNat : Int); omega⟩
theorem compEndR {h₀ h' : Heap} {L I C D x : Addr} {m : Str → Option Value} {s₁ : Shared} {oI oC oD ox : Obj} {c2 c1 rr : Addr × Obj} {tl : List (Addr × Obj)} {S : List (Addr × Obj) → Prop} {rest : Value → List (Addr × Obj) → Prop} {y : Value} {tk : Nat}
    (F : Fr h₀ L h' m) (N : News h₀ L h' ((x, ox) :: (I, oI) :: (C, oC) :: (D, oD) :: c2 :: c1 :: rr :: tl)) (hx : x ≠ I ∧ x ≠ C ∧ x ≠ D) (off : LCg.Off3 I C D (c2 :: c1 :: rr :: tl)) (hS : S (c2 :: c1 :: rr :: (x, ox) :: tl)) (r : rest y (c2 :: c1 :: rr :: (x, ox) :: tl)) :
    LCg.CompEnd h₀ L m s₁ I oI C oC D oD S rest y { s₁ with heap := h', toks := tk } := by
  refine LCg.CompEnd.intro F N (c2 :: c1 :: rr :: (x, ox) :: tl) (fun q hq => ?_) ⟨off.1, off.2.1, off.2.2.1, hx, off.2.2.2⟩ hS r
  simp only [List.mem_cons] at hq ⊢
  rcases hq with h | h | h | h | h | h | h | h <;> simp [h]
theorem row_end {a2 : Addr} {o2 : Obj} {c1 : Addr × Obj} {r x0 : Addr} {x y a b c d : Int} {tx ty t0 t1 t2 t3 : Tok} {tl : List (Addr × Obj)} {ys : List Value} {rs : List Row} {i nn : Nat} (hx : 0 ≤ x) (hy : 0 ≤ y) (hz : y < 2147483647) (hR : RowsIn tl ys rs) (hli : ys.length = i) (htl : ∀ q ∈ tl, q.1 ≠ r) (ht2 : ∀ q ∈ tl, q.1 ≠ a2) (hne : x0 ≠ r) (hn2 : x0 ≠ a2)
    (a0 : 0 ≤ a) (a1 : a < 4) (b0 : 0 ≤ b) (b1 : b < 4) (c0 : 0 ≤ c) (cc : c < 4) (d0 : 0 ≤ d) (d1 : d < 4) :
    ∃ (x' y' : Int) (tx' ty' : Tok) (rs' : List Row) (tl' : List (Addr × Obj)), (a2, o2) :: c1 :: (r, reelO x y tx ty nn) :: (x0, LCg.lst [.int a t0, .int b t1, .int c t2, .int d t3]) :: tl = (a2, o2) :: c1 :: (r, reelO x' y' tx' ty' nn) :: tl' ∧ 0 ≤ x' ∧ 0 ≤ y' ∧ y' < 2147483647 ∧ (ys ++ [Value.ref x0]).length = i + 1 ∧ RowsIn tl' (ys ++ [.ref x0]) rs' ∧ (∀ q ∈ tl', q.1 ≠ r) ∧ (∀ q ∈ tl', q.1 ≠ a2) := by
  obtain ⟨q, h3, rfl, rfl, rfl, rfl⟩ := row4 a0 a1 b0 b1 c0 cc d0 d1
  refine ⟨x, y, tx, ty, rs ++ [q], _, rfl, hx, hy, hz, by simp [hli], hR.snoc (fun p hp => .tail _ hp) ⟨x0, t0, t1, t2, t3, rfl, .head _⟩ h3, fun p hp => ?_, fun p hp => ?_⟩
  · rcases List.mem_cons.mp hp with rfl | hp
    · exact hne
    · exact htl p hp
  · rcases List.mem_cons.mp hp with rfl | hp
    · exact hn2
    · exact ht2 p hp
theorem pow_nat {prog : Program} {w : World} {A : Around} {E : Value → Shared → Prop} {s : Shared} {b : Int} {n : Nat} {t u : Tok} {Q : Value → Shared → Prop} (hb : b = 2 ∨ b = 3 ∨ b = 5 ∨ b = 7) (hn : n ≤ 3) (h : ∀ z : Int, z = b ^ n → 0 < z → z ≤ 343 → Q (.int z s.toks) { s with toks := s.toks + 1 }) :
    wpAny (model prog w) A (binaryOp .Pow (.int b t) (.int (n : Int) u)) Q E s := by
  have h1 : n = 0 ∨ n = 1 ∨ n = 2 ∨ n = 3 := by omega
  rcases hb with rfl | rfl | rfl | rfl <;> rcases h1 with rfl | rfl | rfl | rfl <;> exact pow_lit (by decide) (by decide) rfl (h _ rfl (by decide) (by decide))
theorem VI_eq {q : Row} {a b c d : Int} (ha : a = (2 : Int) ^ q.1) (hb : b = (3 : Int) ^ q.2.1) (hc : c = (5 : Int) ^ q.2.2.1) (hd : d = (7 : Int) ^ q.2.2.2) : a * b * c * d = VI q := by
  subst ha; subst hb; subst hc; subst hd
  unfold VI V4
  push_cast
  rfl
theorem ints_snoc {ys : List Value} {rs : List Row} {q : Row} {i : Nat} {z : Int} {t : Tok} (h : IntsAre ys ((rs.take i).map VI)) (hq : rs[i]? = some q) (hz : z = VI q) : IntsAre (ys ++ [.int z t]) ((rs.take (i + 1)).map VI) := by
  subst hz
  rw [List.take_add_one, hq, Option.toList_some, List.map_append]
  exact h.append (IntsAre.cons _ _ IntsAre.nil)
theorem compEndX {h₀ h' : Heap} {L I C D : Addr} {m : Str → Option Value} {s₁ : Shared} {oI oC oD : Obj} {e : Addr × Obj} {nws : List (Addr × Obj)} {S : List (Addr × Obj) → Prop} {rest : Value → List (Addr × Obj) → Prop} {y : Value} {tk : Nat}
    (F : Fr h₀ L h' m) (N : News h₀ L h' ((I, oI) :: (C, oC) :: (D, oD) :: e :: nws)) (off : LCg.Off3 I C D nws) (hS : S nws) (r : rest y nws) : LCg.CompEnd h₀ L m s₁ I oI C oC D oD S rest y { s₁ with heap := h', toks := tk } :=
  LCg.CompEnd.intro F N nws (fun q hq => by
    simp only [List.mem_cons] at hq ⊢
    rcases hq with h | h | h | h <;> simp [h]) off hS r
theorem news_one {h₀ h : Heap} {L : Addr} {e : Addr × Obj} {news tl : List (Addr × Obj)} (N : News h₀ L h news) (he : e ∈ tl) (hs : ∀ q ∈ tl, q ∈ news) : News h₀ L h (e :: news) := fun q hq => by
  rcases List.mem_cons.mp hq with rfl | hq
  · exact N _ (hs _ he)
  · exact N q hq
noncomputable def cmp (q : Row) : Nat → Nat
  | 0 => q.1
  | 1 => q.2.1
  | 2 => q.2.2.1
  | _ => q.2.2.2
theorem item_row {prog : Program} {w : World} {A : Around} {E : Value → Shared → Prop} {s : Shared} {h₀ : Heap} {L : Addr} {news : List (Addr × Obj)} {value slice : PySem.Expr} {l : Addr} {q : Row} {t0 t1 t2 t3 : Tok} {i : Nat} {u : Tok} {Q : Value → Shared → Prop}
    (N : News h₀ L s.heap news) (hm : (l, LCg.lst [.int (q.1 : Int) t0, .int (q.2.1 : Int) t1, .int (q.2.2.1 : Int) t2, .int (q.2.2.2 : Int) t3]) ∈ news) (hi : i < 4) (h : ∀ t, Q (.int (cmp q i : Int) t) s)
    (hs : subscripted slice false (.ref l) (.int (i : Int) u) = operate [.ref l, .int (i : Int) u] (getItem (.ref l) (.int (i : Int) u)) := by with_unfolding_all rfl) :
    wpAny (model prog w) A (subscriptTail value slice (.ref l) (.int (i : Int) u)) Q E s := by
  have : i = 0 ∨ i = 1 ∨ i = 2 ∨ i = 3 := by omega
  rcases this with rfl | rfl | rfl | rfl <;> exact my_item N hm (by decide) (by decide) rfl (h _) hs
noncomputable def mxN : List Row → Nat → Nat
  | [], _ => 0
  | q :: rs, j => max (cmp q j) (mxN rs j)
noncomputable def mxAt (rs : List Row) (j : Nat) : Int := ((mxN rs j : Nat) : Int)
theorem mxN_le {rs : List Row} {j : Nat} {q : Row} (h : q ∈ rs) : cmp q j ≤ mxN rs j := by
  induction rs with
  | nil => cases h
  | cons p r ih =>
    rcases List.mem_cons.mp h with rfl | h
    · exact Nat.le_max_left _ _
    · exact Nat.le_trans (ih h) (Nat.le_max_right _ _)
theorem mxN_mem (rs : List Row) (j : Nat) : mxN rs j = 0 ∨ ∃ q ∈ rs, mxN rs j = cmp q j := by
  induction rs with
  | nil => exact .inl rfl
  | cons p r ih =>
    rcases Nat.le_total (cmp p j) (mxN r j) with h | h
    · have e : mxN (p :: r) j = mxN r j := Nat.max_eq_right h
      rw [e]
      rcases ih with h | ⟨q, hq, h⟩
      · exact .inl h
      · exact .inr ⟨q, .tail _ hq, h⟩
    · exact .inr ⟨p, .head _, Nat.max_eq_left h⟩
theorem mx_of {rs : List Row} {j : Nat} {M : Int} (h1 : M ∈ [0] ++ rs.map fun q => (cmp q j : Int)) (h2 : ∀ a, a ∈ [0] ++ rs.map (fun q => (cmp q j : Int)) → a ≤ M) : M = mxAt rs j := by
  unfold mxAt
  have up : M ≤ (mxN rs j : Int) := by
    rcases List.mem_append.mp h1 with h | h
    · have : M = 0 := by simpa using h
      omega
    · obtain ⟨q, hq, rfl⟩ := List.mem_map.mp h
      have := mxN_le (j := j) hq
      omega
  have lo : (mxN rs j : Int) ≤ M := by
    rcases mxN_mem rs j with h | ⟨q, hq, h⟩
    · rw [h]
      exact h2 _ (List.mem_append_left _ (by simp))
    · rw [h]
      exact h2 _ (List.mem_append_right _ (List.mem_map.mpr ⟨q, hq, rfl⟩))
  omega
theorem mxN_bound {rs : List Row} {j : Nat} (h : ∀ q ∈ rs, Le3 q) : mxN rs j ≤ 3 := by
  rcases mxN_mem rs j with e | ⟨q, hq, e⟩
  · rw [e]; decide
  · rw [e]
    obtain ⟨a, b, c, d⟩ := h q hq
    unfold cmp
    split <;> assumption
theorem cmp_snoc {ys : List Value} {rs : List Row} {q : Row} {i j : Nat} {t : Tok} (h : IntsAre ys ((rs.take i).map fun q => (cmp q j : Int))) (hq : rs[i]? = some q) : IntsAre (ys ++ [.int (cmp q j : Int) t]) ((rs.take (i + 1)).map fun q => (cmp q j : Int)) := by
  rw [List.take_add_one, hq, Option.toList_some, List.map_append]
  exact h.append (IntsAre.cons _ _ IntsAre.nil)
theorem news_subset {h₀ h : Heap} {L : Addr} {news tl : List (Addr × Obj)} (N : News h₀ L h news) (hs : ∀ q ∈ tl, q ∈ news) : News h₀ L h tl := fun q hq => N q (hs q hq)
theorem snoc_mx {ms : List Value} {rs : List Row} {i : Nat} {M : Int} {t : Tok} (h : IntsAre ms ((List.range i).map (mxAt rs))) (h1 : M ∈ [0] ++ rs.map fun q => (cmp q i : Int)) (h2 : ∀ a, a ∈ [0] ++ rs.map (fun q => (cmp q i : Int)) → a ≤ M) : IntsAre (ms ++ [.int M t]) ((List.range (i + 1)).map (mxAt rs)) := by
  rw [List.range_succ, List.map_append, mx_of h1 h2]
  exact h.append (IntsAre.cons _ _ IntsAre.nil)
theorem RowsIn.le3 {nw : List (Addr × Obj)} {ys : List Value} {rs : List Row} (h : RowsIn nw ys rs) : ∀ q ∈ rs, Le3 q := by
  intro q hq
  obtain ⟨i, hi, e⟩ := List.mem_iff_getElem.mp hq
  have hy : i < ys.length := h.1 ▸ hi
  obtain ⟨q', e', -, h3⟩ := h.2 i ys[i] (List.getElem?_eq_getElem hy)
  rw [List.getElem?_eq_getElem hi, e] at e'
  cases e'
  exact h3
theorem mxL_N : ∀ (rs : List Row) (e : Row), mxL e rs = mx e (mxN rs 0, mxN rs 1, mxN rs 2, mxN rs 3)
  | [], (a, b, c, d) => by simp [mxL, mx, mxN]
  | q :: r, e => by
    rw [mxL, mxL_N r]
    obtain ⟨a, b, c, d⟩ := e
    obtain ⟨a', b', c', d'⟩ := q
    simp [mx, mxN, cmp, Nat.max_assoc]
theorem mxL_0 (rs : List Row) : mxL (0, 0, 0, 0) rs = (mxN rs 0, mxN rs 1, mxN rs 2, mxN rs 3) := by rw [mxL_N]; simp [mx]
theorem news_in3 {h₀ h : Heap} {L : Addr} {e a b c : Addr × Obj} {news tl : List (Addr × Obj)} (N : News h₀ L h (a :: b :: c :: news)) (he : e ∈ tl) (hs : ∀ q ∈ tl, q ∈ news) : News h₀ L h (a :: b :: c :: e :: news) := fun q hq => by
  refine N q ?_
  simp only [List.mem_cons] at hq ⊢
  rcases hq with h | h | h | h | h
  · exact .inl h
  · exact .inr (.inl h)
  · exact .inr (.inr (.inl h))
  · exact .inr (.inr (.inr (hs q (h ▸ he))))
  · exact .inr (.inr (.inr h))
theorem least_at {w : World} {p : Program} {loose : List Str} {mean : ExcName → Option Value} {mg mb : Str → Option Value}
    {dp un : Nat} {gd : Option (List Code)} {cn : Str} {cs : Scope} {a : Addr} {ccd : Value} {cl : List (Str × Addr)} {outer : List Env} {A₀ : Around} {base h₀ : Heap} {L : Addr} {m : Str → Option Value} {s : Shared} {Q E : Value → Shared → Prop}
    {news : List (Addr × Obj)} {l : Addr} {vs : List Value} {kk : Nat} {rows : List Row}
    (B : Below A₀ base outer h₀) (F : Fr h₀ L s.heap m) (X : (Mine.K w.params).In h₀) (N : News h₀ L s.heap news) (T : Top p loose mean mg mb h₀) (hk : cs.kind = .function)
    (hm : (l, listOf vs.toArray kk) ∈ news) (hv : IntsAre vs (rows.map VI)) (h3 : ∀ r ∈ rows, Le3 r) (hd : dp + 1 < recursionLimit) (hu : un + 8 < cLine)
    (ret : ∀ (t : Tok) (h' : Heap) (tk' : Nat), Fr h₀ L h' m → News h₀ L h' news → Q (.int (VI (mxL (0, 0, 0, 0) rows)) t) { s with heap := h', toks := tk' }) :
    wpAny (model PySem.Challenge.pw_xm0985_01 w) (ktrTop dp un gd cn cs L a ccd cl outer) (call (.ref 99) [.ref l]) Q E s :=
  least_spec B F X (news_one N hm (fun q h => h)) T hk hv h3 hd hu fun t h' tk' F' N' => ret t h' tk' F' (fun q hq => N' q (.tail _ hq))
theorem wd_27 : True := by
  k_with "call ref" => ((k_here; (with_reducible show wpAny _ _ (call (Value.ref 99) _) _ _ _); k_dflt (refine' least_at ?kB ?kF ?kX ?kN ?kT ?kK ?km ?kv ?k3 ?kd ?ke ?_; (case kB => k_asm); (case kF => k_asm); (case kX => k_asm); (case kN => k_asm); (case kT => k_asm); (case kK => first | exact rfl | assumption); (case km => k_mem); (case kv => assumption); (case k3 => assumption); (case kd => ktr_room); (case ke => ktr_units)); intro t' h' tk' F' N'; (try dsimp only); (try k_sweep); walk_say "LEAST"))
  k_with "CompSrc" => ((k_here; first | k_dflt (refine LCg.CompSrc.range (by rfl) (by k_asm) (by k_asm) (by assumption) (by first | decide | rfl) (by first | rfl | decide) (by first | size_fits | exact Nat.le_of_ble_eq_true rfl) ?_; intro g'; lcg_lit) | refine held ?_))
  k_with "CompEnd" => ((refine' compEndR ?kF ?kN ?kx ?ko ?kS ?_; (case kN => assumption); (case kF => assumption); (case kx => exact ⟨by k_ne, by k_ne, by k_ne⟩); (case ko => assumption); (case kS => lcg_src); refine held ?_))
  k_with "CompEnd" => ((refine' compEndX ?kF ?kN ?ko ?kS ?_; (case kN => assumption); (case kF => assumption); (case ko => assumption); (case kS => lcg_src); refine held ?_))
  k_with "binaryOp Pow int int" => ((k_here; (refine' pow_nat ?kb ?kn ?_; (case kb => decide); (case kn => assumption)); intro z' hz' hp' hq'))
  k_with "subscriptTail Name Name ref int" => ((k_here; k_dflt (refine' item_row ?k1 ?k2 ?k3 ?_ ?k4; (case k1 => k_asm); (case k2 => k_mem); (case k3 => assumption); (case k4 => with_unfolding_all rfl)); intro t'))
  k_with "binaryOp Mult int int" => ((k_here; (refine' mul_int ?_ ?kbm); (case kbm => first | exact mulOkL (by omega) (by omega) | exact PySem.IntMulOk.of_right (PySem.intBits_le_64 (by omega) (by omega)))))
  k_with "storeName" => ((k_here; (with_reducible show wpAny _ _ (storeName (envOfC _ _ _ _ _) (PySem.Str.ofString "rows") _) _ _ _); k_dflt (refine' storeX_C ?F ?N ?c ?U ?d ?_ ?a ?b; (case a => rfl); (case b => rfl); (case F => k_asm); (case N => k_asm); (case c => rfl); (case U => k_updF); (case d => k_asm); k_whole; intro h' o' F' N' d'; (try dsimp only at N'); (try dsimp only); (try k_sweep))))
  trivial
set_option maxHeartbeats 1000000 in
theorem multiple_spec : PartSpec 436 4 := by
  intro w p loose mean mg mb dp un gd cn cs a ccd cl outer A₀ base h₀ L m s Q E r x y tx ty nn B F X N T hk hx hy0 hy hd hu ret
  refine wpAny_call ?_
  k_dflt (refine' code_defC ?k1 ?k2 ?k3 ?k4 ?k5 ?kA ?kF ?kK ?k6 ?k7 ?k8 ?k9 ?kB ?kD ?_ ?c2 ?c3 ?c4; (case kA => exact rfl); (case kF => exact rfl); (case kK => exact hk); (case k1 => k_asm); (case k2 => k_asm); (case k3 => k_asm); (case k4 => k_asm); (case k5 => k_asm); (case k6 => k_is); (case k7 => k_is); (case k8 => k_room); (case k9 => exact BindsTo.of_eq rfl); (case kB => exact rfl); (case kD => decide +kernel); (case c2 => exact rfl); (case c3 => exact rfl); (case c4 => exact rfl); k_whole; intro g' L' h' tk' cells' FG' F' N' Y' B' X' T' l1; (try k_lt l1); k_cells Y'; (try simp only [List.cons_append, List.nil_append] at N'); (try dsimp only); (try k_lift B'); (try k_fold))
  have hc1 := lt1 (ltA l1 (.head _))
  have hc2 := lt1 hc1
  have hc3 := lt2 (L' + 1)
  k_steps
  (with_reducible rename IsRange _ _ _ _ _ _ _ _ => hr9)
  (with_reducible rename _ < (6 : Int) => hB9)
  have hS9 := rs6 (by assumption) hB9
  unfold Held
  refine LCg.CompSrc.range (n := Int.toNat _) (by rfl) (by k_asm) (by k_asm) hr9 hS9.1 hS9.2.1 hS9.2.2 ?_
  intro g9
  (with_reducible rename News _ _ _ _ => kN9)
  refine comp_ind (fun i ys nw => ∃ (x y : Int) (tx ty : Tok) (rs : List Row) (tl : List (Addr × Obj)), nw = (_, _) :: (_, _) :: (r, reelO x y tx ty nn) :: tl ∧ 0 ≤ x ∧ 0 ≤ y ∧ y < 2147483647 ∧ ys.length = i ∧ RowsIn tl ys rs ∧ (∀ q ∈ tl, q.1 ≠ r) ∧ (∀ q ∈ tl, q.1 ≠ L' + 1 + 1)) _ ?_ ?_ (Nat.zero_add _) ⟨_, _, _, _, [], [], rfl, by assumption, by assumption, by assumption, rfl, RowsIn.nil, (fun q hq => nomatch hq), fun q hq => nomatch hq⟩
  rotate_left
  · rintro k i ys nw hi ⟨x, y, tx, ty, rs, tl, rfl, hx, hy, hz, hli, hR, htl, ht2⟩ ih
    refine LCg.CompRest.succ ?_
    intro v' I' oI' C' oC' D' m' h' tk' E' hv' hC' hx' F' N' off' ne'
    obtain ⟨t9', hv9'⟩ := hv'
    subst hv9'
    obtain ⟨ne1', ne2', ne3'⟩ := ne'
    k_steps
    unfold Held
    show LCg.CompRest _ _ _ _ _ _ _ _ _ _ _ _ _ _ _ _ _ _ _
    refine ih _ _ ?_
    refine' row_end ?_ ?_ ?_ hR hli htl ht2 ?_ ?_ ?_ ?_ ?_ ?_ ?_ ?_ ?_ ?_
    all_goals first | assumption | k_ne
  · rintro ys nw ⟨x, y, tx, ty, rs, tl, rfl, hx, hy, hz, hli, hR, htl, ht2⟩
    have hle : ys.toArray.size ≤ sizeLine := by rw [List.size_toArray, hli]; exact hS9.2.2
    k_steps
    unfold Held
    refine LCg.CompSrc.ledger (by rfl) (by k_asm) (by k_asm) (by k_mem) hle ?_
    intro g8
    (with_reducible rename News _ _ _ _ => kN8)
    refine comp_ind (fun i zs nw => nw = _ ∧ IntsAre zs ((rs.take i).map VI)) _ ?_ ?_ (Nat.zero_add _) ⟨rfl, IntsAre.nil⟩
    rotate_left
    · rintro k i zs nw hi ⟨rfl, hI⟩ ih
      refine LCg.CompRest.succ ?_
      intro v' I' oI' C' oC' D' m' h' tk' E' hv' hC' hx' F' N' off' ne'
      obtain ⟨q, hq, ⟨l, t0, t1, t2, t3, rfl, hm⟩, h3⟩ := hR.2 i v' (by simpa using hv')
      obtain ⟨h30, h31, h32, h33⟩ := h3
      have kN7 := news_in3 N' hm (by ktr_rel)
      clear N'
      obtain ⟨ne1', ne2', ne3'⟩ := ne'
      k_steps
      unfold Held
      show LCg.CompRest _ _ _ _ _ _ _ _ _ _ _ _ _ _ _ _ _ _ _
      exact ih _ _ ⟨rfl, ints_snoc hI hq (VI_eq (by assumption) (by assumption) (by assumption) (by assumption))⟩
    · rintro zs nw ⟨rfl, hI⟩
      rw [List.take_of_length_le (by rw [← hR.1]; simp)] at hI
      k_steps
      have hle2 : ys.toArray.size ≤ sizeLine := hle
      (with_reducible rename Fr _ _ _ _ => kF6)
      refine assign_comp_cell kF6 rfl (by with_unfolding_all rfl) (by rfl) (by rfl) (by decide) (by rfl) (fun a => by rfl) (fun h => by rfl) (by rfl) (by rfl) ?_
      k_steps
      refine ⟨_, _, _, _, _, 4, _, fun i ms => IntsAre ms ((List.range i).map (mxAt rs)), rfl, rfl, by k_asm, by k_asm, by assumption, by decide, by decide, by decide, IntsAre.nil, ?_, fun ms hJ => ?_⟩
      · intro i ms t I oI C oC cA oA D h tk E' hi hJ hA F N off offA d dA
        k_steps
        unfold Held
        refine LCg.CompSrc.ledger (by rfl) (by k_asm) (by k_asm) (by k_mem) hle2 ?_
        intro g7
        refine comp_ind (fun j us nw => nw = _ ∧ IntsAre us ((rs.take j).map fun q => (cmp q i : Int))) _ ?_ ?_ (Nat.zero_add _) ⟨rfl, IntsAre.nil⟩
        rotate_left
        · rintro k j us nw hj ⟨rfl, hI2⟩ ih
          refine LCg.CompRest.succ ?_
          intro v' I' oI' C' oC' D' m' h' tk' E' hv' hC' hx' F' N' off' ne'
          obtain ⟨q, hq, ⟨l, t0, t1, t2, t3, rfl, hm⟩, h3⟩ := hR.2 j v' (by simpa using hv')
          have kN7 := news_in3 N' hm (by ktr_rel)
          clear N'
          obtain ⟨ne1', ne2', ne3'⟩ := ne'
          k_steps
          unfold Held
          show LCg.CompRest _ _ _ _ _ _ _ _ _ _ _ _ _ _ _ _ _ _ _
          exact ih _ _ ⟨rfl, cmp_snoc hI2 hq⟩
        · rintro us nw ⟨rfl, hI2⟩
          rw [List.take_of_length_le (by rw [← hR.1]; simp)] at hI2
          k_steps
          refine kmk_add_ints (by k_asm) (by k_asm) (News.isList (by k_asm) (by k_mem)) (News.isList (by k_asm) (by k_mem)) (IntsAre.cons _ _ IntsAre.nil) hI2 ?_ ?_
          rotate_left
          · have h5 : rs.length ≤ 5 := by rw [← hR.1, hli]; omega
            refine Nat.le_trans ?_ (show 6 ≤ sizeLine by decide)
            simp only [List.length_map, List.length_cons, List.length_nil]
            omega
          intro D2 us2 h2 F2 N2 l2 hI3
          k_steps
          (with_reducible rename News _ _ _ _ => kN5)
          (with_reducible rename Fr _ _ _ _ => kF5)
          refine ⟨_, _, rfl, kF5, news_subset kN5 (by ktr_rel), snoc_mx hJ (by assumption) (by assumption)⟩
      · intro D h tk F N l7
        have h3all := hR.le3
        have hJ4 : IntsAre ms [((mxN rs 0 : Nat) : Int), ((mxN rs 1 : Nat) : Int), ((mxN rs 2 : Nat) : Int), ((mxN rs 3 : Nat) : Int)] := hJ
        obtain ⟨u0, ms1, rfl, hJ3⟩ := hJ4.cons_inv
        obtain ⟨u1, ms2, rfl, hJ2⟩ := hJ3.cons_inv
        obtain ⟨u2, ms3, rfl, hJ1⟩ := hJ2.cons_inv
        obtain ⟨u3, ms4, rfl, hJ0⟩ := hJ1.cons_inv
        obtain rfl := hJ0.nil_inv
        clear hJ hJ4 hJ3 hJ2 hJ1 hJ0
        have hb0 : mxN rs 0 ≤ 3 := mxN_bound h3all
        have hb1 : mxN rs 1 ≤ 3 := mxN_bound h3all
        have hb2 : mxN rs 2 ≤ 3 := mxN_bound h3all
        have hb3 : mxN rs 3 ≤ 3 := mxN_bound h3all
        k_steps
        (with_reducible rename News _ _ _ _ => kN9)
        refine part_ret ret (by k_asm) kN9 (by k_mem) (by assumption) (by assumption) (by assumption) (decide_eq_true ?_)
        rw [mxL_0]
        exact (VI_eq (q := (mxN rs 0, mxN rs 1, mxN rs 2, mxN rs 3)) (by assumption) (by assumption) (by assumption) (by assumption)).symm
end
section
theorem wd_28 : True := by
  k_with_none
  k_with "eval Call" => (k_here; k_fold)
  k_with "eval BinOp" => (k_here; k_fold)
  k_with "eval Compare" => (k_here; k_fold)
  k_with "isTrue Compare" => (k_here; k_fold)
  k_with "isTrue Call" => (k_here; k_fold)
  k_with "eval BoolOp" => (k_here; k_fold)
  k_with "isTrue BoolOp" => (k_here; k_fold)
  k_with "isTrue" => (k_here; k_fold)
  k_with "eval Attribute" => (k_here; k_fold)
  k_with "eval Tuple" => (k_here; k_fold)
  k_with "eval List" => (k_here; k_fold)
  k_with "eval Subscript" => (k_here; k_fold)
  k_with "eval IfExp" => (k_here; k_fold)
  k_with "execs cons" => (k_here; with_reducible refine gen_tk ?_; intro tk; (try dsimp only))
  k_with "eval Call" => (k_here; with_reducible refine gen_tk ?_; intro tk; (try dsimp only))
  k_with "setAttr ref" => (k_here; with_reducible refine gen_tk ?_; intro tk; (try dsimp only))
  k_with "newList" => (k_here; with_reducible refine gen_tk ?_; intro tk; (try dsimp only))
  k_with "eval BinOp" => (k_here; with_reducible refine gen_tk ?_; intro tk; (try dsimp only))
  k_with "eval Subscript" => (k_here; with_reducible refine gen_tk ?_; intro tk; (try dsimp only))
  k_with "k_all" => (first | assumption | exact all_ne (by with_reducible assumption) (by (intro q9 hq9; repeat (first | exact hq9 | refine List.Mem.tail _ ?_))))
  k_with "subscriptTail Name Constant ref int" => ((k_here; k_dflt (refine' my_item ?k1 ?k2 ?k3 ?k4 ?k5 ?_ ?k7; (case k1 => k_asm); (case k2 => k_mem); (case k3 => decide); (case k4 => decide); (case k5 => exact rfl); (case k7 => with_unfolding_all rfl); k_whole)))
  k_with "call ref" => ((k_here; (with_reducible show wpAny _ _ (call (Value.ref 386) [Value.ref _, Value.int _ _]) _ _ _); k_dflt (refine' wind_at ?kB ?kF ?kX ?kN ?kT ?kK ?kU ?kx ?ky ?kz ?kt ?ku ?kd ?ke ?_; (case kB => k_asm); (case kF => k_asm); (case kX => k_asm); (case kN => k_asm); (case kT => k_asm); (case kK => first | exact rfl | assumption); (case kU => k_updF); (case kx => assumption); (case ky => assumption); (case kz => assumption); (case kt => omega); (case ku => omega); (case kd => ktr_room); (case ke => ktr_units)); intro d' x' y' td' tx' ty' h' tk' hd0 hd1 hx' hy' hz' F' N'; (try dsimp only at N'); (try dsimp only); (try k_sweep); walk_say "WIND"; (try k_extra "wind")))
  k_with "k_room" => (ktr_room)
  k_with "k_units" => (ktr_units)
  k_with "ktr_rel" => ((intro q9 hq9; repeat (first | exact hq9 | refine List.Mem.tail _ ?_)))
  k_with "binaryOp Pow int int" => ((k_here; (refine' pow_lit ?kb1 ?kb2 ?kb3 ?_); (case kb1 => decide); (case kb2 => decide); (case kb3 => ((simp only [Int.reduceToNat, Int.reducePow]); exact rfl))))
  k_with "CompSrc" => ((k_here; k_dflt (first | (refine LCg.CompSrc.ledger (by rfl) (by k_asm) (by k_asm) (by k_mem) (by first | size_fits | exact Nat.le_of_ble_eq_true rfl) ?_; intro g'; lcg_lit) | (refine LCg.CompSrc.range (by rfl) (by k_asm) (by k_asm) (by assumption) (by first | decide | rfl) (by first | rfl | decide) (by first | size_fits | exact Nat.le_of_ble_eq_true rfl) ?_; intro g'; lcg_lit))))
  k_with "CompRest" => ((with_unfolding_all first | (refine LCg.CompRest.succ ?_; intro v' I' oI' C' oC' D' m' h' tk' E' hv' hC' hx' F' N' off' ne'; (first | lcg_open hv' | (obtain ⟨t9', hv9'⟩ := hv'; subst hv9')); (obtain ⟨ne1', ne2', ne3'⟩ := ne')) | refine LCg.CompRest.zero ?_))
  k_with "CompEnd" => ((first | (refine' compEnd0 ?kF ?kN ?ko ?kS ?_; (case kN => assumption); (case kF => assumption); (case ko => assumption); (case kS => lcg_src)) | (refine' compEnd2 ?kF ?kN ?kx ?kd ?ko ?kS ?_; (case kN => assumption); (case kF => assumption); (case kx => exact ⟨by k_ne, by k_ne, by k_ne⟩); (case kd => exact ⟨by k_ne, by k_ne, by k_ne⟩); (case ko => assumption); (case kS => lcg_src)) | (refine' compEnd1 ?kF ?kN ?kx ?ko ?kS ?_; (case kN => assumption); (case kF => assumption); (case kx => exact ⟨by k_ne, by k_ne, by k_ne⟩); (case ko => assumption); (case kS => lcg_src)) | lcg_end))
  k_with "k_ne" => ((refine neN ?_; (try dsimp only); first | (with_reducible assumption) | exact Ne.symm (by with_reducible assumption) | exact Nat.ne_of_gt (by with_reducible assumption) | exact Nat.ne_of_lt (by with_reducible assumption) | exact neA (by with_reducible assumption) (by k_mem) | exact Ne.symm (neA (by with_reducible assumption) (by k_mem)) | exact neO (by with_reducible assumption) (by k_mem) | exact Ne.symm (neO (by with_reducible assumption) (by k_mem)) | exact neI (by with_reducible assumption) (by k_mem) | exact Ne.symm (neI (by with_reducible assumption) (by k_mem)) | exact neC (by with_reducible assumption) (by k_mem) | exact Ne.symm (neC (by with_reducible assumption) (by k_mem)) | exact neD (by with_reducible assumption) (by k_mem) | exact Ne.symm (neD (by with_reducible assumption) (by k_mem)) | exact neA2 (by with_reducible assumption) (by with_reducible assumption) (by k_mem) | exact Ne.symm (neA2 (by with_reducible assumption) (by with_reducible assumption) (by k_mem)) | omega))
  k_with "FinE" => (((unfold LCg.FinE); intro D' h' tk' F' N' o1'; (try simp only [List.nil_append, List.cons_append] at N'); (try dsimp only)))
  k_with "FinA" => (((unfold LCg.FinA); intro D' h' tk' F' N' o1'; (try simp only [List.nil_append, List.cons_append] at N'); (try dsimp only)))
  trivial
theorem allN_nil {d : Addr} : ∀ q ∈ ([] : List (Addr × Obj)), q.1 ≠ d := fun q hq => nomatch hq
theorem allN_cons {d : Addr} {p : Addr × Obj} {r : List (Addr × Obj)} (h : p.1 ≠ d) (hr : ∀ q ∈ r, q.1 ≠ d) : ∀ q ∈ p :: r, q.1 ≠ d := fun q hq => by
  rcases List.mem_cons.mp hq with rfl | hq
  · exact h
  · exact hr q hq
theorem all_neD {d : Addr} {big small : List (Addr × Obj)} (l : ∀ p ∈ big, p.1 < d) (e : small.map Prod.fst = big.map Prod.fst) : ∀ p ∈ small, p.1 ≠ d := fun p hp => by
  have h : p.1 ∈ big.map Prod.fst := e ▸ List.mem_map_of_mem hp
  obtain ⟨q, hq, e'⟩ := List.mem_map.mp h
  have h2 := l q hq
  rw [e'] at h2
  exact Nat.ne_of_lt h2
theorem wd_29 : True := by
  k_with "k_all" => (first | assumption | exact all_neD (by with_reducible assumption) rfl | exact allN_nil | (refine allN_cons (by k_ne) ?_; k_all) | fail "k_all")
  trivial
theorem neQ {d a : Addr} {o : Obj} {news : List (Addr × Obj)} (l : ∀ q ∈ news, q.1 ≠ d) (h : (a, o) ∈ news) : @Ne Nat a d := l _ h
theorem wd_30 : True := by
  k_with "k_ne" => ((refine neN ?_; (try dsimp only); first | exact neQ (by with_reducible assumption) (by k_mem) | exact Ne.symm (neQ (by with_reducible assumption) (by k_mem)) | fail "k_ne"))
  k_with "exec For Name Call cons nil" => ((k_here; refine held ?_))
  k_with "pyIter ref" => ((k_here; refine held ?_))
  k_with "CompSrcT" => ((k_here; refine held ?_))
  trivial
theorem rs7 {d : Int} (h0 : 0 ≤ d) (h : d < 7) : Builtin.Range.small 0 d 1 = true ∧ Builtin.Range.rangeSize 0 d 1 = ((d.toNat : Nat) : Int) ∧ d.toNat ≤ 6 := by
  have : d = 0 ∨ d = 1 ∨ d = 2 ∨ d = 3 ∨ d = 4 ∨ d = 5 ∨ d = 6 := by omega
  rcases this with h | h | h | h | h | h | h <;> subst h <;> exact ⟨by decide, by decide, by decide⟩
theorem setO_two {x : Str} {v : Option Value} {u : Value} {m : Str → Option Value} : (fun y => if y = x then some u else if y = x then v else m y) = setO x (some u) m := by
  funext y
  unfold setO
  by_cases h : y = x <;> simp [h]
theorem wd_31 : True := by
  k_with "storeName" => ((k_here; (with_reducible show wpAny _ _ (storeName (envOfC _ _ _ _ _) (PySem.Str.ofString "now") _) _ _ _); k_dflt (refine' storeX_C ?F ?N ?c ?U ?d ?_ ?a ?b; (case a => rfl); (case b => rfl); (case F => k_asm); (case N => k_asm); (case c => rfl); (case U => k_updF); (case d => k_asm); k_whole; intro h' o' F' N' d'; (try dsimp only at N'); (try dsimp only); (try k_sweep))))
  k_with "storeName" => ((k_here; (with_reducible show wpAny _ _ (storeName (envOfC _ _ _ _ _) (PySem.Str.ofString "span") _) _ _ _); k_dflt (refine' storeX_C ?F ?N ?c ?U ?d ?_ ?a ?b; (case a => rfl); (case b => rfl); (case F => k_asm); (case N => k_asm); (case c => rfl); (case U => k_updF); (case d => k_asm); k_whole; intro h' o' F' N' d'; (try dsimp only at N'); (try dsimp only); (try k_sweep))))
  trivial
theorem comp_indT {prog : Program} {w : World} {A : Around} {h₀ : Heap} {L : Addr} {m : Str → Option Value} {env : Env} {ct elt : Expr} {x : Str} {scope : Scope} {cl : List (Str × Addr)} {s : Shared} {S : List (Addr × Obj) → Prop} {P : Nat → Value → Prop} {Fin : List Value → List (Addr × Obj) → Prop} (J : Nat → List Value → List (Addr × Obj) → Prop) (n : Nat)
    (zero : ∀ ys nw, J n ys nw → Fin ys nw)
    (step : ∀ k i ys nw, i < n → J i ys nw → (∀ ys' nw', J (i + 1) ys' nw' → LCt.CompRestT prog w A h₀ L m env ct elt x scope cl s S P Fin k (i + 1) ys' nw') → LCt.CompRestT prog w A h₀ L m env ct elt x scope cl s S P Fin (k + 1) i ys nw) :
    ∀ {k i : Nat} {ys : List Value} {nw : List (Addr × Obj)}, i + k = n → J i ys nw → LCt.CompRestT prog w A h₀ L m env ct elt x scope cl s S P Fin k i ys nw
  | 0, i, ys, nw, e, h => LCt.CompRestT.zero (zero ys nw (by rw [Nat.add_zero] at e; exact e ▸ h))
  | k + 1, i, ys, nw, e, h => step k i ys nw (by omega) h fun ys' nw' h' => comp_indT J n zero step (by omega) h'
theorem filt_yes {ys : List Value} {ns : List Int} {z : Int} {t : Tok} {i : Nat} {f : Int → Bool} (h : IntsAre ys ((ns.take i).filter f)) (hz : ns[i]? = some z) (e : f z = true) : IntsAre (ys ++ [.int z t]) ((ns.take (i + 1)).filter f) := by
  rw [List.take_add_one, hz, Option.toList_some, List.filter_append, List.filter_cons_of_pos e, List.filter_nil]
  exact h.append (IntsAre.cons _ _ IntsAre.nil)
theorem filt_no {ys : List Value} {ns : List Int} {z : Int} {i : Nat} {f : Int → Bool} (h : IntsAre ys ((ns.take i).filter f)) (hz : ns[i]? = some z) (e : ¬ f z = true) : IntsAre ys ((ns.take (i + 1)).filter f) := by
  rw [List.take_add_one, hz, Option.toList_some, List.filter_append, List.filter_cons_of_neg e, List.filter_nil, List.append_nil]
  exact h
theorem wd_32 : True := by
  k_with "CompEnd" => ((refine' compEnd0 ?kF ?kN ?ko ?kS ?_; (case kN => assumption); (case kF => assumption); (case ko => assumption); (case kS => lcg_src); refine held ?_))
  k_with "call builtin:len" => ((k_here; (with_reducible show wpAny _ _ (call (Value.builtin "len") [Value.ref _]) _ _ _); k_dflt (refine' my_len ?k1 ?k2 ?k3 ?_; (case k1 => k_asm); (case k2 => k_mem); (case k3 => assumption)); intro t'))
  trivial
theorem neq_map {d : Addr} {big small : List (Addr × Obj)} (l : ∀ p ∈ big, p.1 ≠ d) (e : small.map Prod.fst = big.map Prod.fst) : ∀ p ∈ small, p.1 ≠ d := fun p hp => by
  have h : p.1 ∈ big.map Prod.fst := e ▸ List.mem_map_of_mem hp
  obtain ⟨q, hq, e'⟩ := List.mem_map.mp h
  have h2 := l q hq
  rw [e'] at h2
  exact h2
theorem news_skip {h₀ h : Heap} {L : Addr} {a b c d : Addr × Obj} {r : List (Addr × Obj)} (N : News h₀ L h (a :: b :: c :: d :: r)) : News h₀ L h (b :: r) := fun q hq => by
  rcases List.mem_cons.mp hq with rfl | hq
  · exact N _ (.tail _ (.head _))
  · exact N _ (.tail _ (.tail _ (.tail _ (.tail _ hq))))
theorem rec_spec {w : World} {p : Program} {loose : List Str} {mean : ExcName → Option Value} {mg mb : Str → Option Value}
    {dp un : Nat} {gd : Option (List Code)} {cn : Str} {cs : Scope} {a : Addr} {ccd : Value} {cl : List (Str × Addr)} {outer : List Env} {A₀ : Around} {base h₀ : Heap} {L : Addr} {m : Str → Option Value} {s : Shared} {Q E : Value → Shared → Prop}
    {news : List (Addr × Obj)} {x d u : Addr} {us : List Value} {ns : List Int} {k1 : Nat} {now span : Int} {tn ts : Tok} {hv tv : Value} {v0 v1 v2 : Tok}
    (B : Below A₀ base outer h₀) (F : Fr h₀ L s.heap m) (X : (Mine.K w.params).In h₀) (N : News h₀ L s.heap ((u, listOf us.toArray k1) :: (x, instObj 234 d) :: (d, dictOf [⟨PyData.keyHash w.params (Str.ofString "ups"), .str (Str.ofString "ups") v0, .ref u⟩, ⟨PyData.keyHash w.params (Str.ofString "held_until"), .str (Str.ofString "held_until") v1, hv⟩, ⟨PyData.keyHash w.params (Str.ofString "is_there"), .str (Str.ofString "is_there") v2, tv⟩] 3) :: news)) (T : Top p loose mean mg mb h₀) (hk : cs.kind = .function)
    (hdx : d < x) (hu : u ≠ d) (hux : u ≠ x) (hnd : ∀ q ∈ news, q.1 ≠ d) (hi : IntsAre us ns) (hl : us.length ≤ 1000) (hd : dp + 1 < recursionLimit) (hun : un + 8 < cLine)
    (ret : ∀ (u' : Addr) (us' : List Value) (t : Tok) (h' : Heap) (tk' : Nat), IntsAre us' (ns.filter fun z => decide (now - z < span)) → u' ≠ x → u' ≠ d → (∀ q ∈ news, q.1 ≠ u') → Fr h₀ L h' m → News h₀ L h' ((u', LCg.lst us') :: (x, instObj 234 d) :: (d, dictOf [⟨PyData.keyHash w.params (Str.ofString "ups"), .str (Str.ofString "ups") v0, .ref u'⟩, ⟨PyData.keyHash w.params (Str.ofString "held_until"), .str (Str.ofString "held_until") v1, hv⟩, ⟨PyData.keyHash w.params (Str.ofString "is_there"), .str (Str.ofString "is_there") v2, tv⟩] 3) :: news) → Q (.int (us'.length : Int) t) { s with heap := h', toks := tk' }) :
    wpAny (model PySem.Challenge.pw_xm0985_01 w) (ktrTop dp un gd cn cs L a ccd cl outer) (call (.ref 231) [.ref x, .int now tn, .int span ts]) Q E s := by
  refine wpAny_call ?_
  k_dflt (refine' code_defC ?k1 ?k2 ?k3 ?k4 ?k5 ?kA ?kF ?kK ?k6 ?k7 ?k8 ?k9 ?kB ?kD ?_ ?c2 ?c3 ?c4; (case kA => exact rfl); (case kF => exact rfl); (case kK => exact hk); (case k1 => k_asm); (case k2 => k_asm); (case k3 => k_asm); (case k4 => k_asm); (case k5 => k_asm); (case k6 => k_is); (case k7 => k_is); (case k8 => k_room); (case k9 => exact BindsTo.of_eq rfl); (case kB => exact rfl); (case kD => decide +kernel); (case c2 => exact rfl); (case c3 => exact rfl); (case c4 => exact rfl); k_whole; intro g' L' h' tk' cells' FG' F' N' Y' B' X' T' l1; (try k_lt l1); k_cells Y'; (try simp only [List.cons_append, List.nil_append] at N'); (try dsimp only); (try k_lift B'); (try k_fold))
  have hdL : @LT.lt Nat _ d L' := ltA l1 (.tail _ (.tail _ (.head _)))
  have hc1 := lt1 hdL
  have hc2 := lt1 hc1
  k_steps
  unfold Held
  refine LCt.CompSrcT.ledger (by rfl) (by k_asm) (by k_asm) (by k_mem) (by rw [List.size_toArray]; exact Nat.le_trans hl (by decide)) ?_
  intro g9
  refine comp_indT (fun i ys nw => nw = _ ∧ IntsAre ys ((ns.take i).filter fun z => decide (now - z < span))) _ ?_ ?_ (Nat.zero_add _) ⟨rfl, IntsAre.nil⟩
  rotate_left
  · rintro k i ys nw hi9 ⟨rfl, hI⟩ ih
    refine LCt.CompRestT.succ ?_
    intro v' I' oI' C' oC' D' m' h' tk' E' hv' hC' hx' F' N' off' ne'
    obtain ⟨z, tz, rfl, hz⟩ := hi.at i v' (by simpa using hv')
    obtain ⟨ne1', ne2', ne3'⟩ := ne'
    k_steps
    · unfold Held
      show LCt.CompRestT _ _ _ _ _ _ _ _ _ _ _ _ _ _ _ _ _ _ _ _
      refine ih _ _ ⟨rfl, filt_yes hI hz ?_⟩
      exact decide_eq_true (by assumption)
    · unfold Held
      show LCt.CompRestT _ _ _ _ _ _ _ _ _ _ _ _ _ _ _ _ _ _ _ _
      refine ih _ _ ⟨rfl, filt_no hI hz ?_⟩
      exact fun e => absurd (of_decide_eq_true e) (by assumption)
  · rintro ys nw ⟨rfl, hI⟩
    rw [List.take_of_length_le (by rw [List.size_toArray, hi.length]; exact Nat.le_refl _)] at hI
    have hyl : ys.length ≤ 1000000 := by
      rw [hI.length]
      exact Nat.le_trans (List.length_filter_le _ _) (by rw [← hi.length]; omega)
    k_steps
    (with_reducible rename News _ _ _ _ => kN9)
    (with_reducible rename Fr _ _ _ _ => kF9)
    (with_reducible rename LCg.Off1 _ _ => o9)
    refine ret _ ys _ _ _ hI (by k_ne) (by k_ne) (fun q hq => off1_mem o9 q (.tail _ (.tail _ (.tail _ (.tail _ (.tail _ hq)))))) kF9 fun q hq => kN9 q ?_
    simp only [List.mem_cons] at hq ⊢
    rcases hq with h | h | h | h <;> simp [h]
end
section
theorem wd_33 : True := by
  k_with_none
  k_with "eval Call" => (k_here; k_fold)
  k_with "eval BinOp" => (k_here; k_fold)
  k_with "eval Compare" => (k_here; k_fold)
  k_with "isTrue Compare" => (k_here; k_fold)
  k_with "isTrue Call" => (k_here; k_fold)
  k_with "eval BoolOp" => (k_here; k_fold)
  k_with "isTrue BoolOp" => (k_here; k_fold)
  k_with "isTrue" => (k_here; k_fold)
  k_with "eval Attribute" => (k_here; k_fold)
  k_with "eval Tuple" => (k_here; k_fold)
  k_with "eval List" => (k_here; k_fold)
  k_with "eval Subscript" => (k_here; k_fold)
  k_with "eval IfExp" => (k_here; k_fold)
  k_with "execs cons" => (k_here; with_reducible refine gen_tk ?_; intro tk; (try dsimp only))
  k_with "eval Call" => (k_here; with_reducible refine gen_tk ?_; intro tk; (try dsimp only))
  k_with "setAttr ref" => (k_here; with_reducible refine gen_tk ?_; intro tk; (try dsimp only))
  k_with "newList" => (k_here; with_reducible refine gen_tk ?_; intro tk; (try dsimp only))
  k_with "eval BinOp" => (k_here; with_reducible refine gen_tk ?_; intro tk; (try dsimp only))
  k_with "eval Subscript" => (k_here; with_reducible refine gen_tk ?_; intro tk; (try dsimp only))
  k_with "k_all" => (first | assumption | exact all_ne (by with_reducible assumption) (by (intro q9 hq9; repeat (first | exact hq9 | refine List.Mem.tail _ ?_))))
  k_with "subscriptTail Name Constant ref int" => ((k_here; k_dflt (refine' my_item ?k1 ?k2 ?k3 ?k4 ?k5 ?_ ?k7; (case k1 => k_asm); (case k2 => k_mem); (case k3 => decide); (case k4 => decide); (case k5 => exact rfl); (case k7 => with_unfolding_all rfl); k_whole)))
  k_with "call ref" => ((k_here; (with_reducible show wpAny _ _ (call (Value.ref 386) [Value.ref _, Value.int _ _]) _ _ _); k_dflt (refine' wind_at ?kB ?kF ?kX ?kN ?kT ?kK ?kU ?kx ?ky ?kz ?kt ?ku ?kd ?ke ?_; (case kB => k_asm); (case kF => k_asm); (case kX => k_asm); (case kN => k_asm); (case kT => k_asm); (case kK => first | exact rfl | assumption); (case kU => k_updF); (case kx => assumption); (case ky => assumption); (case kz => assumption); (case kt => omega); (case ku => omega); (case kd => ktr_room); (case ke => ktr_units)); intro d' x' y' td' tx' ty' h' tk' hd0 hd1 hx' hy' hz' F' N'; (try dsimp only at N'); (try dsimp only); (try k_sweep); walk_say "WIND"; (try k_extra "wind")))
  k_with "k_room" => (ktr_room)
  k_with "k_units" => (ktr_units)
  k_with "ktr_rel" => ((intro q9 hq9; repeat (first | exact hq9 | refine List.Mem.tail _ ?_)))
  k_with "binaryOp Pow int int" => ((k_here; (refine' pow_lit ?kb1 ?kb2 ?kb3 ?_); (case kb1 => decide); (case kb2 => decide); (case kb3 => ((simp only [Int.reduceToNat, Int.reducePow]); exact rfl))))
  k_with "CompSrc" => ((k_here; k_dflt (first | (refine LCg.CompSrc.ledger (by rfl) (by k_asm) (by k_asm) (by k_mem) (by first | size_fits | exact Nat.le_of_ble_eq_true rfl) ?_; intro g'; lcg_lit) | (refine LCg.CompSrc.range (by rfl) (by k_asm) (by k_asm) (by assumption) (by first | decide | rfl) (by first | rfl | decide) (by first | size_fits | exact Nat.le_of_ble_eq_true rfl) ?_; intro g'; lcg_lit))))
  k_with "CompRest" => ((with_unfolding_all first | (refine LCg.CompRest.succ ?_; intro v' I' oI' C' oC' D' m' h' tk' E' hv' hC' hx' F' N' off' ne'; (first | lcg_open hv' | (obtain ⟨t9', hv9'⟩ := hv'; subst hv9')); (obtain ⟨ne1', ne2', ne3'⟩ := ne')) | refine LCg.CompRest.zero ?_))
  k_with "CompEnd" => ((first | (refine' compEnd0 ?kF ?kN ?ko ?kS ?_; (case kN => assumption); (case kF => assumption); (case ko => assumption); (case kS => lcg_src)) | (refine' compEnd2 ?kF ?kN ?kx ?kd ?ko ?kS ?_; (case kN => assumption); (case kF => assumption); (case kx => exact ⟨by k_ne, by k_ne, by k_ne⟩); (case kd => exact ⟨by k_ne, by k_ne, by k_ne⟩); (case ko => assumption); (case kS => lcg_src)) | (refine' compEnd1 ?kF ?kN ?kx ?ko ?kS ?_; (case kN => assumption); (case kF => assumption); (case kx => exact ⟨by k_ne, by k_ne, by k_ne⟩); (case ko => assumption); (case kS => lcg_src)) | lcg_end))
  k_with "k_ne" => ((refine neN ?_; (try dsimp only); first | (with_reducible assumption) | exact Ne.symm (by with_reducible assumption) | exact Nat.ne_of_gt (by with_reducible assumption) | exact Nat.ne_of_lt (by with_reducible assumption) | exact neA (by with_reducible assumption) (by k_mem) | exact Ne.symm (neA (by with_reducible assumption) (by k_mem)) | exact neO (by with_reducible assumption) (by k_mem) | exact Ne.symm (neO (by with_reducible assumption) (by k_mem)) | exact neI (by with_reducible assumption) (by k_mem) | exact Ne.symm (neI (by with_reducible assumption) (by k_mem)) | exact neC (by with_reducible assumption) (by k_mem) | exact Ne.symm (neC (by with_reducible assumption) (by k_mem)) | exact neD (by with_reducible assumption) (by k_mem) | exact Ne.symm (neD (by with_reducible assumption) (by k_mem)) | exact neA2 (by with_reducible assumption) (by with_reducible assumption) (by k_mem) | exact Ne.symm (neA2 (by with_reducible assumption) (by with_reducible assumption) (by k_mem)) | omega))
  k_with "FinE" => (((unfold LCg.FinE); intro D' h' tk' F' N' o1'; (try simp only [List.nil_append, List.cons_append] at N'); (try dsimp only)))
  k_with "FinA" => (((unfold LCg.FinA); intro D' h' tk' F' N' o1'; (try simp only [List.nil_append, List.cons_append] at N'); (try dsimp only)))
  k_with "k_all" => (first | assumption | exact all_neD (by with_reducible assumption) rfl | exact allN_nil | (refine allN_cons (by k_ne) ?_; k_all) | fail "k_all")
  k_with "k_ne" => ((refine neN ?_; (try dsimp only); first | exact neQ (by with_reducible assumption) (by k_mem) | exact Ne.symm (neQ (by with_reducible assumption) (by k_mem)) | fail "k_ne"))
  trivial
theorem rec_at {w : World} {p : Program} {loose : List Str} {mean : ExcName → Option Value} {mg mb : Str → Option Value}
    {dp un : Nat} {gd : Option (List Code)} {cn : Str} {cs : Scope} {a : Addr} {ccd : Value} {cl : List (Str × Addr)} {outer : List Env} {A₀ : Around} {base h₀ : Heap} {L : Addr} {m : Str → Option Value} {s : Shared} {Q E : Value → Shared → Prop}
    {news : List (Addr × Obj)} {x d u : Addr} {g : Obj → List (Addr × Obj)} {us : List Value} {ns : List Int} {k1 : Nat} {now span : Int} {tn ts : Tok} {hv tv : Value} {v0 v1 v2 : Tok}
    (B : Below A₀ base outer h₀) (F : Fr h₀ L s.heap m) (X : (Mine.K w.params).In h₀) (N : News h₀ L s.heap news) (T : Top p loose mean mg mb h₀) (hk : cs.kind = .function)
    (mu : (u, listOf us.toArray k1) ∈ news) (mx : (x, instObj 234 d) ∈ news) (U : UpdF d (dictOf [⟨PyData.keyHash w.params (Str.ofString "ups"), .str (Str.ofString "ups") v0, .ref u⟩, ⟨PyData.keyHash w.params (Str.ofString "held_until"), .str (Str.ofString "held_until") v1, hv⟩, ⟨PyData.keyHash w.params (Str.ofString "is_there"), .str (Str.ofString "is_there") v2, tv⟩] 3) news g) (hdx : d < x) (hu : u ≠ d) (hux : u ≠ x) (hi : IntsAre us ns) (hl : us.length ≤ 1000) (hd : dp + 1 < recursionLimit) (hun : un + 8 < cLine)
    (ret : ∀ (u' : Addr) (us' : List Value) (t : Tok) (h' : Heap) (tk' : Nat), IntsAre us' (ns.filter fun z => decide (now - z < span)) → us'.length ≤ us.length → (∀ q ∈ g (dictOf [⟨PyData.keyHash w.params (Str.ofString "ups"), .str (Str.ofString "ups") v0, .ref u'⟩, ⟨PyData.keyHash w.params (Str.ofString "held_until"), .str (Str.ofString "held_until") v1, hv⟩, ⟨PyData.keyHash w.params (Str.ofString "is_there"), .str (Str.ofString "is_there") v2, tv⟩] 3), q.1 ≠ u') → Fr h₀ L h' m → News h₀ L h' ((u', LCg.lst us') :: g (dictOf [⟨PyData.keyHash w.params (Str.ofString "ups"), .str (Str.ofString "ups") v0, .ref u'⟩, ⟨PyData.keyHash w.params (Str.ofString "held_until"), .str (Str.ofString "held_until") v1, hv⟩, ⟨PyData.keyHash w.params (Str.ofString "is_there"), .str (Str.ofString "is_there") v2, tv⟩] 3)) → Q (.int (us'.length : Int) t) { s with heap := h', toks := tk' }) :
    wpAny (model PySem.Challenge.pw_xm0985_01 w) (ktrTop dp un gd cn cs L a ccd cl outer) (call (.ref 231) [.ref x, .int now tn, .int span ts]) Q E s := by
  obtain ⟨pre, post, rfl, hg, a1, b1⟩ := U.split
  refine rec_spec (news := pre ++ post) (us := us) (k1 := k1) (hv := hv) (tv := tv) (v0 := v0) (v1 := v1) (v2 := v2) B F X (fun q hq => N q ?_) T hk hdx hu hux (fun q hq => (List.mem_append.mp hq).elim (a1 q) (b1 q)) hi hl hd hun ?_
  · rcases List.mem_cons.mp hq with rfl | hq
    · exact mu
    · rcases List.mem_cons.mp hq with rfl | hq
      · exact mx
      · rcases List.mem_cons.mp hq with rfl | hq
        · exact List.mem_append_right _ (.head _)
        · rcases List.mem_append.mp hq with hq | hq
          · exact List.mem_append_left _ hq
          · exact List.mem_append_right _ (.tail _ hq)
  · intro u' us' t h' tk' hI hx hd' hn F' N'
    refine ret u' us' t h' tk' hI (by rw [hI.length, hi.length]; exact List.length_filter_le _ _) ?_ F' ?_
    · rw [hg]
      intro q hq
      rcases List.mem_append.mp hq with hq | hq
      · exact hn q (List.mem_append_left _ hq)
      · rcases List.mem_cons.mp hq with rfl | hq
        · exact Ne.symm hd'
        · exact hn q (List.mem_append_right _ hq)
    · rw [hg]
      intro q hq
      refine N' q ?_
      rcases List.mem_cons.mp hq with rfl | hq
      · exact .head _
      · refine .tail _ (.tail _ ?_)
        rcases List.mem_append.mp hq with hq | hq
        · exact .tail _ (List.mem_append_left _ hq)
        · rcases List.mem_cons.mp hq with rfl | hq
          · exact .head _
          · exact .tail _ (List.mem_append_right _ hq)
theorem wd_34 : True := by
  k_with "call ref" => ((k_here; (with_reducible show wpAny _ _ (call (Value.ref 231) _) _ _ _); k_dflt (refine' rec_at ?kB ?kF ?kX ?kN ?kT ?kK ?m1 ?m2 ?kU ?k1 ?k2 ?k3 ?ki ?kl ?kd ?ke ?_; (case kB => k_asm); (case kF => k_asm); (case kX => k_asm); (case kN => k_asm); (case kT => k_asm); (case kK => first | exact rfl | assumption); (case m1 => k_mem); (case m2 => k_mem); (case kU => k_updF); (case k1 => assumption); (case k2 => k_ne); (case k3 => k_ne); (case ki => assumption); (case kl => assumption); (case kd => ktr_room); (case ke => ktr_units)); intro u' us' t' h' tk' hI' hL' hQ' F' N'; (try dsimp only at N' hQ'); (try dsimp only); (try k_sweep); walk_say "REC"))
  trivial
theorem down_spec {w : World} {p : Program} {loose : List Str} {mean : ExcName → Option Value} {mg mb : Str → Option Value}
    {dp un : Nat} {gd : Option (List Code)} {cn : Str} {cs : Scope} {a : Addr} {ccd : Value} {cl : List (Str × Addr)} {outer : List Env} {A₀ : Around} {base h₀ : Heap} {L : Addr} {m : Str → Option Value} {s : Shared} {Q E : Value → Shared → Prop}
    {news : List (Addr × Obj)} {P0 d0 P1 d1 P2 d2 u R W G : Addr} {oR oW oG oD oE : Obj} {us gs : List Value} {k1 kG : Nat} {i1 i2 i3 e1 e2 e3 : Tok} {u0 u1 u2 u3 u4 u5 v0 v1 v2 w0 w1 w2 w3 w4 : Tok} {tv : Bool} {t7 : Tok}
    (B : Below A₀ base outer h₀) (F : Fr h₀ L s.heap m) (X : (Mine.K w.params).In h₀) (N : News h₀ L s.heap ((u, listOf us.toArray k1) :: (P2, instObj 234 d2) :: (d2, dictOf [⟨PyData.keyHash w.params (Str.ofString "ups"), .str (Str.ofString "ups") v0, .ref u⟩, ⟨PyData.keyHash w.params (Str.ofString "held_until"), .str (Str.ofString "held_until") v1, .none⟩, ⟨PyData.keyHash w.params (Str.ofString "is_there"), .str (Str.ofString "is_there") v2, .bool tv⟩] 3) :: (P1, instObj 201 d1) :: (d1, dictOf [⟨PyData.keyHash w.params (Str.ofString "number"), .str (Str.ofString "number") w0, .int 7 e1⟩, ⟨PyData.keyHash w.params (Str.ofString "speed"), .str (Str.ofString "speed") w1, .int 1000 e2⟩, ⟨PyData.keyHash w.params (Str.ofString "is_up"), .str (Str.ofString "is_up") w2, .bool true⟩, ⟨PyData.keyHash w.params (Str.ofString "is_full"), .str (Str.ofString "is_full") w3, .bool true⟩, ⟨PyData.keyHash w.params (Str.ofString "mtu"), .str (Str.ofString "mtu") w4, .int 1500 e3⟩] 5) :: (G, listOf gs.toArray kG) :: (W, oW) :: (R, oR) :: (P0, instObj 312 d0) :: (d0, dictOf [⟨PyData.keyHash w.params (Str.ofString "most"), .str (Str.ofString "most") u0, .int 99 i1⟩, ⟨PyData.keyHash w.params (Str.ofString "span"), .str (Str.ofString "span") u1, .int 100000 i2⟩, ⟨PyData.keyHash w.params (Str.ofString "hold"), .str (Str.ofString "hold") u2, .int 5 i3⟩, ⟨PyData.keyHash w.params (Str.ofString "rows"), .str (Str.ofString "rows") u3, .ref R⟩, ⟨PyData.keyHash w.params (Str.ofString "watches"), .str (Str.ofString "watches") u4, .ref W⟩, ⟨PyData.keyHash w.params (Str.ofString "changed"), .str (Str.ofString "changed") u5, .ref G⟩] 6) :: news)) (T : Top p loose mean mg mb h₀) (hk : cs.kind = .function)
    (hR : oR.IsDictOf (intKind PySem.Challenge.pw_xm0985_01 w) [(7, Value.ref P1)]) (hW : oW.IsDictOf (intKind PySem.Challenge.pw_xm0985_01 w) [(7, Value.ref P2)]) (loR : (R == sysModules) = false) (loW : (W == sysModules) = false)(lG : ∀ q ∈ (W, oW) :: (R, oR) :: (P0, instObj 312 d0) :: (d0, dictOf [⟨PyData.keyHash w.params (Str.ofString "most"), .str (Str.ofString "most") u0, .int 99 i1⟩, ⟨PyData.keyHash w.params (Str.ofString "span"), .str (Str.ofString "span") u1, .int 100000 i2⟩, ⟨PyData.keyHash w.params (Str.ofString "hold"), .str (Str.ofString "hold") u2, .int 5 i3⟩, ⟨PyData.keyHash w.params (Str.ofString "rows"), .str (Str.ofString "rows") u3, .ref R⟩, ⟨PyData.keyHash w.params (Str.ofString "watches"), .str (Str.ofString "watches") u4, .ref W⟩, ⟨PyData.keyHash w.params (Str.ofString "changed"), .str (Str.ofString "changed") u5, .ref G⟩] 6) :: [], q.1 < G) (l1 : ∀ q ∈ (G, oG) :: (W, oW) :: (R, oR) :: (P0, instObj 312 d0) :: (d0, dictOf [⟨PyData.keyHash w.params (Str.ofString "most"), .str (Str.ofString "most") u0, .int 99 i1⟩, ⟨PyData.keyHash w.params (Str.ofString "span"), .str (Str.ofString "span") u1, .int 100000 i2⟩, ⟨PyData.keyHash w.params (Str.ofString "hold"), .str (Str.ofString "hold") u2, .int 5 i3⟩, ⟨PyData.keyHash w.params (Str.ofString "rows"), .str (Str.ofString "rows") u3, .ref R⟩, ⟨PyData.keyHash w.params (Str.ofString "watches"), .str (Str.ofString "watches") u4, .ref W⟩, ⟨PyData.keyHash w.params (Str.ofString "changed"), .str (Str.ofString "changed") u5, .ref G⟩] 6) :: [], q.1 < d1) (o1 : d1 < P1) (l2 : ∀ q ∈ (P1, instObj 201 d1) :: (d1, oD) :: (G, oG) :: (W, oW) :: (R, oR) :: (P0, instObj 312 d0) :: (d0, dictOf [⟨PyData.keyHash w.params (Str.ofString "most"), .str (Str.ofString "most") u0, .int 99 i1⟩, ⟨PyData.keyHash w.params (Str.ofString "span"), .str (Str.ofString "span") u1, .int 100000 i2⟩, ⟨PyData.keyHash w.params (Str.ofString "hold"), .str (Str.ofString "hold") u2, .int 5 i3⟩, ⟨PyData.keyHash w.params (Str.ofString "rows"), .str (Str.ofString "rows") u3, .ref R⟩, ⟨PyData.keyHash w.params (Str.ofString "watches"), .str (Str.ofString "watches") u4, .ref W⟩, ⟨PyData.keyHash w.params (Str.ofString "changed"), .str (Str.ofString "changed") u5, .ref G⟩] 6) :: [], q.1 < d2) (o2 : d2 < P2) (o0 : d0 < P0) (hu : ∀ q ∈ (P2, instObj 234 d2) :: (d2, oE) :: (P1, instObj 201 d1) :: (d1, oD) :: (G, oG) :: (W, oW) :: (R, oR) :: (P0, instObj 312 d0) :: (d0, dictOf [⟨PyData.keyHash w.params (Str.ofString "most"), .str (Str.ofString "most") u0, .int 99 i1⟩, ⟨PyData.keyHash w.params (Str.ofString "span"), .str (Str.ofString "span") u1, .int 100000 i2⟩, ⟨PyData.keyHash w.params (Str.ofString "hold"), .str (Str.ofString "hold") u2, .int 5 i3⟩, ⟨PyData.keyHash w.params (Str.ofString "rows"), .str (Str.ofString "rows") u3, .ref R⟩, ⟨PyData.keyHash w.params (Str.ofString "watches"), .str (Str.ofString "watches") u4, .ref W⟩, ⟨PyData.keyHash w.params (Str.ofString "changed"), .str (Str.ofString "changed") u5, .ref G⟩] 6) :: news, q.1 ≠ u) (nG : ∀ q ∈ news, q.1 ≠ G) (n1 : ∀ q ∈ news, q.1 ≠ d1) (n2 : ∀ q ∈ news, q.1 ≠ d2)(hg : gs.length ≤ 1000) (hd : dp + 3 < recursionLimit) (hun : un + 24 < cLine)
    (ret : ∀ (gs' : List Value) (kG' : Nat) (t : Tok) (h' : Heap) (tk' : Nat), gs'.length = gs.length + 1 → Fr h₀ L h' m → News h₀ L h' ((u, listOf us.toArray k1) :: (P2, instObj 234 d2) :: (d2, dictOf [⟨PyData.keyHash w.params (Str.ofString "ups"), .str (Str.ofString "ups") v0, .ref u⟩, ⟨PyData.keyHash w.params (Str.ofString "held_until"), .str (Str.ofString "held_until") v1, .none⟩, ⟨PyData.keyHash w.params (Str.ofString "is_there"), .str (Str.ofString "is_there") v2, .bool false⟩] 3) :: (P1, instObj 201 d1) :: (d1, dictOf [⟨PyData.keyHash w.params (Str.ofString "number"), .str (Str.ofString "number") w0, .int 7 e1⟩, ⟨PyData.keyHash w.params (Str.ofString "speed"), .str (Str.ofString "speed") w1, .int 1000 e2⟩, ⟨PyData.keyHash w.params (Str.ofString "is_up"), .str (Str.ofString "is_up") w2, .bool false⟩, ⟨PyData.keyHash w.params (Str.ofString "is_full"), .str (Str.ofString "is_full") w3, .bool true⟩, ⟨PyData.keyHash w.params (Str.ofString "mtu"), .str (Str.ofString "mtu") w4, .int 1500 e3⟩] 5) :: (G, listOf gs'.toArray kG') :: (W, oW) :: (R, oR) :: (P0, instObj 312 d0) :: (d0, dictOf [⟨PyData.keyHash w.params (Str.ofString "most"), .str (Str.ofString "most") u0, .int 99 i1⟩, ⟨PyData.keyHash w.params (Str.ofString "span"), .str (Str.ofString "span") u1, .int 100000 i2⟩, ⟨PyData.keyHash w.params (Str.ofString "hold"), .str (Str.ofString "hold") u2, .int 5 i3⟩, ⟨PyData.keyHash w.params (Str.ofString "rows"), .str (Str.ofString "rows") u3, .ref R⟩, ⟨PyData.keyHash w.params (Str.ofString "watches"), .str (Str.ofString "watches") u4, .ref W⟩, ⟨PyData.keyHash w.params (Str.ofString "changed"), .str (Str.ofString "changed") u5, .ref G⟩] 6) :: news) → Q (.str (Str.ofString "down") t) { s with heap := h', toks := tk' }) :
    wpAny (model PySem.Challenge.pw_xm0985_01 w) (ktrTop dp un gd cn cs L a ccd cl outer) (call (.ref 295) [.ref P0, .int 7 t7]) Q E s := by
  refine wpAny_call ?_
  k_dflt cell_enter
  k_steps
  (with_reducible rename News _ _ _ _ => kN9)
  (with_reducible rename Fr _ _ _ _ => kF9)
  simp only [List.push_toArray] at kN9
  exact ret (gs ++ [_]) _ _ _ _ (by simp) kF9 fun q hq => kN9 q (.tail _ hq)
theorem up_spec {w : World} {p : Program} {loose : List Str} {mean : ExcName → Option Value} {mg mb : Str → Option Value}
    {dp un : Nat} {gd : Option (List Code)} {cn : Str} {cs : Scope} {a : Addr} {ccd : Value} {cl : List (Str × Addr)} {outer : List Env} {A₀ : Around} {base h₀ : Heap} {L : Addr} {m : Str → Option Value} {s : Shared} {Q E : Value → Shared → Prop}
    {news : List (Addr × Obj)} {P0 d0 P1 d1 P2 d2 u R W G : Addr} {oR oW oG oD oE : Obj} {us gs : List Value} {k1 kG : Nat} {i1 i2 i3 e1 e2 e3 : Tok} {u0 u1 u2 u3 u4 u5 v0 v1 v2 w0 w1 w2 w3 w4 : Tok} {tv : Bool} {t7 tn : Tok} {now : Int} {ns : List Int}
    (B : Below A₀ base outer h₀) (F : Fr h₀ L s.heap m) (X : (Mine.K w.params).In h₀) (N : News h₀ L s.heap ((u, listOf us.toArray k1) :: (P2, instObj 234 d2) :: (d2, dictOf [⟨PyData.keyHash w.params (Str.ofString "ups"), .str (Str.ofString "ups") v0, .ref u⟩, ⟨PyData.keyHash w.params (Str.ofString "held_until"), .str (Str.ofString "held_until") v1, .none⟩, ⟨PyData.keyHash w.params (Str.ofString "is_there"), .str (Str.ofString "is_there") v2, .bool tv⟩] 3) :: (P1, instObj 201 d1) :: (d1, dictOf [⟨PyData.keyHash w.params (Str.ofString "number"), .str (Str.ofString "number") w0, .int 7 e1⟩, ⟨PyData.keyHash w.params (Str.ofString "speed"), .str (Str.ofString "speed") w1, .int 1000 e2⟩, ⟨PyData.keyHash w.params (Str.ofString "is_up"), .str (Str.ofString "is_up") w2, .bool false⟩, ⟨PyData.keyHash w.params (Str.ofString "is_full"), .str (Str.ofString "is_full") w3, .bool true⟩, ⟨PyData.keyHash w.params (Str.ofString "mtu"), .str (Str.ofString "mtu") w4, .int 1500 e3⟩] 5) :: (G, listOf gs.toArray kG) :: (W, oW) :: (R, oR) :: (P0, instObj 312 d0) :: (d0, dictOf [⟨PyData.keyHash w.params (Str.ofString "most"), .str (Str.ofString "most") u0, .int 99 i1⟩, ⟨PyData.keyHash w.params (Str.ofString "span"), .str (Str.ofString "span") u1, .int 100000 i2⟩, ⟨PyData.keyHash w.params (Str.ofString "hold"), .str (Str.ofString "hold") u2, .int 5 i3⟩, ⟨PyData.keyHash w.params (Str.ofString "rows"), .str (Str.ofString "rows") u3, .ref R⟩, ⟨PyData.keyHash w.params (Str.ofString "watches"), .str (Str.ofString "watches") u4, .ref W⟩, ⟨PyData.keyHash w.params (Str.ofString "changed"), .str (Str.ofString "changed") u5, .ref G⟩] 6) :: news)) (T : Top p loose mean mg mb h₀) (hk : cs.kind = .function)
    (hR : oR.IsDictOf (intKind PySem.Challenge.pw_xm0985_01 w) [(7, Value.ref P1)]) (hW : oW.IsDictOf (intKind PySem.Challenge.pw_xm0985_01 w) [(7, Value.ref P2)]) (loR : (R == sysModules) = false) (loW : (W == sysModules) = false)(lG : ∀ q ∈ (W, oW) :: (R, oR) :: (P0, instObj 312 d0) :: (d0, dictOf [⟨PyData.keyHash w.params (Str.ofString "most"), .str (Str.ofString "most") u0, .int 99 i1⟩, ⟨PyData.keyHash w.params (Str.ofString "span"), .str (Str.ofString "span") u1, .int 100000 i2⟩, ⟨PyData.keyHash w.params (Str.ofString "hold"), .str (Str.ofString "hold") u2, .int 5 i3⟩, ⟨PyData.keyHash w.params (Str.ofString "rows"), .str (Str.ofString "rows") u3, .ref R⟩, ⟨PyData.keyHash w.params (Str.ofString "watches"), .str (Str.ofString "watches") u4, .ref W⟩, ⟨PyData.keyHash w.params (Str.ofString "changed"), .str (Str.ofString "changed") u5, .ref G⟩] 6) :: [], q.1 < G) (l1 : ∀ q ∈ (G, oG) :: (W, oW) :: (R, oR) :: (P0, instObj 312 d0) :: (d0, dictOf [⟨PyData.keyHash w.params (Str.ofString "most"), .str (Str.ofString "most") u0, .int 99 i1⟩, ⟨PyData.keyHash w.params (Str.ofString "span"), .str (Str.ofString "span") u1, .int 100000 i2⟩, ⟨PyData.keyHash w.params (Str.ofString "hold"), .str (Str.ofString "hold") u2, .int 5 i3⟩, ⟨PyData.keyHash w.params (Str.ofString "rows"), .str (Str.ofString "rows") u3, .ref R⟩, ⟨PyData.keyHash w.params (Str.ofString "watches"), .str (Str.ofString "watches") u4, .ref W⟩, ⟨PyData.keyHash w.params (Str.ofString "changed"), .str (Str.ofString "changed") u5, .ref G⟩] 6) :: [], q.1 < d1) (o1 : d1 < P1) (l2 : ∀ q ∈ (P1, instObj 201 d1) :: (d1, oD) :: (G, oG) :: (W, oW) :: (R, oR) :: (P0, instObj 312 d0) :: (d0, dictOf [⟨PyData.keyHash w.params (Str.ofString "most"), .str (Str.ofString "most") u0, .int 99 i1⟩, ⟨PyData.keyHash w.params (Str.ofString "span"), .str (Str.ofString "span") u1, .int 100000 i2⟩, ⟨PyData.keyHash w.params (Str.ofString "hold"), .str (Str.ofString "hold") u2, .int 5 i3⟩, ⟨PyData.keyHash w.params (Str.ofString "rows"), .str (Str.ofString "rows") u3, .ref R⟩, ⟨PyData.keyHash w.params (Str.ofString "watches"), .str (Str.ofString "watches") u4, .ref W⟩, ⟨PyData.keyHash w.params (Str.ofString "changed"), .str (Str.ofString "changed") u5, .ref G⟩] 6) :: [], q.1 < d2) (o2 : d2 < P2) (o0 : d0 < P0) (hu : ∀ q ∈ (P2, instObj 234 d2) :: (d2, oE) :: (P1, instObj 201 d1) :: (d1, oD) :: (G, oG) :: (W, oW) :: (R, oR) :: (P0, instObj 312 d0) :: (d0, dictOf [⟨PyData.keyHash w.params (Str.ofString "most"), .str (Str.ofString "most") u0, .int 99 i1⟩, ⟨PyData.keyHash w.params (Str.ofString "span"), .str (Str.ofString "span") u1, .int 100000 i2⟩, ⟨PyData.keyHash w.params (Str.ofString "hold"), .str (Str.ofString "hold") u2, .int 5 i3⟩, ⟨PyData.keyHash w.params (Str.ofString "rows"), .str (Str.ofString "rows") u3, .ref R⟩, ⟨PyData.keyHash w.params (Str.ofString "watches"), .str (Str.ofString "watches") u4, .ref W⟩, ⟨PyData.keyHash w.params (Str.ofString "changed"), .str (Str.ofString "changed") u5, .ref G⟩] 6) :: news, q.1 ≠ u) (nG : ∀ q ∈ news, q.1 ≠ G) (n1 : ∀ q ∈ news, q.1 ≠ d1) (n2 : ∀ q ∈ news, q.1 ≠ d2)(hg : gs.length ≤ 1000) (hi : IntsAre us ns) (hl : us.length ≤ 50) (hs : ∀ z ∈ ns, now - z < 100000) (hd : dp + 3 < recursionLimit) (hun : un + 24 < cLine)
    (ret : ∀ (u' : Addr) (us' gs' : List Value) (k1' kG' : Nat) (t : Tok) (h' : Heap) (tk' : Nat), IntsAre us' (ns ++ [now]) → gs'.length = gs.length + 1 → (∀ q ∈ (P2, instObj 234 d2) :: (d2, oE) :: (P1, instObj 201 d1) :: (d1, oD) :: (G, oG) :: (W, oW) :: (R, oR) :: (P0, instObj 312 d0) :: (d0, dictOf [⟨PyData.keyHash w.params (Str.ofString "most"), .str (Str.ofString "most") u0, .int 99 i1⟩, ⟨PyData.keyHash w.params (Str.ofString "span"), .str (Str.ofString "span") u1, .int 100000 i2⟩, ⟨PyData.keyHash w.params (Str.ofString "hold"), .str (Str.ofString "hold") u2, .int 5 i3⟩, ⟨PyData.keyHash w.params (Str.ofString "rows"), .str (Str.ofString "rows") u3, .ref R⟩, ⟨PyData.keyHash w.params (Str.ofString "watches"), .str (Str.ofString "watches") u4, .ref W⟩, ⟨PyData.keyHash w.params (Str.ofString "changed"), .str (Str.ofString "changed") u5, .ref G⟩] 6) :: news, q.1 ≠ u') → Fr h₀ L h' m → News h₀ L h' ((u', listOf us'.toArray k1') :: (P2, instObj 234 d2) :: (d2, dictOf [⟨PyData.keyHash w.params (Str.ofString "ups"), .str (Str.ofString "ups") v0, .ref u'⟩, ⟨PyData.keyHash w.params (Str.ofString "held_until"), .str (Str.ofString "held_until") v1, .none⟩, ⟨PyData.keyHash w.params (Str.ofString "is_there"), .str (Str.ofString "is_there") v2, .bool true⟩] 3) :: (P1, instObj 201 d1) :: (d1, dictOf [⟨PyData.keyHash w.params (Str.ofString "number"), .str (Str.ofString "number") w0, .int 7 e1⟩, ⟨PyData.keyHash w.params (Str.ofString "speed"), .str (Str.ofString "speed") w1, .int 1000 e2⟩, ⟨PyData.keyHash w.params (Str.ofString "is_up"), .str (Str.ofString "is_up") w2, .bool true⟩, ⟨PyData.keyHash w.params (Str.ofString "is_full"), .str (Str.ofString "is_full") w3, .bool true⟩, ⟨PyData.keyHash w.params (Str.ofString "mtu"), .str (Str.ofString "mtu") w4, .int 1500 e3⟩] 5) :: (G, listOf gs'.toArray kG') :: (W, oW) :: (R, oR) :: (P0, instObj 312 d0) :: (d0, dictOf [⟨PyData.keyHash w.params (Str.ofString "most"), .str (Str.ofString "most") u0, .int 99 i1⟩, ⟨PyData.keyHash w.params (Str.ofString "span"), .str (Str.ofString "span") u1, .int 100000 i2⟩, ⟨PyData.keyHash w.params (Str.ofString "hold"), .str (Str.ofString "hold") u2, .int 5 i3⟩, ⟨PyData.keyHash w.params (Str.ofString "rows"), .str (Str.ofString "rows") u3, .ref R⟩, ⟨PyData.keyHash w.params (Str.ofString "watches"), .str (Str.ofString "watches") u4, .ref W⟩, ⟨PyData.keyHash w.params (Str.ofString "changed"), .str (Str.ofString "changed") u5, .ref G⟩] 6) :: news) → Q (.str (Str.ofString "up") t) { s with heap := h', toks := tk' }) :
    wpAny (model PySem.Challenge.pw_xm0985_01 w) (ktrTop dp un gd cn cs L a ccd cl outer) (call (.ref 288) [.ref P0, .int 7 t7, .int now tn]) Q E s := by
  refine wpAny_call ?_
  k_dflt cell_enter
  have hl2 : us.length ≤ 1000 := by omega
  k_steps
  (with_reducible rename News _ _ _ _ => kN9)
  (with_reducible rename Fr _ _ _ _ => kF9)
  simp only [List.push_toArray] at kN9
  (with_reducible rename IntsAre _ (List.filter _ _) => hI9)
  (with_reducible rename ∀ q : Addr × Obj, q ∈ _ → q.1 ≠ _ => hQ9)
  rw [List.filter_eq_self.mpr (fun z hz => decide_eq_true (hs z hz))] at hI9
  refine' ret _ _ _ _ _ _ _ _ ?ka ?kb ?kc kF9 (news_skip kN9)
  case ka => exact hI9.append (IntsAre.cons _ _ IntsAre.nil)
  case kb => simp
  case kc => exact neq_map (fun q hq => hQ9 q (.tail _ (.tail _ hq))) rfl
end
section
inductive PSt (w : World) (P0 d0 R W G : Addr) (up th : Bool) (ns : List Int) (c : Nat) : List (Addr × Obj) → Prop
  | mk (P1 d1 P2 d2 u : Addr) (oR oW : Obj) (us gs : List Value) (k1 kG : Nat) (e1 e2 e3 v0 v1 v2 w0 w1 w2 w3 w4 : Tok) (hR : oR.IsDictOf (intKind PySem.Challenge.pw_xm0985_01 w) [(7, Value.ref P1)]) (hW : oW.IsDictOf (intKind PySem.Challenge.pw_xm0985_01 w) [(7, Value.ref P2)]) (loR : (R == sysModules) = false) (loW : (W == sysModules) = false) (lG : (∀ a ∈ [W, R, P0, d0], @LT.lt Nat _ a G)) (l1 : (∀ a ∈ [G, W, R, P0, d0], @LT.lt Nat _ a d1)) (o1 : @LT.lt Nat _ d1 P1) (l2 : (∀ a ∈ [P1, d1, G, W, R, P0, d0], @LT.lt Nat _ a d2)) (o2 : @LT.lt Nat _ d2 P2) (o0 : @LT.lt Nat _ d0 P0) (hu : (∀ a ∈ [P2, d2, P1, d1, G, W, R, P0, d0], a ≠ u)) (hi : IntsAre us ns) (hgl : gs.length ≤ c) : PSt w P0 d0 R W G up th ns c ((u, listOf us.toArray k1) :: (P2, instObj 234 d2) :: (d2, dictOf [⟨PyData.keyHash w.params (Str.ofString "ups"), .str (Str.ofString "ups") v0, .ref u⟩, ⟨PyData.keyHash w.params (Str.ofString "held_until"), .str (Str.ofString "held_until") v1, .none⟩, ⟨PyData.keyHash w.params (Str.ofString "is_there"), .str (Str.ofString "is_there") v2, .bool th⟩] 3) :: (P1, instObj 201 d1) :: (d1, dictOf [⟨PyData.keyHash w.params (Str.ofString "number"), .str (Str.ofString "number") w0, .int 7 e1⟩, ⟨PyData.keyHash w.params (Str.ofString "speed"), .str (Str.ofString "speed") w1, .int 1000 e2⟩, ⟨PyData.keyHash w.params (Str.ofString "is_up"), .str (Str.ofString "is_up") w2, .bool up⟩, ⟨PyData.keyHash w.params (Str.ofString "is_full"), .str (Str.ofString "is_full") w3, .bool true⟩, ⟨PyData.keyHash w.params (Str.ofString "mtu"), .str (Str.ofString "mtu") w4, .int 1500 e3⟩] 5) :: (G, listOf gs.toArray kG) :: (W, oW) :: (R, oR) :: [])
inductive Tl (PS : List (Addr × Obj)) : List (Addr × Obj) → (List (Addr × Obj) → List (Addr × Obj)) → Prop
  | here : Tl PS PS (fun X => X)
  | tail {p r g} : Tl PS r g → Tl PS (p :: r) (fun X => p :: g X)
theorem Tl.split {PS : List (Addr × Obj)} : ∀ {l : List (Addr × Obj)} {g : List (Addr × Obj) → List (Addr × Obj)}, Tl PS l g → ∃ pre, l = pre ++ PS ∧ ∀ X, g X = pre ++ X
  | _, _, .here => ⟨[], rfl, fun _ => rfl⟩
  | _, _, .tail (p := p) h => by
    obtain ⟨pre, e, hg⟩ := h.split
    exact ⟨p :: pre, by rw [e]; rfl, fun X => by show p :: _ = _; rw [hg]; rfl⟩
theorem lt_map {d : Addr} {as : List Addr} {small : List (Addr × Obj)} (l : ∀ a ∈ as, @LT.lt Nat _ a d) (e : small.map Prod.fst = as) : ∀ q ∈ small, q.1 < d := fun q hq => l _ (e ▸ List.mem_map_of_mem hq)
theorem ne_map {d : Addr} {as : List Addr} {small : List (Addr × Obj)} (l : ∀ a ∈ as, a ≠ d) (e : small.map Prod.fst = as) : ∀ q ∈ small, q.1 ≠ d := fun q hq => l _ (e ▸ List.mem_map_of_mem hq)
theorem hap_map {PS big small : List (Addr × Obj)} (l : ∀ z ∈ PS, ∀ q ∈ big, z.1 ≠ q.1) (e : small.map Prod.fst = big.map Prod.fst) : ∀ z ∈ PS, ∀ q ∈ small, z.1 ≠ q.1 := fun z hz => by
  have := neq_map (d := z.1) (big := big) (small := small) (fun p hp => Ne.symm (l z hz p hp)) e
  exact fun q hq => Ne.symm (this q hq)
theorem neP {d : Addr} {o : Obj} {PS big : List (Addr × Obj)} (l : ∀ z ∈ PS, ∀ q ∈ big, z.1 ≠ q.1) (hm : (d, o) ∈ big) : ∀ z ∈ PS, z.1 ≠ d := fun z hz => l z hz _ hm
theorem all_app {d : Addr} {a b : List (Addr × Obj)} (ha : ∀ q ∈ a, q.1 ≠ d) (hb : ∀ q ∈ b, q.1 ≠ d) : ∀ q ∈ a ++ b, q.1 ≠ d := fun q hq => (List.mem_append.mp hq).elim (ha q) (hb q)
theorem ne_app {d : Addr} {a b : List (Addr × Obj)} (h : ∀ q ∈ a ++ b, q.1 ≠ d) : ∀ q ∈ a, q.1 ≠ d := fun q hq => h q (List.mem_append_left _ hq)
theorem ne_addrs {d : Addr} {as : List Addr} {small : List (Addr × Obj)} (l : ∀ q ∈ small, q.1 ≠ d) (e : small.map Prod.fst = as) : ∀ a ∈ as, a ≠ d := fun a ha => by
  rw [← e] at ha
  obtain ⟨q, hq, e'⟩ := List.mem_map.mp ha
  exact e' ▸ l q hq
theorem neP' {d : Addr} {o : Obj} {PS pre : List (Addr × Obj)} (l : ∀ z ∈ PS, ∀ q ∈ pre, z.1 ≠ q.1) (hm : (d, o) ∈ PS) : ∀ q ∈ pre, q.1 ≠ d := fun q hq => Ne.symm (l _ hm q hq)
theorem hap_new {u u' : Addr} {o o' : Obj} {r r' pre : List (Addr × Obj)} (l : ∀ z ∈ (u, o) :: r, ∀ q ∈ pre, z.1 ≠ q.1) (e : r'.map Prod.fst = r.map Prod.fst) (hn : ∀ q ∈ pre, q.1 ≠ u') : ∀ z ∈ (u', o') :: r', ∀ q ∈ pre, z.1 ≠ q.1 := fun z hz q hq => by
  rcases List.mem_cons.mp hz with rfl | hz
  · exact Ne.symm (hn q hq)
  · have h : z.1 ∈ r.map Prod.fst := e ▸ List.mem_map_of_mem hz
    obtain ⟨y, hy, e'⟩ := List.mem_map.mp h
    exact e' ▸ l y (.tail _ hy) q hq
theorem sub_cons {a : Addr × Obj} {r b : List (Addr × Obj)} (h : a ∈ b) (k : ∀ q ∈ r, q ∈ b) : ∀ q ∈ a :: r, q ∈ b := fun q hq => by
  rcases List.mem_cons.mp hq with rfl | hq
  · exact h
  · exact k q hq
theorem sub_nil {b : List (Addr × Obj)} : ∀ q ∈ ([] : List (Addr × Obj)), q ∈ b := fun q hq => nomatch hq
theorem down_at {w : World} {p : Program} {loose : List Str} {mean : ExcName → Option Value} {mg mb : Str → Option Value}
    {dp un : Nat} {gd : Option (List Code)} {cn : Str} {cs : Scope} {a : Addr} {ccd : Value} {cl : List (Str × Addr)} {outer : List Env} {A₀ : Around} {base h₀ : Heap} {L : Addr} {m : Str → Option Value} {s : Shared} {Q E : Value → Shared → Prop}
    {news : List (Addr × Obj)} {P0 d0 R W G : Addr} {i1 i2 i3 u0 u1 u2 u3 u4 u5 : Tok} {PS : List (Addr × Obj)} {g : List (Addr × Obj) → List (Addr × Obj)} {ns : List Int} {c : Nat} {t7 : Tok} {tv : Bool}
    (B : Below A₀ base outer h₀) (F : Fr h₀ L s.heap m) (X : (Mine.K w.params).In h₀) (N : News h₀ L s.heap news) (T : Top p loose mean mg mb h₀) (hk : cs.kind = .function)
    (hP : PSt w P0 d0 R W G true tv ns c PS) (U : Tl PS news g) (m0 : (P0, instObj 312 d0) ∈ g []) (m1 : (d0, dictOf [⟨PyData.keyHash w.params (Str.ofString "most"), .str (Str.ofString "most") u0, .int 99 i1⟩, ⟨PyData.keyHash w.params (Str.ofString "span"), .str (Str.ofString "span") u1, .int 100000 i2⟩, ⟨PyData.keyHash w.params (Str.ofString "hold"), .str (Str.ofString "hold") u2, .int 5 i3⟩, ⟨PyData.keyHash w.params (Str.ofString "rows"), .str (Str.ofString "rows") u3, .ref R⟩, ⟨PyData.keyHash w.params (Str.ofString "watches"), .str (Str.ofString "watches") u4, .ref W⟩, ⟨PyData.keyHash w.params (Str.ofString "changed"), .str (Str.ofString "changed") u5, .ref G⟩] 6) ∈ g []) (hap : ∀ z ∈ PS, ∀ q ∈ g [], z.1 ≠ q.1) (hc : c ≤ 1000) (hd : dp + 3 < recursionLimit) (hun : un + 24 < cLine)
    (ret : ∀ (PS' : List (Addr × Obj)) (t : Tok) (h' : Heap) (tk' : Nat), PSt w P0 d0 R W G false false ns (c + 1) PS' → (∀ z ∈ PS', ∀ q ∈ g [], z.1 ≠ q.1) → Fr h₀ L h' m → News h₀ L h' (g PS') → Q (.str (Str.ofString "down") t) { s with heap := h', toks := tk' }) :
    wpAny (model PySem.Challenge.pw_xm0985_01 w) (ktrTop dp un gd cn cs L a ccd cl outer) (call (.ref 295) [.ref P0, .int 7 t7]) Q E s := by
  obtain ⟨pre, rfl, hg⟩ := U.split
  have hg0 : g [] = pre := by rw [hg]; exact List.append_nil _
  rw [hg0] at m0 m1 hap
  obtain ⟨P1, d1, P2, d2, u, oR, oW, us, gs, k1, kG, e1, e2, e3, v0, v1, v2, w0, w1, w2, w3, w4, hR, hW, loR, loW, lG, l1, o1, l2, o2, o0, hu, hi, hgl⟩ := hP
  have N' := fun q hq => N q (List.mem_append_right _ hq)
  refine down_spec (tv := tv) (u := u) (P0 := P0) (d0 := d0) (P1 := P1) (d1 := d1) (P2 := P2) (d2 := d2) (R := R) (W := W) (G := G) (oR := oR) (oW := oW) (w0 := w0) (w1 := w1) (w2 := w2) (w3 := w3) (w4 := w4) (v0 := v0) (v1 := v1) (v2 := v2) (u0 := u0) (u1 := u1) (u2 := u2) (u3 := u3) (u4 := u4) (u5 := u5) (e1 := e1) (e2 := e2) (e3 := e3) (i1 := i1) (i2 := i2) (i3 := i3) (us := us) (gs := gs) (k1 := k1) (kG := kG) (oG := default) (oD := default) (oE := default) (news := pre) B F X (fun q hq => ?_) T hk hR hW loR loW (lt_map lG rfl) (lt_map l1 rfl) o1 (lt_map l2 rfl) o2 o0 ?_ (neP' hap (.tail _ (.tail _ (.tail _ (.tail _ (.tail _ (.head _))))))) (neP' hap (.tail _ (.tail _ (.tail _ (.tail _ (.head _)))))) (neP' hap (.tail _ (.tail _ (.head _)))) (by omega) hd hun ?_
  · refine (news_sub N ?_) q hq
    exact sub_cons (List.mem_append_right _ (.head _)) (sub_cons (List.mem_append_right _ (.tail _ (.head _))) (sub_cons (List.mem_append_right _ (.tail _ (.tail _ (.head _)))) (sub_cons (List.mem_append_right _ (.tail _ (.tail _ (.tail _ (.head _))))) (sub_cons (List.mem_append_right _ (.tail _ (.tail _ (.tail _ (.tail _ (.head _)))))) (sub_cons (List.mem_append_right _ (.tail _ (.tail _ (.tail _ (.tail _ (.tail _ (.head _))))))) (sub_cons (List.mem_append_right _ (.tail _ (.tail _ (.tail _ (.tail _ (.tail _ (.tail _ (.head _)))))))) (sub_cons (List.mem_append_right _ (.tail _ (.tail _ (.tail _ (.tail _ (.tail _ (.tail _ (.tail _ (.head _))))))))) (sub_cons (List.mem_append_left _ m0) (sub_cons (List.mem_append_left _ m1) (fun q h => List.mem_append_left _ h))))))))))
  · refine all_app (a := [_, _, _, _, _, _, _, _, _]) (ne_map hu rfl) (neP' hap (.head _))
  · intro gs' kG' t h' tk' hgl' F' N''
    refine ret _ t h' tk' ⟨P1, d1, P2, d2, u, oR, oW, us, gs', k1, kG', e1, e2, e3, v0, v1, v2, w0, w1, w2, w3, w4, hR, hW, loR, loW, lG, l1, o1, l2, o2, o0, hu, hi, by omega⟩ ?_ F' ?_
    · rw [hg0]
      exact hap_new hap rfl (neP' hap (.head _))
    · rw [hg]
      refine news_sub N'' fun q hq => (List.mem_append.mp hq).elim (fun h => .tail _ (.tail _ (.tail _ (.tail _ (.tail _ (.tail _ (.tail _ (.tail _ (.tail _ (.tail _ (h))))))))))) (fun h => ?_)
      exact (sub_cons (.head _) (sub_cons (.tail _ (.head _)) (sub_cons (.tail _ (.tail _ (.head _))) (sub_cons (.tail _ (.tail _ (.tail _ (.head _)))) (sub_cons (.tail _ (.tail _ (.tail _ (.tail _ (.head _))))) (sub_cons (.tail _ (.tail _ (.tail _ (.tail _ (.tail _ (.head _)))))) (sub_cons (.tail _ (.tail _ (.tail _ (.tail _ (.tail _ (.tail _ (.head _))))))) (sub_cons (.tail _ (.tail _ (.tail _ (.tail _ (.tail _ (.tail _ (.tail _ (.head _)))))))) (sub_nil))))))))) q h
theorem up_at {w : World} {p : Program} {loose : List Str} {mean : ExcName → Option Value} {mg mb : Str → Option Value}
    {dp un : Nat} {gd : Option (List Code)} {cn : Str} {cs : Scope} {a : Addr} {ccd : Value} {cl : List (Str × Addr)} {outer : List Env} {A₀ : Around} {base h₀ : Heap} {L : Addr} {m : Str → Option Value} {s : Shared} {Q E : Value → Shared → Prop}
    {news : List (Addr × Obj)} {P0 d0 R W G : Addr} {i1 i2 i3 u0 u1 u2 u3 u4 u5 : Tok} {PS : List (Addr × Obj)} {g : List (Addr × Obj) → List (Addr × Obj)} {ns : List Int} {c : Nat} {t7 tn : Tok} {tv : Bool} {now : Int}
    (B : Below A₀ base outer h₀) (F : Fr h₀ L s.heap m) (X : (Mine.K w.params).In h₀) (N : News h₀ L s.heap news) (T : Top p loose mean mg mb h₀) (hk : cs.kind = .function)
    (hP : PSt w P0 d0 R W G false tv ns c PS) (U : Tl PS news g) (m0 : (P0, instObj 312 d0) ∈ g []) (m1 : (d0, dictOf [⟨PyData.keyHash w.params (Str.ofString "most"), .str (Str.ofString "most") u0, .int 99 i1⟩, ⟨PyData.keyHash w.params (Str.ofString "span"), .str (Str.ofString "span") u1, .int 100000 i2⟩, ⟨PyData.keyHash w.params (Str.ofString "hold"), .str (Str.ofString "hold") u2, .int 5 i3⟩, ⟨PyData.keyHash w.params (Str.ofString "rows"), .str (Str.ofString "rows") u3, .ref R⟩, ⟨PyData.keyHash w.params (Str.ofString "watches"), .str (Str.ofString "watches") u4, .ref W⟩, ⟨PyData.keyHash w.params (Str.ofString "changed"), .str (Str.ofString "changed") u5, .ref G⟩] 6) ∈ g []) (hap : ∀ z ∈ PS, ∀ q ∈ g [], z.1 ≠ q.1) (hc : c ≤ 1000) (hl : ns.length ≤ 50) (hs : ∀ z ∈ ns, now - z < 100000) (hd : dp + 3 < recursionLimit) (hun : un + 24 < cLine)
    (ret : ∀ (PS' : List (Addr × Obj)) (t : Tok) (h' : Heap) (tk' : Nat), PSt w P0 d0 R W G true true (ns ++ [now]) (c + 1) PS' → (∀ z ∈ PS', ∀ q ∈ g [], z.1 ≠ q.1) → Fr h₀ L h' m → News h₀ L h' (g PS') → Q (.str (Str.ofString "up") t) { s with heap := h', toks := tk' }) :
    wpAny (model PySem.Challenge.pw_xm0985_01 w) (ktrTop dp un gd cn cs L a ccd cl outer) (call (.ref 288) [.ref P0, .int 7 t7, .int now tn]) Q E s := by
  obtain ⟨pre, rfl, hg⟩ := U.split
  have hg0 : g [] = pre := by rw [hg]; exact List.append_nil _
  rw [hg0] at m0 m1 hap
  obtain ⟨P1, d1, P2, d2, u, oR, oW, us, gs, k1, kG, e1, e2, e3, v0, v1, v2, w0, w1, w2, w3, w4, hR, hW, loR, loW, lG, l1, o1, l2, o2, o0, hu, hi, hgl⟩ := hP
  have N' := fun q hq => N q (List.mem_append_right _ hq)
  refine up_spec (tv := tv) (u := u) (P0 := P0) (d0 := d0) (P1 := P1) (d1 := d1) (P2 := P2) (d2 := d2) (R := R) (W := W) (G := G) (oR := oR) (oW := oW) (w0 := w0) (w1 := w1) (w2 := w2) (w3 := w3) (w4 := w4) (v0 := v0) (v1 := v1) (v2 := v2) (u0 := u0) (u1 := u1) (u2 := u2) (u3 := u3) (u4 := u4) (u5 := u5) (e1 := e1) (e2 := e2) (e3 := e3) (i1 := i1) (i2 := i2) (i3 := i3) (us := us) (gs := gs) (k1 := k1) (kG := kG) (oG := default) (oD := default) (oE := default) (news := pre) B F X (fun q hq => ?_) T hk hR hW loR loW (lt_map lG rfl) (lt_map l1 rfl) o1 (lt_map l2 rfl) o2 o0 ?_ (neP' hap (.tail _ (.tail _ (.tail _ (.tail _ (.tail _ (.head _))))))) (neP' hap (.tail _ (.tail _ (.tail _ (.tail _ (.head _)))))) (neP' hap (.tail _ (.tail _ (.head _)))) (by omega) hi (by rw [hi.length]; exact hl) hs hd hun ?_
  · refine (news_sub N ?_) q hq
    exact sub_cons (List.mem_append_right _ (.head _)) (sub_cons (List.mem_append_right _ (.tail _ (.head _))) (sub_cons (List.mem_append_right _ (.tail _ (.tail _ (.head _)))) (sub_cons (List.mem_append_right _ (.tail _ (.tail _ (.tail _ (.head _))))) (sub_cons (List.mem_append_right _ (.tail _ (.tail _ (.tail _ (.tail _ (.head _)))))) (sub_cons (List.mem_append_right _ (.tail _ (.tail _ (.tail _ (.tail _ (.tail _ (.head _))))))) (sub_cons (List.mem_append_right _ (.tail _ (.tail _ (.tail _ (.tail _ (.tail _ (.tail _ (.head _)))))))) (sub_cons (List.mem_append_right _ (.tail _ (.tail _ (.tail _ (.tail _ (.tail _ (.tail _ (.tail _ (.head _))))))))) (sub_cons (List.mem_append_left _ m0) (sub_cons (List.mem_append_left _ m1) (fun q h => List.mem_append_left _ h))))))))))
  · refine all_app (a := [_, _, _, _, _, _, _, _, _]) (ne_map hu rfl) (neP' hap (.head _))
  · intro u' us' gs' k1' kG' t h' tk' hI' hgl' hu' F' N''
    refine ret _ t h' tk' ⟨P1, d1, P2, d2, u', oR, oW, us', gs', k1', kG', e1, e2, e3, v0, v1, v2, w0, w1, w2, w3, w4, hR, hW, loR, loW, lG, l1, o1, l2, o2, o0, ne_addrs (ne_app (a := [_, _, _, _, _, _, _, _, _]) hu') rfl, hI', by omega⟩ ?_ F' ?_
    · rw [hg0]
      exact hap_new hap rfl (fun q hq => hu' q (by simp [hq]))
    · rw [hg]
      refine news_sub N'' fun q hq => (List.mem_append.mp hq).elim (fun h => .tail _ (.tail _ (.tail _ (.tail _ (.tail _ (.tail _ (.tail _ (.tail _ (.tail _ (.tail _ (h))))))))))) (fun h => ?_)
      exact (sub_cons (.head _) (sub_cons (.tail _ (.head _)) (sub_cons (.tail _ (.tail _ (.head _))) (sub_cons (.tail _ (.tail _ (.tail _ (.head _)))) (sub_cons (.tail _ (.tail _ (.tail _ (.tail _ (.head _))))) (sub_cons (.tail _ (.tail _ (.tail _ (.tail _ (.tail _ (.head _)))))) (sub_cons (.tail _ (.tail _ (.tail _ (.tail _ (.tail _ (.tail _ (.head _))))))) (sub_cons (.tail _ (.tail _ (.tail _ (.tail _ (.tail _ (.tail _ (.tail _ (.head _)))))))) (sub_nil))))))))) q h
end
section
theorem wd_35 : True := by
  k_with_none
  k_with "eval Call" => (k_here; k_fold)
  k_with "eval BinOp" => (k_here; k_fold)
  k_with "eval Compare" => (k_here; k_fold)
  k_with "isTrue Compare" => (k_here; k_fold)
  k_with "isTrue Call" => (k_here; k_fold)
  k_with "eval BoolOp" => (k_here; k_fold)
  k_with "isTrue BoolOp" => (k_here; k_fold)
  k_with "isTrue" => (k_here; k_fold)
  k_with "eval Attribute" => (k_here; k_fold)
  k_with "eval Tuple" => (k_here; k_fold)
  k_with "eval List" => (k_here; k_fold)
  k_with "eval Subscript" => (k_here; k_fold)
  k_with "eval IfExp" => (k_here; k_fold)
  k_with "execs cons" => (k_here; with_reducible refine gen_tk ?_; intro tk; (try dsimp only))
  k_with "eval Call" => (k_here; with_reducible refine gen_tk ?_; intro tk; (try dsimp only))
  k_with "setAttr ref" => (k_here; with_reducible refine gen_tk ?_; intro tk; (try dsimp only))
  k_with "newList" => (k_here; with_reducible refine gen_tk ?_; intro tk; (try dsimp only))
  k_with "eval BinOp" => (k_here; with_reducible refine gen_tk ?_; intro tk; (try dsimp only))
  k_with "eval Subscript" => (k_here; with_reducible refine gen_tk ?_; intro tk; (try dsimp only))
  k_with "k_all" => (first | assumption | exact all_ne (by with_reducible assumption) (by (intro q9 hq9; repeat (first | exact hq9 | refine List.Mem.tail _ ?_))))
  k_with "subscriptTail Name Constant ref int" => ((k_here; k_dflt (refine' my_item ?k1 ?k2 ?k3 ?k4 ?k5 ?_ ?k7; (case k1 => k_asm); (case k2 => k_mem); (case k3 => decide); (case k4 => decide); (case k5 => exact rfl); (case k7 => with_unfolding_all rfl); k_whole)))
  k_with "call ref" => ((k_here; (with_reducible show wpAny _ _ (call (Value.ref 386) [Value.ref _, Value.int _ _]) _ _ _); k_dflt (refine' wind_at ?kB ?kF ?kX ?kN ?kT ?kK ?kU ?kx ?ky ?kz ?kt ?ku ?kd ?ke ?_; (case kB => k_asm); (case kF => k_asm); (case kX => k_asm); (case kN => k_asm); (case kT => k_asm); (case kK => first | exact rfl | assumption); (case kU => k_updF); (case kx => assumption); (case ky => assumption); (case kz => assumption); (case kt => omega); (case ku => omega); (case kd => ktr_room); (case ke => ktr_units)); intro d' x' y' td' tx' ty' h' tk' hd0 hd1 hx' hy' hz' F' N'; (try dsimp only at N'); (try dsimp only); (try k_sweep); walk_say "WIND"; (try k_extra "wind")))
  k_with "k_room" => (ktr_room)
  k_with "k_units" => (ktr_units)
  k_with "ktr_rel" => ((intro q9 hq9; repeat (first | exact hq9 | refine List.Mem.tail _ ?_)))
  k_with "binaryOp Pow int int" => ((k_here; (refine' pow_lit ?kb1 ?kb2 ?kb3 ?_); (case kb1 => decide); (case kb2 => decide); (case kb3 => ((simp only [Int.reduceToNat, Int.reducePow]); exact rfl))))
  k_with "CompSrc" => ((k_here; k_dflt (first | (refine LCg.CompSrc.ledger (by rfl) (by k_asm) (by k_asm) (by k_mem) (by first | size_fits | exact Nat.le_of_ble_eq_true rfl) ?_; intro g'; lcg_lit) | (refine LCg.CompSrc.range (by rfl) (by k_asm) (by k_asm) (by assumption) (by first | decide | rfl) (by first | rfl | decide) (by first | size_fits | exact Nat.le_of_ble_eq_true rfl) ?_; intro g'; lcg_lit))))
  k_with "CompRest" => ((with_unfolding_all first | (refine LCg.CompRest.succ ?_; intro v' I' oI' C' oC' D' m' h' tk' E' hv' hC' hx' F' N' off' ne'; (first | lcg_open hv' | (obtain ⟨t9', hv9'⟩ := hv'; subst hv9')); (obtain ⟨ne1', ne2', ne3'⟩ := ne')) | refine LCg.CompRest.zero ?_))
  k_with "CompEnd" => ((first | (refine' compEnd0 ?kF ?kN ?ko ?kS ?_; (case kN => assumption); (case kF => assumption); (case ko => assumption); (case kS => lcg_src)) | (refine' compEnd2 ?kF ?kN ?kx ?kd ?ko ?kS ?_; (case kN => assumption); (case kF => assumption); (case kx => exact ⟨by k_ne, by k_ne, by k_ne⟩); (case kd => exact ⟨by k_ne, by k_ne, by k_ne⟩); (case ko => assumption); (case kS => lcg_src)) | (refine' compEnd1 ?kF ?kN ?kx ?ko ?kS ?_; (case kN => assumption); (case kF => assumption); (case kx => exact ⟨by k_ne, by k_ne, by k_ne⟩); (case ko => assumption); (case kS => lcg_src)) | lcg_end))
  k_with "k_ne" => ((refine neN ?_; (try dsimp only); first | (with_reducible assumption) | exact Ne.symm (by with_reducible assumption) | exact Nat.ne_of_gt (by with_reducible assumption) | exact Nat.ne_of_lt (by with_reducible assumption) | exact neA (by with_reducible assumption) (by k_mem) | exact Ne.symm (neA (by with_reducible assumption) (by k_mem)) | exact neO (by with_reducible assumption) (by k_mem) | exact Ne.symm (neO (by with_reducible assumption) (by k_mem)) | exact neI (by with_reducible assumption) (by k_mem) | exact Ne.symm (neI (by with_reducible assumption) (by k_mem)) | exact neC (by with_reducible assumption) (by k_mem) | exact Ne.symm (neC (by with_reducible assumption) (by k_mem)) | exact neD (by with_reducible assumption) (by k_mem) | exact Ne.symm (neD (by with_reducible assumption) (by k_mem)) | exact neA2 (by with_reducible assumption) (by with_reducible assumption) (by k_mem) | exact Ne.symm (neA2 (by with_reducible assumption) (by with_reducible assumption) (by k_mem)) | omega))
  k_with "FinE" => (((unfold LCg.FinE); intro D' h' tk' F' N' o1'; (try simp only [List.nil_append, List.cons_append] at N'); (try dsimp only)))
  k_with "FinA" => (((unfold LCg.FinA); intro D' h' tk' F' N' o1'; (try simp only [List.nil_append, List.cons_append] at N'); (try dsimp only)))
  trivial
theorem j_out {J J' : Nat → (Str → Option Value) → List (Addr × Obj) → Prop} (h : J = J') {i : Nat} {m : Str → Option Value} {n : List (Addr × Obj)} (x : J i m n) : J' i m n := h ▸ x
theorem j_in {J J' : Nat → (Str → Option Value) → List (Addr × Obj) → Prop} (h : J = J') {i : Nat} {m : Str → Option Value} {n : List (Addr × Obj)} (x : J' i m n) : J i m n := h ▸ x
theorem news_pick4 {h₀ h : Heap} {L : Addr} {a0 a1 a2 a3 a4 a5 a6 a7 a8 b1 b2 b3 c e : Addr × Obj} (N : News h₀ L h [a0, a1, a2, a3, a4, a5, a6, a7, a8, b1, b2, b3, c, e]) : News h₀ L h [a0, a1, a2, a3, a4, a5, a6, a7, a8, c] := news_sub N (sub_cons (.head _) (sub_cons (.tail _ (.head _)) (sub_cons (.tail _ (.tail _ (.head _))) (sub_cons (.tail _ (.tail _ (.tail _ (.head _)))) (sub_cons (.tail _ (.tail _ (.tail _ (.tail _ (.head _))))) (sub_cons (.tail _ (.tail _ (.tail _ (.tail _ (.tail _ (.head _)))))) (sub_cons (.tail _ (.tail _ (.tail _ (.tail _ (.tail _ (.tail _ (.head _))))))) (sub_cons (.tail _ (.tail _ (.tail _ (.tail _ (.tail _ (.tail _ (.tail _ (.head _)))))))) (sub_cons (.tail _ (.tail _ (.tail _ (.tail _ (.tail _ (.tail _ (.tail _ (.tail _ (.head _))))))))) (sub_cons (.tail _ (.tail _ (.tail _ (.tail _ (.tail _ (.tail _ (.tail _ (.tail _ (.tail _ (.tail _ (.tail _ (.tail _ (.head _))))))))))))) (sub_nil)))))))))))
theorem pick_mem {z a0 a1 a2 b1 b2 b3 c e : Addr × Obj} (h : z ∈ [a0, a1, a2, c]) : z ∈ [a0, a1, a2, b1, b2, b3, c, e] := (sub_cons (.head _) (sub_cons (.tail _ (.head _)) (sub_cons (.tail _ (.tail _ (.head _))) (sub_cons (.tail _ (.tail _ (.tail _ (.tail _ (.tail _ (.tail _ (.head _))))))) sub_nil)))) z h
theorem neZ {a b : Addr} {o o' : Obj} {PS big : List (Addr × Obj)} (l : ∀ z ∈ PS, ∀ q ∈ big, z.1 ≠ q.1) (hz : (a, o) ∈ PS) (hq : (b, o') ∈ big) : @Ne Nat a b := l _ hz _ hq
theorem map_tt {a b : Str} {u v : Value} {w t : Option Value} {m : Str → Option Value} (h : a ≠ b) : (fun z => if z = a then some u else if z = b then some v else if z = b then w else if z = a then t else m z) = setO b (some v) (setO a (some u) m) := by
  funext z
  unfold setO
  by_cases h1 : z = a
  · rw [if_pos h1, if_neg (fun e => h (h1.symm.trans e)), if_pos h1]
  · rw [if_neg h1]
    by_cases h2 : z = b
    · rw [if_pos h2, if_pos h2]
    · rw [if_neg h2, if_neg h2, if_neg h1, if_neg h2, if_neg h1]
theorem ord2 {U D X I T P d cs cn r uo : Addr × Obj} {rest : List (Addr × Obj)} : ∀ q ∈ D :: P :: d :: cs :: cn :: r :: U :: rest, q ∈ U :: D :: X :: I :: T :: P :: d :: cs :: cn :: r :: uo :: rest := fun q hq => by
  simp only [List.mem_cons] at hq ⊢
  rcases hq with h | h | h | h | h | h | h | h <;> simp [h]
theorem nameit {d b : Int} (h : d < b) : ∃ e, e = d ∧ e < b := ⟨d, rfl, h⟩
theorem ne_tail {z : Addr} {p : Addr × Obj} {as : List (Addr × Obj)} {bs : List (Addr × Obj)} (l : ∀ q ∈ p :: as, z ≠ q.1) (e : bs.map Prod.fst = as.map Prod.fst := by rfl) : ∀ q ∈ bs, z ≠ q.1 := fun q hq => by
  have h : q.1 ∈ as.map Prod.fst := e ▸ List.mem_map_of_mem hq
  obtain ⟨y, hy, e'⟩ := List.mem_map.mp h
  exact e' ▸ l y (.tail _ hy)
noncomputable def bodyOf : FuncBody → List Stmt | .stmts b => b | _ => []
noncomputable def recRest : List Stmt := (bodyOf (fB (tp 45))).drop 2
theorem wd_36 : True := by
  k_with "k_all" => (first | assumption | exact neP (by with_reducible assumption) (by k_mem) | (refine' all_neD ?l ?e; (case l => with_reducible assumption); (case e => exact rfl)) | exact allN_nil | (refine allN_cons (by k_ne) ?_; k_all) | fail "k_all")
  k_with "k_ne" => ((refine neN ?_; (try dsimp only); first | exact neQ (by with_reducible assumption) (by k_mem) | exact Ne.symm (neQ (by with_reducible assumption) (by k_mem)) | exact neZ (by with_reducible assumption) (by k_mem) (by k_mem) | exact Ne.symm (neZ (by with_reducible assumption) (by k_mem) (by k_mem)) | fail "k_ne"))
  k_with "exec For Name Call cons nil" => ((k_here; refine held ?_))
  k_with "pyIter ref" => ((k_here; refine held ?_))
  k_with "CompSrcT" => ((k_here; refine held ?_))
  k_with "CompEnd" => ((refine' compEnd0 ?kF ?kN ?ko ?kS ?_; (case kN => assumption); (case kF => assumption); (case ko => assumption); (case kS => lcg_src); refine held ?_))
  k_with "call builtin:len" => ((k_here; (with_reducible show wpAny _ _ (call (Value.builtin "len") [Value.ref _]) _ _ _); k_dflt (refine' my_len ?k1 ?k2 ?k3 ?_; (case k1 => k_asm); (case k2 => k_mem); (case k3 => assumption)); intro t'))
  k_with "storeName" => ((k_here; (with_reducible show wpAny _ _ (storeName (envOfC _ _ _ _ _) (PySem.Str.ofString "now") _) _ _ _); k_dflt (refine' storeX_C ?F ?N ?c ?U ?d ?_ ?a ?b; (case a => rfl); (case b => rfl); (case F => k_asm); (case N => k_asm); (case c => rfl); (case U => k_updF); (case d => k_asm); k_whole; intro h' o' F' N' d'; (try dsimp only at N'); (try dsimp only); (try k_sweep))))
  k_with "storeName" => ((k_here; (with_reducible show wpAny _ _ (storeName (envOfC _ _ _ _ _) (PySem.Str.ofString "span") _) _ _ _); k_dflt (refine' storeX_C ?F ?N ?c ?U ?d ?_ ?a ?b; (case a => rfl); (case b => rfl); (case F => k_asm); (case N => k_asm); (case c => rfl); (case U => k_updF); (case d => k_asm); k_whole; intro h' o' F' N' d'; (try dsimp only at N'); (try dsimp only); (try k_sweep))))
  k_with "call ref" => ((k_here; (with_reducible show wpAny _ _ (call (Value.ref 288) _) _ _ _); k_dflt (refine' up_at ?kB ?kF ?kX ?kN ?kT ?kK ?kP ?kU ?m0 ?m1 ?kh ?kc ?kl ?ks ?kd ?ke ?_; (case kB => k_asm); (case kF => k_asm); (case kX => k_asm); (case kN => k_asm); (case kT => k_asm); (case kK => first | exact rfl | assumption); (case kP => assumption); (case kU => (repeat (first | exact Tl.here | apply Tl.tail))); (case m0 => ((try dsimp only); k_mem)); (case m1 => ((try dsimp only); k_mem)); (case kh => (refine' hap_map ?l ?e; (case l => with_reducible assumption); (case e => exact rfl))); (case kc => omega); (case kl => omega); (case ks => exact (by assumption : ∀ d : Int, 0 ≤ d → d < 20 → ∀ z ∈ _, _ + d - z < 100000) _ (by assumption) (by assumption)); (case kd => ktr_room); (case ke => ktr_units)); intro PS' t' h' tk' hP' hQ' F' N'; (try dsimp only at N' hQ'); (try dsimp only); (try k_sweep); walk_say "up_at"))
  k_with "call ref" => ((k_here; (with_reducible show wpAny _ _ (call (Value.ref 295) _) _ _ _); k_dflt (refine' down_at ?kB ?kF ?kX ?kN ?kT ?kK ?kP ?kU ?m0 ?m1 ?kh ?kc ?kd ?ke ?_; (case kB => k_asm); (case kF => k_asm); (case kX => k_asm); (case kN => k_asm); (case kT => k_asm); (case kK => first | exact rfl | assumption); (case kP => assumption); (case kU => (repeat (first | exact Tl.here | apply Tl.tail))); (case m0 => ((try dsimp only); k_mem)); (case m1 => ((try dsimp only); k_mem)); (case kh => (refine' hap_map ?l ?e; (case l => with_reducible assumption); (case e => exact rfl))); (case kc => omega); (case kd => ktr_room); (case ke => ktr_units)); intro PS' t' h' tk' hP' hQ' F' N'; (try dsimp only at N' hQ'); (try dsimp only); (try k_sweep); walk_say "down_at"))
  k_with "call ref" => ((k_here; (with_reducible show wpAny _ _ (call (Value.ref 231) _) _ _ _); k_dflt (refine' rec_at ?kB ?kF ?kX ?kN ?kT ?kK ?m1 ?m2 ?kU ?k1 ?k2 ?k3 ?ki ?kl ?kd ?ke ?_; (case kB => k_asm); (case kF => k_asm); (case kX => k_asm); (case kN => k_asm); (case kT => k_asm); (case kK => first | exact rfl | assumption); (case m2 => k_mem); (case kU => k_updF); (case m1 => k_mem); (case k1 => assumption); (case k2 => k_ne); (case k3 => k_ne); (case ki => assumption); (case kl => assumption); (case kd => ktr_room); (case ke => ktr_units)); intro u' us' t' h' tk' hI' hL' hQ' F' N'; (try dsimp only at N' hQ'); (try dsimp only); (try k_sweep); walk_say "REC"))
  trivial
inductive RJ1 (w : World) (P0 d0 R W G r L tm : Addr) (oS : Obj) (nn : Nat) (i1 i2 i3 u0 u1 u2 u3 u4 u5 : Tok) (i : Nat) (m₁ : Str → Option Value) (nw : List (Addr × Obj)) : Prop
  | mk (w₁ : Option Value) (now x y : Int) (tnow tx ty : Tok) (oN' : Obj) (ts : List Value) (ns : List Int) (k2 : Nat) (PS : List (Addr × Obj)) (z0 : m₁ = setO (Str.ofString "turn") w₁ (fun z => if z = Str.ofString "times" then some (.ref tm) else if z = Str.ofString "ports" then some (.ref P0) else if z = Str.ofString "reel" then some (.ref r) else none)) (z1 : nw = (tm, listOf ts.toArray k2) :: (P0, instObj 312 d0) :: (d0, dictOf [⟨PyData.keyHash w.params (Str.ofString "most"), .str (Str.ofString "most") u0, .int 99 i1⟩, ⟨PyData.keyHash w.params (Str.ofString "span"), .str (Str.ofString "span") u1, .int 100000 i2⟩, ⟨PyData.keyHash w.params (Str.ofString "hold"), .str (Str.ofString "hold") u2, .int 5 i3⟩, ⟨PyData.keyHash w.params (Str.ofString "rows"), .str (Str.ofString "rows") u3, .ref R⟩, ⟨PyData.keyHash w.params (Str.ofString "watches"), .str (Str.ofString "watches") u4, .ref W⟩, ⟨PyData.keyHash w.params (Str.ofString "changed"), .str (Str.ofString "changed") u5, .ref G⟩] 6) :: (L + 1 + 1, oS) :: (L + 1, oN') :: (r, reelO x y tx ty nn) :: PS) (z2 : PSt w P0 d0 R W G false false ns (2 * i) PS) (z3 : (∀ z ∈ PS, ∀ q ∈ [(tm, oS), (P0, oS), (d0, oS), (L + 1 + 1, oS), (L + 1, oS), (r, oS)], z.1 ≠ q.1)) (z4 : 0 ≤ x) (z5 : 0 ≤ y) (z6 : y < 2147483647) (z7 : oN'.data = .cell (some (.int now tnow))) (z8 : 0 ≤ now) (z9 : now ≤ 20 * (i : Int)) (z10 : ns.length = i) (z11 : IntsAre ts ns) (z12 : ∀ z ∈ ns, 0 ≤ z ∧ z ≤ now) : RJ1 w P0 d0 R W G r L tm oS nn i1 i2 i3 u0 u1 u2 u3 u4 u5 i m₁ nw
inductive RJ2 (w : World) (P0 d0 R W r L P2 d2 : Addr) (oS oW : Obj) (nn : Nat) (i1 i2 i3 u0 u1 u2 u3 u4 u5 v0 v1 v2 : Tok) (i : Nat) (m₁ : Str → Option Value) (nw : List (Addr × Obj)) : Prop
  | mk (w₁ : Option Value) (now x y : Int) (tnow tx ty : Tok) (oS' oN' : Obj) (v00 : Option Value) (tm u : Addr) (ts us : List Value) (ns : List Int) (k2 k1 : Nat) (z0 : m₁ = setO (Str.ofString "turn") w₁ (setO (Str.ofString "times") (some (.ref tm)) (fun z => if z = Str.ofString "ports" then some (.ref P0) else if z = Str.ofString "reel" then some (.ref r) else none))) (z1 : nw = (tm, listOf ts.toArray k2) :: (P0, instObj 312 d0) :: (d0, dictOf [⟨PyData.keyHash w.params (Str.ofString "most"), .str (Str.ofString "most") u0, .int 99 i1⟩, ⟨PyData.keyHash w.params (Str.ofString "span"), .str (Str.ofString "span") u1, .int 100000 i2⟩, ⟨PyData.keyHash w.params (Str.ofString "hold"), .str (Str.ofString "hold") u2, .int 5 i3⟩, ⟨PyData.keyHash w.params (Str.ofString "rows"), .str (Str.ofString "rows") u3, .ref R⟩, ⟨PyData.keyHash w.params (Str.ofString "watches"), .str (Str.ofString "watches") u4, .ref W⟩, ⟨PyData.keyHash w.params (Str.ofString "changed"), .str (Str.ofString "changed") u5, .ref G⟩] 6) :: (L + 1 + 1, oS') :: (L + 1, oN') :: (r, reelO x y tx ty nn) :: (u, listOf us.toArray k1) :: (P2, instObj 234 d2) :: (d2, dictOf [⟨PyData.keyHash w.params (Str.ofString "ups"), .str (Str.ofString "ups") v0, .ref u⟩, ⟨PyData.keyHash w.params (Str.ofString "held_until"), .str (Str.ofString "held_until") v1, .none⟩, ⟨PyData.keyHash w.params (Str.ofString "is_there"), .str (Str.ofString "is_there") v2, .bool false⟩] 3) :: (W, oW) :: []) (z2 : oS'.data = .cell v00) (z3 : 0 ≤ x) (z4 : 0 ≤ y) (z5 : y < 2147483647) (z6 : oN'.data = .cell (some (.int now tnow))) (z7 : IntsAre ts ns) (z8 : IntsAre us ns) (z9 : us.length ≤ 1000) (z10 : (∀ q ∈ [(P2, oS), (d2, oS), (W, oS), (P0, oS), (d0, oS), (L + 1 + 1, oS), (L + 1, oS), (r, oS)], q.1 ≠ u)) (z11 : (∀ q ∈ [(u, oS), (P2, oS), (d2, oS), (W, oS), (P0, oS), (d0, oS), (L + 1 + 1, oS), (L + 1, oS), (r, oS)], q.1 ≠ tm)) : RJ2 w P0 d0 R W r L P2 d2 oS oW nn i1 i2 i3 u0 u1 u2 u3 u4 u5 v0 v1 v2 i m₁ nw
set_option maxHeartbeats 4000000 in
theorem rec_loop {w : World} {p : Program} {loose : List Str} {mean : ExcName → Option Value} {mg mb : Str → Option Value}
    {dp un : Nat} {gd : Option (List Code)} {cn : Str} {cs : Scope} {a : Addr} {ccd : Value} {cl : List (Str × Addr)} {outer : List Env} {base h₀ : Heap} {L₀ L : Addr} {s : Shared} {Q : Flow → Shared → Prop} {E : Value → Shared → Prop}
    {tm P0 d0 R W G r : Addr} {i1 i2 i3 u0 u1 u2 u3 u4 u5 : Tok} {oS oN : Obj} {PS : List (Addr × Obj)} {x y : Int} {tx ty tnow : Tok} {nn : Nat} {v0 : Option Value}
    (B : Below (ktrTop dp un gd cn cs L₀ a ccd cl outer) base (envX cn cs L₀ a ccd cl :: outer) h₀) (X : (Mine.K w.params).In h₀) (T : Top p loose mean mg mb h₀)
    (F : Fr h₀ L s.heap (fun z => if z = Str.ofString "times" then some (.ref tm) else if z = Str.ofString "ports" then some (.ref P0) else if z = Str.ofString "reel" then some (.ref r) else none)) (N : News h₀ L s.heap ((tm, listOf #[] 0) :: (P0, instObj 312 d0) :: (d0, dictOf [⟨PyData.keyHash w.params (Str.ofString "most"), .str (Str.ofString "most") u0, .int 99 i1⟩, ⟨PyData.keyHash w.params (Str.ofString "span"), .str (Str.ofString "span") u1, .int 100000 i2⟩, ⟨PyData.keyHash w.params (Str.ofString "hold"), .str (Str.ofString "hold") u2, .int 5 i3⟩, ⟨PyData.keyHash w.params (Str.ofString "rows"), .str (Str.ofString "rows") u3, .ref R⟩, ⟨PyData.keyHash w.params (Str.ofString "watches"), .str (Str.ofString "watches") u4, .ref W⟩, ⟨PyData.keyHash w.params (Str.ofString "changed"), .str (Str.ofString "changed") u5, .ref G⟩] 6) :: (L + 1 + 1, oS) :: (L + 1, oN) :: (r, reelO x y tx ty nn) :: PS))
    (hP : PSt w P0 d0 R W G false false [] 0 PS) (hap : ∀ z ∈ PS, ∀ q ∈ (tm, listOf #[] 0) :: (P0, instObj 312 d0) :: (d0, dictOf [⟨PyData.keyHash w.params (Str.ofString "most"), .str (Str.ofString "most") u0, .int 99 i1⟩, ⟨PyData.keyHash w.params (Str.ofString "span"), .str (Str.ofString "span") u1, .int 100000 i2⟩, ⟨PyData.keyHash w.params (Str.ofString "hold"), .str (Str.ofString "hold") u2, .int 5 i3⟩, ⟨PyData.keyHash w.params (Str.ofString "rows"), .str (Str.ofString "rows") u3, .ref R⟩, ⟨PyData.keyHash w.params (Str.ofString "watches"), .str (Str.ofString "watches") u4, .ref W⟩, ⟨PyData.keyHash w.params (Str.ofString "changed"), .str (Str.ofString "changed") u5, .ref G⟩] 6) :: (L + 1 + 1, oS) :: (L + 1, oN) :: (r, reelO x y tx ty nn) :: [], z.1 ≠ q.1)
    (ls : ∀ q ∈ (d0, oS) :: (L + 1 + 1, oS) :: (L + 1, oN) :: (r, oN) :: [], q.1 < tm) (l0 : ∀ q ∈ (L + 1 + 1, oS) :: (L + 1, oN) :: (r, oN) :: [], q.1 < d0) (lp : @LT.lt Nat _ d0 P0) (lt : @LT.lt Nat _ P0 tm) (lr : @LT.lt Nat _ r L)
    (hS : oS.data = .cell v0) (hN : oN.data = .cell (some (.int 0 tnow))) (hx : 0 ≤ x) (hy : 0 ≤ y) (hz : y < 2147483647) (hd : dp + 6 < recursionLimit) (hun : un + (64 + 8 * 6) < cLine)
    (hE : PassesOwn (model PySem.Challenge.pw_xm0985_01 w) ((ktrTop dp un gd cn cs L₀ a ccd cl outer).deeper (envOfC (Str.ofString "_law_recent_right") (fS (tp 45)) L 431 (.ref 430))) (envOfC (Str.ofString "_law_recent_right") (fS (tp 45)) L 431 (.ref 430)) E)
    (fin : ∀ (x' y' : Int) (tx' ty' : Tok) (h' : Heap) (tk' : Nat) (m' : Str → Option Value), 0 ≤ x' → 0 ≤ y' → y' < 2147483647 → Fr h₀ L h' m' → News h₀ L h' [(r, reelO x' y' tx' ty' nn)] → Q (.ret (.bool true)) { s with heap := h', toks := tk' }) :
    wpAny (model PySem.Challenge.pw_xm0985_01 w) ((ktrTop dp un gd cn cs L₀ a ccd cl outer).deeper (envOfC (Str.ofString "_law_recent_right") (fS (tp 45)) L 431 (.ref 430))) (execs recRest (envOfC (Str.ofString "_law_recent_right") (fS (tp 45)) L 431 (.ref 430))) Q E s := by
  have hc1 := lt1 lr
  have hc2 := lt1 hc1
  have hc3 := lt2 (L + 1)
  k_steps
  unfold Held
  (with_reducible rename Fr _ _ _ _ => kF9)
  refine For_turns (hE := hE) kF9 ?_
  k_steps
  unfold Held
  (with_reducible rename IsRange _ _ _ _ _ _ _ _ => hr9)
  (with_reducible rename _ < (7 : Int) => hB9)
  have hS9 := rs7 (by assumption) hB9
  refine iter_rangeJ (n := Int.toNat _) (RJ1 w P0 d0 R W G r L tm oS nn i1 i2 i3 u0 u1 u2 u3 u4 u5)
    (by rfl) (by k_asm) (by k_asm) hr9 hS9.1 hS9.2.1 (fun it v => by rfl)
    (⟨_, 0, _, _, _, _, _, oN, [], [], 0, PS, (setO_self _ _).symm, rfl, hP, hap_map (small := [(tm, oS), (P0, oS), (d0, oS), (L + 1 + 1, oS), (L + 1, oS), (r, oS)]) hap rfl, by assumption, by assumption, by assumption, hN, by decide, by decide, rfl, IntsAre.nil, fun z hz => nomatch hz⟩) ?_ ?_
  · intro i m₁ nw h tk tv I oI hi hJi hI F N
    obtain ⟨w₁, now, x, y, tnow, tx, ty, oN', ts, ns, k2, PS, rfl, rfl, hP, hap, hx, hy, hz, hN, hn0, hn1, hnl, hts, hb⟩ := hJi
    have hapI : ∀ z ∈ PS, ∀ q ∈ [(I, oS), (tm, oS), (P0, oS), (d0, oS), (L + 1 + 1, oS), (L + 1, oS), (r, oS)], z.1 ≠ q.1 := fun z hz q hq => by
      rcases List.mem_cons.mp hq with rfl | hq
      · exact hI z (.tail _ (.tail _ (.tail _ (.tail _ (.tail _ (.tail _ hz))))))
      · exact hap z hz q hq
    have htl : ts.length ≤ 1000 := by rw [hts.length]; omega
    have hnl' : ns.length ≤ 50 := by omega
    unfold setO at F
    have hks : ∀ d : Int, 0 ≤ d → d < 20 → ∀ z ∈ ns, now + d - z < 100000 := fun d h0 h1 z hz => by have := hb z hz; omega
    k_steps
    (with_reducible rename Fr _ _ _ _ => kF8)
    (with_reducible rename News _ _ _ _ => kN8)
    (with_reducible rename PSt _ _ _ _ _ _ _ _ _ _ _ => hP8)
    (with_reducible rename ∀ z : Addr × Obj, z ∈ _ → ∀ q : Addr × Obj, q ∈ _ → z.1 ≠ q.1 => hQ8)
    (with_reducible rename _ < (20 : Int) => hD8)
    simp only [List.push_toArray] at kN8
    rw [setO_two] at kF8
    refine turn_end kF8 kN8 (.head _) (fun q hq => .tail _ hq) (by k_all) (⟨_, _, _, _, _, _, _, _, _, _, _, _, rfl, rfl, hP8, fun z hz => ne_tail (hQ8 z hz), by assumption, by assumption, by assumption, by assumption, ?_, ?_, ?_, hts.append (IntsAre.cons _ _ IntsAre.nil), ?_⟩)
    · omega
    · omega
    · simp [hnl]
    · intro z hz
      rcases List.mem_append.mp hz with hz | hz
      · have := hb z hz
        omega
      · rw [List.mem_singleton.mp hz]
        omega
  · intro h tk m₁ nw hJi F N
    obtain ⟨w₁, now, x, y, tnow, tx, ty, oN', ts, ns, k2, PS, rfl, rfl, hP, hap, hx, hy, hz, hN, hn0, hn1, hnl, hts, hb⟩ := hJi
    skip
    obtain ⟨P1, d1, P2, d2, u, oR, oW, us, gs, k1, kG, e1, e2, e3, v0, v1, v2, w0, w1, w2, w3, w4, hR, hW, loR, loW, lG, l1, o1, l2, o2, o0, hu, hi, hgl⟩ := hP
    have l2' : ∀ q ∈ [(W, oS), (P0, oS), (d0, oS)], q.1 < d2 := fun q hq => lt_map (small := [(P1, oS), (d1, oS), (G, oS), (W, oS), (R, oS), (P0, oS), (d0, oS)]) l2 rfl q (sub_cons (.tail _ (.tail _ (.tail _ (.head _)))) (sub_cons (.tail _ (.tail _ (.tail _ (.tail _ (.tail _ (.head _)))))) (sub_cons (.tail _ (.tail _ (.tail _ (.tail _ (.tail _ (.tail _ (.head _))))))) sub_nil)) q hq)
    have hu' : ∀ q ∈ [(P2, oS), (d2, oS), (W, oS), (P0, oS), (d0, oS)], q.1 ≠ u := fun q hq => ne_map (small := [(P2, oS), (d2, oS), (P1, oS), (d1, oS), (G, oS), (W, oS), (R, oS), (P0, oS), (d0, oS)]) hu rfl q (sub_cons (.head _) (sub_cons (.tail _ (.head _)) (sub_cons (.tail _ (.tail _ (.tail _ (.tail _ (.tail _ (.head _)))))) (sub_cons (.tail _ (.tail _ (.tail _ (.tail _ (.tail _ (.tail _ (.tail _ (.head _)))))))) (sub_cons (.tail _ (.tail _ (.tail _ (.tail _ (.tail _ (.tail _ (.tail _ (.tail _ (.head _))))))))) sub_nil)))) q hq)
    have N := news_pick4 N
    have hap := fun z hz => hap z (pick_mem hz)
    clear lG l1 l2 hu hR loR hgl o1
    unfold setO at F
    k_steps
    unfold Held
    (with_reducible rename Fr _ _ _ _ => kF7)
    refine For_turns (hE := hE) kF7 ?_
    k_steps
    unfold Held
    (with_reducible rename IsRange _ _ _ _ _ _ _ _ => hr7)
    clear hr9
    refine iter_rangeJ (n := 2) (RJ2 w P0 d0 R W r L P2 d2 oS oW nn i1 i2 i3 u0 u1 u2 u3 u4 u5 v0 v1 v2)
      (by rfl) (by k_asm) (by k_asm) hr7 (by decide) (by decide) (fun it v => by rfl)
      (⟨w₁, now, x, y, tnow, tx, ty, oS, oN', _, tm, u, ts, us, ns, k2, k1, rfl, rfl, hS, hx, hy, hz, hN, hts, hi, by rw [hi.length]; omega, by k_all, by k_all⟩) ?_ ?_
    · intro i m₁ nw h tk tv I oI hi hJi hI F N
      obtain ⟨w₁, now, x, y, tnow, tx, ty, oS', oN', v0, tm, u, ts, us, ns, k2, k1, rfl, rfl, hS, hx, hy, hz, hN, hts, hus, hul, hu2, ht2⟩ := hJi
      unfold setO at F
      have htl : ts.toArray.size ≤ sizeLine := by rw [List.size_toArray, hts.length, ← hus.length]; exact Nat.le_trans hul (by decide)
      k_steps
      (with_reducible rename _ < (30 : Int) => hA9)
      obtain ⟨dA, eA, -⟩ := nameit hA9
      subst eA
      (with_reducible rename _ < (80 : Int) => hB8)
      obtain ⟨dB, eB, -⟩ := nameit hB8
      subst eB
      unfold Held
      refine LCt.CompSrcT.ledger (by rfl) (by k_asm) (by k_asm) (by k_mem) htl ?_
      intro g9
      refine comp_indT (fun i ys nw => nw = _ ∧ IntsAre ys ((ns.take i).filter fun z => decide (z > now + dA - dB))) _ ?_ ?_ (Nat.zero_add _) ⟨rfl, IntsAre.nil⟩
      rotate_left
      · rintro k i ys nw hi9 ⟨rfl, hI9⟩ ih
        refine LCt.CompRestT.succ ?_
        intro v' I' oI' C' oC' D' m' h' tk' E' hv' hC' hx' F' N' off' ne'
        obtain ⟨z, tz, rfl, hz9⟩ := hts.at i v' (by simpa using hv')
        obtain ⟨ne1', ne2', ne3'⟩ := ne'
        k_steps
        · unfold Held
          show LCt.CompRestT _ _ _ _ _ _ _ _ _ _ _ _ _ _ _ _ _ _ _ _
          refine ih _ _ ⟨rfl, filt_yes hI9 hz9 (decide_eq_true (by assumption))⟩
        · unfold Held
          show LCt.CompRestT _ _ _ _ _ _ _ _ _ _ _ _ _ _ _ _ _ _ _ _
          refine ih _ _ ⟨rfl, filt_no hI9 hz9 (fun e => absurd (of_decide_eq_true e) (by assumption))⟩
      · rintro ys nw ⟨rfl, hI9⟩
        rw [List.take_of_length_le (by rw [List.size_toArray, hts.length]; exact Nat.le_refl _)] at hI9
        have hyl : ys.length ≤ 1000000 := by
          rw [hI9.length]
          exact Nat.le_trans (List.length_filter_le _ _) (by rw [← hus.length]; omega)
        have heq : (fun z : Int => decide (now + dA - z < dB)) = (fun z => decide (z > now + dA - dB)) := by
          funext z
          exact decide_eq_decide.mpr (by omega)
        k_steps
        · exfalso
          (with_reducible rename IntsAre _ (List.filter _ _) => hI8)
          rw [heq] at hI8
          have e1 := hI8.length
          have e2 := hI9.length
          (with_reducible rename _ ≠ (_ : Int) => hne)
          apply hne
          omega
        · (with_reducible rename Fr _ _ _ _ => kF8)
          (with_reducible rename News _ _ _ _ => kN8)
          (with_reducible rename IntsAre _ (List.filter _ _) => hI8)
          rw [heq] at hI8
          have kF7 := Eq.mp (congrArg (Fr _ _ _) (map_tt (by decide))) kF8
          refine turn_end kF7 kN8 (by k_mem) ord2 (by k_all) (⟨_, _, _, _, _, _, _, _, _, _, _, _, _, _, _, _, _, rfl, rfl, by assumption, by assumption, by assumption, by assumption, by assumption, hI9, hI8, by rw [hI8.length, ← hI9.length]; omega, by k_all, by k_all⟩)
    · intro h tk m₁ nw hJi F N
      obtain ⟨w₁, now, x, y, tnow, tx, ty, oS', oN', v0, tm, u, ts, us, ns, k2, k1, rfl, rfl, hS, hx, hy, hz, hN, hts, hus, hul, hu2, ht2⟩ := hJi
      skip
      unfold setO at F
      k_steps
      (with_reducible rename News _ _ _ _ => kN9)
      (with_reducible rename Fr _ _ _ _ => kF9)
      exact fin _ _ _ _ _ _ _ hx hy hz kF9 fun q hq => kN9 q (by rw [List.mem_singleton.mp hq]; k_mem)
end
section
theorem wd_37 : True := by
  k_with_none
  k_with "eval Call" => (k_here; k_fold)
  k_with "eval BinOp" => (k_here; k_fold)
  k_with "eval Compare" => (k_here; k_fold)
  k_with "isTrue Compare" => (k_here; k_fold)
  k_with "isTrue Call" => (k_here; k_fold)
  k_with "eval BoolOp" => (k_here; k_fold)
  k_with "isTrue BoolOp" => (k_here; k_fold)
  k_with "isTrue" => (k_here; k_fold)
  k_with "eval Attribute" => (k_here; k_fold)
  k_with "eval Tuple" => (k_here; k_fold)
  k_with "eval List" => (k_here; k_fold)
  k_with "eval Subscript" => (k_here; k_fold)
  k_with "eval IfExp" => (k_here; k_fold)
  k_with "execs cons" => (k_here; with_reducible refine gen_tk ?_; intro tk; (try dsimp only))
  k_with "eval Call" => (k_here; with_reducible refine gen_tk ?_; intro tk; (try dsimp only))
  k_with "setAttr ref" => (k_here; with_reducible refine gen_tk ?_; intro tk; (try dsimp only))
  k_with "newList" => (k_here; with_reducible refine gen_tk ?_; intro tk; (try dsimp only))
  k_with "eval BinOp" => (k_here; with_reducible refine gen_tk ?_; intro tk; (try dsimp only))
  k_with "eval Subscript" => (k_here; with_reducible refine gen_tk ?_; intro tk; (try dsimp only))
  k_with "k_all" => (first | assumption | exact all_ne (by with_reducible assumption) (by (intro q9 hq9; repeat (first | exact hq9 | refine List.Mem.tail _ ?_))))
  k_with "subscriptTail Name Constant ref int" => ((k_here; k_dflt (refine' my_item ?k1 ?k2 ?k3 ?k4 ?k5 ?_ ?k7; (case k1 => k_asm); (case k2 => k_mem); (case k3 => decide); (case k4 => decide); (case k5 => exact rfl); (case k7 => with_unfolding_all rfl); k_whole)))
  k_with "call ref" => ((k_here; (with_reducible show wpAny _ _ (call (Value.ref 386) [Value.ref _, Value.int _ _]) _ _ _); k_dflt (refine' wind_at ?kB ?kF ?kX ?kN ?kT ?kK ?kU ?kx ?ky ?kz ?kt ?ku ?kd ?ke ?_; (case kB => k_asm); (case kF => k_asm); (case kX => k_asm); (case kN => k_asm); (case kT => k_asm); (case kK => first | exact rfl | assumption); (case kU => k_updF); (case kx => assumption); (case ky => assumption); (case kz => assumption); (case kt => omega); (case ku => omega); (case kd => ktr_room); (case ke => ktr_units)); intro d' x' y' td' tx' ty' h' tk' hd0 hd1 hx' hy' hz' F' N'; (try dsimp only at N'); (try dsimp only); (try k_sweep); walk_say "WIND"; (try k_extra "wind")))
  k_with "k_room" => (ktr_room)
  k_with "k_units" => (ktr_units)
  k_with "ktr_rel" => ((intro q9 hq9; repeat (first | exact hq9 | refine List.Mem.tail _ ?_)))
  k_with "binaryOp Pow int int" => ((k_here; (refine' pow_lit ?kb1 ?kb2 ?kb3 ?_); (case kb1 => decide); (case kb2 => decide); (case kb3 => ((simp only [Int.reduceToNat, Int.reducePow]); exact rfl))))
  k_with "CompSrc" => ((k_here; k_dflt (first | (refine LCg.CompSrc.ledger (by rfl) (by k_asm) (by k_asm) (by k_mem) (by first | size_fits | exact Nat.le_of_ble_eq_true rfl) ?_; intro g'; lcg_lit) | (refine LCg.CompSrc.range (by rfl) (by k_asm) (by k_asm) (by assumption) (by first | decide | rfl) (by first | rfl | decide) (by first | size_fits | exact Nat.le_of_ble_eq_true rfl) ?_; intro g'; lcg_lit))))
  k_with "CompRest" => ((with_unfolding_all first | (refine LCg.CompRest.succ ?_; intro v' I' oI' C' oC' D' m' h' tk' E' hv' hC' hx' F' N' off' ne'; (first | lcg_open hv' | (obtain ⟨t9', hv9'⟩ := hv'; subst hv9')); (obtain ⟨ne1', ne2', ne3'⟩ := ne')) | refine LCg.CompRest.zero ?_))
  k_with "CompEnd" => ((first | (refine' compEnd0 ?kF ?kN ?ko ?kS ?_; (case kN => assumption); (case kF => assumption); (case ko => assumption); (case kS => lcg_src)) | (refine' compEnd2 ?kF ?kN ?kx ?kd ?ko ?kS ?_; (case kN => assumption); (case kF => assumption); (case kx => exact ⟨by k_ne, by k_ne, by k_ne⟩); (case kd => exact ⟨by k_ne, by k_ne, by k_ne⟩); (case ko => assumption); (case kS => lcg_src)) | (refine' compEnd1 ?kF ?kN ?kx ?ko ?kS ?_; (case kN => assumption); (case kF => assumption); (case kx => exact ⟨by k_ne, by k_ne, by k_ne⟩); (case ko => assumption); (case kS => lcg_src)) | lcg_end))
  k_with "k_ne" => ((refine neN ?_; (try dsimp only); first | (with_reducible assumption) | exact Ne.symm (by with_reducible assumption) | exact Nat.ne_of_gt (by with_reducible assumption) | exact Nat.ne_of_lt (by with_reducible assumption) | exact neA (by with_reducible assumption) (by k_mem) | exact Ne.symm (neA (by with_reducible assumption) (by k_mem)) | exact neO (by with_reducible assumption) (by k_mem) | exact Ne.symm (neO (by with_reducible assumption) (by k_mem)) | exact neI (by with_reducible assumption) (by k_mem) | exact Ne.symm (neI (by with_reducible assumption) (by k_mem)) | exact neC (by with_reducible assumption) (by k_mem) | exact Ne.symm (neC (by with_reducible assumption) (by k_mem)) | exact neD (by with_reducible assumption) (by k_mem) | exact Ne.symm (neD (by with_reducible assumption) (by k_mem)) | exact neA2 (by with_reducible assumption) (by with_reducible assumption) (by k_mem) | exact Ne.symm (neA2 (by with_reducible assumption) (by with_reducible assumption) (by k_mem)) | omega))
  k_with "FinE" => (((unfold LCg.FinE); intro D' h' tk' F' N' o1'; (try simp only [List.nil_append, List.cons_append] at N'); (try dsimp only)))
  k_with "FinA" => (((unfold LCg.FinA); intro D' h' tk' F' N' o1'; (try simp only [List.nil_append, List.cons_append] at N'); (try dsimp only)))
  k_with "k_all" => (first | assumption | (refine' all_neD ?l ?e; (case l => with_reducible assumption); (case e => exact rfl)) | exact allN_nil | (refine allN_cons (by k_ne) ?_; k_all) | fail "k_all")
  k_with "execs cons" => ((k_here; (with_reducible show wpAny _ _ (execs (PySem.Stmt.For _ _ _ _ _ :: _) _) _ _ _); refine held ?_))
  trivial
theorem allL_nil {d : Addr} : ∀ a ∈ ([] : List Addr), @LT.lt Nat _ a d := fun q hq => nomatch hq
theorem allL_cons {d p : Addr} {r : List Addr} (h : @LT.lt Nat _ p d) (hr : ∀ q ∈ r, @LT.lt Nat _ q d) : ∀ q ∈ p :: r, @LT.lt Nat _ q d := fun q hq => by
  rcases List.mem_cons.mp hq with rfl | hq
  · exact h
  · exact hr q hq
theorem allE_nil {d : Addr} : ∀ a ∈ ([] : List Addr), a ≠ d := fun q hq => nomatch hq
theorem allE_cons {d p : Addr} {r : List Addr} (h : @Ne Nat p d) (hr : ∀ q ∈ r, q ≠ d) : ∀ q ∈ p :: r, q ≠ d := fun q hq => by
  rcases List.mem_cons.mp hq with rfl | hq
  · exact h
  · exact hr q hq
theorem ltN {a d : Addr} {o : Obj} {big : List (Addr × Obj)} (l : ∀ q ∈ big, q.1 < d) (h : (a, o) ∈ big) : @LT.lt Nat _ a d := l _ h
theorem news_reord {h₀ h : Heap} {L : Addr} {u P2 d2 P1 d1 T tm G W R P0 d0 cs cn r : Addr × Obj} (N : News h₀ L h [u, P2, d2, P1, d1, T, tm, G, W, R, P0, d0, cs, cn, r]) : News h₀ L h (tm :: P0 :: d0 :: cs :: cn :: r :: [u, P2, d2, P1, d1, G, W, R]) := fun q hq => by
  refine N q ?_
  simp only [List.mem_cons, List.not_mem_nil, or_false] at hq ⊢
  rcases hq with h | h | h | h | h | h | h | h | h | h | h | h | h | h <;> simp [h]
theorem allA_nil {d : Addr} : ∀ q ∈ ([] : List (Addr × Obj)), q.1 < d := fun q hq => nomatch hq
theorem allA {d : Addr} {p : Addr × Obj} {r : List (Addr × Obj)} (h : p.1 < d) (hr : ∀ q ∈ r, q.1 < d) : ∀ q ∈ p :: r, q.1 < d := fun q hq => by
  rcases List.mem_cons.mp hq with rfl | hq
  · exact h
  · exact hr q hq
theorem hapN {pre : List (Addr × Obj)} : ∀ z ∈ ([] : List (Addr × Obj)), ∀ q ∈ pre, z.1 ≠ q.1 := fun q hq => nomatch hq
theorem hapC {p : Addr × Obj} {r pre : List (Addr × Obj)} (h : ∀ q ∈ pre, q.1 ≠ p.1) (hr : ∀ z ∈ r, ∀ q ∈ pre, z.1 ≠ q.1) : ∀ z ∈ p :: r, ∀ q ∈ pre, z.1 ≠ q.1 := fun z hz q hq => by
  rcases List.mem_cons.mp hz with rfl | hz
  · exact Ne.symm (h q hq)
  · exact hr z hz q hq
theorem wd_38 : True := by
  k_with "storeName" => ((k_here; (with_reducible show wpAny _ _ (storeName (envOfC _ _ _ _ _) (PySem.Str.ofString "now") _) _ _ _); k_dflt (refine' storeX_C ?F ?N ?c ?U ?d ?_ ?a ?b; (case a => rfl); (case b => rfl); (case F => k_asm); (case N => k_asm); (case c => rfl); (case U => k_updF); (case d => k_asm); k_whole; intro h' o' F' N' d'; (try dsimp only at N'); (try dsimp only); (try k_sweep))))
  k_with "storeName" => ((k_here; (with_reducible show wpAny _ _ (storeName (envOfC _ _ _ _ _) (PySem.Str.ofString "span") _) _ _ _); k_dflt (refine' storeX_C ?F ?N ?c ?U ?d ?_ ?a ?b; (case a => rfl); (case b => rfl); (case F => k_asm); (case N => k_asm); (case c => rfl); (case U => k_updF); (case d => k_asm); k_whole; intro h' o' F' N' d'; (try dsimp only at N'); (try dsimp only); (try k_sweep))))
  trivial
set_option maxHeartbeats 4000000 in
theorem recent_spec : PartSpec 431 6 := by
  intro w p loose mean mg mb dp un gd cn cs a ccd cl outer A₀ base h₀ L m s Q E r x y tx ty nn B F X N T hk hx hy0 hy hd hu ret
  refine wpAny_call ?_
  k_dflt (refine' code_defC ?k1 ?k2 ?k3 ?k4 ?k5 ?kA ?kF ?kK ?k6 ?k7 ?k8 ?k9 ?kB ?kD ?_ ?c2 ?c3 ?c4; (case kA => exact rfl); (case kF => exact rfl); (case kK => exact hk); (case k1 => k_asm); (case k2 => k_asm); (case k3 => k_asm); (case k4 => k_asm); (case k5 => k_asm); (case k6 => k_is); (case k7 => k_is); (case k8 => k_room); (case k9 => exact BindsTo.of_eq rfl); (case kB => exact rfl); (case kD => decide +kernel); (case c2 => exact rfl); (case c3 => exact rfl); (case c4 => exact rfl); k_whole; intro g' L' h' tk' cells' FG' F' N' Y' B' X' T' l1; (try k_lt l1); k_cells Y'; (try simp only [List.cons_append, List.nil_append] at N'); (try dsimp only); (try k_lift B'); (try k_fold))
  have hc1 := lt1 (ltA l1 (.head _))
  have hc2 := lt1 hc1
  have hc3 := lt2 (L' + 1)
  k_steps
  unfold Held
  (with_reducible rename News _ _ _ _ => kN9)
  (with_reducible rename Fr _ _ _ _ => kF9)
  refine' rec_loop B' X' T' kF9 (news_reord kN9) ?hP ?hap ?ls ?l0 ?lp ?lt ?lr ?hS ?hN hx hy0 hy hd hu ?hE ?fin
  case hP =>
    refine ⟨_, _, _, _, _, _, _, [], [], 0, 0, _, _, _, _, _, _, _, _, _, _, _, by assumption, by assumption, by assumption, by assumption, ?_, ?_, by assumption, ?_, by assumption, by assumption, ?_, IntsAre.nil, Nat.le_refl _⟩
    · repeat (first | exact allL_nil | refine allL_cons (ltN (by with_reducible assumption) (by k_mem)) ?_)
    · repeat (first | exact allL_nil | refine allL_cons (ltN (by with_reducible assumption) (by k_mem)) ?_)
    · repeat (first | exact allL_nil | refine allL_cons (ltN (by with_reducible assumption) (by k_mem)) ?_)
    · repeat (first | exact allE_nil | refine allE_cons (by k_ne) ?_)
  case hap => (repeat (first | exact hapN | refine hapC (by k_all) ?_))
  case ls => (repeat (first | exact allA_nil | refine allA (ltN (by with_reducible assumption) (by k_mem)) ?_))
  case l0 => (repeat (first | exact allA_nil | refine allA (ltN (by with_reducible assumption) (by k_mem)) ?_))
  case lp => assumption
  case lt => exact ltN (by with_reducible assumption) (by k_mem)
  case lr => exact ltN l1 (by k_mem)
  case hS => assumption
  case hN => assumption
  case hE => passes_own
  case fin =>
    intro x' y' tx' ty' h' tk' m' h1 h2 h3 F' N'
    k_steps
    (with_reducible rename News _ _ _ _ => kN8)
    exact part_ret ret (by k_asm) kN8 (by k_mem) h1 h2 h3 rfl
end
section
theorem wd_39 : True := by
  k_with_none
  k_with "eval Call" => (k_here; k_fold)
  k_with "eval BinOp" => (k_here; k_fold)
  k_with "eval Compare" => (k_here; k_fold)
  k_with "isTrue Compare" => (k_here; k_fold)
  k_with "isTrue Call" => (k_here; k_fold)
  k_with "eval BoolOp" => (k_here; k_fold)
  k_with "isTrue BoolOp" => (k_here; k_fold)
  k_with "isTrue" => (k_here; k_fold)
  k_with "eval Attribute" => (k_here; k_fold)
  k_with "eval Tuple" => (k_here; k_fold)
  k_with "eval List" => (k_here; k_fold)
  k_with "eval Subscript" => (k_here; k_fold)
  k_with "eval IfExp" => (k_here; k_fold)
  k_with "execs cons" => (k_here; with_reducible refine gen_tk ?_; intro tk; (try dsimp only))
  k_with "eval Call" => (k_here; with_reducible refine gen_tk ?_; intro tk; (try dsimp only))
  k_with "setAttr ref" => (k_here; with_reducible refine gen_tk ?_; intro tk; (try dsimp only))
  k_with "newList" => (k_here; with_reducible refine gen_tk ?_; intro tk; (try dsimp only))
  k_with "eval BinOp" => (k_here; with_reducible refine gen_tk ?_; intro tk; (try dsimp only))
  k_with "eval Subscript" => (k_here; with_reducible refine gen_tk ?_; intro tk; (try dsimp only))
  k_with "k_all" => (first | assumption | exact all_ne (by with_reducible assumption) (by (intro q9 hq9; repeat (first | exact hq9 | refine List.Mem.tail _ ?_))))
  k_with "subscriptTail Name Constant ref int" => ((k_here; k_dflt (refine' my_item ?k1 ?k2 ?k3 ?k4 ?k5 ?_ ?k7; (case k1 => k_asm); (case k2 => k_mem); (case k3 => decide); (case k4 => decide); (case k5 => exact rfl); (case k7 => with_unfolding_all rfl); k_whole)))
  k_with "call ref" => ((k_here; (with_reducible show wpAny _ _ (call (Value.ref 386) [Value.ref _, Value.int _ _]) _ _ _); k_dflt (refine' wind_at ?kB ?kF ?kX ?kN ?kT ?kK ?kU ?kx ?ky ?kz ?kt ?ku ?kd ?ke ?_; (case kB => k_asm); (case kF => k_asm); (case kX => k_asm); (case kN => k_asm); (case kT => k_asm); (case kK => first | exact rfl | assumption); (case kU => k_updF); (case kx => assumption); (case ky => assumption); (case kz => assumption); (case kt => omega); (case ku => omega); (case kd => ktr_room); (case ke => ktr_units)); intro d' x' y' td' tx' ty' h' tk' hd0 hd1 hx' hy' hz' F' N'; (try dsimp only at N'); (try dsimp only); (try k_sweep); walk_say "WIND"; (try k_extra "wind")))
  k_with "k_room" => (ktr_room)
  k_with "k_units" => (ktr_units)
  k_with "ktr_rel" => ((intro q9 hq9; repeat (first | exact hq9 | refine List.Mem.tail _ ?_)))
  k_with "binaryOp Pow int int" => ((k_here; (refine' pow_lit ?kb1 ?kb2 ?kb3 ?_); (case kb1 => decide); (case kb2 => decide); (case kb3 => ((simp only [Int.reduceToNat, Int.reducePow]); exact rfl))))
  k_with "CompSrc" => ((k_here; k_dflt (first | (refine LCg.CompSrc.ledger (by rfl) (by k_asm) (by k_asm) (by k_mem) (by first | size_fits | exact Nat.le_of_ble_eq_true rfl) ?_; intro g'; lcg_lit) | (refine LCg.CompSrc.range (by rfl) (by k_asm) (by k_asm) (by assumption) (by first | decide | rfl) (by first | rfl | decide) (by first | size_fits | exact Nat.le_of_ble_eq_true rfl) ?_; intro g'; lcg_lit))))
  k_with "CompRest" => ((with_unfolding_all first | (refine LCg.CompRest.succ ?_; intro v' I' oI' C' oC' D' m' h' tk' E' hv' hC' hx' F' N' off' ne'; (first | lcg_open hv' | (obtain ⟨t9', hv9'⟩ := hv'; subst hv9')); (obtain ⟨ne1', ne2', ne3'⟩ := ne')) | refine LCg.CompRest.zero ?_))
  k_with "CompEnd" => ((first | (refine' compEnd0 ?kF ?kN ?ko ?kS ?_; (case kN => assumption); (case kF => assumption); (case ko => assumption); (case kS => lcg_src)) | (refine' compEnd2 ?kF ?kN ?kx ?kd ?ko ?kS ?_; (case kN => assumption); (case kF => assumption); (case kx => exact ⟨by k_ne, by k_ne, by k_ne⟩); (case kd => exact ⟨by k_ne, by k_ne, by k_ne⟩); (case ko => assumption); (case kS => lcg_src)) | (refine' compEnd1 ?kF ?kN ?kx ?ko ?kS ?_; (case kN => assumption); (case kF => assumption); (case kx => exact ⟨by k_ne, by k_ne, by k_ne⟩); (case ko => assumption); (case kS => lcg_src)) | lcg_end))
  k_with "k_ne" => ((refine neN ?_; (try dsimp only); first | (with_reducible assumption) | exact Ne.symm (by with_reducible assumption) | exact Nat.ne_of_gt (by with_reducible assumption) | exact Nat.ne_of_lt (by with_reducible assumption) | exact neA (by with_reducible assumption) (by k_mem) | exact Ne.symm (neA (by with_reducible assumption) (by k_mem)) | exact neO (by with_reducible assumption) (by k_mem) | exact Ne.symm (neO (by with_reducible assumption) (by k_mem)) | exact neI (by with_reducible assumption) (by k_mem) | exact Ne.symm (neI (by with_reducible assumption) (by k_mem)) | exact neC (by with_reducible assumption) (by k_mem) | exact Ne.symm (neC (by with_reducible assumption) (by k_mem)) | exact neD (by with_reducible assumption) (by k_mem) | exact Ne.symm (neD (by with_reducible assumption) (by k_mem)) | exact neA2 (by with_reducible assumption) (by with_reducible assumption) (by k_mem) | exact Ne.symm (neA2 (by with_reducible assumption) (by with_reducible assumption) (by k_mem)) | omega))
  k_with "FinE" => (((unfold LCg.FinE); intro D' h' tk' F' N' o1'; (try simp only [List.nil_append, List.cons_append] at N'); (try dsimp only)))
  k_with "FinA" => (((unfold LCg.FinA); intro D' h' tk' F' N' o1'; (try simp only [List.nil_append, List.cons_append] at N'); (try dsimp only)))
  trivial
theorem len_b {prog : Program} {w : World} {A : Around} {E : Value → Shared → Prop} {s : Shared} {h₀ : Heap} {L : Addr} {m : Str → Option Value} {l : Addr} {vs : List Value} {Q : Value → Shared → Prop}
    (F : Fr h₀ L s.heap m) (hl : h₀.IsList l vs.toArray) (hn : vs.length ≤ 1000) (h : ∀ t, Q (.int (vs.length : Int) t) { s with toks := s.toks + 1 + 1 }) :
    wpAny (model prog w) A (call (.builtin "len") [.ref l]) Q E s := by
  refine len_list (hl.at fun o e => F.keep _ _ e) (by simp; omega) ?_
  simpa using h (s.toks + 1)
theorem item_b {prog : Program} {w : World} {A : Around} {E : Value → Shared → Prop} {s : Shared} {h₀ : Heap} {L : Addr} {m : Str → Option Value} {value slice : PySem.Expr} {l : Addr} {vs : List Value} {k : Int} {u : Tok} {v : Value} {Q : Value → Shared → Prop}
    (F : Fr h₀ L s.heap m) (hl : h₀.IsList l vs.toArray) (h0 : 0 ≤ k) (hhi : k < 2 ^ 63) (hx : vs[k.toNat]? = some v) (h : Q v s)
    (hs : subscripted slice false (.ref l) (.int k u) = operate [.ref l, .int k u] (getItem (.ref l) (.int k u)) := by with_unfolding_all rfl) :
    wpAny (model prog w) A (subscriptTail value slice (.ref l) (.int k u)) Q E s :=
  have hl' := hl.at fun o e => F.keep _ _ e
  tail_any hl'.typeIs slot_list_getitem.lookup (wpAny_getItem_list hl' h0 hhi (by simpa using hx) h) hs
theorem wd_40 : True := by
  k_with "call builtin:len" => ((k_here; (with_reducible show wpAny _ _ (call (Value.builtin "len") [Value.ref _]) _ _ _); refine' len_b ?F ?hl ?hn ?_; (case F => k_asm); (case hl => assumption); (case hn => assumption); intro t'))
  k_with "subscriptTail Name Constant ref int" => ((k_here; refine' item_b ?F ?hl ?h0 ?h1 ?hx ?_ ?hs; (case F => k_asm); (case hl => assumption); (case h0 => decide); (case h1 => decide); (case hx => exact rfl); (case hs => with_unfolding_all rfl); k_whole))
  trivial
theorem reel_spec {w : World} {p : Program} {loose : List Str} {mean : ExcName → Option Value} {mg mb : Str → Option Value}
    {dp un : Nat} {gd : Option (List Code)} {cn : Str} {cs : Scope} {a : Addr} {ccd : Value} {cl : List (Str × Addr)} {outer : List Env} {A₀ : Around} {base h₀ : Heap} {L : Addr} {m : Str → Option Value} {s : Shared} {Q E : Value → Shared → Prop}
    {news : List (Addr × Obj)} {l : Addr} {vs : List Value} {ns : List Int}
    (B : Below A₀ base outer h₀) (F : Fr h₀ L s.heap m) (X : (Mine.K w.params).In h₀) (N : News h₀ L s.heap news) (T : Top p loose mean mg mb h₀) (hk : cs.kind = .function)
    (hl : h₀.IsList l vs.toArray) (hi : IntsAre vs ns) (hn : vs.length ≤ 1000) (hd : dp + 1 < recursionLimit) (hu : un + 8 < cLine)
    (ret : ∀ (r : Addr) (x y : Int) (tx ty : Tok) (nn : Nat) (h' : Heap) (tk' : Nat), 0 ≤ x → 0 ≤ y → y < 2147483647 → Fr h₀ L h' m → News h₀ L h' ((r, reelO x y tx ty nn) :: news) → Q (.ref r) { s with heap := h', toks := tk' }) :
    wpAny (model PySem.Challenge.pw_xm0985_01 w) (ktrTop dp un gd cn cs L a ccd cl outer) (call (.ref 379) [.ref l]) Q E s := by
  refine wpAny_call ?_
  k_dflt cell_enter
  have hl9 := hl.at fun o e => (by assumption : Fr h₀ L _ m).keep _ _ e
  clear hl
  cases hi
  all_goals k_steps
  all_goals (with_reducible rename News _ _ _ _ => kN9)
  all_goals (with_reducible rename Fr _ _ _ _ => kF9)
  all_goals refine ret _ _ _ _ _ _ _ _ ?_ ?_ ?_ kF9 kN9
  all_goals first | omega | exact (fmodB (by decide)).1 | exact (fmodB (by decide)).2 | (simp; omega)
end
section
section
variable {M : Model} {A : Around} {E : Value → Shared → Prop} {h : Heap} {g : Array GenState} {d : Drawn} {t : Nat} {os : OsState}
variable {nm q : Str} {C N : Addr} {bs bm bmB : List Value} {hdct : Bool} {sn : List Str} {sub : List Value} {ab : Bool} {col : Option Bool} {dd : Option Addr} {k0 k1 k2 k3 k5 : Option Value} {B newId initId : String}
theorem own_check_new (F : ExcBaseFacts B newId initId bmB) (hcont : (Value.ref C :: bm).contains (.type B) = true) {rest : List Value} {Q : Unit → Shared → Prop} (hC : h.get? C = some (excClassObj nm q C N bs bm hdct sn sub ab col dd k0 k1 k2 k3 k5 newId))
    (hq : Q () ⟨h, g, d, t, os⟩) : wpAny M A (checkBuiltinCall newId ⟨.ref C :: rest, []⟩) Q E ⟨h, g, d, t, os⟩ := by
  have hstar := F.noStar
  simp only [checkBuiltinCall, F.newKind, F.newSplit, F.newRow]
  repeat (first | refine wpAny_loadPart_at hC ?_ | (refine wpAny_isSubtype_exc hC ?_; rw [hcont]) | refine wpAny_staticBase_exc hC ?_ | refine wpAny_madeBy_exc hC ?_ | simp only [bne_self_eq_false, Bool.false_eq_true, if_false] | wp_step)
  exact hq
theorem own_check_init (F : ExcBaseFacts B newId initId bmB) (hcB : (Value.ref C :: bm).contains (.type B) = true) {e : Addr} {oe : Obj} {rest : List Value} {Q : Unit → Shared → Prop}
    (hC : h.get? C = some (excClassObj nm q C N bs bm hdct sn sub ab col dd k0 k1 k2 k3 k5 newId)) (he : h.get? e = some oe) (hcls : oe.cls = .ref C) (hq : Q () ⟨h, g, d, t, os⟩) :
    wpAny M A (checkBuiltinCall initId ⟨.ref e :: rest, []⟩) Q E ⟨h, g, d, t, os⟩ := by
  have hshort := F.noStar
  simp only [checkBuiltinCall, F.initKind, F.initSplit, F.initRow]
  repeat (first | (with_reducible refine wpAny_loadPart_at he ?_; rw [hcls]) | with_reducible refine wpAny_loadPart_at hC ?_ | (with_reducible refine wpAny_isSubtype_exc hC ?_; rw [hcB]) | wp_step)
  refine wpAny_onRaise ?_
  rw [show ∀ (a b : String) (n : Nat), Bind.check ⟨.positional, "*", B, .self, [⟨"args", .varPos, false⟩]⟩ a b n (List.map (fun x => x.fst) ({ pos := Value.ref e :: rest } : Args).kw) = pure () from
    fun a b n => check_star_args _ _ _ _ _ _]
  exact wpAny_pure hq
end
section
variable {prog : Program} {w : World} {A : Around} {h : Heap} {g : Array GenState} {d : Drawn} {t : Nat} {os : OsState}
variable {nm q : Str} {C N : Addr} {bs bm bmB : List Value} {hdct : Bool} {sn : List Str} {sub : List Value} {ab : Bool} {col : Option Bool} {dd : Option Addr} {k0 k1 k2 k3 k5 : Option Value} {B newId initId : String}
theorem own_new {R : Result → Shared → Prop} (F : ExcBaseFacts B newId initId bmB) (hcB : (Value.ref C :: bm).contains (.type B) = true) (hcA : (Value.ref C :: bm).contains (.type "AttributeError") = false) (hcN : (Value.ref C :: bm).contains (.type "NameError") = false) {rest : List Value} (hC : h.get? C = some (excClassObj nm q C N bs bm hdct sn sub ab col dd k0 k1 k2 k3 k5 newId))
    (hq : R (.ok (.ret (.ref (h.objs.size + 1)))) ⟨(h.push { cls := .type "tuple", data := .seq rest.toArray }).push
      { cls := .ref C, data := .fields #[.ref h.objs.size, .none, .none, .none, .bool false, .none] }, g, d, t, os⟩) (hrest : rest.length ≤ sizeLine) :
    codeAny (model prog w) A (.builtin newId ⟨.ref C :: rest, []⟩) R ⟨h, g, d, t, os⟩ := by
  have hends := F.ends
  refine codeAny_builtinAt F.entry ?_
  unfold Builtin.«BaseException.__new__»
  refine PySem.wpAt_bind ?_
  show PySem.wpAt _ _ _ (stack >>= _) _ _ _
  refine PySem.wpAt_bind (PySem.wpAt_stack fun p below => PySem.wpAt_of_wpAny ?_)
  wp_walk
  refine PySem.wpAt_of_wpAny ?_
  rw [F.owner]
  repeat (first | with_reducible refine wpAny_madeHere_exc F.canon hC ?_ | with_reducible refine wpAny_loadPart_at hC ?_ | (with_reducible refine wpAny_isSubtype_exc hC ?_; first | rw [hcB] | rw [hcA] | rw [hcN]) | wp_step)
  show R _ _
  rw [Heap.size_push]
  exact hq
variable {E : Value → Shared → Prop}
theorem own_init_found {mN : Str → Option Value} {f : Value} {Q : Option Value → Shared → Prop} (hC : h.get? C = some (excClassObj nm q C N bs bm hdct sn sub ab col dd k0 k1 k2 k3 k5 newId)) (hn : h.Ns N mN) (hi : mN "__init__" = some f)
    (hq : Q (some f) ⟨h, g, d, t, os⟩) : wpAny (model prog w) A (typeLookup (.ref C) "__init__") Q E ⟨h, g, d, t, os⟩ := by
  rw [typeLookup_eq]
  refine wpAny_bind (wpAny_mroOf_exc hC ?_)
  rw [lookupAlong_cons]
  refine wpAny_bind (wpAny_classOwn_exc hC hn ?_)
  rw [hi]
  exact wpAny_pure hq
theorem own_type_call {mN : Str → Option Value} {rest : List Value} {fI : Addr} {oI : Obj} {Q : Fin → Shared → Prop}
    (F : ExcBaseFacts B newId initId bmB) (hcB : (Value.ref C :: bm).contains (.type B) = true) (hcA : (Value.ref C :: bm).contains (.type "AttributeError") = false) (hcN : (Value.ref C :: bm).contains (.type "NameError") = false)
    (hC : h.get? C = some (excClassObj nm q C N bs bm hdct sn sub ab col dd k0 k1 k2 k3 k5 newId)) (hn : h.Ns N mN) (hi : mN "__init__" = some (.ref fI)) (hfI : h.get? fI = some oI) (hfc : oI.cls = .type "function")
    (hq : ∀ h' e, Heap.MadeExcOf h h' e (.ref C) rest →
      wpAny (model prog w) A (call (.ref fI) (.ref e :: rest)) (fun r s' => r = .none ∧ Q (.done (.ret (.ref e))) s') E ⟨h', g, d, t, os⟩) (hrest : rest.length ≤ sizeLine) :
    wpAny (model prog w) A (Builtin.«type.__call__» ⟨.ref C :: rest, []⟩) Q E ⟨h, g, d, t, os⟩ := by
  repeat (first | with_reducible refine wpAny_loadPart_at hC ?_ | with_reducible refine wpAny_madeBy_exc hC ?_ | wp_step)
  refine codeAny_call_builtin_code (Code.quiet_builtin _ F.quiet) (own_check_new F hcB hC ?_)
  refine own_new F hcB hcA hcN hC ?_ hrest
  show wpAny _ _ _ _ _ _
  have up : ∀ (b : Addr) (o : Obj), h.get? b = some o → ((h.push { cls := .type "tuple", data := .seq rest.toArray }).push { cls := .ref C, data := .fields #[.ref h.objs.size, .none, .none, .none, .bool false, .none] }).get? b = some o :=
    fun b o e => Heap.get?_push_of_some _ (Heap.get?_push_of_some _ e)
  have hC₁ := up _ _ hC
  have hfI₁ := up _ _ hfI
  have hn₁ : ((h.push { cls := .type "tuple", data := .seq rest.toArray }).push { cls := .ref C, data := .fields #[.ref h.objs.size, .none, .none, .none, .bool false, .none] }).Ns N mN :=
    let ⟨o, es, ep, e, r⟩ := hn; ⟨o, es, ep, up _ _ e, r⟩
  have hget : ((h.push { cls := .type "tuple", data := .seq rest.toArray }).push { cls := .ref C, data := .fields #[.ref h.objs.size, .none, .none, .none, .bool false, .none] }).get? (h.objs.size + 1) = some { cls := .ref C, data := .fields #[.ref h.objs.size, .none, .none, .none, .bool false, .none] } := by heap_get
  have hcC : (Value.ref C :: bm).contains (.ref C) = true := by simp
  unfold isInstance
  repeat (first | with_reducible refine wpAny_loadPart_at hget ?_ | (with_reducible refine wpAny_isSubtype_exc hC₁ ?_; rw [hcC]) | wp_step)
  show wpAny _ _ (typeLookup (.ref C) _) _ _ _
  refine own_init_found hC₁ hn₁ hi ?_
  refine wpAny_holding (wpAny_bind ?_)
  unfold bindSpecial
  refine wpAny_bind (wpAny_typeOf (T := "function") ⟨_, hfI₁, hfc⟩ ?_)
  rw [if_pos (by decide)]
  refine wpAny_pure (wpAny_bind (wpAny_mono (hq _ (h.objs.size + 1) ⟨up, Heap.get?_none_of_le (Nat.le_succ _), h.objs.size, hget, Heap.get?_none_of_le (Nat.le_refl _), ?_⟩) (fun r s' hr => ?_) fun _ _ x => x))
  · exact Heap.get?_push_of_some _ (Heap.get?_push_at rfl rfl)
  · obtain ⟨rfl, hQ⟩ := hr
    wp_walk
    exact hQ
theorem own_call {mN : Str → Option Value} {rest : List Value} {fI : Addr} {oI : Obj} {Q : Value → Shared → Prop}
    (F : ExcBaseFacts B newId initId bmB) (hcB : (Value.ref C :: bm).contains (.type B) = true) (hcA : (Value.ref C :: bm).contains (.type "AttributeError") = false) (hcN : (Value.ref C :: bm).contains (.type "NameError") = false)
    (hC : h.get? C = some (excClassObj nm q C N bs bm hdct sn sub ab col dd k0 k1 k2 k3 k5 newId)) (hn : h.Ns N mN) (hi : mN "__init__" = some (.ref fI)) (hfI : h.get? fI = some oI) (hfc : oI.cls = .type "function")
    (hq : ∀ h' e, Heap.MadeExcOf h h' e (.ref C) rest →
      wpAny (model prog w) (A.under (.builtin "type.__call__" ⟨.ref C :: rest, []⟩)) (call (.ref fI) (.ref e :: rest)) (fun r s' => r = .none ∧ Q (.ref e) s') E ⟨h', g, d, t, os⟩) (hrest : rest.length ≤ sizeLine) :
    wpAny (model prog w) A (call (.ref C) rest) Q E ⟨h, g, d, t, os⟩ := by
  have f1 := tc_lookup
  have f2 := tc_bind (.ref C)
  have hT : (⟨h, g, d, t, os⟩ : Shared).TypeIs (.ref C) "type" := ⟨_, hC, rfl⟩
  refine wpAny_call (codeAny_of_tree ?_)
  show wpAny _ _ (callAny (.ref C) _) _ _ _
  repeat (any_goals (first | assumption | with_reducible refine wpAny_loadPart_at hC ?_ | wp_step))
  refine ⟨rfl, ?_⟩
  exact codeAny_call_builtin_at (Code.quiet_builtin _ (by decide +kernel)) entry_typeCall (wpAny_check_type_call_sub hC (own_type_call F hcB hcA hcN hC hn hi hfI hfc (fun h' e hm => hq h' e hm) hrest))
end
end
section
open Builtin Builtin.ObjectAttr
section
variable {prog : Program} {w : World} {A : Around} {s : Shared} {K : Frag} {x C B L : Addr} {h₀ : Heap} {m : Str → Option Value} {news : List (Addr × Obj)} {R : Result → Shared → Prop} {cd : ClassData}
noncomputable abbrev mro2 (C B : Addr) : List Value := [.ref C, .ref B, .type "Exception", .type "BaseException", .type "object"]
theorem refuse2 (self : Value) (C B : Addr) : refuseLoop self "__setattr__" (mro2 C B) = pure () := by
  rw [refuseLoop_ref, refuseLoop_ref]
  exact PySem.F.store_Exception.passes self
theorem exa_open {ox : Obj} {od : Option Obj} {name : Str} {tk : Tok} {v : Value} (X : K.In s.heap) (I : InstAt s.heap x ox C od) (hc : clsIn K C = some cd) (ho : cd.mro = mro2 C B) (ht : takerIn K C name = some none)
    (h : ∀ b, wpAny (model prog w) A.in1 (storeInOwnDict (.ref x) (.ref C) (.str name tk) name v b)
      (fun fin s' => match fin with | .done f => R (.ok f) s' | .again c' => c'.quiet = true ∧ codeAny (model prog w) A c' R s') (fun e s' => R (.error e) s') s) :
    codeAny (model prog w) A (.call (.builtin "object.__setattr__") ⟨[.ref x, .str name tk, v], []⟩) R s := by
  have SF := PySem.F.store_object
  have sub : Looks (model prog w) s.heap (isInstance (.ref x) (.type "object")) true := I.type.andThen (looks_mroIn X (by unfold mroIn; rw [hc, Option.bind_some, if_neg (by rw [ho]; exact Bool.false_ne_true), ho]; simp [mro2]))
  refine codeAny_call_builtin SF.slot.plain SF.entry (@check_slot (model prog w) _ _ s "object.__setattr__" "object" "__setattr__" (.ref x) [.str name tk, v] [] _ SF.kind SF.split sub (SF.args (.ref x) (.str name tk) v) ?_)
  obtain ⟨attr, ha, hr⟩ := Option.bind_eq_some_iff.mp ht
  have hm : Looks (model prog w) s.heap (mroOf (.ref C)) cd.mro := (looks_clsIn X hc).andThen .now
  have L3 : Looks (model prog w) s.heap (storeTaker? attr) none := by
    cases attr with
    | none => exact .now
    | some a =>
      obtain ⟨b, hb, hbr⟩ := Option.map_eq_some_iff.mp hr
      refine (looks_takesIn X hb).andThen ?_
      cases b
      · exact .now
      · cases hbr
  rw [osa_eq, refuse_eq]
  refine wpAny_bind (wpAny_bind (I.type.here (wpAny_bind (hm.here ?_))))
  rw [ho, refuse2]
  refine wpAny_pure (wpAny_bind (I.type.here (wpAny_bind ((looks_findIn X ha).here (wpAny_bind (L3.here ?_))))))
  exact h _
theorem sid {E : Value → Shared → Prop} {Q : Fin → Shared → Prop} {dx : Addr} {name : Str} {tk : Tok} {v : Value} {pre post : List (Addr × Obj)} {es : List DictEntry} {n : Nat} (F : Fr h₀ L s.heap m) (N : News h₀ L s.heap (pre ++ (dx, dictOf es n) :: post))
    (hl : (getL name es).isSome = true) (h1 : ∀ p ∈ pre, p.1 ≠ dx) (h2 : ∀ p ∈ post, p.1 ≠ dx)
    (hz : es.length ≤ 900)
    (h : ∀ h' es' n', Fr h₀ L h' m → News h₀ L h' (pre ++ (dx, dictOf es' n') :: post) → es' = putL name (PyData.keyHash w.params name) (.str name s.toks) v es → n' = putN name es n → Q (.done (.ret .none)) { s with heap := h', toks := s.toks + 1 }) :
    wpAny (model prog w) A (storeInDict dx (.str name tk) name v) Q E s := by
  have hl2 : (lookIn name (dictOf es n)).isSome = true := by rw [lookIn_dict]; exact hl
  obtain ⟨U1, U2⟩ := news_upd (f := Obj.putName name (PyData.keyHash w.params name) (.str name s.toks) v) F N h1 h2 rfl (by rw [putName_dict]; rfl)
  have D := (N (dx, dictOf es n) (by simp)).1
  have D' := (U2 (dx, Obj.putName name (PyData.keyHash w.params name) (.str name s.toks) v (dictOf es n)) (by simp)).1
  rw [putName_dict] at U2 D'
  have hz' : (putL name (PyData.keyHash w.params name) (.str name s.toks) v es).length ≤ 1000 := by
    have : ∀ es : List DictEntry, (putL name (PyData.keyHash w.params name) (.str name s.toks) v es).length ≤ es.length + 1 := by
      intro es
      induction es with
      | nil => simp [putL]
      | cons e r ih => unfold putL; split <;> simp only [List.length_cons] <;> omega
    have := this es; omega
  unfold storeInDict newKeyGuard
  refine wpAny_bind (wpAny_pure (wpAny_bind ?_))
  unfold nsSet
  refine wpAny_bind (wpAny_bind (wpAny_askSetting (wpAny_pure (wpAny_bind (wpAny_mkText (wpAny_bind (wpAny_loadPart D ?_)))))))
  have c : (!es.toArray.any (·.key.isStr name) && es.toArray.any (·.refKey)) = false := by
    rw [← Array.any_toList, ← Array.any_toList]
    unfold getL at hl
    split at hl
    · rename_i en he
      rw [List.any_eq_true.mpr ⟨en, List.mem_of_find?_eq_some he, List.find?_some he⟩]; rfl
    · split at hl
      · cases hl
      · rename_i z; rw [Bool.not_eq_true] at z; rw [z, Bool.and_false]
  dsimp only
  rw [aRefKeyMayBeTheName_at, c]
  refine wpAny_updatePart D ?_
  refine wpAny_bind (wpAny_lookBehind D' (by exact pastItsLine_dict (by rw [List.size_toArray, sizeLine_eq]; omega)) ?_)
  exact wpAny_pure (h _ _ _ U1 U2 rfl rfl)
theorem exa_some {ox : Obj} {dx : Addr} {name : Str} {tk : Tok} {v : Value} {pre post : List (Addr × Obj)} {es : List DictEntry} {n : Nat} (F : Fr h₀ L s.heap m) (N : News h₀ L s.heap (pre ++ (dx, dictOf es n) :: post)) (X : K.In s.heap)
    (I : InstAt s.heap x ox C (some (dictOf es n))) (hd : ox.dict = some dx) (hc : clsIn K C = some cd) (ho : cd.mro = mro2 C B) (hh : cd.hasDict = true) (ht : takerIn K C name = some none)
    (hl : (getL name es).isSome = true) (h1 : ∀ p ∈ pre, p.1 ≠ dx) (h2 : ∀ p ∈ post, p.1 ≠ dx)
    (hz : es.length ≤ 900)
    (h : ∀ h' es' n', Fr h₀ L h' m → News h₀ L h' (pre ++ (dx, dictOf es' n') :: post) → es' = putL name (PyData.keyHash w.params name) (.str name s.toks) v es → n' = putN name es n → R (.ok (.ret .none)) { s with heap := h', toks := s.toks + 1 }) :
    codeAny (model prog w) A (.call (.builtin "object.__setattr__") ⟨[.ref x, .str name tk, v], []⟩) R s := by
  refine exa_open X I hc ho ht fun b => ?_
  have hx := I.at_
  have hcl := I.cls
  obtain ⟨oc, odi, oda, osl⟩ := ox
  dsimp only at hcl hd
  subst hcl hd
  refine wpAny_bind (wpAny_pure (wpAny_bind (wpAny_bind (wpAny_loadPart hx (wpAny_bind ((looks_clsIn X hc).here ?_))))))
  rw [hh]
  refine wpAny_pure (a := some dx) ?_
  exact sid F N hl h1 h2 hz fun h' es' n' F' N' e1 e2 => h h' es' n' F' N' e1 e2
theorem exa_none {vs : Array Value} {name : Str} {tk : Tok} {v : Value} {pre post : List (Addr × Obj)} (F : Fr h₀ L s.heap m) (N : News h₀ L s.heap (pre ++ (x, ⟨.ref C, none, .fields vs, #[]⟩) :: post)) (X : K.In s.heap)
    (hc : clsIn K C = some cd) (ho : cd.mro = mro2 C B) (hh : cd.hasDict = true) (ht : takerIn K C name = some none)
    (h1 : ∀ p ∈ pre, p.1 ≠ x) (h2 : ∀ p ∈ post, p.1 ≠ x)
    (h : ∀ dx h' es' n', (∀ p ∈ pre ++ (x, (⟨.ref C, none, .fields vs, #[]⟩ : Obj)) :: post, p.1 < dx) → Fr h₀ L h' m → News h₀ L h' ((dx, dictOf es' n') :: (pre ++ (x, ⟨.ref C, some dx, .fields vs, #[]⟩) :: post)) → es' = [⟨PyData.keyHash w.params name, .str name s.toks, v⟩] → n' = 1 → R (.ok (.ret .none)) { s with heap := h', toks := s.toks + 1 }) :
    codeAny (model prog w) A (.call (.builtin "object.__setattr__") ⟨[.ref x, .str name tk, v], []⟩) R s := by
  have hx := (N (x, ⟨.ref C, none, .fields vs, #[]⟩) (by simp)).1
  have I : InstAt s.heap x ⟨.ref C, none, .fields vs, #[]⟩ C none := ⟨hx, rfl, rfl, trivial⟩
  refine exa_open X I hc ho ht fun b => ?_
  refine wpAny_bind (wpAny_pure (wpAny_bind (wpAny_bind (wpAny_loadPart hx (wpAny_bind ((looks_clsIn X hc).here ?_))))))
  rw [hh]
  dsimp only
  rw [if_neg (by simp), if_neg (by simp [typeHasDict])]
  have hx₁ : (s.heap.push { cls := .type "dict", data := .dict #[] }).get? x = some ⟨.ref C, none, .fields vs, #[]⟩ := Heap.get?_push_of_some _ hx
  refine wpAny_bind (wpAny_alloc' ?_)
  refine wpAny_bind (wpAny_update' hx₁ ?_)
  refine wpAny_pure ?_
  have hup : ∀ b o, s.heap.get? b = some o → (s.heap.push { cls := .type "dict", data := .dict #[] }).get? b = some o := fun b o e => Heap.get?_push_of_some _ e
  have F1 : Fr h₀ L (s.heap.push { cls := .type "dict", data := .dict #[] }) m := by
    obtain ⟨oL, es, ep, hL, r⟩ := F.ns
    exact ⟨⟨oL, es, ep, hup _ _ hL, r⟩, fun b x q => hup _ _ (F.keep b x q), F.above⟩
  have N1 := news_pushed F N hup (Heap.get?_push_at rfl rfl) rfl
  have lt : ∀ p ∈ pre ++ (x, (⟨.ref C, none, .fields vs, #[]⟩ : Obj)) :: post, p.1 < s.heap.objs.size := fun p hp => Heap.lt_size (N p hp).1
  have hxs : s.heap.objs.size ≠ x := Nat.ne_of_gt (lt (x, ⟨.ref C, none, .fields vs, #[]⟩) (by simp))
  obtain ⟨F2, N2⟩ := news_upd (pre := (s.heap.objs.size, { cls := .type "dict", data := .dict #[] }) :: pre) (f := fun o => { o with dict := some s.heap.objs.size }) F1 (by exact N1) (by
    intro p hp; rcases List.mem_cons.mp hp with rfl | hp
    · exact hxs
    · exact h1 p hp) h2 rfl rfl
  refine sid (pre := []) (es := []) (n := 0) F2 N2 rfl (fun _ z => nomatch z) (fun p hp => ?_) (by decide) fun h' es' n' F' N' e1 e2 => h _ h' es' n' lt F' N' e1 e2
  have : p.1 < s.heap.objs.size := by
    rcases List.mem_append.mp hp with q | q
    · exact lt p (List.mem_append_left _ q)
    · rcases List.mem_cons.mp q with rfl | q
      · exact lt (x, ⟨.ref C, none, .fields vs, #[]⟩) (by simp)
      · exact lt p (List.mem_append_right _ (List.mem_cons_of_mem _ q))
  exact Nat.ne_of_lt this
end
end
section
open Builtin Builtin.ObjectAttr
section
variable {prog : Program} {w : World} {A : Around} {s : Shared} {K : Frag} {x C B L : Addr} {h₀ : Heap} {m : Str → Option Value} {news : List (Addr × Obj)} {E : Value → Shared → Prop} {g : Obj → List (Addr × Obj)}
noncomputable def own2In (K : Frag) (C B : Addr) : Bool := (clsIn K C).any fun cd => cd.mro == mro2 C B && cd.hasDict
theorem own2_of (q : own2In K C B = true) : ∃ cd, clsIn K C = some cd ∧ cd.mro = mro2 C B ∧ cd.hasDict = true := by
  unfold own2In at q
  cases hc : clsIn K C with
  | none => rw [hc] at q; cases q
  | some cd =>
    rw [hc] at q
    simp only [Option.any_some, Bool.and_eq_true, beq_iff_eq] at q
    exact ⟨cd, rfl, q.1, q.2⟩
theorem lt_upd {pre post : List (Addr × Obj)} {x : Addr} {o o' : Obj} {d : Addr} (h : ∀ p ∈ pre ++ (x, o) :: post, p.1 < d) : ∀ p ∈ pre ++ (x, o') :: post, p.1 < d := fun p hp => by
  rcases List.mem_append.mp hp with q | q
  · exact h p (List.mem_append_left _ q)
  · rcases List.mem_cons.mp q with rfl | q
    · exact h (x, o) (by simp)
    · exact h p (List.mem_append_right _ (List.mem_cons_of_mem _ q))
theorem ne2 {e t0 : Addr} {o : Obj} (a : e ≠ t0) (b : ∀ p ∈ news, p.1 ≠ e) : ∀ p ∈ (t0, o) :: news, p.1 ≠ e := fun p hp => by
  rcases List.mem_cons.mp hp with rfl | hp
  · exact a.symm
  · exact b p hp
theorem pick_exc {h : Heap} {a b c d : Addr × Obj} (N : News h₀ L h (a :: b :: c :: d :: news)) : News h₀ L h (c :: b :: news) := fun q hq => by
  rcases List.mem_cons.mp hq with rfl | hq
  · exact N _ (.tail _ (.tail _ (.head _)))
  · rcases List.mem_cons.mp hq with rfl | hq
    · exact N _ (.tail _ (.head _))
    · exact N _ (.tail _ (.tail _ (.tail _ (.tail _ hq))))
theorem lt_drop2 {a b : Addr × Obj} {t : Addr} (h : ∀ p ∈ a :: b :: news, p.1 < t) : ∀ p ∈ news, p.1 < t := fun p hp => h p (.tail _ (.tail _ hp))
theorem updT {x t1 : Addr} {o o1 : Obj} {r : List (Addr × Obj)} (hl : ∀ p ∈ (x, o) :: r, p.1 < t1) (hr : ∀ p ∈ r, p.1 ≠ x) : UpdF x o ((t1, o1) :: (x, o) :: r) (fun o' => (t1, o1) :: (x, o') :: r) := .tail (Nat.ne_of_gt (hl _ (.head _))) (.head hr)
theorem updH {x : Addr} {o : Obj} {r : List (Addr × Obj)} (hl : ∀ p ∈ r, p.1 < x) : UpdF x o ((x, o) :: r) (fun o' => (x, o') :: r) := .head (fun p hp => Nat.ne_of_lt (hl p hp))
theorem exs_none {vs : Array Value} {name : Str} {v : Value} {Q : Unit → Shared → Prop} (F : Fr h₀ L s.heap m) (X₀ : K.In h₀) (N : News h₀ L s.heap news) (U : UpdF x ⟨.ref C, none, .fields vs, #[]⟩ news g)
    (hs : findIn K (.ref C) "__setattr__" = some (some (.builtin "object.__setattr__"))) (q : own2In K C B = true) (ht : takerIn K C name = some none)
    (h : ∀ dx h', (∀ p ∈ g ⟨.ref C, some dx, .fields vs, #[]⟩, p.1 < dx) → Fr h₀ L h' m → News h₀ L h' ((dx, dictOf [⟨PyData.keyHash w.params name, .str name (s.toks + 1), v⟩] 1) :: g ⟨.ref C, some dx, .fields vs, #[]⟩) → Q () { s with heap := h', toks := s.toks + 2 }) :
    wpAny (model prog w) A (setAttr (.ref x) name v) Q E s := by
  obtain ⟨pre, post, rfl, hg, a, b⟩ := U.split
  obtain ⟨cd, hc, ho, hh⟩ := own2_of q
  have hx := (N (x, ⟨.ref C, none, .fields vs, #[]⟩) (by simp)).1
  have I : InstAt s.heap x ⟨.ref C, none, .fields vs, #[]⟩ C none := ⟨hx, rfl, rfl, trivial⟩
  refine set_plain (X₀.keeps F.keep) I hs (exa_none (s := { s with toks := s.toks + 1 }) F N (X₀.keeps F.keep) hc ho hh ht a b fun dx h' es' n' hl F' N' e1 e2 => ?_)
  subst e1 e2
  exact h dx h' (by rw [hg]; exact lt_upd hl) F' (by rw [hg]; exact N')
theorem exs_some {vs : Array Value} {name : Str} {v : Value} {dx : Addr} {es : List DictEntry} {n : Nat} {Q : Unit → Shared → Prop} (F : Fr h₀ L s.heap m) (X₀ : K.In h₀) (N : News h₀ L s.heap news) (hx : (x, (⟨.ref C, some dx, .fields vs, #[]⟩ : Obj)) ∈ news) (U : UpdF dx (dictOf es n) news g)
    (hs : findIn K (.ref C) "__setattr__" = some (some (.builtin "object.__setattr__"))) (q : own2In K C B = true) (ht : takerIn K C name = some none) (hl : (getL name es).isSome = true) (hz : es.length ≤ 900)
    (h : ∀ h' es' n', Fr h₀ L h' m → News h₀ L h' (g (dictOf es' n')) → Q () { s with heap := h', toks := s.toks + 2 }) :
    wpAny (model prog w) A (setAttr (.ref x) name v) Q E s := by
  have hd := (N _ (show (dx, dictOf es n) ∈ news by obtain ⟨pre, post, rfl, _⟩ := U.split; simp)).1
  have hx1 := (N _ hx).1
  obtain ⟨pre, post, rfl, hg, a, b⟩ := U.split
  obtain ⟨cd, hc, ho, hh⟩ := own2_of q
  have I : InstAt s.heap x ⟨.ref C, some dx, .fields vs, #[]⟩ C (some (dictOf es n)) := ⟨hx1, rfl, rfl, hd⟩
  refine set_plain (X₀.keeps F.keep) I hs (exa_some (s := { s with toks := s.toks + 1 }) F N (X₀.keeps F.keep) I rfl hc ho hh ht hl a b hz fun h' es' n' F' N' e1 e2 => ?_)
  exact h h' es' n' F' (by rw [hg]; exact N')
noncomputable def Own2 (K : Frag) (C B N : Addr) : Prop := ∃ nm q bs sn sub ab col dd k0 k1 k2 k3 k5, K.lookup C = some (excClassObj nm q C N bs [.ref B, .type "Exception", .type "BaseException", .type "object"] true sn sub ab col dd k0 k1 k2 k3 k5 "Exception.__new__")
theorem exb_init {vs : Array Value} {od : Option Addr} {v : Value} {Q : Value → Shared → Prop} (F : Fr h₀ L s.heap m) (X₀ : K.In h₀) (N : News h₀ L s.heap news) (U : UpdF x ⟨.ref C, od, .fields vs, #[]⟩ news g)
    {NS : Addr} (q : Own2 K C B NS) (h0 : 0 < vs.size) {t0 : Addr} (hv : vs[0]? = some (.ref t0))
    (h : ∀ t1 h', (∀ p ∈ g ⟨.ref C, od, .fields (vs.setIfInBounds 0 (.ref t1)), #[]⟩, p.1 < t1) → Fr h₀ L h' m → News h₀ L h' ((t1, { cls := .type "tuple", data := .seq #[v] }) :: g ⟨.ref C, od, .fields (vs.setIfInBounds 0 (.ref t1)), #[]⟩) → Q .none { s with heap := h' }) :
    wpAny (model prog w) A (call (.builtin "Exception.__init__") [.ref x, v]) Q E s := by
  obtain ⟨pre, post, rfl, hg, a, b⟩ := U.split
  have F0 := PySem.F.excBase_Exception
  have hx := (N (x, ⟨.ref C, od, .fields vs, #[]⟩) (by simp)).1
  obtain ⟨nm, qn, bs, sn, sub, ab, col, dd, k0, k1, k2, k3, k5, hC⟩ := q
  have hC := F.keep _ _ (X₀ _ _ hC)
  have hcB : (Value.ref C :: [.ref B, .type "Exception", .type "BaseException", .type "object"]).contains (.type "Exception") = true := by simp
  obtain ⟨hp, gg, d, tk, os⟩ := s
  refine wpAny_call (codeAny_call_builtin F0.init.plain F0.initEntry (own_check_init F0 hcB hC hx rfl ?_))
  unfold Builtin.«BaseException.__init__»
  dsimp only
  rw [if_neg (by simp)]
  unfold newTuple Builtin.BaseException.bexcPut
  have lt : ∀ p ∈ pre ++ (x, (⟨.ref C, od, .fields vs, #[]⟩ : Obj)) :: post, p.1 < hp.objs.size := fun p hp => Heap.lt_size (N p hp).1
  have he₁ := Heap.get?_push_of_some (h := hp) { cls := .type "tuple", data := .seq #[v] } hx
  have F1 := F.push { cls := .type "tuple", data := .seq #[v] }
  have N1 := N.push F { cls := .type "tuple", data := .seq #[v] }
  obtain ⟨F2, N2⟩ := news_upd (pre := (hp.objs.size, { cls := .type "tuple", data := .seq #[v] }) :: pre) (f := Obj.mapFields (·.setIfInBounds 0 (.ref hp.objs.size))) F1 (by exact N1) (by
    intro p hp; rcases List.mem_cons.mp hp with rfl | hp
    · exact Nat.ne_of_gt (lt (x, ⟨.ref C, od, .fields vs, #[]⟩) (by simp))
    · exact a p hp) b rfl rfl
  refine wpAny_bind (wpAny_newObj_type (wpAny_bind (wpAny_bind (wpAny_field he₁ rfl hv (wpAny_bind (wpAny_setField he₁ rfl h0 ?_))))) (by size_fits))
  exact wpAny_letGo (wpAny_pure (h _ _ (by rw [hg]; exact lt_upd lt) F2 (by rw [hg]; exact N2)))
end
section
variable {M : Model} {A : Around} {E : Value → Shared → Prop} {s' : Shared} {base g : Heap} {outer : List Env} {L a e t : Addr} {m : Str → Option Value} {name : Str} {scope : Scope} {cd : Value} {Q : Unit → Shared → Prop} {news all : List (Addr × Obj)}
theorem leave_own {eo : Obj} {vs : List Value} {ws : Array Value} (K : Below A base outer g) (F : Fr g L s'.heap m) (N : News g L s'.heap all)
    (he : (e, eo) ∈ all) (ht : (t, ({ cls := .type "tuple", data := .seq vs.toArray } : Obj)) ∈ all) (hd : eo.data = .fields ws) (h0 : ws[0]? = some (.ref t)) (h1 : ws[1]? = some .none)
    (hin0 : ∀ q ∈ news, q ∈ all) (hne : ∀ q ∈ news, q.1 ≠ e) (hnt : ∀ q ∈ news, q.1 ≠ t)
    (hQ : ∀ h' t, RaisedK base outer e eo.cls t vs news h' → g.UpToSlots h' → Q () { s' with heap := h' }) (hk : scope.kind = .function := by rfl) :
    wpAny M (A.deeper (envOf name scope L a cd)) (leaving (envOf name scope L a cd) (.ref e)) Q E s' := by
  have K' := K.push (name := name) (a := a) (cd := cd) F hk
  have hin : ∀ env ∈ (envOf name scope L a cd :: outer), ∀ b, env.frame = some b → b ∈ e :: t :: (envOf name scope L a cd :: outer).filterMap (·.frame) := fun env he b hb => List.mem_cons_of_mem _ (List.mem_cons_of_mem _ (List.mem_filterMap.mpr ⟨env, he, hb⟩))
  have be : base.get? e = none := fresh_of_stays K.stays (N _ he).2.2
  have bt : base.get? t = none := fresh_of_stays K.stays (N _ ht).2.2
  have st : base.StaysIn (hideAll s'.heap (e :: t :: (envOf name scope L a cd :: outer).filterMap (·.frame))) := fun b o q => hideAll_get _ (K'.stays b o q) fun hm => by
    rcases List.mem_cons.mp hm with rfl | hm
    · rw [be] at q; cases q
    rcases List.mem_cons.mp hm with rfl | hm
    · rw [bt] at q; cases q
    rw [(K'.frames.mem hm).1] at q; cases q
  have hl : ∀ q ∈ news, (hideAll s'.heap (e :: t :: (envOf name scope L a cd :: outer).filterMap (·.frame))).get? q.1 = some q.2 ∧ base.get? q.1 = none := fun q hq => by
    have hq' := hin0 q hq
    refine ⟨hideAll_get _ (N q hq').1 fun hm => ?_, fresh_of_stays K.stays (N q hq').2.2⟩
    rcases List.mem_cons.mp hm with z | hm
    · exact hne q hq z
    rcases List.mem_cons.mp hm with z | hm
    · exact hnt q hq z
    obtain ⟨env, he, hf⟩ := List.mem_filterMap.mp hm
    rcases List.mem_cons.mp he with rfl | he
    · exact (N q hq').2.1 (Option.some.inj hf).symm
    · obtain ⟨o, ho, _⟩ := (K.frames.mem (List.mem_filterMap.mpr ⟨env, he, hf⟩)).2
      rw [(N q hq').2.2] at ho; cases ho
  have en : (hideAll s'.heap (e :: t :: (envOf name scope L a cd :: outer).filterMap (·.frame))).get? e = none := hideAll_none _ (.head _)
  have tn : (hideAll s'.heap (e :: t :: (envOf name scope L a cd :: outer).filterMap (·.frame))).get? t = none := hideAll_none _ (.tail _ (.head _))
  refine wpAny_leaving_firstW (a0 := .ref t) K'.stack (funFrames_hide K'.frames hin) rfl (N _ he).1 (fun b o q => of_hideAll _ q) en hd h1 h0 fun h' hL => ?_
  obtain ⟨k1, ⟨_, _, k2⟩, k3, k4⟩ := hL
  refine hQ h' t ⟨⟨_, st, hl, ⟨k1, en, k2, k3⟩, tn⟩, Heap.TupAt.of_slots ⟨_, _, (N _ ht).1, rfl, rfl⟩ k4⟩ ((Heap.UpToSlots.of_keeps F.keep).trans k4)
end
end
section
theorem wd_41 : True := by
  k_with_none
  k_with "eval Call" => (k_here; k_fold)
  k_with "eval BinOp" => (k_here; k_fold)
  k_with "eval Compare" => (k_here; k_fold)
  k_with "isTrue Compare" => (k_here; k_fold)
  k_with "isTrue Call" => (k_here; k_fold)
  k_with "eval BoolOp" => (k_here; k_fold)
  k_with "isTrue BoolOp" => (k_here; k_fold)
  k_with "isTrue" => (k_here; k_fold)
  k_with "eval Attribute" => (k_here; k_fold)
  k_with "eval Tuple" => (k_here; k_fold)
  k_with "eval List" => (k_here; k_fold)
  k_with "eval Subscript" => (k_here; k_fold)
  k_with "eval IfExp" => (k_here; k_fold)
  k_with "execs cons" => (k_here; with_reducible refine gen_tk ?_; intro tk; (try dsimp only))
  k_with "eval Call" => (k_here; with_reducible refine gen_tk ?_; intro tk; (try dsimp only))
  k_with "setAttr ref" => (k_here; with_reducible refine gen_tk ?_; intro tk; (try dsimp only))
  k_with "newList" => (k_here; with_reducible refine gen_tk ?_; intro tk; (try dsimp only))
  k_with "eval BinOp" => (k_here; with_reducible refine gen_tk ?_; intro tk; (try dsimp only))
  k_with "eval Subscript" => (k_here; with_reducible refine gen_tk ?_; intro tk; (try dsimp only))
  k_with "k_all" => (first | assumption | exact all_ne (by with_reducible assumption) (by (intro q9 hq9; repeat (first | exact hq9 | refine List.Mem.tail _ ?_))))
  k_with "subscriptTail Name Constant ref int" => ((k_here; k_dflt (refine' my_item ?k1 ?k2 ?k3 ?k4 ?k5 ?_ ?k7; (case k1 => k_asm); (case k2 => k_mem); (case k3 => decide); (case k4 => decide); (case k5 => exact rfl); (case k7 => with_unfolding_all rfl); k_whole)))
  k_with "call ref" => ((k_here; (with_reducible show wpAny _ _ (call (Value.ref 386) [Value.ref _, Value.int _ _]) _ _ _); k_dflt (refine' wind_at ?kB ?kF ?kX ?kN ?kT ?kK ?kU ?kx ?ky ?kz ?kt ?ku ?kd ?ke ?_; (case kB => k_asm); (case kF => k_asm); (case kX => k_asm); (case kN => k_asm); (case kT => k_asm); (case kK => first | exact rfl | assumption); (case kU => k_updF); (case kx => assumption); (case ky => assumption); (case kz => assumption); (case kt => omega); (case ku => omega); (case kd => ktr_room); (case ke => ktr_units)); intro d' x' y' td' tx' ty' h' tk' hd0 hd1 hx' hy' hz' F' N'; (try dsimp only at N'); (try dsimp only); (try k_sweep); walk_say "WIND"; (try k_extra "wind")))
  k_with "k_room" => (ktr_room)
  k_with "k_units" => (ktr_units)
  k_with "ktr_rel" => ((intro q9 hq9; repeat (first | exact hq9 | refine List.Mem.tail _ ?_)))
  k_with "binaryOp Pow int int" => ((k_here; (refine' pow_lit ?kb1 ?kb2 ?kb3 ?_); (case kb1 => decide); (case kb2 => decide); (case kb3 => ((simp only [Int.reduceToNat, Int.reducePow]); exact rfl))))
  k_with "CompSrc" => ((k_here; k_dflt (first | (refine LCg.CompSrc.ledger (by rfl) (by k_asm) (by k_asm) (by k_mem) (by first | size_fits | exact Nat.le_of_ble_eq_true rfl) ?_; intro g'; lcg_lit) | (refine LCg.CompSrc.range (by rfl) (by k_asm) (by k_asm) (by assumption) (by first | decide | rfl) (by first | rfl | decide) (by first | size_fits | exact Nat.le_of_ble_eq_true rfl) ?_; intro g'; lcg_lit))))
  k_with "CompRest" => ((with_unfolding_all first | (refine LCg.CompRest.succ ?_; intro v' I' oI' C' oC' D' m' h' tk' E' hv' hC' hx' F' N' off' ne'; (first | lcg_open hv' | (obtain ⟨t9', hv9'⟩ := hv'; subst hv9')); (obtain ⟨ne1', ne2', ne3'⟩ := ne')) | refine LCg.CompRest.zero ?_))
  k_with "CompEnd" => ((first | (refine' compEnd0 ?kF ?kN ?ko ?kS ?_; (case kN => assumption); (case kF => assumption); (case ko => assumption); (case kS => lcg_src)) | (refine' compEnd2 ?kF ?kN ?kx ?kd ?ko ?kS ?_; (case kN => assumption); (case kF => assumption); (case kx => exact ⟨by k_ne, by k_ne, by k_ne⟩); (case kd => exact ⟨by k_ne, by k_ne, by k_ne⟩); (case ko => assumption); (case kS => lcg_src)) | (refine' compEnd1 ?kF ?kN ?kx ?ko ?kS ?_; (case kN => assumption); (case kF => assumption); (case kx => exact ⟨by k_ne, by k_ne, by k_ne⟩); (case ko => assumption); (case kS => lcg_src)) | lcg_end))
  k_with "k_ne" => ((refine neN ?_; (try dsimp only); first | (with_reducible assumption) | exact Ne.symm (by with_reducible assumption) | exact Nat.ne_of_gt (by with_reducible assumption) | exact Nat.ne_of_lt (by with_reducible assumption) | exact neA (by with_reducible assumption) (by k_mem) | exact Ne.symm (neA (by with_reducible assumption) (by k_mem)) | exact neO (by with_reducible assumption) (by k_mem) | exact Ne.symm (neO (by with_reducible assumption) (by k_mem)) | exact neI (by with_reducible assumption) (by k_mem) | exact Ne.symm (neI (by with_reducible assumption) (by k_mem)) | exact neC (by with_reducible assumption) (by k_mem) | exact Ne.symm (neC (by with_reducible assumption) (by k_mem)) | exact neD (by with_reducible assumption) (by k_mem) | exact Ne.symm (neD (by with_reducible assumption) (by k_mem)) | exact neA2 (by with_reducible assumption) (by with_reducible assumption) (by k_mem) | exact Ne.symm (neA2 (by with_reducible assumption) (by with_reducible assumption) (by k_mem)) | omega))
  k_with "FinE" => (((unfold LCg.FinE); intro D' h' tk' F' N' o1'; (try simp only [List.nil_append, List.cons_append] at N'); (try dsimp only)))
  k_with "FinA" => (((unfold LCg.FinA); intro D' h' tk' F' N' o1'; (try simp only [List.nil_append, List.cons_append] at N'); (try dsimp only)))
  trivial
theorem meta_exc : typeOf (.type "Exception") = pure (.type "type") := by kernel_rfl
theorem k90 (prm : Params) : Own2 (Mine.K prm) 90 45 89 := ⟨_, _, _, _, _, _, _, _, _, _, _, _, _, rfl⟩
theorem own2K (prm : Params) : own2In (Mine.K prm) 90 45 = true := by rfl
theorem wd_42 : True := by
  k_with "getMethod type:Exception" => ((k_here; refine' method_type ?F ?X ?m (by decide +kernel) ?e ?h ?_; (case F => k_asm); (case X => k_asm); (case m => exact meta_exc); (case e => k_dflt k_is); (case h => k_handed)))
  k_with "call builtin:Exception.__init__" => ((k_here; k_dflt (refine' exb_init ?k1 ?k2 ?k3 ?k4 ?k5 ?k6 ?k7 ?_; (case k1 => k_asm); (case k2 => k_asm); (case k3 => k_asm); (case k4 => (refine' UpdF.head ?kz; case kz => (refine' ne2 ?ka ?kb; (case ka => assumption); (case kb => assumption)))); (case k5 => exact k90 _); (case k6 => exact Nat.le_of_ble_eq_true rfl); (case k7 => exact rfl); k_whole; intro t1 h' hl1 F' N'; (try dsimp only at N'); (try dsimp only); (try k_sweep))))
  k_with "setAttr ref" => ((k_here; k_dflt (first | (refine' exs_none (B := 45) ?k1 ?k2 ?k3 ?k4 ?k5 ?k6 ?k7 ?_; (case k1 => k_asm); (case k2 => k_asm); (case k3 => k_asm); (case k4 => (refine' updT ?kz ?ky; (case kz => assumption); (case ky => (refine' ne2 ?ka ?kb; (case ka => assumption); (case kb => assumption))))); (case k5 => k_is); (case k6 => exact own2K _); (case k7 => k_is); k_whole; intro dx h' hlx F' N'; (try dsimp only at N'); (try dsimp only); (try k_sweep)) | (refine' exs_some (B := 45) ?k1 ?k2 ?k3 ?k4 ?k5 ?k6 ?k7 ?k8 ?k9 ?k10 ?_; (case k1 => k_asm); (case k2 => k_asm); (case k3 => k_asm); (case k4 => exact List.Mem.tail _ (List.Mem.tail _ (List.Mem.head _))); (case k5 => (refine' updH ?kz; case kz => assumption)); (case k6 => k_is); (case k7 => exact own2K _); (case k8 => k_is); (case k9 => exact rfl); (case k10 => exact Nat.le_of_ble_eq_true rfl); k_whole; intro h' esx nx F' N'; (try dsimp only at N'); (try dsimp only); (try k_sweep)) | fail "exs")))
  trivial
theorem init_spec {w : World} {p : Program} {loose : List Str} {mean : ExcName → Option Value} {mg mb : Str → Option Value}
    {dp un : Nat} {gd : Option (List Code)} {cn : Str} {cs : Scope} {a : Addr} {ccd : Value} {cl : List (Str × Addr)} {outer : List Env} {A₀ : Around} {base h₀ : Heap} {L : Addr} {m : Str → Option Value} {s : Shared} {Q E : Value → Shared → Prop}
    {news : List (Addr × Obj)} {e t0 : Addr} {msg : Str} {tm : Tok}
    (B : Below A₀ base outer h₀) (F : Fr h₀ L s.heap m) (X : (Mine.K w.params).In h₀) (N : News h₀ L s.heap ((e, ({ cls := .ref 90, dict := none, data := .fields #[.ref t0, .none, .none, .none, .bool false, .none] } : Obj)) :: (t0, tupO #[.str msg tm] 0) :: news)) (T : Top p loose mean mg mb h₀) (hk : cs.kind = .function)
    (he : e ≠ t0) (hne : ∀ p ∈ news, p.1 ≠ e) (hd : dp + 3 < recursionLimit) (hu : un + 24 < cLine)
    (ret : ∀ (t1 dx : Addr) (h' : Heap) (tk' : Nat), Fr h₀ L h' m → News h₀ L h' ((e, ({ cls := .ref 90, dict := some dx, data := .fields #[.ref t1, .none, .none, .none, .bool false, .none] } : Obj)) :: (t1, ({ cls := .type "tuple", data := .seq #[.str msg tm] } : Obj)) :: news) → (∀ p ∈ news, p.1 < t1) → Q .none { s with heap := h', toks := tk' }) :
    wpAny (model PySem.Challenge.pw_xm0985_01 w) (ktrTop dp un gd cn cs L a ccd cl outer) (call (.ref 87) [.ref e, .str msg tm]) Q E s := by
  refine wpAny_call ?_
  k_dflt (refine' code_def ?k1 ?k2 ?k3 ?k4 ?k5 ?kA ?kF ?kK ?k6 ?k7 ?k8 ?k9 ?kB ?_ ?c2 ?c3 ?c4 ?c5; (case kA => exact rfl); (case kF => exact rfl); (case kK => assumption); (case k1 => k_asm); (case k2 => k_asm); (case k3 => k_asm); (case k4 => k_asm); (case k5 => k_asm); (case k6 => k_is); (case k7 => k_is); (case k8 => ktr_room); (case k9 => (refine' binds_K ?bX ?b1 ?b2 ?b3 ?b4 ?b5; (case bX => exact (fun a o e => F.keep _ _ (X a o e))); (case b1 => exact rfl); (case b2 => k_is); (case b3 => exact rfl); (case b4 => exact rfl); (case b5 => exact rfl))); (case c5 => decide); (case kB => exact locs rfl); (case c2 => exact rfl); (case c3 => exact rfl); (case c4 => exact rfl); k_whole; intro g' L' h' FG' F' N' B' X' T'; (try dsimp only); (try k_lift B'); (try k_fold))
  k_steps
  refine' ret _ _ _ _ ?f ?n ?l
  case f => assumption
  case n => (refine' pick_exc ?q; case q => assumption)
  case l => (refine' lt_drop2 ?q; case q => assumption)
end
section
section
variable {M : Model} {A : Around} {E : Value → Shared → Prop} {env : Env}
variable {nm q : Str} {C N : Addr} {bs bm : List Value} {hdct : Bool} {sn : List Str} {sub : List Value} {ab : Bool} {col : Option Bool} {dd : Option Addr} {k0 k1 k2 k3 k5 : Option Value} {newId : String}
theorem raiseStmt_own {s : Shared} {x : Sem Value} {Q : Flow → Shared → Prop} (hcB : (Value.ref C :: bm).contains (.type "BaseException") = true) (hh : A.handled = none)
    (h : wpAny M A x (fun v s₁ => ∃ e od ws sl, v = .ref e ∧ s₁.heap.get? C = some (excClassObj nm q C N bs bm hdct sn sub ab col dd k0 k1 k2 k3 k5 newId) ∧
      s₁.heap.get? e = some ⟨.ref C, od, .fields ws, sl⟩ ∧ ws[1]? = some .none ∧ E (.ref e) s₁) E s) :
    wpAny M A (raiseStmt env (some x) none) Q E s := by
  unfold raiseStmt
  refine wpAny_bind (wpAny_mono h (fun v s₁ h₁ => ?_) fun _ _ x => x)
  obtain ⟨e, od, ws, sl, rfl, hC, he, hw, hE⟩ := h₁
  obtain ⟨hp, g, d, tk, os⟩ := s₁
  repeat (first | with_reducible refine wpAny_loadPart_at he ?_ | with_reducible refine wpAny_loadPart_at hC ?_ | (with_reducible refine wpAny_isSubtype_exc hC ?_; rw [hcB]) | wp_step)
  rw [hw]
  repeat wp_step
  exact wpAny_raiseNew_none hh hE
end
theorem ns_val_of {K : Frag} {h : Heap} {N : Addr} {mg : Str → Option Value} {n : Str} {v : Value} (X : K.In h) (G : h.Ns N mg) (e : nsIn K N n = some (some v)) : mg n = some v := by
  obtain ⟨o, es, ep, ho, hd, _, hf⟩ := G
  unfold nsIn at e
  split at e
  · rename_i c d es' n' sl q
    have := X _ _ q
    rw [ho] at this
    cases this
    cases hd
    split at e
    · rename_i en he
      cases e
      rw [← hf]
      unfold nsFind findBy
      rw [← Array.find?_toList, he]
      rfl
    · split at e <;> cases e
  · cases e
section
variable {prog : Program} {w : World} {A : Around} {E : Value → Shared → Prop} {s : Shared} {K : Frag} {C B N : Addr} {name : Str} {scope : Scope} {L a fI : Addr} {cd : Value} {h₀ : Heap} {m mg mb : Str → Option Value} {x : Str} {np cpos pos : Pos} {Q : Flow → Shared → Prop} {p : Program} {loose : List Str}
theorem raise_own {e₀ : Expr} {rest : List Expr} (F : Fr h₀ L s.heap m) (X₀ : K.In h₀) (T : TopRead p loose mg mb h₀) (ex : nsIn K mainGlobals x = some (some (.ref C))) (q : Own2 K C B N) (hn : nsOkIn K N = true) (hi : nsIn K N "__init__" = some (some (.ref fI))) (hf : typeIn K (.ref fI) = some (.type "function")) (hh : A.handled = none)
    (h : wpAny (model prog w) A (spliced (backTo cpos (starEach (e₀ :: rest) (envOf name scope L a cd)))) (fun vs s₂ => vs.length ≤ sizeLine ∧ (∀ b o, h₀.get? b = some o → s₂.heap.get? b = some o) ∧
      ∀ h' e, Heap.MadeExcOf s₂.heap h' e (.ref C) vs → wpAny (model prog w) (A.under (.builtin "type.__call__" ⟨.ref C :: vs, []⟩)) (call (.ref fI) (.ref e :: vs))
        (fun r s' => r = .none ∧ (∀ b o, h₀.get? b = some o → s'.heap.get? b = some o) ∧ (∃ od ws sl, s'.heap.get? e = some ⟨.ref C, od, .fields ws, sl⟩ ∧ ws[1]? = some .none) ∧ E (.ref e) s') E { s₂ with heap := h' }) E s)
    (he : starEach (e₀ :: rest) (envOf name scope L a cd) = (false, eval e₀ (envOf name scope L a cd)) :: starEach rest (envOf name scope L a cd) := by rfl)
    (hplain : (backTo cpos (starEach rest (envOf name scope L a cd))).any (·.1) = false := by rfl)
    (hk : scope.kind = .function := by rfl) (hx : (envOf name scope L a cd).kindOf x = some .globalImplicit := by rfl) (hd : (x == ("__debug__" : Str)) = false := by decide) :
    wpAny (model prog w) A (exec (.Raise (some (.Call (.Name x np) (e₀ :: rest) [] cpos)) none pos) (envOf name scope L a cd)) Q E s := by
  have F0 := PySem.F.excBase_Exception
  obtain ⟨nm, qn, bs, sn, sub, ab, col, dd, k0, k1, k2, k3, k5, hCK⟩ := q
  have hC0 := X₀ _ _ hCK
  have hcB : (Value.ref C :: [.ref B, .type "Exception", .type "BaseException", .type "object"]).contains (.type "BaseException") = true := by simp
  have hcE : (Value.ref C :: [.ref B, .type "Exception", .type "BaseException", .type "object"]).contains (.type "Exception") = true := by simp
  have hcA : (Value.ref C :: [.ref B, .type "Exception", .type "BaseException", .type "object"]).contains (.type "AttributeError") = false := by simp
  have hcN : (Value.ref C :: [.ref B, .type "Exception", .type "BaseException", .type "object"]).contains (.type "NameError") = false := by simp
  have hNs : h₀.Ns N (h₀.nsMap N) := .of_isNs (isNs_of_in X₀ hn)
  have hiN := ns_val_of X₀ hNs hi
  obtain ⟨oI, hoI, hoc⟩ := Option.map_eq_some_iff.mp hf
  rw [arm_exec_Raise]
  simp only [evalOpt, Option.map]
  refine wpAny_bind (wpAny_standAt (raiseStmt_own (C := C) (nm := nm) (q := qn) (N := N) (bs := bs) (hdct := true) (sn := sn) (sub := sub) (ab := ab) (col := col) (dd := dd) (k0 := k0) (k1 := k1) (k2 := k2) (k3 := k3) (k5 := k5) (newId := "Exception.__new__") hcB hh ?_))
  refine wpAny_bind (wpAny_mono (wpAny_Call_ofName (wpAny_mono (name_K (Q := fun f s₁ => f = .ref C ∧ s₁ = s) F X₀ T ex ⟨rfl, rfl⟩ hk hx hd) (fun f s₁ h₁ => ?_) fun _ _ x => x)) (fun v s₃ h₃ => wpAny_bind (wpAny_standAt (wpAny_pure h₃))) fun _ _ x => x)
  obtain ⟨rfl, rfl⟩ := h₁
  have hp : (backTo cpos (starEach (e₀ :: rest) (envOf name scope L a cd))).any (·.1) = false := by
    rw [he]; show (false || (backTo cpos (starEach rest (envOf name scope L a cd))).any (·.1)) = false; rw [hplain]; rfl
  unfold callWith
  refine wpAny_bind (wpAny_holding ?_)
  rw [he] at h hp ⊢
  refine Calls.evalArgs_plain (wpAny_mono h (fun vs s₂ h₂ => ?_) fun _ _ y => y)
  obtain ⟨hlen, hkeep, h₂⟩ := h₂
  refine wpAny_bind (wpAny_standAt ?_)
  obtain ⟨hp', g, d, tk, os⟩ := s₂
  simp only [hp]
  refine wpAny_bind (wpAny_keeperOf_exc (hkeep _ _ hC0) ?_)
  refine wpAny_bind (own_call F0 hcE hcA hcN (hkeep _ _ hC0) (hNs.keeps hkeep) hiN (hkeep _ _ (X₀ _ _ hoI)) hoc (fun h' e hm => ?_) hlen)
  refine wpAny_mono (h₂ h' e hm) (fun r s' z => ?_) fun _ _ y => y
  obtain ⟨rfl, hk', ⟨od, ws, sl, hoe, hw⟩, hE⟩ := z
  refine ⟨rfl, ?_⟩
  refine wpAny_bind (wpAny_holding (wpAny_point (wpAny_pure ?_)))
  exact ⟨e, od, ws, sl, rfl, hk' _ _ hC0, hoe, hw, hE⟩
end
end
section
section
variable {prog : Program} {w : World} {A₀ : Around} {E : Value → Shared → Prop} {s' : Shared} {h₀ h : Heap} {outer : List Env} {L a e t : Addr} {m : Str → Option Value} {name : Str} {scope : Scope} {cd : Value}
  {vs : List Value} {n : Str} {b₀ : Stmt} {suite : List Stmt} {pos np : Pos} {rest : List ExceptHandler} {Q : Flow → Shared → Prop} {news : List (Addr × Obj)} {KF : Frag} {C : Addr} {bmB : List Value} {newId : String}
  {p : Program} {loose : List Str} {mean : ExcName → Option Value} {mg mb : Str → Option Value} {x y : Str} {T' : String}
theorem caught_own (K : Below A₀ h₀ outer h₀) (F : Fr h₀ L h m) (hsm : h.UpToSlots s'.heap) (R : RaisedK h₀ (envOf name scope L a cd :: outer) e (.ref C) t vs news s'.heap)
    (X : KF.In h₀) (T : TopRead p loose mg mb h₀) (ex : nsIn KF mainGlobals x = some (some (.ref C))) {B' N' : Addr} (q : Own2 KF C B' N')
    (k : ∀ h' news₂, Fr h₀ L h' m → News h₀ L h' news₂ → Got news₂ e t (.ref C) vs → News h₀ L h' news →
      wpAny (model prog w) ((A₀.deeper (envOf name scope L a cd)).mark (some (.ref e))) (execs (b₀ :: suite) (envOf name scope L a cd)) Q E { s' with heap := h' })
    (hk : scope.kind = .function := by rfl) (hx : (envOf name scope L a cd).kindOf x = some .globalImplicit := by rfl) (hd : (x == ("__debug__" : Str)) = false := by decide)
    (hE : PassesOwnAt (model prog w) ((A₀.deeper (envOf name scope L a cd)).mark (some (.ref e))) (A₀.deeper (envOf name scope L a cd)) (envOf name scope L a cd) E := by passes_own) :
    wpAny (model prog w) (A₀.deeper (envOf name scope L a cd)) (noteFrame (.ref e) (envOf name scope L a cd))
      (fun _ s₂ => wpAny (model prog w) (A₀.deeper (envOf name scope L a cd)) (setFlight (.ref e) none) (fun _ s₃ =>
        wpAny (model prog w) (A₀.deeper (envOf name scope L a cd)) (handleBy (.ref e) (envOf name scope L a cd) (.ExceptHandler (some (.Name x np)) none (b₀ :: suite) pos :: rest)) Q E s₃) E s₂) E s' := by
  obtain ⟨⟨B, hB, hl, hfl, hnew⟩, htup⟩ := R
  have hL : B.get? L = none := by
    obtain ⟨_, ⟨L', _, hf, hn', _⟩, _⟩ := hfl.2.2.1
    obtain rfl : L = L' := Option.some.inj hf
    exact hn'
  refine wpAny_looks_onW (Around.frames_deeper K.stack) rfl hfl fun h₄ hheld₄ hsm₄ => ?_
  refine wpAny_landsW hheld₄ fun h₅ hheld hsm₅' => ?_
  have hsm₅ := hsm₄.trans hsm₅'
  have hheld' := flyingW_base hB hheld
  have F₅ := F.of_stays hheld'.1 (hsm.trans hsm₅)
  obtain ⟨ob, hob, hobc⟩ := hheld'.there
  refine wpAny_handleBy_cons (codeAny_handlers_test (name_K F₅ X T ex ?_ hk hx hd)) (by intro q; cases q)
  obtain ⟨nm, qn, bs, sn, sub, ab, col, dd, k0, k1, k2, k3, k5, hCK⟩ := q
  have hC := F₅.keep _ _ (X _ _ hCK)
  refine wpAny_excMatches_sub_self hC hob hobc (by simp) (codeAny_handlers_suite ?_)
  refine lands_againW hheld fun h₆ hfl₆ hsm₆ => ?_
  have hfl₆' := flyingW_base hB hfl₆
  have F₆ := F.of_stays hfl₆'.1 ((hsm.trans hsm₅).trans hsm₆)
  obtain ⟨oe, ws, hoe, hoec, hoed, hoe0⟩ := hfl₆'.first
  obtain ⟨ot, nt, hot, hotc, hotd⟩ := (htup.of_slots hsm₅).of_slots hsm₆
  have N₆ := News.more F₆ (News.more F₆ News.nil hot (fun es n q => by rw [hotd] at q; cases q) (fresh_of_stays hB hnew)) hoe (fun es n q => by rw [hoed] at q; cases q) hfl₆'.2.1
  exact wpAny_passesOwnAt hE (k h₆ _ F₆ N₆ ⟨oe, ot, ws, nt, .head _, .tail _ (.head _), hoec, hoed, hoe0, hotc, hotd⟩ fun q hq => ⟨hfl₆.1 _ _ (hl q hq).1, (fun z => by have := (hl q hq).1; rw [z, hL] at this; cases this), (hl q hq).2⟩)
end
section
variable {hs : Heap} {C e L : Addr} {h₀ h' : Heap} {m : Str → Option Value} {news : List (Addr × Obj)} {vs : List Value}
theorem made_exc (hm : Heap.MadeExcOf hs h' e (.ref C) vs) (F : Fr h₀ L hs m) (N : News h₀ L hs news) :
    ∃ t0, e ≠ t0 ∧ (∀ p ∈ news, p.1 ≠ e) ∧ Fr h₀ L h' m ∧ News h₀ L h' ((e, { cls := .ref C, dict := none, data := .fields #[.ref t0, .none, .none, .none, .bool false, .none] }) :: (t0, { cls := .type "tuple", data := .seq vs.toArray }) :: news) := by
  obtain ⟨t0, he, htn, ht⟩ := hm.there
  obtain ⟨oL, es, ep, hL, r⟩ := id F.ns
  have nh : ∀ {b}, hs.get? b = none → h₀.get? b = none := fun {b} z => by
    cases q : h₀.get? b with
    | none => rfl
    | some o => have := F.keep b o q; rw [z] at this; cases this
  have F' : Fr h₀ L h' m := ⟨⟨oL, es, ep, hm.keeps _ _ hL, r⟩, fun b x q => hm.keeps _ _ (F.keep b x q), F.above⟩
  refine ⟨t0, fun z => ?_, fun p hp z => ?_, F', fun q hq => ?_⟩
  · rw [z, ht] at he; cases he
  · have := (N p hp).1; rw [z, hm.new] at this; cases this
  · rcases List.mem_cons.mp hq with rfl | hq
    · exact ⟨he, (by intro z; have := hm.new; rw [show e = L from z, hL] at this; cases this), nh hm.new⟩
    · rcases List.mem_cons.mp hq with rfl | hq
      · exact ⟨ht, (by intro z; have := htn; rw [show t0 = L from z, hL] at this; cases this), nh htn⟩
      · exact ⟨hm.keeps _ _ (N q hq).1, (N q hq).2⟩
theorem ne_of_lts {t : Addr} (h : ∀ p ∈ news, p.1 < t) : ∀ p ∈ news, p.1 ≠ t := fun p hp => Nat.ne_of_lt (h p hp)
theorem mem_tail2 {a b : Addr × Obj} : ∀ q ∈ news, q ∈ a :: b :: news := fun _ h => .tail _ (.tail _ h)
end
end
section
noncomputable def cut (h : Heap) (n : Nat) : Heap := { h with objs := (h.objs.toList.take n).toArray }
theorem take_at (a : Array Obj) (n b : Nat) : (a.toList.take n).toArray[b]? = if b < n then a[b]? else none := by
  by_cases l : b < n
  · rw [if_pos l, List.getElem?_toArray, List.getElem?_take_of_lt l, Array.getElem?_toList]
  · rw [if_neg l, List.getElem?_toArray]
    exact List.getElem?_take_eq_none (Nat.le_of_not_lt l)
theorem cut_of {h : Heap} {n : Nat} {b : Addr} {o : Obj} (e : (cut h n).get? b = some o) : h.get? b = some o := by
  unfold Heap.get? cut at e
  unfold Heap.get?
  rw [take_at] at e
  by_cases l : b < n
  · rw [if_pos l] at e; exact e
  · rw [if_neg l] at e; cases e
theorem cut_get {h : Heap} {n : Nat} {b : Addr} {o : Obj} (e : h.get? b = some o) (l : b < n) : (cut h n).get? b = some o := by
  unfold Heap.get? cut
  unfold Heap.get? at e
  rw [take_at, if_pos l]
  exact e
theorem cut_size (h : Heap) (n : Nat) : (cut h n).objs.size ≤ n := by
  unfold cut
  simp only [List.size_toArray, List.length_take]
  exact Nat.min_le_left _ _
section
variable {A₀ : Around} {base h₀ h' : Heap} {outer : List Env} {L : Addr} {m : Str → Option Value} {news : List (Addr × Obj)}
theorem rebase (B : Below A₀ base outer h₀) (hn : h'.Ns L m) (hnL : ∀ p ∈ news, p.1 ≠ L) (ab : h₀.objs.size ≤ L) (st : base.StaysIn h') (up : h₀.UpToSlots h')
    (N : ∀ p ∈ news, h'.get? p.1 = some p.2 ∧ h₀.get? p.1 = none) :
    ∃ h₁, Below A₀ base outer h₁ ∧ Fr h₁ L h' m ∧ News h₁ L h' news ∧ base.StaysIn h₁ ∧ h₀.UpToSlots h₁ := by
  have nm : ∀ b o, h₀.get? b = some o → b ∉ news.map (·.1) := fun b o e q => by
    obtain ⟨p, hp, rfl⟩ := List.mem_map.mp q
    rw [(N p hp).2] at e; cases e
  have st' : base.StaysIn (hideAll (cut h' h₀.objs.size) (news.map (·.1))) := fun b o e => hideAll_get _ (cut_get (st b o e) (Heap.lt_size (B.stays b o e))) (nm b o (B.stays b o e))
  have up' : h₀.UpToSlots (hideAll (cut h' h₀.objs.size) (news.map (·.1))) := fun b o e hf => by
    obtain ⟨sl, hs⟩ := up b o e hf
    exact ⟨sl, hideAll_get _ (cut_get hs (Heap.lt_size e)) (nm b o e)⟩
  refine ⟨_, ⟨B.stack, st', ?_⟩, ⟨hn, fun b o e => cut_of (of_hideAll _ e), ?_⟩, fun p hp => ⟨(N p hp).1, hnL p hp, hideAll_none _ (List.mem_map_of_mem hp)⟩, st', up'⟩
  · exact B.frames.of_keeps fun b o e hf => by
      obtain ⟨sl, hs⟩ := up' b o e hf
      exact ⟨_, hs, rfl⟩
  · rw [hideAll_size]; exact Nat.le_trans (cut_size _ _) ab
end
noncomputable def LeaveR (A₀ : Around) (base : Heap) (outer : List Env) (h₀ : Heap) (L : Addr) (m : Str → Option Value) (g : Heap) (R : Result → Shared → Prop) (v : Value) (s' : Shared) : Prop :=
  base.StaysIn s'.heap ∧ g.UpToSlots s'.heap ∧ ∃ news', (∀ q ∈ news', s'.heap.get? q.1 = some q.2 ∧ g.get? q.1 = none) ∧
    (∀ h₁, Below A₀ base outer h₁ → Fr h₁ L s'.heap m → News h₁ L s'.heap news' → base.StaysIn h₁ → h₀.UpToSlots h₁ → R (.ok (.ret v)) s')
section
variable {prog : Program} {w : World} {A A₀ : Around} {s : Shared} {base h₀ : Heap} {outer : List Env} {L : Addr} {m : Str → Option Value} {news : List (Addr × Obj)} {K : Frag} {p : Program} {loose : List Str} {mean : ExcName → Option Value} {mg mb : Str → Option Value}
theorem code_defR {env : Env} {R : Result → Shared → Prop} {name qual : Str} {params : Arguments} {body : List Stmt} {scope : Scope} {dV kV doc pm cdv ct oc : Value} {an od : Option Addr} {osl : Array (Option Value)} {f : Addr} {args : Args} {binds : List (Str × Value)}
    (B : Below A₀ base outer h₀) (F : Fr h₀ L s.heap m) (X₀ : K.In base) (N : News h₀ L s.heap news) (T : Top p loose mean mg mb base) (hA : A.frames = some (env :: outer)) (hf : env.frame = some L) (hke : env.scope.kind = .function)
    (ho : K.lookup f = some ⟨oc, od, .func (fnOf name qual params body scope dV kV doc pm an cdv ct), osl⟩) (hcd : codeIn K cdv qual = true) (hroom : A.depth < recursionLimit)
    (hbind : BindsTo s (fnOf name qual params body scope dV kV doc pm an cdv ct) args binds) (hloc : ∀ y ∈ binds, scope.names.lookup y.1 = some .local)
    (h : ∀ g L' h₁, Fr h₀ L g m → Fr g L' h₁ (fun y => binds.reverse.lookup y) → News g L' h₁ news → Below A base (env :: outer) g → K.In g → Top p loose mean mg mb g →
      wpAny (model prog w) (A.deeper (envOf qual scope L' f cdv)) (execs body (envOf qual scope L' f cdv))
        (fun fl s' => LeaveR A₀ base outer h₀ L m g R (match fl with | .ret v => v | _ => .none) s')
        (fun e s' => wpAny (model prog w) (A.deeper (envOf qual scope L' f cdv)) (leaving (envOf qual scope L' f cdv) e) (fun _ s'' => R (.error e) s'') (fun e' s'' => R (.error e') s'') s')
        { s with heap := h₁, toks := s.toks + binds.length })
    (hco : scope.isCoroutine = false) (hgen : scope.isGenerator = false) (hk : scope.kind = .function)
    (hcell : ∀ x ∈ scope.names, x.2 ≠ .cell) : codeAny (model prog w) A (.call (.ref f) args) R s := by
  have stB : base.StaysIn s.heap := fun b o e => F.keep b o (B.stays b o e)
  have XS := X₀.keeps stB
  obtain ⟨FG, BG, st, -⟩ := groundX (R := R) B F N hA hf hke
  have sb : base.StaysIn (hideAll s.heap (news.map (·.1))) := fun b o e => st b o (B.stays b o e)
  refine codeAny_call_def (fd := fnOf name qual params body scope dV kV doc pm an cdv ct) (body := body) (binds := binds) hroom (XS _ _ ho) rfl (T.nolimit.keeps stB) (codeRec_of XS hcd) rfl hbind hcell hloc (fun h₁ hns hk₁ => ?_) hco hgen hk
  refine wpAny_mono (h _ s.heap.objs.size h₁ FG ⟨hns, fun b o e => hk₁ b o (of_hideAll _ e), Nat.le_of_eq (hideAll_size _ _)⟩
    (fun p hp => ⟨hk₁ _ _ (N p hp).1, Nat.ne_of_lt (Heap.lt_size (N p hp).1), hideAll_none _ (List.mem_map_of_mem hp)⟩) BG (X₀.keeps sb) (T.keeps sb)) (fun fl s' hl => ?_) fun _ _ y => y
  obtain ⟨e1, e2, news', e3, k⟩ := hl
  have gL : ∃ o, (hideAll s.heap (news.map (·.1))).get? L = some o := let ⟨o, _, _, e, _⟩ := FG.ns; ⟨o, e⟩
  obtain ⟨oL, hoL⟩ := gL
  obtain ⟨h₂, x1, x2, x3, x4, x5⟩ := rebase (news := news') B (e2.ns FG.ns) (fun q hq z => by have := (e3 q hq).2; rw [z, hoL] at this; cases this) F.above e1 ((Heap.UpToSlots.of_keeps st).trans e2)
    (fun q hq => ⟨(e3 q hq).1, by
      cases z : h₀.get? q.1 with
      | none => rfl
      | some o => have := (e3 q hq).2; rw [st _ _ z] at this; cases this⟩)
  exact k h₂ x1 x2 x3 x4 x5
end
section
variable {prog : Program} {w : World} {A₀ : Around} {E : Value → Shared → Prop} {s' : Shared} {base g h : Heap} {outer : List Env} {L a e t : Addr} {m : Str → Option Value} {name : Str} {scope : Scope} {cd : Value}
  {vs : List Value} {b₀ : Stmt} {suite : List Stmt} {pos np : Pos} {rest : List ExceptHandler} {Q : Flow → Shared → Prop} {news : List (Addr × Obj)} {KF : Frag} {C : Addr}
  {p : Program} {loose : List Str} {mean : ExcName → Option Value} {mg mb : Str → Option Value} {x : Str}
theorem caught_R (K : Below A₀ base outer g) (F : Fr g L h m) (N : ∀ q ∈ news, q.1 ≠ L ∧ g.get? q.1 = none) (hsm : h.UpToSlots s'.heap) (R : RaisedK base (envOf name scope L a cd :: outer) e (.ref C) t vs news s'.heap)
    (X : KF.In base) (T : Top p loose mean mg mb base) (ex : nsIn KF mainGlobals x = some (some (.ref C))) {B' N' : Addr} (q : Own2 KF C B' N')
    (k : ∀ h' g', Below A₀ base outer g' → Fr g' L h' m → News g' L h' news → KF.In g' → Top p loose mean mg mb g' → g.UpToSlots g' →
      wpAny (model prog w) ((A₀.deeper (envOf name scope L a cd)).mark (some (.ref e))) (execs (b₀ :: suite) (envOf name scope L a cd)) Q E { s' with heap := h' })
    (hk : scope.kind = .function := by rfl) (hx : (envOf name scope L a cd).kindOf x = some .globalImplicit := by rfl) (hd : (x == ("__debug__" : Str)) = false := by decide)
    (hE : PassesOwnAt (model prog w) ((A₀.deeper (envOf name scope L a cd)).mark (some (.ref e))) (A₀.deeper (envOf name scope L a cd)) (envOf name scope L a cd) E := by passes_own) :
    wpAny (model prog w) (A₀.deeper (envOf name scope L a cd)) (noteFrame (.ref e) (envOf name scope L a cd))
      (fun _ s₂ => wpAny (model prog w) (A₀.deeper (envOf name scope L a cd)) (setFlight (.ref e) none) (fun _ s₃ =>
        wpAny (model prog w) (A₀.deeper (envOf name scope L a cd)) (handleBy (.ref e) (envOf name scope L a cd) (.ExceptHandler (some (.Name x np)) none (b₀ :: suite) pos :: rest)) Q E s₃) E s₂) E s' := by
  obtain ⟨⟨B, hB, hl, hfl, hnew⟩, htup⟩ := R
  refine wpAny_looks_onW (Around.frames_deeper K.stack) rfl hfl fun h₄ hheld₄ hsm₄ => ?_
  refine wpAny_landsW hheld₄ fun h₅ hheld hsm₅' => ?_
  have hsm₅ := hsm₄.trans hsm₅'
  have hheld' := flyingW_base hB hheld
  have u₅ : h.UpToSlots h₅ := hsm.trans hsm₅
  obtain ⟨g₅, K₅, F₅, -, st₅, -⟩ := rebase (news := []) K (u₅.ns F.ns) (fun _ z => nomatch z) F.above hheld'.1 ((Heap.UpToSlots.of_keeps F.keep).trans u₅) (fun _ z => nomatch z)
  obtain ⟨ob, hob, hobc⟩ := hheld'.there
  refine wpAny_handleBy_cons (codeAny_handlers_test (name_K F₅ (X.keeps st₅) (topRead_of (T.keeps st₅)) ex ?_ hk hx hd)) (by intro q; cases q)
  obtain ⟨nm, qn, bs, sn, sub, ab, col, dd, k0, k1, k2, k3, k5, hCK⟩ := q
  have hC := F₅.keep _ _ (X.keeps st₅ _ _ hCK)
  refine wpAny_excMatches_sub_self hC hob hobc (by simp) (codeAny_handlers_suite ?_)
  refine lands_againW hheld fun h₆ hfl₆ hsm₆ => ?_
  have hfl₆' := flyingW_base hB hfl₆
  have u₆ : h.UpToSlots h₆ := u₅.trans hsm₆
  obtain ⟨g₆, K₆, F₆, N₆, st₆, up₆⟩ := rebase (news := news) K (u₆.ns F.ns) (fun q hq => (N q hq).1) F.above hfl₆'.1 ((Heap.UpToSlots.of_keeps F.keep).trans u₆) (fun q hq => ⟨hfl₆.1 _ _ (hl q hq).1, (N q hq).2⟩)
  exact wpAny_passesOwnAt hE (k h₆ g₆ K₆ F₆ N₆ (X.keeps st₆) (T.keeps st₆) up₆)
end
theorem leaveR_ {A₀ A₁ : Around} {base h₀ g g' : Heap} {outer o1 : List Env} {L L' : Addr} {m m' : Str → Option Value} {R : Result → Shared → Prop} {v : Value} {s' : Shared} {news : List (Addr × Obj)} (K : Below A₁ base o1 g') (F : Fr g' L' s'.heap m') (N : News g' L' s'.heap news) (up : g.UpToSlots g') (gn : ∀ q ∈ news, g.get? q.1 = none)
    (k : ∀ h₁, Below A₀ base outer h₁ → Fr h₁ L s'.heap m → News h₁ L s'.heap news → base.StaysIn h₁ → h₀.UpToSlots h₁ → R (.ok (.ret v)) s') : LeaveR A₀ base outer h₀ L m g R v s' :=
  ⟨fun b o e => F.keep b o (K.stays b o e), up.trans (Heap.UpToSlots.of_keeps F.keep), news, fun q hq => ⟨(N q hq).1, gn q hq⟩, k⟩
theorem raised_sub {base : Heap} {l : List Env} {e t : Addr} {cls : Value} {vs : List Value} {news n2 : List (Addr × Obj)} {h : Heap} (R : RaisedK base l e cls t vs news h) (k : ∀ q ∈ n2, q ∈ news) : RaisedK base l e cls t vs n2 h :=
  let ⟨⟨B, b1, b2, b3⟩, r⟩ := R; ⟨⟨B, b1, fun q hq => b2 q (k q hq), b3⟩, r⟩
end
section
theorem wd_43 : True := by
  k_with_none
  k_with "eval Call" => (k_here; k_fold)
  k_with "eval BinOp" => (k_here; k_fold)
  k_with "eval Compare" => (k_here; k_fold)
  k_with "isTrue Compare" => (k_here; k_fold)
  k_with "isTrue Call" => (k_here; k_fold)
  k_with "eval BoolOp" => (k_here; k_fold)
  k_with "isTrue BoolOp" => (k_here; k_fold)
  k_with "isTrue" => (k_here; k_fold)
  k_with "eval Attribute" => (k_here; k_fold)
  k_with "eval Tuple" => (k_here; k_fold)
  k_with "eval List" => (k_here; k_fold)
  k_with "eval Subscript" => (k_here; k_fold)
  k_with "eval IfExp" => (k_here; k_fold)
  k_with "execs cons" => (k_here; with_reducible refine gen_tk ?_; intro tk; (try dsimp only))
  k_with "eval Call" => (k_here; with_reducible refine gen_tk ?_; intro tk; (try dsimp only))
  k_with "setAttr ref" => (k_here; with_reducible refine gen_tk ?_; intro tk; (try dsimp only))
  k_with "newList" => (k_here; with_reducible refine gen_tk ?_; intro tk; (try dsimp only))
  k_with "eval BinOp" => (k_here; with_reducible refine gen_tk ?_; intro tk; (try dsimp only))
  k_with "eval Subscript" => (k_here; with_reducible refine gen_tk ?_; intro tk; (try dsimp only))
  k_with "k_all" => (first | assumption | exact all_ne (by with_reducible assumption) (by (intro q9 hq9; repeat (first | exact hq9 | refine List.Mem.tail _ ?_))))
  k_with "subscriptTail Name Constant ref int" => ((k_here; k_dflt (refine' my_item ?k1 ?k2 ?k3 ?k4 ?k5 ?_ ?k7; (case k1 => k_asm); (case k2 => k_mem); (case k3 => decide); (case k4 => decide); (case k5 => exact rfl); (case k7 => with_unfolding_all rfl); k_whole)))
  k_with "call ref" => ((k_here; (with_reducible show wpAny _ _ (call (Value.ref 386) [Value.ref _, Value.int _ _]) _ _ _); k_dflt (refine' wind_at ?kB ?kF ?kX ?kN ?kT ?kK ?kU ?kx ?ky ?kz ?kt ?ku ?kd ?ke ?_; (case kB => k_asm); (case kF => k_asm); (case kX => k_asm); (case kN => k_asm); (case kT => k_asm); (case kK => first | exact rfl | assumption); (case kU => k_updF); (case kx => assumption); (case ky => assumption); (case kz => assumption); (case kt => omega); (case ku => omega); (case kd => ktr_room); (case ke => ktr_units)); intro d' x' y' td' tx' ty' h' tk' hd0 hd1 hx' hy' hz' F' N'; (try dsimp only at N'); (try dsimp only); (try k_sweep); walk_say "WIND"; (try k_extra "wind")))
  k_with "k_room" => (ktr_room)
  k_with "k_units" => (ktr_units)
  k_with "ktr_rel" => ((intro q9 hq9; repeat (first | exact hq9 | refine List.Mem.tail _ ?_)))
  k_with "binaryOp Pow int int" => ((k_here; (refine' pow_lit ?kb1 ?kb2 ?kb3 ?_); (case kb1 => decide); (case kb2 => decide); (case kb3 => ((simp only [Int.reduceToNat, Int.reducePow]); exact rfl))))
  k_with "CompSrc" => ((k_here; k_dflt (first | (refine LCg.CompSrc.ledger (by rfl) (by k_asm) (by k_asm) (by k_mem) (by first | size_fits | exact Nat.le_of_ble_eq_true rfl) ?_; intro g'; lcg_lit) | (refine LCg.CompSrc.range (by rfl) (by k_asm) (by k_asm) (by assumption) (by first | decide | rfl) (by first | rfl | decide) (by first | size_fits | exact Nat.le_of_ble_eq_true rfl) ?_; intro g'; lcg_lit))))
  k_with "CompRest" => ((with_unfolding_all first | (refine LCg.CompRest.succ ?_; intro v' I' oI' C' oC' D' m' h' tk' E' hv' hC' hx' F' N' off' ne'; (first | lcg_open hv' | (obtain ⟨t9', hv9'⟩ := hv'; subst hv9')); (obtain ⟨ne1', ne2', ne3'⟩ := ne')) | refine LCg.CompRest.zero ?_))
  k_with "CompEnd" => ((first | (refine' compEnd0 ?kF ?kN ?ko ?kS ?_; (case kN => assumption); (case kF => assumption); (case ko => assumption); (case kS => lcg_src)) | (refine' compEnd2 ?kF ?kN ?kx ?kd ?ko ?kS ?_; (case kN => assumption); (case kF => assumption); (case kx => exact ⟨by k_ne, by k_ne, by k_ne⟩); (case kd => exact ⟨by k_ne, by k_ne, by k_ne⟩); (case ko => assumption); (case kS => lcg_src)) | (refine' compEnd1 ?kF ?kN ?kx ?ko ?kS ?_; (case kN => assumption); (case kF => assumption); (case kx => exact ⟨by k_ne, by k_ne, by k_ne⟩); (case ko => assumption); (case kS => lcg_src)) | lcg_end))
  k_with "k_ne" => ((refine neN ?_; (try dsimp only); first | (with_reducible assumption) | exact Ne.symm (by with_reducible assumption) | exact Nat.ne_of_gt (by with_reducible assumption) | exact Nat.ne_of_lt (by with_reducible assumption) | exact neA (by with_reducible assumption) (by k_mem) | exact Ne.symm (neA (by with_reducible assumption) (by k_mem)) | exact neO (by with_reducible assumption) (by k_mem) | exact Ne.symm (neO (by with_reducible assumption) (by k_mem)) | exact neI (by with_reducible assumption) (by k_mem) | exact Ne.symm (neI (by with_reducible assumption) (by k_mem)) | exact neC (by with_reducible assumption) (by k_mem) | exact Ne.symm (neC (by with_reducible assumption) (by k_mem)) | exact neD (by with_reducible assumption) (by k_mem) | exact Ne.symm (neD (by with_reducible assumption) (by k_mem)) | exact neA2 (by with_reducible assumption) (by with_reducible assumption) (by k_mem) | exact Ne.symm (neA2 (by with_reducible assumption) (by with_reducible assumption) (by k_mem)) | omega))
  k_with "FinE" => (((unfold LCg.FinE); intro D' h' tk' F' N' o1'; (try simp only [List.nil_append, List.cons_append] at N'); (try dsimp only)))
  k_with "FinA" => (((unfold LCg.FinA); intro D' h' tk' F' N' o1'; (try simp only [List.nil_append, List.cons_append] at N'); (try dsimp only)))
  trivial
theorem wt_tc (C : Addr) (vals : List Value) : (Code.builtin "type.__call__" ⟨.ref C :: vals, []⟩).weight = 1 := rfl
theorem cu_tc (C : Addr) (vals : List Value) : (Code.builtin "type.__call__" ⟨.ref C :: vals, []⟩).cUnits = 1 := rfl
theorem dep_under (A : Around) (C : Addr) (vals : List Value) : (A.under (.builtin "type.__call__" ⟨.ref C :: vals, []⟩)).depth = A.depth + 1 := rfl
theorem uni_under (A : Around) (C : Addr) (vals : List Value) : (A.under (.builtin "type.__call__" ⟨.ref C :: vals, []⟩)).units = A.units + 1 := rfl
theorem nsok89 (prm : Params) : nsOkIn (Mine.K prm) 89 = true := by kernel_rfl
theorem wd_44 : True := by
  k_with "exec Raise some none" => ((k_here; k_dflt (refine' raise_own ?kF ?kX ?kT ?ex (k90 _) ?hn ?hi ?hf ?hh ?_ ?a ?b ?c ?d ?e; (case kF => k_asm); (case kX => k_asm); (case kT => k_asm); (case ex => k_is); (case hn => exact nsok89 _); (case hi => k_is); (case hf => k_is); (case hh => first | rfl | assumption); (case a => rfl); (case b => rfl); (case c => rfl); (case d => rfl); (case e => decide); k_whole)))
  k_with "call ref" => ((k_here; (with_reducible show wpAny _ _ (call (Value.ref 87) [Value.ref _, Value.str _ _]) _ _ _); refine held ?_))
  k_with "compareOp NotIn str ref" => ((k_here; (with_reducible show wpAny _ _ (compareOp CmpOp.NotIn (Value.str _ _) (Value.ref _)) _ _ _); k_dflt (refine' notin_tuple_strs ?k1 ?k2 ?_; (case k1 => exact kun_topT (by k_asm) (by k_asm) (by k_is)); (case k2 => kde_strs))))
  trivial
theorem col_false {w : World} {p : Program} {loose : List Str} {mean : ExcName → Option Value} {mg mb : Str → Option Value}
    {dp un : Nat} {gd : Option (List Code)} {cn : Str} {cs : Scope} {a : Addr} {ccd : Value} {cl : List (Str × Addr)} {outer : List Env} {A₀ : Around} {base h₀ : Heap} {L : Addr} {m : Str → Option Value} {s : Shared} {Q E : Value → Shared → Prop}
    {news : List (Addr × Obj)} {v : Value}
    (B : Below A₀ base outer h₀) (F : Fr h₀ L s.heap m) (X : (Mine.K w.params).In h₀) (N : News h₀ L s.heap news) (T : Top p loose mean mg mb h₀) (hk : cs.kind = .function)
     (hd : dp + 8 < recursionLimit) (hu : un + 64 < cLine)
    (ret : ∀ (u : Tok) (h' : Heap) (tk' : Nat), Fr h₀ L h' m → News h₀ L h' news → Q (.str (Str.ofString "green") u) { s with heap := h', toks := tk' }) :
    wpAny (model PySem.Challenge.pw_xm0985_01 w) (ktrTop dp un gd cn cs L a ccd cl outer) (call (.ref 412) [v, .bool false]) Q E s := by
  refine wpAny_call ?_
  k_dflt cell_enter
  k_steps
  exact ret _ _ _ (by k_asm) (by k_asm)
theorem col_none {w : World} {p : Program} {loose : List Str} {mean : ExcName → Option Value} {mg mb : Str → Option Value}
    {dp un : Nat} {gd : Option (List Code)} {cn : Str} {cs : Scope} {a : Addr} {ccd : Value} {cl : List (Str × Addr)} {outer : List Env} {A₀ : Around} {base h₀ : Heap} {L : Addr} {m : Str → Option Value} {s : Shared} {Q E : Value → Shared → Prop}
    {news : List (Addr × Obj)} 
    (B : Below A₀ base outer h₀) (F : Fr h₀ L s.heap m) (X : (Mine.K w.params).In h₀) (N : News h₀ L s.heap news) (T : Top p loose mean mg mb h₀) (hk : cs.kind = .function)
     (hd : dp + 8 < recursionLimit) (hu : un + 64 < cLine)
    (ret : ∀ (u : Tok) (h' : Heap) (tk' : Nat), Fr h₀ L h' m → News h₀ L h' news → Q (.str (Str.ofString "green") u) { s with heap := h', toks := tk' }) :
    wpAny (model PySem.Challenge.pw_xm0985_01 w) (ktrTop dp un gd cn cs L a ccd cl outer) (call (.ref 412) [.none, .bool true]) Q E s := by
  refine wpAny_call ?_
  k_dflt cell_enter
  k_steps
  exact ret _ _ _ (by k_asm) (by k_asm)
theorem col_in {w : World} {p : Program} {loose : List Str} {mean : ExcName → Option Value} {mg mb : Str → Option Value}
    {dp un : Nat} {gd : Option (List Code)} {cn : Str} {cs : Scope} {a : Addr} {ccd : Value} {cl : List (Str × Addr)} {outer : List Env} {A₀ : Around} {base h₀ : Heap} {L : Addr} {m : Str → Option Value} {s : Shared} {Q E : Value → Shared → Prop}
    {news : List (Addr × Obj)} {x : Str} {tx : Tok}
    (B : Below A₀ base outer h₀) (F : Fr h₀ L s.heap m) (X : (Mine.K w.params).In h₀) (N : News h₀ L s.heap news) (T : Top p loose mean mg mb h₀) (hk : cs.kind = .function)
    (hx : ([Str.ofString "green", Str.ofString "yellow", Str.ofString "red"].any (· == x)) = true) (hd : dp + 8 < recursionLimit) (hu : un + 64 < cLine)
    (ret : ∀ (u : Tok) (h' : Heap) (tk' : Nat), Fr h₀ L h' m → News h₀ L h' news → Q (.str x u) { s with heap := h', toks := tk' }) :
    wpAny (model PySem.Challenge.pw_xm0985_01 w) (ktrTop dp un gd cn cs L a ccd cl outer) (call (.ref 412) [.str x tx, .bool true]) Q E s := by
  refine wpAny_call ?_
  k_dflt cell_enter
  k_steps
  exact ret _ _ _ (by k_asm) (by k_asm)
theorem col_out {w : World} {p : Program} {loose : List Str} {mean : ExcName → Option Value} {mg mb : Str → Option Value}
    {dp un : Nat} {gd : Option (List Code)} {cn : Str} {cs : Scope} {a : Addr} {ccd : Value} {cl : List (Str × Addr)} {outer : List Env} {A₀ : Around} {base h₀ : Heap} {L : Addr} {m : Str → Option Value} {s : Shared} {Q E : Value → Shared → Prop}
    {news : List (Addr × Obj)} {x : Str} {tx : Tok}
    (B : Below A₀ base outer h₀) (F : Fr h₀ L s.heap m) (X : (Mine.K w.params).In h₀) (N : News h₀ L s.heap news) (T : Top p loose mean mg mb h₀) (hk : cs.kind = .function) (Xb : (Mine.K w.params).In base) (Tb : Top p loose mean mg mb base)
    (hx : ([Str.ofString "green", Str.ofString "yellow", Str.ofString "red"].any (· == x)) = false) (hd : dp + 8 < recursionLimit) (hu : un + 64 < cLine)
    (ret : ∀ (u : Tok) (h' : Heap) (tk' : Nat) (g' : Heap), Below A₀ base outer g' → (Mine.K w.params).In g' → Top p loose mean mg mb g' → Fr g' L h' m → News g' L h' news → h₀.UpToSlots g' → Q (.str (Str.ofString "refused") u) { s with heap := h', toks := tk' }) :
    wpAny (model PySem.Challenge.pw_xm0985_01 w) (ktrTop dp un gd cn cs L a ccd cl outer) (call (.ref 412) [.str x tx, .bool true]) Q E s := by
  refine wpAny_call ?_
  k_dflt (refine' code_defR ?k1 ?k2 ?k3 ?k4 ?k5 ?kA ?kF ?kK ?k6 ?k7 ?k8 ?k9 ?kB ?_ ?c2 ?c3 ?c4 ?c5; (case kA => exact rfl); (case kF => exact rfl); (case kK => assumption); (case k1 => k_asm); (case k2 => k_asm); (case k3 => exact Xb); (case k4 => k_asm); (case k5 => exact Tb); (case k6 => k_is); (case k7 => k_is); (case k8 => ktr_room); (case k9 => exact BindsTo.of_eq rfl); (case c5 => decide); (case kB => exact locs rfl); (case c2 => exact rfl); (case c3 => exact rfl); (case c4 => exact rfl); k_whole; intro gA LA hA FGA FA NA BA XA TA; (try dsimp only); (try k_fold))
  have NA2 : ∀ q ∈ news, q.1 ≠ LA ∧ gA.get? q.1 = none := fun q hq => (NA q hq).2
  k_steps
  rename Heap.MadeExcOf _ _ _ _ _ => hm9
  (with_reducible rename Fr _ _ _ _ => kF9)
  (with_reducible rename News _ _ _ _ => kN9)
  obtain ⟨t0, hz, hne, F9, N9⟩ := made_exc hm9 kF9 kN9
  k_dflt (refine' init_spec ?kB ?kF ?kX ?kN ?kT ?kK ?ke ?kne ?kd ?ku ?_; (case kB => k_asm); (case kF => k_asm); (case kX => k_asm); (case kN => k_asm); (case kT => k_asm); (case kK => first | exact rfl | assumption); (case ke => assumption); (case kne => assumption); (case kd => ((show Around.depth (Around.under _ (Code.builtin "type.__call__" _)) + 3 < recursionLimit); (simp only [dep_under, depth_deeper, depth_in1]); (try dsimp only [ktrTop]); (simp only [recursionLimit] at *); omega)); (case ku => ((show Around.units (Around.under _ (Code.builtin "type.__call__" _)) + _ < cLine); (simp only [uni_under, units_in1, units_deeper, Around.mark_units, units_caller]); (try dsimp only [ktrTop]); (simp only [cLine] at *); omega)); intro t1 dx h9 tk9 F8 N8 hl8; (try dsimp only))
  refine ⟨rfl, F8.keep, ⟨_, _, _, (N8 _ (.head _)).1, rfl⟩, ?_⟩
  refine' leave_own ?kK ?kF ?kN ?l1 ?l2 ?l3 ?l4 ?l5 ?l6 ?kne ?knt ?_
  case kK => assumption
  case kF => exact F8
  case kN => exact N8
  case l1 => exact List.Mem.head _
  case l2 => exact List.Mem.tail _ (List.Mem.head _)
  case l3 => exact rfl
  case l4 => exact rfl
  case l5 => exact rfl
  case l6 => exact mem_tail2
  case kne => assumption
  case knt => exact ne_of_lts hl8
  intro h7 t7 R7 U7
  (try dsimp only at R7 U7 ⊢)
  refine' caught_R (news := news) ?cK ?cF ?cN ?cS ?cR ?cX ?cT ?ex (k90 _) ?_
  case cR => exact raised_sub R7 (by first | exact fun _ h => h | exact mem_tail2)
  case cS => exact U7
  case cK => exact BA
  case cF => assumption
  case cN => exact NA2
  case cX => exact Xb
  case cT => exact Tb
  case ex => k_is
  intro h6 g6 K6 F6 N6 X6 T6 U6
  (try k_sweep)
  k_steps
  refine leaveR_ K6 F6 N6 U6 (fun q hq => (NA2 q hq).2) (fun g9 b9 f9 n9 s9 u9 => ?_)
  exact ret _ _ _ g9 b9 (Xb.keeps s9) (Tb.keeps s9) f9 n9 u9
end
section
noncomputable def PartSpecB (f : Addr) (D : Nat) : Prop :=
  ∀ (w : World) (p : Program) (loose : List Str) (mean : ExcName → Option Value) (mg mb : Str → Option Value)
    (dp un : Nat) (gd : Option (List Code)) (cn : Str) (cs : Scope) (a : Addr) (ccd : Value) (cl : List (Str × Addr)) (outer : List Env) (A₀ : Around) (base : Heap) (L : Addr) (m : Str → Option Value) (s : Shared) (Q E : Value → Shared → Prop)
    (r : Addr) (x y : Int) (tx ty : Tok) (nn : Nat),
    Below A₀ base outer base → Fr base L s.heap m → (Mine.K w.params).In base → News base L s.heap [(r, reelO x y tx ty nn)] → Top p loose mean mg mb base → cs.kind = .function →
    0 ≤ x → 0 ≤ y → y < 2147483647 → dp + D < recursionLimit → un + (64 + 8 * D) < cLine →
    (∀ x' y' tx' ty' h' tk', 0 ≤ x' → 0 ≤ y' → y' < 2147483647 → Fr base L h' m → News base L h' [(r, reelO x' y' tx' ty' nn)] → Q (.bool true) { s with heap := h', toks := tk' }) →
    wpAny (model PySem.Challenge.pw_xm0985_01 w) (ktrTop dp un gd cn cs L a ccd cl outer) (call (.ref f) [.ref r]) Q E s
theorem PartSpec.toB {f : Addr} {D : Nat} (p : PartSpec f D) : PartSpecB f D := fun w p' loose mean mg mb dp un gd cn cs a ccd cl outer A₀ base L m s Q E r x y tx ty nn => p w p' loose mean mg mb dp un gd cn cs a ccd cl outer A₀ base base L m s Q E r x y tx ty nn
theorem leaveB {A₀ A₁ : Around} {base g g' : Heap} {outer o1 : List Env} {L L' : Addr} {m m' : Str → Option Value} {Q E : Value → Shared → Prop} {s : Shared} {all : List (Addr × Obj)} {r : Addr} {nn : Nat} {b : Bool} {x' y' : Int} {tx' ty' : Tok} {h' : Heap} {tk' : Nat} (ab : base.objs.size ≤ L)
    (ret : ∀ x' y' tx' ty' h' tk', 0 ≤ x' → 0 ≤ y' → y' < 2147483647 → Fr base L h' m → News base L h' [(r, reelO x' y' tx' ty' nn)] → Q (.bool true) { s with heap := h', toks := tk' })
    (K : Below A₁ base o1 g') (F : Fr g' L' h' m') (N : News g' L' h' all) (up : g.UpToSlots g') (gn : g.get? r = none) (hr : (r, reelO x' y' tx' ty' nn) ∈ all) (h1 : 0 ≤ x') (h2 : 0 ≤ y') (h3 : y' < 2147483647) (e : b = true) :
    LeaveR A₀ base outer base L m g (fun r s' => match r with | .ok (.ret v) => Q v s' | .ok _ => False | .error e => E e s') (.bool b) { s with heap := h', toks := tk' } := by
  subst e
  refine leaveR_ (news := [(r, reelO x' y' tx' ty' nn)]) K F (fun q hq => by rcases List.mem_singleton.mp hq with rfl; exact N _ hr) up (fun q hq => by rcases List.mem_singleton.mp hq with rfl; exact gn) fun h₁ b f n st u => ?_
  exact ret x' y' tx' ty' h' tk' h1 h2 h3 ⟨f.ns, fun b o e => f.keep _ _ (st b o e), ab⟩ fun q hq => ⟨(n q hq).1, (n q hq).2.1, fresh_of_stays st (n q hq).2.2⟩
end
section
theorem wd_45 : True := by
  k_with_none
  k_with "eval Call" => (k_here; k_fold)
  k_with "eval BinOp" => (k_here; k_fold)
  k_with "eval Compare" => (k_here; k_fold)
  k_with "isTrue Compare" => (k_here; k_fold)
  k_with "isTrue Call" => (k_here; k_fold)
  k_with "eval BoolOp" => (k_here; k_fold)
  k_with "isTrue BoolOp" => (k_here; k_fold)
  k_with "isTrue" => (k_here; k_fold)
  k_with "eval Attribute" => (k_here; k_fold)
  k_with "eval Tuple" => (k_here; k_fold)
  k_with "eval List" => (k_here; k_fold)
  k_with "eval Subscript" => (k_here; k_fold)
  k_with "eval IfExp" => (k_here; k_fold)
  k_with "execs cons" => (k_here; with_reducible refine gen_tk ?_; intro tk; (try dsimp only))
  k_with "eval Call" => (k_here; with_reducible refine gen_tk ?_; intro tk; (try dsimp only))
  k_with "setAttr ref" => (k_here; with_reducible refine gen_tk ?_; intro tk; (try dsimp only))
  k_with "newList" => (k_here; with_reducible refine gen_tk ?_; intro tk; (try dsimp only))
  k_with "eval BinOp" => (k_here; with_reducible refine gen_tk ?_; intro tk; (try dsimp only))
  k_with "eval Subscript" => (k_here; with_reducible refine gen_tk ?_; intro tk; (try dsimp only))
  k_with "k_all" => (first | assumption | exact all_ne (by with_reducible assumption) (by (intro q9 hq9; repeat (first | exact hq9 | refine List.Mem.tail _ ?_))))
  k_with "subscriptTail Name Constant ref int" => ((k_here; k_dflt (refine' my_item ?k1 ?k2 ?k3 ?k4 ?k5 ?_ ?k7; (case k1 => k_asm); (case k2 => k_mem); (case k3 => decide); (case k4 => decide); (case k5 => exact rfl); (case k7 => with_unfolding_all rfl); k_whole)))
  k_with "call ref" => ((k_here; (with_reducible show wpAny _ _ (call (Value.ref 386) [Value.ref _, Value.int _ _]) _ _ _); k_dflt (refine' wind_at ?kB ?kF ?kX ?kN ?kT ?kK ?kU ?kx ?ky ?kz ?kt ?ku ?kd ?ke ?_; (case kB => k_asm); (case kF => k_asm); (case kX => k_asm); (case kN => k_asm); (case kT => k_asm); (case kK => first | exact rfl | assumption); (case kU => k_updF); (case kx => assumption); (case ky => assumption); (case kz => assumption); (case kt => omega); (case ku => omega); (case kd => ktr_room); (case ke => ktr_units)); intro d' x' y' td' tx' ty' h' tk' hd0 hd1 hx' hy' hz' F' N'; (try dsimp only at N'); (try dsimp only); (try k_sweep); walk_say "WIND"; (try k_extra "wind")))
  k_with "k_room" => (ktr_room)
  k_with "k_units" => (ktr_units)
  k_with "ktr_rel" => ((intro q9 hq9; repeat (first | exact hq9 | refine List.Mem.tail _ ?_)))
  k_with "call ref" => ((k_here; (with_reducible show wpAny _ _ (call (Value.ref 393) [Value.ref _, Value.ref _]) _ _ _); k_dflt (refine' one_at ?kB ?kF ?kX ?kN ?kT ?kK ?kU ?kl ?kx ?ky ?kz ?kt ?ku ?kd ?ke ?_; (case kB => k_asm); (case kF => k_asm); (case kX => k_asm); (case kN => k_asm); (case kT => k_asm); (case kK => first | exact rfl | assumption); (case kU => k_updF); (case kl => k_ne); (case kx => assumption); (case ky => assumption); (case kz => assumption); (case kt => exact Nat.le_of_ble_eq_true rfl); (case ku => exact Nat.le_of_ble_eq_true rfl); (case kd => ktr_room); (case ke => ktr_units)); intro v' x' y' tx' ty' h' tk' hv' hx' hy' hz' F' N'; (try dsimp only at N'); (try dsimp only); (try k_sweep); walk_say "ONE"; (try k_extra "one")))
  k_with "binaryOp Pow int int" => ((k_here; (refine' pow_lit ?kb1 ?kb2 ?kb3 ?_); (case kb1 => decide); (case kb2 => decide); (case kb3 => ((simp only [Int.reduceToNat, Int.reducePow]); exact rfl))))
  k_with "CompSrc" => ((k_here; k_dflt (first | (refine LCg.CompSrc.ledger (by rfl) (by k_asm) (by k_asm) (by k_mem) (by first | size_fits | exact Nat.le_of_ble_eq_true rfl) ?_; intro g'; lcg_lit) | (refine LCg.CompSrc.range (by rfl) (by k_asm) (by k_asm) (by assumption) (by first | decide | rfl) (by first | rfl | decide) (by first | size_fits | exact Nat.le_of_ble_eq_true rfl) ?_; intro g'; lcg_lit))))
  k_with "CompRest" => ((with_unfolding_all first | (refine LCg.CompRest.succ ?_; intro v' I' oI' C' oC' D' m' h' tk' E' hv' hC' hx' F' N' off' ne'; (first | lcg_open hv' | (obtain ⟨t9', hv9'⟩ := hv'; subst hv9')); (obtain ⟨ne1', ne2', ne3'⟩ := ne')) | refine LCg.CompRest.zero ?_))
  k_with "CompEnd" => ((first | (refine' compEnd0 ?kF ?kN ?ko ?kS ?_; (case kN => assumption); (case kF => assumption); (case ko => assumption); (case kS => lcg_src)) | (refine' compEnd2 ?kF ?kN ?kx ?kd ?ko ?kS ?_; (case kN => assumption); (case kF => assumption); (case kx => exact ⟨by k_ne, by k_ne, by k_ne⟩); (case kd => exact ⟨by k_ne, by k_ne, by k_ne⟩); (case ko => assumption); (case kS => lcg_src)) | (refine' compEnd1 ?kF ?kN ?kx ?ko ?kS ?_; (case kN => assumption); (case kF => assumption); (case kx => exact ⟨by k_ne, by k_ne, by k_ne⟩); (case ko => assumption); (case kS => lcg_src)) | lcg_end))
  k_with "k_ne" => ((refine neN ?_; (try dsimp only); first | (with_reducible assumption) | exact Ne.symm (by with_reducible assumption) | exact Nat.ne_of_gt (by with_reducible assumption) | exact Nat.ne_of_lt (by with_reducible assumption) | exact neA (by with_reducible assumption) (by k_mem) | exact Ne.symm (neA (by with_reducible assumption) (by k_mem)) | exact neO (by with_reducible assumption) (by k_mem) | exact Ne.symm (neO (by with_reducible assumption) (by k_mem)) | exact neI (by with_reducible assumption) (by k_mem) | exact Ne.symm (neI (by with_reducible assumption) (by k_mem)) | exact neC (by with_reducible assumption) (by k_mem) | exact Ne.symm (neC (by with_reducible assumption) (by k_mem)) | exact neD (by with_reducible assumption) (by k_mem) | exact Ne.symm (neD (by with_reducible assumption) (by k_mem)) | exact neA2 (by with_reducible assumption) (by with_reducible assumption) (by k_mem) | exact Ne.symm (neA2 (by with_reducible assumption) (by with_reducible assumption) (by k_mem)) | omega))
  k_with "FinE" => (((unfold LCg.FinE); intro D' h' tk' F' N' o1'; (try simp only [List.nil_append, List.cons_append] at N'); (try dsimp only)))
  k_with "FinA" => (((unfold LCg.FinA); intro D' h' tk' F' N' o1'; (try simp only [List.nil_append, List.cons_append] at N'); (try dsimp only)))
  k_with "compareOp NotIn str ref" => ((k_here; (with_reducible show wpAny _ _ (compareOp CmpOp.NotIn (Value.str _ _) (Value.ref _)) _ _ _); k_dflt (refine' notin_tuple_strs ?k1 ?k2 ?_; (case k1 => exact kun_topT (by k_asm) (by k_asm) (by k_is)); (case k2 => kde_strs))))
  k_with "call ref" => ((k_here; (with_reducible show wpAny _ _ (call (Value.ref 412) [Value.str _ _, Value.bool true]) _ _ _); k_dflt (refine' col_out ?kB ?kF ?kX ?kN ?kT ?kK ?kXb ?kTb ?kh ?kd ?ke ?_; (case kB => k_asm); (case kF => k_asm); (case kX => k_asm); (case kN => k_asm); (case kT => k_asm); (case kK => first | exact rfl | assumption); (case kXb => assumption); (case kTb => assumption); (case kh => exact rfl); (case kd => ktr_room); (case ke => ktr_units)); intro u' h' tk' g' B' X' T' F' N' U'; (try dsimp only); (try k_sweep); walk_say "col_out"))
  k_with "call ref" => ((k_here; (with_reducible show wpAny _ _ (call (Value.ref 412) [Value.str _ _, Value.bool true]) _ _ _); k_dflt (refine' col_in ?kB ?kF ?kX ?kN ?kT ?kK ?kh ?kd ?ke ?_; (case kB => k_asm); (case kF => k_asm); (case kX => k_asm); (case kN => k_asm); (case kT => k_asm); (case kK => first | exact rfl | assumption); (case kh => exact rfl); (case kd => ktr_room); (case ke => ktr_units)); intro u' h' tk' F' N'; (try dsimp only); (try k_sweep); walk_say "col_in"))
  k_with "call ref" => ((k_here; (with_reducible show wpAny _ _ (call (Value.ref 412) [Value.none, Value.bool true]) _ _ _); k_dflt (refine' col_none ?kB ?kF ?kX ?kN ?kT ?kK  ?kd ?ke ?_; (case kB => k_asm); (case kF => k_asm); (case kX => k_asm); (case kN => k_asm); (case kT => k_asm); (case kK => first | exact rfl | assumption); (case kd => ktr_room); (case ke => ktr_units)); intro u' h' tk' F' N'; (try dsimp only); (try k_sweep); walk_say "col_none"))
  k_with "call ref" => ((k_here; (with_reducible show wpAny _ _ (call (Value.ref 412) [_, Value.bool false]) _ _ _); k_dflt (refine' col_false ?kB ?kF ?kX ?kN ?kT ?kK  ?kd ?ke ?_; (case kB => k_asm); (case kF => k_asm); (case kX => k_asm); (case kN => k_asm); (case kT => k_asm); (case kK => first | exact rfl | assumption); (case kd => ktr_room); (case ke => ktr_units)); intro u' h' tk' F' N'; (try dsimp only); (try k_sweep); walk_say "col_false"))
  trivial
set_option maxHeartbeats 4000000 in
theorem colours_spec : PartSpecB 419 10 := by
  intro w p loose mean mg mb dp un gd cn cs a ccd cl outer A₀ base L m s Q E r x y tx ty nn B F X N T hk hx hy0 hy hd hu ret
  refine wpAny_call ?_
  k_dflt (refine' code_defR ?k1 ?k2 ?k3 ?k4 ?k5 ?kA ?kF ?kK ?k6 ?k7 ?k8 ?k9 ?kB ?_ ?c2 ?c3 ?c4 ?c5; (case kA => exact rfl); (case kF => exact rfl); (case kK => assumption); (case k1 => k_asm); (case k2 => k_asm); (case k3 => exact X); (case k4 => k_asm); (case k5 => exact T); (case k6 => k_is); (case k7 => k_is); (case k8 => ktr_room); (case k9 => exact BindsTo.of_eq rfl); (case c5 => decide); (case kB => exact locs rfl); (case c2 => exact rfl); (case c3 => exact rfl); (case c4 => exact rfl); k_whole; intro gA LA hA FGA FA NA BA XA TA; (try dsimp only); (try k_fold))
  have NA2 := (NA _ (List.Mem.head _)).2
  k_with "one" => ((with_reducible rename (_ ∈ _) => hv9); (simp only [List.mem_cons, List.not_mem_nil, or_false] at hv9); rcases hv9 with hv9 | hv9 | hv9 | hv9 | hv9 | hv9 <;> subst hv9)
  k_steps
  all_goals (first
    | (refine' leaveB (F.above) ret ?k ?f ?n ?u NA2.2 ?hr ?h1 ?h2 ?h3 ?e; (case n => k_asm); (case f => k_asm); (case k => assumption); (case u => first | assumption | exact Heap.UpToSlots.refl _); (case hr => k_mem); (case h1 => assumption); (case h2 => assumption); (case h3 => assumption); (case e => rfl)))
end
section
theorem wd_46 : True := by
  k_with_none
  k_with "eval Call" => (k_here; k_fold)
  k_with "eval BinOp" => (k_here; k_fold)
  k_with "eval Compare" => (k_here; k_fold)
  k_with "isTrue Compare" => (k_here; k_fold)
  k_with "isTrue Call" => (k_here; k_fold)
  k_with "eval BoolOp" => (k_here; k_fold)
  k_with "isTrue BoolOp" => (k_here; k_fold)
  k_with "isTrue" => (k_here; k_fold)
  k_with "eval Attribute" => (k_here; k_fold)
  k_with "eval Tuple" => (k_here; k_fold)
  k_with "eval List" => (k_here; k_fold)
  k_with "eval Subscript" => (k_here; k_fold)
  k_with "eval IfExp" => (k_here; k_fold)
  k_with "execs cons" => (k_here; with_reducible refine gen_tk ?_; intro tk; (try dsimp only))
  k_with "eval Call" => (k_here; with_reducible refine gen_tk ?_; intro tk; (try dsimp only))
  k_with "setAttr ref" => (k_here; with_reducible refine gen_tk ?_; intro tk; (try dsimp only))
  k_with "newList" => (k_here; with_reducible refine gen_tk ?_; intro tk; (try dsimp only))
  k_with "eval BinOp" => (k_here; with_reducible refine gen_tk ?_; intro tk; (try dsimp only))
  k_with "eval Subscript" => (k_here; with_reducible refine gen_tk ?_; intro tk; (try dsimp only))
  k_with "k_all" => (first | assumption | exact all_ne (by with_reducible assumption) (by (intro q9 hq9; repeat (first | exact hq9 | refine List.Mem.tail _ ?_))))
  k_with "subscriptTail Name Constant ref int" => ((k_here; k_dflt (refine' my_item ?k1 ?k2 ?k3 ?k4 ?k5 ?_ ?k7; (case k1 => k_asm); (case k2 => k_mem); (case k3 => decide); (case k4 => decide); (case k5 => exact rfl); (case k7 => with_unfolding_all rfl); k_whole)))
  k_with "call ref" => ((k_here; (with_reducible show wpAny _ _ (call (Value.ref 386) [Value.ref _, Value.int _ _]) _ _ _); k_dflt (refine' wind_at ?kB ?kF ?kX ?kN ?kT ?kK ?kU ?kx ?ky ?kz ?kt ?ku ?kd ?ke ?_; (case kB => k_asm); (case kF => k_asm); (case kX => k_asm); (case kN => k_asm); (case kT => k_asm); (case kK => first | exact rfl | assumption); (case kU => k_updF); (case kx => assumption); (case ky => assumption); (case kz => assumption); (case kt => omega); (case ku => omega); (case kd => ktr_room); (case ke => ktr_units)); intro d' x' y' td' tx' ty' h' tk' hd0 hd1 hx' hy' hz' F' N'; (try dsimp only at N'); (try dsimp only); (try k_sweep); walk_say "WIND"; (try k_extra "wind")))
  k_with "k_room" => (ktr_room)
  k_with "k_units" => (ktr_units)
  k_with "ktr_rel" => ((intro q9 hq9; repeat (first | exact hq9 | refine List.Mem.tail _ ?_)))
  k_with "binaryOp Pow int int" => ((k_here; (refine' pow_lit ?kb1 ?kb2 ?kb3 ?_); (case kb1 => decide); (case kb2 => decide); (case kb3 => ((simp only [Int.reduceToNat, Int.reducePow]); exact rfl))))
  k_with "CompSrc" => ((k_here; k_dflt (first | (refine LCg.CompSrc.ledger (by rfl) (by k_asm) (by k_asm) (by k_mem) (by first | size_fits | exact Nat.le_of_ble_eq_true rfl) ?_; intro g'; lcg_lit) | (refine LCg.CompSrc.range (by rfl) (by k_asm) (by k_asm) (by assumption) (by first | decide | rfl) (by first | rfl | decide) (by first | size_fits | exact Nat.le_of_ble_eq_true rfl) ?_; intro g'; lcg_lit))))
  k_with "CompRest" => ((with_unfolding_all first | (refine LCg.CompRest.succ ?_; intro v' I' oI' C' oC' D' m' h' tk' E' hv' hC' hx' F' N' off' ne'; (first | lcg_open hv' | (obtain ⟨t9', hv9'⟩ := hv'; subst hv9')); (obtain ⟨ne1', ne2', ne3'⟩ := ne')) | refine LCg.CompRest.zero ?_))
  k_with "CompEnd" => ((first | (refine' compEnd0 ?kF ?kN ?ko ?kS ?_; (case kN => assumption); (case kF => assumption); (case ko => assumption); (case kS => lcg_src)) | (refine' compEnd2 ?kF ?kN ?kx ?kd ?ko ?kS ?_; (case kN => assumption); (case kF => assumption); (case kx => exact ⟨by k_ne, by k_ne, by k_ne⟩); (case kd => exact ⟨by k_ne, by k_ne, by k_ne⟩); (case ko => assumption); (case kS => lcg_src)) | (refine' compEnd1 ?kF ?kN ?kx ?ko ?kS ?_; (case kN => assumption); (case kF => assumption); (case kx => exact ⟨by k_ne, by k_ne, by k_ne⟩); (case ko => assumption); (case kS => lcg_src)) | lcg_end))
  k_with "k_ne" => ((refine neN ?_; (try dsimp only); first | (with_reducible assumption) | exact Ne.symm (by with_reducible assumption) | exact Nat.ne_of_gt (by with_reducible assumption) | exact Nat.ne_of_lt (by with_reducible assumption) | exact neA (by with_reducible assumption) (by k_mem) | exact Ne.symm (neA (by with_reducible assumption) (by k_mem)) | exact neO (by with_reducible assumption) (by k_mem) | exact Ne.symm (neO (by with_reducible assumption) (by k_mem)) | exact neI (by with_reducible assumption) (by k_mem) | exact Ne.symm (neI (by with_reducible assumption) (by k_mem)) | exact neC (by with_reducible assumption) (by k_mem) | exact Ne.symm (neC (by with_reducible assumption) (by k_mem)) | exact neD (by with_reducible assumption) (by k_mem) | exact Ne.symm (neD (by with_reducible assumption) (by k_mem)) | exact neA2 (by with_reducible assumption) (by with_reducible assumption) (by k_mem) | exact Ne.symm (neA2 (by with_reducible assumption) (by with_reducible assumption) (by k_mem)) | omega))
  k_with "FinE" => (((unfold LCg.FinE); intro D' h' tk' F' N' o1'; (try simp only [List.nil_append, List.cons_append] at N'); (try dsimp only)))
  k_with "FinA" => (((unfold LCg.FinA); intro D' h' tk' F' N' o1'; (try simp only [List.nil_append, List.cons_append] at N'); (try dsimp only)))
  k_with "exec Raise some none" => ((k_here; k_dflt (refine' raise_own ?kF ?kX ?kT ?ex (k90 _) ?hn ?hi ?hf ?hh ?_ ?a ?b ?c ?d ?e; (case kF => k_asm); (case kX => k_asm); (case kT => k_asm); (case ex => k_is); (case hn => exact nsok89 _); (case hi => k_is); (case hf => k_is); (case hh => first | rfl | assumption); (case a => rfl); (case b => rfl); (case c => rfl); (case d => rfl); (case e => decide); k_whole)))
  k_with "call ref" => ((k_here; (with_reducible show wpAny _ _ (call (Value.ref 87) [Value.ref _, Value.str _ _]) _ _ _); refine held ?_))
  k_with "compareOp NotIn str ref" => ((k_here; (with_reducible show wpAny _ _ (compareOp CmpOp.NotIn (Value.str _ _) (Value.ref _)) _ _ _); k_dflt (refine' notin_tuple_strs ?k1 ?k2 ?_; (case k1 => exact kun_topT (by k_asm) (by k_asm) (by k_is)); (case k2 => kde_strs))))
  trivial
theorem ref_a {w : World} {p : Program} {loose : List Str} {mean : ExcName → Option Value} {mg mb : Str → Option Value}
    {dp un : Nat} {gd : Option (List Code)} {cn : Str} {cs : Scope} {a : Addr} {ccd : Value} {cl : List (Str × Addr)} {outer : List Env} {A₀ : Around} {base h₀ : Heap} {L : Addr} {m : Str → Option Value} {s : Shared} {Q E : Value → Shared → Prop}
    {news : List (Addr × Obj)} {bb : Int} {tx ty : Tok}
    (B : Below A₀ base outer h₀) (F : Fr h₀ L s.heap m) (X : (Mine.K w.params).In h₀) (N : News h₀ L s.heap news) (T : Top p loose mean mg mb h₀) (hk : cs.kind = .function) (Xb : (Mine.K w.params).In base) (Tb : Top p loose mean mg mb base)
     (hd : dp + 9 < recursionLimit) (hu : un + 72 < cLine)
    (ret : ∀ (u : Tok) (h' : Heap) (tk' : Nat) (g' : Heap), Below A₀ base outer g' → (Mine.K w.params).In g' → Top p loose mean mg mb g' → Fr g' L h' m → News g' L h' news → h₀.UpToSlots g' → Q (.bool true) { s with heap := h', toks := tk' }) :
    wpAny (model PySem.Challenge.pw_xm0985_01 w) (ktrTop dp un gd cn cs L a ccd cl outer) (call (.ref 443) [.int 0 tx, .int bb ty]) Q E s := by
  refine wpAny_call ?_
  k_dflt (refine' code_defR ?k1 ?k2 ?k3 ?k4 ?k5 ?kA ?kF ?kK ?k6 ?k7 ?k8 ?k9 ?kB ?_ ?c2 ?c3 ?c4 ?c5; (case kA => exact rfl); (case kF => exact rfl); (case kK => assumption); (case k1 => k_asm); (case k2 => k_asm); (case k3 => exact Xb); (case k4 => k_asm); (case k5 => exact Tb); (case k6 => k_is); (case k7 => k_is); (case k8 => ktr_room); (case k9 => exact BindsTo.of_eq rfl); (case c5 => decide); (case kB => exact locs rfl); (case c2 => exact rfl); (case c3 => exact rfl); (case c4 => exact rfl); k_whole; intro gA LA hA FGA FA NA BA XA TA; (try dsimp only); (try k_fold))
  have NA2 : ∀ q ∈ news, q.1 ≠ LA ∧ gA.get? q.1 = none := fun q hq => (NA q hq).2
  k_steps
  rename Heap.MadeExcOf _ _ _ _ _ => hm9
  (with_reducible rename Fr _ _ _ _ => kF9)
  (with_reducible rename News _ _ _ _ => kN9)
  obtain ⟨t0, hz, hne, F9, N9⟩ := made_exc hm9 kF9 kN9
  k_dflt (refine' init_spec ?kB ?kF ?kX ?kN ?kT ?kK ?ke ?kne ?kd ?ku ?_; (case kB => k_asm); (case kF => k_asm); (case kX => k_asm); (case kN => k_asm); (case kT => k_asm); (case kK => first | exact rfl | assumption); (case ke => assumption); (case kne => assumption); (case kd => ((show Around.depth (Around.under _ (Code.builtin "type.__call__" _)) + 3 < recursionLimit); (simp only [dep_under, depth_deeper, depth_in1]); (try dsimp only [ktrTop]); (simp only [recursionLimit] at *); omega)); (case ku => ((show Around.units (Around.under _ (Code.builtin "type.__call__" _)) + _ < cLine); (simp only [uni_under, units_in1, units_deeper, Around.mark_units, units_caller]); (try dsimp only [ktrTop]); (simp only [cLine] at *); omega)); intro t1 dx h9 tk9 F8 N8 hl8; (try dsimp only))
  refine ⟨rfl, F8.keep, ⟨_, _, _, (N8 _ (.head _)).1, rfl⟩, ?_⟩
  refine' leave_own ?kK ?kF ?kN ?l1 ?l2 ?l3 ?l4 ?l5 ?l6 ?kne ?knt ?_
  case kK => assumption
  case kF => exact F8
  case kN => exact N8
  case l1 => exact List.Mem.head _
  case l2 => exact List.Mem.tail _ (List.Mem.head _)
  case l3 => exact rfl
  case l4 => exact rfl
  case l5 => exact rfl
  case l6 => exact mem_tail2
  case kne => assumption
  case knt => exact ne_of_lts hl8
  intro h7 t7 R7 U7
  (try dsimp only at R7 U7 ⊢)
  refine' caught_R (news := news) ?cK ?cF ?cN ?cS ?cR ?cX ?cT ?ex (k90 _) ?_
  case cR => exact raised_sub R7 (by first | exact fun _ h => h | exact mem_tail2)
  case cS => exact U7
  case cK => exact BA
  case cF => assumption
  case cN => exact NA2
  case cX => exact Xb
  case cT => exact Tb
  case ex => k_is
  intro h6 g6 K6 F6 N6 X6 T6 U6
  (try k_sweep)
  k_steps
  refine leaveR_ K6 F6 N6 U6 (fun q hq => (NA2 q hq).2) (fun g9 b9 f9 n9 s9 u9 => ?_)
  exact ret 0 _ _ g9 b9 (Xb.keeps s9) (Tb.keeps s9) f9 n9 u9
theorem ref_b {w : World} {p : Program} {loose : List Str} {mean : ExcName → Option Value} {mg mb : Str → Option Value}
    {dp un : Nat} {gd : Option (List Code)} {cn : Str} {cs : Scope} {a : Addr} {ccd : Value} {cl : List (Str × Addr)} {outer : List Env} {A₀ : Around} {base h₀ : Heap} {L : Addr} {m : Str → Option Value} {s : Shared} {Q E : Value → Shared → Prop}
    {news : List (Addr × Obj)} {aa : Int} {tx ty : Tok}
    (B : Below A₀ base outer h₀) (F : Fr h₀ L s.heap m) (X : (Mine.K w.params).In h₀) (N : News h₀ L s.heap news) (T : Top p loose mean mg mb h₀) (hk : cs.kind = .function) (Xb : (Mine.K w.params).In base) (Tb : Top p loose mean mg mb base)
    (ha : 1 ≤ aa) (hd : dp + 9 < recursionLimit) (hu : un + 72 < cLine)
    (ret : ∀ (u : Tok) (h' : Heap) (tk' : Nat) (g' : Heap), Below A₀ base outer g' → (Mine.K w.params).In g' → Top p loose mean mg mb g' → Fr g' L h' m → News g' L h' news → h₀.UpToSlots g' → Q (.bool true) { s with heap := h', toks := tk' }) :
    wpAny (model PySem.Challenge.pw_xm0985_01 w) (ktrTop dp un gd cn cs L a ccd cl outer) (call (.ref 443) [.int aa tx, .int 0 ty]) Q E s := by
  refine wpAny_call ?_
  k_dflt (refine' code_defR ?k1 ?k2 ?k3 ?k4 ?k5 ?kA ?kF ?kK ?k6 ?k7 ?k8 ?k9 ?kB ?_ ?c2 ?c3 ?c4 ?c5; (case kA => exact rfl); (case kF => exact rfl); (case kK => assumption); (case k1 => k_asm); (case k2 => k_asm); (case k3 => exact Xb); (case k4 => k_asm); (case k5 => exact Tb); (case k6 => k_is); (case k7 => k_is); (case k8 => ktr_room); (case k9 => exact BindsTo.of_eq rfl); (case c5 => decide); (case kB => exact locs rfl); (case c2 => exact rfl); (case c3 => exact rfl); (case c4 => exact rfl); k_whole; intro gA LA hA FGA FA NA BA XA TA; (try dsimp only); (try k_fold))
  have NA2 : ∀ q ∈ news, q.1 ≠ LA ∧ gA.get? q.1 = none := fun q hq => (NA q hq).2
  k_steps
  rename Heap.MadeExcOf _ _ _ _ _ => hm9
  (with_reducible rename Fr _ _ _ _ => kF9)
  (with_reducible rename News _ _ _ _ => kN9)
  obtain ⟨t0, hz, hne, F9, N9⟩ := made_exc hm9 kF9 kN9
  k_dflt (refine' init_spec ?kB ?kF ?kX ?kN ?kT ?kK ?ke ?kne ?kd ?ku ?_; (case kB => k_asm); (case kF => k_asm); (case kX => k_asm); (case kN => k_asm); (case kT => k_asm); (case kK => first | exact rfl | assumption); (case ke => assumption); (case kne => assumption); (case kd => ((show Around.depth (Around.under _ (Code.builtin "type.__call__" _)) + 3 < recursionLimit); (simp only [dep_under, depth_deeper, depth_in1]); (try dsimp only [ktrTop]); (simp only [recursionLimit] at *); omega)); (case ku => ((show Around.units (Around.under _ (Code.builtin "type.__call__" _)) + _ < cLine); (simp only [uni_under, units_in1, units_deeper, Around.mark_units, units_caller]); (try dsimp only [ktrTop]); (simp only [cLine] at *); omega)); intro t1 dx h9 tk9 F8 N8 hl8; (try dsimp only))
  refine ⟨rfl, F8.keep, ⟨_, _, _, (N8 _ (.head _)).1, rfl⟩, ?_⟩
  refine' leave_own ?kK ?kF ?kN ?l1 ?l2 ?l3 ?l4 ?l5 ?l6 ?kne ?knt ?_
  case kK => assumption
  case kF => exact F8
  case kN => exact N8
  case l1 => exact List.Mem.head _
  case l2 => exact List.Mem.tail _ (List.Mem.head _)
  case l3 => exact rfl
  case l4 => exact rfl
  case l5 => exact rfl
  case l6 => exact mem_tail2
  case kne => assumption
  case knt => exact ne_of_lts hl8
  intro h7 t7 R7 U7
  (try dsimp only at R7 U7 ⊢)
  refine' caught_R (news := news) ?cK ?cF ?cN ?cS ?cR ?cX ?cT ?ex (k90 _) ?_
  case cR => exact raised_sub R7 (by first | exact fun _ h => h | exact mem_tail2)
  case cS => exact U7
  case cK => exact BA
  case cF => assumption
  case cN => exact NA2
  case cX => exact Xb
  case cT => exact Tb
  case ex => k_is
  intro h6 g6 K6 F6 N6 X6 T6 U6
  (try k_sweep)
  k_steps
  refine leaveR_ K6 F6 N6 U6 (fun q hq => (NA2 q hq).2) (fun g9 b9 f9 n9 s9 u9 => ?_)
  exact ret 0 _ _ g9 b9 (Xb.keeps s9) (Tb.keeps s9) f9 n9 u9
end
section
open PyProof.V
inductive Tups (news : List (Addr × Obj)) : List Value → List (Int × Int) → Prop
  | nil : Tups news [] []
  | cons {T : Addr} {a b : Int} {ta tb : Tok} {k : Nat} {vs : List Value} {qs : List (Int × Int)} : (T, tupO #[.int a ta, .int b tb] k) ∈ news → Tups news vs qs → Tups news (.ref T :: vs) ((a, b) :: qs)
theorem Tups.mono {n1 n2 : List (Addr × Obj)} (h : ∀ q ∈ n1, q ∈ n2) : ∀ {vs : List Value} {qs : List (Int × Int)}, Tups n1 vs qs → Tups n2 vs qs
  | _, _, .nil => .nil
  | _, _, .cons m r => .cons (h _ m) (r.mono h)
theorem Tups.length {n1 : List (Addr × Obj)} : ∀ {vs : List Value} {qs : List (Int × Int)}, Tups n1 vs qs → vs.length = qs.length
  | _, _, .nil => rfl
  | _, _, .cons _ r => congrArg (· + 1) r.length
theorem Tups.snoc {n1 : List (Addr × Obj)} {T : Addr} {a b : Int} {ta tb : Tok} {k : Nat} (hm : (T, tupO #[.int a ta, .int b tb] k) ∈ n1) : ∀ {vs : List Value} {qs : List (Int × Int)}, Tups n1 vs qs → Tups n1 (vs ++ [.ref T]) (qs ++ [(a, b)])
  | _, _, .nil => .cons hm .nil
  | _, _, .cons m r => .cons m (r.snoc hm)
theorem Tups.at {n1 : List (Addr × Obj)} {vs : List Value} {qs : List (Int × Int)} (h : Tups n1 vs qs) : ∀ (i : Nat) (v : Value), vs[i]? = some v → ∃ (T : Addr) (a b : Int) (ta tb : Tok) (k : Nat), v = .ref T ∧ (T, tupO #[.int a ta, .int b tb] k) ∈ n1 ∧ qs[i]? = some (a, b) := by
  induction h with
  | nil => intro i v h; simp at h
  | cons m r ih =>
    intro i v h
    cases i with
    | zero => simp at h; subst h; exact ⟨_, _, _, _, _, _, rfl, m, rfl⟩
    | succ i => exact ih i v (by simpa using h)
noncomputable def tupP (q : Int × Int) : PyData := .tuple [.int q.1, .int q.2]
noncomputable def sumQ (qs : List (Int × Int)) : Int := (qs.map Prod.fst).sum
theorem tups_reads {h₀ h : Heap} {L : Addr} {news : List (Addr × Obj)} (N : News h₀ L h news) {vs : List Value} {qs : List (Int × Int)} (t : Tups news vs qs) : ∃ as, ReadsAll h vs (qs.map tupP) as := by
  induction t with
  | nil => exact ⟨_, .nil⟩
  | cons m r ih =>
    obtain ⟨as, e⟩ := ih
    exact ⟨_, .cons (reads_tuple_at (N _ m).1 rfl rfl (.cons (.int _ _) (.cons (.int _ _) .nil))) e⟩
theorem tups_lay : ∀ qs : List (Int × Int), PyData.canLayAll0 (qs.map tupP) = true ∧ PyData.depthAll (qs.map tupP) ≤ 1
  | [] => by simp [PyData.canLayAll0, PyData.depthAll]
  | q :: r => by
    have h := tups_lay r
    simp only [List.map_cons, PyData.canLayAll0, PyData.depthAll, tupP, PyData.canLay0, PyData.depth, h.1, Bool.and_true, Bool.and_self, true_and]
    have := h.2
    omega
theorem tups_shaped (qs : List (Int × Int)) : SeqAt.shaped (.list (qs.map tupP)) = true := by
  have h := tups_lay qs
  have h2 : PyData.depth (.list (qs.map tupP)) ≤ 64 := by simp only [PyData.depth]; omega
  show (PyData.canLay0 (.list (qs.map tupP)) && decide (PyData.depth (.list (qs.map tupP)) ≤ 64)) = true
  rw [Bool.and_eq_true]
  exact ⟨by simp only [PyData.canLay0]; exact h.1, decide_eq_true h2⟩
theorem tups_mix (qs : List (Int × Int)) : SeqAt.noMix (.list (qs.map tupP)) (.list []) = true := by
  cases qs <;> simp [SeqAt.noMix, SeqAt.noMixAll]
theorem tups_same (qs : List (Int × Int)) : PySem.Spec.same (.list (qs.map tupP)) (.list []) = qs.isEmpty := by
  cases qs <;> simp [PySem.Spec.same, PySem.Spec.sameAll]
section
variable {prog : Program} {w : World} {A : Around} {E : Value → Shared → Prop} {s : Shared} {h₀ : Heap} {L a b : Addr} {news : List (Addr × Obj)} {vs : List Value} {qs : List (Int × Int)} {k j : Nat} {Q : Value → Shared → Prop}
theorem eq_tups (N : News h₀ L s.heap news) (ma : (a, listOf vs.toArray k) ∈ news) (mb : (b, listOf #[] j) ∈ news) (t : Tups news vs qs) (hu : A.units + 64 < cLine) (h : Q (.bool qs.isEmpty) s) : wpAny (model prog w) A (compareOp .Eq (.ref a) (.ref b)) Q E s := by
  obtain ⟨as, r⟩ := tups_reads N t
  exact eq_dataH_same (reads_list_at (N _ ma).1 rfl rfl (by simpa using r)) (reads_list_at (N _ mb).1 rfl rfl .nil) (tups_shaped qs) rfl hu (tups_mix qs) (by rw [tups_same]; exact h)
theorem ne_tups (N : News h₀ L s.heap news) (ma : (a, listOf vs.toArray k) ∈ news) (mb : (b, listOf #[] j) ∈ news) (t : Tups news vs qs) (hu : A.units + 64 < cLine) (h : Q (.bool (!qs.isEmpty)) s) : wpAny (model prog w) A (compareOp .NotEq (.ref a) (.ref b)) Q E s := by
  obtain ⟨as, r⟩ := tups_reads N t
  exact ne_dataH_same (reads_list_at (N _ ma).1 rfl rfl (by simpa using r)) (reads_list_at (N _ mb).1 rfl rfl .nil) (tups_shaped qs) rfl hu (tups_mix qs) (by rw [tups_same]; exact h)
theorem ne_tup2 {x y : Int} {t1 t2 t3 t4 : Tok} (N : News h₀ L s.heap news) (ma : (a, tupO #[.int x t1, .int y t2] k) ∈ news) (mb : (b, tupO #[.int x t3, .int y t4] j) ∈ news) (hu : A.units + 64 < cLine) (h : Q (.bool false) s) : wpAny (model prog w) A (compareOp .NotEq (.ref a) (.ref b)) Q E s :=
  ne_dataH_same (reads_tuple_at (N _ ma).1 rfl rfl (.cons (.int _ _) (.cons (.int _ _) .nil))) (reads_tuple_at (N _ mb).1 rfl rfl (.cons (.int _ _) (.cons (.int _ _) .nil))) rfl rfl hu rfl (by simpa [PySem.Spec.same, PySem.Spec.sameAll] using h)
end
theorem upd2 {d t : Addr} {D D' O : Obj} {news : List (Addr × Obj)} {g1 g2 : Obj → List (Addr × Obj)} (hdt : t ≠ d) (U1 : UpdF d D news g1) (U2 : UpdF t O (g1 D') g2) :
    ∃ rest, (∀ z ∈ rest, z.1 ≠ d ∧ z.1 ≠ t ∧ z ∈ news) ∧ (d, D) ∈ news ∧ (t, O) ∈ news ∧ ∀ O', ∀ z ∈ g2 O', z ∈ (d, D') :: (t, O') :: rest := by
  obtain ⟨pre, post, rfl, hg, a1, b1⟩ := U1.split
  rw [hg] at U2
  obtain ⟨pre2, post2, e2, hg2, a2, b2⟩ := U2.split
  have mt : (t, O) ∈ pre ++ (d, D') :: post := by rw [e2]; exact List.mem_append_right _ (.head _)
  refine ⟨(pre2 ++ post2).filter fun z => decide (z.1 ≠ d), fun z hz => ?_, List.mem_append_right _ (.head _), ?_, fun O' z hz => ?_⟩
  · obtain ⟨h1, h2⟩ := List.mem_filter.mp hz
    have h2 := of_decide_eq_true h2
    have h3 : z ∈ pre ++ (d, D') :: post := by
      rw [e2]
      rcases List.mem_append.mp h1 with h | h
      · exact List.mem_append_left _ h
      · exact List.mem_append_right _ (.tail _ h)
    refine ⟨h2, (List.mem_append.mp h1).elim (a2 z) (b2 z), ?_⟩
    rcases List.mem_append.mp h3 with h | h
    · exact List.mem_append_left _ h
    · rcases List.mem_cons.mp h with rfl | h
      · exact absurd rfl h2
      · exact List.mem_append_right _ (.tail _ h)
  · rcases List.mem_append.mp mt with h | h
    · exact List.mem_append_left _ h
    · rcases List.mem_cons.mp h with e | h
      · exact absurd (congrArg Prod.fst e) hdt
      · exact List.mem_append_right _ (.tail _ h)
  · rw [hg2] at hz
    have hz' : z = (t, O') ∨ z ∈ pre2 ++ post2 := by
      rcases List.mem_append.mp hz with h | h
      · exact .inr (List.mem_append_left _ h)
      · rcases List.mem_cons.mp h with h | h
        · exact .inl h
        · exact .inr (List.mem_append_right _ h)
    rcases hz' with rfl | h
    · exact .tail _ (.head _)
    · by_cases e : z.1 = d
      · have h3 : z ∈ pre ++ (d, D') :: post := by
          rw [e2]
          rcases List.mem_append.mp h with h | h
          · exact List.mem_append_left _ h
          · exact List.mem_append_right _ (.tail _ h)
        rcases List.mem_append.mp h3 with h | h
        · exact absurd e (a1 z h)
        · rcases List.mem_cons.mp h with rfl | h
          · exact .head _
          · exact absurd e (b1 z h)
      · exact .tail _ (.tail _ (List.mem_filter.mpr ⟨h, decide_eq_true e⟩))
theorem my_pop0 {prog : Program} {w : World} {A : Around} {E : Value → Shared → Prop} {s : Shared} {h₀ : Heap} {L D : Addr} {m : Str → Option Value} {news news' : List (Addr × Obj)} {n : Nat} {y : Value} {us : List Value} {u : Tok} {Q : Value → Shared → Prop} (F : Fr h₀ L s.heap m) (N : News h₀ L s.heap news)
    (U : Upd D (listOf (y :: us).toArray n) (listOf us.toArray (n + 1)) news news') (hz : us.length ≤ 1000) (h : ∀ h', Fr h₀ L h' m → News h₀ L h' news' → Q y { s with heap := h' }) : wpAny (model prog w) A (call (.builtin "list.pop") [.ref D, .int 0 u]) Q E s := by
  refine kl_popAt F N (k := 0) (p := []) (q := us) (y := y) rfl ?_ rfl U (by simp; exact Nat.le_trans (Nat.succ_le_succ hz) (by decide)) h
  simp [seqIndex?]
section
open LCg
variable {prog : Program} {w : World} {A : Around} {E : Value → Shared → Prop} {s : Shared} {h₀ : Heap} {L : Addr} {m : Str → Option Value} {news : List (Addr × Obj)}
theorem compEndQ {I C D : Addr} {s₁ : Shared} {oI oC oD : Obj} {S : List (Addr × Obj) → Prop} {rest : Value → List (Addr × Obj) → Prop} {y : Value} {h' : Heap} {tk : Nat} {nws : List (Addr × Obj)} (F : Fr h₀ L h' m) (N : News h₀ L h' ((I, oI) :: (C, oC) :: (D, oD) :: nws)) (off : Off3 I C D nws) (hS : S nws) (r : rest y nws) : CompEnd h₀ L m s₁ I oI C oC D oD S rest y { s₁ with heap := h', toks := tk } :=
  CompEnd.intro F N nws (fun _ hp => hp) off hS r
theorem compP_all {env : Env} {x x₂ : Str} {px : Pos} {scope : Scope} {cl : List (Str × Addr)} {S : List (Addr × Obj) → Prop} {Fin : List Value → List (Addr × Obj) → Prop} {vs : List Value} {qs : List (Int × Int)}
    (ht : Tups news vs qs) (hS : S news) (hk : scope.kind = .function) (hl : scope.names.lookup x = some .local) (hd : (x == ("__debug__" : Str)) = false) (fin : ∀ ys, IntsAre ys (qs.map Prod.fst) → Fin ys news) :
    LCp.CompRestP prog w A h₀ L m env (.Name x px) x x₂ scope cl s S (fun i v => vs.toArray[i]? = some v) Fin vs.toArray.size 0 [] news := by
  have go : ∀ k i ys, i + k = vs.length → IntsAre ys ((qs.take i).map Prod.fst) → LCp.CompRestP prog w A h₀ L m env (.Name x px) x x₂ scope cl s S (fun i v => vs.toArray[i]? = some v) Fin k i ys news := by
    intro k
    induction k with
    | zero =>
      intro i ys e hi
      refine LCp.CompRestP.zero (fin ys ?_)
      rwa [List.take_of_length_le (by rw [← ht.length]; omega)] at hi
    | succ k ih =>
      intro i ys e hi
      refine LCp.CompRestP.succ fun v hv => ?_
      obtain ⟨T, a, b, ta, tb, kk, rfl, hm, hq⟩ := ht.at i v (by simpa using hv)
      refine ⟨T, _, _, _, kk, rfl, hm, rfl, rfl, ?_⟩
      intro I oI C oC D m₂ h tk E' hC hx hy F N off ne
      refine ldVarK (hC.ns (N _ (.tail _ (.head _))).1) hx ?_ hk (lookup_relabel_local hl) hd
      refine compEndQ F (fun q hq => ?_) off hS (ih (i + 1) _ (by omega) ?_)
      · simp only [List.mem_cons] at hq
        rcases hq with h | h | h | h
        · exact N q (by simp [h])
        · exact N q (by simp [h])
        · exact N q (by simp [h])
        · exact N q (by simp [h])
      · rw [List.take_add_one, hq, Option.toList_some, List.map_append]
        exact hi.append (IntsAre.cons _ _ IntsAre.nil)
  exact go _ 0 [] (by simp) IntsAre.nil
end
section
variable {prog : Program} {w : World} {A : Around} {E : Value → Shared → Prop} {s : Shared} {h₀ : Heap} {L l b : Addr} {m : Str → Option Value} {news : List (Addr × Obj)} {value slice : PySem.Expr} {vs ws : List Value} {v vl vu : Value} {k j : Nat} {Q : Value → Shared → Prop}
theorem my_slice1 (F : Fr h₀ L s.heap m) (N : News h₀ L s.heap news) (hm : (l, listOf (v :: vs).toArray k) ∈ news) (pl : IsPart vl (some 1)) (pu : IsPart vu none) (hz : vs.length ≤ 1000)
    (h : ∀ D h', Fr h₀ L h' m → News h₀ L h' ((D, listOf vs.toArray 0) :: news) → (∀ p ∈ news, p.1 < D) → Q (.ref D) { s with heap := h' })
    (hs : subscripted slice false (.ref l) (.ref s.heap.objs.size) = operate [.ref s.heap.objs.size, .ref l] (getItem (.ref l) (.ref s.heap.objs.size))) (ht : ∀ r, letTemporaryGo value (.ref l) r = pure ()) :
    wpAny (model prog w) A (subscriptTail value slice (.ref l) (.ref s.heap.objs.size)) Q E { s with heap := s.heap.push { cls := .type "slice", data := .fields #[vl, vu, .none] } } :=
  kms_slice_lit F N (N.isList hm) pl pu (by simp [kms_pick, kms_lo, kms_hi]) h hs ht (by simp; exact Nat.le_trans (Nat.succ_le_succ hz) (by decide))
theorem my_add (F : Fr h₀ L s.heap m) (N : News h₀ L s.heap news) (ha : (l, listOf vs.toArray k) ∈ news) (hb : (b, listOf ws.toArray j) ∈ news) (hz : vs.length ≤ 1000) (hw : ws.length ≤ 1000)
    (h : ∀ D h', Fr h₀ L h' m → News h₀ L h' ((D, listOf (vs ++ ws).toArray 0) :: news) → (∀ p ∈ news, p.1 < D) → Q (.ref D) { s with heap := h' }) : wpAny (model prog w) A (binaryOp .Add (.ref l) (.ref b)) Q E s :=
  kmk_add_lit F N (N.isList ha) (N.isList hb) rfl h (Nat.le_trans (Nat.add_le_add hz hw) (by decide))
theorem my_mul1 {u : Tok} (F : Fr h₀ L s.heap m) (N : News h₀ L s.heap news) (ha : (l, listOf #[v] k) ∈ news) (h : ∀ D h', Fr h₀ L h' m → News h₀ L h' ((D, listOf #[v] 0) :: news) → (∀ p ∈ news, p.1 < D) → Q (.ref D) { s with heap := h' }) : wpAny (model prog w) A (binaryOp .Mult (.ref l) (.int 1 u)) Q E s :=
  KMa.mul (vs := [v]) (ws := [v]) F N (N.isList ha) (by decide) (by decide) (by simp) (by simp) h
theorem my_mul0 {u : Tok} (F : Fr h₀ L s.heap m) (N : News h₀ L s.heap news) (ha : (l, listOf #[v] k) ∈ news) (h : ∀ D h', Fr h₀ L h' m → News h₀ L h' ((D, listOf #[] 0) :: news) → (∀ p ∈ news, p.1 < D) → Q (.ref D) { s with heap := h' }) : wpAny (model prog w) A (binaryOp .Mult (.ref l) (.int 0 u)) Q E s :=
  KMa.mul (vs := [v]) (ws := []) F N (N.isList ha) (by decide) (by decide) (by simp) (by simp) h
theorem tup_item0 {T : Addr} {x y : Value} {u : Tok} (N : News h₀ L s.heap news) (hm : (T, tupO #[x, y] k) ∈ news) (h : Q x s)
    (hs : subscripted slice false (.ref T) (.int 0 u) = operate [.ref T, .int 0 u] (getItem (.ref T) (.int 0 u)) := by with_unfolding_all rfl) : wpAny (model prog w) A (subscriptTail value slice (.ref T) (.int 0 u)) Q E s :=
  have ht : s.heap.IsTuple T #[x, y] := ⟨_, (N _ hm).1, rfl, _, rfl⟩
  tail_any ht.typeIs slot_tuple_getitem.lookup (getItem_tuple ht (by decide) (by decide) (j := 0) rfl rfl h) hs
theorem ne_same {a : Int} {t u : Tok} (h : Q (.bool false) s) : wpAny (model prog w) A (compareOp .NotEq (.int a t) (.int a u)) Q E s := by
  refine PyProof.Rows.ne_int ?_
  simpa using h
theorem lt_cases {a b : Int} {t u : Tok} (h1 : a < b → Q (.bool true) s) (h2 : ¬ a < b → Q (.bool false) s) : wpAny (model prog w) A (compareOp .Lt (.int a t) (.int b u)) Q E s := by
  refine PyProof.Rows.lt_int ?_
  by_cases h : a < b
  · rw [decide_eq_true h]; exact h1 h
  · rw [decide_eq_false h]; exact h2 h
theorem le_cases {a b : Int} {t u : Tok} (h1 : a ≤ b → Q (.bool true) s) (h2 : ¬ a ≤ b → Q (.bool false) s) : wpAny (model prog w) A (compareOp .LtE (.int a t) (.int b u)) Q E s := by
  refine PyProof.Rows.le_int ?_
  by_cases h : a ≤ b
  · rw [decide_eq_true h]; exact h1 h
  · rw [decide_eq_false h]; exact h2 h
theorem ne_tups_cases {us : List Value} {qs : List (Int × Int)} {news' : List (Addr × Obj)} (N : News h₀ L s.heap news) (ma : (l, listOf vs.toArray k) ∈ news) (mb : (b, listOf #[] j) ∈ news) (t : Tups news' vs qs) (t2 : Tups news' us qs) (hs : ∀ q ∈ news', q ∈ news) (hu : A.units + 64 < cLine) (h1 : vs = [] → us = [] → qs = [] → Q (.bool false) s)
    (h2 : ∀ (T T2 : Addr) (x y : Int) (tx ty ux uy : Tok) (kk k2 : Nat) (vs' us' : List Value) (qs' : List (Int × Int)), vs = .ref T :: vs' → us = .ref T2 :: us' → qs = (x, y) :: qs' → (T, tupO #[.int x tx, .int y ty] kk) ∈ news' → (T2, tupO #[.int x ux, .int y uy] k2) ∈ news' → Tups news' vs' qs' → Tups news' us' qs' → Q (.bool true) s) : wpAny (model prog w) A (compareOp .NotEq (.ref l) (.ref b)) Q E s := by
  refine ne_tups N ma mb (t.mono hs) hu ?_
  cases t with
  | nil => cases t2; exact h1 rfl rfl rfl
  | cons m r => cases t2 with | cons m2 r2 => exact h2 _ _ _ _ _ _ _ _ _ _ _ _ _ rfl rfl rfl m m2 r r2
end
end
section
theorem wd_47 : True := by
  k_with_none
  k_with "eval Call" => (k_here; k_fold)
  k_with "eval BinOp" => (k_here; k_fold)
  k_with "eval Compare" => (k_here; k_fold)
  k_with "isTrue Compare" => (k_here; k_fold)
  k_with "isTrue Call" => (k_here; k_fold)
  k_with "eval BoolOp" => (k_here; k_fold)
  k_with "isTrue BoolOp" => (k_here; k_fold)
  k_with "isTrue" => (k_here; k_fold)
  k_with "eval Attribute" => (k_here; k_fold)
  k_with "eval Tuple" => (k_here; k_fold)
  k_with "eval List" => (k_here; k_fold)
  k_with "eval Subscript" => (k_here; k_fold)
  k_with "eval IfExp" => (k_here; k_fold)
  k_with "execs cons" => (k_here; with_reducible refine gen_tk ?_; intro tk; (try dsimp only))
  k_with "eval Call" => (k_here; with_reducible refine gen_tk ?_; intro tk; (try dsimp only))
  k_with "setAttr ref" => (k_here; with_reducible refine gen_tk ?_; intro tk; (try dsimp only))
  k_with "newList" => (k_here; with_reducible refine gen_tk ?_; intro tk; (try dsimp only))
  k_with "eval BinOp" => (k_here; with_reducible refine gen_tk ?_; intro tk; (try dsimp only))
  k_with "eval Subscript" => (k_here; with_reducible refine gen_tk ?_; intro tk; (try dsimp only))
  k_with "k_all" => (first | assumption | exact all_ne (by with_reducible assumption) (by (intro q9 hq9; repeat (first | exact hq9 | refine List.Mem.tail _ ?_))))
  k_with "subscriptTail Name Constant ref int" => ((k_here; k_dflt (refine' my_item ?k1 ?k2 ?k3 ?k4 ?k5 ?_ ?k7; (case k1 => k_asm); (case k2 => k_mem); (case k3 => decide); (case k4 => decide); (case k5 => exact rfl); (case k7 => with_unfolding_all rfl); k_whole)))
  k_with "call ref" => ((k_here; (with_reducible show wpAny _ _ (call (Value.ref 386) [Value.ref _, Value.int _ _]) _ _ _); k_dflt (refine' wind_at ?kB ?kF ?kX ?kN ?kT ?kK ?kU ?kx ?ky ?kz ?kt ?ku ?kd ?ke ?_; (case kB => k_asm); (case kF => k_asm); (case kX => k_asm); (case kN => k_asm); (case kT => k_asm); (case kK => first | exact rfl | assumption); (case kU => k_updF); (case kx => assumption); (case ky => assumption); (case kz => assumption); (case kt => omega); (case ku => omega); (case kd => ktr_room); (case ke => ktr_units)); intro d' x' y' td' tx' ty' h' tk' hd0 hd1 hx' hy' hz' F' N'; (try dsimp only at N'); (try dsimp only); (try k_sweep); walk_say "WIND"; (try k_extra "wind")))
  k_with "k_room" => (ktr_room)
  k_with "k_units" => (ktr_units)
  k_with "ktr_rel" => ((intro q9 hq9; repeat (first | exact hq9 | refine List.Mem.tail _ ?_)))
  k_with "binaryOp Pow int int" => ((k_here; (refine' pow_lit ?kb1 ?kb2 ?kb3 ?_); (case kb1 => decide); (case kb2 => decide); (case kb3 => ((simp only [Int.reduceToNat, Int.reducePow]); exact rfl))))
  k_with "CompSrc" => ((k_here; k_dflt (first | (refine LCg.CompSrc.ledger (by rfl) (by k_asm) (by k_asm) (by k_mem) (by first | size_fits | exact Nat.le_of_ble_eq_true rfl) ?_; intro g'; lcg_lit) | (refine LCg.CompSrc.range (by rfl) (by k_asm) (by k_asm) (by assumption) (by first | decide | rfl) (by first | rfl | decide) (by first | size_fits | exact Nat.le_of_ble_eq_true rfl) ?_; intro g'; lcg_lit))))
  k_with "CompRest" => ((with_unfolding_all first | (refine LCg.CompRest.succ ?_; intro v' I' oI' C' oC' D' m' h' tk' E' hv' hC' hx' F' N' off' ne'; (first | lcg_open hv' | (obtain ⟨t9', hv9'⟩ := hv'; subst hv9')); (obtain ⟨ne1', ne2', ne3'⟩ := ne')) | refine LCg.CompRest.zero ?_))
  k_with "CompEnd" => ((first | (refine' compEnd0 ?kF ?kN ?ko ?kS ?_; (case kN => assumption); (case kF => assumption); (case ko => assumption); (case kS => lcg_src)) | (refine' compEnd2 ?kF ?kN ?kx ?kd ?ko ?kS ?_; (case kN => assumption); (case kF => assumption); (case kx => exact ⟨by k_ne, by k_ne, by k_ne⟩); (case kd => exact ⟨by k_ne, by k_ne, by k_ne⟩); (case ko => assumption); (case kS => lcg_src)) | (refine' compEnd1 ?kF ?kN ?kx ?ko ?kS ?_; (case kN => assumption); (case kF => assumption); (case kx => exact ⟨by k_ne, by k_ne, by k_ne⟩); (case ko => assumption); (case kS => lcg_src)) | lcg_end))
  k_with "k_ne" => ((refine neN ?_; (try dsimp only); first | (with_reducible assumption) | exact Ne.symm (by with_reducible assumption) | exact Nat.ne_of_gt (by with_reducible assumption) | exact Nat.ne_of_lt (by with_reducible assumption) | exact neA (by with_reducible assumption) (by k_mem) | exact Ne.symm (neA (by with_reducible assumption) (by k_mem)) | exact neO (by with_reducible assumption) (by k_mem) | exact Ne.symm (neO (by with_reducible assumption) (by k_mem)) | exact neI (by with_reducible assumption) (by k_mem) | exact Ne.symm (neI (by with_reducible assumption) (by k_mem)) | exact neC (by with_reducible assumption) (by k_mem) | exact Ne.symm (neC (by with_reducible assumption) (by k_mem)) | exact neD (by with_reducible assumption) (by k_mem) | exact Ne.symm (neD (by with_reducible assumption) (by k_mem)) | exact neA2 (by with_reducible assumption) (by with_reducible assumption) (by k_mem) | exact Ne.symm (neA2 (by with_reducible assumption) (by with_reducible assumption) (by k_mem)) | omega))
  k_with "FinE" => (((unfold LCg.FinE); intro D' h' tk' F' N' o1'; (try simp only [List.nil_append, List.cons_append] at N'); (try dsimp only)))
  k_with "FinA" => (((unfold LCg.FinA); intro D' h' tk' F' N' o1'; (try simp only [List.nil_append, List.cons_append] at N'); (try dsimp only)))
  k_with "k_all" => (first | assumption | (refine' all_neD ?l ?e; (case l => with_reducible assumption); (case e => exact rfl)) | exact allN_nil | (refine allN_cons (by k_ne) ?_; k_all) | fail "k_all")
  k_with "k_ne" => ((refine neN ?_; (try dsimp only); first | exact neQ (by with_reducible assumption) (by k_mem) | exact Ne.symm (neQ (by with_reducible assumption) (by k_mem)) | fail "k_ne"))
  trivial
theorem row_new {w : World} {p : Program} {loose : List Str} {mean : ExcName → Option Value} {mg mb : Str → Option Value}
    {dp un : Nat} {gd : Option (List Code)} {cn : Str} {cs : Scope} {a : Addr} {ccd : Value} {cl : List (Str × Addr)} {outer : List Env} {A₀ : Around} {base h₀ : Heap} {L : Addr} {m : Str → Option Value} {s : Shared} {Q E : Value → Shared → Prop}
    {news : List (Addr × Obj)} {a1 a2 : Int} {t1 t2 : Tok}
    (B : Below A₀ base outer h₀) (F : Fr h₀ L s.heap m) (X : (Mine.K w.params).In h₀) (N : News h₀ L s.heap news) (T : Top p loose mean mg mb h₀) (hk : cs.kind = .function)
    (h1 : 1 ≤ a1) (h2 : 1 ≤ a2) (hd : dp + 2 < recursionLimit) (hu : un + 16 < cLine)
    (ret : ∀ (x d th : Addr) (u0 u1 u2 u3 u4 t3 t4 : Tok) (h' : Heap) (tk' : Nat), (∀ q ∈ news, q.1 < d) → d < x → x < th → Fr h₀ L h' m → News h₀ L h' ((th, listOf #[] 0) :: (x, instObj 361 d) :: (d, dictOf [⟨PyData.keyHash w.params (Str.ofString "most"), .str (Str.ofString "most") u0, .int a1 t1⟩, ⟨PyData.keyHash w.params (Str.ofString "most_octets"), .str (Str.ofString "most_octets") u1, .int a2 t2⟩, ⟨PyData.keyHash w.params (Str.ofString "things"), .str (Str.ofString "things") u2, .ref th⟩, ⟨PyData.keyHash w.params (Str.ofString "octets"), .str (Str.ofString "octets") u3, .int 0 t3⟩, ⟨PyData.keyHash w.params (Str.ofString "dropped"), .str (Str.ofString "dropped") u4, .int 0 t4⟩] 5) :: news) → Q (.ref x) { s with heap := h', toks := tk' }) :
    wpAny (model PySem.Challenge.pw_xm0985_01 w) (ktrTop dp un gd cn cs L a ccd cl outer) (call (.ref 361) [.int a1 t1, .int a2 t2]) Q E s := by
  k_dflt (refine' call_cls ?k1 ?k2 ?k3 ?k4 ?k5 ?k6 ?_; (case k1 => k_asm); (case k2 => k_asm); (case k3 => k_asm); (case k4 => k_is); (case k5 => k_is); (case k6 => k_is); k_whole; intro x' d' h' F' N' l1 l2)
  have l9 := l1
  k_dflt cell_enter
  k_steps
  (with_reducible rename News _ _ _ _ => kN9)
  (with_reducible rename Fr _ _ _ _ => kF9)
  refine ret _ _ _ _ _ _ _ _ _ _ _ _ l9 l2 ?_ kF9 kN9
  exact ltA (by assumption) (by k_mem)
theorem wd_48 : True := by
  k_with "compareOp Eq ref ref" => ((k_here; (with_reducible show wpAny _ _ (compareOp CmpOp.Eq (Value.ref _) (Value.ref _)) _ _ _); k_dflt (refine' eq_tups ?k1 ?k2 ?k3 ?k4 ?k5 ?_; (case k1 => k_asm); (case k2 => k_mem); (case k3 => k_mem); (case k4 => (refine' Tups.mono ?b ?a; (case a => assumption); (case b => (intro q9 hq9; repeat (first | exact hq9 | refine List.Mem.tail _ ?_))))); (case k5 => ke_room))))
  k_with "compareOp NotEq ref ref" => ((k_here; (with_reducible show wpAny _ _ (compareOp CmpOp.NotEq (Value.ref _) (Value.ref _)) _ _ _); k_dflt (refine' ne_tups ?k1 ?k2 ?k3 ?k4 ?k5 ?_; (case k1 => k_asm); (case k2 => k_mem); (case k3 => k_mem); (case k4 => (refine' Tups.mono ?b ?a; (case a => assumption); (case b => (intro q9 hq9; repeat (first | exact hq9 | refine List.Mem.tail _ ?_))))); (case k5 => ke_room))))
  trivial
theorem emp_sp {w : World} {p : Program} {loose : List Str} {mean : ExcName → Option Value} {mg mb : Str → Option Value}
    {dp un : Nat} {gd : Option (List Code)} {cn : Str} {cs : Scope} {a : Addr} {ccd : Value} {cl : List (Str × Addr)} {outer : List Env} {A₀ : Around} {base h₀ : Heap} {L : Addr} {m : Str → Option Value} {s : Shared} {Q E : Value → Shared → Prop}
    {news : List (Addr × Obj)} {q d th : Addr} {most room oc dr : Int} {e0 e1 e2 e3 u0 u1 u2 u3 u4 : Tok} {us : List Value} {k : Nat} {qs : List (Int × Int)} 
    (B : Below A₀ base outer h₀) (F : Fr h₀ L s.heap m) (X : (Mine.K w.params).In h₀) (N : News h₀ L s.heap ((q, instObj 361 d) :: (d, dictOf [⟨PyData.keyHash w.params (Str.ofString "most"), .str (Str.ofString "most") u0, .int most e0⟩, ⟨PyData.keyHash w.params (Str.ofString "most_octets"), .str (Str.ofString "most_octets") u1, .int room e1⟩, ⟨PyData.keyHash w.params (Str.ofString "things"), .str (Str.ofString "things") u2, .ref th⟩, ⟨PyData.keyHash w.params (Str.ofString "octets"), .str (Str.ofString "octets") u3, .int oc e2⟩, ⟨PyData.keyHash w.params (Str.ofString "dropped"), .str (Str.ofString "dropped") u4, .int dr e3⟩] 5) :: (th, listOf us.toArray k) :: news)) (T : Top p loose mean mg mb h₀) (hk : cs.kind = .function)
    (hl : us.length ≤ 1000) (ht : Tups news us qs) (hd : dp + 1 < recursionLimit) (hu : un + 80 < cLine)
    (ret : ∀ (t : Tok) (h' : Heap) (tk' : Nat), Fr h₀ L h' m → News h₀ L h' ((q, instObj 361 d) :: (d, dictOf [⟨PyData.keyHash w.params (Str.ofString "most"), .str (Str.ofString "most") u0, .int most e0⟩, ⟨PyData.keyHash w.params (Str.ofString "most_octets"), .str (Str.ofString "most_octets") u1, .int room e1⟩, ⟨PyData.keyHash w.params (Str.ofString "things"), .str (Str.ofString "things") u2, .ref th⟩, ⟨PyData.keyHash w.params (Str.ofString "octets"), .str (Str.ofString "octets") u3, .int oc e2⟩, ⟨PyData.keyHash w.params (Str.ofString "dropped"), .str (Str.ofString "dropped") u4, .int dr e3⟩] 5) :: (th, listOf us.toArray k) :: news) → Q (.bool qs.isEmpty) { s with heap := h', toks := tk' }) :
    wpAny (model PySem.Challenge.pw_xm0985_01 w) (ktrTop dp un gd cn cs L a ccd cl outer) (call (.ref 344) [.ref q]) Q E s := by
  refine wpAny_call ?_
  k_dflt cell_enter
  k_steps
  (with_reducible rename News _ _ _ _ => kN9)
  (with_reducible rename Fr _ _ _ _ => kF9)
  exact ret 0 _ _ kF9 (fun q hq => kN9 q (by first | exact .tail _ hq | exact hq))
theorem mem3 {h₀ h : Heap} {L : Addr} {a b c : Addr × Obj} {news : List (Addr × Obj)} (N : News h₀ L h news) (ha : a ∈ news) (hb : b ∈ news) (hc : c ∈ news) : News h₀ L h (a :: b :: c :: news) := fun z hz => by
  rcases List.mem_cons.mp hz with rfl | hz
  · exact N _ ha
  · rcases List.mem_cons.mp hz with rfl | hz
    · exact N _ hb
    · rcases List.mem_cons.mp hz with rfl | hz
      · exact N _ hc
      · exact N _ hz
theorem emp_at {w : World} {p : Program} {loose : List Str} {mean : ExcName → Option Value} {mg mb : Str → Option Value}
    {dp un : Nat} {gd : Option (List Code)} {cn : Str} {cs : Scope} {a : Addr} {ccd : Value} {cl : List (Str × Addr)} {outer : List Env} {A₀ : Around} {base h₀ : Heap} {L : Addr} {m : Str → Option Value} {s : Shared} {Q E : Value → Shared → Prop}
    {news : List (Addr × Obj)} {q d th : Addr} {most room oc dr : Int} {e0 e1 e2 e3 u0 u1 u2 u3 u4 : Tok} {us : List Value} {k : Nat} {qs : List (Int × Int)} 
    (B : Below A₀ base outer h₀) (F : Fr h₀ L s.heap m) (X : (Mine.K w.params).In h₀) (N : News h₀ L s.heap news) (T : Top p loose mean mg mb h₀) (hk : cs.kind = .function)
    (mq : (q, instObj 361 d) ∈ news) (md : (d, dictOf [⟨PyData.keyHash w.params (Str.ofString "most"), .str (Str.ofString "most") u0, .int most e0⟩, ⟨PyData.keyHash w.params (Str.ofString "most_octets"), .str (Str.ofString "most_octets") u1, .int room e1⟩, ⟨PyData.keyHash w.params (Str.ofString "things"), .str (Str.ofString "things") u2, .ref th⟩, ⟨PyData.keyHash w.params (Str.ofString "octets"), .str (Str.ofString "octets") u3, .int oc e2⟩, ⟨PyData.keyHash w.params (Str.ofString "dropped"), .str (Str.ofString "dropped") u4, .int dr e3⟩] 5) ∈ news) (mt : (th, listOf (us).toArray k) ∈ news) (hl : us.length ≤ 1000) (ht : Tups news us qs) (hd : dp + 1 < recursionLimit) (hu : un + 80 < cLine)
    (ret : ∀ (t : Tok) (h' : Heap) (tk' : Nat), Fr h₀ L h' m → News h₀ L h' news → Q (.bool qs.isEmpty) { s with heap := h', toks := tk' }) :
    wpAny (model PySem.Challenge.pw_xm0985_01 w) (ktrTop dp un gd cn cs L a ccd cl outer) (call (.ref 344) [.ref q]) Q E s := by
  exact emp_sp (news := news) B F X (mem3 N mq md mt) T hk hl ht hd hu fun t h' tk' F' N' => ret t h' tk' F' fun z hz => N' z (.tail _ (.tail _ (.tail _ hz)))
theorem head_sp {w : World} {p : Program} {loose : List Str} {mean : ExcName → Option Value} {mg mb : Str → Option Value}
    {dp un : Nat} {gd : Option (List Code)} {cn : Str} {cs : Scope} {a : Addr} {ccd : Value} {cl : List (Str × Addr)} {outer : List Env} {A₀ : Around} {base h₀ : Heap} {L : Addr} {m : Str → Option Value} {s : Shared} {Q E : Value → Shared → Prop}
    {news : List (Addr × Obj)} {q d th : Addr} {most room oc dr : Int} {e0 e1 e2 e3 u0 u1 u2 u3 u4 : Tok} {us : List Value} {k : Nat} {T1 : Addr} {a1 b1 : Int} {t1 t2 : Tok} {kk : Nat}
    (B : Below A₀ base outer h₀) (F : Fr h₀ L s.heap m) (X : (Mine.K w.params).In h₀) (N : News h₀ L s.heap ((q, instObj 361 d) :: (d, dictOf [⟨PyData.keyHash w.params (Str.ofString "most"), .str (Str.ofString "most") u0, .int most e0⟩, ⟨PyData.keyHash w.params (Str.ofString "most_octets"), .str (Str.ofString "most_octets") u1, .int room e1⟩, ⟨PyData.keyHash w.params (Str.ofString "things"), .str (Str.ofString "things") u2, .ref th⟩, ⟨PyData.keyHash w.params (Str.ofString "octets"), .str (Str.ofString "octets") u3, .int oc e2⟩, ⟨PyData.keyHash w.params (Str.ofString "dropped"), .str (Str.ofString "dropped") u4, .int dr e3⟩] 5) :: (th, listOf (.ref T1 :: us).toArray k) :: (T1, tupO #[.int a1 t1, .int b1 t2] kk) :: news)) (T : Top p loose mean mg mb h₀) (hk : cs.kind = .function)
    (hl : us.length ≤ 1000)  (hd : dp + 1 < recursionLimit) (hu : un + 80 < cLine)
    (ret : ∀ (t : Tok) (h' : Heap) (tk' : Nat), Fr h₀ L h' m → News h₀ L h' ((q, instObj 361 d) :: (d, dictOf [⟨PyData.keyHash w.params (Str.ofString "most"), .str (Str.ofString "most") u0, .int most e0⟩, ⟨PyData.keyHash w.params (Str.ofString "most_octets"), .str (Str.ofString "most_octets") u1, .int room e1⟩, ⟨PyData.keyHash w.params (Str.ofString "things"), .str (Str.ofString "things") u2, .ref th⟩, ⟨PyData.keyHash w.params (Str.ofString "octets"), .str (Str.ofString "octets") u3, .int oc e2⟩, ⟨PyData.keyHash w.params (Str.ofString "dropped"), .str (Str.ofString "dropped") u4, .int dr e3⟩] 5) :: (th, listOf (.ref T1 :: us).toArray k) :: (T1, tupO #[.int a1 t1, .int b1 t2] kk) :: news) → Q (.int a1 t1) { s with heap := h', toks := tk' }) :
    wpAny (model PySem.Challenge.pw_xm0985_01 w) (ktrTop dp un gd cn cs L a ccd cl outer) (call (.ref 351) [.ref q]) Q E s := by
  refine wpAny_call ?_
  k_dflt cell_enter
  k_steps
  (with_reducible rename News _ _ _ _ => kN9)
  (with_reducible rename Fr _ _ _ _ => kF9)
  exact ret 0 _ _ kF9 kN9
theorem wd_49 : True := by
  k_with "call builtin:list.pop" => ((k_here; (with_reducible show wpAny _ _ (call (Value.builtin _) [Value.ref _, Value.int 0 _]) _ _ _); k_dflt (refine' my_pop0 ?F ?N ?U ?z ?_; (case F => k_asm); (case N => k_asm); (case U => k_upd); (case z => assumption)); intro h' F' N'; (try dsimp only [List.nil_append, List.cons_append] at N')))
  k_with "call builtin:len" => ((k_here; (with_reducible show wpAny _ _ (call (Value.builtin "len") [Value.ref _]) _ _ _); k_dflt (refine' my_len ?k1 ?k2 ?k3 ?_; (case k1 => k_asm); (case k2 => k_mem); (case k3 => omega)); intro t'))
  trivial
theorem take_sp {w : World} {p : Program} {loose : List Str} {mean : ExcName → Option Value} {mg mb : Str → Option Value}
    {dp un : Nat} {gd : Option (List Code)} {cn : Str} {cs : Scope} {a : Addr} {ccd : Value} {cl : List (Str × Addr)} {outer : List Env} {A₀ : Around} {base h₀ : Heap} {L : Addr} {m : Str → Option Value} {s : Shared} {Q E : Value → Shared → Prop}
    {news : List (Addr × Obj)} {q d th : Addr} {most room oc dr : Int} {e0 e1 e2 e3 u0 u1 u2 u3 u4 : Tok} {us : List Value} {k : Nat} {T1 : Addr} {a1 b1 : Int} {t1 t2 : Tok} {kk : Nat}
    (B : Below A₀ base outer h₀) (F : Fr h₀ L s.heap m) (X : (Mine.K w.params).In h₀) (N : News h₀ L s.heap ((q, instObj 361 d) :: (d, dictOf [⟨PyData.keyHash w.params (Str.ofString "most"), .str (Str.ofString "most") u0, .int most e0⟩, ⟨PyData.keyHash w.params (Str.ofString "most_octets"), .str (Str.ofString "most_octets") u1, .int room e1⟩, ⟨PyData.keyHash w.params (Str.ofString "things"), .str (Str.ofString "things") u2, .ref th⟩, ⟨PyData.keyHash w.params (Str.ofString "octets"), .str (Str.ofString "octets") u3, .int oc e2⟩, ⟨PyData.keyHash w.params (Str.ofString "dropped"), .str (Str.ofString "dropped") u4, .int dr e3⟩] 5) :: (th, listOf (.ref T1 :: us).toArray k) :: (T1, tupO #[.int a1 t1, .int b1 t2] kk) :: news)) (T : Top p loose mean mg mb h₀) (hk : cs.kind = .function)
    (nqd : @Ne Nat q d) (ntd : @Ne Nat th d) (nqt : @Ne Nat q th) (n1d : @Ne Nat T1 d) (n1t : @Ne Nat T1 th) (hnd : ∀ z ∈ news, z.1 ≠ d) (hnt : ∀ z ∈ news, z.1 ≠ th) (hl : us.length ≤ 1000) (hd : dp + 1 < recursionLimit) (hu : un + 80 < cLine)
    (ret : ∀ (t : Tok) (h' : Heap) (tk' : Nat), Fr h₀ L h' m → News h₀ L h' ((q, instObj 361 d) :: (d, dictOf [⟨PyData.keyHash w.params (Str.ofString "most"), .str (Str.ofString "most") u0, .int most e0⟩, ⟨PyData.keyHash w.params (Str.ofString "most_octets"), .str (Str.ofString "most_octets") u1, .int room e1⟩, ⟨PyData.keyHash w.params (Str.ofString "things"), .str (Str.ofString "things") u2, .ref th⟩, ⟨PyData.keyHash w.params (Str.ofString "octets"), .str (Str.ofString "octets") u3, .int (oc - a1) t⟩, ⟨PyData.keyHash w.params (Str.ofString "dropped"), .str (Str.ofString "dropped") u4, .int dr e3⟩] 5) :: (th, listOf us.toArray (k + 1)) :: (T1, tupO #[.int a1 t1, .int b1 t2] kk) :: news) → Q (.ref T1) { s with heap := h', toks := tk' }) :
    wpAny (model PySem.Challenge.pw_xm0985_01 w) (ktrTop dp un gd cn cs L a ccd cl outer) (call (.ref 358) [.ref q]) Q E s := by
  refine wpAny_call ?_
  k_dflt cell_enter
  k_steps
  (with_reducible rename News _ _ _ _ => kN9)
  (with_reducible rename Fr _ _ _ _ => kF9)
  exact ret _ _ _ kF9 kN9
theorem lt_same {T : Addr} {big small : List (Addr × Obj)} (l : ∀ p ∈ big, p.1 < T) (e : small.map Prod.fst = big.map Prod.fst) : ∀ p ∈ small, p.1 < T := fun p hp => by
  have h : p.1 ∈ big.map Prod.fst := e ▸ List.mem_map_of_mem hp
  obtain ⟨q, hq, e'⟩ := List.mem_map.mp h
  exact e' ▸ l q hq
theorem put_no {w : World} {p : Program} {loose : List Str} {mean : ExcName → Option Value} {mg mb : Str → Option Value}
    {dp un : Nat} {gd : Option (List Code)} {cn : Str} {cs : Scope} {a : Addr} {ccd : Value} {cl : List (Str × Addr)} {outer : List Env} {A₀ : Around} {base h₀ : Heap} {L : Addr} {m : Str → Option Value} {s : Shared} {Q E : Value → Shared → Prop}
    {news : List (Addr × Obj)} {q d th : Addr} {most room oc dr : Int} {e0 e1 e2 e3 u0 u1 u2 u3 u4 : Tok} {us : List Value} {k : Nat} {size turn : Int} {t1 t2 : Tok}
    (B : Below A₀ base outer h₀) (F : Fr h₀ L s.heap m) (X : (Mine.K w.params).In h₀) (N : News h₀ L s.heap ((q, instObj 361 d) :: (d, dictOf [⟨PyData.keyHash w.params (Str.ofString "most"), .str (Str.ofString "most") u0, .int most e0⟩, ⟨PyData.keyHash w.params (Str.ofString "most_octets"), .str (Str.ofString "most_octets") u1, .int room e1⟩, ⟨PyData.keyHash w.params (Str.ofString "things"), .str (Str.ofString "things") u2, .ref th⟩, ⟨PyData.keyHash w.params (Str.ofString "octets"), .str (Str.ofString "octets") u3, .int oc e2⟩, ⟨PyData.keyHash w.params (Str.ofString "dropped"), .str (Str.ofString "dropped") u4, .int dr e3⟩] 5) :: (th, listOf us.toArray k) :: news)) (T : Top p loose mean mg mb h₀) (hk : cs.kind = .function)
    (nqd : @Ne Nat q d) (ntd : @Ne Nat th d) (nqt : @Ne Nat q th) (hnd : ∀ z ∈ news, z.1 ≠ d) (hnt : ∀ z ∈ news, z.1 ≠ th) (hl : us.length ≤ 1000) (hno : ¬ ((us.length : Int) < most ∧ oc + size ≤ room)) (hd : dp + 1 < recursionLimit) (hu : un + 80 < cLine)
    (ret : ∀ (t u : Tok) (h' : Heap) (tk' : Nat), Fr h₀ L h' m → News h₀ L h' ((q, instObj 361 d) :: (d, dictOf [⟨PyData.keyHash w.params (Str.ofString "most"), .str (Str.ofString "most") u0, .int most e0⟩, ⟨PyData.keyHash w.params (Str.ofString "most_octets"), .str (Str.ofString "most_octets") u1, .int room e1⟩, ⟨PyData.keyHash w.params (Str.ofString "things"), .str (Str.ofString "things") u2, .ref th⟩, ⟨PyData.keyHash w.params (Str.ofString "octets"), .str (Str.ofString "octets") u3, .int oc e2⟩, ⟨PyData.keyHash w.params (Str.ofString "dropped"), .str (Str.ofString "dropped") u4, .int (dr + 1) t⟩] 5) :: (th, listOf us.toArray k) :: news) → Q (.bool false) { s with heap := h', toks := tk' }) :
    wpAny (model PySem.Challenge.pw_xm0985_01 w) (ktrTop dp un gd cn cs L a ccd cl outer) (call (.ref 337) [.ref q, .int size t1, .int turn t2]) Q E s := by
  refine wpAny_call ?_
  k_dflt cell_enter
  k_steps
  all_goals ((with_reducible rename News _ _ _ _ => kN9); (with_reducible rename Fr _ _ _ _ => kF9); exact ret _ 0 _ _ kF9 kN9)
theorem put_yes {w : World} {p : Program} {loose : List Str} {mean : ExcName → Option Value} {mg mb : Str → Option Value}
    {dp un : Nat} {gd : Option (List Code)} {cn : Str} {cs : Scope} {a : Addr} {ccd : Value} {cl : List (Str × Addr)} {outer : List Env} {A₀ : Around} {base h₀ : Heap} {L : Addr} {m : Str → Option Value} {s : Shared} {Q E : Value → Shared → Prop}
    {news : List (Addr × Obj)} {q d th : Addr} {most room oc dr : Int} {e0 e1 e2 e3 u0 u1 u2 u3 u4 : Tok} {us : List Value} {k : Nat} {oS oT oD : Obj} {size turn : Int} {t1 t2 : Tok}
    (B : Below A₀ base outer h₀) (F : Fr h₀ L s.heap m) (X : (Mine.K w.params).In h₀) (N : News h₀ L s.heap ((q, instObj 361 d) :: (d, dictOf [⟨PyData.keyHash w.params (Str.ofString "most"), .str (Str.ofString "most") u0, .int most e0⟩, ⟨PyData.keyHash w.params (Str.ofString "most_octets"), .str (Str.ofString "most_octets") u1, .int room e1⟩, ⟨PyData.keyHash w.params (Str.ofString "things"), .str (Str.ofString "things") u2, .ref th⟩, ⟨PyData.keyHash w.params (Str.ofString "octets"), .str (Str.ofString "octets") u3, .int oc e2⟩, ⟨PyData.keyHash w.params (Str.ofString "dropped"), .str (Str.ofString "dropped") u4, .int dr e3⟩] 5) :: (th, listOf us.toArray k) :: news)) (T : Top p loose mean mg mb h₀) (hk : cs.kind = .function)
    (nqd : @Ne Nat q d) (ntd : @Ne Nat th d) (nqt : @Ne Nat q th) (hnd : ∀ z ∈ news, z.1 ≠ d) (hnt : ∀ z ∈ news, z.1 ≠ th) (hl : us.length ≤ 1000) (hy1 : (us.length : Int) < most) (hy2 : oc + size ≤ room) (hd : dp + 1 < recursionLimit) (hu : un + 80 < cLine)
    (ret : ∀ (T1 : Addr) (t : Tok) (h' : Heap) (tk' kk : Nat), (∀ z ∈ (q, oS) :: (d, oD) :: (th, oT) :: news, z.1 < T1) → Fr h₀ L h' m → News h₀ L h' ((T1, tupO #[.int size t1, .int turn t2] 0) :: (q, instObj 361 d) :: (d, dictOf [⟨PyData.keyHash w.params (Str.ofString "most"), .str (Str.ofString "most") u0, .int most e0⟩, ⟨PyData.keyHash w.params (Str.ofString "most_octets"), .str (Str.ofString "most_octets") u1, .int room e1⟩, ⟨PyData.keyHash w.params (Str.ofString "things"), .str (Str.ofString "things") u2, .ref th⟩, ⟨PyData.keyHash w.params (Str.ofString "octets"), .str (Str.ofString "octets") u3, .int (oc + size) t⟩, ⟨PyData.keyHash w.params (Str.ofString "dropped"), .str (Str.ofString "dropped") u4, .int dr e3⟩] 5) :: (th, listOf (us ++ [Value.ref T1]).toArray kk) :: news) → Q (.bool true) { s with heap := h', toks := tk' }) :
    wpAny (model PySem.Challenge.pw_xm0985_01 w) (ktrTop dp un gd cn cs L a ccd cl outer) (call (.ref 337) [.ref q, .int size t1, .int turn t2]) Q E s := by
  refine wpAny_call ?_
  k_dflt cell_enter
  k_steps
  (with_reducible rename News _ _ _ _ => kN9)
  (with_reducible rename Fr _ _ _ _ => kF9)
  simp only [List.push_toArray] at kN9
  refine ret _ _ _ _ _ ?_ kF9 kN9
  refine' lt_same ?l ?e
  case l => assumption
  case e => exact rfl
inductive Rm (d : Addr) (o : Obj) : List (Addr × Obj) → List (Addr × Obj) → Prop
  | head {r} : (∀ p ∈ r, p.1 ≠ d) → Rm d o ((d, o) :: r) r
  | tail {p r r'} : p.1 ≠ d → Rm d o r r' → Rm d o (p :: r) (p :: r')
theorem Rm.mem {d : Addr} {o : Obj} : ∀ {l r : List (Addr × Obj)}, Rm d o l r → (d, o) ∈ l
  | _, _, .head _ => .head _
  | _, _, .tail _ h => .tail _ h.mem
theorem Rm.sub {d : Addr} {o : Obj} : ∀ {l r : List (Addr × Obj)}, Rm d o l r → ∀ z ∈ r, z ∈ l
  | _, _, .head _, z, hz => .tail _ hz
  | _, _, .tail _ h, z, hz => by
    rcases List.mem_cons.mp hz with rfl | hz
    · exact .head _
    · exact .tail _ (h.sub z hz)
theorem Rm.off {d : Addr} {o : Obj} : ∀ {l r : List (Addr × Obj)}, Rm d o l r → ∀ z ∈ r, z.1 ≠ d
  | _, _, .head h, z, hz => h z hz
  | _, _, .tail n h, z, hz => by
    rcases List.mem_cons.mp hz with rfl | hz
    · exact n
    · exact h.off z hz
theorem mem3' {h₀ h : Heap} {L : Addr} {a b c : Addr × Obj} {news r1 r2 : List (Addr × Obj)} {d th : Addr} {D O : Obj} (N : News h₀ L h news) (ha : a ∈ news) (U1 : Rm d D news r1) (U2 : Rm th O r1 r2) (hb : b = (d, D)) (hc : c = (th, O)) : News h₀ L h (a :: b :: c :: r2) := fun z hz => by
  rcases List.mem_cons.mp hz with rfl | hz
  · exact N _ ha
  · rcases List.mem_cons.mp hz with rfl | hz
    · exact N _ (hb ▸ U1.mem)
    · rcases List.mem_cons.mp hz with rfl | hz
      · exact N _ (hc ▸ U1.sub _ U2.mem)
      · exact N _ (U1.sub _ (U2.sub _ hz))
theorem put_no_at {w : World} {p : Program} {loose : List Str} {mean : ExcName → Option Value} {mg mb : Str → Option Value}
    {dp un : Nat} {gd : Option (List Code)} {cn : Str} {cs : Scope} {a : Addr} {ccd : Value} {cl : List (Str × Addr)} {outer : List Env} {A₀ : Around} {base h₀ : Heap} {L : Addr} {m : Str → Option Value} {s : Shared} {Q E : Value → Shared → Prop}
    {news : List (Addr × Obj)} {q d th : Addr} {most room oc dr : Int} {e0 e1 e2 e3 u0 u1 u2 u3 u4 : Tok} {us : List Value} {k : Nat} {r1 r2 : List (Addr × Obj)} {size turn : Int} {t1 t2 : Tok}
    (B : Below A₀ base outer h₀) (F : Fr h₀ L s.heap m) (X : (Mine.K w.params).In h₀) (N : News h₀ L s.heap news) (T : Top p loose mean mg mb h₀) (hk : cs.kind = .function)
    (mq : (q, instObj 361 d) ∈ news) (U1 : Rm d (dictOf [⟨PyData.keyHash w.params (Str.ofString "most"), .str (Str.ofString "most") u0, .int most e0⟩, ⟨PyData.keyHash w.params (Str.ofString "most_octets"), .str (Str.ofString "most_octets") u1, .int room e1⟩, ⟨PyData.keyHash w.params (Str.ofString "things"), .str (Str.ofString "things") u2, .ref th⟩, ⟨PyData.keyHash w.params (Str.ofString "octets"), .str (Str.ofString "octets") u3, .int oc e2⟩, ⟨PyData.keyHash w.params (Str.ofString "dropped"), .str (Str.ofString "dropped") u4, .int dr e3⟩] 5) news r1) (U2 : Rm th (listOf (us).toArray k) r1 r2) (nqd : @Ne Nat q d) (ntd : @Ne Nat th d) (nqt : @Ne Nat q th) (hl : us.length ≤ 1000) (hno : ¬ ((us.length : Int) < most ∧ oc + size ≤ room)) (hd : dp + 1 < recursionLimit) (hu : un + 80 < cLine)
    (ret : ∀ (t u : Tok) (h' : Heap) (tk' : Nat), Fr h₀ L h' m → News h₀ L h' ((d, dictOf [⟨PyData.keyHash w.params (Str.ofString "most"), .str (Str.ofString "most") u0, .int most e0⟩, ⟨PyData.keyHash w.params (Str.ofString "most_octets"), .str (Str.ofString "most_octets") u1, .int room e1⟩, ⟨PyData.keyHash w.params (Str.ofString "things"), .str (Str.ofString "things") u2, .ref th⟩, ⟨PyData.keyHash w.params (Str.ofString "octets"), .str (Str.ofString "octets") u3, .int oc e2⟩, ⟨PyData.keyHash w.params (Str.ofString "dropped"), .str (Str.ofString "dropped") u4, .int (dr + 1) t⟩] 5) :: (th, listOf us.toArray k) :: r2) → Q (.bool false) { s with heap := h', toks := tk' }) :
    wpAny (model PySem.Challenge.pw_xm0985_01 w) (ktrTop dp un gd cn cs L a ccd cl outer) (call (.ref 337) [.ref q, .int size t1, .int turn t2]) Q E s := by
  exact put_no (news := r2) (us := us) B F X (mem3' N mq U1 U2 rfl rfl) T hk nqd ntd nqt (fun z hz => U1.off z (U2.sub z hz)) U2.off hl hno hd hu fun t u h' tk' F' N' => ret t u h' tk' F' fun z hz => N' z (.tail _ hz)
theorem put_yes_at {w : World} {p : Program} {loose : List Str} {mean : ExcName → Option Value} {mg mb : Str → Option Value}
    {dp un : Nat} {gd : Option (List Code)} {cn : Str} {cs : Scope} {a : Addr} {ccd : Value} {cl : List (Str × Addr)} {outer : List Env} {A₀ : Around} {base h₀ : Heap} {L : Addr} {m : Str → Option Value} {s : Shared} {Q E : Value → Shared → Prop}
    {news : List (Addr × Obj)} {q d th : Addr} {most room oc dr : Int} {e0 e1 e2 e3 u0 u1 u2 u3 u4 : Tok} {us : List Value} {k : Nat} {r1 r2 : List (Addr × Obj)} {oT oD : Obj} {size turn : Int} {t1 t2 : Tok}
    (B : Below A₀ base outer h₀) (F : Fr h₀ L s.heap m) (X : (Mine.K w.params).In h₀) (N : News h₀ L s.heap news) (T : Top p loose mean mg mb h₀) (hk : cs.kind = .function)
    (mq : (q, instObj 361 d) ∈ news) (U1 : Rm d (dictOf [⟨PyData.keyHash w.params (Str.ofString "most"), .str (Str.ofString "most") u0, .int most e0⟩, ⟨PyData.keyHash w.params (Str.ofString "most_octets"), .str (Str.ofString "most_octets") u1, .int room e1⟩, ⟨PyData.keyHash w.params (Str.ofString "things"), .str (Str.ofString "things") u2, .ref th⟩, ⟨PyData.keyHash w.params (Str.ofString "octets"), .str (Str.ofString "octets") u3, .int oc e2⟩, ⟨PyData.keyHash w.params (Str.ofString "dropped"), .str (Str.ofString "dropped") u4, .int dr e3⟩] 5) news r1) (U2 : Rm th (listOf (us).toArray k) r1 r2) (nqd : @Ne Nat q d) (ntd : @Ne Nat th d) (nqt : @Ne Nat q th) (hl : us.length ≤ 1000) (hy1 : (us.length : Int) < most) (hy2 : oc + size ≤ room) (hd : dp + 1 < recursionLimit) (hu : un + 80 < cLine)
    (ret : ∀ (T1 : Addr) (t : Tok) (h' : Heap) (tk' kk : Nat), (∀ z ∈ (d, oD) :: (th, oT) :: r2, z.1 < T1) → Fr h₀ L h' m → News h₀ L h' ((T1, tupO #[.int size t1, .int turn t2] 0) :: (d, dictOf [⟨PyData.keyHash w.params (Str.ofString "most"), .str (Str.ofString "most") u0, .int most e0⟩, ⟨PyData.keyHash w.params (Str.ofString "most_octets"), .str (Str.ofString "most_octets") u1, .int room e1⟩, ⟨PyData.keyHash w.params (Str.ofString "things"), .str (Str.ofString "things") u2, .ref th⟩, ⟨PyData.keyHash w.params (Str.ofString "octets"), .str (Str.ofString "octets") u3, .int (oc + size) t⟩, ⟨PyData.keyHash w.params (Str.ofString "dropped"), .str (Str.ofString "dropped") u4, .int dr e3⟩] 5) :: (th, listOf (us ++ [Value.ref T1]).toArray kk) :: r2) → Q (.bool true) { s with heap := h', toks := tk' }) :
    wpAny (model PySem.Challenge.pw_xm0985_01 w) (ktrTop dp un gd cn cs L a ccd cl outer) (call (.ref 337) [.ref q, .int size t1, .int turn t2]) Q E s := by
  refine put_yes (news := r2) (us := us) (oS := default) (oD := oD) (oT := oT) B F X (mem3' N mq U1 U2 rfl rfl) T hk nqd ntd nqt (fun z hz => U1.off z (U2.sub z hz)) U2.off hl hy1 hy2 hd hu fun T1 t h' tk' kk lt F' N' => ret T1 t h' tk' kk (fun z hz => lt z (.tail _ hz)) F' fun z hz => N' z ?_
  rcases List.mem_cons.mp hz with rfl | hz
  · exact .head _
  · exact .tail _ (.tail _ hz)
theorem qtake_at {w : World} {p : Program} {loose : List Str} {mean : ExcName → Option Value} {mg mb : Str → Option Value}
    {dp un : Nat} {gd : Option (List Code)} {cn : Str} {cs : Scope} {a : Addr} {ccd : Value} {cl : List (Str × Addr)} {outer : List Env} {A₀ : Around} {base h₀ : Heap} {L : Addr} {m : Str → Option Value} {s : Shared} {Q E : Value → Shared → Prop}
    {news : List (Addr × Obj)} {q d th : Addr} {most room oc dr : Int} {e0 e1 e2 e3 u0 u1 u2 u3 u4 : Tok} {us : List Value} {k : Nat} {r1 r2 : List (Addr × Obj)} {T1 : Addr} {a1 b1 : Int} {t1 t2 : Tok} {kk : Nat}
    (B : Below A₀ base outer h₀) (F : Fr h₀ L s.heap m) (X : (Mine.K w.params).In h₀) (N : News h₀ L s.heap news) (T : Top p loose mean mg mb h₀) (hk : cs.kind = .function)
    (mq : (q, instObj 361 d) ∈ news) (U1 : Rm d (dictOf [⟨PyData.keyHash w.params (Str.ofString "most"), .str (Str.ofString "most") u0, .int most e0⟩, ⟨PyData.keyHash w.params (Str.ofString "most_octets"), .str (Str.ofString "most_octets") u1, .int room e1⟩, ⟨PyData.keyHash w.params (Str.ofString "things"), .str (Str.ofString "things") u2, .ref th⟩, ⟨PyData.keyHash w.params (Str.ofString "octets"), .str (Str.ofString "octets") u3, .int oc e2⟩, ⟨PyData.keyHash w.params (Str.ofString "dropped"), .str (Str.ofString "dropped") u4, .int dr e3⟩] 5) news r1) (U2 : Rm th (listOf (.ref T1 :: us).toArray k) r1 r2) (nqd : @Ne Nat q d) (ntd : @Ne Nat th d) (nqt : @Ne Nat q th) (hl : us.length ≤ 1000) (mt : (T1, tupO #[.int a1 t1, .int b1 t2] kk) ∈ news) (n1d : @Ne Nat T1 d) (n1t : @Ne Nat T1 th) (hd : dp + 1 < recursionLimit) (hu : un + 80 < cLine)
    (ret : ∀ (t : Tok) (h' : Heap) (tk' : Nat), Fr h₀ L h' m → News h₀ L h' ((d, dictOf [⟨PyData.keyHash w.params (Str.ofString "most"), .str (Str.ofString "most") u0, .int most e0⟩, ⟨PyData.keyHash w.params (Str.ofString "most_octets"), .str (Str.ofString "most_octets") u1, .int room e1⟩, ⟨PyData.keyHash w.params (Str.ofString "things"), .str (Str.ofString "things") u2, .ref th⟩, ⟨PyData.keyHash w.params (Str.ofString "octets"), .str (Str.ofString "octets") u3, .int (oc - a1) t⟩, ⟨PyData.keyHash w.params (Str.ofString "dropped"), .str (Str.ofString "dropped") u4, .int dr e3⟩] 5) :: (th, listOf us.toArray (k + 1)) :: r2) → Q (.ref T1) { s with heap := h', toks := tk' }) :
    wpAny (model PySem.Challenge.pw_xm0985_01 w) (ktrTop dp un gd cn cs L a ccd cl outer) (call (.ref 358) [.ref q]) Q E s := by
  refine take_sp (news := r2) (us := us) (most := most) (room := room) (oc := oc) (dr := dr) (e0 := e0) (e1 := e1) (e2 := e2) (e3 := e3) (u0 := u0) (u1 := u1) (u2 := u2) (u3 := u3) (u4 := u4) (k := k) (kk := kk) (a1 := a1) (b1 := b1) (t1 := t1) (t2 := t2) B F X (fun z hz => ?_) T hk nqd ntd nqt n1d n1t (fun z hz => U1.off z (U2.sub z hz)) U2.off hl hd hu fun t h' tk' F' N' => ret t h' tk' F' fun z hz => N' z ?_
  · have N2 := mem3' N mq U1 U2 rfl rfl
    simp only [List.mem_cons] at hz
    rcases hz with h | h | h | h | h
    · exact N2 z (by simp [h])
    · exact N2 z (by simp [h])
    · exact N2 z (by simp [h])
    · exact h ▸ N _ mt
    · exact N2 z (by simp [h])
  · simp only [List.mem_cons] at hz ⊢
    rcases hz with h | h | h <;> simp [h]
theorem head_at {w : World} {p : Program} {loose : List Str} {mean : ExcName → Option Value} {mg mb : Str → Option Value}
    {dp un : Nat} {gd : Option (List Code)} {cn : Str} {cs : Scope} {a : Addr} {ccd : Value} {cl : List (Str × Addr)} {outer : List Env} {A₀ : Around} {base h₀ : Heap} {L : Addr} {m : Str → Option Value} {s : Shared} {Q E : Value → Shared → Prop}
    {news : List (Addr × Obj)} {q d th : Addr} {most room oc dr : Int} {e0 e1 e2 e3 u0 u1 u2 u3 u4 : Tok} {us : List Value} {k : Nat} {T1 : Addr} {a1 b1 : Int} {t1 t2 : Tok} {kk : Nat} 
    (B : Below A₀ base outer h₀) (F : Fr h₀ L s.heap m) (X : (Mine.K w.params).In h₀) (N : News h₀ L s.heap news) (T : Top p loose mean mg mb h₀) (hk : cs.kind = .function)
    (mq : (q, instObj 361 d) ∈ news) (md : (d, dictOf [⟨PyData.keyHash w.params (Str.ofString "most"), .str (Str.ofString "most") u0, .int most e0⟩, ⟨PyData.keyHash w.params (Str.ofString "most_octets"), .str (Str.ofString "most_octets") u1, .int room e1⟩, ⟨PyData.keyHash w.params (Str.ofString "things"), .str (Str.ofString "things") u2, .ref th⟩, ⟨PyData.keyHash w.params (Str.ofString "octets"), .str (Str.ofString "octets") u3, .int oc e2⟩, ⟨PyData.keyHash w.params (Str.ofString "dropped"), .str (Str.ofString "dropped") u4, .int dr e3⟩] 5) ∈ news) (mt : (th, listOf (.ref T1 :: us).toArray k) ∈ news) (hl : us.length ≤ 1000) (mT : (T1, tupO #[.int a1 t1, .int b1 t2] kk) ∈ news) (hd : dp + 1 < recursionLimit) (hu : un + 80 < cLine)
    (ret : ∀ (t : Tok) (h' : Heap) (tk' : Nat), Fr h₀ L h' m → News h₀ L h' news → Q (.int a1 t1) { s with heap := h', toks := tk' }) :
    wpAny (model PySem.Challenge.pw_xm0985_01 w) (ktrTop dp un gd cn cs L a ccd cl outer) (call (.ref 351) [.ref q]) Q E s := by
  refine head_sp (T1 := T1) (news := news) (d := d) (th := th) (us := us) (most := most) (room := room) (oc := oc) (dr := dr) (e0 := e0) (e1 := e1) (e2 := e2) (e3 := e3) (u0 := u0) (u1 := u1) (u2 := u2) (u3 := u3) (u4 := u4) (k := k) (kk := kk) (a1 := a1) (b1 := b1) (t1 := t1) (t2 := t2) B F X (fun z hz => ?_) T hk hl hd hu fun t h' tk' F' N' => ret t h' tk' F' fun z hz => N' z (.tail _ (.tail _ (.tail _ (.tail _ hz))))
  simp only [List.mem_cons] at hz
  rcases hz with h | h | h | h | h
  · exact h ▸ N _ mq
  · exact h ▸ N _ md
  · exact h ▸ N _ mt
  · exact h ▸ N _ mT
  · exact N z h
end
section
theorem wd_50 : True := by
  k_with_none
  k_with "eval Call" => (k_here; k_fold)
  k_with "eval BinOp" => (k_here; k_fold)
  k_with "eval Compare" => (k_here; k_fold)
  k_with "isTrue Compare" => (k_here; k_fold)
  k_with "isTrue Call" => (k_here; k_fold)
  k_with "eval BoolOp" => (k_here; k_fold)
  k_with "isTrue BoolOp" => (k_here; k_fold)
  k_with "isTrue" => (k_here; k_fold)
  k_with "eval Attribute" => (k_here; k_fold)
  k_with "eval Tuple" => (k_here; k_fold)
  k_with "eval List" => (k_here; k_fold)
  k_with "eval Subscript" => (k_here; k_fold)
  k_with "eval IfExp" => (k_here; k_fold)
  k_with "execs cons" => (k_here; with_reducible refine gen_tk ?_; intro tk; (try dsimp only))
  k_with "eval Call" => (k_here; with_reducible refine gen_tk ?_; intro tk; (try dsimp only))
  k_with "setAttr ref" => (k_here; with_reducible refine gen_tk ?_; intro tk; (try dsimp only))
  k_with "newList" => (k_here; with_reducible refine gen_tk ?_; intro tk; (try dsimp only))
  k_with "eval BinOp" => (k_here; with_reducible refine gen_tk ?_; intro tk; (try dsimp only))
  k_with "eval Subscript" => (k_here; with_reducible refine gen_tk ?_; intro tk; (try dsimp only))
  k_with "k_all" => (first | assumption | exact all_ne (by with_reducible assumption) (by (intro q9 hq9; repeat (first | exact hq9 | refine List.Mem.tail _ ?_))))
  k_with "subscriptTail Name Constant ref int" => ((k_here; k_dflt (refine' my_item ?k1 ?k2 ?k3 ?k4 ?k5 ?_ ?k7; (case k1 => k_asm); (case k2 => k_mem); (case k3 => decide); (case k4 => decide); (case k5 => exact rfl); (case k7 => with_unfolding_all rfl); k_whole)))
  k_with "call ref" => ((k_here; (with_reducible show wpAny _ _ (call (Value.ref 386) [Value.ref _, Value.int _ _]) _ _ _); k_dflt (refine' wind_at ?kB ?kF ?kX ?kN ?kT ?kK ?kU ?kx ?ky ?kz ?kt ?ku ?kd ?ke ?_; (case kB => k_asm); (case kF => k_asm); (case kX => k_asm); (case kN => k_asm); (case kT => k_asm); (case kK => first | exact rfl | assumption); (case kU => k_updF); (case kx => assumption); (case ky => assumption); (case kz => assumption); (case kt => omega); (case ku => omega); (case kd => ktr_room); (case ke => ktr_units)); intro d' x' y' td' tx' ty' h' tk' hd0 hd1 hx' hy' hz' F' N'; (try dsimp only at N'); (try dsimp only); (try k_sweep); walk_say "WIND"; (try k_extra "wind")))
  k_with "k_room" => (ktr_room)
  k_with "k_units" => (ktr_units)
  k_with "ktr_rel" => ((intro q9 hq9; repeat (first | exact hq9 | refine List.Mem.tail _ ?_)))
  k_with "binaryOp Pow int int" => ((k_here; (refine' pow_lit ?kb1 ?kb2 ?kb3 ?_); (case kb1 => decide); (case kb2 => decide); (case kb3 => ((simp only [Int.reduceToNat, Int.reducePow]); exact rfl))))
  k_with "CompSrc" => ((k_here; k_dflt (first | (refine LCg.CompSrc.ledger (by rfl) (by k_asm) (by k_asm) (by k_mem) (by first | size_fits | exact Nat.le_of_ble_eq_true rfl) ?_; intro g'; lcg_lit) | (refine LCg.CompSrc.range (by rfl) (by k_asm) (by k_asm) (by assumption) (by first | decide | rfl) (by first | rfl | decide) (by first | size_fits | exact Nat.le_of_ble_eq_true rfl) ?_; intro g'; lcg_lit))))
  k_with "CompRest" => ((with_unfolding_all first | (refine LCg.CompRest.succ ?_; intro v' I' oI' C' oC' D' m' h' tk' E' hv' hC' hx' F' N' off' ne'; (first | lcg_open hv' | (obtain ⟨t9', hv9'⟩ := hv'; subst hv9')); (obtain ⟨ne1', ne2', ne3'⟩ := ne')) | refine LCg.CompRest.zero ?_))
  k_with "CompEnd" => ((first | (refine' compEnd0 ?kF ?kN ?ko ?kS ?_; (case kN => assumption); (case kF => assumption); (case ko => assumption); (case kS => lcg_src)) | (refine' compEnd2 ?kF ?kN ?kx ?kd ?ko ?kS ?_; (case kN => assumption); (case kF => assumption); (case kx => exact ⟨by k_ne, by k_ne, by k_ne⟩); (case kd => exact ⟨by k_ne, by k_ne, by k_ne⟩); (case ko => assumption); (case kS => lcg_src)) | (refine' compEnd1 ?kF ?kN ?kx ?ko ?kS ?_; (case kN => assumption); (case kF => assumption); (case kx => exact ⟨by k_ne, by k_ne, by k_ne⟩); (case ko => assumption); (case kS => lcg_src)) | lcg_end))
  k_with "k_ne" => ((refine neN ?_; (try dsimp only); first | (with_reducible assumption) | exact Ne.symm (by with_reducible assumption) | exact Nat.ne_of_gt (by with_reducible assumption) | exact Nat.ne_of_lt (by with_reducible assumption) | exact neA (by with_reducible assumption) (by k_mem) | exact Ne.symm (neA (by with_reducible assumption) (by k_mem)) | exact neO (by with_reducible assumption) (by k_mem) | exact Ne.symm (neO (by with_reducible assumption) (by k_mem)) | exact neI (by with_reducible assumption) (by k_mem) | exact Ne.symm (neI (by with_reducible assumption) (by k_mem)) | exact neC (by with_reducible assumption) (by k_mem) | exact Ne.symm (neC (by with_reducible assumption) (by k_mem)) | exact neD (by with_reducible assumption) (by k_mem) | exact Ne.symm (neD (by with_reducible assumption) (by k_mem)) | exact neA2 (by with_reducible assumption) (by with_reducible assumption) (by k_mem) | exact Ne.symm (neA2 (by with_reducible assumption) (by with_reducible assumption) (by k_mem)) | omega))
  k_with "FinE" => (((unfold LCg.FinE); intro D' h' tk' F' N' o1'; (try simp only [List.nil_append, List.cons_append] at N'); (try dsimp only)))
  k_with "FinA" => (((unfold LCg.FinA); intro D' h' tk' F' N' o1'; (try simp only [List.nil_append, List.cons_append] at N'); (try dsimp only)))
  trivial
theorem all_sub {d : Addr} {big small : List (Addr × Obj)} (l : ∀ q ∈ big, q.1 ≠ d) (h : ∀ q ∈ small, q ∈ big) : ∀ q ∈ small, q.1 ≠ d := fun q hq => l q (h q hq)
noncomputable def forBody : Stmt → List Stmt | .For _ _ b _ _ => b | _ => []
noncomputable def qTurn : List Stmt := forBody ((bodyOf (fB (tp 48))).getD 2 default)
noncomputable def qChk : List Stmt := qTurn.drop 2
noncomputable def oZ : Obj := default
inductive QSt (w : World) (most room : Int) (r rw q0 d0 t0 q1 d1 t1 : Addr) (nn : Nat) (hl : Addr) (dr : Int) (qs : List (Int × Int)) : List (Addr × Obj) → Prop
  | mk (x y : Int) (tx ty e0 e1 e2 e3 f0 f1 f2 f3 u0 u1 u2 u3 u4 v0 v1 v2 v3 v4 : Tok) (vs us : List Value) (kh kr k0 k1 : Nat) (TS : List (Addr × Obj)) (hx : 0 ≤ x) (hy : 0 ≤ y) (hz : y < 2147483647) (hv : Tups TS vs qs) (hu : Tups TS us qs)
    (Hr : (∀ z ∈ (hl, oZ) :: (rw, oZ) :: (q0, oZ) :: (d0, oZ) :: (t0, oZ) :: (q1, oZ) :: (d1, oZ) :: (t1, oZ) :: TS, z.1 ≠ r)) (Hd : (∀ z ∈ (hl, oZ) :: (r, oZ) :: (rw, oZ) :: (q0, oZ) :: (d0, oZ) :: (t0, oZ) :: (q1, oZ) :: (t1, oZ) :: TS, z.1 ≠ d1)) (Ht : (∀ z ∈ (hl, oZ) :: (r, oZ) :: (rw, oZ) :: (q0, oZ) :: (d0, oZ) :: (t0, oZ) :: (q1, oZ) :: (d1, oZ) :: TS, z.1 ≠ t1)) : QSt w most room r rw q0 d0 t0 q1 d1 t1 nn hl dr qs ((hl, listOf vs.toArray kh) :: (r, reelO x y tx ty nn) :: (rw, listOf #[.ref q0, .ref q1] kr) :: (q0, instObj 361 d0) :: (d0, dictOf [⟨PyData.keyHash w.params (Str.ofString "most"), .str (Str.ofString "most") v0, .int 2 f0⟩, ⟨PyData.keyHash w.params (Str.ofString "most_octets"), .str (Str.ofString "most_octets") v1, .int 9 f1⟩, ⟨PyData.keyHash w.params (Str.ofString "things"), .str (Str.ofString "things") v2, .ref t0⟩, ⟨PyData.keyHash w.params (Str.ofString "octets"), .str (Str.ofString "octets") v3, .int 0 f2⟩, ⟨PyData.keyHash w.params (Str.ofString "dropped"), .str (Str.ofString "dropped") v4, .int 0 f3⟩] 5) :: (t0, listOf #[] k0) :: (q1, instObj 361 d1) :: (d1, dictOf [⟨PyData.keyHash w.params (Str.ofString "most"), .str (Str.ofString "most") u0, .int most e0⟩, ⟨PyData.keyHash w.params (Str.ofString "most_octets"), .str (Str.ofString "most_octets") u1, .int room e1⟩, ⟨PyData.keyHash w.params (Str.ofString "things"), .str (Str.ofString "things") u2, .ref t1⟩, ⟨PyData.keyHash w.params (Str.ofString "octets"), .str (Str.ofString "octets") u3, .int (List.map Prod.fst qs).sum e2⟩, ⟨PyData.keyHash w.params (Str.ofString "dropped"), .str (Str.ofString "dropped") u4, .int dr e3⟩] 5) :: (t1, listOf us.toArray k1) :: TS)
noncomputable abbrev qM (w1 w2 w3 w4 : Option Value) (hl r rw : Addr) (dr most room : Int) (td tm tr : Tok) : Str → Option Value := fun z => if z = Str.ofString "allowed" then w4 else if z = Str.ofString "has_room" then w3 else if z = Str.ofString "size" then w2 else if z = Str.ofString "turn" then w1 else if z = Str.ofString "dropped" then some (.int dr td) else if z = Str.ofString "held" then some (.ref hl) else if z = Str.ofString "rows" then some (.ref rw) else if z = Str.ofString "room" then some (.int room tr) else if z = Str.ofString "most" then some (.int most tm) else if z = Str.ofString "reel" then some (.ref r) else none
theorem mapQ1 {w1 w2 w3 w4 : Option Value} {hl hl' r rw : Addr} {dr dr' most room : Int} {td tm tr t9 : Tok} {u v : Value} : (fun y : Str => (if y = Str.ofString "held" then some (.ref hl') else if y = Str.ofString "dropped" then some (.int dr' t9) else if y = Str.ofString "has_room" then some u else if y = Str.ofString "size" then some v else if y = Str.ofString "allowed" then w4 else if y = Str.ofString "has_room" then w3 else if y = Str.ofString "size" then w2 else if y = Str.ofString "turn" then w1 else if y = Str.ofString "dropped" then some (.int dr td) else if y = Str.ofString "held" then some (.ref hl) else if y = Str.ofString "rows" then some (.ref rw) else if y = Str.ofString "room" then some (.int room tr) else if y = Str.ofString "most" then some (.int most tm) else if y = Str.ofString "reel" then some (.ref r) else none : Option Value)) = (fun y : Str => (if y = Str.ofString "allowed" then w4 else if y = Str.ofString "has_room" then some u else if y = Str.ofString "size" then some v else if y = Str.ofString "turn" then w1 else if y = Str.ofString "dropped" then some (.int dr' t9) else if y = Str.ofString "held" then some (.ref hl') else if y = Str.ofString "rows" then some (.ref rw) else if y = Str.ofString "room" then some (.int room tr) else if y = Str.ofString "most" then some (.int most tm) else if y = Str.ofString "reel" then some (.ref r) else none : Option Value)) := by
  funext y
  by_cases h0 : y = Str.ofString "allowed"
  · subst h0; simp (decide := true) only [if_true, if_false]
  by_cases h1 : y = Str.ofString "has_room"
  · subst h1; simp (decide := true) only [if_true, if_false]
  by_cases h2 : y = Str.ofString "size"
  · subst h2; simp (decide := true) only [if_true, if_false]
  by_cases h3 : y = Str.ofString "dropped"
  · subst h3; simp (decide := true) only [if_true, if_false]
  by_cases h4 : y = Str.ofString "held"
  · subst h4; simp (decide := true) only [if_true, if_false]
  simp only [if_neg h0, if_neg h1, if_neg h2, if_neg h3, if_neg h4]
theorem mapQ2 {w1 w2 w3 w4 : Option Value} {hl hl' r rw : Addr} {dr dr' most room : Int} {td tm tr t9 : Tok} {u v : Value} : (fun y : Str => (if y = Str.ofString "held" then some (.ref hl') else if y = Str.ofString "size" then some v else if y = Str.ofString "allowed" then w4 else if y = Str.ofString "has_room" then w3 else if y = Str.ofString "size" then w2 else if y = Str.ofString "turn" then w1 else if y = Str.ofString "dropped" then some (.int dr td) else if y = Str.ofString "held" then some (.ref hl) else if y = Str.ofString "rows" then some (.ref rw) else if y = Str.ofString "room" then some (.int room tr) else if y = Str.ofString "most" then some (.int most tm) else if y = Str.ofString "reel" then some (.ref r) else none : Option Value)) = (fun y : Str => (if y = Str.ofString "allowed" then w4 else if y = Str.ofString "has_room" then w3 else if y = Str.ofString "size" then some v else if y = Str.ofString "turn" then w1 else if y = Str.ofString "dropped" then some (.int dr td) else if y = Str.ofString "held" then some (.ref hl') else if y = Str.ofString "rows" then some (.ref rw) else if y = Str.ofString "room" then some (.int room tr) else if y = Str.ofString "most" then some (.int most tm) else if y = Str.ofString "reel" then some (.ref r) else none : Option Value)) := by
  funext y
  by_cases h0 : y = Str.ofString "allowed"
  · subst h0; simp (decide := true) only [if_true, if_false]
  by_cases h1 : y = Str.ofString "has_room"
  · subst h1; simp (decide := true) only [if_true, if_false]
  by_cases h2 : y = Str.ofString "size"
  · subst h2; simp (decide := true) only [if_true, if_false]
  by_cases h3 : y = Str.ofString "turn"
  · subst h3; simp (decide := true) only [if_true, if_false]
  by_cases h4 : y = Str.ofString "dropped"
  · subst h4; simp (decide := true) only [if_true, if_false]
  by_cases h5 : y = Str.ofString "held"
  · subst h5; simp (decide := true) only [if_true, if_false]
  simp only [if_neg h0, if_neg h1, if_neg h2, if_neg h3, if_neg h4, if_neg h5]
theorem mapQ3 {w1 w2 w3 w4 : Option Value} {hl hl' r rw : Addr} {dr dr' most room : Int} {td tm tr t9 : Tok} {u v : Value} : (fun y : Str => (if y = Str.ofString "size" then some v else if y = Str.ofString "allowed" then w4 else if y = Str.ofString "has_room" then w3 else if y = Str.ofString "size" then w2 else if y = Str.ofString "turn" then w1 else if y = Str.ofString "dropped" then some (.int dr td) else if y = Str.ofString "held" then some (.ref hl) else if y = Str.ofString "rows" then some (.ref rw) else if y = Str.ofString "room" then some (.int room tr) else if y = Str.ofString "most" then some (.int most tm) else if y = Str.ofString "reel" then some (.ref r) else none : Option Value)) = (fun y : Str => (if y = Str.ofString "allowed" then w4 else if y = Str.ofString "has_room" then w3 else if y = Str.ofString "size" then some v else if y = Str.ofString "turn" then w1 else if y = Str.ofString "dropped" then some (.int dr td) else if y = Str.ofString "held" then some (.ref hl) else if y = Str.ofString "rows" then some (.ref rw) else if y = Str.ofString "room" then some (.int room tr) else if y = Str.ofString "most" then some (.int most tm) else if y = Str.ofString "reel" then some (.ref r) else none : Option Value)) := by
  funext y
  by_cases h0 : y = Str.ofString "allowed"
  · subst h0; simp (decide := true) only [if_true, if_false]
  by_cases h1 : y = Str.ofString "has_room"
  · subst h1; simp (decide := true) only [if_true, if_false]
  by_cases h2 : y = Str.ofString "size"
  · subst h2; simp (decide := true) only [if_true, if_false]
  simp only [if_neg h0, if_neg h1, if_neg h2]
theorem sum_snoc (qs : List (Int × Int)) (i a : Int) : (List.map Prod.fst (qs ++ [(a, i)])).sum = (List.map Prod.fst qs).sum + a := by simp
theorem sum_tail (qs : List (Int × Int)) (i a : Int) : (List.map Prod.fst ((a, i) :: qs)).sum - a = (List.map Prod.fst qs).sum := by
  simp only [List.map_cons, List.sum_cons]
  omega
theorem QSt.mk' {w : World} {most room dr : Int} {r rw q0 d0 t0 q1 d1 t1 hl : Addr} {nn : Nat} {qs : List (Int × Int)} {x y : Int} {tx ty e0 e1 e2 e3 f0 f1 f2 f3 u0 u1 u2 u3 u4 v0 v1 v2 v3 v4 : Tok} {vs us : List Value} {kh kr k0 k1 : Nat} {TS : List (Addr × Obj)} (hx : 0 ≤ x) (hy : 0 ≤ y) (hz : y < 2147483647) (hv : Tups TS vs qs) (hu : Tups TS us qs)
  (Hr : (∀ z ∈ (hl, oZ) :: (rw, oZ) :: (q0, oZ) :: (d0, oZ) :: (t0, oZ) :: (q1, oZ) :: (d1, oZ) :: (t1, oZ) :: TS, z.1 ≠ r)) (Hd : (∀ z ∈ (hl, oZ) :: (r, oZ) :: (rw, oZ) :: (q0, oZ) :: (d0, oZ) :: (t0, oZ) :: (q1, oZ) :: (t1, oZ) :: TS, z.1 ≠ d1)) (Ht : (∀ z ∈ (hl, oZ) :: (r, oZ) :: (rw, oZ) :: (q0, oZ) :: (d0, oZ) :: (t0, oZ) :: (q1, oZ) :: (d1, oZ) :: TS, z.1 ≠ t1)) : QSt w most room r rw q0 d0 t0 q1 d1 t1 nn hl dr qs ((hl, listOf vs.toArray kh) :: (r, reelO x y tx ty nn) :: (rw, listOf #[.ref q0, .ref q1] kr) :: (q0, instObj 361 d0) :: (d0, dictOf [⟨PyData.keyHash w.params (Str.ofString "most"), .str (Str.ofString "most") v0, .int 2 f0⟩, ⟨PyData.keyHash w.params (Str.ofString "most_octets"), .str (Str.ofString "most_octets") v1, .int 9 f1⟩, ⟨PyData.keyHash w.params (Str.ofString "things"), .str (Str.ofString "things") v2, .ref t0⟩, ⟨PyData.keyHash w.params (Str.ofString "octets"), .str (Str.ofString "octets") v3, .int 0 f2⟩, ⟨PyData.keyHash w.params (Str.ofString "dropped"), .str (Str.ofString "dropped") v4, .int 0 f3⟩] 5) :: (t0, listOf #[] k0) :: (q1, instObj 361 d1) :: (d1, dictOf [⟨PyData.keyHash w.params (Str.ofString "most"), .str (Str.ofString "most") u0, .int most e0⟩, ⟨PyData.keyHash w.params (Str.ofString "most_octets"), .str (Str.ofString "most_octets") u1, .int room e1⟩, ⟨PyData.keyHash w.params (Str.ofString "things"), .str (Str.ofString "things") u2, .ref t1⟩, ⟨PyData.keyHash w.params (Str.ofString "octets"), .str (Str.ofString "octets") u3, .int (List.map Prod.fst qs).sum e2⟩, ⟨PyData.keyHash w.params (Str.ofString "dropped"), .str (Str.ofString "dropped") u4, .int dr e3⟩] 5) :: (t1, listOf us.toArray k1) :: TS) :=
  .mk x y tx ty e0 e1 e2 e3 f0 f1 f2 f3 u0 u1 u2 u3 u4 v0 v1 v2 v3 v4 vs us kh kr k0 k1 TS hx hy hz hv hu Hr Hd Ht
theorem wd_51 : True := by
  k_with "k_mem" => (((repeat (first | exact List.Mem.head _ | refine' List.Mem.tail _ ?_)); first | done | (show (_ : Addr × Obj) ∈ (_ : List (Addr × Obj)); with_reducible assumption)))
  k_with "k_upd" => (first | (refine' Rm.head ?a; (case a => k_all)) | (refine' Rm.tail ?a ?b; (case a => k_ne); (case b => k_upd)) | fail "k_upd")
  k_with "k_all" => (first | assumption | (refine' all_neD ?l ?e; (case l => with_reducible assumption); (case e => exact rfl)) | exact allN_nil | (refine' all_sub ?l ?s; (case l => with_reducible assumption); (case s => (intro q9 hq9; repeat (first | exact hq9 | refine List.Mem.tail _ ?_)))) | (refine allN_cons (by k_ne) ?_; k_all) | fail "k_all")
  k_with "k_ne" => ((refine neN ?_; (try dsimp only); first | exact neQ (by with_reducible assumption) (by k_mem) | exact Ne.symm (neQ (by with_reducible assumption) (by k_mem)) | fail "k_ne"))
  k_with "SrcLP" => ((k_here; k_dflt (refine' LCp.SrcLP.ledger ?a ?b ?c ?d ?e ?_; (case a => rfl); (case b => k_asm); (case c => k_asm); (case d => k_mem); (case e => (simp only [List.size_toArray]; exact Nat.le_trans (by assumption) (by decide))); intro g9; refine' compP_all ?ht ?hS rfl rfl (by decide) ?_; (case ht => (refine' Tups.mono ?b ?a; (case a => assumption); (case b => (intro q9 hq9; repeat (first | exact hq9 | refine List.Mem.tail _ ?_))))); (case hS => lcg_src); intro ys9 hI9)))
  k_with "compareOp Lt int int" => ((k_here; (with_reducible show wpAny _ _ (compareOp CmpOp.Lt (Value.int _ _) (Value.int _ _)) _ _ _); refine lt_cases ?_ ?_ <;> intro h9))
  k_with "compareOp LtE int int" => ((k_here; (with_reducible show wpAny _ _ (compareOp CmpOp.LtE (Value.int _ _) (Value.int _ _)) _ _ _); refine le_cases ?_ ?_ <;> intro h9))
  k_with "compareOp NotEq ref ref" => ((k_here; (with_reducible show wpAny _ _ (compareOp CmpOp.NotEq (Value.ref _) (Value.ref _)) _ _ _); k_dflt (refine' ne_tup2 ?k1 ?k2 ?k3 ?k4 ?_; (case k1 => k_asm); (case k2 => k_mem); (case k3 => k_mem); (case k4 => ke_room))))
  k_with "compareOp NotEq ref ref" => ((k_here; (with_reducible show wpAny _ _ (compareOp CmpOp.NotEq (Value.ref _) (Value.ref _)) _ _ _); k_dflt (refine' ne_tups_cases (us := us) ?k1 ?k2 ?k3 ?k4 ?k7 ?k6 ?k5 ?h1 ?h2; (case k1 => k_asm); (case k2 => k_mem); (case k3 => k_mem); (case k4 => exact hv); (case k7 => exact hu); (case k6 => (intro q9 hq9; repeat (first | exact hq9 | refine List.Mem.tail _ ?_))); (case k5 => ke_room); (case' h1 => (intro e1 e2 e3; subst e1; subst e2; subst e3)); (case' h2 => (intro T9 T8 x9 y9 tx9 ty9 ux9 uy9 kk9 k29 vs9 us9 qs9 e1 e2 e3 m1 m2 tt1 tt2; subst e1; subst e2; subst e3; (have hv2 : vs9.length ≤ 1000 := Nat.le_of_succ_le hv1); (have hu2 : us9.length ≤ 1000 := Nat.le_of_succ_le hu1))))))
  k_with "call builtin:len" => ((k_here; (with_reducible show wpAny _ _ (call (Value.builtin "len") [Value.ref _]) _ _ _); k_dflt (refine' my_len ?k1 ?k2 ?k3 ?_; (case k1 => k_asm); (case k2 => k_mem); (case k3 => omega)); intro t'))
  k_with "subscriptTail Name Slice ref ref" => ((k_here; (with_reducible show wpAny _ _ (subscriptTail _ (PySem.Expr.Slice _ _ none _) (Value.ref _) (Value.ref _)) _ _ _); k_dflt (refine' my_slice1 ?kF ?kN ?kl ?kp ?kq ?kz ?_ ?ks ?kt; (case kF => k_asm); (case kN => k_asm); (case kl => k_mem); (case kp => kmk_part); (case kq => kmk_part); (case kz => assumption); (case ks => with_unfolding_all rfl); (case kt => kmk_pure)); intro D' h' F' N' l1; (try k_lt l1); (try dsimp only); (try k_sweep)))
  k_with "binaryOp Add ref ref" => ((k_here; (with_reducible show wpAny _ _ (binaryOp _ (Value.ref _) (Value.ref _)) _ _ _); k_dflt (refine' my_add ?kF ?kN ?ka ?kb ?kz ?ky ?_; (case kF => k_asm); (case kN => k_asm); (case ka => k_mem); (case kb => k_mem); (case kz => assumption); (case ky => exact Nat.le_of_ble_eq_true rfl)); intro D' h' F' N' l1; (try k_lt l1); (try dsimp only); (try k_sweep)))
  k_with "execs cons" => ((k_here; (with_reducible show wpAny _ _ (execs [Stmt.If _ _ _ _, Stmt.If _ _ _ _, Stmt.For _ _ _ _ _] _) _ _ _); refine held ?_))
  k_with "binaryOp Mult ref int" => ((k_here; (with_reducible show wpAny _ _ (binaryOp _ (Value.ref _) (Value.int 1 _)) _ _ _); (refine' my_mul1 ?kF ?kN ?ka ?_; (case kF => k_asm); (case kN => k_asm); (case ka => k_mem)); intro D' h' F' N' l1; (try k_lt l1); (try dsimp only); (try k_sweep)))
  k_with "binaryOp Mult ref int" => ((k_here; (with_reducible show wpAny _ _ (binaryOp _ (Value.ref _) (Value.int 0 _)) _ _ _); (refine' my_mul0 ?kF ?kN ?ka ?_; (case kF => k_asm); (case kN => k_asm); (case ka => k_mem)); intro D' h' F' N' l1; (try k_lt l1); (try dsimp only); (try k_sweep)))
  k_with "binaryOp Mult ref int" => ((k_here; (with_reducible show wpAny _ _ (binaryOp _ (Value.ref _) (Value.int (if _ = _ then _ else _) _)) _ _ _); simp only [reduceIte, Bool.false_eq_true]))
  k_with "subscriptTail Subscript" => ((k_here; (with_reducible show wpAny _ _ (subscriptTail _ _ (Value.ref _) (Value.int 0 _)) _ _ _); k_dflt (refine' tup_item0 ?k1 ?k2 ?_; (case k1 => k_asm); (case k2 => k_mem))))
  k_with "compareOp NotEq int int" => ((k_here; with_reducible refine ne_same ?_))
  k_with "call builtin:sum" => ((k_here; (with_reducible show wpAny _ _ (call (Value.builtin "sum") [Value.ref _]) _ _ _); (with_unfolding_all refine' sumK ?k0 ?k1 ?k2 ?k3 ?k4 ?_; (case k0 => with_unfolding_all rfl); (case k1 => k_asm); (case k2 => k_asm); (case k3 => exact News.isList (by k_asm) (by k_mem)); (case k4 => with_reducible assumption); k_whole); intro h' tk' t' F' N'))
  k_with "call ref" => ((k_here; (with_reducible show wpAny _ _ (call (Value.ref 337) [Value.ref _, Value.int _ _, Value.int _ _]) _ _ _); k_dflt (refine' put_no_at ?kB ?kF ?kX ?kN ?kT ?kK ?mq ?kU1 ?kU2 ?n1 ?n2 ?n3 ?kl ?hno ?kd ?ke ?_; (case kB => k_asm); (case kF => k_asm); (case kX => k_asm); (case kN => k_asm); (case kT => k_asm); (case kK => first | exact rfl | assumption); (case mq => k_mem); (case kU1 => k_upd); (case kU2 => k_upd); (case n1 => k_ne); (case n2 => k_ne); (case n3 => k_ne); (case kl => assumption); (case hno => omega); (case kd => ktr_room); (case ke => ktr_units)); intro t' u' h' tk' F' N'; (try dsimp only at N'); (try dsimp only); (try k_sweep); walk_say "put_no_at"))
  k_with "call ref" => ((k_here; (with_reducible show wpAny _ _ (call (Value.ref 337) [Value.ref _, Value.int _ _, Value.int _ _]) _ _ _); (have hy8 : (_ : Int) ≤ room := h9); k_dflt (refine' put_yes_at (oT := oZ) (oD := oZ) ?kB ?kF ?kX ?kN ?kT ?kK ?mq ?kU1 ?kU2 ?n1 ?n2 ?n3 ?kl ?hy1 ?hy2 ?kd ?ke ?_; (case kB => k_asm); (case kF => k_asm); (case kX => k_asm); (case kN => k_asm); (case kT => k_asm); (case kK => first | exact rfl | assumption); (case mq => k_mem); (case kU1 => k_upd); (case kU2 => k_upd); (case n1 => k_ne); (case n2 => k_ne); (case n3 => k_ne); (case kl => assumption); (case hy1 => omega); (case hy2 => omega); (case kd => ktr_room); (case ke => ktr_units)); intro T' t' h' tk' kk' l1 F' N'; (try dsimp only at N'); (try dsimp only); (try k_sweep); walk_say "put_yes_at (oT := oZ) (oD := oZ)"))
  k_with "call ref" => ((k_here; (with_reducible show wpAny _ _ (call (Value.ref 351) _) _ _ _); k_dflt (refine' head_at ?kB ?kF ?kX ?kN ?kT ?kK ?mq ?md ?mt ?kl ?mT ?kd ?ke ?_; (case kB => k_asm); (case kF => k_asm); (case kX => k_asm); (case kN => k_asm); (case kT => k_asm); (case kK => first | exact rfl | assumption); (case mq => k_mem); (case md => k_mem); (case mt => k_mem); (case kl => assumption); (case mT => k_mem); (case kd => ktr_room); (case ke => ktr_units)); intro t' h' tk' F' N'; (try dsimp only at N'); (try dsimp only); (try k_sweep); walk_say "head_at"))
  k_with "call ref" => ((k_here; (with_reducible show wpAny _ _ (call (Value.ref 358) _) _ _ _); k_dflt (refine' qtake_at ?kB ?kF ?kX ?kN ?kT ?kK ?mq ?kU1 ?kU2 ?n1 ?n2 ?n3 ?kl ?mT ?m1 ?m2 ?kd ?ke ?_; (case kB => k_asm); (case kF => k_asm); (case kX => k_asm); (case kN => k_asm); (case kT => k_asm); (case kK => first | exact rfl | assumption); (case mq => k_mem); (case kU1 => k_upd); (case kU2 => k_upd); (case n1 => k_ne); (case n2 => k_ne); (case n3 => k_ne); (case kl => assumption); (case mT => k_mem); (case m1 => k_ne); (case m2 => k_ne); (case kd => ktr_room); (case ke => ktr_units)); intro t' h' tk' F' N'; (try dsimp only at N'); (try dsimp only); (try k_sweep); walk_say "qtake_at"))
  trivial
set_option maxHeartbeats 4000000 in
theorem q_step {w : World} {p : Program} {loose : List Str} {mean : ExcName → Option Value} {mg mb : Str → Option Value}
    {dp un : Nat} {gd : Option (List Code)} {cn : Str} {cs : Scope} {a : Addr} {ccd : Value} {cl : List (Str × Addr)} {outer : List Env} {base h₀ : Heap} {L₀ L : Addr} {s : Shared} {Q : Flow → Shared → Prop} {E : Value → Shared → Prop}
    {r rw q0 d0 t0 q1 d1 t1 I hl : Addr} {oI : Obj} {most room dr i : Int} {nn : Nat} {qs : List (Int × Int)} {led : List (Addr × Obj)} {w2 w3 w4 : Option Value} {td tm tr ti : Tok}
    (B : Below (ktrTop dp un gd cn cs L₀ a ccd cl outer) base (envX cn cs L₀ a ccd cl :: outer) h₀) (X : (Mine.K w.params).In h₀) (T : Top p loose mean mg mb h₀)
    (F : Fr h₀ L s.heap (qM (some (.int i ti)) w2 w3 w4 hl r rw dr most room td tm tr)) (N : News h₀ L s.heap ((I, oI) :: led)) (hQ : QSt w most room r rw q0 d0 t0 q1 d1 t1 nn hl dr qs led) (hI : ∀ z ∈ led, z.1 ≠ I) (hq : qs.length ≤ 900) (hd : dp + 8 < recursionLimit) (hun : un + (64 + 8 * 8) < cLine)
    (k : ∀ (hl' : Addr) (dr' : Int) (td' : Tok) (qs' : List (Int × Int)) (led' : List (Addr × Obj)) (w2' w3' : Option Value) (h' : Heap) (tk' : Nat), QSt w most room r rw q0 d0 t0 q1 d1 t1 nn hl' dr' qs' led' → (∀ z ∈ led', z.1 ≠ I) → qs'.length ≤ qs.length + 1 → Fr h₀ L h' (qM (some (.int i ti)) w2' w3' w4 hl' r rw dr' most room td' tm tr) → News h₀ L h' ((I, oI) :: led') → wpAny (model PySem.Challenge.pw_xm0985_01 w) ((ktrTop dp un gd cn cs L₀ a ccd cl outer).deeper (envOf (Str.ofString "_law_queue_right") (fS (tp 48)) L 448 (.ref 447))) (execs qChk (envOf (Str.ofString "_law_queue_right") (fS (tp 48)) L 448 (.ref 447))) Q E { s with heap := h', toks := tk' }) :
    wpAny (model PySem.Challenge.pw_xm0985_01 w) ((ktrTop dp un gd cn cs L₀ a ccd cl outer).deeper (envOf (Str.ofString "_law_queue_right") (fS (tp 48)) L 448 (.ref 447))) (execs qTurn (envOf (Str.ofString "_law_queue_right") (fS (tp 48)) L 448 (.ref 447))) Q E s := by
  obtain ⟨x, y, tx, ty, e0, e1, e2, e3, f0, f1, f2, f3, u0, u1, u2, u3, u4, v0, v1, v2, v3, v4, vs, us, kh, kr, k0, k1, TS, hx, hy, hz, hv, hu, Hr, Hd, Ht⟩ := hQ
  have hvl : vs.length = qs.length := hv.length
  have hul : us.length = qs.length := hu.length
  have hv1 : vs.length ≤ 1000 := by omega
  have hu1 : us.length ≤ 1000 := by omega
  unfold qM at F
  k_steps
  all_goals (unfold Held)
  all_goals (with_reducible rename News _ _ _ _ => kN9)
  all_goals (with_reducible rename Fr _ _ _ _ => kF9)
  · simp only [Bool.not_true, Bool.not_false, Bool.false_eq_true, reduceIte, Int.add_zero] at kF9
    rw [← sum_snoc qs i] at kN9
    refine' k _ _ _ (qs ++ [(_, i)]) _ _ _ _ _ (QSt.mk' (vs := vs ++ [.ref _]) (us := us ++ [.ref _]) (TS := (_, tupO #[.int _ _, .int i _] 0) :: (T', tupO #[.int _ _, .int i _] 0) :: TS) ?gx ?gy ?gz ?gv ?gu ?gr ?gd ?gt) ?gI ?gl (Eq.mp (congrArg (Fr _ _ _) mapQ1) kF9) ?gN
    case gN => k_dflt (refine' news_sub kN9 ?gs; (case gs => ((repeat (refine sub_cons (by k_mem) ?_)); (intro q9 hq9; repeat (first | exact hq9 | refine List.Mem.tail _ ?_)))))
    case gx => assumption
    case gy => assumption
    case gz => assumption
    case gv => exact Tups.snoc (.head _) (hv.mono fun q h => .tail _ (.tail _ h))
    case gu => exact Tups.snoc (.tail _ (.head _)) (hu.mono fun q h => .tail _ (.tail _ h))
    case gl => simp
    case gr => k_all
    case gd => k_all
    case gt => k_all
    case gI => k_all
  · simp only [Bool.not_true, Bool.not_false, Bool.false_eq_true, reduceIte, Int.add_zero] at kF9
    simp only [List.append_nil] at kN9
    refine' k _ _ _ qs _ _ _ _ _ (QSt.mk' (vs := vs) (us := us) (TS := TS) ?gx ?gy ?gz ?gv ?gu ?gr ?gd ?gt) ?gI ?gl (Eq.mp (congrArg (Fr _ _ _) mapQ1) kF9) ?gN
    case gN => k_dflt (refine' news_sub kN9 ?gs; (case gs => ((repeat (refine sub_cons (by k_mem) ?_)); (intro q9 hq9; repeat (first | exact hq9 | refine List.Mem.tail _ ?_)))))
    case gx => assumption
    case gy => assumption
    case gz => assumption
    case gv => exact hv
    case gu => exact hu
    case gl => omega
    case gr => k_all
    case gd => k_all
    case gt => k_all
    case gI => k_all
  · simp only [Bool.not_true, Bool.not_false, Bool.false_eq_true, reduceIte, Int.add_zero] at kF9
    simp only [List.append_nil] at kN9
    refine' k _ _ _ qs _ _ _ _ _ (QSt.mk' (vs := vs) (us := us) (TS := TS) ?gx ?gy ?gz ?gv ?gu ?gr ?gd ?gt) ?gI ?gl (Eq.mp (congrArg (Fr _ _ _) mapQ1) kF9) ?gN
    case gN => k_dflt (refine' news_sub kN9 ?gs; (case gs => ((repeat (refine sub_cons (by k_mem) ?_)); (intro q9 hq9; repeat (first | exact hq9 | refine List.Mem.tail _ ?_)))))
    case gx => assumption
    case gy => assumption
    case gz => assumption
    case gv => exact hv
    case gu => exact hu
    case gl => omega
    case gr => k_all
    case gd => k_all
    case gt => k_all
    case gI => k_all
  · rw [sum_tail qs9] at kN9
    refine' k _ _ _ qs9 _ _ _ _ _ (QSt.mk' (vs := vs9) (us := us9) (TS := TS) ?gx ?gy ?gz ?gv ?gu ?gr ?gd ?gt) ?gI ?gl (Eq.mp (congrArg (Fr _ _ _) (mapQ2 (dr' := 0) (t9 := 0) (u := .none))) kF9) ?gN
    case gN => k_dflt (refine' news_sub kN9 ?gs; (case gs => ((repeat (refine sub_cons (by k_mem) ?_)); (intro q9 hq9; repeat (first | exact hq9 | refine List.Mem.tail _ ?_)))))
    case gx => assumption
    case gy => assumption
    case gz => assumption
    case gv => exact tt1
    case gu => exact tt2
    case gl => (simp only [List.length_cons]; omega)
    case gr => k_all
    case gd => k_all
    case gt => k_all
    case gI => k_all
  · refine' k _ _ _ [] _ _ _ _ _ (QSt.mk' (vs := []) (us := []) (TS := TS) ?gx ?gy ?gz ?gv ?gu ?gr ?gd ?gt) ?gI ?gl (Eq.mp (congrArg (Fr _ _ _) (mapQ3 (hl' := 0) (dr' := 0) (t9 := 0) (u := .none))) kF9) ?gN
    case gN => k_dflt (refine' news_sub kN9 ?gs; (case gs => ((repeat (refine sub_cons (by k_mem) ?_)); (intro q9 hq9; repeat (first | exact hq9 | refine List.Mem.tail _ ?_)))))
    case gx => assumption
    case gy => assumption
    case gz => assumption
    case gv => exact Tups.nil
    case gu => exact Tups.nil
    case gl => omega
    case gr => k_all
    case gd => k_all
    case gt => k_all
    case gI => k_all
end
section
theorem wd_52 : True := by
  k_with_none
  k_with "eval Call" => (k_here; k_fold)
  k_with "eval BinOp" => (k_here; k_fold)
  k_with "eval Compare" => (k_here; k_fold)
  k_with "isTrue Compare" => (k_here; k_fold)
  k_with "isTrue Call" => (k_here; k_fold)
  k_with "eval BoolOp" => (k_here; k_fold)
  k_with "isTrue BoolOp" => (k_here; k_fold)
  k_with "isTrue" => (k_here; k_fold)
  k_with "eval Attribute" => (k_here; k_fold)
  k_with "eval Tuple" => (k_here; k_fold)
  k_with "eval List" => (k_here; k_fold)
  k_with "eval Subscript" => (k_here; k_fold)
  k_with "eval IfExp" => (k_here; k_fold)
  k_with "execs cons" => (k_here; with_reducible refine gen_tk ?_; intro tk; (try dsimp only))
  k_with "eval Call" => (k_here; with_reducible refine gen_tk ?_; intro tk; (try dsimp only))
  k_with "setAttr ref" => (k_here; with_reducible refine gen_tk ?_; intro tk; (try dsimp only))
  k_with "newList" => (k_here; with_reducible refine gen_tk ?_; intro tk; (try dsimp only))
  k_with "eval BinOp" => (k_here; with_reducible refine gen_tk ?_; intro tk; (try dsimp only))
  k_with "eval Subscript" => (k_here; with_reducible refine gen_tk ?_; intro tk; (try dsimp only))
  k_with "k_all" => (first | assumption | exact all_ne (by with_reducible assumption) (by (intro q9 hq9; repeat (first | exact hq9 | refine List.Mem.tail _ ?_))))
  k_with "subscriptTail Name Constant ref int" => ((k_here; k_dflt (refine' my_item ?k1 ?k2 ?k3 ?k4 ?k5 ?_ ?k7; (case k1 => k_asm); (case k2 => k_mem); (case k3 => decide); (case k4 => decide); (case k5 => exact rfl); (case k7 => with_unfolding_all rfl); k_whole)))
  k_with "call ref" => ((k_here; (with_reducible show wpAny _ _ (call (Value.ref 386) [Value.ref _, Value.int _ _]) _ _ _); k_dflt (refine' wind_at ?kB ?kF ?kX ?kN ?kT ?kK ?kU ?kx ?ky ?kz ?kt ?ku ?kd ?ke ?_; (case kB => k_asm); (case kF => k_asm); (case kX => k_asm); (case kN => k_asm); (case kT => k_asm); (case kK => first | exact rfl | assumption); (case kU => k_updF); (case kx => assumption); (case ky => assumption); (case kz => assumption); (case kt => omega); (case ku => omega); (case kd => ktr_room); (case ke => ktr_units)); intro d' x' y' td' tx' ty' h' tk' hd0 hd1 hx' hy' hz' F' N'; (try dsimp only at N'); (try dsimp only); (try k_sweep); walk_say "WIND"; (try k_extra "wind")))
  k_with "k_room" => (ktr_room)
  k_with "k_units" => (ktr_units)
  k_with "ktr_rel" => ((intro q9 hq9; repeat (first | exact hq9 | refine List.Mem.tail _ ?_)))
  k_with "binaryOp Pow int int" => ((k_here; (refine' pow_lit ?kb1 ?kb2 ?kb3 ?_); (case kb1 => decide); (case kb2 => decide); (case kb3 => ((simp only [Int.reduceToNat, Int.reducePow]); exact rfl))))
  k_with "CompSrc" => ((k_here; k_dflt (first | (refine LCg.CompSrc.ledger (by rfl) (by k_asm) (by k_asm) (by k_mem) (by first | size_fits | exact Nat.le_of_ble_eq_true rfl) ?_; intro g'; lcg_lit) | (refine LCg.CompSrc.range (by rfl) (by k_asm) (by k_asm) (by assumption) (by first | decide | rfl) (by first | rfl | decide) (by first | size_fits | exact Nat.le_of_ble_eq_true rfl) ?_; intro g'; lcg_lit))))
  k_with "CompRest" => ((with_unfolding_all first | (refine LCg.CompRest.succ ?_; intro v' I' oI' C' oC' D' m' h' tk' E' hv' hC' hx' F' N' off' ne'; (first | lcg_open hv' | (obtain ⟨t9', hv9'⟩ := hv'; subst hv9')); (obtain ⟨ne1', ne2', ne3'⟩ := ne')) | refine LCg.CompRest.zero ?_))
  k_with "CompEnd" => ((first | (refine' compEnd0 ?kF ?kN ?ko ?kS ?_; (case kN => assumption); (case kF => assumption); (case ko => assumption); (case kS => lcg_src)) | (refine' compEnd2 ?kF ?kN ?kx ?kd ?ko ?kS ?_; (case kN => assumption); (case kF => assumption); (case kx => exact ⟨by k_ne, by k_ne, by k_ne⟩); (case kd => exact ⟨by k_ne, by k_ne, by k_ne⟩); (case ko => assumption); (case kS => lcg_src)) | (refine' compEnd1 ?kF ?kN ?kx ?ko ?kS ?_; (case kN => assumption); (case kF => assumption); (case kx => exact ⟨by k_ne, by k_ne, by k_ne⟩); (case ko => assumption); (case kS => lcg_src)) | lcg_end))
  k_with "k_ne" => ((refine neN ?_; (try dsimp only); first | (with_reducible assumption) | exact Ne.symm (by with_reducible assumption) | exact Nat.ne_of_gt (by with_reducible assumption) | exact Nat.ne_of_lt (by with_reducible assumption) | exact neA (by with_reducible assumption) (by k_mem) | exact Ne.symm (neA (by with_reducible assumption) (by k_mem)) | exact neO (by with_reducible assumption) (by k_mem) | exact Ne.symm (neO (by with_reducible assumption) (by k_mem)) | exact neI (by with_reducible assumption) (by k_mem) | exact Ne.symm (neI (by with_reducible assumption) (by k_mem)) | exact neC (by with_reducible assumption) (by k_mem) | exact Ne.symm (neC (by with_reducible assumption) (by k_mem)) | exact neD (by with_reducible assumption) (by k_mem) | exact Ne.symm (neD (by with_reducible assumption) (by k_mem)) | exact neA2 (by with_reducible assumption) (by with_reducible assumption) (by k_mem) | exact Ne.symm (neA2 (by with_reducible assumption) (by with_reducible assumption) (by k_mem)) | omega))
  k_with "FinE" => (((unfold LCg.FinE); intro D' h' tk' F' N' o1'; (try simp only [List.nil_append, List.cons_append] at N'); (try dsimp only)))
  k_with "FinA" => (((unfold LCg.FinA); intro D' h' tk' F' N' o1'; (try simp only [List.nil_append, List.cons_append] at N'); (try dsimp only)))
  trivial
theorem Tups.split {news : List (Addr × Obj)} {vs : List Value} {qs : List (Int × Int)} (h : Tups news vs qs) : (vs = [] ∧ qs = []) ∨ ∃ v vs' q qs', vs = v :: vs' ∧ qs = q :: qs' := by
  cases h with
  | nil => exact .inl ⟨rfl, rfl⟩
  | cons m r => exact .inr ⟨_, _, _, _, rfl, rfl⟩
section
variable {prog : Program} {w : World} {A : Around} {E : Value → Shared → Prop} {s : Shared} {h₀ : Heap} {L a b : Addr} {news : List (Addr × Obj)} {v : Value} {vs : List Value} {q : Int × Int} {qs : List (Int × Int)} {k j : Nat} {Q : Value → Shared → Prop}
theorem eq_tups_c (N : News h₀ L s.heap news) (ma : (a, listOf (v :: vs).toArray k) ∈ news) (mb : (b, listOf #[] j) ∈ news) (t : Tups news (v :: vs) (q :: qs)) (hu : A.units + 64 < cLine) (h : Q (.bool false) s) : wpAny (model prog w) A (compareOp .Eq (.ref a) (.ref b)) Q E s := eq_tups N ma mb t hu h
theorem eq_tups_n (N : News h₀ L s.heap news) (ma : (a, listOf #[] k) ∈ news) (mb : (b, listOf #[] j) ∈ news) (hu : A.units + 64 < cLine) (h : Q (.bool true) s) : wpAny (model prog w) A (compareOp .Eq (.ref a) (.ref b)) Q E s := eq_tups (vs := []) (qs := []) N ma mb .nil hu h
theorem ne_tups_n (N : News h₀ L s.heap news) (ma : (a, listOf #[] k) ∈ news) (mb : (b, listOf #[] j) ∈ news) (hu : A.units + 64 < cLine) (h : Q (.bool false) s) : wpAny (model prog w) A (compareOp .NotEq (.ref a) (.ref b)) Q E s := ne_tups (vs := []) (qs := []) N ma mb .nil hu h
theorem ne_tups_c (N : News h₀ L s.heap news) (ma : (a, listOf (v :: vs).toArray k) ∈ news) (mb : (b, listOf #[] j) ∈ news) (t : Tups news (v :: vs) (q :: qs)) (hu : A.units + 64 < cLine) (h : Q (.bool true) s) : wpAny (model prog w) A (compareOp .NotEq (.ref a) (.ref b)) Q E s := ne_tups N ma mb t hu h
end
theorem emp_n {w : World} {p : Program} {loose : List Str} {mean : ExcName → Option Value} {mg mb : Str → Option Value}
    {dp un : Nat} {gd : Option (List Code)} {cn : Str} {cs : Scope} {a : Addr} {ccd : Value} {cl : List (Str × Addr)} {outer : List Env} {A₀ : Around} {base h₀ : Heap} {L : Addr} {m : Str → Option Value} {s : Shared} {Q E : Value → Shared → Prop}
    {news : List (Addr × Obj)} {q d th : Addr} {most room oc dr : Int} {e0 e1 e2 e3 u0 u1 u2 u3 u4 : Tok} {k : Nat} 
    (B : Below A₀ base outer h₀) (F : Fr h₀ L s.heap m) (X : (Mine.K w.params).In h₀) (N : News h₀ L s.heap news) (T : Top p loose mean mg mb h₀) (hk : cs.kind = .function)
    (mq : (q, instObj 361 d) ∈ news) (md : (d, dictOf [⟨PyData.keyHash w.params (Str.ofString "most"), .str (Str.ofString "most") u0, .int most e0⟩, ⟨PyData.keyHash w.params (Str.ofString "most_octets"), .str (Str.ofString "most_octets") u1, .int room e1⟩, ⟨PyData.keyHash w.params (Str.ofString "things"), .str (Str.ofString "things") u2, .ref th⟩, ⟨PyData.keyHash w.params (Str.ofString "octets"), .str (Str.ofString "octets") u3, .int oc e2⟩, ⟨PyData.keyHash w.params (Str.ofString "dropped"), .str (Str.ofString "dropped") u4, .int dr e3⟩] 5) ∈ news) (mt : (th, listOf ([]).toArray k) ∈ news)  (hd : dp + 1 < recursionLimit) (hu : un + 80 < cLine)
    (ret : ∀ (t : Tok) (h' : Heap) (tk' : Nat), Fr h₀ L h' m → News h₀ L h' news → Q (.bool true) { s with heap := h', toks := tk' }) :
    wpAny (model PySem.Challenge.pw_xm0985_01 w) (ktrTop dp un gd cn cs L a ccd cl outer) (call (.ref 344) [.ref q]) Q E s := by
  exact emp_at (us := []) (qs := []) B F X N T hk mq md mt (by decide) .nil hd hu ret
theorem emp_c {w : World} {p : Program} {loose : List Str} {mean : ExcName → Option Value} {mg mb : Str → Option Value}
    {dp un : Nat} {gd : Option (List Code)} {cn : Str} {cs : Scope} {a : Addr} {ccd : Value} {cl : List (Str × Addr)} {outer : List Env} {A₀ : Around} {base h₀ : Heap} {L : Addr} {m : Str → Option Value} {s : Shared} {Q E : Value → Shared → Prop}
    {news : List (Addr × Obj)} {q d th : Addr} {most room oc dr : Int} {e0 e1 e2 e3 u0 u1 u2 u3 u4 : Tok} {us : List Value} {k : Nat} {v : Value} {q9 : Int × Int} {qs : List (Int × Int)} 
    (B : Below A₀ base outer h₀) (F : Fr h₀ L s.heap m) (X : (Mine.K w.params).In h₀) (N : News h₀ L s.heap news) (T : Top p loose mean mg mb h₀) (hk : cs.kind = .function)
    (mq : (q, instObj 361 d) ∈ news) (md : (d, dictOf [⟨PyData.keyHash w.params (Str.ofString "most"), .str (Str.ofString "most") u0, .int most e0⟩, ⟨PyData.keyHash w.params (Str.ofString "most_octets"), .str (Str.ofString "most_octets") u1, .int room e1⟩, ⟨PyData.keyHash w.params (Str.ofString "things"), .str (Str.ofString "things") u2, .ref th⟩, ⟨PyData.keyHash w.params (Str.ofString "octets"), .str (Str.ofString "octets") u3, .int oc e2⟩, ⟨PyData.keyHash w.params (Str.ofString "dropped"), .str (Str.ofString "dropped") u4, .int dr e3⟩] 5) ∈ news) (mt : (th, listOf (v :: us).toArray k) ∈ news) (hl2 : (v :: us).length ≤ 1000) (ht : Tups news (v :: us) (q9 :: qs)) (hd : dp + 1 < recursionLimit) (hu : un + 80 < cLine)
    (ret : ∀ (t : Tok) (h' : Heap) (tk' : Nat), Fr h₀ L h' m → News h₀ L h' news → Q (.bool false) { s with heap := h', toks := tk' }) :
    wpAny (model PySem.Challenge.pw_xm0985_01 w) (ktrTop dp un gd cn cs L a ccd cl outer) (call (.ref 344) [.ref q]) Q E s := by
  exact emp_at (us := v :: us) (qs := q9 :: qs) B F X N T hk mq md mt hl2 ht hd hu ret
theorem wd_53 : True := by
  k_with "k_mem" => (((repeat (first | exact List.Mem.head _ | refine' List.Mem.tail _ ?_)); first | done | (show (_ : Addr × Obj) ∈ (_ : List (Addr × Obj)); with_reducible assumption)))
  k_with "k_upd" => (first | (refine' Rm.head ?a; (case a => k_all)) | (refine' Rm.tail ?a ?b; (case a => k_ne); (case b => k_upd)) | fail "k_upd")
  k_with "k_all" => (first | assumption | (refine' all_neD ?l ?e; (case l => with_reducible assumption); (case e => exact rfl)) | exact allN_nil | (refine' all_sub ?l ?s; (case l => with_reducible assumption); (case s => (intro q9 hq9; repeat (first | exact hq9 | refine List.Mem.tail _ ?_)))) | (refine allN_cons (by k_ne) ?_; k_all) | fail "k_all")
  k_with "k_ne" => ((refine neN ?_; (try dsimp only); first | exact neQ (by with_reducible assumption) (by k_mem) | exact Ne.symm (neQ (by with_reducible assumption) (by k_mem)) | fail "k_ne"))
  k_with "SrcLP" => ((k_here; k_dflt (refine' LCp.SrcLP.ledger ?a ?b ?c ?d ?e ?_; (case a => rfl); (case b => k_asm); (case c => k_asm); (case d => k_mem); (case e => (simp only [List.size_toArray]; exact Nat.le_trans (by assumption) (by decide))); intro g9; refine' compP_all ?ht ?hS rfl rfl (by decide) ?_; (case ht => (refine' Tups.mono ?b ?a; (case a => assumption); (case b => (intro q9 hq9; repeat (first | exact hq9 | refine List.Mem.tail _ ?_))))); (case hS => lcg_src); intro ys9 hI9)))
  k_with "compareOp NotEq ref ref" => ((k_here; (with_reducible show wpAny _ _ (compareOp CmpOp.NotEq (Value.ref _) (Value.ref _)) _ _ _); k_dflt (refine' ne_tup2 ?k1 ?k2 ?k3 ?k4 ?_; (case k1 => k_asm); (case k2 => k_mem); (case k3 => k_mem); (case k4 => ke_room))))
  k_with "call builtin:len" => ((k_here; (with_reducible show wpAny _ _ (call (Value.builtin "len") [Value.ref _]) _ _ _); k_dflt (refine' my_len ?k1 ?k2 ?k3 ?_; (case k1 => k_asm); (case k2 => k_mem); (case k3 => omega)); intro t'))
  k_with "subscriptTail Subscript" => ((k_here; (with_reducible show wpAny _ _ (subscriptTail _ _ (Value.ref _) (Value.int 0 _)) _ _ _); k_dflt (refine' tup_item0 ?k1 ?k2 ?_; (case k1 => k_asm); (case k2 => k_mem))))
  k_with "compareOp NotEq int int" => ((k_here; with_reducible refine ne_same ?_))
  k_with "call builtin:sum" => ((k_here; (with_reducible show wpAny _ _ (call (Value.builtin "sum") [Value.ref _]) _ _ _); (with_unfolding_all refine' sumK ?k0 ?k1 ?k2 ?k3 ?k4 ?_; (case k0 => with_unfolding_all rfl); (case k1 => k_asm); (case k2 => k_asm); (case k3 => exact News.isList (by k_asm) (by k_mem)); (case k4 => with_reducible assumption); k_whole); intro h' tk' t' F' N'))
  k_with "call ref" => ((k_here; (with_reducible show wpAny _ _ (call (Value.ref 344) _) _ _ _); k_dflt (refine' emp_c ?kB ?kF ?kX ?kN ?kT ?kK ?mq ?md ?mt ?kl ?ht ?kd ?ke ?_; (case kB => k_asm); (case kF => k_asm); (case kX => k_asm); (case kN => k_asm); (case kT => k_asm); (case kK => first | exact rfl | assumption); (case mq => k_mem); (case md => k_mem); (case mt => k_mem); (case kl => assumption); (case ht => (refine' Tups.mono ?b ?a; (case a => assumption); (case b => (intro q9 hq9; repeat (first | exact hq9 | refine List.Mem.tail _ ?_))))); (case kd => ktr_room); (case ke => ktr_units)); intro t' h' tk' F' N'; (try dsimp only at N'); (try dsimp only); (try k_sweep); walk_say "emp_c"))
  k_with "call ref" => ((k_here; (with_reducible show wpAny _ _ (call (Value.ref 344) _) _ _ _); k_dflt (refine' emp_n ?kB ?kF ?kX ?kN ?kT ?kK ?mq ?md ?mt ?kd ?ke ?_; (case kB => k_asm); (case kF => k_asm); (case kX => k_asm); (case kN => k_asm); (case kT => k_asm); (case kK => first | exact rfl | assumption); (case mq => k_mem); (case md => k_mem); (case mt => k_mem); (case kd => ktr_room); (case ke => ktr_units)); intro t' h' tk' F' N'; (try dsimp only at N'); (try dsimp only); (try k_sweep); walk_say "emp_n"))
  k_with "compareOp Eq ref ref" => ((k_here; (with_reducible show wpAny _ _ (compareOp CmpOp.Eq (Value.ref _) (Value.ref _)) _ _ _); k_dflt (refine' eq_tups_c ?k1 ?k2 ?k3 ?k4 ?k5 ?_; (case k1 => k_asm); (case k2 => k_mem); (case k3 => k_mem); (case k4 => (refine' Tups.mono ?b ?a; (case a => assumption); (case b => (intro q9 hq9; repeat (first | exact hq9 | refine List.Mem.tail _ ?_))))); (case k5 => ke_room))))
  k_with "compareOp NotEq ref ref" => ((k_here; (with_reducible show wpAny _ _ (compareOp CmpOp.NotEq (Value.ref _) (Value.ref _)) _ _ _); k_dflt (refine' ne_tups_c ?k1 ?k2 ?k3 ?k4 ?k5 ?_; (case k1 => k_asm); (case k2 => k_mem); (case k3 => k_mem); (case k4 => (refine' Tups.mono ?b ?a; (case a => assumption); (case b => (intro q9 hq9; repeat (first | exact hq9 | refine List.Mem.tail _ ?_))))); (case k5 => ke_room))))
  k_with "compareOp Eq ref ref" => ((k_here; (with_reducible show wpAny _ _ (compareOp CmpOp.Eq (Value.ref _) (Value.ref _)) _ _ _); k_dflt (refine' eq_tups_n ?k1 ?k2 ?k3 ?k5 ?_; (case k1 => k_asm); (case k2 => k_mem); (case k3 => k_mem); (case k5 => ke_room))))
  k_with "compareOp NotEq ref ref" => ((k_here; (with_reducible show wpAny _ _ (compareOp CmpOp.NotEq (Value.ref _) (Value.ref _)) _ _ _); k_dflt (refine' ne_tups_n ?k1 ?k2 ?k3 ?k5 ?_; (case k1 => k_asm); (case k2 => k_mem); (case k3 => k_mem); (case k5 => ke_room))))
  k_with "subscriptTail Name Name ref int" => ((k_here; k_dflt (refine' my_item ?k1 ?k2 ?k3 ?k4 ?k5 ?_ ?k7; (case k1 => k_asm); (case k2 => k_mem); (case k3 => decide); (case k4 => decide); (case k5 => exact rfl); (case k7 => with_unfolding_all rfl); k_whole)))
  trivial
theorem mem4 {h₀ h : Heap} {L : Addr} {a b c d : Addr × Obj} {news : List (Addr × Obj)} (N : News h₀ L h news) (ha : a ∈ news) (hb : b ∈ news) (hc : c ∈ news) (hd : d ∈ news) : News h₀ L h (a :: b :: c :: d :: news) := fun z hz => by
  rcases List.mem_cons.mp hz with rfl | hz
  · exact N _ ha
  · exact mem3 N hb hc hd z hz
theorem news_t4 {h₀ h : Heap} {L : Addr} {a b c d : Addr × Obj} {news : List (Addr × Obj)} (N : News h₀ L h (a :: b :: c :: d :: news)) : News h₀ L h news := fun z hz => N z (.tail _ (.tail _ (.tail _ (.tail _ hz))))
theorem mg_00 {w : World} {p : Program} {loose : List Str} {mean : ExcName → Option Value} {mg mb : Str → Option Value}
    {dp un : Nat} {gd : Option (List Code)} {cn : Str} {cs : Scope} {a : Addr} {ccd : Value} {cl : List (Str × Addr)} {outer : List Env} {A₀ : Around} {base h₀ : Heap} {L : Addr} {m : Str → Option Value} {s : Shared} {Q E : Value → Shared → Prop}
    {news : List (Addr × Obj)} {q d th : Addr} {most room oc dr : Int} {e0 e1 e2 e3 u0 u1 u2 u3 u4 : Tok} {k : Nat} {rw z9 : Addr} {kr : Nat} {ti : Tok} 
    (B : Below A₀ base outer h₀) (F : Fr h₀ L s.heap m) (X : (Mine.K w.params).In h₀) (N : News h₀ L s.heap ((rw, listOf #[.ref q, .ref z9] kr) :: (q, instObj 361 d) :: (d, dictOf [⟨PyData.keyHash w.params (Str.ofString "most"), .str (Str.ofString "most") u0, .int most e0⟩, ⟨PyData.keyHash w.params (Str.ofString "most_octets"), .str (Str.ofString "most_octets") u1, .int room e1⟩, ⟨PyData.keyHash w.params (Str.ofString "things"), .str (Str.ofString "things") u2, .ref th⟩, ⟨PyData.keyHash w.params (Str.ofString "octets"), .str (Str.ofString "octets") u3, .int oc e2⟩, ⟨PyData.keyHash w.params (Str.ofString "dropped"), .str (Str.ofString "dropped") u4, .int dr e3⟩] 5) :: (th, listOf ([]).toArray k) :: news)) (T : Top p loose mean mg mb h₀) (hk : cs.kind = .function)
     (hd : dp + 2 < recursionLimit) (hu2 : un + 96 < cLine)
    (ret : ∀ (t : Tok) (h' : Heap) (tk' : Nat), Fr h₀ L h' m → News h₀ L h' ((rw, listOf #[.ref q, .ref z9] kr) :: (q, instObj 361 d) :: (d, dictOf [⟨PyData.keyHash w.params (Str.ofString "most"), .str (Str.ofString "most") u0, .int most e0⟩, ⟨PyData.keyHash w.params (Str.ofString "most_octets"), .str (Str.ofString "most_octets") u1, .int room e1⟩, ⟨PyData.keyHash w.params (Str.ofString "things"), .str (Str.ofString "things") u2, .ref th⟩, ⟨PyData.keyHash w.params (Str.ofString "octets"), .str (Str.ofString "octets") u3, .int oc e2⟩, ⟨PyData.keyHash w.params (Str.ofString "dropped"), .str (Str.ofString "dropped") u4, .int dr e3⟩] 5) :: (th, listOf ([]).toArray k) :: news) → Q (.bool false) { s with heap := h', toks := tk' }) :
    wpAny (model PySem.Challenge.pw_xm0985_01 w) (ktrTop dp un gd cn cs L a ccd cl outer) (call (.ref 372) [.ref rw, .int 0 ti, .none]) Q E s := by
  refine wpAny_call ?_
  k_dflt cell_enter
  k_steps
  (with_reducible rename News _ _ _ _ => kN9)
  (with_reducible rename Fr _ _ _ _ => kF9)
  exact ret 0 _ _ kF9 (fun q hq => kN9 q (by first | exact hq | exact .tail _ hq | exact .tail _ (.tail _ hq) | exact .tail _ (.tail _ (.tail _ hq))))
theorem mg_n0 {w : World} {p : Program} {loose : List Str} {mean : ExcName → Option Value} {mg mb : Str → Option Value}
    {dp un : Nat} {gd : Option (List Code)} {cn : Str} {cs : Scope} {a : Addr} {ccd : Value} {cl : List (Str × Addr)} {outer : List Env} {A₀ : Around} {base h₀ : Heap} {L : Addr} {m : Str → Option Value} {s : Shared} {Q E : Value → Shared → Prop}
    {news : List (Addr × Obj)} {q d th : Addr} {most room oc dr : Int} {e0 e1 e2 e3 u0 u1 u2 u3 u4 : Tok} {k : Nat} {rw z9 : Addr} {kr : Nat} {ti : Tok} {va : Value}
    (B : Below A₀ base outer h₀) (F : Fr h₀ L s.heap m) (X : (Mine.K w.params).In h₀) (N : News h₀ L s.heap ((rw, listOf #[.ref z9, .ref q] kr) :: (q, instObj 361 d) :: (d, dictOf [⟨PyData.keyHash w.params (Str.ofString "most"), .str (Str.ofString "most") u0, .int most e0⟩, ⟨PyData.keyHash w.params (Str.ofString "most_octets"), .str (Str.ofString "most_octets") u1, .int room e1⟩, ⟨PyData.keyHash w.params (Str.ofString "things"), .str (Str.ofString "things") u2, .ref th⟩, ⟨PyData.keyHash w.params (Str.ofString "octets"), .str (Str.ofString "octets") u3, .int oc e2⟩, ⟨PyData.keyHash w.params (Str.ofString "dropped"), .str (Str.ofString "dropped") u4, .int dr e3⟩] 5) :: (th, listOf ([]).toArray k) :: news)) (T : Top p loose mean mg mb h₀) (hk : cs.kind = .function)
     (hd : dp + 2 < recursionLimit) (hu2 : un + 96 < cLine)
    (ret : ∀ (t : Tok) (h' : Heap) (tk' : Nat), Fr h₀ L h' m → News h₀ L h' ((rw, listOf #[.ref z9, .ref q] kr) :: (q, instObj 361 d) :: (d, dictOf [⟨PyData.keyHash w.params (Str.ofString "most"), .str (Str.ofString "most") u0, .int most e0⟩, ⟨PyData.keyHash w.params (Str.ofString "most_octets"), .str (Str.ofString "most_octets") u1, .int room e1⟩, ⟨PyData.keyHash w.params (Str.ofString "things"), .str (Str.ofString "things") u2, .ref th⟩, ⟨PyData.keyHash w.params (Str.ofString "octets"), .str (Str.ofString "octets") u3, .int oc e2⟩, ⟨PyData.keyHash w.params (Str.ofString "dropped"), .str (Str.ofString "dropped") u4, .int dr e3⟩] 5) :: (th, listOf ([]).toArray k) :: news) → Q (.bool false) { s with heap := h', toks := tk' }) :
    wpAny (model PySem.Challenge.pw_xm0985_01 w) (ktrTop dp un gd cn cs L a ccd cl outer) (call (.ref 372) [.ref rw, .int 1 ti, va]) Q E s := by
  refine wpAny_call ?_
  k_dflt cell_enter
  k_steps
  (with_reducible rename News _ _ _ _ => kN9)
  (with_reducible rename Fr _ _ _ _ => kF9)
  exact ret 0 _ _ kF9 (fun q hq => kN9 q (by first | exact hq | exact .tail _ hq | exact .tail _ (.tail _ hq) | exact .tail _ (.tail _ (.tail _ hq))))
theorem mg_c0 {w : World} {p : Program} {loose : List Str} {mean : ExcName → Option Value} {mg mb : Str → Option Value}
    {dp un : Nat} {gd : Option (List Code)} {cn : Str} {cs : Scope} {a : Addr} {ccd : Value} {cl : List (Str × Addr)} {outer : List Env} {A₀ : Around} {base h₀ : Heap} {L : Addr} {m : Str → Option Value} {s : Shared} {Q E : Value → Shared → Prop}
    {news : List (Addr × Obj)} {q d th : Addr} {most room oc dr : Int} {e0 e1 e2 e3 u0 u1 u2 u3 u4 : Tok} {us : List Value} {k : Nat} {rw z9 : Addr} {kr : Nat} {ti : Tok} {v : Value} {q9 : Int × Int} {qs : List (Int × Int)} 
    (B : Below A₀ base outer h₀) (F : Fr h₀ L s.heap m) (X : (Mine.K w.params).In h₀) (N : News h₀ L s.heap ((rw, listOf #[.ref z9, .ref q] kr) :: (q, instObj 361 d) :: (d, dictOf [⟨PyData.keyHash w.params (Str.ofString "most"), .str (Str.ofString "most") u0, .int most e0⟩, ⟨PyData.keyHash w.params (Str.ofString "most_octets"), .str (Str.ofString "most_octets") u1, .int room e1⟩, ⟨PyData.keyHash w.params (Str.ofString "things"), .str (Str.ofString "things") u2, .ref th⟩, ⟨PyData.keyHash w.params (Str.ofString "octets"), .str (Str.ofString "octets") u3, .int oc e2⟩, ⟨PyData.keyHash w.params (Str.ofString "dropped"), .str (Str.ofString "dropped") u4, .int dr e3⟩] 5) :: (th, listOf (v :: us).toArray k) :: news)) (T : Top p loose mean mg mb h₀) (hk : cs.kind = .function)
    (hl2 : (v :: us).length ≤ 1000) (hu : Tups news (v :: us) (q9 :: qs)) (hd : dp + 2 < recursionLimit) (hu2 : un + 96 < cLine)
    (ret : ∀ (t : Tok) (h' : Heap) (tk' : Nat), Fr h₀ L h' m → News h₀ L h' ((rw, listOf #[.ref z9, .ref q] kr) :: (q, instObj 361 d) :: (d, dictOf [⟨PyData.keyHash w.params (Str.ofString "most"), .str (Str.ofString "most") u0, .int most e0⟩, ⟨PyData.keyHash w.params (Str.ofString "most_octets"), .str (Str.ofString "most_octets") u1, .int room e1⟩, ⟨PyData.keyHash w.params (Str.ofString "things"), .str (Str.ofString "things") u2, .ref th⟩, ⟨PyData.keyHash w.params (Str.ofString "octets"), .str (Str.ofString "octets") u3, .int oc e2⟩, ⟨PyData.keyHash w.params (Str.ofString "dropped"), .str (Str.ofString "dropped") u4, .int dr e3⟩] 5) :: (th, listOf (v :: us).toArray k) :: news) → Q (.bool true) { s with heap := h', toks := tk' }) :
    wpAny (model PySem.Challenge.pw_xm0985_01 w) (ktrTop dp un gd cn cs L a ccd cl outer) (call (.ref 372) [.ref rw, .int 1 ti, .none]) Q E s := by
  refine wpAny_call ?_
  k_dflt cell_enter
  k_steps
  (with_reducible rename News _ _ _ _ => kN9)
  (with_reducible rename Fr _ _ _ _ => kF9)
  exact ret 0 _ _ kF9 (fun q hq => kN9 q (by first | exact hq | exact .tail _ hq | exact .tail _ (.tail _ hq) | exact .tail _ (.tail _ (.tail _ hq))))
theorem mg_10 {w : World} {p : Program} {loose : List Str} {mean : ExcName → Option Value} {mg mb : Str → Option Value}
    {dp un : Nat} {gd : Option (List Code)} {cn : Str} {cs : Scope} {a : Addr} {ccd : Value} {cl : List (Str × Addr)} {outer : List Env} {A₀ : Around} {base h₀ : Heap} {L : Addr} {m : Str → Option Value} {s : Shared} {Q E : Value → Shared → Prop}
    {news : List (Addr × Obj)} {q d th : Addr} {most room oc dr : Int} {e0 e1 e2 e3 u0 u1 u2 u3 u4 : Tok} {us : List Value} {k : Nat} {rw z9 : Addr} {kr : Nat} {ti : Tok} {v : Value} {q9 : Int × Int} {qs : List (Int × Int)} {l : Addr} {kl : Nat} {t1 : Tok}
    (B : Below A₀ base outer h₀) (F : Fr h₀ L s.heap m) (X : (Mine.K w.params).In h₀) (N : News h₀ L s.heap ((rw, listOf #[.ref z9, .ref q] kr) :: (q, instObj 361 d) :: (d, dictOf [⟨PyData.keyHash w.params (Str.ofString "most"), .str (Str.ofString "most") u0, .int most e0⟩, ⟨PyData.keyHash w.params (Str.ofString "most_octets"), .str (Str.ofString "most_octets") u1, .int room e1⟩, ⟨PyData.keyHash w.params (Str.ofString "things"), .str (Str.ofString "things") u2, .ref th⟩, ⟨PyData.keyHash w.params (Str.ofString "octets"), .str (Str.ofString "octets") u3, .int oc e2⟩, ⟨PyData.keyHash w.params (Str.ofString "dropped"), .str (Str.ofString "dropped") u4, .int dr e3⟩] 5) :: (th, listOf (v :: us).toArray k) :: (l, listOf #[.int 1 t1] kl) :: news)) (T : Top p loose mean mg mb h₀) (hk : cs.kind = .function)
    (hl2 : (v :: us).length ≤ 1000) (hu : Tups news (v :: us) (q9 :: qs)) (hd : dp + 2 < recursionLimit) (hu2 : un + 96 < cLine)
    (ret : ∀ (t : Tok) (h' : Heap) (tk' : Nat), Fr h₀ L h' m → News h₀ L h' ((rw, listOf #[.ref z9, .ref q] kr) :: (q, instObj 361 d) :: (d, dictOf [⟨PyData.keyHash w.params (Str.ofString "most"), .str (Str.ofString "most") u0, .int most e0⟩, ⟨PyData.keyHash w.params (Str.ofString "most_octets"), .str (Str.ofString "most_octets") u1, .int room e1⟩, ⟨PyData.keyHash w.params (Str.ofString "things"), .str (Str.ofString "things") u2, .ref th⟩, ⟨PyData.keyHash w.params (Str.ofString "octets"), .str (Str.ofString "octets") u3, .int oc e2⟩, ⟨PyData.keyHash w.params (Str.ofString "dropped"), .str (Str.ofString "dropped") u4, .int dr e3⟩] 5) :: (th, listOf (v :: us).toArray k) :: (l, listOf #[.int 1 t1] kl) :: news) → Q (.bool true) { s with heap := h', toks := tk' }) :
    wpAny (model PySem.Challenge.pw_xm0985_01 w) (ktrTop dp un gd cn cs L a ccd cl outer) (call (.ref 372) [.ref rw, .int 1 ti, .ref l]) Q E s := by
  refine wpAny_call ?_
  k_dflt cell_enter
  k_steps
  (with_reducible rename News _ _ _ _ => kN9)
  (with_reducible rename Fr _ _ _ _ => kF9)
  exact ret 0 _ _ kF9 (fun q hq => kN9 q (by first | exact hq | exact .tail _ hq | exact .tail _ (.tail _ hq) | exact .tail _ (.tail _ (.tail _ hq))))
theorem mg_020 {w : World} {p : Program} {loose : List Str} {mean : ExcName → Option Value} {mg mb : Str → Option Value}
    {dp un : Nat} {gd : Option (List Code)} {cn : Str} {cs : Scope} {a : Addr} {ccd : Value} {cl : List (Str × Addr)} {outer : List Env} {A₀ : Around} {base h₀ : Heap} {L : Addr} {m : Str → Option Value} {s : Shared} {Q E : Value → Shared → Prop}
    {news : List (Addr × Obj)} {q d th : Addr} {most room oc dr : Int} {e0 e1 e2 e3 u0 u1 u2 u3 u4 : Tok} {us : List Value} {k : Nat} {rw z9 : Addr} {kr : Nat} {ti : Tok} {v : Value} {q9 : Int × Int} {qs : List (Int × Int)} {l : Addr} {kl : Nat} {t1 t2 : Tok}
    (B : Below A₀ base outer h₀) (F : Fr h₀ L s.heap m) (X : (Mine.K w.params).In h₀) (N : News h₀ L s.heap ((rw, listOf #[.ref z9, .ref q] kr) :: (q, instObj 361 d) :: (d, dictOf [⟨PyData.keyHash w.params (Str.ofString "most"), .str (Str.ofString "most") u0, .int most e0⟩, ⟨PyData.keyHash w.params (Str.ofString "most_octets"), .str (Str.ofString "most_octets") u1, .int room e1⟩, ⟨PyData.keyHash w.params (Str.ofString "things"), .str (Str.ofString "things") u2, .ref th⟩, ⟨PyData.keyHash w.params (Str.ofString "octets"), .str (Str.ofString "octets") u3, .int oc e2⟩, ⟨PyData.keyHash w.params (Str.ofString "dropped"), .str (Str.ofString "dropped") u4, .int dr e3⟩] 5) :: (th, listOf (v :: us).toArray k) :: (l, listOf #[.int 0 t1, .int 2 t2] kl) :: news)) (T : Top p loose mean mg mb h₀) (hk : cs.kind = .function)
    (hl2 : (v :: us).length ≤ 1000) (hu : Tups news (v :: us) (q9 :: qs)) (hd : dp + 2 < recursionLimit) (hu2 : un + 96 < cLine)
    (ret : ∀ (t : Tok) (h' : Heap) (tk' : Nat), Fr h₀ L h' m → News h₀ L h' ((rw, listOf #[.ref z9, .ref q] kr) :: (q, instObj 361 d) :: (d, dictOf [⟨PyData.keyHash w.params (Str.ofString "most"), .str (Str.ofString "most") u0, .int most e0⟩, ⟨PyData.keyHash w.params (Str.ofString "most_octets"), .str (Str.ofString "most_octets") u1, .int room e1⟩, ⟨PyData.keyHash w.params (Str.ofString "things"), .str (Str.ofString "things") u2, .ref th⟩, ⟨PyData.keyHash w.params (Str.ofString "octets"), .str (Str.ofString "octets") u3, .int oc e2⟩, ⟨PyData.keyHash w.params (Str.ofString "dropped"), .str (Str.ofString "dropped") u4, .int dr e3⟩] 5) :: (th, listOf (v :: us).toArray k) :: (l, listOf #[.int 0 t1, .int 2 t2] kl) :: news) → Q (.bool false) { s with heap := h', toks := tk' }) :
    wpAny (model PySem.Challenge.pw_xm0985_01 w) (ktrTop dp un gd cn cs L a ccd cl outer) (call (.ref 372) [.ref rw, .int 1 ti, .ref l]) Q E s := by
  refine wpAny_call ?_
  k_dflt cell_enter
  k_steps
  (with_reducible rename News _ _ _ _ => kN9)
  (with_reducible rename Fr _ _ _ _ => kF9)
  exact ret 0 _ _ kF9 (fun q hq => kN9 q (by first | exact hq | exact .tail _ hq | exact .tail _ (.tail _ hq) | exact .tail _ (.tail _ (.tail _ hq))))
theorem mg_e0 {w : World} {p : Program} {loose : List Str} {mean : ExcName → Option Value} {mg mb : Str → Option Value}
    {dp un : Nat} {gd : Option (List Code)} {cn : Str} {cs : Scope} {a : Addr} {ccd : Value} {cl : List (Str × Addr)} {outer : List Env} {A₀ : Around} {base h₀ : Heap} {L : Addr} {m : Str → Option Value} {s : Shared} {Q E : Value → Shared → Prop}
    {news : List (Addr × Obj)} {q d th : Addr} {most room oc dr : Int} {e0 e1 e2 e3 u0 u1 u2 u3 u4 : Tok} {us : List Value} {k : Nat} {rw z9 : Addr} {kr : Nat} {ti : Tok} {v : Value} {q9 : Int × Int} {qs : List (Int × Int)} {l : Addr} {kl : Nat}
    (B : Below A₀ base outer h₀) (F : Fr h₀ L s.heap m) (X : (Mine.K w.params).In h₀) (N : News h₀ L s.heap ((rw, listOf #[.ref z9, .ref q] kr) :: (q, instObj 361 d) :: (d, dictOf [⟨PyData.keyHash w.params (Str.ofString "most"), .str (Str.ofString "most") u0, .int most e0⟩, ⟨PyData.keyHash w.params (Str.ofString "most_octets"), .str (Str.ofString "most_octets") u1, .int room e1⟩, ⟨PyData.keyHash w.params (Str.ofString "things"), .str (Str.ofString "things") u2, .ref th⟩, ⟨PyData.keyHash w.params (Str.ofString "octets"), .str (Str.ofString "octets") u3, .int oc e2⟩, ⟨PyData.keyHash w.params (Str.ofString "dropped"), .str (Str.ofString "dropped") u4, .int dr e3⟩] 5) :: (th, listOf (v :: us).toArray k) :: (l, listOf #[] kl) :: news)) (T : Top p loose mean mg mb h₀) (hk : cs.kind = .function)
    (hl2 : (v :: us).length ≤ 1000) (hu : Tups news (v :: us) (q9 :: qs)) (hd : dp + 2 < recursionLimit) (hu2 : un + 96 < cLine)
    (ret : ∀ (t : Tok) (h' : Heap) (tk' : Nat), Fr h₀ L h' m → News h₀ L h' ((rw, listOf #[.ref z9, .ref q] kr) :: (q, instObj 361 d) :: (d, dictOf [⟨PyData.keyHash w.params (Str.ofString "most"), .str (Str.ofString "most") u0, .int most e0⟩, ⟨PyData.keyHash w.params (Str.ofString "most_octets"), .str (Str.ofString "most_octets") u1, .int room e1⟩, ⟨PyData.keyHash w.params (Str.ofString "things"), .str (Str.ofString "things") u2, .ref th⟩, ⟨PyData.keyHash w.params (Str.ofString "octets"), .str (Str.ofString "octets") u3, .int oc e2⟩, ⟨PyData.keyHash w.params (Str.ofString "dropped"), .str (Str.ofString "dropped") u4, .int dr e3⟩] 5) :: (th, listOf (v :: us).toArray k) :: (l, listOf #[] kl) :: news) → Q (.bool false) { s with heap := h', toks := tk' }) :
    wpAny (model PySem.Challenge.pw_xm0985_01 w) (ktrTop dp un gd cn cs L a ccd cl outer) (call (.ref 372) [.ref rw, .int 1 ti, .ref l]) Q E s := by
  refine wpAny_call ?_
  k_dflt cell_enter
  k_steps
  (with_reducible rename News _ _ _ _ => kN9)
  (with_reducible rename Fr _ _ _ _ => kF9)
  exact ret 0 _ _ kF9 (fun q hq => kN9 q (by first | exact hq | exact .tail _ hq | exact .tail _ (.tail _ hq) | exact .tail _ (.tail _ (.tail _ hq))))
theorem mg_0 {w : World} {p : Program} {loose : List Str} {mean : ExcName → Option Value} {mg mb : Str → Option Value}
    {dp un : Nat} {gd : Option (List Code)} {cn : Str} {cs : Scope} {a : Addr} {ccd : Value} {cl : List (Str × Addr)} {outer : List Env} {A₀ : Around} {base h₀ : Heap} {L : Addr} {m : Str → Option Value} {s : Shared} {Q E : Value → Shared → Prop}
    {news : List (Addr × Obj)} {q d th : Addr} {most room oc dr : Int} {e0 e1 e2 e3 u0 u1 u2 u3 u4 : Tok} {k : Nat} {rw z9 : Addr} {kr : Nat} {ti : Tok} 
    (B : Below A₀ base outer h₀) (F : Fr h₀ L s.heap m) (X : (Mine.K w.params).In h₀) (N : News h₀ L s.heap news) (T : Top p loose mean mg mb h₀) (hk : cs.kind = .function)
    (mr : (rw, listOf #[.ref q, .ref z9] kr) ∈ news) (mq : (q, instObj 361 d) ∈ news) (md : (d, dictOf [⟨PyData.keyHash w.params (Str.ofString "most"), .str (Str.ofString "most") u0, .int most e0⟩, ⟨PyData.keyHash w.params (Str.ofString "most_octets"), .str (Str.ofString "most_octets") u1, .int room e1⟩, ⟨PyData.keyHash w.params (Str.ofString "things"), .str (Str.ofString "things") u2, .ref th⟩, ⟨PyData.keyHash w.params (Str.ofString "octets"), .str (Str.ofString "octets") u3, .int oc e2⟩, ⟨PyData.keyHash w.params (Str.ofString "dropped"), .str (Str.ofString "dropped") u4, .int dr e3⟩] 5) ∈ news) (mt : (th, listOf ([]).toArray k) ∈ news)   (hd : dp + 2 < recursionLimit) (hu2 : un + 96 < cLine)
    (ret : ∀ (t : Tok) (h' : Heap) (tk' : Nat), Fr h₀ L h' m → News h₀ L h' news → Q (.bool false) { s with heap := h', toks := tk' }) :
    wpAny (model PySem.Challenge.pw_xm0985_01 w) (ktrTop dp un gd cn cs L a ccd cl outer) (call (.ref 372) [.ref rw, .int 0 ti, .none]) Q E s := by
  exact mg_00 B F X (mem4 N mr mq md mt) T hk hd hu2 fun t h' tk' F' N' => ret t h' tk' F' (news_t4 N')
theorem mg_n {w : World} {p : Program} {loose : List Str} {mean : ExcName → Option Value} {mg mb : Str → Option Value}
    {dp un : Nat} {gd : Option (List Code)} {cn : Str} {cs : Scope} {a : Addr} {ccd : Value} {cl : List (Str × Addr)} {outer : List Env} {A₀ : Around} {base h₀ : Heap} {L : Addr} {m : Str → Option Value} {s : Shared} {Q E : Value → Shared → Prop}
    {news : List (Addr × Obj)} {q d th : Addr} {most room oc dr : Int} {e0 e1 e2 e3 u0 u1 u2 u3 u4 : Tok} {k : Nat} {rw z9 : Addr} {kr : Nat} {ti : Tok} {va : Value}
    (B : Below A₀ base outer h₀) (F : Fr h₀ L s.heap m) (X : (Mine.K w.params).In h₀) (N : News h₀ L s.heap news) (T : Top p loose mean mg mb h₀) (hk : cs.kind = .function)
    (mr : (rw, listOf #[.ref z9, .ref q] kr) ∈ news) (mq : (q, instObj 361 d) ∈ news) (md : (d, dictOf [⟨PyData.keyHash w.params (Str.ofString "most"), .str (Str.ofString "most") u0, .int most e0⟩, ⟨PyData.keyHash w.params (Str.ofString "most_octets"), .str (Str.ofString "most_octets") u1, .int room e1⟩, ⟨PyData.keyHash w.params (Str.ofString "things"), .str (Str.ofString "things") u2, .ref th⟩, ⟨PyData.keyHash w.params (Str.ofString "octets"), .str (Str.ofString "octets") u3, .int oc e2⟩, ⟨PyData.keyHash w.params (Str.ofString "dropped"), .str (Str.ofString "dropped") u4, .int dr e3⟩] 5) ∈ news) (mt : (th, listOf ([]).toArray k) ∈ news)   (hd : dp + 2 < recursionLimit) (hu2 : un + 96 < cLine)
    (ret : ∀ (t : Tok) (h' : Heap) (tk' : Nat), Fr h₀ L h' m → News h₀ L h' news → Q (.bool false) { s with heap := h', toks := tk' }) :
    wpAny (model PySem.Challenge.pw_xm0985_01 w) (ktrTop dp un gd cn cs L a ccd cl outer) (call (.ref 372) [.ref rw, .int 1 ti, va]) Q E s := by
  exact mg_n0 B F X (mem4 N mr mq md mt) T hk hd hu2 fun t h' tk' F' N' => ret t h' tk' F' (news_t4 N')
theorem mg_c {w : World} {p : Program} {loose : List Str} {mean : ExcName → Option Value} {mg mb : Str → Option Value}
    {dp un : Nat} {gd : Option (List Code)} {cn : Str} {cs : Scope} {a : Addr} {ccd : Value} {cl : List (Str × Addr)} {outer : List Env} {A₀ : Around} {base h₀ : Heap} {L : Addr} {m : Str → Option Value} {s : Shared} {Q E : Value → Shared → Prop}
    {news : List (Addr × Obj)} {q d th : Addr} {most room oc dr : Int} {e0 e1 e2 e3 u0 u1 u2 u3 u4 : Tok} {us : List Value} {k : Nat} {rw z9 : Addr} {kr : Nat} {ti : Tok} {v : Value} {q9 : Int × Int} {qs : List (Int × Int)} 
    (B : Below A₀ base outer h₀) (F : Fr h₀ L s.heap m) (X : (Mine.K w.params).In h₀) (N : News h₀ L s.heap news) (T : Top p loose mean mg mb h₀) (hk : cs.kind = .function)
    (mr : (rw, listOf #[.ref z9, .ref q] kr) ∈ news) (mq : (q, instObj 361 d) ∈ news) (md : (d, dictOf [⟨PyData.keyHash w.params (Str.ofString "most"), .str (Str.ofString "most") u0, .int most e0⟩, ⟨PyData.keyHash w.params (Str.ofString "most_octets"), .str (Str.ofString "most_octets") u1, .int room e1⟩, ⟨PyData.keyHash w.params (Str.ofString "things"), .str (Str.ofString "things") u2, .ref th⟩, ⟨PyData.keyHash w.params (Str.ofString "octets"), .str (Str.ofString "octets") u3, .int oc e2⟩, ⟨PyData.keyHash w.params (Str.ofString "dropped"), .str (Str.ofString "dropped") u4, .int dr e3⟩] 5) ∈ news) (mt : (th, listOf (v :: us).toArray k) ∈ news)  (hl2 : (v :: us).length ≤ 1000) (hu : Tups news (v :: us) (q9 :: qs)) (hd : dp + 2 < recursionLimit) (hu2 : un + 96 < cLine)
    (ret : ∀ (t : Tok) (h' : Heap) (tk' : Nat), Fr h₀ L h' m → News h₀ L h' news → Q (.bool true) { s with heap := h', toks := tk' }) :
    wpAny (model PySem.Challenge.pw_xm0985_01 w) (ktrTop dp un gd cn cs L a ccd cl outer) (call (.ref 372) [.ref rw, .int 1 ti, .none]) Q E s := by
  exact mg_c0 B F X (mem4 N mr mq md mt) T hk hl2 hu hd hu2 fun t h' tk' F' N' => ret t h' tk' F' (news_t4 N')
theorem mg_1 {w : World} {p : Program} {loose : List Str} {mean : ExcName → Option Value} {mg mb : Str → Option Value}
    {dp un : Nat} {gd : Option (List Code)} {cn : Str} {cs : Scope} {a : Addr} {ccd : Value} {cl : List (Str × Addr)} {outer : List Env} {A₀ : Around} {base h₀ : Heap} {L : Addr} {m : Str → Option Value} {s : Shared} {Q E : Value → Shared → Prop}
    {news : List (Addr × Obj)} {q d th : Addr} {most room oc dr : Int} {e0 e1 e2 e3 u0 u1 u2 u3 u4 : Tok} {us : List Value} {k : Nat} {rw z9 : Addr} {kr : Nat} {ti : Tok} {v : Value} {q9 : Int × Int} {qs : List (Int × Int)} {l : Addr} {kl : Nat} {t1 : Tok}
    (B : Below A₀ base outer h₀) (F : Fr h₀ L s.heap m) (X : (Mine.K w.params).In h₀) (N : News h₀ L s.heap news) (T : Top p loose mean mg mb h₀) (hk : cs.kind = .function)
    (mr : (rw, listOf #[.ref z9, .ref q] kr) ∈ news) (mq : (q, instObj 361 d) ∈ news) (md : (d, dictOf [⟨PyData.keyHash w.params (Str.ofString "most"), .str (Str.ofString "most") u0, .int most e0⟩, ⟨PyData.keyHash w.params (Str.ofString "most_octets"), .str (Str.ofString "most_octets") u1, .int room e1⟩, ⟨PyData.keyHash w.params (Str.ofString "things"), .str (Str.ofString "things") u2, .ref th⟩, ⟨PyData.keyHash w.params (Str.ofString "octets"), .str (Str.ofString "octets") u3, .int oc e2⟩, ⟨PyData.keyHash w.params (Str.ofString "dropped"), .str (Str.ofString "dropped") u4, .int dr e3⟩] 5) ∈ news) (mt : (th, listOf (v :: us).toArray k) ∈ news) (ml : (l, listOf #[.int 1 t1] kl) ∈ news) (hl2 : (v :: us).length ≤ 1000) (hu : Tups news (v :: us) (q9 :: qs)) (hd : dp + 2 < recursionLimit) (hu2 : un + 96 < cLine)
    (ret : ∀ (t : Tok) (h' : Heap) (tk' : Nat), Fr h₀ L h' m → News h₀ L h' news → Q (.bool true) { s with heap := h', toks := tk' }) :
    wpAny (model PySem.Challenge.pw_xm0985_01 w) (ktrTop dp un gd cn cs L a ccd cl outer) (call (.ref 372) [.ref rw, .int 1 ti, .ref l]) Q E s := by
  exact mg_10 (us := us) B F X (fun z hz => by
    simp only [List.mem_cons] at hz
    rcases hz with h | h | h | h | h | h
    · exact N z (h ▸ mr)
    · exact N z (h ▸ mq)
    · exact N z (h ▸ md)
    · exact N z (h ▸ mt)
    · exact N z (h ▸ ml)
    · exact N z h) T hk hl2 hu hd hu2 fun t h' tk' F' N' => ret t h' tk' F' fun z hz => N' z (.tail _ (.tail _ (.tail _ (.tail _ (.tail _ hz)))))
theorem mg_02 {w : World} {p : Program} {loose : List Str} {mean : ExcName → Option Value} {mg mb : Str → Option Value}
    {dp un : Nat} {gd : Option (List Code)} {cn : Str} {cs : Scope} {a : Addr} {ccd : Value} {cl : List (Str × Addr)} {outer : List Env} {A₀ : Around} {base h₀ : Heap} {L : Addr} {m : Str → Option Value} {s : Shared} {Q E : Value → Shared → Prop}
    {news : List (Addr × Obj)} {q d th : Addr} {most room oc dr : Int} {e0 e1 e2 e3 u0 u1 u2 u3 u4 : Tok} {us : List Value} {k : Nat} {rw z9 : Addr} {kr : Nat} {ti : Tok} {v : Value} {q9 : Int × Int} {qs : List (Int × Int)} {l : Addr} {kl : Nat} {t1 t2 : Tok}
    (B : Below A₀ base outer h₀) (F : Fr h₀ L s.heap m) (X : (Mine.K w.params).In h₀) (N : News h₀ L s.heap news) (T : Top p loose mean mg mb h₀) (hk : cs.kind = .function)
    (mr : (rw, listOf #[.ref z9, .ref q] kr) ∈ news) (mq : (q, instObj 361 d) ∈ news) (md : (d, dictOf [⟨PyData.keyHash w.params (Str.ofString "most"), .str (Str.ofString "most") u0, .int most e0⟩, ⟨PyData.keyHash w.params (Str.ofString "most_octets"), .str (Str.ofString "most_octets") u1, .int room e1⟩, ⟨PyData.keyHash w.params (Str.ofString "things"), .str (Str.ofString "things") u2, .ref th⟩, ⟨PyData.keyHash w.params (Str.ofString "octets"), .str (Str.ofString "octets") u3, .int oc e2⟩, ⟨PyData.keyHash w.params (Str.ofString "dropped"), .str (Str.ofString "dropped") u4, .int dr e3⟩] 5) ∈ news) (mt : (th, listOf (v :: us).toArray k) ∈ news) (ml : (l, listOf #[.int 0 t1, .int 2 t2] kl) ∈ news) (hl2 : (v :: us).length ≤ 1000) (hu : Tups news (v :: us) (q9 :: qs)) (hd : dp + 2 < recursionLimit) (hu2 : un + 96 < cLine)
    (ret : ∀ (t : Tok) (h' : Heap) (tk' : Nat), Fr h₀ L h' m → News h₀ L h' news → Q (.bool false) { s with heap := h', toks := tk' }) :
    wpAny (model PySem.Challenge.pw_xm0985_01 w) (ktrTop dp un gd cn cs L a ccd cl outer) (call (.ref 372) [.ref rw, .int 1 ti, .ref l]) Q E s := by
  exact mg_020 (us := us) B F X (fun z hz => by
    simp only [List.mem_cons] at hz
    rcases hz with h | h | h | h | h | h
    · exact N z (h ▸ mr)
    · exact N z (h ▸ mq)
    · exact N z (h ▸ md)
    · exact N z (h ▸ mt)
    · exact N z (h ▸ ml)
    · exact N z h) T hk hl2 hu hd hu2 fun t h' tk' F' N' => ret t h' tk' F' fun z hz => N' z (.tail _ (.tail _ (.tail _ (.tail _ (.tail _ hz)))))
theorem mg_e {w : World} {p : Program} {loose : List Str} {mean : ExcName → Option Value} {mg mb : Str → Option Value}
    {dp un : Nat} {gd : Option (List Code)} {cn : Str} {cs : Scope} {a : Addr} {ccd : Value} {cl : List (Str × Addr)} {outer : List Env} {A₀ : Around} {base h₀ : Heap} {L : Addr} {m : Str → Option Value} {s : Shared} {Q E : Value → Shared → Prop}
    {news : List (Addr × Obj)} {q d th : Addr} {most room oc dr : Int} {e0 e1 e2 e3 u0 u1 u2 u3 u4 : Tok} {us : List Value} {k : Nat} {rw z9 : Addr} {kr : Nat} {ti : Tok} {v : Value} {q9 : Int × Int} {qs : List (Int × Int)} {l : Addr} {kl : Nat}
    (B : Below A₀ base outer h₀) (F : Fr h₀ L s.heap m) (X : (Mine.K w.params).In h₀) (N : News h₀ L s.heap news) (T : Top p loose mean mg mb h₀) (hk : cs.kind = .function)
    (mr : (rw, listOf #[.ref z9, .ref q] kr) ∈ news) (mq : (q, instObj 361 d) ∈ news) (md : (d, dictOf [⟨PyData.keyHash w.params (Str.ofString "most"), .str (Str.ofString "most") u0, .int most e0⟩, ⟨PyData.keyHash w.params (Str.ofString "most_octets"), .str (Str.ofString "most_octets") u1, .int room e1⟩, ⟨PyData.keyHash w.params (Str.ofString "things"), .str (Str.ofString "things") u2, .ref th⟩, ⟨PyData.keyHash w.params (Str.ofString "octets"), .str (Str.ofString "octets") u3, .int oc e2⟩, ⟨PyData.keyHash w.params (Str.ofString "dropped"), .str (Str.ofString "dropped") u4, .int dr e3⟩] 5) ∈ news) (mt : (th, listOf (v :: us).toArray k) ∈ news) (ml : (l, listOf #[] kl) ∈ news) (hl2 : (v :: us).length ≤ 1000) (hu : Tups news (v :: us) (q9 :: qs)) (hd : dp + 2 < recursionLimit) (hu2 : un + 96 < cLine)
    (ret : ∀ (t : Tok) (h' : Heap) (tk' : Nat), Fr h₀ L h' m → News h₀ L h' news → Q (.bool false) { s with heap := h', toks := tk' }) :
    wpAny (model PySem.Challenge.pw_xm0985_01 w) (ktrTop dp un gd cn cs L a ccd cl outer) (call (.ref 372) [.ref rw, .int 1 ti, .ref l]) Q E s := by
  exact mg_e0 (us := us) B F X (fun z hz => by
    simp only [List.mem_cons] at hz
    rcases hz with h | h | h | h | h | h
    · exact N z (h ▸ mr)
    · exact N z (h ▸ mq)
    · exact N z (h ▸ md)
    · exact N z (h ▸ mt)
    · exact N z (h ▸ ml)
    · exact N z h) T hk hl2 hu hd hu2 fun t h' tk' F' N' => ret t h' tk' F' fun z hz => N' z (.tail _ (.tail _ (.tail _ (.tail _ (.tail _ hz)))))
theorem wd_54 : True := by
  k_with "call ref" => ((k_here; (with_reducible show wpAny _ _ (call (Value.ref 372) [Value.ref _, Value.int 1 _, Value.ref _]) _ _ _); k_dflt (refine' mg_e ?kB ?kF ?kX ?kN ?kT ?kK ?mr ?mq ?md ?mt ?ml ?kl ?ht ?kd ?ke ?_; (case kB => k_asm); (case kF => k_asm); (case kX => k_asm); (case kN => k_asm); (case kT => k_asm); (case kK => first | exact rfl | assumption); (case mr => k_mem); (case mq => k_mem); (case md => k_mem); (case mt => k_mem); (case ml => k_mem); (case kl => assumption); (case ht => (refine' Tups.mono ?b ?a; (case a => assumption); (case b => (intro q9 hq9; repeat (first | exact hq9 | refine List.Mem.tail _ ?_))))); (case kd => ktr_room); (case ke => ktr_units)); intro t' h' tk' F' N'; (try dsimp only at N'); (try dsimp only); (try k_sweep); walk_say "mg_e"))
  k_with "call ref" => ((k_here; (with_reducible show wpAny _ _ (call (Value.ref 372) [Value.ref _, Value.int 1 _, Value.ref _]) _ _ _); k_dflt (refine' mg_02 ?kB ?kF ?kX ?kN ?kT ?kK ?mr ?mq ?md ?mt ?ml ?kl ?ht ?kd ?ke ?_; (case kB => k_asm); (case kF => k_asm); (case kX => k_asm); (case kN => k_asm); (case kT => k_asm); (case kK => first | exact rfl | assumption); (case mr => k_mem); (case mq => k_mem); (case md => k_mem); (case mt => k_mem); (case ml => k_mem); (case kl => assumption); (case ht => (refine' Tups.mono ?b ?a; (case a => assumption); (case b => (intro q9 hq9; repeat (first | exact hq9 | refine List.Mem.tail _ ?_))))); (case kd => ktr_room); (case ke => ktr_units)); intro t' h' tk' F' N'; (try dsimp only at N'); (try dsimp only); (try k_sweep); walk_say "mg_02"))
  k_with "call ref" => ((k_here; (with_reducible show wpAny _ _ (call (Value.ref 372) [Value.ref _, Value.int 1 _, Value.ref _]) _ _ _); k_dflt (refine' mg_1 ?kB ?kF ?kX ?kN ?kT ?kK ?mr ?mq ?md ?mt ?ml ?kl ?ht ?kd ?ke ?_; (case kB => k_asm); (case kF => k_asm); (case kX => k_asm); (case kN => k_asm); (case kT => k_asm); (case kK => first | exact rfl | assumption); (case mr => k_mem); (case mq => k_mem); (case md => k_mem); (case mt => k_mem); (case ml => k_mem); (case kl => assumption); (case ht => (refine' Tups.mono ?b ?a; (case a => assumption); (case b => (intro q9 hq9; repeat (first | exact hq9 | refine List.Mem.tail _ ?_))))); (case kd => ktr_room); (case ke => ktr_units)); intro t' h' tk' F' N'; (try dsimp only at N'); (try dsimp only); (try k_sweep); walk_say "mg_1"))
  k_with "call ref" => ((k_here; (with_reducible show wpAny _ _ (call (Value.ref 372) [Value.ref _, Value.int 1 _, Value.none]) _ _ _); k_dflt (refine' mg_c ?kB ?kF ?kX ?kN ?kT ?kK ?mr ?mq ?md ?mt ?kl ?ht ?kd ?ke ?_; (case kB => k_asm); (case kF => k_asm); (case kX => k_asm); (case kN => k_asm); (case kT => k_asm); (case kK => first | exact rfl | assumption); (case mr => k_mem); (case mq => k_mem); (case md => k_mem); (case mt => k_mem); (case kl => assumption); (case ht => (refine' Tups.mono ?b ?a; (case a => assumption); (case b => (intro q9 hq9; repeat (first | exact hq9 | refine List.Mem.tail _ ?_))))); (case kd => ktr_room); (case ke => ktr_units)); intro t' h' tk' F' N'; (try dsimp only at N'); (try dsimp only); (try k_sweep); walk_say "mg_c"))
  k_with "call ref" => ((k_here; (with_reducible show wpAny _ _ (call (Value.ref 372) [Value.ref _, Value.int 1 _, _]) _ _ _); k_dflt (refine' mg_n ?kB ?kF ?kX ?kN ?kT ?kK ?mr ?mq ?md ?mt ?kd ?ke ?_; (case kB => k_asm); (case kF => k_asm); (case kX => k_asm); (case kN => k_asm); (case kT => k_asm); (case kK => first | exact rfl | assumption); (case mr => k_mem); (case mq => k_mem); (case md => k_mem); (case mt => k_mem); (case kd => ktr_room); (case ke => ktr_units)); intro t' h' tk' F' N'; (try dsimp only at N'); (try dsimp only); (try k_sweep); walk_say "mg_n"))
  k_with "call ref" => ((k_here; (with_reducible show wpAny _ _ (call (Value.ref 372) [Value.ref _, Value.int 0 _, Value.none]) _ _ _); k_dflt (refine' mg_0 ?kB ?kF ?kX ?kN ?kT ?kK ?mr ?mq ?md ?mt ?kd ?ke ?_; (case kB => k_asm); (case kF => k_asm); (case kX => k_asm); (case kN => k_asm); (case kT => k_asm); (case kK => first | exact rfl | assumption); (case mr => k_mem); (case mq => k_mem); (case md => k_mem); (case mt => k_mem); (case kd => ktr_room); (case ke => ktr_units)); intro t' h' tk' F' N'; (try dsimp only at N'); (try dsimp only); (try k_sweep); walk_say "mg_0"))
  trivial
theorem mapA {x : Str} {u1 u2 u3 u4 u5 : Option Value} {m : Str → Option Value} : (fun y => if y = x then u1 else if y = x then u2 else if y = x then u3 else if y = x then u4 else if y = x then u5 else m y) = (fun y => if y = x then u1 else m y) := by
  funext y
  by_cases h : y = x
  · rw [if_pos h, if_pos h]
  · rw [if_neg h, if_neg h, if_neg h, if_neg h, if_neg h, if_neg h]
theorem unr_rm {h₀ h' : Heap} {L I : Addr} {oI : Obj} {m' : Str → Option Value} {all r1 : List (Addr × Obj)} {s : Shared} {tk : Nat} {rest : (Str → Option Value) → List (Addr × Obj) → Prop} (F : Fr h₀ L h' m') (N : News h₀ L h' all) (U : Rm I oI all r1) (r : rest m' r1) : UnrEndW h₀ L s [(I, oI)] rest { s with heap := h', toks := tk } :=
  turn_end F N U.mem U.sub U.off r
theorem wd_55 : True := by
  k_with "pyIter ref" => ((k_here; k_dflt (refine' iter_tupTurns ?kh ?kF ?kN ?km ?kc ?kd ?_; (case kh => rfl); (case kF => k_asm); (case kN => k_asm); (case km => k_mem); (case kc => rfl); (case kd => rfl)); intro I9 l1; (try k_lt l1); (try dsimp only [List.map])))
  k_with "UnrEndW" => ((k_dflt (refine' unr_rm ?kF ?kN ?kU ?_; (case kF => k_asm); (case kN => k_asm); (case kU => k_upd); refine ⟨And.intro (by k_mem) trivial, ?_⟩)))
  k_with "exec For Name Tuple cons nil" => ((k_here; k_dflt (refine' For_turns ?kF ?_ ?kS ?kE; (case kF => k_asm); (case kS => (intro _; rfl)); (case kE => exact hE))))
  trivial
set_option maxHeartbeats 4000000 in
theorem q_chk {w : World} {p : Program} {loose : List Str} {mean : ExcName → Option Value} {mg mb : Str → Option Value}
    {dp un : Nat} {gd : Option (List Code)} {cn : Str} {cs : Scope} {a : Addr} {ccd : Value} {cl : List (Str × Addr)} {outer : List Env} {base h₀ : Heap} {L₀ L : Addr} {s : Shared} {Q : Flow → Shared → Prop} {E : Value → Shared → Prop}
    {r rw q0 d0 t0 q1 d1 t1 hl : Addr} {most room dr : Int} {qs : List (Int × Int)} {w1 w2 w3 w4 : Option Value} {td tm tr e0 e1 e2 e3 f0 f1 f2 f3 u0 u1 u2 u3 u4 v0 v1 v2 v3 v4 : Tok} {vs us : List Value} {kh kr k0 k1 : Nat} {TS : List (Addr × Obj)}
    (B : Below (ktrTop dp un gd cn cs L₀ a ccd cl outer) base (envX cn cs L₀ a ccd cl :: outer) h₀) (X : (Mine.K w.params).In h₀) (T : Top p loose mean mg mb h₀)
    (F : Fr h₀ L s.heap (qM w1 w2 w3 w4 hl r rw dr most room td tm tr)) (N : News h₀ L s.heap TS) (mh : (hl, listOf vs.toArray kh) ∈ TS) (mr : (rw, listOf #[.ref q0, .ref q1] kr) ∈ TS) (m0 : (q0, instObj 361 d0) ∈ TS) (md0 : (d0, dictOf [⟨PyData.keyHash w.params (Str.ofString "most"), .str (Str.ofString "most") v0, .int 2 f0⟩, ⟨PyData.keyHash w.params (Str.ofString "most_octets"), .str (Str.ofString "most_octets") v1, .int 9 f1⟩, ⟨PyData.keyHash w.params (Str.ofString "things"), .str (Str.ofString "things") v2, .ref t0⟩, ⟨PyData.keyHash w.params (Str.ofString "octets"), .str (Str.ofString "octets") v3, .int 0 f2⟩, ⟨PyData.keyHash w.params (Str.ofString "dropped"), .str (Str.ofString "dropped") v4, .int 0 f3⟩] 5) ∈ TS) (mt0 : (t0, listOf #[] k0) ∈ TS) (m1 : (q1, instObj 361 d1) ∈ TS) (md1 : (d1, dictOf [⟨PyData.keyHash w.params (Str.ofString "most"), .str (Str.ofString "most") u0, .int most e0⟩, ⟨PyData.keyHash w.params (Str.ofString "most_octets"), .str (Str.ofString "most_octets") u1, .int room e1⟩, ⟨PyData.keyHash w.params (Str.ofString "things"), .str (Str.ofString "things") u2, .ref t1⟩, ⟨PyData.keyHash w.params (Str.ofString "octets"), .str (Str.ofString "octets") u3, .int (List.map Prod.fst qs).sum e2⟩, ⟨PyData.keyHash w.params (Str.ofString "dropped"), .str (Str.ofString "dropped") u4, .int dr e3⟩] 5) ∈ TS) (mt1 : (t1, listOf us.toArray k1) ∈ TS) (hv : Tups TS vs qs) (hu : Tups TS us qs) (hv1 : vs.length ≤ 1000) (hu1 : us.length ≤ 1000) (hE : PassesOwn (model PySem.Challenge.pw_xm0985_01 w) ((ktrTop dp un gd cn cs L₀ a ccd cl outer).deeper (envOf (Str.ofString "_law_queue_right") (fS (tp 48)) L 448 (.ref 447))) (envOf (Str.ofString "_law_queue_right") (fS (tp 48)) L 448 (.ref 447)) E) (hd : dp + 8 < recursionLimit) (hun : un + (64 + 8 * 8) < cLine)
    (k : ∀ (w4' : Option Value) (h' : Heap) (tk' : Nat), Fr h₀ L h' (qM w1 w2 w3 w4' hl r rw dr most room td tm tr) → News h₀ L h' TS → Q .next { s with heap := h', toks := tk' }) :
    wpAny (model PySem.Challenge.pw_xm0985_01 w) ((ktrTop dp un gd cn cs L₀ a ccd cl outer).deeper (envOf (Str.ofString "_law_queue_right") (fS (tp 48)) L 448 (.ref 447))) (execs qChk (envOf (Str.ofString "_law_queue_right") (fS (tp 48)) L 448 (.ref 447))) Q E s := by
  unfold qM at F
  rcases hv.split with ⟨rfl, rfl⟩ | ⟨v9, vs9, q9, qs9, rfl, rfl⟩
  · cases hu
    k_steps
    (with_reducible rename Fr _ _ _ _ => kF9)
    (with_reducible rename News _ _ _ _ => kN9)
    refine k _ _ _ (Eq.mp (congrArg (Fr _ _ _) mapA) kF9) (news_sub kN9 ?gs)
    case gs => k_dflt (intro q9 hq9; repeat (first | exact hq9 | refine List.Mem.tail _ ?_))
  · rcases hu.split with ⟨-, e9⟩ | ⟨v8, us9, q8, qs8, rfl, e9⟩
    · cases e9
    cases e9
    k_steps
    (with_reducible rename Fr _ _ _ _ => kF9)
    (with_reducible rename News _ _ _ _ => kN9)
    refine k _ _ _ (Eq.mp (congrArg (Fr _ _ _) mapA) kF9) (news_sub kN9 ?gs)
    case gs => k_dflt (intro q9 hq9; repeat (first | exact hq9 | refine List.Mem.tail _ ?_))
end
section
theorem wd_56 : True := by
  k_with_none
  k_with "eval Call" => (k_here; k_fold)
  k_with "eval BinOp" => (k_here; k_fold)
  k_with "eval Compare" => (k_here; k_fold)
  k_with "isTrue Compare" => (k_here; k_fold)
  k_with "isTrue Call" => (k_here; k_fold)
  k_with "eval BoolOp" => (k_here; k_fold)
  k_with "isTrue BoolOp" => (k_here; k_fold)
  k_with "isTrue" => (k_here; k_fold)
  k_with "eval Attribute" => (k_here; k_fold)
  k_with "eval Tuple" => (k_here; k_fold)
  k_with "eval List" => (k_here; k_fold)
  k_with "eval Subscript" => (k_here; k_fold)
  k_with "eval IfExp" => (k_here; k_fold)
  k_with "execs cons" => (k_here; with_reducible refine gen_tk ?_; intro tk; (try dsimp only))
  k_with "eval Call" => (k_here; with_reducible refine gen_tk ?_; intro tk; (try dsimp only))
  k_with "setAttr ref" => (k_here; with_reducible refine gen_tk ?_; intro tk; (try dsimp only))
  k_with "newList" => (k_here; with_reducible refine gen_tk ?_; intro tk; (try dsimp only))
  k_with "eval BinOp" => (k_here; with_reducible refine gen_tk ?_; intro tk; (try dsimp only))
  k_with "eval Subscript" => (k_here; with_reducible refine gen_tk ?_; intro tk; (try dsimp only))
  k_with "k_all" => (first | assumption | exact all_ne (by with_reducible assumption) (by (intro q9 hq9; repeat (first | exact hq9 | refine List.Mem.tail _ ?_))))
  k_with "subscriptTail Name Constant ref int" => ((k_here; k_dflt (refine' my_item ?k1 ?k2 ?k3 ?k4 ?k5 ?_ ?k7; (case k1 => k_asm); (case k2 => k_mem); (case k3 => decide); (case k4 => decide); (case k5 => exact rfl); (case k7 => with_unfolding_all rfl); k_whole)))
  k_with "call ref" => ((k_here; (with_reducible show wpAny _ _ (call (Value.ref 386) [Value.ref _, Value.int _ _]) _ _ _); k_dflt (refine' wind_at ?kB ?kF ?kX ?kN ?kT ?kK ?kU ?kx ?ky ?kz ?kt ?ku ?kd ?ke ?_; (case kB => k_asm); (case kF => k_asm); (case kX => k_asm); (case kN => k_asm); (case kT => k_asm); (case kK => first | exact rfl | assumption); (case kU => k_updF); (case kx => assumption); (case ky => assumption); (case kz => assumption); (case kt => omega); (case ku => omega); (case kd => ktr_room); (case ke => ktr_units)); intro d' x' y' td' tx' ty' h' tk' hd0 hd1 hx' hy' hz' F' N'; (try dsimp only at N'); (try dsimp only); (try k_sweep); walk_say "WIND"; (try k_extra "wind")))
  k_with "k_room" => (ktr_room)
  k_with "k_units" => (ktr_units)
  k_with "ktr_rel" => ((intro q9 hq9; repeat (first | exact hq9 | refine List.Mem.tail _ ?_)))
  k_with "binaryOp Pow int int" => ((k_here; (refine' pow_lit ?kb1 ?kb2 ?kb3 ?_); (case kb1 => decide); (case kb2 => decide); (case kb3 => ((simp only [Int.reduceToNat, Int.reducePow]); exact rfl))))
  k_with "CompSrc" => ((k_here; k_dflt (first | (refine LCg.CompSrc.ledger (by rfl) (by k_asm) (by k_asm) (by k_mem) (by first | size_fits | exact Nat.le_of_ble_eq_true rfl) ?_; intro g'; lcg_lit) | (refine LCg.CompSrc.range (by rfl) (by k_asm) (by k_asm) (by assumption) (by first | decide | rfl) (by first | rfl | decide) (by first | size_fits | exact Nat.le_of_ble_eq_true rfl) ?_; intro g'; lcg_lit))))
  k_with "CompRest" => ((with_unfolding_all first | (refine LCg.CompRest.succ ?_; intro v' I' oI' C' oC' D' m' h' tk' E' hv' hC' hx' F' N' off' ne'; (first | lcg_open hv' | (obtain ⟨t9', hv9'⟩ := hv'; subst hv9')); (obtain ⟨ne1', ne2', ne3'⟩ := ne')) | refine LCg.CompRest.zero ?_))
  k_with "CompEnd" => ((first | (refine' compEnd0 ?kF ?kN ?ko ?kS ?_; (case kN => assumption); (case kF => assumption); (case ko => assumption); (case kS => lcg_src)) | (refine' compEnd2 ?kF ?kN ?kx ?kd ?ko ?kS ?_; (case kN => assumption); (case kF => assumption); (case kx => exact ⟨by k_ne, by k_ne, by k_ne⟩); (case kd => exact ⟨by k_ne, by k_ne, by k_ne⟩); (case ko => assumption); (case kS => lcg_src)) | (refine' compEnd1 ?kF ?kN ?kx ?ko ?kS ?_; (case kN => assumption); (case kF => assumption); (case kx => exact ⟨by k_ne, by k_ne, by k_ne⟩); (case ko => assumption); (case kS => lcg_src)) | lcg_end))
  k_with "k_ne" => ((refine neN ?_; (try dsimp only); first | (with_reducible assumption) | exact Ne.symm (by with_reducible assumption) | exact Nat.ne_of_gt (by with_reducible assumption) | exact Nat.ne_of_lt (by with_reducible assumption) | exact neA (by with_reducible assumption) (by k_mem) | exact Ne.symm (neA (by with_reducible assumption) (by k_mem)) | exact neO (by with_reducible assumption) (by k_mem) | exact Ne.symm (neO (by with_reducible assumption) (by k_mem)) | exact neI (by with_reducible assumption) (by k_mem) | exact Ne.symm (neI (by with_reducible assumption) (by k_mem)) | exact neC (by with_reducible assumption) (by k_mem) | exact Ne.symm (neC (by with_reducible assumption) (by k_mem)) | exact neD (by with_reducible assumption) (by k_mem) | exact Ne.symm (neD (by with_reducible assumption) (by k_mem)) | exact neA2 (by with_reducible assumption) (by with_reducible assumption) (by k_mem) | exact Ne.symm (neA2 (by with_reducible assumption) (by with_reducible assumption) (by k_mem)) | omega))
  k_with "FinE" => (((unfold LCg.FinE); intro D' h' tk' F' N' o1'; (try simp only [List.nil_append, List.cons_append] at N'); (try dsimp only)))
  k_with "FinA" => (((unfold LCg.FinA); intro D' h' tk' F' N' o1'; (try simp only [List.nil_append, List.cons_append] at N'); (try dsimp only)))
  trivial
theorem mapQT {w1 w2 w3 w4 : Option Value} {hl hl' r rw : Addr} {dr dr' most room : Int} {td tm tr t9 : Tok} {u v : Value} : (fun y : Str => (if y = Str.ofString "turn" then some u else if y = Str.ofString "allowed" then w4 else if y = Str.ofString "has_room" then w3 else if y = Str.ofString "size" then w2 else if y = Str.ofString "turn" then w1 else if y = Str.ofString "dropped" then some (.int dr td) else if y = Str.ofString "held" then some (.ref hl) else if y = Str.ofString "rows" then some (.ref rw) else if y = Str.ofString "room" then some (.int room tr) else if y = Str.ofString "most" then some (.int most tm) else if y = Str.ofString "reel" then some (.ref r) else none : Option Value)) = (fun y : Str => (if y = Str.ofString "allowed" then w4 else if y = Str.ofString "has_room" then w3 else if y = Str.ofString "size" then w2 else if y = Str.ofString "turn" then some u else if y = Str.ofString "dropped" then some (.int dr td) else if y = Str.ofString "held" then some (.ref hl) else if y = Str.ofString "rows" then some (.ref rw) else if y = Str.ofString "room" then some (.int room tr) else if y = Str.ofString "most" then some (.int most tm) else if y = Str.ofString "reel" then some (.ref r) else none : Option Value)) := by
  funext y
  by_cases h0 : y = Str.ofString "allowed"
  · subst h0; simp (decide := true) only [if_true, if_false]
  by_cases h1 : y = Str.ofString "has_room"
  · subst h1; simp (decide := true) only [if_true, if_false]
  by_cases h2 : y = Str.ofString "size"
  · subst h2; simp (decide := true) only [if_true, if_false]
  by_cases h3 : y = Str.ofString "turn"
  · subst h3; simp (decide := true) only [if_true, if_false]
  simp only [if_neg h0, if_neg h1, if_neg h2, if_neg h3]
theorem mapQ0 {w1 w2 w3 w4 : Option Value} {hl hl' r rw : Addr} {dr dr' most room : Int} {td tm tr t9 : Tok} {u v : Value} : (fun y : Str => (if y = Str.ofString "dropped" then some (.int dr td) else if y = Str.ofString "held" then some (.ref hl) else if y = Str.ofString "rows" then some (.ref rw) else if y = Str.ofString "room" then some (.int room tr) else if y = Str.ofString "most" then some (.int most tm) else if y = Str.ofString "reel" then some (.ref r) else none : Option Value)) = (fun y : Str => (if y = Str.ofString "allowed" then none else if y = Str.ofString "has_room" then none else if y = Str.ofString "size" then none else if y = Str.ofString "turn" then none else if y = Str.ofString "dropped" then some (.int dr td) else if y = Str.ofString "held" then some (.ref hl) else if y = Str.ofString "rows" then some (.ref rw) else if y = Str.ofString "room" then some (.int room tr) else if y = Str.ofString "most" then some (.int most tm) else if y = Str.ofString "reel" then some (.ref r) else none : Option Value)) := by
  funext y
  by_cases h0 : y = Str.ofString "allowed"
  · subst h0; simp (decide := true) only [if_true, if_false]
  by_cases h1 : y = Str.ofString "has_room"
  · subst h1; simp (decide := true) only [if_true, if_false]
  by_cases h2 : y = Str.ofString "size"
  · subst h2; simp (decide := true) only [if_true, if_false]
  by_cases h3 : y = Str.ofString "turn"
  · subst h3; simp (decide := true) only [if_true, if_false]
  simp only [if_neg h0, if_neg h1, if_neg h2, if_neg h3]
noncomputable def qRest : List Stmt := (bodyOf (fB (tp 48))).drop 2
noncomputable def qRet : List Stmt := (bodyOf (fB (tp 48))).drop 3
theorem rs11 {d : Int} (h0 : 0 ≤ d) (h : d < 11) : Builtin.Range.small 0 d 1 = true ∧ Builtin.Range.rangeSize 0 d 1 = ((d.toNat : Nat) : Int) ∧ d.toNat ≤ 10 := by
  have : d = 0 ∨ d = 1 ∨ d = 2 ∨ d = 3 ∨ d = 4 ∨ d = 5 ∨ d = 6 ∨ d = 7 ∨ d = 8 ∨ d = 9 ∨ d = 10 := by omega
  rcases this with h | h | h | h | h | h | h | h | h | h | h <;> subst h <;> exact ⟨by decide, by decide, by decide⟩
theorem wd_57 : True := by
  k_with "k_mem" => (((repeat (first | exact List.Mem.head _ | refine' List.Mem.tail _ ?_)); first | done | (show (_ : Addr × Obj) ∈ (_ : List (Addr × Obj)); with_reducible assumption)))
  k_with "k_upd" => (first | (refine' Rm.head ?a; (case a => k_all)) | (refine' Rm.tail ?a ?b; (case a => k_ne); (case b => k_upd)) | fail "k_upd")
  k_with "k_all" => (first | assumption | (refine' all_neD ?l ?e; (case l => with_reducible assumption); (case e => exact rfl)) | exact allN_nil | (refine' all_sub ?l ?s; (case l => with_reducible assumption); (case s => (intro q9 hq9; repeat (first | exact hq9 | refine List.Mem.tail _ ?_)))) | (refine allN_cons (by k_ne) ?_; k_all) | fail "k_all")
  k_with "k_ne" => ((refine neN ?_; (try dsimp only); first | exact neQ (by with_reducible assumption) (by k_mem) | exact Ne.symm (neQ (by with_reducible assumption) (by k_mem)) | fail "k_ne"))
  k_with "exec For Name Call cons nil" => ((k_here; refine held ?_))
  k_with "pyIter ref" => ((k_here; refine held ?_))
  k_with "execs cons" => ((k_here; (with_reducible show wpAny _ _ (execs [_, _, _, _, _] _) _ _ _); refine held ?_))
  k_with "execs cons" => ((k_here; (with_reducible show wpAny _ _ (execs [Stmt.Return _ _] _) _ _ _); refine held ?_))
  trivial
set_option maxHeartbeats 4000000 in
theorem q_loop {w : World} {p : Program} {loose : List Str} {mean : ExcName → Option Value} {mg mb : Str → Option Value}
    {dp un : Nat} {gd : Option (List Code)} {cn : Str} {cs : Scope} {a : Addr} {ccd : Value} {cl : List (Str × Addr)} {outer : List Env} {base h₀ : Heap} {L₀ L : Addr} {s : Shared} {Q : Flow → Shared → Prop} {E : Value → Shared → Prop}
    {r rw q0 d0 t0 q1 d1 t1 hl : Addr} {most room : Int} {nn : Nat} {td tm tr : Tok} {led : List (Addr × Obj)}
    (B : Below (ktrTop dp un gd cn cs L₀ a ccd cl outer) base (envX cn cs L₀ a ccd cl :: outer) h₀) (X : (Mine.K w.params).In h₀) (T : Top p loose mean mg mb h₀)
    (F : Fr h₀ L s.heap (fun z => if z = Str.ofString "dropped" then some (.int 0 td) else if z = Str.ofString "held" then some (.ref hl) else if z = Str.ofString "rows" then some (.ref rw) else if z = Str.ofString "room" then some (.int room tr) else if z = Str.ofString "most" then some (.int most tm) else if z = Str.ofString "reel" then some (.ref r) else none)) (N : News h₀ L s.heap led) (hQ : QSt w most room r rw q0 d0 t0 q1 d1 t1 nn hl 0 [] led) (hd : dp + 9 < recursionLimit) (hun : un + (64 + 8 * 9) < cLine)
    (hE : PassesOwn (model PySem.Challenge.pw_xm0985_01 w) ((ktrTop dp un gd cn cs L₀ a ccd cl outer).deeper (envOf (Str.ofString "_law_queue_right") (fS (tp 48)) L 448 (.ref 447))) (envOf (Str.ofString "_law_queue_right") (fS (tp 48)) L 448 (.ref 447)) E)
    (k : ∀ (hl' : Addr) (dr' : Int) (td' : Tok) (qs' : List (Int × Int)) (led' : List (Addr × Obj)) (w1 w2 w3 w4 : Option Value) (h' : Heap) (tk' : Nat), QSt w most room r rw q0 d0 t0 q1 d1 t1 nn hl' dr' qs' led' → Fr h₀ L h' (qM w1 w2 w3 w4 hl' r rw dr' most room td' tm tr) → News h₀ L h' led' → wpAny (model PySem.Challenge.pw_xm0985_01 w) ((ktrTop dp un gd cn cs L₀ a ccd cl outer).deeper (envOf (Str.ofString "_law_queue_right") (fS (tp 48)) L 448 (.ref 447))) (execs qRet (envOf (Str.ofString "_law_queue_right") (fS (tp 48)) L 448 (.ref 447))) Q E { s with heap := h', toks := tk' }) :
    wpAny (model PySem.Challenge.pw_xm0985_01 w) ((ktrTop dp un gd cn cs L₀ a ccd cl outer).deeper (envOf (Str.ofString "_law_queue_right") (fS (tp 48)) L 448 (.ref 447))) (execs qRest (envOf (Str.ofString "_law_queue_right") (fS (tp 48)) L 448 (.ref 447))) Q E s := by
  have hQ0 := hQ
  obtain ⟨x, y, tx, ty, e0, e1, e2, e3, f0, f1, f2, f3, u0, u1, u2, u3, u4, v0, v1, v2, v3, v4, vs, us, kh, kr, k0, k1, TS, hx, hy, hz, hv, hu, Hr, Hd, Ht⟩ := hQ
  k_steps
  unfold Held
  (with_reducible rename Fr _ _ _ _ => kF9)
  refine For_turns (hE := hE) kF9 ?_
  k_steps
  unfold Held
  (with_reducible rename IsRange _ _ _ _ _ _ _ _ => hr9)
  (with_reducible rename _ < (11 : Int) => hB9)
  have hS9 := rs11 (by assumption) hB9
  (with_reducible rename News _ _ _ _ => kN9)
  refine iter_rangeJ (n := Int.toNat _) (fun i m₁ nw => ∃ (hl' : Addr) (dr' : Int) (td' : Tok) (qs' : List (Int × Int)) (w1 w2 w3 w4 : Option Value), m₁ = qM w1 w2 w3 w4 hl' r rw dr' most room td' tm tr ∧ QSt w most room r rw q0 d0 t0 q1 d1 t1 nn hl' dr' qs' nw ∧ qs'.length ≤ i)
    (by rfl) (by k_asm) (by k_asm) hr9 hS9.1 hS9.2.1 (fun it v => by rfl) ⟨hl, 0, td, [], none, none, none, none, ?gM, ?gQ, Nat.le_refl _⟩ ?_ ?_
  case gM => exact mapQ0 (w1 := none) (w2 := none) (w3 := none) (w4 := none) (hl' := 0) (dr' := 0) (t9 := 0) (u := .none) (v := .none)
  case gQ => exact QSt.mk' (by assumption) (by assumption) (by assumption) hv hu Hr Hd Ht
  · rintro i m₁ nw h tk tv I oI hi ⟨hl', dr', td', qs', w1, w2, w3, w4, rfl, hQ', hql⟩ hI F N
    unfold qM at F
    k_steps
    unfold Held
    (with_reducible rename Fr _ _ _ _ => kF8)
    (with_reducible rename News _ _ _ _ => kN8)
    refine q_step B X T (Eq.mp (congrArg (Fr _ _ _) (mapQT (hl' := 0) (dr' := 0) (t9 := 0) (v := .none))) kF8) kN8 hQ' hI (by omega) (by omega) (by omega) fun hl2 dr2 td2 qs2 led2 w2' w3' h2 tk2 hQ2 hI2 hl2' F2 N2 => ?_
    have hQ3 := hQ2
    obtain ⟨x2, y2, tx2, ty2, e0_2, e1_2, e2_2, e3_2, f0_2, f1_2, f2_2, f3_2, u0_2, u1_2, u2_2, u3_2, u4_2, v0_2, v1_2, v2_2, v3_2, v4_2, vs2, us2, kh2, kr2, k02, k12, TS2, hx2, hy2, hz2, hv2, hu2, Hr2, Hd2, Ht2⟩ := hQ2
    have hlv := hv2.length
    have hlu := hu2.length
    refine q_chk (vs := vs2) (us := us2) B X T F2 N2 (.tail _ (.head _)) (.tail _ (.tail _ (.tail _ (.head _)))) (.tail _ (.tail _ (.tail _ (.tail _ (.head _))))) (.tail _ (.tail _ (.tail _ (.tail _ (.tail _ (.head _)))))) (.tail _ (.tail _ (.tail _ (.tail _ (.tail _ (.tail _ (.head _))))))) (.tail _ (.tail _ (.tail _ (.tail _ (.tail _ (.tail _ (.tail _ (.head _)))))))) (.tail _ (.tail _ (.tail _ (.tail _ (.tail _ (.tail _ (.tail _ (.tail _ (.head _))))))))) (.tail _ (.tail _ (.tail _ (.tail _ (.tail _ (.tail _ (.tail _ (.tail _ (.tail _ (.head _)))))))))) (hv2.mono fun q h => .tail _ (.tail _ (.tail _ (.tail _ (.tail _ (.tail _ (.tail _ (.tail _ (.tail _ (.tail _ (h))))))))))) (hu2.mono fun q h => .tail _ (.tail _ (.tail _ (.tail _ (.tail _ (.tail _ (.tail _ (.tail _ (.tail _ (.tail _ (h))))))))))) (by omega) (by omega) hE (by omega) (by omega) fun w4' h3 tk3 F3 N3 => ?_
    exact turn_end F3 N3 (.head _) (fun q h => .tail _ h) hI2 ⟨_, _, _, _, _, _, _, _, rfl, hQ3, by omega⟩
  · rintro h tk m₁ nw ⟨hl', dr', td', qs', w1, w2, w3, w4, rfl, hQ', -⟩ F N
    unfold qM at F
    k_steps
    unfold Held
    (with_reducible rename Fr _ _ _ _ => kF8)
    (with_reducible rename News _ _ _ _ => kN8)
    exact k _ _ _ _ _ _ _ _ _ _ _ hQ' kF8 kN8
end
section
theorem wd_58 : True := by
  k_with_none
  k_with "eval Call" => (k_here; k_fold)
  k_with "eval BinOp" => (k_here; k_fold)
  k_with "eval Compare" => (k_here; k_fold)
  k_with "isTrue Compare" => (k_here; k_fold)
  k_with "isTrue Call" => (k_here; k_fold)
  k_with "eval BoolOp" => (k_here; k_fold)
  k_with "isTrue BoolOp" => (k_here; k_fold)
  k_with "isTrue" => (k_here; k_fold)
  k_with "eval Attribute" => (k_here; k_fold)
  k_with "eval Tuple" => (k_here; k_fold)
  k_with "eval List" => (k_here; k_fold)
  k_with "eval Subscript" => (k_here; k_fold)
  k_with "eval IfExp" => (k_here; k_fold)
  k_with "execs cons" => (k_here; with_reducible refine gen_tk ?_; intro tk; (try dsimp only))
  k_with "eval Call" => (k_here; with_reducible refine gen_tk ?_; intro tk; (try dsimp only))
  k_with "setAttr ref" => (k_here; with_reducible refine gen_tk ?_; intro tk; (try dsimp only))
  k_with "newList" => (k_here; with_reducible refine gen_tk ?_; intro tk; (try dsimp only))
  k_with "eval BinOp" => (k_here; with_reducible refine gen_tk ?_; intro tk; (try dsimp only))
  k_with "eval Subscript" => (k_here; with_reducible refine gen_tk ?_; intro tk; (try dsimp only))
  k_with "k_all" => (first | assumption | exact all_ne (by with_reducible assumption) (by (intro q9 hq9; repeat (first | exact hq9 | refine List.Mem.tail _ ?_))))
  k_with "subscriptTail Name Constant ref int" => ((k_here; k_dflt (refine' my_item ?k1 ?k2 ?k3 ?k4 ?k5 ?_ ?k7; (case k1 => k_asm); (case k2 => k_mem); (case k3 => decide); (case k4 => decide); (case k5 => exact rfl); (case k7 => with_unfolding_all rfl); k_whole)))
  k_with "call ref" => ((k_here; (with_reducible show wpAny _ _ (call (Value.ref 386) [Value.ref _, Value.int _ _]) _ _ _); k_dflt (refine' wind_at ?kB ?kF ?kX ?kN ?kT ?kK ?kU ?kx ?ky ?kz ?kt ?ku ?kd ?ke ?_; (case kB => k_asm); (case kF => k_asm); (case kX => k_asm); (case kN => k_asm); (case kT => k_asm); (case kK => first | exact rfl | assumption); (case kU => k_updF); (case kx => assumption); (case ky => assumption); (case kz => assumption); (case kt => omega); (case ku => omega); (case kd => ktr_room); (case ke => ktr_units)); intro d' x' y' td' tx' ty' h' tk' hd0 hd1 hx' hy' hz' F' N'; (try dsimp only at N'); (try dsimp only); (try k_sweep); walk_say "WIND"; (try k_extra "wind")))
  k_with "k_room" => (ktr_room)
  k_with "k_units" => (ktr_units)
  k_with "ktr_rel" => ((intro q9 hq9; repeat (first | exact hq9 | refine List.Mem.tail _ ?_)))
  k_with "binaryOp Pow int int" => ((k_here; (refine' pow_lit ?kb1 ?kb2 ?kb3 ?_); (case kb1 => decide); (case kb2 => decide); (case kb3 => ((simp only [Int.reduceToNat, Int.reducePow]); exact rfl))))
  k_with "CompSrc" => ((k_here; k_dflt (first | (refine LCg.CompSrc.ledger (by rfl) (by k_asm) (by k_asm) (by k_mem) (by first | size_fits | exact Nat.le_of_ble_eq_true rfl) ?_; intro g'; lcg_lit) | (refine LCg.CompSrc.range (by rfl) (by k_asm) (by k_asm) (by assumption) (by first | decide | rfl) (by first | rfl | decide) (by first | size_fits | exact Nat.le_of_ble_eq_true rfl) ?_; intro g'; lcg_lit))))
  k_with "CompRest" => ((with_unfolding_all first | (refine LCg.CompRest.succ ?_; intro v' I' oI' C' oC' D' m' h' tk' E' hv' hC' hx' F' N' off' ne'; (first | lcg_open hv' | (obtain ⟨t9', hv9'⟩ := hv'; subst hv9')); (obtain ⟨ne1', ne2', ne3'⟩ := ne')) | refine LCg.CompRest.zero ?_))
  k_with "CompEnd" => ((first | (refine' compEnd0 ?kF ?kN ?ko ?kS ?_; (case kN => assumption); (case kF => assumption); (case ko => assumption); (case kS => lcg_src)) | (refine' compEnd2 ?kF ?kN ?kx ?kd ?ko ?kS ?_; (case kN => assumption); (case kF => assumption); (case kx => exact ⟨by k_ne, by k_ne, by k_ne⟩); (case kd => exact ⟨by k_ne, by k_ne, by k_ne⟩); (case ko => assumption); (case kS => lcg_src)) | (refine' compEnd1 ?kF ?kN ?kx ?ko ?kS ?_; (case kN => assumption); (case kF => assumption); (case kx => exact ⟨by k_ne, by k_ne, by k_ne⟩); (case ko => assumption); (case kS => lcg_src)) | lcg_end))
  k_with "k_ne" => ((refine neN ?_; (try dsimp only); first | (with_reducible assumption) | exact Ne.symm (by with_reducible assumption) | exact Nat.ne_of_gt (by with_reducible assumption) | exact Nat.ne_of_lt (by with_reducible assumption) | exact neA (by with_reducible assumption) (by k_mem) | exact Ne.symm (neA (by with_reducible assumption) (by k_mem)) | exact neO (by with_reducible assumption) (by k_mem) | exact Ne.symm (neO (by with_reducible assumption) (by k_mem)) | exact neI (by with_reducible assumption) (by k_mem) | exact Ne.symm (neI (by with_reducible assumption) (by k_mem)) | exact neC (by with_reducible assumption) (by k_mem) | exact Ne.symm (neC (by with_reducible assumption) (by k_mem)) | exact neD (by with_reducible assumption) (by k_mem) | exact Ne.symm (neD (by with_reducible assumption) (by k_mem)) | exact neA2 (by with_reducible assumption) (by with_reducible assumption) (by k_mem) | exact Ne.symm (neA2 (by with_reducible assumption) (by with_reducible assumption) (by k_mem)) | omega))
  k_with "FinE" => (((unfold LCg.FinE); intro D' h' tk' F' N' o1'; (try simp only [List.nil_append, List.cons_append] at N'); (try dsimp only)))
  k_with "FinA" => (((unfold LCg.FinA); intro D' h' tk' F' N' o1'; (try simp only [List.nil_append, List.cons_append] at N'); (try dsimp only)))
  k_with "k_mem" => (((repeat (first | exact List.Mem.head _ | refine' List.Mem.tail _ ?_)); first | done | (show (_ : Addr × Obj) ∈ (_ : List (Addr × Obj)); with_reducible assumption)))
  k_with "k_upd" => (first | (refine' Rm.head ?a; (case a => k_all)) | (refine' Rm.tail ?a ?b; (case a => k_ne); (case b => k_upd)) | fail "k_upd")
  k_with "k_all" => (first | assumption | (refine' all_neD ?l ?e; (case l => with_reducible assumption); (case e => exact rfl)) | exact allN_nil | (refine' all_sub ?l ?s; (case l => with_reducible assumption); (case s => (intro q9 hq9; repeat (first | exact hq9 | refine List.Mem.tail _ ?_)))) | (refine allN_cons (by k_ne) ?_; k_all) | fail "k_all")
  k_with "k_ne" => ((refine neN ?_; (try dsimp only); first | exact neQ (by with_reducible assumption) (by k_mem) | exact Ne.symm (neQ (by with_reducible assumption) (by k_mem)) | fail "k_ne"))
  k_with "call ref" => ((k_here; (with_reducible show wpAny _ _ (call (Value.ref 443) [Value.int 0 _, Value.int _ _]) _ _ _); k_dflt (refine' ref_a ?kB ?kF ?kX ?kN ?kT ?kK ?kXb ?kTb ?kd ?ke ?_; (case kB => k_asm); (case kF => k_asm); (case kX => k_asm); (case kN => k_asm); (case kT => k_asm); (case kK => first | exact rfl | assumption); (case kXb => assumption); (case kTb => assumption); (case kd => ktr_room); (case ke => ktr_units)); intro u' h' tk' g' B' X' T' F' N' U1'; (try dsimp only); (try k_sweep); walk_say "ref_a"))
  k_with "call ref" => ((k_here; (with_reducible show wpAny _ _ (call (Value.ref 443) [Value.int _ _, Value.int 0 _]) _ _ _); k_dflt (refine' ref_b ?kB ?kF ?kX ?kN ?kT ?kK ?kXb ?kTb ?kh ?kd ?ke ?_; (case kB => k_asm); (case kF => k_asm); (case kX => k_asm); (case kN => k_asm); (case kT => k_asm); (case kK => first | exact rfl | assumption); (case kXb => assumption); (case kTb => assumption); (case kh => omega); (case kd => ktr_room); (case ke => ktr_units)); intro u' h' tk' g' B' X' T' F' N' U2'; (try dsimp only); (try k_sweep); walk_say "ref_b"))
  k_with "call ref" => ((k_here; (with_reducible show wpAny _ _ (call (Value.ref 361) [Value.int _ _, Value.int _ _]) _ _ _); k_dflt (refine' row_new ?kB ?kF ?kX ?kN ?kT ?kK ?k1 ?k2 ?kd ?ke ?_; (case kB => k_asm); (case kF => k_asm); (case kX => k_asm); (case kN => k_asm); (case kT => k_asm); (case kK => first | exact rfl | assumption); (case k1 => omega); (case k2 => omega); (case kd => ktr_room); (case ke => ktr_units)); intro x' d' th' u0' u1' u2' u3' u4' t3' t4' h' tk' l1 l2 l3 F' N'; (have l4 := fun q hq => Nat.lt_trans (l1 q hq) l2); (have l5 := fun q hq => Nat.lt_trans (l4 q hq) l3); (have l6 := Nat.lt_trans l2 l3); (try dsimp only); (try k_sweep); walk_say "row_new"))
  trivial
theorem look1 (y k : Str) (v : Value) : List.lookup y [(k, v)] = if y = k then some v else none := by
  by_cases h : y = k
  · subst h; simp [List.lookup]
  · rw [if_neg h]; show (match y == k with | true => some v | false => none) = none
    rw [beq_eq_false_iff_ne.mpr h]
theorem mapQR {hl r rw : Addr} {dr most room : Int} {td tm tr : Tok} : (fun y : Str => (if y = Str.ofString "rows" then some (.ref rw) else if y = Str.ofString "held" then some (.ref hl) else if y = Str.ofString "dropped" then some (.int dr td) else if y = Str.ofString "most" then some (.int most tm) else if y = Str.ofString "room" then some (.int room tr) else List.lookup y [(Str.ofString "reel", Value.ref r)] : Option Value)) = (fun z : Str => (if z = Str.ofString "dropped" then some (.int dr td) else if z = Str.ofString "held" then some (.ref hl) else if z = Str.ofString "rows" then some (.ref rw) else if z = Str.ofString "room" then some (.int room tr) else if z = Str.ofString "most" then some (.int most tm) else if z = Str.ofString "reel" then some (.ref r) else none : Option Value)) := by
  funext y
  by_cases h0 : y = Str.ofString "rows"
  · subst h0; simp (decide := true) only [if_true, if_false]
  by_cases h1 : y = Str.ofString "held"
  · subst h1; simp (decide := true) only [if_true, if_false]
  by_cases h2 : y = Str.ofString "dropped"
  · subst h2; simp (decide := true) only [if_true, if_false]
  by_cases h3 : y = Str.ofString "most"
  · subst h3; simp (decide := true) only [if_true, if_false]
  simp only [if_neg h0, if_neg h1, if_neg h2, if_neg h3, look1]
theorem wd_59 : True := by
  k_with "execs cons" => ((k_here; (with_reducible show wpAny _ _ (execs [Stmt.For _ _ _ _ _, Stmt.Return _ _] _) _ _ _); refine held ?_))
  trivial
set_option maxHeartbeats 4000000 in
theorem queue_spec : PartSpecB 448 10 := by
  intro w p loose mean mg mb dp un gd cn cs a ccd cl outer A₀ base L m s Q E r x y tx ty nn B F X N T hk hx hy0 hy hd hu ret
  refine wpAny_call ?_
  k_dflt (refine' code_defR ?k1 ?k2 ?k3 ?k4 ?k5 ?kA ?kF ?kK ?k6 ?k7 ?k8 ?k9 ?kB ?_ ?c2 ?c3 ?c4 ?c5; (case kA => exact rfl); (case kF => exact rfl); (case kK => assumption); (case k1 => k_asm); (case k2 => k_asm); (case k3 => exact X); (case k4 => k_asm); (case k5 => exact T); (case k6 => k_is); (case k7 => k_is); (case k8 => ktr_room); (case k9 => exact BindsTo.of_eq rfl); (case c5 => decide); (case kB => exact locs rfl); (case c2 => exact rfl); (case c3 => exact rfl); (case c4 => exact rfl); k_whole; intro gA LA hA FGA FA NA BA XA TA; (try dsimp only); (try k_fold))
  have NA2 := (NA _ (List.Mem.head _)).2
  k_steps
  unfold Held
  (with_reducible rename Fr _ _ _ _ => kF9)
  (with_reducible rename News _ _ _ _ => kN9)
  refine' q_loop (rw := _) BA XA TA (Eq.mp (congrArg (Fr _ _ _) mapQR) kF9) (news_sub kN9 ?gs) (QSt.mk' (TS := []) ?gx ?gy ?gz Tups.nil Tups.nil ?gr ?gd ?gt) ?gh ?gu ?gE ?gk
  case gs => k_dflt ((repeat (refine sub_cons (by k_mem) ?_)); exact fun q9 hq9 => nomatch hq9)
  case gx => assumption
  case gy => assumption
  case gz => assumption
  case gr => (first | k_all | fail "gr")
  case gd => (first | k_all | fail "gd")
  case gt => (first | k_all | fail "gt")
  case gh => ktr_room
  case gu => ktr_units
  case gE => passes_own
  case gk =>
    intro hl' dr' td' qs' led' w1 w2 w3 w4 h' tk' hQ' F' N'
    obtain ⟨x2, y2, tx2, ty2, e0_2, e1_2, e2_2, e3_2, f0_2, f1_2, f2_2, f3_2, u0_2, u1_2, u2_2, u3_2, u4_2, v0_2, v1_2, v2_2, v3_2, v4_2, vs2, us2, kh2, kr2, k02, k12, TS2, hx2, hy2, hz2, hv2, hu2, Hr2, Hd2, Ht2⟩ := hQ'
    unfold qM at F'
    k_steps
    all_goals (first
      | (refine' leaveB (F.above) ret ?k ?f ?n ?u NA2.2 ?hr ?h1 ?h2 ?h3 ?e; (case n => k_asm); (case f => k_asm); (case k => assumption); (case u => exact U1'.trans U2'); (case hr => k_mem); (case h1 => assumption); (case h2 => assumption); (case h3 => assumption); (case e => rfl)))
end
section
theorem wd_60 : True := by
  k_with_none
  k_with "eval Call" => (k_here; k_fold)
  k_with "eval BinOp" => (k_here; k_fold)
  k_with "eval Compare" => (k_here; k_fold)
  k_with "isTrue Compare" => (k_here; k_fold)
  k_with "isTrue Call" => (k_here; k_fold)
  k_with "eval BoolOp" => (k_here; k_fold)
  k_with "isTrue BoolOp" => (k_here; k_fold)
  k_with "isTrue" => (k_here; k_fold)
  k_with "eval Attribute" => (k_here; k_fold)
  k_with "eval Tuple" => (k_here; k_fold)
  k_with "eval List" => (k_here; k_fold)
  k_with "eval Subscript" => (k_here; k_fold)
  k_with "eval IfExp" => (k_here; k_fold)
  k_with "execs cons" => (k_here; with_reducible refine gen_tk ?_; intro tk; (try dsimp only))
  k_with "eval Call" => (k_here; with_reducible refine gen_tk ?_; intro tk; (try dsimp only))
  k_with "setAttr ref" => (k_here; with_reducible refine gen_tk ?_; intro tk; (try dsimp only))
  k_with "newList" => (k_here; with_reducible refine gen_tk ?_; intro tk; (try dsimp only))
  k_with "eval BinOp" => (k_here; with_reducible refine gen_tk ?_; intro tk; (try dsimp only))
  k_with "eval Subscript" => (k_here; with_reducible refine gen_tk ?_; intro tk; (try dsimp only))
  k_with "k_all" => (first | assumption | exact all_ne (by with_reducible assumption) (by (intro q9 hq9; repeat (first | exact hq9 | refine List.Mem.tail _ ?_))))
  k_with "subscriptTail Name Constant ref int" => ((k_here; k_dflt (refine' my_item ?k1 ?k2 ?k3 ?k4 ?k5 ?_ ?k7; (case k1 => k_asm); (case k2 => k_mem); (case k3 => decide); (case k4 => decide); (case k5 => exact rfl); (case k7 => with_unfolding_all rfl); k_whole)))
  k_with "call ref" => ((k_here; (with_reducible show wpAny _ _ (call (Value.ref 386) [Value.ref _, Value.int _ _]) _ _ _); k_dflt (refine' wind_at ?kB ?kF ?kX ?kN ?kT ?kK ?kU ?kx ?ky ?kz ?kt ?ku ?kd ?ke ?_; (case kB => k_asm); (case kF => k_asm); (case kX => k_asm); (case kN => k_asm); (case kT => k_asm); (case kK => first | exact rfl | assumption); (case kU => k_updF); (case kx => assumption); (case ky => assumption); (case kz => assumption); (case kt => omega); (case ku => omega); (case kd => ktr_room); (case ke => ktr_units)); intro d' x' y' td' tx' ty' h' tk' hd0 hd1 hx' hy' hz' F' N'; (try dsimp only at N'); (try dsimp only); (try k_sweep); walk_say "WIND"; (try k_extra "wind")))
  k_with "k_room" => (ktr_room)
  k_with "k_units" => (ktr_units)
  k_with "ktr_rel" => ((intro q9 hq9; repeat (first | exact hq9 | refine List.Mem.tail _ ?_)))
  k_with "binaryOp Pow int int" => ((k_here; (refine' pow_lit ?kb1 ?kb2 ?kb3 ?_); (case kb1 => decide); (case kb2 => decide); (case kb3 => ((simp only [Int.reduceToNat, Int.reducePow]); exact rfl))))
  k_with "call ref" => ((k_here; (with_reducible show wpAny _ _ (call (Value.ref 113) [Value.int _ _, Value.int _ _, Value.int _ _]) _ _ _); k_dflt (refine' mixw_spec ?kB ?kF ?kX ?kN ?kT ?kK ?kd ?_; (case kB => k_asm); (case kF => k_asm); (case kX => k_asm); (case kN => k_asm); (case kT => k_asm); (case kK => first | exact rfl | assumption); (case kd => ktr_room)); intro t' h' tk' F' N'; (try dsimp only); (try k_sweep); walk_say "MIXW"))
  k_with "CompSrc" => ((k_here; k_dflt (first | (refine LCg.CompSrc.ledger (by rfl) (by k_asm) (by k_asm) (by k_mem) (by first | size_fits | exact Nat.le_of_ble_eq_true rfl) ?_; intro g'; lcg_lit) | (refine LCg.CompSrc.range (by rfl) (by k_asm) (by k_asm) (by assumption) (by first | decide | rfl) (by first | rfl | decide) (by first | size_fits | exact Nat.le_of_ble_eq_true rfl) ?_; intro g'; lcg_lit))))
  k_with "CompRest" => ((with_unfolding_all first | (refine LCg.CompRest.succ ?_; intro v' I' oI' C' oC' D' m' h' tk' E' hv' hC' hx' F' N' off' ne'; (first | lcg_open hv' | (obtain ⟨t9', hv9'⟩ := hv'; subst hv9')); (obtain ⟨ne1', ne2', ne3'⟩ := ne')) | refine LCg.CompRest.zero ?_))
  k_with "CompEnd" => ((first | (refine' compEnd0 ?kF ?kN ?ko ?kS ?_; (case kN => assumption); (case kF => assumption); (case ko => assumption); (case kS => lcg_src)) | (refine' compEnd2 ?kF ?kN ?kx ?kd ?ko ?kS ?_; (case kN => assumption); (case kF => assumption); (case kx => exact ⟨by k_ne, by k_ne, by k_ne⟩); (case kd => exact ⟨by k_ne, by k_ne, by k_ne⟩); (case ko => assumption); (case kS => lcg_src)) | (refine' compEnd1 ?kF ?kN ?kx ?ko ?kS ?_; (case kN => assumption); (case kF => assumption); (case kx => exact ⟨by k_ne, by k_ne, by k_ne⟩); (case ko => assumption); (case kS => lcg_src)) | lcg_end))
  k_with "k_ne" => ((refine neN ?_; (try dsimp only); first | (with_reducible assumption) | exact Ne.symm (by with_reducible assumption) | exact Nat.ne_of_gt (by with_reducible assumption) | exact Nat.ne_of_lt (by with_reducible assumption) | exact neA (by with_reducible assumption) (by k_mem) | exact Ne.symm (neA (by with_reducible assumption) (by k_mem)) | exact neO (by with_reducible assumption) (by k_mem) | exact Ne.symm (neO (by with_reducible assumption) (by k_mem)) | exact neI (by with_reducible assumption) (by k_mem) | exact Ne.symm (neI (by with_reducible assumption) (by k_mem)) | exact neC (by with_reducible assumption) (by k_mem) | exact Ne.symm (neC (by with_reducible assumption) (by k_mem)) | exact neD (by with_reducible assumption) (by k_mem) | exact Ne.symm (neD (by with_reducible assumption) (by k_mem)) | exact neA2 (by with_reducible assumption) (by with_reducible assumption) (by k_mem) | exact Ne.symm (neA2 (by with_reducible assumption) (by with_reducible assumption) (by k_mem)) | omega))
  k_with "FinE" => (((unfold LCg.FinE); intro D' h' tk' F' N' o1'; (try simp only [List.nil_append, List.cons_append] at N'); (try dsimp only)))
  k_with "FinA" => (((unfold LCg.FinA); intro D' h' tk' F' N' o1'; (try simp only [List.nil_append, List.cons_append] at N'); (try dsimp only)))
  trivial
theorem part_at {f : Addr} {D : Nat} (P : PartSpec f D) {w : World} {p : Program} {loose : List Str} {mean : ExcName → Option Value} {mg mb : Str → Option Value}
    {dp un : Nat} {gd : Option (List Code)} {cn : Str} {cs : Scope} {a : Addr} {ccd : Value} {cl : List (Str × Addr)} {outer : List Env} {A₀ : Around} {base h₀ : Heap} {L : Addr} {m : Str → Option Value} {s : Shared} {Q E : Value → Shared → Prop}
    {news : List (Addr × Obj)} {r : Addr} {x y : Int} {tx ty : Tok} {nn : Nat}
    (B : Below A₀ base outer h₀) (F : Fr h₀ L s.heap m) (X : (Mine.K w.params).In h₀) (N : News h₀ L s.heap news) (T : Top p loose mean mg mb h₀) (hk : cs.kind = .function) (hm : (r, reelO x y tx ty nn) ∈ news)
    (hx : 0 ≤ x) (hy0 : 0 ≤ y) (hy : y < 2147483647) (hd : dp + D < recursionLimit) (hu : un + (64 + 8 * D) < cLine)
    (ret : ∀ x' y' tx' ty' h' tk', 0 ≤ x' → 0 ≤ y' → y' < 2147483647 → Fr h₀ L h' m → News h₀ L h' [(r, reelO x' y' tx' ty' nn)] → Q (.bool true) { s with heap := h', toks := tk' }) :
    wpAny (model PySem.Challenge.pw_xm0985_01 w) (ktrTop dp un gd cn cs L a ccd cl outer) (call (.ref f) [.ref r]) Q E s :=
  P w p loose mean mg mb dp un gd cn cs a ccd cl outer A₀ base h₀ L m s Q E r x y tx ty nn B F X (fun q hq => N q (by rw [List.mem_singleton.mp hq]; exact hm)) T hk hx hy0 hy hd hu ret
theorem least_46 {w : World} {p : Program} {loose : List Str} {mean : ExcName → Option Value} {mg mb : Str → Option Value}
    {dp un : Nat} {gd : Option (List Code)} {cn : Str} {cs : Scope} {a : Addr} {ccd : Value} {cl : List (Str × Addr)} {outer : List Env} {A₀ : Around} {base h₀ : Heap} {L : Addr} {m : Str → Option Value} {s : Shared} {Q E : Value → Shared → Prop}
    {news : List (Addr × Obj)} {l : Addr} {kk : Nat} {t1 t2 : Tok}
    (B : Below A₀ base outer h₀) (F : Fr h₀ L s.heap m) (X : (Mine.K w.params).In h₀) (N : News h₀ L s.heap news) (T : Top p loose mean mg mb h₀) (hk : cs.kind = .function)
    (hm : (l, listOf #[.int 4 t1, .int 6 t2] kk) ∈ news) (hd : dp + 1 < recursionLimit) (hu : un + 8 < cLine)
    (ret : ∀ (t : Tok) (h' : Heap) (tk' : Nat), Fr h₀ L h' m → News h₀ L h' news → Q (.int 12 t) { s with heap := h', toks := tk' }) :
    wpAny (model PySem.Challenge.pw_xm0985_01 w) (ktrTop dp un gd cn cs L a ccd cl outer) (call (.ref 99) [.ref l]) Q E s := by
  have e1 : VI (2, 0, 0, 0) = 4 := by decide
  have e2 : VI (1, 1, 0, 0) = 6 := by decide
  have hi : IntsAre [.int 4 t1, .int 6 t2] (([(2, 0, 0, 0), (1, 1, 0, 0)] : List Row).map VI) := by
    simp only [List.map_cons, List.map_nil, e1, e2]
    exact IntsAre.cons _ _ (IntsAre.cons _ _ IntsAre.nil)
  refine least_at (vs := [.int 4 t1, .int 6 t2]) B F X N T hk hm hi ?_ hd hu fun t h' tk' F' N' => ?_
  · intro r hr
    simp only [List.mem_cons, List.not_mem_nil, or_false] at hr
    rcases hr with rfl | rfl <;> exact ⟨by decide, by decide, by decide, by decide⟩
  · have := ret t h' tk' F' N'
    have e3 : VI (mxL (0, 0, 0, 0) [(2, 0, 0, 0), (1, 1, 0, 0)]) = 12 := by decide
    rw [e3]
    exact this
theorem part_atB {f : Addr} {D : Nat} (P : PartSpecB f D) {w : World} {p : Program} {loose : List Str} {mean : ExcName → Option Value} {mg mb : Str → Option Value}
    {dp un : Nat} {gd : Option (List Code)} {cn : Str} {cs : Scope} {a : Addr} {ccd : Value} {cl : List (Str × Addr)} {outer : List Env} {A₀ : Around} {base : Heap} {L : Addr} {m : Str → Option Value} {s : Shared} {Q E : Value → Shared → Prop}
    {news : List (Addr × Obj)} {r : Addr} {x y : Int} {tx ty : Tok} {nn : Nat}
    (B : Below A₀ base outer base) (F : Fr base L s.heap m) (X : (Mine.K w.params).In base) (N : News base L s.heap news) (T : Top p loose mean mg mb base) (hk : cs.kind = .function) (hm : (r, reelO x y tx ty nn) ∈ news)
    (hx : 0 ≤ x) (hy0 : 0 ≤ y) (hy : y < 2147483647) (hd : dp + D < recursionLimit) (hu : un + (64 + 8 * D) < cLine)
    (ret : ∀ x' y' tx' ty' h' tk', 0 ≤ x' → 0 ≤ y' → y' < 2147483647 → Fr base L h' m → News base L h' [(r, reelO x' y' tx' ty' nn)] → Q (.bool true) { s with heap := h', toks := tk' }) :
    wpAny (model PySem.Challenge.pw_xm0985_01 w) (ktrTop dp un gd cn cs L a ccd cl outer) (call (.ref f) [.ref r]) Q E s :=
  P w p loose mean mg mb dp un gd cn cs a ccd cl outer A₀ base L m s Q E r x y tx ty nn B F X (fun q hq => N q (by rw [List.mem_singleton.mp hq]; exact hm)) T hk hx hy0 hy hd hu ret
theorem wd_61 : True := by
  k_with "call ref" => ((k_here; (with_reducible show wpAny _ _ (call (Value.ref 99) [Value.ref _]) _ _ _); k_dflt (refine' least_46 ?kB ?kF ?kX ?kN ?kT ?kK ?km ?kd ?ke ?_; (case kB => k_asm); (case kF => k_asm); (case kX => k_asm); (case kN => k_asm); (case kT => k_asm); (case kK => first | exact rfl | assumption); (case km => k_mem); (case kd => ktr_room); (case ke => ktr_units)); intro t' h' tk' F' N'; (try dsimp only); (try k_sweep); walk_say "LEAST"))
  k_with "call ref" => ((k_here; (with_reducible show wpAny _ _ (call (Value.ref 379) [Value.ref _]) _ _ _); k_dflt (refine' reel_spec ?kB ?kF ?kX ?kN ?kT ?kK ?kl ?ki ?kn ?kd ?ke ?_; (case kB => k_asm); (case kF => k_asm); (case kX => k_asm); (case kN => k_asm); (case kT => k_asm); (case kK => first | exact rfl | assumption); (case kl => assumption); (case ki => assumption); (case kn => omega); (case kd => ktr_room); (case ke => ktr_units)); intro r' x' y' tx' ty' nn' h' tk' hx' hy' hz' F' N'; (try dsimp only); (try k_sweep); walk_say "REEL"))
  k_with "call ref" => ((k_here; (with_reducible show wpAny _ _ (call (Value.ref 398) [Value.ref _]) _ _ _); (with_reducible rename PartSpec 398 _ => hP9); k_dflt (refine' part_at hP9 ?kB ?kF ?kX ?kN ?kT ?kK ?km ?kx ?ky ?kz ?kd ?ke ?_; (case kB => k_asm); (case kF => k_asm); (case kX => k_asm); (case kN => k_asm); (case kT => k_asm); (case kK => first | exact rfl | assumption); (case km => k_mem); (case kx => assumption); (case ky => assumption); (case kz => assumption); (case kd => ktr_room); (case ke => ktr_units)); intro x' y' tx' ty' h' tk' hx' hy' hz' F' N'; (try dsimp only); (try k_sweep); walk_say "PART"))
  k_with "call ref" => ((k_here; (with_reducible show wpAny _ _ (call (Value.ref 405) [Value.ref _]) _ _ _); (with_reducible rename PartSpec 405 _ => hP9); k_dflt (refine' part_at hP9 ?kB ?kF ?kX ?kN ?kT ?kK ?km ?kx ?ky ?kz ?kd ?ke ?_; (case kB => k_asm); (case kF => k_asm); (case kX => k_asm); (case kN => k_asm); (case kT => k_asm); (case kK => first | exact rfl | assumption); (case km => k_mem); (case kx => assumption); (case ky => assumption); (case kz => assumption); (case kd => ktr_room); (case ke => ktr_units)); intro x' y' tx' ty' h' tk' hx' hy' hz' F' N'; (try dsimp only); (try k_sweep); walk_say "PART"))
  k_with "call ref" => ((k_here; (with_reducible show wpAny _ _ (call (Value.ref 419) [Value.ref _]) _ _ _); (with_reducible rename PartSpecB 419 _ => hP9); k_dflt (refine' part_atB hP9 ?kB ?kF ?kX ?kN ?kT ?kK ?km ?kx ?ky ?kz ?kd ?ke ?_; (case kB => k_asm); (case kF => k_asm); (case kX => k_asm); (case kN => k_asm); (case kT => k_asm); (case kK => first | exact rfl | assumption); (case km => k_mem); (case kx => assumption); (case ky => assumption); (case kz => assumption); (case kd => ktr_room); (case ke => ktr_units)); intro x' y' tx' ty' h' tk' hx' hy' hz' F' N'; (try dsimp only); (try k_sweep); walk_say "PART"))
  k_with "call ref" => ((k_here; (with_reducible show wpAny _ _ (call (Value.ref 426) [Value.ref _]) _ _ _); (with_reducible rename PartSpec 426 _ => hP9); k_dflt (refine' part_at hP9 ?kB ?kF ?kX ?kN ?kT ?kK ?km ?kx ?ky ?kz ?kd ?ke ?_; (case kB => k_asm); (case kF => k_asm); (case kX => k_asm); (case kN => k_asm); (case kT => k_asm); (case kK => first | exact rfl | assumption); (case km => k_mem); (case kx => assumption); (case ky => assumption); (case kz => assumption); (case kd => ktr_room); (case ke => ktr_units)); intro x' y' tx' ty' h' tk' hx' hy' hz' F' N'; (try dsimp only); (try k_sweep); walk_say "PART"))
  k_with "call ref" => ((k_here; (with_reducible show wpAny _ _ (call (Value.ref 431) [Value.ref _]) _ _ _); (with_reducible rename PartSpec 431 _ => hP9); k_dflt (refine' part_at hP9 ?kB ?kF ?kX ?kN ?kT ?kK ?km ?kx ?ky ?kz ?kd ?ke ?_; (case kB => k_asm); (case kF => k_asm); (case kX => k_asm); (case kN => k_asm); (case kT => k_asm); (case kK => first | exact rfl | assumption); (case km => k_mem); (case kx => assumption); (case ky => assumption); (case kz => assumption); (case kd => ktr_room); (case ke => ktr_units)); intro x' y' tx' ty' h' tk' hx' hy' hz' F' N'; (try dsimp only); (try k_sweep); walk_say "PART"))
  k_with "call ref" => ((k_here; (with_reducible show wpAny _ _ (call (Value.ref 436) [Value.ref _]) _ _ _); (with_reducible rename PartSpec 436 _ => hP9); k_dflt (refine' part_at hP9 ?kB ?kF ?kX ?kN ?kT ?kK ?km ?kx ?ky ?kz ?kd ?ke ?_; (case kB => k_asm); (case kF => k_asm); (case kX => k_asm); (case kN => k_asm); (case kT => k_asm); (case kK => first | exact rfl | assumption); (case km => k_mem); (case kx => assumption); (case ky => assumption); (case kz => assumption); (case kd => ktr_room); (case ke => ktr_units)); intro x' y' tx' ty' h' tk' hx' hy' hz' F' N'; (try dsimp only); (try k_sweep); walk_say "PART"))
  k_with "call ref" => ((k_here; (with_reducible show wpAny _ _ (call (Value.ref 448) [Value.ref _]) _ _ _); (with_reducible rename PartSpecB 448 _ => hP9); k_dflt (refine' part_atB hP9 ?kB ?kF ?kX ?kN ?kT ?kK ?km ?kx ?ky ?kz ?kd ?ke ?_; (case kB => k_asm); (case kF => k_asm); (case kX => k_asm); (case kN => k_asm); (case kT => k_asm); (case kK => first | exact rfl | assumption); (case km => k_mem); (case kx => assumption); (case ky => assumption); (case kz => assumption); (case kd => ktr_room); (case ke => ktr_units)); intro x' y' tx' ty' h' tk' hx' hy' hz' F' N'; (try dsimp only); (try k_sweep); walk_say "PART"))
  trivial
set_option maxHeartbeats 8000000 in
theorem law_dev (p398 : PartSpec 398 5) (p405 : PartSpec 405 4) (p419 : PartSpecB 419 10) (p426 : PartSpec 426 3) (p431 : PartSpec 431 6) (p436 : PartSpec 436 4) (p448 : PartSpecB 448 10) : PySem.Challenge.rw_xm0985_01.Holds := by
  w_on
  refine holds_law wellSaid_rw fun said => ?_
  refine holds_open (q := vw) (loose := loose) (Xt := fun s => xlAt vw lv s && recOk (RowW.records rowW) s) (XP := XL vw lv) (Yf := Hook.obs kH) (Ya := Hook.val kH) (YP := Hook.says kH) (N := 7338) left (Hook.of kH) (Hook.keeps kH) (fun s e => xl_of s (Bool.and_eq_true_iff.mp e).1) XL.keeps (by rfl) (by rfl) (by rfl) (fun s e => recFacts_of (Bool.and_eq_true_iff.mp e).2) (by rfl) (by first | assumption | decide +kernel) (by decide +kernel) ⟨rfl, rfl, rfl, rfl, rfl, by decide +kernel⟩ ?hw ?hc
  case hw => w_witness2
  case hc =>
    w_strict (
      k_fill
      intro w s₀ s₁ mg mb G Y fa o pm cd doc dV kV ho hd hcd hD hmg hg args vals as hpre hlay hrd hwl hlo
      have KX := kIn_of Y
      have X := (Ground.X G).1
      have V := (Ground.X G).2
      refine Ground.open G ?_
      intro T B D TE TW
      try (refine guard_noD D (by decide +kernel) ?_; clear D)
      obtain ⟨_, _, M⟩ := bmod_of_top T
      have TA := at_of_top T
      try (obtain ⟨_, _, he, B0⟩ := based_of_top T rfl hmg ho hd; have he' : cd = _ := he; subst he'; clear he)
      clear hmg
      wrow_args hpre hlay hrd hwl hlo
      all_goals (
        first | refine callC_kw (enter_call ?_) | refine enter_call ?_ | refine callC_kw (enter_callW ?_) | refine enter_callW ?_ | w_how
        w_top on
        try refine codeAny_mono ?_ (fun _ _ g => GoodW.toG g)
        have K0 := below_caller (Top.heap T)
        w_call any ho hd hcd hD T F
        clear hd TA
        k_drop
        skip))
    all_goals try k_fold
    (have hLen9 := IntsAre.length (by assumption))
    k_steps
end
end Mine
theorem PySem.Challenge.cw_xm0985_01_holds : PySem.Challenge.rw_xm0985_01.Holds := by
  exact Mine.law_dev Mine.fields_spec Mine.mixed_spec Mine.colours_spec Mine.times_spec Mine.recent_spec Mine.multiple_spec Mine.queue_spec
