import PyProof.Rows.All
import Wide.All
import OpenK.AllK
import Wide.FinOn
import Lean
import PySem.Challenge.RW_pb0455_01
section
namespace Mine
theorem ex3 {A1 A2 A3 : Type} {P : A1 → A2 → A3 → Prop} {G : Prop} (h : ∃ a1 a2 a3, P a1 a2 a3) (k : ∀ a1 a2 a3, P a1 a2 a3 → G) : G := h.elim fun a1 h => h.elim fun a2 h => h.elim fun a3 h => k a1 a2 a3 h
theorem exi3 {A1 A2 A3 : Type} {P : A1 → A2 → A3 → Prop} (a1 : A1) (a2 : A2) (a3 : A3) (h : P a1 a2 a3) : ∃ a1 a2 a3, P a1 a2 a3 := ⟨a1, a2, a3, h⟩
theorem ex4 {A1 A2 A3 A4 : Type} {P : A1 → A2 → A3 → A4 → Prop} {G : Prop} (h : ∃ a1 a2 a3 a4, P a1 a2 a3 a4) (k : ∀ a1 a2 a3 a4, P a1 a2 a3 a4 → G) : G := h.elim fun a1 h => h.elim fun a2 h => h.elim fun a3 h => h.elim fun a4 h => k a1 a2 a3 a4 h
theorem exi4 {A1 A2 A3 A4 : Type} {P : A1 → A2 → A3 → A4 → Prop} (a1 : A1) (a2 : A2) (a3 : A3) (a4 : A4) (h : P a1 a2 a3 a4) : ∃ a1 a2 a3 a4, P a1 a2 a3 a4 := ⟨a1, a2, a3, a4, h⟩
theorem ex5 {A1 A2 A3 A4 A5 : Type} {P : A1 → A2 → A3 → A4 → A5 → Prop} {G : Prop} (h : ∃ a1 a2 a3 a4 a5, P a1 a2 a3 a4 a5) (k : ∀ a1 a2 a3 a4 a5, P a1 a2 a3 a4 a5 → G) : G := h.elim fun a1 h => h.elim fun a2 h => h.elim fun a3 h => h.elim fun a4 h => h.elim fun a5 h => k a1 a2 a3 a4 a5 h
theorem exi5 {A1 A2 A3 A4 A5 : Type} {P : A1 → A2 → A3 → A4 → A5 → Prop} (a1 : A1) (a2 : A2) (a3 : A3) (a4 : A4) (a5 : A5) (h : P a1 a2 a3 a4 a5) : ∃ a1 a2 a3 a4 a5, P a1 a2 a3 a4 a5 := ⟨a1, a2, a3, a4, a5, h⟩
theorem ex6 {A1 A2 A3 A4 A5 A6 : Type} {P : A1 → A2 → A3 → A4 → A5 → A6 → Prop} {G : Prop} (h : ∃ a1 a2 a3 a4 a5 a6, P a1 a2 a3 a4 a5 a6) (k : ∀ a1 a2 a3 a4 a5 a6, P a1 a2 a3 a4 a5 a6 → G) : G := h.elim fun a1 h => h.elim fun a2 h => h.elim fun a3 h => h.elim fun a4 h => h.elim fun a5 h => h.elim fun a6 h => k a1 a2 a3 a4 a5 a6 h
theorem exi6 {A1 A2 A3 A4 A5 A6 : Type} {P : A1 → A2 → A3 → A4 → A5 → A6 → Prop} (a1 : A1) (a2 : A2) (a3 : A3) (a4 : A4) (a5 : A5) (a6 : A6) (h : P a1 a2 a3 a4 a5 a6) : ∃ a1 a2 a3 a4 a5 a6, P a1 a2 a3 a4 a5 a6 := ⟨a1, a2, a3, a4, a5, a6, h⟩
theorem ex9 {A1 A2 A3 A4 A5 A6 A7 A8 A9 : Type} {P : A1 → A2 → A3 → A4 → A5 → A6 → A7 → A8 → A9 → Prop} {G : Prop} (h : ∃ a1 a2 a3 a4 a5 a6 a7 a8 a9, P a1 a2 a3 a4 a5 a6 a7 a8 a9) (k : ∀ a1 a2 a3 a4 a5 a6 a7 a8 a9, P a1 a2 a3 a4 a5 a6 a7 a8 a9 → G) : G := h.elim fun a1 h => h.elim fun a2 h => h.elim fun a3 h => h.elim fun a4 h => h.elim fun a5 h => h.elim fun a6 h => h.elim fun a7 h => h.elim fun a8 h => h.elim fun a9 h => k a1 a2 a3 a4 a5 a6 a7 a8 a9 h
theorem exi9 {A1 A2 A3 A4 A5 A6 A7 A8 A9 : Type} {P : A1 → A2 → A3 → A4 → A5 → A6 → A7 → A8 → A9 → Prop} (a1 : A1) (a2 : A2) (a3 : A3) (a4 : A4) (a5 : A5) (a6 : A6) (a7 : A7) (a8 : A8) (a9 : A9) (h : P a1 a2 a3 a4 a5 a6 a7 a8 a9) : ∃ a1 a2 a3 a4 a5 a6 a7 a8 a9, P a1 a2 a3 a4 a5 a6 a7 a8 a9 := ⟨a1, a2, a3, a4, a5, a6, a7, a8, a9, h⟩
theorem ex10 {A1 A2 A3 A4 A5 A6 A7 A8 A9 A10 : Type} {P : A1 → A2 → A3 → A4 → A5 → A6 → A7 → A8 → A9 → A10 → Prop} {G : Prop} (h : ∃ a1 a2 a3 a4 a5 a6 a7 a8 a9 a10, P a1 a2 a3 a4 a5 a6 a7 a8 a9 a10) (k : ∀ a1 a2 a3 a4 a5 a6 a7 a8 a9 a10, P a1 a2 a3 a4 a5 a6 a7 a8 a9 a10 → G) : G := h.elim fun a1 h => h.elim fun a2 h => h.elim fun a3 h => h.elim fun a4 h => h.elim fun a5 h => h.elim fun a6 h => h.elim fun a7 h => h.elim fun a8 h => h.elim fun a9 h => h.elim fun a10 h => k a1 a2 a3 a4 a5 a6 a7 a8 a9 a10 h
theorem exi10 {A1 A2 A3 A4 A5 A6 A7 A8 A9 A10 : Type} {P : A1 → A2 → A3 → A4 → A5 → A6 → A7 → A8 → A9 → A10 → Prop} (a1 : A1) (a2 : A2) (a3 : A3) (a4 : A4) (a5 : A5) (a6 : A6) (a7 : A7) (a8 : A8) (a9 : A9) (a10 : A10) (h : P a1 a2 a3 a4 a5 a6 a7 a8 a9 a10) : ∃ a1 a2 a3 a4 a5 a6 a7 a8 a9 a10, P a1 a2 a3 a4 a5 a6 a7 a8 a9 a10 := ⟨a1, a2, a3, a4, a5, a6, a7, a8, a9, a10, h⟩
theorem ex11 {A1 A2 A3 A4 A5 A6 A7 A8 A9 A10 A11 : Type} {P : A1 → A2 → A3 → A4 → A5 → A6 → A7 → A8 → A9 → A10 → A11 → Prop} {G : Prop} (h : ∃ a1 a2 a3 a4 a5 a6 a7 a8 a9 a10 a11, P a1 a2 a3 a4 a5 a6 a7 a8 a9 a10 a11) (k : ∀ a1 a2 a3 a4 a5 a6 a7 a8 a9 a10 a11, P a1 a2 a3 a4 a5 a6 a7 a8 a9 a10 a11 → G) : G := h.elim fun a1 h => h.elim fun a2 h => h.elim fun a3 h => h.elim fun a4 h => h.elim fun a5 h => h.elim fun a6 h => h.elim fun a7 h => h.elim fun a8 h => h.elim fun a9 h => h.elim fun a10 h => h.elim fun a11 h => k a1 a2 a3 a4 a5 a6 a7 a8 a9 a10 a11 h
theorem exi11 {A1 A2 A3 A4 A5 A6 A7 A8 A9 A10 A11 : Type} {P : A1 → A2 → A3 → A4 → A5 → A6 → A7 → A8 → A9 → A10 → A11 → Prop} (a1 : A1) (a2 : A2) (a3 : A3) (a4 : A4) (a5 : A5) (a6 : A6) (a7 : A7) (a8 : A8) (a9 : A9) (a10 : A10) (a11 : A11) (h : P a1 a2 a3 a4 a5 a6 a7 a8 a9 a10 a11) : ∃ a1 a2 a3 a4 a5 a6 a7 a8 a9 a10 a11, P a1 a2 a3 a4 a5 a6 a7 a8 a9 a10 a11 := ⟨a1, a2, a3, a4, a5, a6, a7, a8, a9, a10, a11, h⟩
theorem and3 {B1 B2 B3 G : Prop} (h : B1 ∧ B2 ∧ B3) (k : B1 → B2 → B3 → G) : G := k h.1 h.2.1 h.2.2
theorem andi3 {B1 B2 B3 : Prop} (h1 : B1) (h2 : B2) (h3 : B3) : B1 ∧ B2 ∧ B3 := ⟨h1, h2, h3⟩
theorem and4 {B1 B2 B3 B4 G : Prop} (h : B1 ∧ B2 ∧ B3 ∧ B4) (k : B1 → B2 → B3 → B4 → G) : G := k h.1 h.2.1 h.2.2.1 h.2.2.2
theorem andi4 {B1 B2 B3 B4 : Prop} (h1 : B1) (h2 : B2) (h3 : B3) (h4 : B4) : B1 ∧ B2 ∧ B3 ∧ B4 := ⟨h1, h2, h3, h4⟩
theorem and5 {B1 B2 B3 B4 B5 G : Prop} (h : B1 ∧ B2 ∧ B3 ∧ B4 ∧ B5) (k : B1 → B2 → B3 → B4 → B5 → G) : G := k h.1 h.2.1 h.2.2.1 h.2.2.2.1 h.2.2.2.2
theorem andi5 {B1 B2 B3 B4 B5 : Prop} (h1 : B1) (h2 : B2) (h3 : B3) (h4 : B4) (h5 : B5) : B1 ∧ B2 ∧ B3 ∧ B4 ∧ B5 := ⟨h1, h2, h3, h4, h5⟩
theorem and6 {B1 B2 B3 B4 B5 B6 G : Prop} (h : B1 ∧ B2 ∧ B3 ∧ B4 ∧ B5 ∧ B6) (k : B1 → B2 → B3 → B4 → B5 → B6 → G) : G := k h.1 h.2.1 h.2.2.1 h.2.2.2.1 h.2.2.2.2.1 h.2.2.2.2.2
theorem andi6 {B1 B2 B3 B4 B5 B6 : Prop} (h1 : B1) (h2 : B2) (h3 : B3) (h4 : B4) (h5 : B5) (h6 : B6) : B1 ∧ B2 ∧ B3 ∧ B4 ∧ B5 ∧ B6 := ⟨h1, h2, h3, h4, h5, h6⟩
theorem and9 {B1 B2 B3 B4 B5 B6 B7 B8 B9 G : Prop} (h : B1 ∧ B2 ∧ B3 ∧ B4 ∧ B5 ∧ B6 ∧ B7 ∧ B8 ∧ B9) (k : B1 → B2 → B3 → B4 → B5 → B6 → B7 → B8 → B9 → G) : G := k h.1 h.2.1 h.2.2.1 h.2.2.2.1 h.2.2.2.2.1 h.2.2.2.2.2.1 h.2.2.2.2.2.2.1 h.2.2.2.2.2.2.2.1 h.2.2.2.2.2.2.2.2
theorem andi9 {B1 B2 B3 B4 B5 B6 B7 B8 B9 : Prop} (h1 : B1) (h2 : B2) (h3 : B3) (h4 : B4) (h5 : B5) (h6 : B6) (h7 : B7) (h8 : B8) (h9 : B9) : B1 ∧ B2 ∧ B3 ∧ B4 ∧ B5 ∧ B6 ∧ B7 ∧ B8 ∧ B9 := ⟨h1, h2, h3, h4, h5, h6, h7, h8, h9⟩
theorem and11 {B1 B2 B3 B4 B5 B6 B7 B8 B9 B10 B11 G : Prop} (h : B1 ∧ B2 ∧ B3 ∧ B4 ∧ B5 ∧ B6 ∧ B7 ∧ B8 ∧ B9 ∧ B10 ∧ B11) (k : B1 → B2 → B3 → B4 → B5 → B6 → B7 → B8 → B9 → B10 → B11 → G) : G := k h.1 h.2.1 h.2.2.1 h.2.2.2.1 h.2.2.2.2.1 h.2.2.2.2.2.1 h.2.2.2.2.2.2.1 h.2.2.2.2.2.2.2.1 h.2.2.2.2.2.2.2.2.1 h.2.2.2.2.2.2.2.2.2.1 h.2.2.2.2.2.2.2.2.2.2
theorem andi11 {B1 B2 B3 B4 B5 B6 B7 B8 B9 B10 B11 : Prop} (h1 : B1) (h2 : B2) (h3 : B3) (h4 : B4) (h5 : B5) (h6 : B6) (h7 : B7) (h8 : B8) (h9 : B9) (h10 : B10) (h11 : B11) : B1 ∧ B2 ∧ B3 ∧ B4 ∧ B5 ∧ B6 ∧ B7 ∧ B8 ∧ B9 ∧ B10 ∧ B11 := ⟨h1, h2, h3, h4, h5, h6, h7, h8, h9, h10, h11⟩
end Mine
end
section
open PySem PySem.W PyProof.Rows
set_option Elab.async false
set_option maxRecDepth 100000
namespace Mine
def nth : List Stmt → Nat → Stmt
  | [], _ => .Pass default
  | s :: _, 0 => s
  | _ :: l, n + 1 => nth l n
def st1 (i : Nat) : Stmt := nth PySem.Challenge.pw_pb0455_01.main.body i
def clsBody : Stmt → List Stmt
  | .ClassDef _ _ _ b .. => b
  | _ => []
def st2 (i j : Nat) : Stmt := nth (clsBody (st1 i)) j
def fnS (st : Stmt) (q : Str) (dV pm cd : Value) : Obj := match st with
  | .FunctionDef nm ps bd _ _ _ sc _ _ _ => { cls := .type "function", data := .func { name := nm, qualname := q, params := ps, body := .stmts bd, scope := sc, globals := 3, closure := [], defaults := dV, kwdefaults := .none, pyModule := pm, code := cd } }
  | _ => default
end Mine
namespace Mine.hd
noncomputable def heap_39 : Params → Frag := fun P => ((nat_lit 2, { cls := .none, data := .dict #[⟨PyData.keyHash P (Str.ofString "type.__subclasses__.Exception.0"), .str (Str.ofString "type.__subclasses__.Exception.0") 221, .int 38 0⟩, ⟨PyData.keyHash P (Str.ofString "type.__subclasses__.Exception.n"), .str (Str.ofString "type.__subclasses__.Exception.n") 222, .int 1 0⟩] 2 }) ::
(nat_lit 3, { cls := .type "dict", data := .dict #[⟨PyData.keyHash P (Str.ofString "__name__"), .str (Str.ofString "__name__") 165, .str (Str.ofString "law_pb0455_01") 885⟩, ⟨PyData.keyHash P (Str.ofString "__doc__"), .str (Str.ofString "__doc__") 166, .none⟩, ⟨PyData.keyHash P (Str.ofString "__package__"), .str (Str.ofString "__package__") 167, .none⟩, ⟨PyData.keyHash P (Str.ofString "__loader__"), .str (Str.ofString "__loader__") 168, .builtin "__main__.__loader__#opaque"⟩, ⟨PyData.keyHash P (Str.ofString "__spec__"), .str (Str.ofString "__spec__") 169, .none⟩, ⟨PyData.keyHash P (Str.ofString "__annotations__"), .str (Str.ofString "__annotations__") 170, .ref 6⟩, ⟨PyData.keyHash P (Str.ofString "__builtins__"), .str (Str.ofString "__builtins__") 171, .ref 4⟩, ⟨PyData.keyHash P (Str.ofString "__file__"), .str (Str.ofString "__file__") 173, .str (Str.ofString "/claim/cut.py") 172⟩, ⟨PyData.keyHash P (Str.ofString "__cached__"), .str (Str.ofString "__cached__") 174, .none⟩, ⟨PyData.keyHash P (Str.ofString "_wall"), .str (Str.ofString "_wall") 193, .ref 21⟩, ⟨PyData.keyHash P (Str.ofString "PagebaseError"), .str (Str.ofString "PagebaseError") 224, .ref 38⟩, ⟨PyData.keyHash P (Str.ofString "CorruptError"), .str (Str.ofString "CorruptError") 240, .ref 51⟩, ⟨PyData.keyHash P (Str.ofString "FullError"), .str (Str.ofString "FullError") 256, .ref 63⟩, ⟨PyData.keyHash P (Str.ofString "CrashError"), .str (Str.ofString "CrashError") 272, .ref 75⟩, ⟨PyData.keyHash P (Str.ofString "LEAST_PAGE_SIZE"), .str (Str.ofString "LEAST_PAGE_SIZE") 276, .int 64 275⟩, ⟨PyData.keyHash P (Str.ofString "MOST_PAGE_SIZE"), .str (Str.ofString "MOST_PAGE_SIZE") 278, .int 32768 277⟩, ⟨PyData.keyHash P (Str.ofString "WORD"), .str (Str.ofString "WORD") 282, .int 4294967296 281⟩, ⟨PyData.keyHash P (Str.ofString "put_number"), .str (Str.ofString "put_number") 290, .ref 84⟩, ⟨PyData.keyHash P (Str.ofString "get_number"), .str (Str.ofString "get_number") 299, .ref 91⟩, ⟨PyData.keyHash P (Str.ofString "is_page_size"), .str (Str.ofString "is_page_size") 306, .ref 98⟩, ⟨PyData.keyHash P (Str.ofString "JOURNAL_MAGIC"), .str (Str.ofString "JOURNAL_MAGIC") 310, .bytes #[112, 98, 106, 111, 117, 114, 110, 108] 309⟩, ⟨PyData.keyHash P (Str.ofString "HEAD_SIZE"), .str (Str.ofString "HEAD_SIZE") 312, .int 24 311⟩, ⟨PyData.keyHash P (Str.ofString "COUNT_AT"), .str (Str.ofString "COUNT_AT") 314, .int 8 313⟩, ⟨PyData.keyHash P (Str.ofString "NOT_SYNCED"), .str (Str.ofString "NOT_SYNCED") 317, .int 4294967295 316⟩, ⟨PyData.keyHash P (Str.ofString "record_sum"), .str (Str.ofString "record_sum") 328, .ref 105⟩, ⟨PyData.keyHash P (Str.ofString "Journal"), .str (Str.ofString "Journal") 446, .ref 185⟩, ⟨PyData.keyHash P (Str.ofString "NONE"), .str (Str.ofString "NONE") 450, .int 0 449⟩, ⟨PyData.keyHash P (Str.ofString "LockTable"), .str (Str.ofString "LockTable") 630, .ref 320⟩, ⟨PyData.keyHash P (Str.ofString "DiskFile"), .str (Str.ofString "DiskFile") 730, .ref 390⟩, ⟨PyData.keyHash P (Str.ofString "Choices"), .str (Str.ofString "Choices") 768, .ref 418⟩, ⟨PyData.keyHash P (Str.ofString "Disk"), .str (Str.ofString "Disk") 867, .ref 489⟩, ⟨PyData.keyHash P (Str.ofString "put_octets"), .str (Str.ofString "put_octets") 876, .ref 500⟩, ⟨PyData.keyHash P (Str.ofString "cut_octets"), .str (Str.ofString "cut_octets") 884, .ref 507⟩, ⟨PyData.keyHash P (Str.ofString "_law_pool"), .str (Str.ofString "_law_pool") 897, .ref 514⟩, ⟨PyData.keyHash P (Str.ofString "_law_take"), .str (Str.ofString "_law_take") 906, .ref 521⟩, ⟨PyData.keyHash P (Str.ofString "_law_four"), .str (Str.ofString "_law_four") 913, .ref 528⟩, ⟨PyData.keyHash P (Str.ofString "_law_sum"), .str (Str.ofString "_law_sum") 925, .ref 535⟩, ⟨PyData.keyHash P (Str.ofString "_law_filled"), .str (Str.ofString "_law_filled") 932, .ref 542⟩, ⟨PyData.keyHash P (Str.ofString "_law_written"), .str (Str.ofString "_law_written") 948, .ref 549⟩, ⟨PyData.keyHash P (Str.ofString "_law_bent"), .str (Str.ofString "_law_bent") 958, .ref 556⟩, ⟨PyData.keyHash P (Str.ofString "_law_head"), .str (Str.ofString "_law_head") 964, .ref 561⟩, ⟨PyData.keyHash P (Str.ofString "_law_hot"), .str (Str.ofString "_law_hot") 972, .ref 568⟩, ⟨PyData.keyHash P (Str.ofString "_law_put"), .str (Str.ofString "_law_put") 981, .ref 575⟩, ⟨PyData.keyHash P (Str.ofString "_law_played"), .str (Str.ofString "_law_played") 998, .ref 582⟩, ⟨PyData.keyHash P (Str.ofString "_law_raises"), .str (Str.ofString "_law_raises") 1006, .ref 589⟩, ⟨PyData.keyHash P (Str.ofString "law"), .str (Str.ofString "law") 1012, .ref 594⟩] 46 }) ::
(nat_lit 15, { cls := .type "tuple", data := .seq #[] }) ::
(nat_lit 17, { cls := .type "tuple", data := .seq #[.str (Str.ofString "k") 190] }) ::
(nat_lit 18, { cls := .type "tuple", data := .seq #[] }) ::
(nat_lit 20, { cls := .type "code", data := .fields #[.str (Str.ofString "_wall") 187, .str (Str.ofString "_wall") 188, .str (Str.ofString "/claim/cut.py") 189, .int 1 0, .int 1 0, .int 0 0, .int 0 0, .int 3 0, .ref 15, .bool true, .int 181 0, .ref 16, .none, .ref 17, .ref 18, .ref 19, .int 191 0, .int 1 0, .str (Str.ofString "/claim/cut.py") 192] }) ::
(nat_lit 21, fnS (st1 0) (Str.ofString "_wall") (.none) (.str (Str.ofString "__main__") 164) (.ref 20)) ::
(nat_lit 22, { cls := .type "tuple", data := .seq #[.type "Exception"] }) ::
(nat_lit 29, { cls := .type "tuple", data := .seq #[] }) ::
(nat_lit 31, { cls := .type "tuple", data := .seq #[.str (Str.ofString "self") 211, .str (Str.ofString "message") 212] }) ::
(nat_lit 32, { cls := .type "tuple", data := .seq #[] }) ::
(nat_lit 34, { cls := .type "code", data := .fields #[.str (Str.ofString "__init__") 208, .str (Str.ofString "PagebaseError.__init__") 209, .str (Str.ofString "/claim/cut.py") 210, .int 7 0, .int 2 0, .int 0 0, .int 0 0, .int 3 0, .ref 29, .bool true, .int 181 0, .ref 30, .none, .ref 31, .ref 32, .ref 33, .int 213 0, .int 7 0, .str (Str.ofString "/claim/cut.py") 214] }) ::
(nat_lit 35, fnS (st2 2 0) (Str.ofString "PagebaseError.__init__") (.none) (.str (Str.ofString "pagebase.errors") 194) (.ref 34)) ::
(nat_lit 36, { cls := .type "tuple", data := .seq #[.str (Str.ofString "message") 216] }) ::
(nat_lit 37, { cls := .type "dict", data := .dict #[⟨PyData.keyHash P (Str.ofString "__module__"), .str (Str.ofString "__module__") 203, .str (Str.ofString "pagebase.errors") 194⟩, ⟨PyData.keyHash P (Str.ofString "__firstlineno__"), .str (Str.ofString "__firstlineno__") 207, .int 5 206⟩, ⟨PyData.keyHash P (Str.ofString "__init__"), .str (Str.ofString "__init__") 215, .ref 35⟩, ⟨PyData.keyHash P (Str.ofString "__static_attributes__"), .str (Str.ofString "__static_attributes__") 217, .ref 36⟩, ⟨PyData.keyHash P (Str.ofString "__weakref__"), .str (Str.ofString "__weakref__") 219, .ref 39⟩, ⟨PyData.keyHash P (Str.ofString "__doc__"), .str (Str.ofString "__doc__") 220, .none⟩] 3 }) ::
(nat_lit 38, { cls := .type "type", data := .cls { name := Str.ofString "PagebaseError", bases := [.type "Exception"], mro := [.ref 38, .type "Exception", .type "BaseException", .type "object"], ns := 37, qualname := Str.ofString "PagebaseError", subclasses := [.ref 51, .ref 63, .ref 75] }, slots := #[some (.ref 22), none, some (.str (Str.ofString "PagebaseError") 196), some (.str (Str.ofString "PagebaseError") 204), some (.builtin "Exception.__new__"), some (.bool true)] }) ::
(nat_lit 39, { cls := .type "getset_descriptor", data := .fields #[.str (Str.ofString "__weakref__") 218, .ref 38, .builtin "ExceptionGroup.__weakref__", .none] }) ::
(nat_lit 42, { cls := .type "tuple", data := .seq #[.ref 38] }) ::
(nat_lit 49, { cls := .type "tuple", data := .seq #[] }) ::
(nat_lit 50, { cls := .type "dict", data := .dict #[⟨PyData.keyHash P (Str.ofString "__module__"), .str (Str.ofString "__module__") 232, .str (Str.ofString "pagebase.errors") 194⟩, ⟨PyData.keyHash P (Str.ofString "__firstlineno__"), .str (Str.ofString "__firstlineno__") 236, .int 9 235⟩, ⟨PyData.keyHash P (Str.ofString "__static_attributes__"), .str (Str.ofString "__static_attributes__") 237, .ref 49⟩, ⟨PyData.keyHash P (Str.ofString "__doc__"), .str (Str.ofString "__doc__") 238, .none⟩] 2 }) ::
(nat_lit 51, { cls := .type "type", data := .cls { name := Str.ofString "CorruptError", bases := [.ref 38], mro := [.ref 51, .ref 38, .type "Exception", .type "BaseException", .type "object"], ns := 50, qualname := Str.ofString "CorruptError" }, slots := #[some (.ref 42), none, some (.str (Str.ofString "CorruptError") 225), some (.str (Str.ofString "CorruptError") 233), some (.builtin "Exception.__new__"), some (.bool true)] }) ::
(nat_lit 54, { cls := .type "tuple", data := .seq #[.ref 38] }) ::
(nat_lit 61, { cls := .type "tuple", data := .seq #[] }) ::
(nat_lit 62, { cls := .type "dict", data := .dict #[⟨PyData.keyHash P (Str.ofString "__module__"), .str (Str.ofString "__module__") 248, .str (Str.ofString "pagebase.errors") 194⟩, ⟨PyData.keyHash P (Str.ofString "__firstlineno__"), .str (Str.ofString "__firstlineno__") 252, .int 11 251⟩, ⟨PyData.keyHash P (Str.ofString "__static_attributes__"), .str (Str.ofString "__static_attributes__") 253, .ref 61⟩, ⟨PyData.keyHash P (Str.ofString "__doc__"), .str (Str.ofString "__doc__") 254, .none⟩] 2 }) ::
(nat_lit 63, { cls := .type "type", data := .cls { name := Str.ofString "FullError", bases := [.ref 38], mro := [.ref 63, .ref 38, .type "Exception", .type "BaseException", .type "object"], ns := 62, qualname := Str.ofString "FullError" }, slots := #[some (.ref 54), none, some (.str (Str.ofString "FullError") 241), some (.str (Str.ofString "FullError") 249), some (.builtin "Exception.__new__"), some (.bool true)] }) ::
(nat_lit 66, { cls := .type "tuple", data := .seq #[.ref 38] }) ::
(nat_lit 73, { cls := .type "tuple", data := .seq #[] }) ::
(nat_lit 74, { cls := .type "dict", data := .dict #[⟨PyData.keyHash P (Str.ofString "__module__"), .str (Str.ofString "__module__") 264, .str (Str.ofString "pagebase.errors") 194⟩, ⟨PyData.keyHash P (Str.ofString "__firstlineno__"), .str (Str.ofString "__firstlineno__") 268, .int 13 267⟩, ⟨PyData.keyHash P (Str.ofString "__static_attributes__"), .str (Str.ofString "__static_attributes__") 269, .ref 73⟩, ⟨PyData.keyHash P (Str.ofString "__doc__"), .str (Str.ofString "__doc__") 270, .none⟩] 2 }) ::
(nat_lit 75, { cls := .type "type", data := .cls { name := Str.ofString "CrashError", bases := [.ref 38], mro := [.ref 75, .ref 38, .type "Exception", .type "BaseException", .type "object"], ns := 74, qualname := Str.ofString "CrashError" }, slots := #[some (.ref 66), none, some (.str (Str.ofString "CrashError") 257), some (.str (Str.ofString "CrashError") 265), some (.builtin "Exception.__new__"), some (.bool true)] }) ::
(nat_lit 78, { cls := .type "tuple", data := .seq #[] }) ::
(nat_lit 80, { cls := .type "tuple", data := .seq #[.str (Str.ofString "number") 286, .str (Str.ofString "size") 287] }) ::
(nat_lit 81, { cls := .type "tuple", data := .seq #[] }) ::
(nat_lit 83, { cls := .type "code", data := .fields #[.str (Str.ofString "put_number") 283, .str (Str.ofString "put_number") 284, .str (Str.ofString "/claim/cut.py") 285, .int 19 0, .int 2 0, .int 0 0, .int 0 0, .int 3 0, .ref 78, .bool true, .int 181 0, .ref 79, .none, .ref 80, .ref 81, .ref 82, .int 288 0, .int 19 0, .str (Str.ofString "/claim/cut.py") 289] }) ::
(nat_lit 84, fnS (st1 10) (Str.ofString "put_number") (.none) (.str (Str.ofString "pagebase.header") 273) (.ref 83)) ::
(nat_lit 85, { cls := .type "tuple", data := .seq #[] }) ::
(nat_lit 87, { cls := .type "tuple", data := .seq #[.str (Str.ofString "octets") 294, .str (Str.ofString "at") 295, .str (Str.ofString "size") 296] }) ::
(nat_lit 88, { cls := .type "tuple", data := .seq #[] }) ::
(nat_lit 90, { cls := .type "code", data := .fields #[.str (Str.ofString "get_number") 291, .str (Str.ofString "get_number") 292, .str (Str.ofString "/claim/cut.py") 293, .int 21 0, .int 3 0, .int 0 0, .int 0 0, .int 3 0, .ref 85, .bool true, .int 181 0, .ref 86, .none, .ref 87, .ref 88, .ref 89, .int 297 0, .int 21 0, .str (Str.ofString "/claim/cut.py") 298] }) ::
(nat_lit 91, fnS (st1 11) (Str.ofString "get_number") (.none) (.str (Str.ofString "pagebase.header") 273) (.ref 90)) ::
(nat_lit 92, { cls := .type "tuple", data := .seq #[] }) ::
(nat_lit 94, { cls := .type "tuple", data := .seq #[.str (Str.ofString "size") 303] }) ::
(nat_lit 95, { cls := .type "tuple", data := .seq #[] }) ::
(nat_lit 97, { cls := .type "code", data := .fields #[.str (Str.ofString "is_page_size") 300, .str (Str.ofString "is_page_size") 301, .str (Str.ofString "/claim/cut.py") 302, .int 23 0, .int 1 0, .int 0 0, .int 0 0, .int 3 0, .ref 92, .bool true, .int 181 0, .ref 93, .none, .ref 94, .ref 95, .ref 96, .int 304 0, .int 23 0, .str (Str.ofString "/claim/cut.py") 305] }) ::
(nat_lit 98, fnS (st1 12) (Str.ofString "is_page_size") (.none) (.str (Str.ofString "pagebase.header") 273) (.ref 97)) ::
(nat_lit 99, { cls := .type "tuple", data := .seq #[] }) ::
(nat_lit 101, { cls := .type "tuple", data := .seq #[.str (Str.ofString "nonce") 321, .str (Str.ofString "page") 322, .str (Str.ofString "octets") 323, .str (Str.ofString "total") 324, .str (Str.ofString "i") 325] }) ::
(nat_lit 102, { cls := .type "tuple", data := .seq #[] }) ::
(nat_lit 104, { cls := .type "code", data := .fields #[.str (Str.ofString "record_sum") 318, .str (Str.ofString "record_sum") 319, .str (Str.ofString "/claim/cut.py") 320, .int 30 0, .int 3 0, .int 0 0, .int 0 0, .int 3 0, .ref 99, .bool true, .int 181 0, .ref 100, .none, .ref 101, .ref 102, .ref 103, .int 326 0, .int 30 0, .str (Str.ofString "/claim/cut.py") 327] }) ::
(nat_lit 105, fnS (st1 18) (Str.ofString "record_sum") (.none) (.str (Str.ofString "pagebase.journal") 307) (.ref 104)) ::
(nat_lit 113, { cls := .type "tuple", data := .seq #[] }) ::
(nat_lit 115, { cls := .type "tuple", data := .seq #[.str (Str.ofString "self") 344, .str (Str.ofString "disk") 345, .str (Str.ofString "name") 346, .str (Str.ofString "page_size") 347] }) ::
(nat_lit 116, { cls := .type "tuple", data := .seq #[] }) ::
(nat_lit 118, { cls := .type "code", data := .fields #[.str (Str.ofString "__init__") 341, .str (Str.ofString "Journal.__init__") 342, .str (Str.ofString "/claim/cut.py") 343, .int 37 0, .int 4 0, .int 0 0, .int 0 0, .int 3 0, .ref 113, .bool true, .int 181 0, .ref 114, .none, .ref 115, .ref 116, .ref 117, .int 348 0, .int 37 0, .str (Str.ofString "/claim/cut.py") 349] }) ::
(nat_lit 119, fnS (st2 19 0) (Str.ofString "Journal.__init__") (.none) (.str (Str.ofString "pagebase.journal") 307) (.ref 118)) ::
(nat_lit 120, { cls := .type "tuple", data := .seq #[] }) ::
(nat_lit 122, { cls := .type "tuple", data := .seq #[.str (Str.ofString "self") 354] }) ::
(nat_lit 123, { cls := .type "tuple", data := .seq #[] }) ::
(nat_lit 125, { cls := .type "code", data := .fields #[.str (Str.ofString "file") 351, .str (Str.ofString "Journal.file") 352, .str (Str.ofString "/claim/cut.py") 353, .int 45 0, .int 1 0, .int 0 0, .int 0 0, .int 3 0, .ref 120, .bool true, .int 181 0, .ref 121, .none, .ref 122, .ref 123, .ref 124, .int 355 0, .int 45 0, .str (Str.ofString "/claim/cut.py") 356] }) ::
(nat_lit 126, fnS (st2 19 1) (Str.ofString "Journal.file") (.none) (.str (Str.ofString "pagebase.journal") 307) (.ref 125)) ::
(nat_lit 127, { cls := .type "tuple", data := .seq #[] }) ::
(nat_lit 129, { cls := .type "tuple", data := .seq #[.str (Str.ofString "self") 361] }) ::
(nat_lit 130, { cls := .type "tuple", data := .seq #[] }) ::
(nat_lit 132, { cls := .type "code", data := .fields #[.str (Str.ofString "record_size") 358, .str (Str.ofString "Journal.record_size") 359, .str (Str.ofString "/claim/cut.py") 360, .int 48 0, .int 1 0, .int 0 0, .int 0 0, .int 3 0, .ref 127, .bool true, .int 181 0, .ref 128, .none, .ref 129, .ref 130, .ref 131, .int 362 0, .int 48 0, .str (Str.ofString "/claim/cut.py") 363] }) ::
(nat_lit 133, fnS (st2 19 2) (Str.ofString "Journal.record_size") (.none) (.str (Str.ofString "pagebase.journal") 307) (.ref 132)) ::
(nat_lit 134, { cls := .type "tuple", data := .seq #[] }) ::
(nat_lit 136, { cls := .type "tuple", data := .seq #[.str (Str.ofString "self") 368, .str (Str.ofString "page_count") 369, .str (Str.ofString "nonce") 370] }) ::
(nat_lit 137, { cls := .type "tuple", data := .seq #[] }) ::
(nat_lit 139, { cls := .type "code", data := .fields #[.str (Str.ofString "begin") 365, .str (Str.ofString "Journal.begin") 366, .str (Str.ofString "/claim/cut.py") 367, .int 51 0, .int 3 0, .int 0 0, .int 0 0, .int 3 0, .ref 134, .bool true, .int 181 0, .ref 135, .none, .ref 136, .ref 137, .ref 138, .int 371 0, .int 51 0, .str (Str.ofString "/claim/cut.py") 372] }) ::
(nat_lit 140, fnS (st2 19 3) (Str.ofString "Journal.begin") (.none) (.str (Str.ofString "pagebase.journal") 307) (.ref 139)) ::
(nat_lit 141, { cls := .type "tuple", data := .seq #[] }) ::
(nat_lit 143, { cls := .type "tuple", data := .seq #[.str (Str.ofString "self") 377, .str (Str.ofString "page") 378, .str (Str.ofString "octets") 379] }) ::
(nat_lit 144, { cls := .type "tuple", data := .seq #[] }) ::
(nat_lit 146, { cls := .type "code", data := .fields #[.str (Str.ofString "add") 374, .str (Str.ofString "Journal.add") 375, .str (Str.ofString "/claim/cut.py") 376, .int 54 0, .int 3 0, .int 0 0, .int 0 0, .int 3 0, .ref 141, .bool true, .int 181 0, .ref 142, .none, .ref 143, .ref 144, .ref 145, .int 380 0, .int 54 0, .str (Str.ofString "/claim/cut.py") 381] }) ::
(nat_lit 147, fnS (st2 19 4) (Str.ofString "Journal.add") (.none) (.str (Str.ofString "pagebase.journal") 307) (.ref 146)) ::
(nat_lit 148, { cls := .type "tuple", data := .seq #[] }) ::
(nat_lit 150, { cls := .type "tuple", data := .seq #[.str (Str.ofString "self") 386, .str (Str.ofString "file") 387] }) ::
(nat_lit 151, { cls := .type "tuple", data := .seq #[] }) ::
(nat_lit 153, { cls := .type "code", data := .fields #[.str (Str.ofString "sync") 383, .str (Str.ofString "Journal.sync") 384, .str (Str.ofString "/claim/cut.py") 385, .int 57 0, .int 1 0, .int 0 0, .int 0 0, .int 3 0, .ref 148, .bool true, .int 181 0, .ref 149, .none, .ref 150, .ref 151, .ref 152, .int 388 0, .int 57 0, .str (Str.ofString "/claim/cut.py") 389] }) ::
(nat_lit 154, fnS (st2 19 5) (Str.ofString "Journal.sync") (.none) (.str (Str.ofString "pagebase.journal") 307) (.ref 153)) ::
(nat_lit 155, { cls := .type "tuple", data := .seq #[] }) ::
(nat_lit 157, { cls := .type "tuple", data := .seq #[.str (Str.ofString "self") 394, .str (Str.ofString "head") 395, .str (Str.ofString "page_size") 396] }) ::
(nat_lit 158, { cls := .type "tuple", data := .seq #[] }) ::
(nat_lit 160, { cls := .type "code", data := .fields #[.str (Str.ofString "read_head") 391, .str (Str.ofString "Journal.read_head") 392, .str (Str.ofString "/claim/cut.py") 393, .int 66 0, .int 1 0, .int 0 0, .int 0 0, .int 3 0, .ref 155, .bool true, .int 181 0, .ref 156, .none, .ref 157, .ref 158, .ref 159, .int 397 0, .int 66 0, .str (Str.ofString "/claim/cut.py") 398] }) ::
(nat_lit 161, fnS (st2 19 6) (Str.ofString "Journal.read_head") (.none) (.str (Str.ofString "pagebase.journal") 307) (.ref 160)) ::
(nat_lit 162, { cls := .type "tuple", data := .seq #[] }) ::
(nat_lit 164, { cls := .type "tuple", data := .seq #[.str (Str.ofString "self") 403, .str (Str.ofString "head") 404] }) ::
(nat_lit 165, { cls := .type "tuple", data := .seq #[] }) ::
(nat_lit 167, { cls := .type "code", data := .fields #[.str (Str.ofString "is_hot") 400, .str (Str.ofString "Journal.is_hot") 401, .str (Str.ofString "/claim/cut.py") 402, .int 75 0, .int 1 0, .int 0 0, .int 0 0, .int 3 0, .ref 162, .bool true, .int 181 0, .ref 163, .none, .ref 164, .ref 165, .ref 166, .int 405 0, .int 75 0, .str (Str.ofString "/claim/cut.py") 406] }) ::
(nat_lit 168, fnS (st2 19 7) (Str.ofString "Journal.is_hot") (.none) (.str (Str.ofString "pagebase.journal") 307) (.ref 167)) ::
(nat_lit 169, { cls := .type "tuple", data := .seq #[] }) ::
(nat_lit 171, { cls := .type "tuple", data := .seq #[.str (Str.ofString "self") 411, .str (Str.ofString "file") 412, .str (Str.ofString "head") 413, .str (Str.ofString "count") 414, .str (Str.ofString "nonce") 415, .str (Str.ofString "page_count") 416, .str (Str.ofString "page_size") 417, .str (Str.ofString "journal") 418, .str (Str.ofString "i") 419, .str (Str.ofString "record") 420, .str (Str.ofString "page") 421, .str (Str.ofString "octets") 422] }) ::
(nat_lit 172, { cls := .type "tuple", data := .seq #[] }) ::
(nat_lit 174, { cls := .type "code", data := .fields #[.str (Str.ofString "play") 408, .str (Str.ofString "Journal.play") 409, .str (Str.ofString "/claim/cut.py") 410, .int 83 0, .int 2 0, .int 0 0, .int 0 0, .int 3 0, .ref 169, .bool true, .int 181 0, .ref 170, .none, .ref 171, .ref 172, .ref 173, .int 423 0, .int 83 0, .str (Str.ofString "/claim/cut.py") 424] }) ::
(nat_lit 175, fnS (st2 19 8) (Str.ofString "Journal.play") (.none) (.str (Str.ofString "pagebase.journal") 307) (.ref 174)) ::
(nat_lit 176, { cls := .type "tuple", data := .seq #[] }) ::
(nat_lit 178, { cls := .type "tuple", data := .seq #[.str (Str.ofString "self") 429] }) ::
(nat_lit 179, { cls := .type "tuple", data := .seq #[] }) ::
(nat_lit 181, { cls := .type "code", data := .fields #[.str (Str.ofString "finish") 426, .str (Str.ofString "Journal.finish") 427, .str (Str.ofString "/claim/cut.py") 428, .int 101 0, .int 1 0, .int 0 0, .int 0 0, .int 3 0, .ref 176, .bool true, .int 181 0, .ref 177, .none, .ref 178, .ref 179, .ref 180, .int 430 0, .int 101 0, .str (Str.ofString "/claim/cut.py") 431] }) ::
(nat_lit 182, fnS (st2 19 9) (Str.ofString "Journal.finish") (.none) (.str (Str.ofString "pagebase.journal") 307) (.ref 181)) ::
(nat_lit 183, { cls := .type "tuple", data := .seq #[.str (Str.ofString "count") 433, .str (Str.ofString "disk") 434, .str (Str.ofString "name") 435, .str (Str.ofString "nonce") 436, .str (Str.ofString "page_size") 437, .str (Str.ofString "safe") 438] }) ::
(nat_lit 184, { cls := .type "dict", data := .dict #[⟨PyData.keyHash P (Str.ofString "__module__"), .str (Str.ofString "__module__") 336, .str (Str.ofString "pagebase.journal") 307⟩, ⟨PyData.keyHash P (Str.ofString "__firstlineno__"), .str (Str.ofString "__firstlineno__") 340, .int 35 339⟩, ⟨PyData.keyHash P (Str.ofString "__init__"), .str (Str.ofString "__init__") 350, .ref 119⟩, ⟨PyData.keyHash P (Str.ofString "file"), .str (Str.ofString "file") 357, .ref 126⟩, ⟨PyData.keyHash P (Str.ofString "record_size"), .str (Str.ofString "record_size") 364, .ref 133⟩, ⟨PyData.keyHash P (Str.ofString "begin"), .str (Str.ofString "begin") 373, .ref 140⟩, ⟨PyData.keyHash P (Str.ofString "add"), .str (Str.ofString "add") 382, .ref 147⟩, ⟨PyData.keyHash P (Str.ofString "sync"), .str (Str.ofString "sync") 390, .ref 154⟩, ⟨PyData.keyHash P (Str.ofString "read_head"), .str (Str.ofString "read_head") 399, .ref 161⟩, ⟨PyData.keyHash P (Str.ofString "is_hot"), .str (Str.ofString "is_hot") 407, .ref 168⟩, ⟨PyData.keyHash P (Str.ofString "play"), .str (Str.ofString "play") 425, .ref 175⟩, ⟨PyData.keyHash P (Str.ofString "finish"), .str (Str.ofString "finish") 432, .ref 182⟩, ⟨PyData.keyHash P (Str.ofString "__static_attributes__"), .str (Str.ofString "__static_attributes__") 439, .ref 183⟩, ⟨PyData.keyHash P (Str.ofString "__dict__"), .str (Str.ofString "__dict__") 441, .ref 186⟩, ⟨PyData.keyHash P (Str.ofString "__weakref__"), .str (Str.ofString "__weakref__") 443, .ref 187⟩, ⟨PyData.keyHash P (Str.ofString "__doc__"), .str (Str.ofString "__doc__") 444, .none⟩] 4 }) ::
(nat_lit 185, { cls := .type "type", data := .cls { name := Str.ofString "Journal", bases := [.type "object"], mro := [.ref 185, .type "object"], ns := 184, qualname := Str.ofString "Journal" }, slots := #[none, none, some (.str (Str.ofString "Journal") 329), some (.str (Str.ofString "Journal") 337), some (.builtin "object.__new__"), some (.bool true)] }) ::
(nat_lit 186, { cls := .type "getset_descriptor", data := .fields #[.str (Str.ofString "__dict__") 440, .ref 185, .builtin "function.__dict__", .builtin "function.__dict__#set"] }) ::
(nat_lit 187, { cls := .type "getset_descriptor", data := .fields #[.str (Str.ofString "__weakref__") 442, .ref 185, .builtin "ExceptionGroup.__weakref__", .none] }) ::
(nat_lit 197, { cls := .type "tuple", data := .seq #[] }) ::
(nat_lit 199, { cls := .type "tuple", data := .seq #[.str (Str.ofString "self") 466] }) ::
(nat_lit 200, { cls := .type "tuple", data := .seq #[] }) ::
(nat_lit 202, { cls := .type "code", data := .fields #[.str (Str.ofString "__init__") 463, .str (Str.ofString "LockTable.__init__") 464, .str (Str.ofString "/claim/cut.py") 465, .int 107 0, .int 1 0, .int 0 0, .int 0 0, .int 3 0, .ref 197, .bool true, .int 181 0, .ref 198, .none, .ref 199, .ref 200, .ref 201, .int 467 0, .int 107 0, .str (Str.ofString "/claim/cut.py") 468] }) ::
(nat_lit 203, fnS (st2 22 0) (Str.ofString "LockTable.__init__") (.none) (.str (Str.ofString "pagebase.locks") 447) (.ref 202)) ::
(nat_lit 204, { cls := .type "tuple", data := .seq #[] }) ::
(nat_lit 206, { cls := .type "tuple", data := .seq #[.str (Str.ofString "self") 473, .str (Str.ofString "owner") 474, .str (Str.ofString "name") 475] }) ::
(nat_lit 207, { cls := .type "tuple", data := .seq #[] }) ::
(nat_lit 209, { cls := .type "code", data := .fields #[.str (Str.ofString "level_of") 470, .str (Str.ofString "LockTable.level_of") 471, .str (Str.ofString "/claim/cut.py") 472, .int 112 0, .int 3 0, .int 0 0, .int 0 0, .int 3 0, .ref 204, .bool true, .int 181 0, .ref 205, .none, .ref 206, .ref 207, .ref 208, .int 476 0, .int 112 0, .str (Str.ofString "/claim/cut.py") 477] }) ::
(nat_lit 210, fnS (st2 22 1) (Str.ofString "LockTable.level_of") (.none) (.str (Str.ofString "pagebase.locks") 447) (.ref 209)) ::
(nat_lit 211, { cls := .type "tuple", data := .seq #[] }) ::
(nat_lit 213, { cls := .type "tuple", data := .seq #[.str (Str.ofString "self") 482, .str (Str.ofString "owner") 483, .str (Str.ofString "name") 484] }) ::
(nat_lit 214, { cls := .type "tuple", data := .seq #[] }) ::
(nat_lit 216, { cls := .type "code", data := .fields #[.str (Str.ofString "highest_of_others") 479, .str (Str.ofString "LockTable.highest_of_others") 480, .str (Str.ofString "/claim/cut.py") 481, .int 115 0, .int 3 0, .int 0 0, .int 0 0, .int 3 0, .ref 211, .bool true, .int 181 0, .ref 212, .none, .ref 213, .ref 214, .ref 215, .int 485 0, .int 115 0, .str (Str.ofString "/claim/cut.py") 486] }) ::
(nat_lit 217, fnS (st2 22 2) (Str.ofString "LockTable.highest_of_others") (.none) (.str (Str.ofString "pagebase.locks") 447) (.ref 216)) ::
(nat_lit 218, { cls := .type "tuple", data := .seq #[] }) ::
(nat_lit 220, { cls := .type "tuple", data := .seq #[.str (Str.ofString "self") 491, .str (Str.ofString "owner") 492, .str (Str.ofString "name") 493] }) ::
(nat_lit 221, { cls := .type "tuple", data := .seq #[] }) ::
(nat_lit 223, { cls := .type "code", data := .fields #[.str (Str.ofString "others_shared") 488, .str (Str.ofString "LockTable.others_shared") 489, .str (Str.ofString "/claim/cut.py") 490, .int 118 0, .int 3 0, .int 0 0, .int 0 0, .int 3 0, .ref 218, .bool true, .int 181 0, .ref 219, .none, .ref 220, .ref 221, .ref 222, .int 494 0, .int 118 0, .str (Str.ofString "/claim/cut.py") 495] }) ::
(nat_lit 224, fnS (st2 22 3) (Str.ofString "LockTable.others_shared") (.none) (.str (Str.ofString "pagebase.locks") 447) (.ref 223)) ::
(nat_lit 225, { cls := .type "tuple", data := .seq #[] }) ::
(nat_lit 227, { cls := .type "tuple", data := .seq #[.str (Str.ofString "self") 500, .str (Str.ofString "owner") 501, .str (Str.ofString "name") 502] }) ::
(nat_lit 228, { cls := .type "tuple", data := .seq #[] }) ::
(nat_lit 230, { cls := .type "code", data := .fields #[.str (Str.ofString "others_reserved") 497, .str (Str.ofString "LockTable.others_reserved") 498, .str (Str.ofString "/claim/cut.py") 499, .int 121 0, .int 3 0, .int 0 0, .int 0 0, .int 3 0, .ref 225, .bool true, .int 181 0, .ref 226, .none, .ref 227, .ref 228, .ref 229, .int 503 0, .int 121 0, .str (Str.ofString "/claim/cut.py") 504] }) ::
(nat_lit 231, fnS (st2 22 4) (Str.ofString "LockTable.others_reserved") (.none) (.str (Str.ofString "pagebase.locks") 447) (.ref 230)) ::
(nat_lit 232, { cls := .type "tuple", data := .seq #[] }) ::
(nat_lit 234, { cls := .type "tuple", data := .seq #[.str (Str.ofString "self") 509, .str (Str.ofString "owner") 510, .str (Str.ofString "name") 511, .str (Str.ofString "level") 512] }) ::
(nat_lit 235, { cls := .type "tuple", data := .seq #[] }) ::
(nat_lit 237, { cls := .type "code", data := .fields #[.str (Str.ofString "put_level") 506, .str (Str.ofString "LockTable.put_level") 507, .str (Str.ofString "/claim/cut.py") 508, .int 124 0, .int 4 0, .int 0 0, .int 0 0, .int 3 0, .ref 232, .bool true, .int 181 0, .ref 233, .none, .ref 234, .ref 235, .ref 236, .int 513 0, .int 124 0, .str (Str.ofString "/claim/cut.py") 514] }) ::
(nat_lit 238, fnS (st2 22 5) (Str.ofString "LockTable.put_level") (.none) (.str (Str.ofString "pagebase.locks") 447) (.ref 237)) ::
(nat_lit 239, { cls := .type "tuple", data := .seq #[] }) ::
(nat_lit 241, { cls := .type "tuple", data := .seq #[.str (Str.ofString "self") 519, .str (Str.ofString "owner") 520, .str (Str.ofString "name") 521, .str (Str.ofString "level") 522] }) ::
(nat_lit 242, { cls := .type "tuple", data := .seq #[] }) ::
(nat_lit 244, { cls := .type "code", data := .fields #[.str (Str.ofString "lock") 516, .str (Str.ofString "LockTable.lock") 517, .str (Str.ofString "/claim/cut.py") 518, .int 127 0, .int 4 0, .int 0 0, .int 0 0, .int 3 0, .ref 239, .bool true, .int 181 0, .ref 240, .none, .ref 241, .ref 242, .ref 243, .int 523 0, .int 127 0, .str (Str.ofString "/claim/cut.py") 524] }) ::
(nat_lit 245, fnS (st2 22 6) (Str.ofString "LockTable.lock") (.none) (.str (Str.ofString "pagebase.locks") 447) (.ref 244)) ::
(nat_lit 246, { cls := .type "tuple", data := .seq #[] }) ::
(nat_lit 248, { cls := .type "tuple", data := .seq #[.str (Str.ofString "self") 529, .str (Str.ofString "owner") 530, .str (Str.ofString "name") 531] }) ::
(nat_lit 249, { cls := .type "tuple", data := .seq #[] }) ::
(nat_lit 251, { cls := .type "code", data := .fields #[.str (Str.ofString "take_shared") 526, .str (Str.ofString "LockTable.take_shared") 527, .str (Str.ofString "/claim/cut.py") 528, .int 130 0, .int 3 0, .int 0 0, .int 0 0, .int 3 0, .ref 246, .bool true, .int 181 0, .ref 247, .none, .ref 248, .ref 249, .ref 250, .int 532 0, .int 130 0, .str (Str.ofString "/claim/cut.py") 533] }) ::
(nat_lit 252, fnS (st2 22 7) (Str.ofString "LockTable.take_shared") (.none) (.str (Str.ofString "pagebase.locks") 447) (.ref 251)) ::
(nat_lit 253, { cls := .type "tuple", data := .seq #[] }) ::
(nat_lit 255, { cls := .type "tuple", data := .seq #[.str (Str.ofString "self") 538, .str (Str.ofString "owner") 539, .str (Str.ofString "name") 540] }) ::
(nat_lit 256, { cls := .type "tuple", data := .seq #[] }) ::
(nat_lit 258, { cls := .type "code", data := .fields #[.str (Str.ofString "take_reserved") 535, .str (Str.ofString "LockTable.take_reserved") 536, .str (Str.ofString "/claim/cut.py") 537, .int 133 0, .int 3 0, .int 0 0, .int 0 0, .int 3 0, .ref 253, .bool true, .int 181 0, .ref 254, .none, .ref 255, .ref 256, .ref 257, .int 541 0, .int 133 0, .str (Str.ofString "/claim/cut.py") 542] }) ::
(nat_lit 259, fnS (st2 22 8) (Str.ofString "LockTable.take_reserved") (.none) (.str (Str.ofString "pagebase.locks") 447) (.ref 258)) ::
(nat_lit 260, { cls := .type "tuple", data := .seq #[] }) ::
(nat_lit 262, { cls := .type "tuple", data := .seq #[.str (Str.ofString "self") 547, .str (Str.ofString "owner") 548, .str (Str.ofString "name") 549, .str (Str.ofString "level") 550] }) ::
(nat_lit 263, { cls := .type "tuple", data := .seq #[] }) ::
(nat_lit 265, { cls := .type "code", data := .fields #[.str (Str.ofString "take_exclusive") 544, .str (Str.ofString "LockTable.take_exclusive") 545, .str (Str.ofString "/claim/cut.py") 546, .int 136 0, .int 4 0, .int 0 0, .int 0 0, .int 3 0, .ref 260, .bool true, .int 181 0, .ref 261, .none, .ref 262, .ref 263, .ref 264, .int 551 0, .int 136 0, .str (Str.ofString "/claim/cut.py") 552] }) ::
(nat_lit 266, fnS (st2 22 9) (Str.ofString "LockTable.take_exclusive") (.none) (.str (Str.ofString "pagebase.locks") 447) (.ref 265)) ::
(nat_lit 267, { cls := .type "tuple", data := .seq #[.int 0 449] }) ::
(nat_lit 268, { cls := .type "tuple", data := .seq #[] }) ::
(nat_lit 270, { cls := .type "tuple", data := .seq #[.str (Str.ofString "self") 557, .str (Str.ofString "owner") 558, .str (Str.ofString "name") 559, .str (Str.ofString "level") 560] }) ::
(nat_lit 271, { cls := .type "tuple", data := .seq #[] }) ::
(nat_lit 273, { cls := .type "code", data := .fields #[.str (Str.ofString "unlock") 554, .str (Str.ofString "LockTable.unlock") 555, .str (Str.ofString "/claim/cut.py") 556, .int 139 0, .int 4 0, .int 0 0, .int 0 0, .int 3 0, .ref 268, .bool true, .int 181 0, .ref 269, .none, .ref 270, .ref 271, .ref 272, .int 561 0, .int 139 0, .str (Str.ofString "/claim/cut.py") 562] }) ::
(nat_lit 274, fnS (st2 22 10) (Str.ofString "LockTable.unlock") (.ref 267) (.str (Str.ofString "pagebase.locks") 447) (.ref 273)) ::
(nat_lit 275, { cls := .type "tuple", data := .seq #[.bool true] }) ::
(nat_lit 276, { cls := .type "tuple", data := .seq #[] }) ::
(nat_lit 278, { cls := .type "tuple", data := .seq #[.str (Str.ofString "self") 567, .str (Str.ofString "owner") 568, .str (Str.ofString "name") 569, .str (Str.ofString "slot") 570, .str (Str.ofString "exclusive") 571] }) ::
(nat_lit 279, { cls := .type "tuple", data := .seq #[] }) ::
(nat_lit 281, { cls := .type "code", data := .fields #[.str (Str.ofString "hold") 564, .str (Str.ofString "LockTable.hold") 565, .str (Str.ofString "/claim/cut.py") 566, .int 142 0, .int 5 0, .int 0 0, .int 0 0, .int 3 0, .ref 276, .bool true, .int 181 0, .ref 277, .none, .ref 278, .ref 279, .ref 280, .int 572 0, .int 142 0, .str (Str.ofString "/claim/cut.py") 573] }) ::
(nat_lit 282, fnS (st2 22 11) (Str.ofString "LockTable.hold") (.ref 275) (.str (Str.ofString "pagebase.locks") 447) (.ref 281)) ::
(nat_lit 283, { cls := .type "tuple", data := .seq #[] }) ::
(nat_lit 285, { cls := .type "tuple", data := .seq #[.str (Str.ofString "self") 578, .str (Str.ofString "owner") 579, .str (Str.ofString "name") 580, .str (Str.ofString "slot") 581] }) ::
(nat_lit 286, { cls := .type "tuple", data := .seq #[] }) ::
(nat_lit 288, { cls := .type "code", data := .fields #[.str (Str.ofString "free") 575, .str (Str.ofString "LockTable.free") 576, .str (Str.ofString "/claim/cut.py") 577, .int 145 0, .int 4 0, .int 0 0, .int 0 0, .int 3 0, .ref 283, .bool true, .int 181 0, .ref 284, .none, .ref 285, .ref 286, .ref 287, .int 582 0, .int 145 0, .str (Str.ofString "/claim/cut.py") 583] }) ::
(nat_lit 289, fnS (st2 22 12) (Str.ofString "LockTable.free") (.none) (.str (Str.ofString "pagebase.locks") 447) (.ref 288)) ::
(nat_lit 290, { cls := .type "tuple", data := .seq #[] }) ::
(nat_lit 292, { cls := .type "tuple", data := .seq #[.str (Str.ofString "self") 588, .str (Str.ofString "name") 589, .str (Str.ofString "slot") 590] }) ::
(nat_lit 293, { cls := .type "tuple", data := .seq #[] }) ::
(nat_lit 295, { cls := .type "code", data := .fields #[.str (Str.ofString "holders") 585, .str (Str.ofString "LockTable.holders") 586, .str (Str.ofString "/claim/cut.py") 587, .int 148 0, .int 3 0, .int 0 0, .int 0 0, .int 3 0, .ref 290, .bool true, .int 181 0, .ref 291, .none, .ref 292, .ref 293, .ref 294, .int 591 0, .int 148 0, .str (Str.ofString "/claim/cut.py") 592] }) ::
(nat_lit 296, fnS (st2 22 13) (Str.ofString "LockTable.holders") (.none) (.str (Str.ofString "pagebase.locks") 447) (.ref 295)) ::
(nat_lit 297, { cls := .type "tuple", data := .seq #[] }) ::
(nat_lit 299, { cls := .type "tuple", data := .seq #[.str (Str.ofString "self") 597, .str (Str.ofString "owner") 598, .str (Str.ofString "name") 599, .str (Str.ofString "mark") 600] }) ::
(nat_lit 300, { cls := .type "tuple", data := .seq #[] }) ::
(nat_lit 302, { cls := .type "code", data := .fields #[.str (Str.ofString "set_mark") 594, .str (Str.ofString "LockTable.set_mark") 595, .str (Str.ofString "/claim/cut.py") 596, .int 151 0, .int 4 0, .int 0 0, .int 0 0, .int 3 0, .ref 297, .bool true, .int 181 0, .ref 298, .none, .ref 299, .ref 300, .ref 301, .int 601 0, .int 151 0, .str (Str.ofString "/claim/cut.py") 602] }) ::
(nat_lit 303, fnS (st2 22 14) (Str.ofString "LockTable.set_mark") (.none) (.str (Str.ofString "pagebase.locks") 447) (.ref 302)) ::
(nat_lit 304, { cls := .type "tuple", data := .seq #[] }) ::
(nat_lit 306, { cls := .type "tuple", data := .seq #[.str (Str.ofString "self") 607, .str (Str.ofString "name") 608] }) ::
(nat_lit 307, { cls := .type "tuple", data := .seq #[] }) ::
(nat_lit 309, { cls := .type "code", data := .fields #[.str (Str.ofString "marks") 604, .str (Str.ofString "LockTable.marks") 605, .str (Str.ofString "/claim/cut.py") 606, .int 154 0, .int 2 0, .int 0 0, .int 0 0, .int 3 0, .ref 304, .bool true, .int 181 0, .ref 305, .none, .ref 306, .ref 307, .ref 308, .int 609 0, .int 154 0, .str (Str.ofString "/claim/cut.py") 610] }) ::
(nat_lit 310, fnS (st2 22 15) (Str.ofString "LockTable.marks") (.none) (.str (Str.ofString "pagebase.locks") 447) (.ref 309)) ::
(nat_lit 311, { cls := .type "tuple", data := .seq #[] }) ::
(nat_lit 313, { cls := .type "tuple", data := .seq #[.str (Str.ofString "self") 615, .str (Str.ofString "owner") 616] }) ::
(nat_lit 314, { cls := .type "tuple", data := .seq #[] }) ::
(nat_lit 316, { cls := .type "code", data := .fields #[.str (Str.ofString "drop") 612, .str (Str.ofString "LockTable.drop") 613, .str (Str.ofString "/claim/cut.py") 614, .int 157 0, .int 2 0, .int 0 0, .int 0 0, .int 3 0, .ref 311, .bool true, .int 181 0, .ref 312, .none, .ref 313, .ref 314, .ref 315, .int 617 0, .int 157 0, .str (Str.ofString "/claim/cut.py") 618] }) ::
(nat_lit 317, fnS (st2 22 16) (Str.ofString "LockTable.drop") (.none) (.str (Str.ofString "pagebase.locks") 447) (.ref 316)) ::
(nat_lit 318, { cls := .type "tuple", data := .seq #[.str (Str.ofString "levels") 620, .str (Str.ofString "slots") 621, .str (Str.ofString "told_marks") 622] }) ::
(nat_lit 319, { cls := .type "dict", data := .dict #[⟨PyData.keyHash P (Str.ofString "__module__"), .str (Str.ofString "__module__") 458, .str (Str.ofString "pagebase.locks") 447⟩, ⟨PyData.keyHash P (Str.ofString "__firstlineno__"), .str (Str.ofString "__firstlineno__") 462, .int 105 461⟩, ⟨PyData.keyHash P (Str.ofString "__init__"), .str (Str.ofString "__init__") 469, .ref 203⟩, ⟨PyData.keyHash P (Str.ofString "level_of"), .str (Str.ofString "level_of") 478, .ref 210⟩, ⟨PyData.keyHash P (Str.ofString "highest_of_others"), .str (Str.ofString "highest_of_others") 487, .ref 217⟩, ⟨PyData.keyHash P (Str.ofString "others_shared"), .str (Str.ofString "others_shared") 496, .ref 224⟩, ⟨PyData.keyHash P (Str.ofString "others_reserved"), .str (Str.ofString "others_reserved") 505, .ref 231⟩, ⟨PyData.keyHash P (Str.ofString "put_level"), .str (Str.ofString "put_level") 515, .ref 238⟩, ⟨PyData.keyHash P (Str.ofString "lock"), .str (Str.ofString "lock") 525, .ref 245⟩, ⟨PyData.keyHash P (Str.ofString "take_shared"), .str (Str.ofString "take_shared") 534, .ref 252⟩, ⟨PyData.keyHash P (Str.ofString "take_reserved"), .str (Str.ofString "take_reserved") 543, .ref 259⟩, ⟨PyData.keyHash P (Str.ofString "take_exclusive"), .str (Str.ofString "take_exclusive") 553, .ref 266⟩, ⟨PyData.keyHash P (Str.ofString "unlock"), .str (Str.ofString "unlock") 563, .ref 274⟩, ⟨PyData.keyHash P (Str.ofString "hold"), .str (Str.ofString "hold") 574, .ref 282⟩, ⟨PyData.keyHash P (Str.ofString "free"), .str (Str.ofString "free") 584, .ref 289⟩, ⟨PyData.keyHash P (Str.ofString "holders"), .str (Str.ofString "holders") 593, .ref 296⟩, ⟨PyData.keyHash P (Str.ofString "set_mark"), .str (Str.ofString "set_mark") 603, .ref 303⟩, ⟨PyData.keyHash P (Str.ofString "marks"), .str (Str.ofString "marks") 611, .ref 310⟩, ⟨PyData.keyHash P (Str.ofString "drop"), .str (Str.ofString "drop") 619, .ref 317⟩, ⟨PyData.keyHash P (Str.ofString "__static_attributes__"), .str (Str.ofString "__static_attributes__") 623, .ref 318⟩, ⟨PyData.keyHash P (Str.ofString "__dict__"), .str (Str.ofString "__dict__") 625, .ref 321⟩, ⟨PyData.keyHash P (Str.ofString "__weakref__"), .str (Str.ofString "__weakref__") 627, .ref 322⟩, ⟨PyData.keyHash P (Str.ofString "__doc__"), .str (Str.ofString "__doc__") 628, .none⟩] 4 }) ::
(nat_lit 320, { cls := .type "type", data := .cls { name := Str.ofString "LockTable", bases := [.type "object"], mro := [.ref 320, .type "object"], ns := 319, qualname := Str.ofString "LockTable" }, slots := #[none, none, some (.str (Str.ofString "LockTable") 451), some (.str (Str.ofString "LockTable") 459), some (.builtin "object.__new__"), some (.bool true)] }) ::
(nat_lit 321, { cls := .type "getset_descriptor", data := .fields #[.str (Str.ofString "__dict__") 624, .ref 320, .builtin "function.__dict__", .builtin "function.__dict__#set"] }) ::
(nat_lit 322, { cls := .type "getset_descriptor", data := .fields #[.str (Str.ofString "__weakref__") 626, .ref 320, .builtin "ExceptionGroup.__weakref__", .none] }) ::
(nat_lit 332, { cls := .type "tuple", data := .seq #[] }) ::
(nat_lit 334, { cls := .type "tuple", data := .seq #[.str (Str.ofString "self") 648, .str (Str.ofString "disk") 649, .str (Str.ofString "name") 650] }) ::
(nat_lit 335, { cls := .type "tuple", data := .seq #[] }) ::
(nat_lit 337, { cls := .type "code", data := .fields #[.str (Str.ofString "__init__") 645, .str (Str.ofString "DiskFile.__init__") 646, .str (Str.ofString "/claim/cut.py") 647, .int 162 0, .int 3 0, .int 0 0, .int 0 0, .int 3 0, .ref 332, .bool true, .int 181 0, .ref 333, .none, .ref 334, .ref 335, .ref 336, .int 651 0, .int 162 0, .str (Str.ofString "/claim/cut.py") 652] }) ::
(nat_lit 338, fnS (st2 24 0) (Str.ofString "DiskFile.__init__") (.none) (.str (Str.ofString "pagebase.device") 631) (.ref 337)) ::
(nat_lit 339, { cls := .type "tuple", data := .seq #[] }) ::
(nat_lit 341, { cls := .type "tuple", data := .seq #[.str (Str.ofString "self") 657] }) ::
(nat_lit 342, { cls := .type "tuple", data := .seq #[] }) ::
(nat_lit 344, { cls := .type "code", data := .fields #[.str (Str.ofString "size") 654, .str (Str.ofString "DiskFile.size") 655, .str (Str.ofString "/claim/cut.py") 656, .int 169 0, .int 1 0, .int 0 0, .int 0 0, .int 3 0, .ref 339, .bool true, .int 181 0, .ref 340, .none, .ref 341, .ref 342, .ref 343, .int 658 0, .int 169 0, .str (Str.ofString "/claim/cut.py") 659] }) ::
(nat_lit 345, fnS (st2 24 1) (Str.ofString "DiskFile.size") (.none) (.str (Str.ofString "pagebase.device") 631) (.ref 344)) ::
(nat_lit 346, { cls := .type "tuple", data := .seq #[] }) ::
(nat_lit 348, { cls := .type "tuple", data := .seq #[.str (Str.ofString "self") 664, .str (Str.ofString "at") 665, .str (Str.ofString "size") 666] }) ::
(nat_lit 349, { cls := .type "tuple", data := .seq #[] }) ::
(nat_lit 351, { cls := .type "code", data := .fields #[.str (Str.ofString "read") 661, .str (Str.ofString "DiskFile.read") 662, .str (Str.ofString "/claim/cut.py") 663, .int 172 0, .int 3 0, .int 0 0, .int 0 0, .int 3 0, .ref 346, .bool true, .int 181 0, .ref 347, .none, .ref 348, .ref 349, .ref 350, .int 667 0, .int 172 0, .str (Str.ofString "/claim/cut.py") 668] }) ::
(nat_lit 352, fnS (st2 24 2) (Str.ofString "DiskFile.read") (.none) (.str (Str.ofString "pagebase.device") 631) (.ref 351)) ::
(nat_lit 353, { cls := .type "tuple", data := .seq #[] }) ::
(nat_lit 355, { cls := .type "tuple", data := .seq #[.str (Str.ofString "self") 673, .str (Str.ofString "at") 674, .str (Str.ofString "octets") 675] }) ::
(nat_lit 356, { cls := .type "tuple", data := .seq #[] }) ::
(nat_lit 358, { cls := .type "code", data := .fields #[.str (Str.ofString "write") 670, .str (Str.ofString "DiskFile.write") 671, .str (Str.ofString "/claim/cut.py") 672, .int 175 0, .int 3 0, .int 0 0, .int 0 0, .int 3 0, .ref 353, .bool true, .int 181 0, .ref 354, .none, .ref 355, .ref 356, .ref 357, .int 676 0, .int 175 0, .str (Str.ofString "/claim/cut.py") 677] }) ::
(nat_lit 359, fnS (st2 24 3) (Str.ofString "DiskFile.write") (.none) (.str (Str.ofString "pagebase.device") 631) (.ref 358)) ::
(nat_lit 360, { cls := .type "tuple", data := .seq #[] }) ::
(nat_lit 362, { cls := .type "tuple", data := .seq #[.str (Str.ofString "self") 682, .str (Str.ofString "size") 683] }) ::
(nat_lit 363, { cls := .type "tuple", data := .seq #[] }) ::
(nat_lit 365, { cls := .type "code", data := .fields #[.str (Str.ofString "truncate") 679, .str (Str.ofString "DiskFile.truncate") 680, .str (Str.ofString "/claim/cut.py") 681, .int 181 0, .int 2 0, .int 0 0, .int 0 0, .int 3 0, .ref 360, .bool true, .int 181 0, .ref 361, .none, .ref 362, .ref 363, .ref 364, .int 684 0, .int 181 0, .str (Str.ofString "/claim/cut.py") 685] }) ::
(nat_lit 366, fnS (st2 24 4) (Str.ofString "DiskFile.truncate") (.none) (.str (Str.ofString "pagebase.device") 631) (.ref 365)) ::
(nat_lit 367, { cls := .type "tuple", data := .seq #[] }) ::
(nat_lit 369, { cls := .type "tuple", data := .seq #[.str (Str.ofString "self") 690] }) ::
(nat_lit 370, { cls := .type "tuple", data := .seq #[] }) ::
(nat_lit 372, { cls := .type "code", data := .fields #[.str (Str.ofString "sync") 687, .str (Str.ofString "DiskFile.sync") 688, .str (Str.ofString "/claim/cut.py") 689, .int 187 0, .int 1 0, .int 0 0, .int 0 0, .int 3 0, .ref 367, .bool true, .int 181 0, .ref 368, .none, .ref 369, .ref 370, .ref 371, .int 691 0, .int 187 0, .str (Str.ofString "/claim/cut.py") 692] }) ::
(nat_lit 373, fnS (st2 24 5) (Str.ofString "DiskFile.sync") (.none) (.str (Str.ofString "pagebase.device") 631) (.ref 372)) ::
(nat_lit 374, { cls := .type "tuple", data := .seq #[] }) ::
(nat_lit 376, { cls := .type "tuple", data := .seq #[.str (Str.ofString "self") 697, .str (Str.ofString "disk") 698] }) ::
(nat_lit 377, { cls := .type "tuple", data := .seq #[] }) ::
(nat_lit 379, { cls := .type "code", data := .fields #[.str (Str.ofString "copy_for") 694, .str (Str.ofString "DiskFile.copy_for") 695, .str (Str.ofString "/claim/cut.py") 696, .int 192 0, .int 2 0, .int 0 0, .int 0 0, .int 3 0, .ref 374, .bool true, .int 181 0, .ref 375, .none, .ref 376, .ref 377, .ref 378, .int 699 0, .int 192 0, .str (Str.ofString "/claim/cut.py") 700] }) ::
(nat_lit 380, fnS (st2 24 6) (Str.ofString "DiskFile.copy_for") (.none) (.str (Str.ofString "pagebase.device") 631) (.ref 379)) ::
(nat_lit 381, { cls := .type "tuple", data := .seq #[] }) ::
(nat_lit 383, { cls := .type "tuple", data := .seq #[.str (Str.ofString "self") 705, .str (Str.ofString "numbers") 706, .str (Str.ofString "sector") 707, .str (Str.ofString "left") 708, .str (Str.ofString "word") 709, .str (Str.ofString "at") 710, .str (Str.ofString "octets") 711, .str (Str.ofString "number") 712, .str (Str.ofString "way") 713, .str (Str.ofString "sectors") 714] }) ::
(nat_lit 384, { cls := .type "tuple", data := .seq #[] }) ::
(nat_lit 386, { cls := .type "code", data := .fields #[.str (Str.ofString "surviving") 702, .str (Str.ofString "DiskFile.surviving") 703, .str (Str.ofString "/claim/cut.py") 704, .int 195 0, .int 3 0, .int 0 0, .int 0 0, .int 3 0, .ref 381, .bool true, .int 181 0, .ref 382, .none, .ref 383, .ref 384, .ref 385, .int 715 0, .int 195 0, .str (Str.ofString "/claim/cut.py") 716] }) ::
(nat_lit 387, fnS (st2 24 7) (Str.ofString "DiskFile.surviving") (.none) (.str (Str.ofString "pagebase.device") 631) (.ref 386)) ::
(nat_lit 388, { cls := .type "tuple", data := .seq #[.str (Str.ofString "disk") 718, .str (Str.ofString "name") 719, .str (Str.ofString "now") 720, .str (Str.ofString "pending") 721, .str (Str.ofString "synced") 722] }) ::
(nat_lit 389, { cls := .type "dict", data := .dict #[⟨PyData.keyHash P (Str.ofString "__module__"), .str (Str.ofString "__module__") 640, .str (Str.ofString "pagebase.device") 631⟩, ⟨PyData.keyHash P (Str.ofString "__firstlineno__"), .str (Str.ofString "__firstlineno__") 644, .int 160 643⟩, ⟨PyData.keyHash P (Str.ofString "__init__"), .str (Str.ofString "__init__") 653, .ref 338⟩, ⟨PyData.keyHash P (Str.ofString "size"), .str (Str.ofString "size") 660, .ref 345⟩, ⟨PyData.keyHash P (Str.ofString "read"), .str (Str.ofString "read") 669, .ref 352⟩, ⟨PyData.keyHash P (Str.ofString "write"), .str (Str.ofString "write") 678, .ref 359⟩, ⟨PyData.keyHash P (Str.ofString "truncate"), .str (Str.ofString "truncate") 686, .ref 366⟩, ⟨PyData.keyHash P (Str.ofString "sync"), .str (Str.ofString "sync") 693, .ref 373⟩, ⟨PyData.keyHash P (Str.ofString "copy_for"), .str (Str.ofString "copy_for") 701, .ref 380⟩, ⟨PyData.keyHash P (Str.ofString "surviving"), .str (Str.ofString "surviving") 717, .ref 387⟩, ⟨PyData.keyHash P (Str.ofString "__static_attributes__"), .str (Str.ofString "__static_attributes__") 723, .ref 388⟩, ⟨PyData.keyHash P (Str.ofString "__dict__"), .str (Str.ofString "__dict__") 725, .ref 391⟩, ⟨PyData.keyHash P (Str.ofString "__weakref__"), .str (Str.ofString "__weakref__") 727, .ref 392⟩, ⟨PyData.keyHash P (Str.ofString "__doc__"), .str (Str.ofString "__doc__") 728, .none⟩] 4 }) ::
(nat_lit 390, { cls := .type "type", data := .cls { name := Str.ofString "DiskFile", bases := [.type "object"], mro := [.ref 390, .type "object"], ns := 389, qualname := Str.ofString "DiskFile" }, slots := #[none, none, some (.str (Str.ofString "DiskFile") 633), some (.str (Str.ofString "DiskFile") 641), some (.builtin "object.__new__"), some (.bool true)] }) ::
(nat_lit 391, { cls := .type "getset_descriptor", data := .fields #[.str (Str.ofString "__dict__") 724, .ref 390, .builtin "function.__dict__", .builtin "function.__dict__#set"] }) ::
(nat_lit 392, { cls := .type "getset_descriptor", data := .fields #[.str (Str.ofString "__weakref__") 726, .ref 390, .builtin "ExceptionGroup.__weakref__", .none] }) ::
(nat_lit 402, { cls := .type "tuple", data := .seq #[] }) ::
(nat_lit 404, { cls := .type "tuple", data := .seq #[.str (Str.ofString "self") 746, .str (Str.ofString "numbers") 747] }) ::
(nat_lit 405, { cls := .type "tuple", data := .seq #[] }) ::
(nat_lit 407, { cls := .type "code", data := .fields #[.str (Str.ofString "__init__") 743, .str (Str.ofString "Choices.__init__") 744, .str (Str.ofString "/claim/cut.py") 745, .int 214 0, .int 2 0, .int 0 0, .int 0 0, .int 3 0, .ref 402, .bool true, .int 181 0, .ref 403, .none, .ref 404, .ref 405, .ref 406, .int 748 0, .int 214 0, .str (Str.ofString "/claim/cut.py") 749] }) ::
(nat_lit 408, fnS (st2 25 0) (Str.ofString "Choices.__init__") (.none) (.str (Str.ofString "pagebase.device") 631) (.ref 407)) ::
(nat_lit 409, { cls := .type "tuple", data := .seq #[] }) ::
(nat_lit 411, { cls := .type "tuple", data := .seq #[.str (Str.ofString "self") 754, .str (Str.ofString "number") 755] }) ::
(nat_lit 412, { cls := .type "tuple", data := .seq #[] }) ::
(nat_lit 414, { cls := .type "code", data := .fields #[.str (Str.ofString "following") 751, .str (Str.ofString "Choices.following") 752, .str (Str.ofString "/claim/cut.py") 753, .int 218 0, .int 1 0, .int 0 0, .int 0 0, .int 3 0, .ref 409, .bool true, .int 181 0, .ref 410, .none, .ref 411, .ref 412, .ref 413, .int 756 0, .int 218 0, .str (Str.ofString "/claim/cut.py") 757] }) ::
(nat_lit 415, fnS (st2 25 1) (Str.ofString "Choices.following") (.none) (.str (Str.ofString "pagebase.device") 631) (.ref 414)) ::
(nat_lit 416, { cls := .type "tuple", data := .seq #[.str (Str.ofString "numbers") 759, .str (Str.ofString "told") 760] }) ::
(nat_lit 417, { cls := .type "dict", data := .dict #[⟨PyData.keyHash P (Str.ofString "__module__"), .str (Str.ofString "__module__") 738, .str (Str.ofString "pagebase.device") 631⟩, ⟨PyData.keyHash P (Str.ofString "__firstlineno__"), .str (Str.ofString "__firstlineno__") 742, .int 212 741⟩, ⟨PyData.keyHash P (Str.ofString "__init__"), .str (Str.ofString "__init__") 750, .ref 408⟩, ⟨PyData.keyHash P (Str.ofString "following"), .str (Str.ofString "following") 758, .ref 415⟩, ⟨PyData.keyHash P (Str.ofString "__static_attributes__"), .str (Str.ofString "__static_attributes__") 761, .ref 416⟩, ⟨PyData.keyHash P (Str.ofString "__dict__"), .str (Str.ofString "__dict__") 763, .ref 419⟩, ⟨PyData.keyHash P (Str.ofString "__weakref__"), .str (Str.ofString "__weakref__") 765, .ref 420⟩, ⟨PyData.keyHash P (Str.ofString "__doc__"), .str (Str.ofString "__doc__") 766, .none⟩] 4 }) ::
(nat_lit 418, { cls := .type "type", data := .cls { name := Str.ofString "Choices", bases := [.type "object"], mro := [.ref 418, .type "object"], ns := 417, qualname := Str.ofString "Choices" }, slots := #[none, none, some (.str (Str.ofString "Choices") 731), some (.str (Str.ofString "Choices") 739), some (.builtin "object.__new__"), some (.bool true)] }) ::
(nat_lit 419, { cls := .type "getset_descriptor", data := .fields #[.str (Str.ofString "__dict__") 762, .ref 418, .builtin "function.__dict__", .builtin "function.__dict__#set"] }) ::
(nat_lit 420, { cls := .type "getset_descriptor", data := .fields #[.str (Str.ofString "__weakref__") 764, .ref 418, .builtin "ExceptionGroup.__weakref__", .none] }) ::
(nat_lit 430, { cls := .type "tuple", data := .seq #[.int 8 781, .none] }) ::
(nat_lit 431, { cls := .type "tuple", data := .seq #[] }) ::
(nat_lit 433, { cls := .type "tuple", data := .seq #[.str (Str.ofString "self") 785, .str (Str.ofString "sector") 786, .str (Str.ofString "room") 787] }) ::
(nat_lit 434, { cls := .type "tuple", data := .seq #[] }) ::
(nat_lit 436, { cls := .type "code", data := .fields #[.str (Str.ofString "__init__") 782, .str (Str.ofString "Disk.__init__") 783, .str (Str.ofString "/claim/cut.py") 784, .int 226 0, .int 3 0, .int 0 0, .int 0 0, .int 3 0, .ref 431, .bool true, .int 181 0, .ref 432, .none, .ref 433, .ref 434, .ref 435, .int 788 0, .int 226 0, .str (Str.ofString "/claim/cut.py") 789] }) ::
(nat_lit 437, fnS (st2 26 0) (Str.ofString "Disk.__init__") (.ref 430) (.str (Str.ofString "pagebase.device") 631) (.ref 436)) ::
(nat_lit 438, { cls := .type "tuple", data := .seq #[] }) ::
(nat_lit 440, { cls := .type "tuple", data := .seq #[.str (Str.ofString "self") 794] }) ::
(nat_lit 441, { cls := .type "tuple", data := .seq #[] }) ::
(nat_lit 443, { cls := .type "code", data := .fields #[.str (Str.ofString "step") 791, .str (Str.ofString "Disk.step") 792, .str (Str.ofString "/claim/cut.py") 793, .int 235 0, .int 1 0, .int 0 0, .int 0 0, .int 3 0, .ref 438, .bool true, .int 181 0, .ref 439, .none, .ref 440, .ref 441, .ref 442, .int 795 0, .int 235 0, .str (Str.ofString "/claim/cut.py") 796] }) ::
(nat_lit 444, fnS (st2 26 1) (Str.ofString "Disk.step") (.none) (.str (Str.ofString "pagebase.device") 631) (.ref 443)) ::
(nat_lit 445, { cls := .type "tuple", data := .seq #[] }) ::
(nat_lit 447, { cls := .type "tuple", data := .seq #[.str (Str.ofString "self") 801, .str (Str.ofString "file") 802, .str (Str.ofString "size") 803, .str (Str.ofString "total") 804, .str (Str.ofString "other") 805] }) ::
(nat_lit 448, { cls := .type "tuple", data := .seq #[] }) ::
(nat_lit 450, { cls := .type "code", data := .fields #[.str (Str.ofString "check_room") 798, .str (Str.ofString "Disk.check_room") 799, .str (Str.ofString "/claim/cut.py") 800, .int 240 0, .int 3 0, .int 0 0, .int 0 0, .int 3 0, .ref 445, .bool true, .int 181 0, .ref 446, .none, .ref 447, .ref 448, .ref 449, .int 806 0, .int 240 0, .str (Str.ofString "/claim/cut.py") 807] }) ::
(nat_lit 451, fnS (st2 26 2) (Str.ofString "Disk.check_room") (.none) (.str (Str.ofString "pagebase.device") 631) (.ref 450)) ::
(nat_lit 452, { cls := .type "tuple", data := .seq #[] }) ::
(nat_lit 454, { cls := .type "tuple", data := .seq #[.str (Str.ofString "self") 812, .str (Str.ofString "name") 813] }) ::
(nat_lit 455, { cls := .type "tuple", data := .seq #[] }) ::
(nat_lit 457, { cls := .type "code", data := .fields #[.str (Str.ofString "exists") 809, .str (Str.ofString "Disk.exists") 810, .str (Str.ofString "/claim/cut.py") 811, .int 249 0, .int 2 0, .int 0 0, .int 0 0, .int 3 0, .ref 452, .bool true, .int 181 0, .ref 453, .none, .ref 454, .ref 455, .ref 456, .int 814 0, .int 249 0, .str (Str.ofString "/claim/cut.py") 815] }) ::
(nat_lit 458, fnS (st2 26 3) (Str.ofString "Disk.exists") (.none) (.str (Str.ofString "pagebase.device") 631) (.ref 457)) ::
(nat_lit 459, { cls := .type "tuple", data := .seq #[] }) ::
(nat_lit 461, { cls := .type "tuple", data := .seq #[.str (Str.ofString "self") 820, .str (Str.ofString "name") 821] }) ::
(nat_lit 462, { cls := .type "tuple", data := .seq #[] }) ::
(nat_lit 464, { cls := .type "code", data := .fields #[.str (Str.ofString "open") 817, .str (Str.ofString "Disk.open") 818, .str (Str.ofString "/claim/cut.py") 819, .int 252 0, .int 2 0, .int 0 0, .int 0 0, .int 3 0, .ref 459, .bool true, .int 181 0, .ref 460, .none, .ref 461, .ref 462, .ref 463, .int 822 0, .int 252 0, .str (Str.ofString "/claim/cut.py") 823] }) ::
(nat_lit 465, fnS (st2 26 4) (Str.ofString "Disk.open") (.none) (.str (Str.ofString "pagebase.device") 631) (.ref 464)) ::
(nat_lit 466, { cls := .type "tuple", data := .seq #[] }) ::
(nat_lit 468, { cls := .type "tuple", data := .seq #[.str (Str.ofString "self") 828, .str (Str.ofString "name") 829] }) ::
(nat_lit 469, { cls := .type "tuple", data := .seq #[] }) ::
(nat_lit 471, { cls := .type "code", data := .fields #[.str (Str.ofString "delete") 825, .str (Str.ofString "Disk.delete") 826, .str (Str.ofString "/claim/cut.py") 827, .int 257 0, .int 2 0, .int 0 0, .int 0 0, .int 3 0, .ref 466, .bool true, .int 181 0, .ref 467, .none, .ref 468, .ref 469, .ref 470, .int 830 0, .int 257 0, .str (Str.ofString "/claim/cut.py") 831] }) ::
(nat_lit 472, fnS (st2 26 5) (Str.ofString "Disk.delete") (.none) (.str (Str.ofString "pagebase.device") 631) (.ref 471)) ::
(nat_lit 473, { cls := .type "tuple", data := .seq #[] }) ::
(nat_lit 475, { cls := .type "tuple", data := .seq #[.str (Str.ofString "self") 836, .str (Str.ofString "choices") 837, .str (Str.ofString "numbers") 838, .str (Str.ofString "other") 839, .str (Str.ofString "name") 840, .str (Str.ofString "file") 841, .str (Str.ofString "left") 842] }) ::
(nat_lit 476, { cls := .type "tuple", data := .seq #[] }) ::
(nat_lit 478, { cls := .type "code", data := .fields #[.str (Str.ofString "survivor") 833, .str (Str.ofString "Disk.survivor") 834, .str (Str.ofString "/claim/cut.py") 835, .int 263 0, .int 2 0, .int 0 0, .int 0 0, .int 3 0, .ref 473, .bool true, .int 181 0, .ref 474, .none, .ref 475, .ref 476, .ref 477, .int 843 0, .int 263 0, .str (Str.ofString "/claim/cut.py") 844] }) ::
(nat_lit 479, fnS (st2 26 6) (Str.ofString "Disk.survivor") (.none) (.str (Str.ofString "pagebase.device") 631) (.ref 478)) ::
(nat_lit 480, { cls := .type "tuple", data := .seq #[] }) ::
(nat_lit 482, { cls := .type "tuple", data := .seq #[.str (Str.ofString "self") 849] }) ::
(nat_lit 483, { cls := .type "tuple", data := .seq #[] }) ::
(nat_lit 485, { cls := .type "code", data := .fields #[.str (Str.ofString "copy") 846, .str (Str.ofString "Disk.copy") 847, .str (Str.ofString "/claim/cut.py") 848, .int 273 0, .int 1 0, .int 0 0, .int 0 0, .int 3 0, .ref 480, .bool true, .int 181 0, .ref 481, .none, .ref 482, .ref 483, .ref 484, .int 850 0, .int 273 0, .str (Str.ofString "/claim/cut.py") 851] }) ::
(nat_lit 486, fnS (st2 26 7) (Str.ofString "Disk.copy") (.none) (.str (Str.ofString "pagebase.device") 631) (.ref 485)) ::
(nat_lit 487, { cls := .type "tuple", data := .seq #[.str (Str.ofString "crash_at") 853, .str (Str.ofString "files") 854, .str (Str.ofString "locks") 855, .str (Str.ofString "room") 856, .str (Str.ofString "sector") 857, .str (Str.ofString "shared") 858, .str (Str.ofString "steps") 859] }) ::
(nat_lit 488, { cls := .type "dict", data := .dict #[⟨PyData.keyHash P (Str.ofString "__module__"), .str (Str.ofString "__module__") 776, .str (Str.ofString "pagebase.device") 631⟩, ⟨PyData.keyHash P (Str.ofString "__firstlineno__"), .str (Str.ofString "__firstlineno__") 780, .int 224 779⟩, ⟨PyData.keyHash P (Str.ofString "__init__"), .str (Str.ofString "__init__") 790, .ref 437⟩, ⟨PyData.keyHash P (Str.ofString "step"), .str (Str.ofString "step") 797, .ref 444⟩, ⟨PyData.keyHash P (Str.ofString "check_room"), .str (Str.ofString "check_room") 808, .ref 451⟩, ⟨PyData.keyHash P (Str.ofString "exists"), .str (Str.ofString "exists") 816, .ref 458⟩, ⟨PyData.keyHash P (Str.ofString "open"), .str (Str.ofString "open") 824, .ref 465⟩, ⟨PyData.keyHash P (Str.ofString "delete"), .str (Str.ofString "delete") 832, .ref 472⟩, ⟨PyData.keyHash P (Str.ofString "survivor"), .str (Str.ofString "survivor") 845, .ref 479⟩, ⟨PyData.keyHash P (Str.ofString "copy"), .str (Str.ofString "copy") 852, .ref 486⟩, ⟨PyData.keyHash P (Str.ofString "__static_attributes__"), .str (Str.ofString "__static_attributes__") 860, .ref 487⟩, ⟨PyData.keyHash P (Str.ofString "__dict__"), .str (Str.ofString "__dict__") 862, .ref 490⟩, ⟨PyData.keyHash P (Str.ofString "__weakref__"), .str (Str.ofString "__weakref__") 864, .ref 491⟩, ⟨PyData.keyHash P (Str.ofString "__doc__"), .str (Str.ofString "__doc__") 865, .none⟩] 4 }) ::
(nat_lit 489, { cls := .type "type", data := .cls { name := Str.ofString "Disk", bases := [.type "object"], mro := [.ref 489, .type "object"], ns := 488, qualname := Str.ofString "Disk" }, slots := #[none, none, some (.str (Str.ofString "Disk") 769), some (.str (Str.ofString "Disk") 777), some (.builtin "object.__new__"), some (.bool true)] }) ::
(nat_lit 490, { cls := .type "getset_descriptor", data := .fields #[.str (Str.ofString "__dict__") 861, .ref 489, .builtin "function.__dict__", .builtin "function.__dict__#set"] }) ::
(nat_lit 491, { cls := .type "getset_descriptor", data := .fields #[.str (Str.ofString "__weakref__") 863, .ref 489, .builtin "ExceptionGroup.__weakref__", .none] }) ::
(nat_lit 494, { cls := .type "tuple", data := .seq #[] }) ::
(nat_lit 496, { cls := .type "tuple", data := .seq #[.str (Str.ofString "target") 871, .str (Str.ofString "at") 872, .str (Str.ofString "octets") 873] }) ::
(nat_lit 497, { cls := .type "tuple", data := .seq #[] }) ::
(nat_lit 499, { cls := .type "code", data := .fields #[.str (Str.ofString "put_octets") 868, .str (Str.ofString "put_octets") 869, .str (Str.ofString "/claim/cut.py") 870, .int 275 0, .int 3 0, .int 0 0, .int 0 0, .int 3 0, .ref 494, .bool true, .int 181 0, .ref 495, .none, .ref 496, .ref 497, .ref 498, .int 874 0, .int 275 0, .str (Str.ofString "/claim/cut.py") 875] }) ::
(nat_lit 500, fnS (st1 27) (Str.ofString "put_octets") (.none) (.str (Str.ofString "pagebase.device") 631) (.ref 499)) ::
(nat_lit 501, { cls := .type "tuple", data := .seq #[] }) ::
(nat_lit 503, { cls := .type "tuple", data := .seq #[.str (Str.ofString "target") 880, .str (Str.ofString "size") 881] }) ::
(nat_lit 504, { cls := .type "tuple", data := .seq #[] }) ::
(nat_lit 506, { cls := .type "code", data := .fields #[.str (Str.ofString "cut_octets") 877, .str (Str.ofString "cut_octets") 878, .str (Str.ofString "/claim/cut.py") 879, .int 279 0, .int 2 0, .int 0 0, .int 0 0, .int 3 0, .ref 501, .bool true, .int 181 0, .ref 502, .none, .ref 503, .ref 504, .ref 505, .int 882 0, .int 279 0, .str (Str.ofString "/claim/cut.py") 883] }) ::
(nat_lit 507, fnS (st1 28) (Str.ofString "cut_octets") (.none) (.str (Str.ofString "pagebase.device") 631) (.ref 506)) ::
(nat_lit 508, { cls := .type "tuple", data := .seq #[] }) ::
(nat_lit 510, { cls := .type "tuple", data := .seq #[.str (Str.ofString "script") 890, .str (Str.ofString "digits") 891, .str (Str.ofString "mixed") 892, .str (Str.ofString "number") 893, .str (Str.ofString "size") 894] }) ::
(nat_lit 511, { cls := .type "tuple", data := .seq #[] }) ::
(nat_lit 513, { cls := .type "code", data := .fields #[.str (Str.ofString "_law_pool") 887, .str (Str.ofString "_law_pool") 888, .str (Str.ofString "/claim/cut.py") 889, .int 285 0, .int 1 0, .int 0 0, .int 0 0, .int 3 0, .ref 508, .bool true, .int 181 0, .ref 509, .none, .ref 510, .ref 511, .ref 512, .int 895 0, .int 285 0, .str (Str.ofString "/claim/cut.py") 896] }) ::
(nat_lit 514, fnS (st1 30) (Str.ofString "_law_pool") (.none) (.str (Str.ofString "law_pb0455_01") 885) (.ref 513)) ::
(nat_lit 515, { cls := .type "tuple", data := .seq #[] }) ::
(nat_lit 517, { cls := .type "tuple", data := .seq #[.str (Str.ofString "source") 901, .str (Str.ofString "top") 902, .str (Str.ofString "digit") 903] }) ::
(nat_lit 518, { cls := .type "tuple", data := .seq #[] }) ::
(nat_lit 520, { cls := .type "code", data := .fields #[.str (Str.ofString "_law_take") 898, .str (Str.ofString "_law_take") 899, .str (Str.ofString "/claim/cut.py") 900, .int 293 0, .int 2 0, .int 0 0, .int 0 0, .int 3 0, .ref 515, .bool true, .int 181 0, .ref 516, .none, .ref 517, .ref 518, .ref 519, .int 904 0, .int 293 0, .str (Str.ofString "/claim/cut.py") 905] }) ::
(nat_lit 521, fnS (st1 31) (Str.ofString "_law_take") (.none) (.str (Str.ofString "law_pb0455_01") 885) (.ref 520)) ::
(nat_lit 522, { cls := .type "tuple", data := .seq #[] }) ::
(nat_lit 524, { cls := .type "tuple", data := .seq #[.str (Str.ofString "number") 910] }) ::
(nat_lit 525, { cls := .type "tuple", data := .seq #[] }) ::
(nat_lit 527, { cls := .type "code", data := .fields #[.str (Str.ofString "_law_four") 907, .str (Str.ofString "_law_four") 908, .str (Str.ofString "/claim/cut.py") 909, .int 300 0, .int 1 0, .int 0 0, .int 0 0, .int 3 0, .ref 522, .bool true, .int 181 0, .ref 523, .none, .ref 524, .ref 525, .ref 526, .int 911 0, .int 300 0, .str (Str.ofString "/claim/cut.py") 912] }) ::
(nat_lit 528, fnS (st1 32) (Str.ofString "_law_four") (.none) (.str (Str.ofString "law_pb0455_01") 885) (.ref 527)) ::
(nat_lit 529, { cls := .type "tuple", data := .seq #[] }) ::
(nat_lit 531, { cls := .type "tuple", data := .seq #[.str (Str.ofString "nonce") 917, .str (Str.ofString "page") 918, .str (Str.ofString "octets") 919, .str (Str.ofString "summed") 920, .str (Str.ofString "back") 921, .str (Str.ofString "spot") 922] }) ::
(nat_lit 532, { cls := .type "tuple", data := .seq #[] }) ::
(nat_lit 534, { cls := .type "code", data := .fields #[.str (Str.ofString "_law_sum") 914, .str (Str.ofString "_law_sum") 915, .str (Str.ofString "/claim/cut.py") 916, .int 302 0, .int 3 0, .int 0 0, .int 0 0, .int 3 0, .ref 529, .bool true, .int 181 0, .ref 530, .none, .ref 531, .ref 532, .ref 533, .int 923 0, .int 302 0, .str (Str.ofString "/claim/cut.py") 924] }) ::
(nat_lit 535, fnS (st1 33) (Str.ofString "_law_sum") (.none) (.str (Str.ofString "law_pb0455_01") 885) (.ref 534)) ::
(nat_lit 536, { cls := .type "tuple", data := .seq #[] }) ::
(nat_lit 538, { cls := .type "tuple", data := .seq #[.str (Str.ofString "source") 929] }) ::
(nat_lit 539, { cls := .type "tuple", data := .seq #[] }) ::
(nat_lit 541, { cls := .type "code", data := .fields #[.str (Str.ofString "_law_filled") 926, .str (Str.ofString "_law_filled") 927, .str (Str.ofString "/claim/cut.py") 928, .int 308 0, .int 1 0, .int 0 0, .int 0 0, .int 3 0, .ref 536, .bool true, .int 181 0, .ref 537, .none, .ref 538, .ref 539, .ref 540, .int 930 0, .int 308 0, .str (Str.ofString "/claim/cut.py") 931] }) ::
(nat_lit 542, fnS (st1 34) (Str.ofString "_law_filled") (.none) (.str (Str.ofString "law_pb0455_01") 885) (.ref 541)) ::
(nat_lit 543, { cls := .type "tuple", data := .seq #[] }) ::
(nat_lit 545, { cls := .type "tuple", data := .seq #[.str (Str.ofString "source") 936, .str (Str.ofString "many") 937, .str (Str.ofString "nonce") 938, .str (Str.ofString "old") 939, .str (Str.ofString "rows") 940, .str (Str.ofString "turn") 941, .str (Str.ofString "page") 942, .str (Str.ofString "octets") 943, .str (Str.ofString "wrong") 944, .str (Str.ofString "told") 945] }) ::
(nat_lit 546, { cls := .type "tuple", data := .seq #[] }) ::
(nat_lit 548, { cls := .type "code", data := .fields #[.str (Str.ofString "_law_written") 933, .str (Str.ofString "_law_written") 934, .str (Str.ofString "/claim/cut.py") 935, .int 310 0, .int 1 0, .int 0 0, .int 0 0, .int 3 0, .ref 543, .bool true, .int 181 0, .ref 544, .none, .ref 545, .ref 546, .ref 547, .int 946 0, .int 310 0, .str (Str.ofString "/claim/cut.py") 947] }) ::
(nat_lit 549, fnS (st1 35) (Str.ofString "_law_written") (.none) (.str (Str.ofString "law_pb0455_01") 885) (.ref 548)) ::
(nat_lit 550, { cls := .type "tuple", data := .seq #[] }) ::
(nat_lit 552, { cls := .type "tuple", data := .seq #[.str (Str.ofString "source") 952, .str (Str.ofString "octets") 953, .str (Str.ofString "way") 954, .str (Str.ofString "spot") 955] }) ::
(nat_lit 553, { cls := .type "tuple", data := .seq #[] }) ::
(nat_lit 555, { cls := .type "code", data := .fields #[.str (Str.ofString "_law_bent") 949, .str (Str.ofString "_law_bent") 950, .str (Str.ofString "/claim/cut.py") 951, .int 319 0, .int 2 0, .int 0 0, .int 0 0, .int 3 0, .ref 550, .bool true, .int 181 0, .ref 551, .none, .ref 552, .ref 553, .ref 554, .int 956 0, .int 319 0, .str (Str.ofString "/claim/cut.py") 957] }) ::
(nat_lit 556, fnS (st1 36) (Str.ofString "_law_bent") (.none) (.str (Str.ofString "law_pb0455_01") 885) (.ref 555)) ::
(nat_lit 557, { cls := .type "tuple", data := .seq #[] }) ::
(nat_lit 560, { cls := .type "code", data := .fields #[.str (Str.ofString "_law_head") 959, .str (Str.ofString "_law_head") 960, .str (Str.ofString "/claim/cut.py") 961, .int 328 0, .int 1 0, .int 0 0, .int 0 0, .int 3 0, .ref 557, .bool true, .int 181 0, .ref 558, .none, .none, .none, .ref 559, .int 962 0, .int 328 0, .str (Str.ofString "/claim/cut.py") 963] }) ::
(nat_lit 561, fnS (st1 37) (Str.ofString "_law_head") (.none) (.str (Str.ofString "law_pb0455_01") 885) (.ref 560)) ::
(nat_lit 562, { cls := .type "tuple", data := .seq #[] }) ::
(nat_lit 564, { cls := .type "tuple", data := .seq #[.str (Str.ofString "octets") 968, .str (Str.ofString "head") 969] }) ::
(nat_lit 565, { cls := .type "tuple", data := .seq #[] }) ::
(nat_lit 567, { cls := .type "code", data := .fields #[.str (Str.ofString "_law_hot") 965, .str (Str.ofString "_law_hot") 966, .str (Str.ofString "/claim/cut.py") 967, .int 333 0, .int 1 0, .int 0 0, .int 0 0, .int 3 0, .ref 562, .bool true, .int 181 0, .ref 563, .none, .ref 564, .ref 565, .ref 566, .int 970 0, .int 333 0, .str (Str.ofString "/claim/cut.py") 971] }) ::
(nat_lit 568, fnS (st1 38) (Str.ofString "_law_hot") (.none) (.str (Str.ofString "law_pb0455_01") 885) (.ref 567)) ::
(nat_lit 569, { cls := .type "tuple", data := .seq #[] }) ::
(nat_lit 571, { cls := .type "tuple", data := .seq #[.str (Str.ofString "whole") 976, .str (Str.ofString "spot") 977, .str (Str.ofString "octets") 978] }) ::
(nat_lit 572, { cls := .type "tuple", data := .seq #[] }) ::
(nat_lit 574, { cls := .type "code", data := .fields #[.str (Str.ofString "_law_put") 973, .str (Str.ofString "_law_put") 974, .str (Str.ofString "/claim/cut.py") 975, .int 336 0, .int 3 0, .int 0 0, .int 0 0, .int 3 0, .ref 569, .bool true, .int 181 0, .ref 570, .none, .ref 571, .ref 572, .ref 573, .int 979 0, .int 336 0, .str (Str.ofString "/claim/cut.py") 980] }) ::
(nat_lit 575, fnS (st1 39) (Str.ofString "_law_put") (.none) (.str (Str.ofString "law_pb0455_01") 885) (.ref 574)) ::
(nat_lit 576, { cls := .type "tuple", data := .seq #[] }) ::
(nat_lit 578, { cls := .type "tuple", data := .seq #[.str (Str.ofString "whole") 985, .str (Str.ofString "octets") 986, .str (Str.ofString "head") 987, .str (Str.ofString "told") 988, .str (Str.ofString "nonce") 989, .str (Str.ofString "old") 990, .str (Str.ofString "size") 991, .str (Str.ofString "spot") 992, .str (Str.ofString "row") 993, .str (Str.ofString "page") 994, .str (Str.ofString "inside") 995] }) ::
(nat_lit 579, { cls := .type "tuple", data := .seq #[] }) ::
(nat_lit 581, { cls := .type "code", data := .fields #[.str (Str.ofString "_law_played") 982, .str (Str.ofString "_law_played") 983, .str (Str.ofString "/claim/cut.py") 984, .int 339 0, .int 2 0, .int 0 0, .int 0 0, .int 3 0, .ref 576, .bool true, .int 181 0, .ref 577, .none, .ref 578, .ref 579, .ref 580, .int 996 0, .int 339 0, .str (Str.ofString "/claim/cut.py") 997] }) ::
(nat_lit 582, fnS (st1 40) (Str.ofString "_law_played") (.none) (.str (Str.ofString "law_pb0455_01") 885) (.ref 581)) ::
(nat_lit 583, { cls := .type "tuple", data := .seq #[] }) ::
(nat_lit 585, { cls := .type "tuple", data := .seq #[.str (Str.ofString "journal") 1002, .str (Str.ofString "file") 1003] }) ::
(nat_lit 586, { cls := .type "tuple", data := .seq #[] }) ::
(nat_lit 588, { cls := .type "code", data := .fields #[.str (Str.ofString "_law_raises") 999, .str (Str.ofString "_law_raises") 1000, .str (Str.ofString "/claim/cut.py") 1001, .int 354 0, .int 2 0, .int 0 0, .int 0 0, .int 3 0, .ref 583, .bool true, .int 181 0, .ref 584, .none, .ref 585, .ref 586, .ref 587, .int 1004 0, .int 354 0, .str (Str.ofString "/claim/cut.py") 1005] }) ::
(nat_lit 589, fnS (st1 41) (Str.ofString "_law_raises") (.none) (.str (Str.ofString "law_pb0455_01") 885) (.ref 588)) ::
(nat_lit 590, { cls := .type "tuple", data := .seq #[] }) ::
(nat_lit 593, { cls := .type "code", data := .fields #[.str (Str.ofString "law") 1007, .str (Str.ofString "law") 1008, .str (Str.ofString "/claim/cut.py") 1009, .int 360 0, .int 1 0, .int 0 0, .int 0 0, .int 3 0, .ref 590, .bool true, .int 181 0, .ref 591, .none, .none, .none, .ref 592, .int 1010 0, .int 360 0, .str (Str.ofString "/claim/cut.py") 1011] }) ::
(nat_lit 594, fnS (st1 42) (Str.ofString "law") (.none) (.str (Str.ofString "law_pb0455_01") 885) (.ref 593)) :: [] : List (Nat × Obj))
noncomputable def view_39 : Program := { PySem.Challenge.pw_pb0455_01 with main := { PySem.Challenge.pw_pb0455_01.main with body := [st1 42] } }
noncomputable def loose : List Str := [Str.ofString "_wall", Str.ofString "PagebaseError", Str.ofString "CorruptError", Str.ofString "FullError", Str.ofString "CrashError", Str.ofString "LEAST_PAGE_SIZE", Str.ofString "MOST_PAGE_SIZE", Str.ofString "WORD", Str.ofString "put_number", Str.ofString "get_number", Str.ofString "is_page_size", Str.ofString "JOURNAL_MAGIC", Str.ofString "HEAD_SIZE", Str.ofString "COUNT_AT", Str.ofString "NOT_SYNCED", Str.ofString "record_sum", Str.ofString "Journal", Str.ofString "NONE", Str.ofString "LockTable", Str.ofString "DiskFile", Str.ofString "Choices", Str.ofString "Disk", Str.ofString "put_octets", Str.ofString "cut_octets", Str.ofString "_law_pool", Str.ofString "_law_take", Str.ofString "_law_four", Str.ofString "_law_sum", Str.ofString "_law_filled", Str.ofString "_law_written", Str.ofString "_law_bent", Str.ofString "_law_head", Str.ofString "_law_hot", Str.ofString "_law_put", Str.ofString "_law_played", Str.ofString "_law_raises"]
noncomputable def as_ : List Nat := nat_lit 2 :: nat_lit 3 :: nat_lit 15 :: nat_lit 17 :: nat_lit 18 :: nat_lit 20 :: nat_lit 21 :: nat_lit 22 :: nat_lit 29 :: nat_lit 31 :: nat_lit 32 :: nat_lit 34 :: nat_lit 35 :: nat_lit 36 :: nat_lit 37 :: nat_lit 38 :: nat_lit 39 :: nat_lit 42 :: nat_lit 49 :: nat_lit 50 :: nat_lit 51 :: nat_lit 54 :: nat_lit 61 :: nat_lit 62 :: nat_lit 63 :: nat_lit 66 :: nat_lit 73 :: nat_lit 74 :: nat_lit 75 :: nat_lit 78 :: nat_lit 80 :: nat_lit 81 :: nat_lit 83 :: nat_lit 84 :: nat_lit 85 :: nat_lit 87 :: nat_lit 88 :: nat_lit 90 :: nat_lit 91 :: nat_lit 92 :: nat_lit 94 :: nat_lit 95 :: nat_lit 97 :: nat_lit 98 :: nat_lit 99 :: nat_lit 101 :: nat_lit 102 :: nat_lit 104 :: nat_lit 105 :: nat_lit 113 :: nat_lit 115 :: nat_lit 116 :: nat_lit 118 :: nat_lit 119 :: nat_lit 120 :: nat_lit 122 :: nat_lit 123 :: nat_lit 125 :: nat_lit 126 :: nat_lit 127 :: nat_lit 129 :: nat_lit 130 :: nat_lit 132 :: nat_lit 133 :: nat_lit 134 :: nat_lit 136 :: nat_lit 137 :: nat_lit 139 :: nat_lit 140 :: nat_lit 141 :: nat_lit 143 :: nat_lit 144 :: nat_lit 146 :: nat_lit 147 :: nat_lit 148 :: nat_lit 150 :: nat_lit 151 :: nat_lit 153 :: nat_lit 154 :: nat_lit 155 :: nat_lit 157 :: nat_lit 158 :: nat_lit 160 :: nat_lit 161 :: nat_lit 162 :: nat_lit 164 :: nat_lit 165 :: nat_lit 167 :: nat_lit 168 :: nat_lit 169 :: nat_lit 171 :: nat_lit 172 :: nat_lit 174 :: nat_lit 175 :: nat_lit 176 :: nat_lit 178 :: nat_lit 179 :: nat_lit 181 :: nat_lit 182 :: nat_lit 183 :: nat_lit 184 :: nat_lit 185 :: nat_lit 186 :: nat_lit 187 :: nat_lit 197 :: nat_lit 199 :: nat_lit 200 :: nat_lit 202 :: nat_lit 203 :: nat_lit 204 :: nat_lit 206 :: nat_lit 207 :: nat_lit 209 :: nat_lit 210 :: nat_lit 211 :: nat_lit 213 :: nat_lit 214 :: nat_lit 216 :: nat_lit 217 :: nat_lit 218 :: nat_lit 220 :: nat_lit 221 :: nat_lit 223 :: nat_lit 224 :: nat_lit 225 :: nat_lit 227 :: nat_lit 228 :: nat_lit 230 :: nat_lit 231 :: nat_lit 232 :: nat_lit 234 :: nat_lit 235 :: nat_lit 237 :: nat_lit 238 :: nat_lit 239 :: nat_lit 241 :: nat_lit 242 :: nat_lit 244 :: nat_lit 245 :: nat_lit 246 :: nat_lit 248 :: nat_lit 249 :: nat_lit 251 :: nat_lit 252 :: nat_lit 253 :: nat_lit 255 :: nat_lit 256 :: nat_lit 258 :: nat_lit 259 :: nat_lit 260 :: nat_lit 262 :: nat_lit 263 :: nat_lit 265 :: nat_lit 266 :: nat_lit 267 :: nat_lit 268 :: nat_lit 270 :: nat_lit 271 :: nat_lit 273 :: nat_lit 274 :: nat_lit 275 :: nat_lit 276 :: nat_lit 278 :: nat_lit 279 :: nat_lit 281 :: nat_lit 282 :: nat_lit 283 :: nat_lit 285 :: nat_lit 286 :: nat_lit 288 :: nat_lit 289 :: nat_lit 290 :: nat_lit 292 :: nat_lit 293 :: nat_lit 295 :: nat_lit 296 :: nat_lit 297 :: nat_lit 299 :: nat_lit 300 :: nat_lit 302 :: nat_lit 303 :: nat_lit 304 :: nat_lit 306 :: nat_lit 307 :: nat_lit 309 :: nat_lit 310 :: nat_lit 311 :: nat_lit 313 :: nat_lit 314 :: nat_lit 316 :: nat_lit 317 :: nat_lit 318 :: nat_lit 319 :: nat_lit 320 :: nat_lit 321 :: nat_lit 322 :: nat_lit 332 :: nat_lit 334 :: nat_lit 335 :: nat_lit 337 :: nat_lit 338 :: nat_lit 339 :: nat_lit 341 :: nat_lit 342 :: nat_lit 344 :: nat_lit 345 :: nat_lit 346 :: nat_lit 348 :: nat_lit 349 :: nat_lit 351 :: nat_lit 352 :: nat_lit 353 :: nat_lit 355 :: nat_lit 356 :: nat_lit 358 :: nat_lit 359 :: nat_lit 360 :: nat_lit 362 :: nat_lit 363 :: nat_lit 365 :: nat_lit 366 :: nat_lit 367 :: nat_lit 369 :: nat_lit 370 :: nat_lit 372 :: nat_lit 373 :: nat_lit 374 :: nat_lit 376 :: nat_lit 377 :: nat_lit 379 :: nat_lit 380 :: nat_lit 381 :: nat_lit 383 :: nat_lit 384 :: nat_lit 386 :: nat_lit 387 :: nat_lit 388 :: nat_lit 389 :: nat_lit 390 :: nat_lit 391 :: nat_lit 392 :: nat_lit 402 :: nat_lit 404 :: nat_lit 405 :: nat_lit 407 :: nat_lit 408 :: nat_lit 409 :: nat_lit 411 :: nat_lit 412 :: nat_lit 414 :: nat_lit 415 :: nat_lit 416 :: nat_lit 417 :: nat_lit 418 :: nat_lit 419 :: nat_lit 420 :: nat_lit 430 :: nat_lit 431 :: nat_lit 433 :: nat_lit 434 :: nat_lit 436 :: nat_lit 437 :: nat_lit 438 :: nat_lit 440 :: nat_lit 441 :: nat_lit 443 :: nat_lit 444 :: nat_lit 445 :: nat_lit 447 :: nat_lit 448 :: nat_lit 450 :: nat_lit 451 :: nat_lit 452 :: nat_lit 454 :: nat_lit 455 :: nat_lit 457 :: nat_lit 458 :: nat_lit 459 :: nat_lit 461 :: nat_lit 462 :: nat_lit 464 :: nat_lit 465 :: nat_lit 466 :: nat_lit 468 :: nat_lit 469 :: nat_lit 471 :: nat_lit 472 :: nat_lit 473 :: nat_lit 475 :: nat_lit 476 :: nat_lit 478 :: nat_lit 479 :: nat_lit 480 :: nat_lit 482 :: nat_lit 483 :: nat_lit 485 :: nat_lit 486 :: nat_lit 487 :: nat_lit 488 :: nat_lit 489 :: nat_lit 490 :: nat_lit 491 :: nat_lit 494 :: nat_lit 496 :: nat_lit 497 :: nat_lit 499 :: nat_lit 500 :: nat_lit 501 :: nat_lit 503 :: nat_lit 504 :: nat_lit 506 :: nat_lit 507 :: nat_lit 508 :: nat_lit 510 :: nat_lit 511 :: nat_lit 513 :: nat_lit 514 :: nat_lit 515 :: nat_lit 517 :: nat_lit 518 :: nat_lit 520 :: nat_lit 521 :: nat_lit 522 :: nat_lit 524 :: nat_lit 525 :: nat_lit 527 :: nat_lit 528 :: nat_lit 529 :: nat_lit 531 :: nat_lit 532 :: nat_lit 534 :: nat_lit 535 :: nat_lit 536 :: nat_lit 538 :: nat_lit 539 :: nat_lit 541 :: nat_lit 542 :: nat_lit 543 :: nat_lit 545 :: nat_lit 546 :: nat_lit 548 :: nat_lit 549 :: nat_lit 550 :: nat_lit 552 :: nat_lit 553 :: nat_lit 555 :: nat_lit 556 :: nat_lit 557 :: nat_lit 560 :: nat_lit 561 :: nat_lit 562 :: nat_lit 564 :: nat_lit 565 :: nat_lit 567 :: nat_lit 568 :: nat_lit 569 :: nat_lit 571 :: nat_lit 572 :: nat_lit 574 :: nat_lit 575 :: nat_lit 576 :: nat_lit 578 :: nat_lit 579 :: nat_lit 581 :: nat_lit 582 :: nat_lit 583 :: nat_lit 585 :: nat_lit 586 :: nat_lit 588 :: nat_lit 589 :: nat_lit 590 :: nat_lit 593 :: nat_lit 594 :: []
end Mine.hd
end
section
open PySem PySem.W PySem.Calls PyProof.Rows
set_option Elab.async false
set_option maxRecDepth 100000
namespace Mine

noncomputable abbrev PG : Program := PySem.Challenge.rw_pb0455_01.row.prog
noncomputable abbrev VW : Program := Mine.hd.view_39
noncomputable abbrev LO : List Str := looseW Mine.hd.view_39 Mine.hd.loose

def Keep (as : List Addr) (h h' : Heap) : Prop := ∀ b o, b ∉ as → h.get? b = some o → h'.get? b = some o
theorem Keep.refl (as : List Addr) (h : Heap) : Keep as h h := fun _ _ _ e => e
theorem Keep.trans {as bs : List Addr} {h h' h'' : Heap} (k : Keep as h h') (k' : Keep bs h' h'') : Keep (as ++ bs) h h'' :=
  fun b o n e => k' b o (fun q => n (List.mem_append.mpr (.inr q))) (k b o (fun q => n (List.mem_append.mpr (.inl q))) e)
theorem Keep.mono {as bs : List Addr} {h h' : Heap} (k : Keep as h h') (s : ∀ a ∈ as, a ∈ bs) : Keep bs h h' := fun b o n e => k b o (fun q => n (s b q)) e

structure Site (w : World) (mean : ExcName → Option Value) (mg mb : Str → Option Value) (outer : List Env) (A₀ : Around) (base h₀ : Heap) (L : Addr) (m : Str → Option Value) (cs : Scope) (h : Heap) (led : List (Addr × Obj)) : Prop where
  B : Below A₀ base outer h₀
  F : Fr h₀ L h m
  X : (Mine.hd.heap_39 w.params).In h₀
  N : News h₀ L h led
  T : Top VW LO mean mg mb h₀
  k : cs.kind = .function

def LeaveW (g : Heap) (R : Result → Shared → Prop) (v : Value) (s' : Shared) : Prop :=
  ∃ L' m' news', Fr g L' s'.heap m' ∧ News g L' s'.heap news' ∧ ((∀ b o, g.get? b = some o → s'.heap.get? b = some o) → News g L' s'.heap news' → R (.ok (.ret v)) s')
theorem leaveW_ {g : Heap} {L' : Addr} {m' : Str → Option Value} {news' : List (Addr × Obj)} {R : Result → Shared → Prop} {v : Value} {s' : Shared} (F' : Fr g L' s'.heap m') (N' : News g L' s'.heap news')
    (k : (∀ b o, g.get? b = some o → s'.heap.get? b = some o) → News g L' s'.heap news' → R (.ok (.ret v)) s') : LeaveW g R v s' := ⟨L', m', news', F', N', k⟩

section
variable {w : World} {mean : ExcName → Option Value} {mg mb : Str → Option Value} {dp un : Nat} {gd : Option (List Code)} {cn : Str} {cs : Scope} {L a : Addr} {ccd : Value} {cl : List (Str × Addr)} {outer : List Env} {A₀ : Around} {base h₀ : Heap} {m : Str → Option Value} {s : Shared} {led : List (Addr × Obj)}

theorem Site.fresh (S : Site w mean mg mb outer A₀ base h₀ L m cs s.heap led) : ∀ b o, h₀.get? b = some o → b ∉ led.map (·.1) := fun b o e q => by
  obtain ⟨p, hp, rfl⟩ := List.mem_map.mp q
  rw [(S.N p hp).2.2] at e; cases e

theorem enterM {R : Result → Shared → Prop} {name qual : Str} {params : Arguments} {body : List Stmt} {scope : Scope} {dV kV doc pm cdv ct oc : Value} {an od : Option Addr} {osl : Array (Option Value)} {f : Addr} {args : Args} {binds : List (Str × Value)}
    (S : Site w mean mg mb outer A₀ base h₀ L m cs s.heap led)
    (ho : (Mine.hd.heap_39 w.params).lookup f = some ⟨oc, od, .func (fnOf name qual params body scope dV kV doc pm an cdv ct), osl⟩) (hcd : codeIn (Mine.hd.heap_39 w.params) cdv qual = true) (hroom : dp < recursionLimit)
    (hbind : BindsTo s (fnOf name qual params body scope dV kV doc pm an cdv ct) args binds) (hloc : ∀ y ∈ binds, scope.names.lookup y.1 = some .local)
    (h : ∀ g L' h₁, Fr g L' h₁ (fun y => binds.reverse.lookup y) → News g L' h₁ led → Below (ktrTop dp un gd cn cs L a ccd cl outer) base (envX cn cs L a ccd cl :: outer) g → (Mine.hd.heap_39 w.params).In g → Top VW LO mean mg mb g →
      (∀ b o, s.heap.get? b = some o → b ∉ led.map (·.1) → g.get? b = some o) →
      wpAny (model PG w) ((ktrTop dp un gd cn cs L a ccd cl outer).deeper (envOf qual scope L' f cdv)) (execs body (envOf qual scope L' f cdv))
        (fun fl s' => LeaveW g R (match fl with | .ret v => v | _ => .none) s')
        (fun e s' => wpAny (model PG w) ((ktrTop dp un gd cn cs L a ccd cl outer).deeper (envOf qual scope L' f cdv)) (leaving (envOf qual scope L' f cdv) e) (fun _ s'' => R (.error e) s'') (fun e' s'' => R (.error e') s'') s')
        { s with heap := h₁, toks := s.toks + binds.length })
    (hco : scope.isCoroutine = false) (hgen : scope.isGenerator = false) (hk : scope.kind = .function)
    (hcell : ∀ x ∈ scope.names, x.2 ≠ .cell) : codeAny (model PG w) (ktrTop dp un gd cn cs L a ccd cl outer) (.call (.ref f) args) R s := by
  obtain ⟨B, F, X₀, N, T, hke⟩ := S
  obtain ⟨FG, BG, st, _⟩ := groundX (A := ktrTop dp un gd cn cs L a ccd cl outer) (env := envX cn cs L a ccd cl) (R := R) B F N rfl rfl hke
  refine codeAny_call_def (fd := fnOf name qual params body scope dV kV doc pm an cdv ct) (body := body) (binds := binds) hroom ((X₀.keeps F.keep) _ _ ho) rfl (T.nolimit.keeps F.keep) (codeRec_of (X₀.keeps F.keep) hcd) rfl hbind hcell hloc (fun h₁ hns hk₁ => ?_) hco hgen hk
  refine wpAny_mono (h _ s.heap.objs.size h₁ ⟨hns, fun b o e => hk₁ b o (of_hideAll _ e), Nat.le_of_eq (hideAll_size _ _)⟩
    (fun p hp => ⟨hk₁ _ _ (N p hp).1, Nat.ne_of_lt (Heap.lt_size (N p hp).1), hideAll_none _ (List.mem_map_of_mem hp)⟩) BG (X₀.keeps st) (T.keeps st) (fun b o e n => hideAll_get _ e n)) (fun fl s' hl => ?_) fun _ _ y => y
  obtain ⟨L', m', news', F', N', k⟩ := hl
  exact k F'.keep N'

theorem Site.back {as : List Addr} {h h' : Heap} (S : Site w mean mg mb outer A₀ base h₀ L m cs h led) (k : Keep as h h') (hs : ∀ x ∈ as, x ∈ led.map (·.1)) : Fr h₀ L h' m := by
  have fr : ∀ b o, h₀.get? b = some o → b ∉ as := fun b o e q => by
    obtain ⟨p, hp, e'⟩ := List.mem_map.mp (hs b q)
    have := (S.N p hp).2.2
    rw [e'] at this; rw [this] at e; cases e
  obtain ⟨oL, es, ep, hL, r⟩ := S.F.ns
  have nL : L ∉ as := fun q => by
    obtain ⟨p, hp, e'⟩ := List.mem_map.mp (hs L q)
    exact (S.N p hp).2.1 e'
  exact ⟨⟨oL, es, ep, k L oL nL hL, r⟩, fun b o e => k b o (fr b o e) (S.F.keep b o e), S.F.above⟩
end

theorem upd1 {h₀ h h' : Heap} {L d : Addr} {o o' : Obj} {news news' : List (Addr × Obj)} (N : News h₀ L h news) (k : Keep [d] h h') (e : h'.get? d = some o') (U : Upd d o o' news news') : News h₀ L h' news' := by
  obtain ⟨pre, post, rfl, rfl, h1, h2⟩ := U.split
  intro p hp
  rcases List.mem_append.mp hp with q | q
  · have z := N p (List.mem_append.mpr (.inl q))
    exact ⟨k _ _ (by simpa using h1 p q) z.1, z.2⟩
  · rcases List.mem_cons.mp q with rfl | q
    · have z := N (d, o) (List.mem_append.mpr (.inr (.head _)))
      exact ⟨e, z.2⟩
    · have z := N p (List.mem_append.mpr (.inr (.tail _ q)))
      exact ⟨k _ _ (by simpa using h2 p q) z.1, z.2⟩
theorem keep0 {h₀ h h' : Heap} {L : Addr} {news : List (Addr × Obj)} (N : News h₀ L h news) (k : Keep [] h h') : News h₀ L h' news := fun p hp => ⟨k _ _ (List.not_mem_nil) (N p hp).1, (N p hp).2⟩
end Mine
end
section
open PySem PySem.W PySem.Calls PyProof.Rows
set_option Elab.async false
set_option maxRecDepth 100000
namespace Mine
section
variable {prog : Program} {w : World} {A : Around} {E : Value → Shared → Prop} {s : Shared} {h₀ : Heap} {L : Addr} {m : Str → Option Value} {news : List (Addr × Obj)}

theorem r_item {value slice : PySem.Expr} {l : Addr} {vs : List Value} {n : Nat} {k : Int} {u : Tok} {v : Value} {Q : Value → Shared → Prop} (N : News h₀ L s.heap news) (hm : (l, W.listOf vs.toArray n) ∈ news)
    (h0 : 0 ≤ k) (hhi : k < 2 ^ 63) (hx : vs[k.toNat]? = some v) (h : Q v s)
    (hs : subscripted slice false (.ref l) (.int k u) = operate [.ref l, .int k u] (getItem (.ref l) (.int k u)) := by with_unfolding_all rfl) :
    wpAny (model prog w) A (subscriptTail value slice (.ref l) (.int k u)) Q E s :=
  have hl : s.heap.IsList l vs.toArray := PySem.IsL.isList (n := n) (N _ hm).1
  tail_any hl.typeIs slot_list_getitem.lookup (wpAny_getItem_list hl h0 hhi (by simpa using hx) h) hs

theorem r_mod {x y : Int} {t u : Tok} {Q : Value → Shared → Prop} {hp : Heap} {g : Array GenState} {dr : Drawn} {tk : Nat} {os : OsState} (hy : 0 < y) (h : ∀ t' k, Q (.int (x % y) t') ⟨hp, g, dr, k, os⟩) : wpAny (model prog w) A (binaryOp .Mod (.int x t) (.int y u)) Q E ⟨hp, g, dr, tk, os⟩ :=
  mod_int' (Int.ne_of_gt hy) (by rw [Int.fmod_eq_emod_of_nonneg _ (Int.le_of_lt hy)]; exact h _ _)
theorem r_div {x y : Int} {t u : Tok} {Q : Value → Shared → Prop} {hp : Heap} {g : Array GenState} {dr : Drawn} {tk : Nat} {os : OsState} (hy : 0 < y) (hy2 : y < 1073741824) (h : ∀ t' k, Q (.int (x / y) t') ⟨hp, g, dr, k, os⟩) : wpAny (model prog w) A (binaryOp .FloorDiv (.int x t) (.int y u)) Q E ⟨hp, g, dr, tk, os⟩ :=
  floordiv_int (Int.ne_of_gt hy) (by rw [Int.fdiv_eq_ediv_of_nonneg _ (Int.le_of_lt hy)]; exact h _ _) (Or.inl (PyProof.noPylong_small (by omega)))
theorem r_mul {x y : Int} {t u : Tok} {Q : Value → Shared → Prop} {hp : Heap} {g : Array GenState} {dr : Drawn} {tk : Nat} {os : OsState} (h1 : -18446744073709551616 < x) (h2 : x < 18446744073709551616) (h : ∀ t' k, Q (.int (x * y) t') ⟨hp, g, dr, k, os⟩) : wpAny (model prog w) A (binaryOp .Mult (.int x t) (.int y u)) Q E ⟨hp, g, dr, tk, os⟩ :=
  mul_int (h _ _) (IntMulOk.of_left (intBits_le_64 h1 h2))
theorem r_add {x y : Int} {t u : Tok} {Q : Value → Shared → Prop} {hp : Heap} {g : Array GenState} {dr : Drawn} {tk : Nat} {os : OsState} (h : ∀ t' k, Q (.int (x + y) t') ⟨hp, g, dr, k, os⟩) : wpAny (model prog w) A (binaryOp .Add (.int x t) (.int y u)) Q E ⟨hp, g, dr, tk, os⟩ := add_int (h _ _)
theorem r_sub {x y : Int} {t u : Tok} {Q : Value → Shared → Prop} {hp : Heap} {g : Array GenState} {dr : Drawn} {tk : Nat} {os : OsState} (h : ∀ t' k, Q (.int (x - y) t') ⟨hp, g, dr, k, os⟩) : wpAny (model prog w) A (binaryOp .Sub (.int x t) (.int y u)) Q E ⟨hp, g, dr, tk, os⟩ := sub_int (h _ _)
theorem r_const {env : Env} {k : Int} {kd : Nat} {pos : Pos} {Q : Value → Shared → Prop} {hp : Heap} {g : Array GenState} {dr : Drawn} {tk : Nat} {os : OsState} (h : ∀ t n, Q (.int k t) ⟨hp, g, dr, n, os⟩) : wpAny (model prog w) A (eval (.Constant (.int k) kd pos) env) Q E ⟨hp, g, dr, tk, os⟩ := wpAny_Constant_int (h _ _)
end
theorem keepOf {g h h' : Heap} {led : List (Addr × Obj)} (kg : ∀ b o, h.get? b = some o → b ∉ led.map (·.1) → g.get? b = some o) (kK : ∀ b o, g.get? b = some o → h'.get? b = some o) : Keep (led.map (·.1)) h h' := fun b o n e => kK b o (kg b o e n)
theorem keep1 {g h h' : Heap} {a : Addr} {o : Obj} (kg : ∀ b x, h.get? b = some x → b ∉ ([(a, o)] : List (Addr × Obj)).map (·.1) → g.get? b = some x) (kK : ∀ b o, g.get? b = some o → h'.get? b = some o) : Keep [a] h h' := keepOf kg kK
theorem keepN {g h h' : Heap} (kg : ∀ b x, h.get? b = some x → b ∉ ([] : List (Addr × Obj)).map (·.1) → g.get? b = some x) (kK : ∀ b o, g.get? b = some o → h'.get? b = some o) : Keep [] h h' := keepOf kg kK
end Mine
end
section
open PySem PySem.W PySem.Calls PyProof.Rows
open Sem (wp)
set_option Elab.async false
set_option maxRecDepth 100000
namespace Mine

def dirtyIds : List String := ["bytearray.__contains__", "bytearray.__mod__", "bytearray.__rmod__", "_struct.pack_into.held", "bytearray.find.held"] ++ Builtin.Bytes.decodersThatHold
def okCode : Code → Bool
  | .builtin id _ => !dirtyIds.contains id
  | _ => true
def Clean (Γ : Ctx) : Prop := okCode Γ.code = true ∧ ∀ x ∈ Γ.below, okCode x.1 = true
theorem Clean.enter {Γ : Ctx} (h : Clean Γ) {c : Code} (hc : okCode c = true) (hd : Option Value) (p : Pos) : Clean (Γ.enter c hd p) :=
  ⟨hc, fun x hx => by
    rcases List.mem_cons.mp hx with rfl | hx
    · exact h.1
    · exact h.2 x hx⟩
theorem Clean.goto {Γ : Ctx} (h : Clean Γ) {c : Code} (hc : okCode c = true) : Clean (Γ.goto c) := ⟨hc, h.2⟩

def wpC {α : Type} (M : Model) (A : Around) (t : Sem α) (Q : α → Shared → Prop) (E : Value → Shared → Prop) (s : Shared) : Prop :=
  ∀ Γ p, Γ.In A → Clean Γ → wp M Γ t (fun a _ s' => Q a s') (fun e _ s' => E e s') p s
def codeC (M : Model) (A : Around) (c : Code) (R : Result → Shared → Prop) (s : Shared) : Prop :=
  ∀ Γ p, Γ.code = c → Γ.Below A → Clean Γ → wpCode M Γ R p s

section
variable {α β : Type} {M : Model} {A : Around} {E : Value → Shared → Prop} {s : Shared}
theorem wpC_of {t : Sem α} {Q : α → Shared → Prop} (h : wpAny M A t Q E s) : wpC M A t Q E s := fun Γ p hΓ _ => h Γ p hΓ
theorem codeC_of {c : Code} {R : Result → Shared → Prop} (h : codeAny M A c R s) : codeC M A c R s := fun Γ p hc hΓ _ => h Γ p hc hΓ
theorem wpC_mono {t : Sem α} {Q Q' : α → Shared → Prop} {E' : Value → Shared → Prop} (h : wpC M A t Q E s)
    (hQ : ∀ a s, Q a s → Q' a s) (hE : ∀ e s, E e s → E' e s) : wpC M A t Q' E' s :=
  fun Γ p hΓ hc => Sem.wp_mono M Γ t (fun a _ s => hQ a s) (fun e _ s => hE e s) p s (h Γ p hΓ hc)
theorem wpC_pure {a : α} {Q : α → Shared → Prop} (h : Q a s) : wpC M A (pure a) Q E s := fun _ _ _ _ => h
theorem wpC_throw {e : Value} {Q : α → Shared → Prop} (h : E e s) : wpC M A (throw e : Sem α) Q E s := fun _ _ _ _ => h
theorem wpC_bind {m : Sem α} {f : α → Sem β} {Q : β → Shared → Prop} (h : wpC M A m (fun a s' => wpC M A (f a) Q E s') E s) :
    wpC M A (m >>= f) Q E s := fun Γ p hΓ hc => by
  rw [Sem.wp_bind']
  exact Sem.wp_mono M Γ m (fun a p' s' h' => h' Γ p' hΓ hc) (fun _ _ _ h' => h') p s (h Γ p hΓ hc)
theorem wpC_seq {m : Sem α} {f : α → Sem β} {Q : β → Shared → Prop} (h : wpAny M A m (fun a s' => wpC M A (f a) Q E s') E s) : wpC M A (m >>= f) Q E s := wpC_bind (wpC_of h)
theorem wpC_map {m : Sem α} {f : α → β} {Q : β → Shared → Prop} (h : wpC M A m (fun a s' => Q (f a) s') E s) :
    wpC M A (f <$> m) Q E s := fun Γ p hΓ hc => by rw [Sem.wp_map]; exact h Γ p hΓ hc
theorem wpC_tryCatch {m : Sem α} {k : Value → Sem α} {Q : α → Shared → Prop} (h : wpC M A m Q (fun e s' => wpC M A (k e) Q E s') s) :
    wpC M A (tryCatch m k) Q E s := fun Γ p hΓ hc => by
  rw [Sem.wp_tryCatch']
  exact Sem.wp_mono M Γ m (fun _ _ _ h' => h') (fun e p' s' h' => h' Γ p' hΓ hc) p s (h Γ p hΓ hc)
theorem wpC_onRaise {m : Sem α} {k : Value → Sem Unit} {Q : α → Shared → Prop}
    (h : wpC M A m Q (fun e s' => wpC M A (k e) (fun _ s'' => E e s'') E s') s) : wpC M A (m.onRaise k) Q E s := fun Γ p hΓ hc => by
  rw [Sem.wp_onRaise]
  exact Sem.wp_mono M Γ m (fun _ _ _ h' => h') (fun e p' s' h' => h' Γ p' hΓ hc) p s (h Γ p hΓ hc)
theorem wpC_attempt {m : Sem α} {Q : Except Value α → Shared → Prop} (h : wpC M A m (fun a => Q (.ok a)) (fun e => Q (.error e)) s) :
    wpC M A m.attempt Q E s := fun Γ p hΓ hc => by rw [Sem.wp_attempt]; exact h Γ p hΓ hc
theorem wpC_holding {vs : List Value} {m : Sem α} {Q : α → Shared → Prop} (h : wpC M A m Q E s) : wpC M A (holding vs m) Q E s :=
  fun Γ p hΓ hc => by rw [Sem.wp_holding]; exact h Γ p hΓ hc
theorem wpC_ite {c : Prop} [Decidable c] {a b : Sem α} {Q : α → Shared → Prop} (h : if c then wpC M A a Q E s else wpC M A b Q E s) :
    wpC M A (if c then a else b) Q E s := by split <;> simp_all
theorem wpC_if_true {c : Bool} {a b : Sem α} {Q : α → Shared → Prop} (hc : c = true) (h : wpC M A a Q E s) : wpC M A (if c = true then a else b) Q E s := by subst hc; exact h
theorem wpC_if_false {c : Bool} {a b : Sem α} {Q : α → Shared → Prop} (hc : c = false) (h : wpC M A b Q E s) : wpC M A (if c = true then a else b) Q E s := by subst hc; exact h
theorem wpC_rule {tag : String} {Q : Unit → Shared → Prop} (h : Q () s) : wpC M A (rule tag) Q E s := fun _ _ _ _ => h
theorem wpC_standAt {pos : Pos} {Q : Unit → Shared → Prop} (h : Q () s) : wpC M A (standAt pos) Q E s := fun _ _ _ _ => h
theorem wpC_of_eq {t : Sem α} {a : α} {Q : α → Shared → Prop} (e : t = pure a) (h : Q a s) : wpC M A t Q E s := by rw [e]; exact wpC_pure h
theorem wpC_units_le {t : Sem α} {Q : α → Shared → Prop} {u : Nat} (h : wpC M A t Q E s) (hu : u ≤ A.units) : wpC M { A with units := u } t Q E s :=
  fun Γ p hΓ hc => h Γ p (hΓ.units_le hu) hc
theorem wpC_of_in1 {t : Sem α} {Q : α → Shared → Prop} (h : wpC M A.in1 t Q E s) : wpC M A t Q E s :=
  fun Γ p hΓ hc => h Γ p ⟨hΓ.1, hΓ.2.1, hΓ.2.2.1, hΓ.2.2.2.1, Nat.le_succ_of_le hΓ.2.2.2.2⟩ hc

theorem codeC_mono {c : Code} {R R' : Result → Shared → Prop} (h : codeC M A c R s) (hR : ∀ r s, R r s → R' r s) : codeC M A c R' s :=
  fun Γ p hc hΓ hk => wpCode_mono hR (h Γ p hc hΓ hk)
theorem wpC_run {c : Code} {h : Option Value} {Q : Flow → Shared → Prop} (ho : okCode c = true)
    (hc : codeC M (A.mark h) c (fun r s' => match r with | .ok f => Q f s' | .error e => E e s') s) (hnb : h ≠ some byPass := by intro x; cases x) :
    wpC M A (run c h) Q E s :=
  fun Γ p hΓ hk => by rw [Sem.wp_run]; exact hc _ p rfl (hΓ.enter c h p hnb) (hk.enter ho _ _)
theorem wpC_runValue {c : Code} {Q : Value → Shared → Prop} (ho : okCode c = true)
    (hc : codeC M A c (fun r s' => match r with | .ok (.ret v) => Q v s' | .ok _ => False | .error e => E e s') s) :
    wpC M A (runValue c) Q E s := fun Γ p hΓ hk => by rw [Sem.wp_runValue]; exact hc _ p rfl (hΓ.enter c none p (by intro x; cases x)) (hk.enter ho _ _)
theorem wpC_call {f : Value} {pos : List Value} {kw : List (Str × Value)} {Q : Value → Shared → Prop}
    (hc : codeC M A (.call f ⟨pos, kw⟩) (fun r s' => match r with | .ok (.ret v) => Q v s' | .ok _ => False | .error e => E e s') s) :
    wpC M A (call f pos kw) Q E s := wpC_runValue rfl hc
theorem codeC_of_tree {c : Code} {R : Result → Shared → Prop}
    (h : wpC M (A.under c) (M.den c) (fun fin s' => match fin with | .done f => R (.ok f) s' | .again c' => c'.quiet = true ∧ okCode c' = true ∧ codeC M A c' R s')
      (fun e s' => R (.error e) s') s) : codeC M A c R s := fun Γ p hc hΓ hk => by
  rw [wpCode_iff_wp, hc]
  refine Sem.wp_mono M Γ _ (fun fin p' s' h' => ?_) (fun _ _ _ h' => h') p s (h Γ p (hc ▸ hΓ.in) hk)
  cases fin with
  | done f => exact h'
  | again c' => exact ⟨h'.1, h'.2.2 (Γ.goto c') p' rfl (hΓ.goto c') (hk.goto h'.2.1)⟩

theorem ok_false {id : String} {as : Args} (h : okCode (.builtin id as) = true) (hd : dirtyIds.contains id = true) : False := by
  have h' : (!dirtyIds.contains id) = true := h
  rw [hd] at h'; cases h'
theorem ok_dec {id : String} {as : Args} (h : okCode (.builtin id as) = true) : Builtin.Bytes.decodersThatHold.contains id = false := by
  cases q : Builtin.Bytes.decodersThatHold.contains id with
  | false => rfl
  | true =>
    refine (ok_false h ?_).elim
    unfold dirtyIds
    rw [List.contains_eq_mem] at q ⊢
    exact decide_eq_true (List.mem_append.mpr (.inr (of_decide_eq_true q)))
theorem exported_no {self : Value} {Q : Bool → Shared → Prop} (h : Q false s) : wpC M A (Builtin.Bytes.exported self) Q E s := fun Γ p _ hk => by
  unfold Builtin.Bytes.exported
  show Q (List.any ((Γ.code, p) :: Γ.below) _) s
  have all : ∀ x ∈ (Γ.code, p) :: Γ.below, okCode x.1 = true := fun x hx => by
    rcases List.mem_cons.mp hx with rfl | hx
    · exact hk.1
    · exact hk.2 x hx
  rw [List.any_eq_false.mpr fun x hx => ?_]
  · exact h
  · have ok := all x hx
    obtain ⟨c, q⟩ := x
    cases c with
    | builtin id args =>
      obtain ⟨ps, kw⟩ := args
      have n : ∀ d, dirtyIds.contains d = true → ¬ id = d := fun d hd e => by subst e; exact ok_false ok hd
      intro z
      delta Builtin.Bytes.exported.match_1 at z
      replace z : dite (id = "bytearray.__contains__") _ _ = true := z
      rw [dif_neg (n "bytearray.__contains__" (by decide +kernel)), dif_neg (n "bytearray.__mod__" (by decide +kernel)), dif_neg (n "bytearray.__rmod__" (by decide +kernel)), dif_neg (n "_struct.pack_into.held" (by decide +kernel)), dif_neg (n "bytearray.find.held" (by decide +kernel))] at z
      cases ps with
      | nil => exact Bool.false_ne_true z
      | cons v t =>
        have z6 : (Builtin.Bytes.sameRef v self && Builtin.Bytes.decodersThatHold.contains id) = true := z
        rw [ok_dec ok, Bool.and_false] at z6
        exact Bool.false_ne_true z6
    | _ => exact Bool.false_ne_true
end
end Mine
end
section
open PySem PySem.W PySem.Calls PyProof.Rows PyProof.V PySem.Spec
set_option Elab.async false
set_option maxRecDepth 100000
namespace Mine

def be4 (x : Int) : List UInt8 := [(x / 16777216 % 256).toNat.toUInt8, (x / 65536 % 256).toNat.toUInt8, (x / 256 % 256).toNat.toUInt8, (x % 256).toNat.toUInt8]
def beVal (l : List UInt8) : Int := l.foldl (fun a c => a * 256 + (c.toNat : Int)) 0

theorem bInts_inj {b : Array UInt8} {ks : List Int} (h : KBw.bInts b = ks) : b = (ks.map fun k => k.toNat.toUInt8).toArray := by
  subst h
  apply Array.toList_inj.mp
  show b.toList = ((b.toList.map fun c => ((c.toNat : Nat) : Int)).map fun k => k.toNat.toUInt8)
  rw [List.map_map]
  have : ((fun k : Int => k.toNat.toUInt8) ∘ fun c : UInt8 => ((c.toNat : Nat) : Int)) = id := by
    funext c
    show ((c.toNat : Int).toNat).toUInt8 = c
    rw [Int.toNat_natCast]
    exact UInt8.ofNat_toNat
  rw [this, List.map_id]
theorem be4_of {b : Array UInt8} {x : Int} (h : KBw.bInts b = (KTBy.little 4 x).reverse) : b = (be4 x).toArray := by
  rw [bInts_inj h]
  show (List.map _ [x / 256 / 256 / 256 % 256, x / 256 / 256 % 256, x / 256 % 256, x % 256]).toArray = _
  have e1 : x / 256 / 256 = x / 65536 := Int.ediv_ediv_of_nonneg (by decide)
  have e2 : x / 256 / 256 / 256 = x / 16777216 := by rw [e1]; exact Int.ediv_ediv_of_nonneg (by decide)
  rw [e2, e1]
  rfl
theorem beVal_value (l : List UInt8) : KFB.value (l.map fun c => ((c.toNat : Nat) : Int)) = beVal l := by
  unfold KFB.value beVal
  rw [List.foldl_map]

section
variable {prog : Program} {w : World} {A : Around} {E : Value → Shared → Prop} {hp : Heap} {g : Array GenState} {dr : Drawn} {tk : Nat} {os : OsState} {h₀ : Heap} {L : Addr} {m : Str → Option Value} {news : List (Addr × Obj)} {Q : Value → Shared → Prop} {x y : List UInt8} {t u : Tok}

theorem b_add (hz : x.length + y.length ≤ 16777216) (h : ∀ t' k, Q (.bytes (x ++ y).toArray t') ⟨hp, g, dr, k, os⟩) : wpAny (model prog w) A (binaryOp .Add (.bytes x.toArray t) (.bytes y.toArray u)) Q E ⟨hp, g, dr, tk, os⟩ :=
  KBy.add_bytes (by simpa using hz) fun t' k => by rw [List.append_toArray]; exact h t' k
theorem b_len (hz : x.length ≤ 16777216) (h : ∀ t' k, Q (.int (x.length : Int) t') ⟨hp, g, dr, k, os⟩) : wpAny (model prog w) A (call (.builtin "len") [.bytes x.toArray t]) Q E ⟨hp, g, dr, tk, os⟩ :=
  len_bytes (by rw [List.size_toArray]; omega) (by rw [List.size_toArray]; exact h _ _)
theorem b_eq (h : Q (.bool (decide (x = y))) ⟨hp, g, dr, tk, os⟩) : wpAny (model prog w) A (compareOp .Eq (.bytes x.toArray t) (.bytes y.toArray u)) Q E ⟨hp, g, dr, tk, os⟩ :=
  eq_bytes (by show Q (.bool (x == y)) _; rw [show (x == y) = decide (x = y) from by by_cases e : x = y <;> simp [e]]; exact h)
theorem b_ne (h : Q (.bool (!decide (x = y))) ⟨hp, g, dr, tk, os⟩) : wpAny (model prog w) A (compareOp .NotEq (.bytes x.toArray t) (.bytes y.toArray u)) Q E ⟨hp, g, dr, tk, os⟩ :=
  ne_bytes (by show Q (.bool (x != y)) _; rw [show (x != y) = !decide (x = y) from by by_cases e : x = y <;> simp [e]]; exact h)
theorem b_const {env : Env} {k : Nat} {pos : Pos} (h : ∀ t' n, Q (.bytes x.toArray t') ⟨hp, g, dr, n, os⟩) : wpAny (model prog w) A (eval (.Constant (.bytes x) k pos) env) Q E ⟨hp, g, dr, tk, os⟩ := Constant_bytes (h _ _)
theorem b_item {i : Int} {ui : Tok} {value slice : PySem.Expr} (hz : x.length ≤ 16777216) (h0 : 0 ≤ i) (h1 : i < (x.length : Int)) (h : ∀ t' k, Q (.int ((x.getD i.toNat 0).toNat : Int) t') ⟨hp, g, dr, k, os⟩)
    (hs : subscripted slice false (.bytes x.toArray t) (.int i ui) = operate [.bytes x.toArray t, .int i ui] (getItem (.bytes x.toArray t) (.int i ui)) := by with_unfolding_all rfl)
    (ht : ∀ r, letTemporaryGo value (.bytes x.toArray t) r = pure () := by intro _; with_unfolding_all rfl) :
    wpAny (model prog w) A (subscriptTail value slice (.bytes x.toArray t) (.int i ui)) Q E ⟨hp, g, dr, tk, os⟩ := KBy.item_N (by omega) h0 h1 (h _ _) hs ht

def cut (x : List UInt8) (lo hi : Option Int) : List UInt8 := (x.drop (lo.elim 0 Int.toNat)).take (hi.elim x.length Int.toNat - lo.elim 0 Int.toNat)
theorem clip_nn {n : Nat} {k : Int} (h : 0 ≤ k) : clipAt n k = min k.toNat n := by
  obtain ⟨j, rfl⟩ := Int.eq_ofNat_of_zero_le h
  rw [clipAt_nat]; rfl
theorem cut_of {lo hi : Option Int} (h1 : ∀ k ∈ lo, 0 ≤ k) (h2 : ∀ k ∈ hi, 0 ≤ k) : KBy.picked x.toArray lo hi = (cut x lo hi).toArray := by
  rw [KBc.picked_eq]
  congr 1
  unfold cut
  simp only [List.size_toArray, List.toList_toArray]
  have e1 : lo.elim 0 (clipAt x.length) = min (lo.elim 0 Int.toNat) x.length := by
    cases lo with
    | none => simp
    | some k => exact clip_nn (h1 k rfl)
  have e2 : hi.elim x.length (clipAt x.length) = min (hi.elim x.length Int.toNat) x.length := by
    cases hi with
    | none => simp
    | some k => exact clip_nn (h2 k rfl)
  rw [e1, e2]
  generalize lo.elim 0 Int.toNat = i
  generalize hi.elim x.length Int.toNat = j
  by_cases hi : i ≤ x.length
  · rw [Nat.min_eq_left hi]
    apply List.ext_getElem?
    intro n
    rw [List.getElem?_take, List.getElem?_take, List.getElem?_drop]
    by_cases a : n < min j x.length - i
    · rw [if_pos a, if_pos (by omega)]
    · rw [if_neg a]
      by_cases b : n < j - i
      · rw [if_pos b, List.getElem?_eq_none (by omega)]
      · rw [if_neg b]
  · rw [List.drop_eq_nil_of_le (as := x) (i := i) (by omega), List.drop_eq_nil_of_le (as := x) (i := min i x.length) (by omega)]
    simp
theorem b_slice {l v : Value} {lo hi : Option Int} {value slice : PySem.Expr} (hF : Fr h₀ L hp m) (hN : News h₀ L hp news) (hl : IsPart l lo) (hu : IsPart v hi) (hz : x.length ≤ 16777216) (h1 : ∀ k ∈ lo, 0 ≤ k) (h2 : ∀ k ∈ hi, 0 ≤ k)
    (h : ∀ h' t' k, Fr h₀ L h' m → News h₀ L h' news → Q (.bytes (cut x lo hi).toArray t') ⟨h', g, dr, k, os⟩)
    (hs : subscripted slice false (.bytes x.toArray t) (.ref hp.objs.size) = operate [.ref hp.objs.size, .bytes x.toArray t] (getItem (.bytes x.toArray t) (.ref hp.objs.size)) := by with_unfolding_all rfl)
    (ht : ∀ r, letTemporaryGo value (.bytes x.toArray t) r = pure () := by intro _; with_unfolding_all rfl) :
    wpAny (model prog w) A (subscriptTail value slice (.bytes x.toArray t) (.ref hp.objs.size)) Q E ⟨hp.push { cls := .type "slice", data := .fields #[l, v, .none] }, g, dr, tk, os⟩ :=
  KBc.slice_K (s := ⟨hp, g, dr, tk, os⟩) hF hN rfl hl hu (by rw [KBw.ints_length, List.size_toArray]; exact hz) (fun h' t' k F' N' _ => by rw [cut_of h1 h2]; exact h h' t' k F' N') hs ht

theorem b_mul {n : Int} (hb : x ≠ []) (h2 : 2 ≤ n) (hn : n ≤ 1048576) (hz : x.length * n.toNat ≤ 16777216) (h : ∀ t' k, Q (.bytes (List.replicate n.toNat x).flatten.toArray t') ⟨hp, g, dr, k, os⟩) :
    wpAny (model prog w) A (binaryOp .Mult (.bytes x.toArray t) (.int n u)) Q E ⟨hp, g, dr, tk, os⟩ := bytes_mul_K hb h2 hn hz rfl h

theorem b_to4 {k : Int} {v : Tok} (h0 : 0 ≤ k) (h1 : k < 4294967296) (h : ∀ t' n, Q (.bytes (be4 k).toArray t') ⟨hp, g, dr, n, os⟩) :
    wpAny (model prog w) A (call (.builtin "int.to_bytes") [.int k t, .int 4 u, .str (PySem.Str.ofString "big") v]) Q E ⟨hp, g, dr, tk, os⟩ :=
  KTBy.to_big (k := 4) (B := 4294967296) (by decide) (by decide) h0 h1 fun b t' n e _ => by rw [be4_of e]; exact h t' n
theorem b_from {a : Addr} (N : News h₀ L hp news) (hm : (a, KFB.bound) ∈ news) (hz : x.length ≤ 8) (h : ∀ t' n, Q (.int (beVal x) t') ⟨hp, g, dr, n, os⟩) :
    wpAny (model prog w) A (call (.ref a) [.bytes x.toArray t, .str (PySem.Str.ofString "big") u]) Q E ⟨hp, g, dr, tk, os⟩ :=
  KFB.call_big (s := ⟨hp, g, dr, tk, os⟩) N hm rfl (by rw [KBw.ints_length, List.size_toArray]; exact hz) fun t' n => by rw [KBw.ints_list, beVal_value]; exact h t' n
end
end Mine
end
section
open PySem PySem.W PySem.Calls PyProof.Rows PyProof.V PySem.Spec PySem.Builtin
set_option Elab.async false
set_option maxRecDepth 100000
namespace Mine
abbrev baObj (b : List UInt8) : Obj := { cls := .type "bytearray", data := .bytearray b.toArray }
namespace BA
theorem no_bytes : typeLookup (.type "bytearray") "__bytes__" = pure none := by rw [typeLookup_type, builtinLookup_eq_fast]; kernel_rfl
theorem noIndex : typeLookup (.type "bytearray") "__index__" = pure none := by rw [typeLookup_type, builtinLookup_eq_fast]; kernel_rfl
theorem look_buffer : typeLookup (.type "bytearray") "__buffer__" = pure (some (.builtin "bytearray.__buffer__")) := by rw [typeLookup_type, builtinLookup_eq_fast]; kernel_rfl
theorem look_release : typeLookup (.type "bytearray") "__release_buffer__" = pure (some (.builtin "bytearray.__release_buffer__")) := by rw [typeLookup_type, builtinLookup_eq_fast]; kernel_rfl
theorem sub_self : isSubtype (.type "bytearray") (.type "bytearray") = pure true := by rw [isSubtype_type]; kernel_rfl
theorem int_no_bytes : typeLookup (.type "int") "__bytes__" = pure none := by rw [typeLookup_type, builtinLookup_eq_fast]; kernel_rfl
end BA
section
variable {M : Model} {A : Around} {E : Value → Shared → Prop} {s : Shared} {a : Addr} {b : List UInt8}
theorem ba_type (ho : s.heap.get? a = some (baObj b)) : s.TypeIs (.ref a) "bytearray" := ⟨_, ho, rfl⟩
theorem ba_slotOwn {nm : String} {id : String} {Q : Bool → Shared → Prop} (ho : s.heap.get? a = some (baObj b)) (hl : typeLookup (.type "bytearray") (Str.ofString nm) = pure (some (.builtin id)))
    (he : id.endsWith ("." ++ nm) = true) (hd : (id.dropRight (nm.length + 1)) = "bytearray") (h : Q true s) : wpAny M A (Bytes.slotIsOwn (.ref a) nm) Q E s := by
  unfold Bytes.slotIsOwn
  refine wpAny_bind (wpAny_specialOf (ba_type ho) hl ?_)
  dsimp only
  rw [he, hd]
  refine bm_if_false rfl ?_
  exact wpAny_isInstance (ba_type ho) BA.sub_self h
theorem ba_ownRelease {Q : Bool → Shared → Prop} (ho : s.heap.get? a = some (baObj b)) (h : Q false s) : wpAny M A (Bytes.ownRelease (.ref a)) Q E s := by
  unfold Bytes.ownRelease
  exact wpAny_bind (ba_slotOwn ho BA.look_release (by decide +kernel) (by decide +kernel) (wpAny_pure h))
theorem ba_payload {Q : Array UInt8 → Shared → Prop} (ho : s.heap.get? a = some (baObj b)) (h : Q b.toArray s) : wpAny M A (Bytes.payload (.ref a)) Q E s := by
  unfold Bytes.payload Bytes.payload?
  refine wpAny_bind (wpAny_bind (wpAny_load ho (wpAny_pure (wpAny_pure h))))
theorem ba_buffer {id : String} {full : Bool} {Q : Option (Array UInt8) → Shared → Prop} (ho : s.heap.get? a = some (baObj b)) (h : Q (some b.toArray) s) : wpAny M A (Bytes.buffer? id (.ref a) full) Q E s := by
  unfold Bytes.buffer?
  refine wpAny_bind (wpAny_specialOf (ba_type ho) BA.look_buffer ?_)
  dsimp only
  refine wpAny_bind (ba_slotOwn ho BA.look_buffer (by decide +kernel) (by decide +kernel) ?_)
  refine bm_if_false rfl ?_
  refine wpAny_bind (wpAny_specialOf (ba_type ho) BA.look_buffer ?_)
  refine wpAny_bind (ba_ownRelease ho ?_)
  refine bm_if_false rfl ?_
  exact wpAny_bind (ba_payload ho (wpAny_pure h))
end
section
variable {prog : Program} {w : World} {A : Around} {E : Value → Shared → Prop} {s : Shared} {a : Addr} {b : List UInt8} {Q : Value → Shared → Prop}
theorem bytes_via {v : Value} {r : List UInt8} (hnew : ∀ {A' : Around} {P : Fin → Shared → Prop} {E' : Value → Shared → Prop}, (∀ t k, P (.done (.ret (.bytes r.toArray t))) { s with toks := k }) → wpAny (model prog w) A' (Builtin.«bytes.__new__» ⟨[.type "bytes", v], []⟩) P E' s)
    (hQ : ∀ t k, Q (.bytes r.toArray t) { s with toks := k }) : wpAny (model prog w) A (call (.type "bytes") [v]) Q E s := by
  refine callType_codes (Q₁ := fun obj s₁ => s₁.TypeIs obj "bytes" ∧ Q obj s₁) F.bm_called (F.bm_typeCall _) F.entry_object_init ?_ fun obj s₁ h₁ => ?_
  · refine codeAny_of_tree ?_
    show wpAny _ A.in1.in1 (do checkBuiltinCall "bytes.__new__" ⟨[.type "bytes", v], []⟩; again (.builtin "bytes.__new__" ⟨[.type "bytes", v], []⟩)) _ _ s
    refine wpAny_bind (wpAny_of_eq (F.bm_newCall _) (wpAny_pure ⟨plainId_quiet F.bm_plain _, codeAny_builtin F.bm_entry ?_⟩))
    rw [Around.under_plainId F.bm_plain _]
    exact hnew fun t k => ⟨PySem.W.typeIs_bytes _ _ _, hQ t k⟩
  · exact ⟨h₁.1, F.args_object_init_2 obj _, object_init_meets F.bm_called.init.lookup F.bm_called.made (by decide) prog w A.in1 _ s₁ ⟨h₁.1, rfl, h₁.2⟩⟩
theorem bytes_int {n : Int} {t : Tok} (h0 : 0 ≤ n) (hz : n ≤ 16777216) (hQ : ∀ t k, Q (.bytes (List.replicate n.toNat (0 : UInt8)).toArray t) { s with toks := k }) :
    wpAny (model prog w) A (call (.type "bytes") [.int n t]) Q E s := by
  refine bytes_via (fun {A' P E'} hP => ?_) hQ
  unfold Builtin.«bytes.__new__»
  refine wpAny_bind (wpAny_of_eq (a := true) rfl ?_)
  refine bm_if_false rfl ?_
  refine wpAny_bind (wpAny_of_eq F.bm_sub ?_)
  refine bm_if_false rfl ?_
  refine wpAny_bind (wpAny_of_eq (F.bm_bind _) ?_)
  refine wpAny_bind (wpAny_of_eq (a := ()) rfl ?_)
  refine wpAny_bind (wpAny_of_eq (a := ()) rfl ?_)
  refine bm_if_false rfl ?_
  refine wpAny_bind (wpAny_specialOf (typeIs_int s n t) BA.int_no_bytes ?_)
  refine wpAny_bind (wpAny_of_eq (a := false) rfl ?_)
  refine bm_if_false rfl ?_
  refine wpAny_bind (wpAny_specialOf (typeIs_int s n t) F.slot_int_index.lookup ?_)
  refine bm_if_false rfl ?_
  refine wpAny_bind (wpAny_attempt (wpAny_of_eq (rfl : asIndex (.int n t) = pure n) ?_))
  have hf : Bytes.fitsIndex n = true := by
    simp only [Bytes.fitsIndex, Bool.and_eq_true, decide_eq_true_eq]
    omega
  show wpAny _ _ (if (!Bytes.fitsIndex n) = true then _ else _) _ _ _
  refine bm_if_false (by rw [hf]; rfl) ?_
  refine wpAny_ite_false (decide_eq_false (show ¬ (n < 0) by omega)) ?_
  refine wpAny_ite_false (decide_eq_false (show ¬ (n > 2 ^ 63 - 34) by omega)) ?_
  refine bm_if_false (KBy.tooLong_not (by omega)) ?_
  refine wpAny_bind (wpAny_rule (wpAny_bind (wpAny_mkBytes ?_ (by rw [sizeLine_eq]; simp; omega))))
  have e : Array.replicate n.toNat (0 : UInt8) = (List.replicate n.toNat (0 : UInt8)).toArray := by simp
  rw [e]
  refine bm_if_true (by decide) ?_
  first
    | exact wpAny_pure (hP _ _)
    | exact wpAny_bind (wpAny_pure (wpAny_pure (hP _ _)))
theorem bytes_ba (ho : s.heap.get? a = some (baObj b)) (hz : b.length ≤ 16777216) (hQ : ∀ t k, Q (.bytes b.toArray t) { s with toks := k }) :
    wpAny (model prog w) A (call (.type "bytes") [.ref a]) Q E s := by
  refine bytes_via (fun {A' P E'} hP => ?_) hQ
  unfold Builtin.«bytes.__new__»
  refine wpAny_bind (wpAny_of_eq (a := true) rfl ?_)
  refine bm_if_false rfl ?_
  refine wpAny_bind (wpAny_of_eq F.bm_sub ?_)
  refine bm_if_false rfl ?_
  refine wpAny_bind (wpAny_of_eq (F.bm_bind _) ?_)
  refine wpAny_bind (wpAny_of_eq (a := ()) rfl ?_)
  refine wpAny_bind (wpAny_of_eq (a := ()) rfl ?_)
  refine bm_if_false rfl ?_
  refine wpAny_bind (wpAny_specialOf (ba_type ho) BA.no_bytes ?_)
  refine wpAny_bind (wpAny_bind (wpAny_bind (wpAny_load ho (wpAny_pure (wpAny_pure ?_)))))
  refine bm_if_false rfl ?_
  refine wpAny_bind (wpAny_specialOf (ba_type ho) BA.noIndex ?_)
  refine bm_if_true rfl ?_
  first
    | show wpAny _ _ (Bytes.buffer? "bytes.__new__" (.ref a) true >>= _) _ _ _
    | (refine wpAny_bind ?_; show wpAny _ _ (Bytes.buffer? "bytes.__new__" (.ref a) true >>= _) _ _ _)
  refine wpAny_bind (ba_buffer ho ?_)
  refine wpAny_bind (wpAny_rule (wpAny_bind (wpAny_mkBytes ?_ (by rw [sizeLine_eq]; simpa using hz))))
  refine bm_if_true (by decide) ?_
  first
    | exact wpAny_pure (hP _ _)
    | exact wpAny_bind (wpAny_pure (wpAny_pure (hP _ _)))
end
end Mine
end
section
open PySem PySem.W PySem.Calls PyProof.Rows PyProof.V PySem.Spec
set_option Elab.async false
set_option maxRecDepth 100000
namespace Mine
section
variable {prog : Program} {w : World} {A : Around} {E : Value → Shared → Prop} {s : Shared} {R : Result → Shared → Prop}
theorem codeC_builtin {id : String} {args : Args} {b : Builtin} (hb : entryFor table id = some b)
    (h : wpC (model prog w) (A.under (.builtin id args)) (b args)
      (fun fin s' => match fin with | .done f => R (.ok f) s' | .again c' => c'.quiet = true ∧ okCode c' = true ∧ codeC (model prog w) A c' R s') (fun e s' => R (.error e) s') s) :
    codeC (model prog w) A (.builtin id args) R s := by
  refine codeC_of_tree ?_
  show wpC _ _ (match entryFor table id with | some b => b args | none => unsupported ((withoutEnding? id "#data").getD id)) _ _ s
  rw [hb]; exact h
theorem codeC_call_builtin {id : String} {args : Args} {b : Builtin} (hq : plainId id = true) (hk : okCode (.builtin id args) = true) (hb : entryFor table id = some b)
    (h : wpAny (model prog w) A.in1 (checkBuiltinCall id args) (fun _ s₁ => wpC (model prog w) A.in1 (b args)
      (fun fin s' => match fin with | .done f => R (.ok f) s' | .again c' => c'.quiet = true ∧ okCode c' = true ∧ codeC (model prog w) A c' R s') (fun e s' => R (.error e) s') s₁)
      (fun e s' => R (.error e) s') s) : codeC (model prog w) A (.call (.builtin id) args) R s := by
  refine codeC_of_tree ?_
  show wpC _ A.in1 (do checkBuiltinCall id args; again (.builtin id args)) _ _ s
  refine wpC_seq (wpAny_mono h (fun _ s₁ h₁ => wpC_pure ⟨plainId_quiet hq args, hk, codeC_builtin hb ?_⟩) fun _ _ h' => h')
  rw [Around.under_plainId hq args]
  exact h₁
theorem codeC_func {body : List Stmt} {env : Env}
    (h : wpC (model prog w) (A.deeper env) (execs body env) (fun f s' => R (.ok (.ret (match f with | .ret v => v | _ => .none))) s')
      (fun e s' => wpC (model prog w) (A.deeper env) (leaving env e) (fun _ s'' => R (.error e) s'') (fun e' s'' => R (.error e') s'') s') s) :
    codeC (model prog w) A (.func body env) R s := by
  refine codeC_of_tree ?_
  show wpC _ (A.deeper env) (do point; match ← (execs body env).onRaise (leaving env) with | .ret v => ret v | _ => ret .none) _ _ s
  refine wpC_seq (wpAny_point (wpC_bind (wpC_onRaise (wpC_mono h (fun f s' h' => ?_) fun _ _ h' => h'))))
  cases f <;> exact wpC_pure h'
theorem codeC_call_function {a : Addr} {args : Args} {o : Obj} {fd : FuncData} {body : List Stmt} (hroom : A.depth < recursionLimit)
    (ho : s.heap.get? a = some o)
    (hd' : o.data = .func fd) (hco : fd.scope.isCoroutine = false) (hgen : fd.scope.isGenerator = false) (hbody : fd.body = .stmts body) (hcd : s.heap.CodeRec fd.code fd.qualname)
    (h : wpAny (model prog w) A.in1 (bindArgs fd args) (fun binds s₁ =>
      wpAny (model prog w) A.in1 (newFunctionEnv fd.scope fd.globals fd.closure binds (fd.qualname ++ ".<locals>.") (some a) fd.code none fd.builtins)
        (fun env s₂ => s₂.heap.NoLimit ∧ codeC (model prog w) A (.func body env) R s₂) (fun e s' => R (.error e) s') s₁) (fun e s' => R (.error e) s') s) :
    codeC (model prog w) A (.call (.ref a) args) R s := by
  refine codeC_of_tree ?_
  show wpC _ A.in1 (callAny (.ref a) args) _ _ s
  simp only [callAny]
  refine wpC_seq (wpAny_load ho ?_)
  obtain ⟨c, oc, vs, tq, hc, hoc, hdc, hq⟩ := hcd
  simp only [hd', callFunction, hco, hgen, hbody, hc]
  rw [hc] at h
  refine wpC_seq (m := field (.ref c) 1) (wpAny_field hoc hdc hq (wpC_bind (wpC_pure ?_)))
  exact wpC_seq (wpAny_mono h (fun binds s₁ h₁ => wpC_seq (wpAny_mono h₁ (fun env s₂ h₂ => wpC_seq (wpAny_enterFrame h₂.1 hroom
    (wpC_pure ⟨rfl, rfl, h₂.2⟩))) fun _ _ h' => h')) fun _ _ h' => h')
theorem codeC_call_def {a : Addr} {o : Obj} {fd : FuncData} {body : List Stmt} {args : Args} {binds : List (Str × Value)}
    (hroom : A.depth < recursionLimit) (ho : s.heap.get? a = some o) (hdata : o.data = .func fd) (hlim : s.heap.NoLimit) (hcd : s.heap.CodeRec fd.code fd.qualname)
    (hbody : fd.body = .stmts body) (hbind : BindsTo s fd args binds)
    (hcell : ∀ x ∈ fd.scope.names, x.2 ≠ .cell) (hloc : ∀ x ∈ binds, fd.scope.names.lookup x.1 = some .local)
    (h : ∀ h₀, h₀.Ns s.heap.objs.size (fun x => binds.reverse.lookup x) → (∀ b o, s.heap.get? b = some o → h₀.get? b = some o) →
      wpC (model prog w) (A.deeper (callEnv fd s.heap.objs.size a)) (execs body (callEnv fd s.heap.objs.size a)) (fun f s' => R (.ok (.ret (match f with | .ret v => v | _ => .none))) s')
        (fun e s' => wpC (model prog w) (A.deeper (callEnv fd s.heap.objs.size a)) (leaving (callEnv fd s.heap.objs.size a) e) (fun _ s'' => R (.error e) s'') (fun e' s'' => R (.error e') s'') s')
        { s with heap := h₀, toks := s.toks + binds.length })
    (hco : fd.scope.isCoroutine = false := by rfl) (hgen : fd.scope.isGenerator = false := by rfl) (hk : fd.scope.kind = .function := by rfl) :
    codeC (model prog w) A (.call (.ref a) args) R s := by
  refine codeC_call_function hroom ho hdata hco hgen hbody hcd (hbind _ _ _ _ ?_)
  refine wpAny_newFunctionEnv hcell hloc (fun h₀ hns₀ hsb₀ => ⟨hlim.fresh _ hsb₀, codeC_func (h h₀ hns₀ fun b o e => ?_)⟩) hk
  exact hsb₀.extBut b o (Nat.ne_of_lt (Heap.lt_size e)) (Heap.get?_push_of_some _ e)

theorem callTypeC {T newId initId : String} {Bi : Builtin} {args : List Value} {Q Q₁ : Value → Shared → Prop} (ft : TypeCalled T newId initId)
    (hct : checkTypeCall T ⟨args, []⟩ = pure ()) (entryI : entryFor table initId = some Bi) (hki : ∀ as, okCode (.builtin initId as) = true)
    (hnew : codeAny (model prog w) A.in1 (.call (.builtin newId) ⟨.type T :: args, []⟩) (wants Q₁ E) s)
    (hnext : ∀ obj s₁, Q₁ obj s₁ → s₁.TypeIs obj T ∧ argsOk initId ⟨obj :: args, []⟩ ∧
      wpC (model prog w) A.in1.in1 (Bi ⟨obj :: args, []⟩)
        (fun fin s' => match fin with | .done f => wants (fun r s₂ => r = .none ∧ Q obj s₂) E (.ok f) s' | .again _ => False)
        (fun e s' => wants (fun r s₂ => r = .none ∧ Q obj s₂) E (.error e) s') s₁) :
    wpC (model prog w) A (call (.type T) args) Q E s := by
  obtain ⟨c, tl, hmro⟩ := ft.mro
  refine wpC_call (codeC_of_tree ?_)
  show wpC _ _ (callAny (.type T) _) _ _ _
  refine wpC_pure ⟨Code.quiet_builtin _ (by decide +kernel), rfl, codeC_builtin F.entry_type_call ?_⟩
  rw [Around.under_plain (weight_type_call_type T args []) rfl]
  unfold Builtin.«type.__call__»
  refine wpC_if_false ft.notType ?_
  refine wpC_if_false ft.canCreate ?_
  refine wpC_bind (wpC_of_eq hct ?_)
  refine wpC_bind (wpC_of_eq hmro ?_)
  refine wpC_if_false rfl ?_
  refine wpC_bind (wpC_of_eq ft.made ?_)
  refine wpC_bind (wpC_pure ?_)
  refine wpC_bind (wpC_of (wpAny_holding (wpAny_call (codeAny_mono hnew fun r s₁ hr => ?_))))
  cases r with
  | error e => exact hr
  | ok fl =>
    cases fl with
    | ret obj =>
      obtain ⟨hT, hok, hsi⟩ := hnext _ _ hr
      refine wpC_seq (wpAny_isInstance hT ft.sub ?_)
      refine wpC_if_false rfl ?_
      refine wpC_bind (wpC_holding ?_)
      unfold callSpecial?
      refine wpC_seq (wpAny_specialOf hT ft.init.lookup ?_)
      refine wpC_holding (wpC_bind (wpC_of_eq (ft.init.bind obj) ?_))
      refine wpC_bind (wpC_call (codeC_mono (codeC_call_builtin ft.init.plain (hki _) entryI (ft.init.check _ _ _ _ _ _ _ _ hT hok (wpC_mono hsi ?_ fun _ _ y => y))) fun r₂ s₂ hr₂ => ?_))
      · intro fin s' y
        cases fin with
        | done f => exact y
        | again c' => exact y.elim
      · cases r₂ with
        | error e => exact hr₂
        | ok fl₂ =>
          cases fl₂ with
          | ret r =>
            obtain ⟨rfl, hq⟩ := hr₂
            exact wpC_pure (wpC_if_false rfl (wpC_pure hq))
          | _ => exact hr₂.elim
    | _ => exact hr.elim
end
end Mine
end
section
open PySem PySem.W PySem.Calls PyProof.Rows PyProof.V PySem.Spec PySem.Builtin
set_option Elab.async false
set_option maxRecDepth 100000
namespace Mine
namespace BA
theorem mro : mroOf (.type "bytearray") = pure [.type "bytearray", .type "object"] := by rw [mroOf_type]; kernel_rfl
theorem look_new : typeLookup (.type "bytearray") "__new__" = pure (some (.builtin "bytearray.__new__")) := by rw [typeLookup_type, builtinLookup_eq_fast]; kernel_rfl
theorem slot_init : Slot "bytearray" "__init__" "bytearray.__init__" :=
  .of (owner := "bytearray") (n := "__init__") (by rw [typeLookup_type, builtinLookup_eq_fast]; kernel_rfl) (by decide +kernel) (by decide +kernel) (by decide +kernel)
    (by first | exact .inl (by decide +kernel) | exact .inr (by decide +kernel)) (by rw [isSubtype_type]; kernel_rfl)
theorem called : TypeCalled "bytearray" "bytearray.__new__" "bytearray.__init__" :=
  ⟨by decide +kernel, by decide +kernel, ⟨_, _, mro⟩, madeBy_type mro look_new (by decide +kernel), by decide +kernel, by rw [isSubtype_type]; kernel_rfl, slot_init⟩
theorem typeCall1 (a : Value) : checkTypeCall "bytearray" ⟨[a], []⟩ = pure () := by kernel_rfl
theorem typeCall0 : checkTypeCall "bytearray" ⟨[], []⟩ = pure () := by kernel_rfl
theorem newCall1 (a : Value) : checkBuiltinCall "bytearray.__new__" ⟨[.type "bytearray", a], []⟩ = pure () := by kernel_rfl
theorem newCall0 : checkBuiltinCall "bytearray.__new__" ⟨[.type "bytearray"], []⟩ = pure () := by kernel_rfl
theorem entry_new : entryFor table "bytearray.__new__" = some Builtin.«list.__new__» := entryFor_alias (id' := "list.__new__") (by kernel_rfl) rfl (by decide +kernel) (by kernel_rfl)
theorem plain_new : plainId "bytearray.__new__" = true := by decide +kernel
theorem entry_init : entryFor table "bytearray.__init__" = some Builtin.«bytearray.__init__» := by first | exact entryFor_of_fast (by kernel_rfl) | exact entryFor_of_tree (by kernel_rfl)
theorem args_init1 (a b : Value) : argsOk "bytearray.__init__" ⟨[a, b], []⟩ := by unfold argsOk; kernel_rfl
theorem args_init0 (a : Value) : argsOk "bytearray.__init__" ⟨[a], []⟩ := by unfold argsOk; kernel_rfl
set_option maxRecDepth 1000000 in
set_option maxHeartbeats 4000000 in
theorem owner_new : ("bytearray.__new__".splitOn ".__new__").headD "" = "bytearray" := by simp +decide [String.splitOn, String.splitOnAux]
theorem bind0 : Bytes.bindOptional "bytearray.__init__" "bytearray" ["source", "encoding", "errors"] [] [] = pure [none, none, none] := by kernel_rfl
theorem bind1 (v : Value) : Bytes.bindOptional "bytearray.__init__" "bytearray" ["source", "encoding", "errors"] [v] [] = pure [some v, none, none] := by kernel_rfl
theorem bytes_noIndex : typeLookup (.type "bytes") "__index__" = pure none := by rw [typeLookup_type, builtinLookup_eq_fast]; kernel_rfl
end BA
section
variable {prog : Program} {w : World} {A : Around} {E : Value → Shared → Prop} {s : Shared}
theorem okCode_of {id : String} (h : dirtyIds.contains id = false) (as : Args) : okCode (.builtin id as) = true := by
  show (!dirtyIds.contains id) = true
  rw [h]; rfl
theorem code_ba_new {rest : List Value} (hc : checkBuiltinCall "bytearray.__new__" ⟨.type "bytearray" :: rest, []⟩ = pure ()) {Q₁ : Value → Shared → Prop}
    (h : Q₁ (.ref s.heap.objs.size) { s with heap := s.heap.push (baObj []) }) :
    codeAny (model prog w) A (.call (.builtin "bytearray.__new__") ⟨.type "bytearray" :: rest, []⟩) (wants Q₁ E) s := by
  refine codeAny_of_tree ?_
  show wpAny _ A.in1 (do checkBuiltinCall "bytearray.__new__" ⟨.type "bytearray" :: rest, []⟩; again (.builtin "bytearray.__new__" ⟨.type "bytearray" :: rest, []⟩)) _ _ s
  refine wpAny_bind (wpAny_of_eq hc (wpAny_pure ⟨plainId_quiet BA.plain_new _, codeAny_builtin_stack BA.entry_new rfl fun p st => ?_⟩))
  rw [Around.under_plainId BA.plain_new _]
  have hown := BA.owner_new
  simp only [hown]
  refine wpAny_bind (wpAny_of_eq (a := true) rfl ?_)
  refine bm_if_false rfl ?_
  refine wpAny_bind (wpAny_of_eq BA.sub_self ?_)
  refine bm_if_false rfl ?_
  refine wpAny_bind (wpAny_pure ?_)
  refine bm_if_true (by decide +kernel) ?_
  refine wpAny_bind (wpAny_newObj_type (wpAny_pure ?_) (Nat.zero_le _))
  exact h

theorem wpC_write {a : Addr} {b c : List UInt8} {f : Array UInt8 → Array UInt8} {Q : Unit → Shared → Prop} (ho : s.heap.get? a = some (baObj b)) (hf : f b.toArray = c.toArray) (hz : c.length ≤ 16777216)
    (h : Q () { s with heap := s.heap.update a (Obj.mapBytearray f) }) : wpAny (model prog w) A (Bytes.write (.ref a) f) Q E s := by
  show wpAny _ _ (updateBytearray a f) _ _ _
  unfold updateBytearray
  refine wpAny_bind (wpAny_load ho ?_)
  show wpAny _ _ (update a (Obj.mapBytearray f) >>= fun _ => lookBehind a) _ _ _
  refine wpAny_bind (wpAny_update ho ?_)
  have hS : (s.heap.update a (Obj.mapBytearray f)).get? a = some (baObj c) := by
    have := Heap.get?_update_self (Obj.mapBytearray f) ho rfl
    rw [this]
    show some ({ cls := .type "bytearray", data := .bytearray (f b.toArray) } : Obj) = _
    rw [hf]
  refine wpAny_lookBehind hS ?_ h
  show (if c.toArray.size > sizeLine then some "bytearray:memory" else none) = none
  rw [if_neg]
  rw [List.size_toArray, sizeLine_eq]
  omega
theorem upd_get {h : Heap} {a : Addr} {b c : List UInt8} {f : Array UInt8 → Array UInt8} (ho : h.get? a = some (baObj b)) (hf : f b.toArray = c.toArray) : (h.update a (Obj.mapBytearray f)).get? a = some (baObj c) := by
  rw [Heap.get?_update_self (Obj.mapBytearray f) ho rfl]
  show some ({ cls := .type "bytearray", data := .bytearray (f b.toArray) } : Obj) = _
  rw [hf]
theorem upd_keep {h : Heap} {a : Addr} {f : Obj → Obj} : Keep [a] h (h.update a f) := fun b o n e => (Heap.get?_update_ne _ _ _ _ (fun (q : b = a) => n (by rw [q]; exact List.mem_singleton.mpr rfl))).trans e

theorem exports_no {a : Addr} {b : List UInt8} {Q : Bool → Shared → Prop} (ho : s.heap.get? a = some (baObj b)) (h : Q false s) :
    wpC (model prog w) A (Bytes.exported (.ref a) <||> (do return (← Bytes.exportsOf (.ref a)) > 0)) Q E s := by
  show wpC _ _ (Bytes.exported (.ref a) >>= fun x => _) _ _ _
  refine wpC_bind (exported_no ?_)
  show wpC _ _ ((Bytes.exportsOf (.ref a) >>= fun x => pure (decide (x > 0))) : Sem Bool) _ _ _
  unfold Bytes.exportsOf
  refine wpC_seq (wpAny_bind (wpAny_load ho (wpAny_pure (wpC_pure h))))
theorem checkResize_ok {a : Addr} {b : List UInt8} {Q : Unit → Shared → Prop} (ho : s.heap.get? a = some (baObj b)) (h : Q () s) : wpC (model prog w) A (Bytes.checkResize (.ref a)) Q E s := by
  unfold Bytes.checkResize
  refine wpC_bind (exports_no ho (wpC_if_false rfl (wpC_pure h)))

theorem ba_init0 {a : Addr} {P : PySem.Fin → Shared → Prop} (ho : s.heap.get? a = some (baObj [])) (h : P (.done (.ret .none)) { s with heap := s.heap.update a (Obj.mapBytearray fun _ => #[]) }) :
    wpC (model prog w) A (Builtin.«bytearray.__init__» ⟨[.ref a], []⟩) P E s := by
  unfold Builtin.«bytearray.__init__»
  refine wpC_seq (ba_ownRelease ho ?_)
  refine wpC_if_false rfl ?_
  refine wpC_bind (wpC_of_eq BA.bind0 ?_)
  refine wpC_bind (wpC_of_eq (a := ()) rfl ?_)
  refine wpC_bind (wpC_of_eq (a := ()) rfl ?_)
  refine wpC_bind (exports_no ho ?_)
  refine wpC_if_false rfl ?_
  refine wpC_seq (wpC_write (c := []) ho rfl (Nat.zero_le _) ?_)
  refine wpC_bind (wpC_of_eq (a := ()) rfl ?_)
  exact wpC_pure h
theorem ba_init1 {a : Addr} {x : List UInt8} {t : Tok} {P : PySem.Fin → Shared → Prop} (ho : s.heap.get? a = some (baObj [])) (hz : x.length ≤ 16777216)
    (h : ∀ h', Keep [a] s.heap h' → h'.get? a = some (baObj x) → h'.objs.size = s.heap.objs.size → P (.done (.ret .none)) { s with heap := h' }) :
    wpC (model prog w) A (Builtin.«bytearray.__init__» ⟨[.ref a, .bytes x.toArray t], []⟩) P E s := by
  unfold Builtin.«bytearray.__init__»
  refine wpC_seq (ba_ownRelease ho ?_)
  refine wpC_if_false rfl ?_
  refine wpC_bind (wpC_of_eq (BA.bind1 _) ?_)
  refine wpC_bind (wpC_of_eq (a := ()) rfl ?_)
  refine wpC_bind (wpC_of_eq (a := ()) rfl ?_)
  refine wpC_bind (exports_no ho ?_)
  refine wpC_if_false rfl ?_
  refine wpC_seq (wpC_write (c := []) ho rfl (Nat.zero_le _) ?_)
  have ho1 : (s.heap.update a (Obj.mapBytearray fun _ => #[])).get? a = some (baObj []) := upd_get ho rfl
  refine wpC_bind (wpC_of_eq (a := none) rfl ?_)
  refine wpC_if_false rfl ?_
  refine wpC_bind (wpC_of_eq (a := ()) rfl ?_)
  refine wpC_seq (wpAny_specialOf (PySem.W.typeIs_bytes _ _ _) BA.bytes_noIndex ?_)
  refine wpC_if_false rfl ?_
  refine wpC_bind (wpC_of_eq KBy.buffer_eq ?_)
  refine wpC_bind (wpC_rule ?_)
  refine wpC_seq (wpC_write (s := ⟨s.heap.update a (Obj.mapBytearray fun _ => #[]), s.gens, s.drawn, s.toks, s.os⟩) (c := x) ho1 rfl hz ?_)
  refine wpC_pure (h _ ?_ (upd_get ho1 rfl) ?_)
  · exact (upd_keep.trans upd_keep).mono (by simp)
  · rw [Heap.size_update, Heap.size_update]
theorem call_ba0 {Q : Value → Shared → Prop} (h : ∀ x h', Keep [] s.heap h' → h'.get? x = some (baObj []) → s.heap.get? x = none → s.heap.objs.size ≤ x → Q (.ref x) { s with heap := h' }) : wpC (model prog w) A (call (.type "bytearray") []) Q E s := by
  refine callTypeC (Q₁ := fun obj s₁ => obj = .ref s.heap.objs.size ∧ s₁ = { s with heap := s.heap.push (baObj []) }) BA.called BA.typeCall0 BA.entry_init (okCode_of (by decide +kernel)) (code_ba_new BA.newCall0 ⟨rfl, rfl⟩) ?_
  rintro obj s₁ ⟨rfl, rfl⟩
  have ho : (s.heap.push (baObj [])).get? s.heap.objs.size = some (baObj []) := Heap.get?_push_size _ rfl
  refine ⟨⟨_, ho, rfl⟩, BA.args_init0 _, ba_init0 (s := ⟨s.heap.push (baObj []), s.gens, s.drawn, s.toks, s.os⟩) ho ⟨rfl, ?_⟩⟩
  refine h _ _ ?_ (upd_get ho rfl) (Heap.get?_none_of_le (Nat.le_refl _)) (Nat.le_refl _)
  intro b o _ e
  refine upd_keep b o ?_ (Heap.get?_push_of_some _ e)
  intro q
  rw [List.mem_singleton.mp q] at e
  exact absurd (Heap.lt_size e) (Nat.lt_irrefl _)
theorem call_ba1 {x : List UInt8} {t : Tok} {Q : Value → Shared → Prop} (hz : x.length ≤ 16777216) (h : ∀ y h', Keep [] s.heap h' → h'.get? y = some (baObj x) → s.heap.get? y = none → s.heap.objs.size ≤ y → Q (.ref y) { s with heap := h' }) : wpC (model prog w) A (call (.type "bytearray") [.bytes x.toArray t]) Q E s := by
  refine callTypeC (Q₁ := fun obj s₁ => obj = .ref s.heap.objs.size ∧ s₁ = { s with heap := s.heap.push (baObj []) }) BA.called (BA.typeCall1 _) BA.entry_init (okCode_of (by decide +kernel)) (code_ba_new (BA.newCall1 _) ⟨rfl, rfl⟩) ?_
  rintro obj s₁ ⟨rfl, rfl⟩
  have ho : (s.heap.push (baObj [])).get? s.heap.objs.size = some (baObj []) := Heap.get?_push_size _ rfl
  refine ⟨⟨_, ho, rfl⟩, BA.args_init1 _ _, ba_init1 (s := ⟨s.heap.push (baObj []), s.gens, s.drawn, s.toks, s.os⟩) ho hz fun h' k1 k2 _ => ⟨rfl, ?_⟩⟩
  refine h _ _ ?_ k2 (Heap.get?_none_of_le (Nat.le_refl _)) (Nat.le_refl _)
  intro b o _ e
  refine k1 b o ?_ (Heap.get?_push_of_some _ e)
  intro q
  rw [List.mem_singleton.mp q] at e
  exact absurd (Heap.lt_size e) (Nat.lt_irrefl _)
end
end Mine
end
section
open PySem PySem.W PySem.Calls PyProof.Rows PyProof.V PySem.Spec PySem.Builtin
set_option Elab.async false
set_option maxRecDepth 100000
namespace Mine
namespace BA
theorem slot_len : Slot "bytearray" "__len__" "bytearray.__len__" :=
  .of (owner := "bytearray") (n := "__len__") (by rw [typeLookup_type, builtinLookup_eq_fast]; kernel_rfl) (by decide +kernel) (by decide +kernel) (by decide +kernel)
    (by first | exact .inl (by decide +kernel) | exact .inr (by decide +kernel)) (by rw [isSubtype_type]; kernel_rfl)
theorem slot_getitem : Slot "bytearray" "__getitem__" "bytearray.__getitem__" :=
  .of (owner := "bytearray") (n := "__getitem__") (by rw [typeLookup_type, builtinLookup_eq_fast]; kernel_rfl) (by decide +kernel) (by decide +kernel) (by decide +kernel)
    (by first | exact .inl (by decide +kernel) | exact .inr (by decide +kernel)) (by rw [isSubtype_type]; kernel_rfl)
theorem slot_setitem : Slot "bytearray" "__setitem__" "bytearray.__setitem__" :=
  .of (owner := "bytearray") (n := "__setitem__") (by rw [typeLookup_type, builtinLookup_eq_fast]; kernel_rfl) (by decide +kernel) (by decide +kernel) (by decide +kernel)
    (by first | exact .inl (by decide +kernel) | exact .inr (by decide +kernel)) (by rw [isSubtype_type]; kernel_rfl)
theorem slot_delitem : Slot "bytearray" "__delitem__" "bytearray.__delitem__" :=
  .of (owner := "bytearray") (n := "__delitem__") (by rw [typeLookup_type, builtinLookup_eq_fast]; kernel_rfl) (by decide +kernel) (by decide +kernel) (by decide +kernel)
    (by first | exact .inl (by decide +kernel) | exact .inr (by decide +kernel)) (by rw [isSubtype_type]; kernel_rfl)
theorem slot_extend : Slot "bytearray" "extend" "bytearray.extend" :=
  .of (owner := "bytearray") (n := "extend") (by rw [typeLookup_type, builtinLookup_eq_fast]; kernel_rfl) (by decide +kernel) (by decide +kernel) (by decide +kernel)
    (by first | exact .inl (by decide +kernel) | exact .inr (by decide +kernel)) (by rw [isSubtype_type]; kernel_rfl)
theorem entry_len : entryFor table "bytearray.__len__" = some Builtin.«bytearray.__len__» := by first | exact entryFor_of_tree (by kernel_rfl) | exact entryFor_of_fast (by kernel_rfl)
theorem entry_getitem : entryFor table "bytearray.__getitem__" = some Builtin.«bytearray.__getitem__» := by first | exact entryFor_of_tree (by kernel_rfl) | exact entryFor_of_fast (by kernel_rfl)
theorem entry_setitem : entryFor table "bytearray.__setitem__" = some Builtin.«bytearray.__setitem__» := by first | exact entryFor_of_tree (by kernel_rfl) | exact entryFor_of_fast (by kernel_rfl)
theorem entry_delitem : entryFor table "bytearray.__delitem__" = some Builtin.«bytearray.__delitem__» := by first | exact entryFor_of_tree (by kernel_rfl) | exact entryFor_of_fast (by kernel_rfl)
theorem entry_extend : entryFor table "bytearray.extend" = some Builtin.«bytearray.extend» := by first | exact entryFor_of_tree (by kernel_rfl) | exact entryFor_of_fast (by kernel_rfl)
theorem args_len (a : Value) : argsOk "bytearray.__len__" ⟨[a], []⟩ := by unfold argsOk; kernel_rfl
theorem args_getitem (a b : Value) : argsOk "bytearray.__getitem__" ⟨[a, b], []⟩ := by unfold argsOk; kernel_rfl
theorem args_setitem (a b c : Value) : argsOk "bytearray.__setitem__" ⟨[a, b, c], []⟩ := by unfold argsOk; kernel_rfl
theorem args_delitem (a b : Value) : argsOk "bytearray.__delitem__" ⟨[a, b], []⟩ := by unfold argsOk; kernel_rfl
theorem args_extend (a b : Value) : argsOk "bytearray.extend" ⟨[a, b], []⟩ := by unfold argsOk; kernel_rfl
end BA
section
variable {prog : Program} {w : World} {A : Around} {E : Value → Shared → Prop} {s : Shared} {a : Addr} {b : List UInt8}
theorem ba_len {Q : Value → Shared → Prop} (ho : s.heap.get? a = some (baObj b)) (hz : b.length ≤ 16777216) (h : ∀ t k, Q (.int (b.length : Int) t) { s with toks := k }) : wpAny (model prog w) A (call (.builtin "len") [.ref a]) Q E s := by
  refine Calls.call_function_entry kind_len plain_len entry_len (args_len1 _) ?_
  unfold Builtin.«len»
  refine wpAny_bind (m := oneArg "len" _) (wpAny_pure ?_)
  refine wpAny_bind (m := callSpecial? (.ref a) (Str.ofString "__len__")) (wpAny_callSpecial?_slot (name := Str.ofString "__len__") (ba_type ho) BA.slot_len
    (wpAny_call_entry BA.slot_len (ba_type ho) BA.entry_len ?_ (BA.args_len _)))
  show wpAny _ _ (slotArgs "__len__" 0 ⟨[.ref a], []⟩ >>= fun r => _) _ _ _
  refine wpAny_bind (wpAny_of_eq (a := (.ref a, [])) rfl ?_)
  refine wpAny_bind (ba_payload ho (wpAny_bind (wpAny_mkInt (wpAny_pure ⟨_, rfl, ?_⟩))))
  refine wpAny_bind (wpAny_holding (wpAny_pure ?_))
  refine wpAny_bind (wpAny_letGo ?_)
  rw [List.size_toArray]
  show wpAny _ _ (if (b.length : Int) < 0 then _ else _) _ _ _
  rw [if_neg (by omega)]
  show wpAny _ _ (if (b.length : Int) ≥ 2 ^ 63 then _ else _) _ _ _
  rw [if_neg (by omega)]
  exact wpAny_bind (wpAny_mkInt (wpAny_pure ⟨_, rfl, h _ _⟩))

theorem ba_parts {i : Addr} {l u : Value} {lo hi : Option Int} {Q : Value × Value × Value → Shared → Prop} (hs : s.heap.IsSliceOf i l u .none) (hl : IsPart l lo) (hu : IsPart u hi)
    (h : Q (rawPart lo, rawPart hi, rawPart none) s) : wpAny (model prog w) A (Bytes.sliceParts (.ref i)) Q E s := by
  obtain ⟨o, ho, hc, hd⟩ := hs
  unfold Bytes.sliceParts
  refine wpAny_bind (wpAny_field (x := .none) ho hd rfl ?_)
  kby_none
  refine wpAny_ite (KBy.ite_no (show ¬ ((Value.none == rawInt 0) = true) from Bool.false_ne_true) ?_)
  refine wpAny_bind (wpAny_field (x := l) ho hd rfl ?_)
  cases hl <;> cases hu <;> (first
    | (kby_none; (refine wpAny_bind (wpAny_field (x := .none) ho hd rfl ?_)); kby_none)
    | (kby_none; (refine wpAny_bind (wpAny_field (x := .int _ _) ho hd rfl ?_)); kby_int)
    | (kby_int; (refine wpAny_bind (wpAny_field (x := .none) ho hd rfl ?_)); kby_none)
    | (kby_int; (refine wpAny_bind (wpAny_field (x := .int _ _) ho hd rfl ?_)); kby_int)) <;> exact wpAny_pure h
theorem ba_indices {lo hi : Option Int} {n : Nat} {Q : Int × Int × Int → Shared → Prop} (h : Q (sliceBounds lo hi none n) s) : wpAny (model prog w) A (sliceIndices (rawPart lo) (rawPart hi) (rawPart none) n) Q E s :=
  wpAny_of_eq (sliceIndices_raw lo hi none n (fun e => nomatch e)) h
theorem ba_noSub {i : Addr} {l u : Value} {Q : Option Int → Shared → Prop} (hs : s.heap.IsSliceOf i l u .none) (h : Q none s) : wpAny (model prog w) A (Bytes.subscript? (.ref i)) Q E s := by
  obtain ⟨o, ho, hc, hd⟩ := hs
  unfold Bytes.subscript?
  exact wpAny_bind (wpAny_specialOf ⟨o, ho, hc⟩ slice_no_index (wpAny_pure h))
theorem slice_type {i : Addr} {l u : Value} (hs : s.heap.IsSliceOf i l u .none) : s.TypeIs (.ref i) "slice" := let ⟨o, ho, hc, _⟩ := hs; ⟨o, ho, hc⟩

theorem ba_get {i : Addr} {l u : Value} {lo hi : Option Int} {Q : Value → Shared → Prop} (ho : s.heap.get? a = some (baObj b)) (hs : s.heap.IsSliceOf i l u .none) (hl : IsPart l lo) (hu : IsPart u hi) (h1 : ∀ k ∈ lo, 0 ≤ k) (h2 : ∀ k ∈ hi, 0 ≤ k) (hz : b.length ≤ 16777216)
    (h : Q (.ref s.heap.objs.size) { s with heap := s.heap.push (baObj (cut b lo hi)) }) : wpAny (model prog w) A (getItem (.ref a) (.ref i)) Q E s := by
  refine wpAny_getItem_slot (ba_type ho) (by decide) BA.slot_getitem (wpAny_call_entry BA.slot_getitem (ba_type ho) BA.entry_getitem ?_ (BA.args_getitem _ _))
  show wpAny _ _ (slotArgs "__getitem__" 1 ⟨[.ref a, .ref i], []⟩ >>= fun r => _) _ _ _
  refine wpAny_bind (wpAny_of_eq (a := (.ref a, [.ref i])) rfl ?_)
  refine wpAny_bind (ba_noSub hs ?_)
  refine wpAny_bind (wpAny_typeOf (slice_type hs) ?_)
  refine bm_if_false (by decide) ?_
  refine wpAny_bind (ba_parts hs hl hu ?_)
  refine wpAny_bind (ba_payload ho ?_)
  rw [List.size_toArray]
  refine wpAny_bind (ba_indices ?_)
  have e : Bytes.sliced b.toArray (sliceBounds lo hi none b.length).1 (sliceBounds lo hi none b.length).2.1 (sliceBounds lo hi none b.length).2.2 = (cut b lo hi).toArray := by
    have := cut_of (x := b) h1 h2
    unfold KBy.picked at this
    rwa [List.size_toArray] at this
  show wpAny _ _ (Bytes.newBytearray (Bytes.sliced b.toArray (sliceBounds lo hi none b.length).1 (sliceBounds lo hi none b.length).2.1 (sliceBounds lo hi none b.length).2.2) >>= fun v => ret v) _ _ _
  rw [e]
  unfold Bytes.newBytearray
  refine wpAny_bind (wpAny_newObj_type (wpAny_pure ⟨_, rfl, h⟩) ?_)
  show (cut b lo hi).toArray.size ≤ sizeLine
  rw [List.size_toArray, sizeLine_eq]
  unfold cut
  rw [List.length_take, List.length_drop]
  omega

theorem callSpecialC {T : String} {name : Str} {id : String} {B : Builtin} {self : Value} {args : List Value} {Q : Option Value → Shared → Prop} (hT : s.TypeIs self T) (slot : Slot T name id) (hk : dirtyIds.contains id = false) (entry : entryFor table id = some B) (ha : argsOk id ⟨self :: args, []⟩)
    (h : wpC (model prog w) A.in1 (B ⟨self :: args, []⟩) (fun fin s' => ∃ r, fin = .done (.ret r) ∧ Q (some r) s') E s) : wpC (model prog w) A (callSpecial? self name args) Q E s := by
  unfold callSpecial?
  refine wpC_seq (wpAny_specialOf hT slot.lookup ?_)
  refine wpC_holding (wpC_bind (wpC_of_eq (slot.bind self) ?_))
  refine wpC_bind (wpC_call (codeC_call_builtin slot.plain (okCode_of hk _) entry (slot.check _ _ _ _ _ _ _ _ hT ha (wpC_mono h (fun fin s' y => ?_) fun _ _ y => y))))
  obtain ⟨r, rfl, q⟩ := y
  exact wpC_pure q
theorem setItemC {o i v : Value} {T id : String} {B : Builtin} {Q : Unit → Shared → Prop} (hT : s.TypeIs o T) (hn : seqItemTypes.contains T = false) (slot : Slot T "__setitem__" id) (hk : dirtyIds.contains id = false) (entry : entryFor table id = some B) (ha : argsOk id ⟨[o, i, v], []⟩)
    (h : wpC (model prog w) A.in1 (B ⟨[o, i, v], []⟩) (fun fin s' => ∃ r, fin = .done (.ret r) ∧ Q () s') E s) : wpC (model prog w) A (setItem o i v) Q E s := by
  unfold setItem
  refine wpC_holding (wpC_seq (wpAny_sequenceKey hT hn ?_))
  refine wpC_bind (callSpecialC hT slot hk entry ha (wpC_mono h (fun fin s' y => ?_) fun _ _ y => y))
  obtain ⟨r, rfl, q⟩ := y
  exact ⟨r, rfl, wpC_pure q⟩
theorem delItemC {o i : Value} {T id : String} {B : Builtin} {Q : Unit → Shared → Prop} (hT : s.TypeIs o T) (hn : seqItemTypes.contains T = false) (slot : Slot T "__delitem__" id) (hk : dirtyIds.contains id = false) (entry : entryFor table id = some B) (ha : argsOk id ⟨[o, i], []⟩)
    (h : wpC (model prog w) A.in1 (B ⟨[o, i], []⟩) (fun fin s' => ∃ r, fin = .done (.ret r) ∧ Q () s') E s) : wpC (model prog w) A (delItem o i) Q E s := by
  unfold delItem
  refine wpC_holding (wpC_seq (wpAny_sequenceKey hT hn ?_))
  refine wpC_bind (callSpecialC hT slot hk entry ha (wpC_mono h (fun fin s' y => ?_) fun _ _ y => y))
  obtain ⟨r, rfl, q⟩ := y
  exact ⟨r, rfl, wpC_pure q⟩
theorem take_bytes {id : String} {x : Array UInt8} {t : Tok} : Bytes.takeBufferQuiet? id (.bytes x t) 0 = pure (some (x, none)) := by
  unfold Bytes.takeBufferQuiet? Bytes.takeBuffer?
  rw [KBy.special_eq KBy.look_buffer, KBy.own_buffer]
  show ((Bytes.buffer? id (.bytes x t) (0 == Bytes.fullReadOnly) >>= fun r => pure (r.map (·, none))).attempt >>= _) = _
  rw [show ((0 : Int) == Bytes.fullReadOnly) = false from rfl, KBy.buffer_eq]
  rfl
theorem call_extend {x : List UInt8} {t : Tok} {Q : Value → Shared → Prop} (ho : s.heap.get? a = some (baObj b)) (hz : b.length + x.length ≤ 16777216)
    (h : ∀ h', Keep [a] s.heap h' → h'.get? a = some (baObj (b ++ x)) → Q .none { s with heap := h' }) : wpC (model prog w) A (call (.builtin "bytearray.extend") [.ref a, .bytes x.toArray t]) Q E s := by
  refine wpC_call (codeC_call_builtin BA.slot_extend.plain (okCode_of (by decide +kernel) _) BA.entry_extend (BA.slot_extend.check _ _ _ _ _ _ _ _ (ba_type ho) (BA.args_extend _ _) ?_))
  unfold Builtin.«bytearray.extend»
  refine wpC_bind (wpC_of_eq (a := (.ref a, .bytes x.toArray t)) rfl ?_)
  refine wpC_bind (wpC_of_eq (KBy.special_eq KBy.look_buffer) ?_)
  refine wpC_if_true rfl ?_
  refine wpC_bind (wpC_rule ?_)
  refine wpC_seq (ba_payload ho ?_)
  refine wpC_bind (wpC_of_eq take_bytes ?_)
  refine wpC_if_true rfl ?_
  have hf : b.toArray ++ x.toArray = (b ++ x).toArray := List.append_toArray _ _
  have fin : wpC (model prog w) A.in1 (Bytes.write (.ref a) (· ++ x.toArray) >>= fun _ => ret Value.none) (fun fin s' => match fin with | .done f => (match (Except.ok f : Result) with | .ok (.ret v) => Q v s' | .ok _ => False | .error e => E e s') | .again c' => c'.quiet = true ∧ okCode c' = true ∧ codeC (model prog w) A c' (fun r s' => match r with | .ok (.ret v) => Q v s' | .ok _ => False | .error e => E e s') s') (fun e s' => E e s') s :=
    wpC_seq (wpC_write (c := b ++ x) ho hf (by rw [List.length_append]; exact hz) (wpC_pure (h _ upd_keep (upd_get ho hf))))
  show wpC _ _ (if (!x.toArray.isEmpty) = true then _ else _) _ _ _
  cases hx : (!x.toArray.isEmpty) with
  | true => exact wpC_if_true rfl (wpC_bind (checkResize_ok ho fin))
  | false => exact wpC_if_false rfl fin
end
end Mine
end
section
open PySem PySem.W PySem.Calls PyProof.Rows PyProof.V PySem.Spec PySem.Builtin
set_option Elab.async false
set_option maxRecDepth 100000
namespace Mine
def putAt (b : List UInt8) (i : Nat) (x : List UInt8) : List UInt8 := b.take i ++ x ++ b.drop (i + x.length)
namespace BA
theorem bytes_noInt : typeLookup (.type "bytes") "__int__" = pure none := by rw [typeLookup_type, builtinLookup_eq_fast]; kernel_rfl
theorem bytes_noFloat : typeLookup (.type "bytes") "__float__" = pure none := by rw [typeLookup_type, builtinLookup_eq_fast]; kernel_rfl
theorem sub_bytes_ba : isSubtype (.type "bytes") (.type "bytearray") = pure false := by rw [isSubtype_type]; kernel_rfl
theorem sub_bytes_cx : isSubtype (.type "bytes") (.type "complex") = pure false := by rw [isSubtype_type]; kernel_rfl
end BA
theorem isSlice_keep {h h' : Heap} {i : Addr} {l u : Value} {as : List Addr} (k : Keep as h h') (hi : i ∉ as) (hs : h.IsSliceOf i l u .none) : h'.IsSliceOf i l u .none := let ⟨o, ho, r⟩ := hs; ⟨o, k i o hi ho, r⟩
section
variable {prog : Program} {w : World} {A : Around} {E : Value → Shared → Prop} {s : Shared} {a : Addr} {b : List UInt8}
theorem ba_setitem {i : Addr} {k e : Int} {tk te : Tok} {x : List UInt8} {t : Tok} {P : PySem.Fin → Shared → Prop} (ho : s.heap.get? a = some (baObj b)) (hs : s.heap.IsSliceOf i (.int k tk) (.int e te) .none) (h0 : 0 ≤ k) (he : e = k + x.length) (hk : k ≤ b.length) (hz : b.length + x.length ≤ 16777216)
    (h : ∀ h', Keep [a] s.heap h' → h'.get? a = some (baObj (putAt b k.toNat x)) → P (.done (.ret .none)) { s with heap := h' }) :
    wpC (model prog w) A (Builtin.«bytearray.__setitem__» ⟨[.ref a, .ref i, .bytes x.toArray t], []⟩) P E s := by
  have hia : i ≠ a := fun q => by
    obtain ⟨o, h1, h2, _⟩ := hs
    rw [q, ho] at h1
    cases h1
    have h3 : Value.type "bytearray" = Value.type "slice" := h2
    exact absurd h3 (by decide)
  unfold Builtin.«bytearray.__setitem__»
  refine wpC_if_false rfl ?_
  refine wpC_seq (ba_noSub hs ?_)
  refine wpC_seq (wpAny_typeOf (slice_type hs) ?_)
  refine wpC_if_false (by decide) ?_
  refine wpC_seq (ba_parts hs (.int _ _) (.int _ _) ?_)
  refine wpC_if_false rfl ?_
  refine wpC_seq (wpAny_isInstance (PySem.W.typeIs_bytes _ _ _) BA.sub_bytes_ba ?_)
  refine wpC_if_true rfl ?_
  have hv : ∀ s' : Shared, s'.TypeIs (.bytes x.toArray t) "bytes" := fun s' => PySem.W.typeIs_bytes s' _ _
  have hno : (do
      let has (name : Str) : Sem Bool := do return (← specialOf (.bytes x.toArray t) name).isSome
      has "__index__" <||> has "__int__" <||> has "__float__" <||> isInstance (.bytes x.toArray t) (.type "complex") : Sem Bool) = pure false := by
    simp only [KBy.special_eq BA.bytes_noIndex, KBy.special_eq BA.bytes_noInt, KBy.special_eq BA.bytes_noFloat]
    show isInstance (.bytes x.toArray t) (.type "complex") = pure false
    have e : isInstance (.bytes x.toArray t) (.type "complex") = isSubtype (.type "bytes") (.type "complex") := rfl
    rw [e, BA.sub_bytes_cx]
  refine wpC_bind (wpC_of_eq hno ?_)
  refine wpC_bind (wpC_of_eq (a := none) rfl ?_)
  refine wpC_if_false rfl ?_
  refine wpC_bind (wpC_rule ?_)
  refine wpC_bind (call_ba1 (by omega) fun y h₁ k1 hy hyn hyl => ?_)
  have hs1 := isSlice_keep k1 (List.not_mem_nil) hs
  have ho1 : h₁.get? a = some (baObj b) := k1 _ _ (List.not_mem_nil) ho
  refine wpC_seq (wpAny_holding (ba_parts (s := ⟨h₁, s.gens, s.drawn, s.toks, s.os⟩) hs1 (.int _ _) (.int _ _) ?_))
  refine wpC_seq (ba_payload (s := ⟨h₁, s.gens, s.drawn, s.toks, s.os⟩) hy ?_)
  refine wpC_seq (ba_payload (s := ⟨h₁, s.gens, s.drawn, s.toks, s.os⟩) ho1 ?_)
  rw [List.size_toArray]
  refine wpC_seq (ba_indices (lo := some k) (hi := some e) ?_)
  rw [sliceBounds_plain]
  have c1 : clipAt b.length k = k.toNat := by rw [clip_nn h0]; exact Nat.min_eq_left (Int.toNat_le.mpr hk)
  have c2 : clipAt b.length e = Min.min (k.toNat + x.length) b.length := by rw [clip_nn (by rw [he]; exact Int.add_nonneg h0 (Int.natCast_nonneg _)), he, Int.toNat_add_nat h0]
  simp only [Option.elim, c1, c2]
  refine wpC_if_true rfl ?_
  refine wpC_bind (wpC_rule ?_)
  have hf : (b.toArray.extract 0 (k.toNat : Int).toNat ++ x.toArray ++ b.toArray.extract (Max.max (k.toNat : Int) ((Min.min (k.toNat + x.length) b.length : Nat) : Int)).toNat b.toArray.size) = (putAt b k.toNat x).toArray := by
    apply Array.toList_inj.mp
    simp only [Array.toList_append, Array.toList_extract, putAt]
    have m : (Max.max (k.toNat : Int) ((Min.min (k.toNat + x.length) b.length : Nat) : Int)).toNat = Min.min (k.toNat + x.length) b.length := by omega
    rw [m]
    simp only [List.extract_eq_take_drop, List.drop_zero, Nat.sub_zero, Int.toNat_natCast]
    congr 1
    by_cases q : k.toNat + x.length ≤ b.length
    · rw [Nat.min_eq_left q, List.take_of_length_le]
      simp
    · rw [Nat.min_eq_right (by omega), List.drop_eq_nil_of_le (by omega), List.drop_eq_nil_of_le (by omega)]
      simp
  have hl : (putAt b k.toNat x).length ≤ 16777216 := by
    unfold putAt
    simp only [List.length_append, List.length_take, List.length_drop]
    omega
  have fin : wpC (model prog w) A (Bytes.write (.ref a) (fun z => z.extract 0 (k.toNat : Int).toNat ++ x.toArray ++ z.extract (Max.max (k.toNat : Int) ((Min.min (k.toNat + x.length) b.length : Nat) : Int)).toNat z.size) >>= fun _ => ret Value.none) P E ⟨h₁, s.gens, s.drawn, s.toks, s.os⟩ :=
    wpC_seq (wpC_write (s := ⟨h₁, s.gens, s.drawn, s.toks, s.os⟩) ho1 hf hl (wpC_pure (h _ ((k1.trans upd_keep).mono (by simp)) (upd_get ho1 hf))))
  cases hx : ((x.toArray.size : Int) != Max.max (k.toNat : Int) ((Min.min (k.toNat + x.length) b.length : Nat) : Int) - (k.toNat : Int)) with
  | true => exact wpC_if_true rfl (wpC_bind (checkResize_ok (s := ⟨h₁, s.gens, s.drawn, s.toks, s.os⟩) ho1 fin))
  | false => exact wpC_if_false rfl fin
end
end Mine
end
section
open PySem PySem.W PySem.Calls PyProof.Rows PyProof.V
set_option Elab.async false
set_option linter.unusedVariables false
namespace Mine
theorem rm1 {dp a c : Nat} (h : dp + c < recursionLimit) (q : Nat.ble a c = true) : dp + a < recursionLimit :=
  Nat.lt_of_le_of_lt (Nat.add_le_add_left (Nat.le_of_ble_eq_true q) dp) h
theorem rm0 {dp c : Nat} (h : dp + c < recursionLimit) : dp < recursionLimit := Nat.lt_of_le_of_lt (Nat.le_add_right _ _) h
theorem rm2 {dp a b c : Nat} (h : dp + c < recursionLimit) (q : Nat.ble (a + b) c = true) : dp + a + b < recursionLimit := by
  rw [Nat.add_assoc]; exact rm1 h q
theorem rm3 {dp a b d c : Nat} (h : dp + c < recursionLimit) (q : Nat.ble (a + b + d) c = true) : dp + a + b + d < recursionLimit := by
  rw [Nat.add_assoc, Nat.add_assoc]; exact rm1 h (by rw [← q, Nat.add_assoc])
theorem rm4 {dp a b d e c : Nat} (h : dp + c < recursionLimit) (q : Nat.ble (a + b + d + e) c = true) : dp + a + b + d + e < recursionLimit := by
  rw [Nat.add_assoc dp a b, Nat.add_assoc dp, Nat.add_assoc dp]; exact rm1 h q
theorem le_up {a n m : Nat} (h : a ≤ n) (q : Nat.ble n m = true) : a ≤ m := Nat.le_trans h (Nat.le_of_ble_eq_true q)
theorem ge_dn {a n m : Nat} (h : n ≤ a) (q : Nat.ble m n = true) : m ≤ a := Nat.le_trans (Nat.le_of_ble_eq_true q) h
theorem sz_up {l : List UInt8} {n m : Nat} (h : l.length ≤ n) (q : Nat.ble n m = true) : l.length ≤ m := le_up h q
theorem cut_le_len (x : List UInt8) (a b : Option Int) : (cut x a b).length ≤ x.length := by
  unfold cut; rw [List.length_take, List.length_drop]; exact Nat.le_trans (Nat.min_le_right _ _) (Nat.sub_le _ _)
theorem sz_cut {x : List UInt8} {a b : Option Int} {n : Nat} (h : x.length ≤ n) : (cut x a b).length ≤ n := Nat.le_trans (cut_le_len x a b) h
theorem sz_cut4 {x : List UInt8} {a : Int} : (cut x (some a) (some (a + 4))).length ≤ 4 := by
  have h : (a + 4).toNat ≤ a.toNat + 4 := Int.toNat_le.mpr (Int.add_le_add_right (Int.self_le_toNat a) 4)
  exact Nat.le_trans (List.length_take_le _ _) (Nat.sub_le_iff_le_add'.mpr h)
theorem sz_cutn4 {x : List UInt8} : (cut x none (some 4)).length ≤ 4 := List.length_take_le _ _
theorem sz_app {x y : List UInt8} {p q : Nat} (h : x.length ≤ p) (k : y.length ≤ q) : (x ++ y).length ≤ p + q := by
  rw [List.length_append]; exact Nat.add_le_add h k
theorem sz_cons {v : UInt8} {l : List UInt8} {n : Nat} (h : l.length ≤ n) : (v :: l).length ≤ n + 1 := Nat.succ_le_succ h
theorem sz_nil : ([] : List UInt8).length ≤ 0 := Nat.le_refl _
theorem sz_be4 {x : Int} : (be4 x).length ≤ 4 := Nat.le_refl _
theorem sz_eq {l : List UInt8} {n : Nat} (h : l.length = n) : l.length ≤ n := Nat.le_of_eq h
theorem sz_take {x : List UInt8} {k n : Nat} (h : x.length ≤ n) : (x.take k).length ≤ n := by rw [List.length_take]; exact Nat.le_trans (Nat.min_le_right _ _) h
theorem sz_drop {x : List UInt8} {k n : Nat} (h : x.length ≤ n) : (x.drop k).length ≤ n := by rw [List.length_drop]; exact Nat.le_trans (Nat.sub_le _ _) h
theorem sz_cut24 {x : List UInt8} : (cut x (some 0) (some (0 + 24))).length ≤ 24 := List.length_take_le _ _
theorem max0_nat (x : Int) : (max 0 x).toNat = x.toNat := by
  rcases Int.le_total 0 x with h | h
  · rw [Int.max_eq_right h]
  · rw [Int.max_eq_left h, Int.toNat_eq_zero.mpr h]; rfl
theorem sz_repmax {k : Int} {n : Nat} {v : UInt8} (h : k ≤ 1048576) : (List.replicate (max 0 (k - (n : Int))).toNat v).length ≤ 1048576 := by
  rw [List.length_replicate, max0_nat]
  exact Int.toNat_le.mpr (Int.le_trans (Int.sub_le_self _ (Int.natCast_nonneg n)) h)
theorem sub_step {i n : Nat} (h : i < n) : n - i = (n - (i + 1)) + 1 := by omega
theorem sz_tail {x : List UInt8} {sp ze : Int} (h0 : 0 ≤ ze) (h1 : 0 ≤ sp) : (cut (cut x (some sp) (some (sp + ze + 8))) (some (4 + ze)) none).length ≤ 4 := by
  have a : (cut x (some sp) (some (sp + ze + 8))).length ≤ (sp + ze + 8).toNat - sp.toNat := List.length_take_le _ _
  have b : (cut (cut x (some sp) (some (sp + ze + 8))) (some (4 + ze)) none).length ≤ (cut x (some sp) (some (sp + ze + 8))).length - (4 + ze).toNat := List.length_take_le _ _
  generalize (cut x (some sp) (some (sp + ze + 8))).length = p at a b
  generalize (cut (cut x (some sp) (some (sp + ze + 8))) (some (4 + ze)) none).length = q at b
  omega
theorem toNat_add' {k : Int} {n : Nat} (h : 0 ≤ k) : (k + (n : Int)).toNat = k.toNat + n := Int.toNat_add_nat h n
theorem sz_sum {x y : List UInt8} {p q m : Nat} (h : x.length ≤ p) (k : y.length ≤ q) (c : Nat.ble (p + q) m = true) : x.length + y.length ≤ m := Nat.le_trans (Nat.add_le_add h k) (Nat.le_of_ble_eq_true c)
theorem putB_sz {b x : List UInt8} {k : Nat} {p q : Nat} (h : b.length ≤ p) (hx : x.length ≤ q) : (putAt b k x).length ≤ p + q + p := by
  unfold putAt; exact sz_app (sz_app (sz_take h) hx) (sz_drop h)
section
variable {za zb zc ze : Int} {n : Nat} {P : Prop}
theorem hb1 (h : 0 ≤ za ∧ za < 4294967296 ∧ 0 ≤ zb ∧ zb < 4294967296 ∧ 0 ≤ zc ∧ zc < 4294967296 ∧ 64 ≤ ze ∧ ze ≤ 32768 ∧ 24 ≤ n ∧ P) : 0 ≤ za := h.1
theorem hb2 (h : 0 ≤ za ∧ za < 4294967296 ∧ 0 ≤ zb ∧ zb < 4294967296 ∧ 0 ≤ zc ∧ zc < 4294967296 ∧ 64 ≤ ze ∧ ze ≤ 32768 ∧ 24 ≤ n ∧ P) : za < 4294967296 := h.2.1
theorem hb3 (h : 0 ≤ za ∧ za < 4294967296 ∧ 0 ≤ zb ∧ zb < 4294967296 ∧ 0 ≤ zc ∧ zc < 4294967296 ∧ 64 ≤ ze ∧ ze ≤ 32768 ∧ 24 ≤ n ∧ P) : 0 ≤ zb := h.2.2.1
theorem hb4 (h : 0 ≤ za ∧ za < 4294967296 ∧ 0 ≤ zb ∧ zb < 4294967296 ∧ 0 ≤ zc ∧ zc < 4294967296 ∧ 64 ≤ ze ∧ ze ≤ 32768 ∧ 24 ≤ n ∧ P) : zb < 4294967296 := h.2.2.2.1
theorem hb5 (h : 0 ≤ za ∧ za < 4294967296 ∧ 0 ≤ zb ∧ zb < 4294967296 ∧ 0 ≤ zc ∧ zc < 4294967296 ∧ 64 ≤ ze ∧ ze ≤ 32768 ∧ 24 ≤ n ∧ P) : 0 ≤ zc := h.2.2.2.2.1
theorem hb6 (h : 0 ≤ za ∧ za < 4294967296 ∧ 0 ≤ zb ∧ zb < 4294967296 ∧ 0 ≤ zc ∧ zc < 4294967296 ∧ 64 ≤ ze ∧ ze ≤ 32768 ∧ 24 ≤ n ∧ P) : zc < 4294967296 := h.2.2.2.2.2.1
theorem hb7 (h : 0 ≤ za ∧ za < 4294967296 ∧ 0 ≤ zb ∧ zb < 4294967296 ∧ 0 ≤ zc ∧ zc < 4294967296 ∧ 64 ≤ ze ∧ ze ≤ 32768 ∧ 24 ≤ n ∧ P) : 64 ≤ ze := h.2.2.2.2.2.2.1
theorem hb8 (h : 0 ≤ za ∧ za < 4294967296 ∧ 0 ≤ zb ∧ zb < 4294967296 ∧ 0 ≤ zc ∧ zc < 4294967296 ∧ 64 ≤ ze ∧ ze ≤ 32768 ∧ 24 ≤ n ∧ P) : ze ≤ 32768 := h.2.2.2.2.2.2.2.1
theorem hb9 (h : 0 ≤ za ∧ za < 4294967296 ∧ 0 ≤ zb ∧ zb < 4294967296 ∧ 0 ≤ zc ∧ zc < 4294967296 ∧ 64 ≤ ze ∧ ze ≤ 32768 ∧ 24 ≤ n ∧ P) : 24 ≤ n := h.2.2.2.2.2.2.2.2.1
theorem hb7a (h : 0 ≤ za ∧ za < 4294967296 ∧ 0 ≤ zb ∧ zb < 4294967296 ∧ 0 ≤ zc ∧ zc < 4294967296 ∧ 64 ≤ ze ∧ ze ≤ 32768 ∧ 24 ≤ n ∧ P) : 0 ≤ ze := by omega
theorem hb7b (h : 0 ≤ za ∧ za < 4294967296 ∧ 0 ≤ zb ∧ zb < 4294967296 ∧ 0 ≤ zc ∧ zc < 4294967296 ∧ 64 ≤ ze ∧ ze ≤ 32768 ∧ 24 ≤ n ∧ P) : 0 ≤ ze + 8 := by omega
theorem hb7c (h : 0 ≤ za ∧ za < 4294967296 ∧ 0 ≤ zb ∧ zb < 4294967296 ∧ 0 ≤ zc ∧ zc < 4294967296 ∧ 64 ≤ ze ∧ ze ≤ 32768 ∧ 24 ≤ n ∧ P) : 0 ≤ 4 + ze := by omega
theorem hb1a (h : 0 ≤ za ∧ za < 4294967296 ∧ 0 ≤ zb ∧ zb < 4294967296 ∧ 0 ≤ zc ∧ zc < 4294967296 ∧ 64 ≤ ze ∧ ze ≤ 32768 ∧ 24 ≤ n ∧ P) : -18446744073709551616 < za := by omega
theorem hb1b (h : 0 ≤ za ∧ za < 4294967296 ∧ 0 ≤ zb ∧ zb < 4294967296 ∧ 0 ≤ zc ∧ zc < 4294967296 ∧ 64 ≤ ze ∧ ze ≤ 32768 ∧ 24 ≤ n ∧ P) : za < 18446744073709551616 := by omega
theorem hb1c (h : 0 ≤ za ∧ za < 4294967296 ∧ 0 ≤ zb ∧ zb < 4294967296 ∧ 0 ≤ zc ∧ zc < 4294967296 ∧ 64 ≤ ze ∧ ze ≤ 32768 ∧ 24 ≤ n ∧ P) : -2 ^ 61 ≤ za := by omega
theorem hb1d (h : 0 ≤ za ∧ za < 4294967296 ∧ 0 ≤ zb ∧ zb < 4294967296 ∧ 0 ≤ zc ∧ zc < 4294967296 ∧ 64 ≤ ze ∧ ze ≤ 32768 ∧ 24 ≤ n ∧ P) : za < 2 ^ 61 := by omega
theorem hb5a (h : 0 ≤ za ∧ za < 4294967296 ∧ 0 ≤ zb ∧ zb < 4294967296 ∧ 0 ≤ zc ∧ zc < 4294967296 ∧ 64 ≤ ze ∧ ze ≤ 32768 ∧ 24 ≤ n ∧ P) : -18446744073709551616 < zc := by omega
theorem hb5b (h : 0 ≤ za ∧ za < 4294967296 ∧ 0 ≤ zb ∧ zb < 4294967296 ∧ 0 ≤ zc ∧ zc < 4294967296 ∧ 64 ≤ ze ∧ ze ≤ 32768 ∧ 24 ≤ n ∧ P) : zc < 18446744073709551616 := by omega
theorem hb1n (h : 0 ≤ za ∧ za < 4294967296 ∧ 0 ≤ zb ∧ zb < 4294967296 ∧ 0 ≤ zc ∧ zc < 4294967296 ∧ 64 ≤ ze ∧ ze ≤ 32768 ∧ 24 ≤ n ∧ P) : za = (za.toNat : Int) := (Int.toNat_of_nonneg h.1).symm
end
theorem pg_lo {p : Int} (h : 0 ≤ p ∧ p < 4294967296) : -18446744073709551616 < p - 1 := by omega
theorem pg_hi {p : Int} (h : 0 ≤ p ∧ p < 4294967296) : p - 1 < 18446744073709551616 := by omega
theorem at_in1 {p pc A : Int} (h : p < 1 ∨ 7 < p ∨ (0 ≤ A ∧ A ≤ 196608)) (h1 : 1 ≤ p) (h2 : p ≤ pc) (h7 : pc ≤ 7) : 0 ≤ A := by omega
theorem at_in2 {p pc A : Int} {N : Int} (h : p < 1 ∨ 7 < p ∨ (0 ≤ A ∧ A ≤ 196608)) (h1 : 1 ≤ p) (h2 : p ≤ pc) (h7 : pc ≤ 7) (q : decide (196608 ≤ N) = true) : A ≤ N :=
  Int.le_trans (by omega) (of_decide_eq_true q)
theorem nn4 {A B : Int} (h : 0 ≤ A) (k : 0 ≤ B) : 0 ≤ 24 + A + B := by omega
theorem nn2 {A : Int} (h : 0 ≤ A) : 0 ≤ 24 + A := by omega
theorem nn3 {sp A B : Int} (e : sp = 24 + A) (h : 0 ≤ A) (k : 0 ≤ B) : 0 ≤ sp + B + 8 := by omega
theorem nn5 {sp A : Int} (e : sp = 24 + A) (h : 0 ≤ A) : 0 ≤ sp := by omega
theorem nn6 {sp A : Int} (e : sp = 24 + A) (h : 0 ≤ A) : 24 ≤ sp := by omega
end Mine
namespace Mine
def stores : List (Str × Option Value) → (Str → Option Value) → Str → Option Value
  | [], m => m
  | p :: r, m => fun y => if y = p.1 then p.2 else stores r m y
def agree : List Str → (Str → Option Value) → (Str → Option Value) → Prop
  | [], _, _ => True
  | n :: r, f, g => f n = g n ∧ agree r f g
def covers (ns : List Str) (ss : List (Str × Option Value)) : Bool := ss.all fun p => ns.any fun n => decide (n = p.1)
theorem stores_off {m : Str → Option Value} {y : Str} : ∀ {ss : List (Str × Option Value)}, (∀ p ∈ ss, y ≠ p.1) → stores ss m y = m y
  | [], _ => rfl
  | p :: r, h => by
    show (if y = p.1 then p.2 else stores r m y) = m y
    rw [if_neg (h p (.head _))]; exact stores_off fun q hq => h q (.tail _ hq)
theorem agree_at {f g : Str → Option Value} {y : Str} : ∀ {ns : List Str}, agree ns f g → y ∈ ns → f y = g y
  | _ :: _, h, m => (List.mem_cons.mp m).elim (fun e => e ▸ h.1) (fun m => agree_at h.2 m)
theorem covers_in {ns : List Str} {ss : List (Str × Option Value)} (h : covers ns ss = true) {y : Str} (n : y ∉ ns) : ∀ p ∈ ss, y ≠ p.1 := fun p hp e => by
  obtain ⟨k, hk, q⟩ := List.any_eq_true.mp (List.all_eq_true.mp h p hp)
  exact n (by rw [e, ← of_decide_eq_true q]; exact hk)
theorem st_end {m : Str → Option Value} : m = stores [] m := rfl
theorem st_step {x : Str} {o : Option Value} {g m : Str → Option Value} {ss : List (Str × Option Value)} (h : g = stores ss m) : (fun y => if y = x then o else g y) = stores ((x, o) :: ss) m := by rw [h]; rfl
theorem st_meet {f g m : Str → Option Value} {ss tt : List (Str × Option Value)} {ns : List Str} (a : f = stores ss m) (b : g = stores tt m) (c : (covers ns ss && covers ns tt) = true) (h : agree ns (stores ss m) (stores tt m)) : f = g := by
  rw [a, b]
  funext y
  rw [Bool.and_eq_true] at c
  by_cases q : y ∈ ns
  · exact agree_at h q
  · rw [stores_off (covers_in c.1 q), stores_off (covers_in c.2 q)]
end Mine
end
section
open PySem PySem.W PySem.Calls PyProof.Rows PyProof.V PySem.Spec
set_option Elab.async false
set_option maxRecDepth 100000
namespace Mine
theorem del_list {k n : Nat} : ∀ (l : List UInt8) (o : Nat), o + l.length ≤ n → ((l.zipIdx o).filterMap fun (x, j) => if Builtin.Bytes.selects (k : Int) (n : Int) 1 j then none else some x) = l.take (k - o)
  | [], _, _ => by simp
  | c :: r, o, h => by
    rw [List.zipIdx_cons, List.filterMap_cons]
    have ih := del_list (k := k) (n := n) r (o + 1) (by rw [List.length_cons] at h; omega)
    have hs : Builtin.Bytes.selects (k : Int) (n : Int) 1 o = decide (k ≤ o) := by
      unfold Builtin.Bytes.selects
      rw [if_pos (by decide)]
      have h2 : (o : Int) < n := by rw [List.length_cons] at h; omega
      have h3 : (((o : Int) - (k : Int)) % 1 == 0) = true := by simp [Int.emod_one]
      rw [h3, Bool.and_true, decide_eq_true h2, Bool.and_true]
      by_cases q : k ≤ o
      · rw [decide_eq_true q, decide_eq_true (by omega)]
      · rw [decide_eq_false q, decide_eq_false (by omega)]
    dsimp only
    rw [hs, ih]
    by_cases q : k ≤ o
    · rw [decide_eq_true q]
      simp only [if_true]
      rw [show k - o = 0 by omega, show k - (o + 1) = 0 by omega]
      simp
    · rw [decide_eq_false q]
      simp only [Bool.false_eq_true, if_false]
      rw [show k - o = (k - (o + 1)) + 1 by omega, List.take_succ_cons]
section
variable {prog : Program} {w : World} {A : Around} {E : Value → Shared → Prop} {s : Shared} {a : Addr} {b : List UInt8}
theorem ba_delitem {i : Addr} {k : Int} {tk : Tok} {P : PySem.Fin → Shared → Prop} (ho : s.heap.get? a = some (baObj b)) (hs : s.heap.IsSliceOf i (.int k tk) .none .none) (h0 : 0 ≤ k) (hk : k ≤ b.length) (hz : b.length ≤ 16777216)
    (h : ∀ h', Keep [a] s.heap h' → h'.get? a = some (baObj (b.take k.toNat)) → P (.done (.ret .none)) { s with heap := h' }) :
    wpC (model prog w) A (Builtin.«bytearray.__delitem__» ⟨[.ref a, .ref i], []⟩) P E s := by
  unfold Builtin.«bytearray.__delitem__»
  refine wpC_bind (wpC_of_eq (a := (.ref a, [.ref i])) rfl ?_)
  refine wpC_seq (ba_noSub hs ?_)
  refine wpC_seq (wpAny_typeOf (slice_type hs) ?_)
  refine wpC_if_false (by decide) ?_
  refine wpC_seq (ba_parts hs (.int _ _) .none ?_)
  refine wpC_seq (ba_payload ho ?_)
  rw [List.size_toArray]
  refine wpC_seq (ba_indices (lo := some k) (hi := none) ?_)
  rw [sliceBounds_plain]
  have c1 : clipAt b.length k = k.toNat := by rw [clip_nn h0]; exact Nat.min_eq_left (Int.toNat_le.mpr hk)
  simp only [Option.elim, c1]
  refine wpC_bind (wpC_rule ?_)
  have hf : ((b.toArray.toList.zipIdx.filterMap fun (x, j) => if Builtin.Bytes.selects (k.toNat : Int) (b.length : Int) 1 j then none else some x).toArray) = (b.take k.toNat).toArray := by
    have := del_list (k := k.toNat) (n := b.length) b 0 (by omega)
    rw [Nat.sub_zero] at this
    show ((b.zipIdx 0).filterMap _).toArray = _
    rw [this]
  have fin : wpC (model prog w) A (Builtin.Bytes.write (.ref a) (fun z => (z.toList.zipIdx.filterMap fun (x, j) => if Builtin.Bytes.selects (k.toNat : Int) (b.length : Int) 1 j then none else some x).toArray) >>= fun _ => ret Value.none) P E s :=
    wpC_seq (wpC_write ho hf (by rw [List.length_take]; omega) (wpC_pure (h _ upd_keep (upd_get ho hf))))
  show wpC _ _ (if ((1 : Int) != 1 || decide ((k.toNat : Int) < (b.length : Int))) = true then _ else _) _ _ _
  cases hx : ((1 : Int) != 1 || decide ((k.toNat : Int) < (b.length : Int))) with
  | true => exact wpC_if_true rfl (wpC_bind (checkResize_ok ho fin))
  | false => exact wpC_if_false rfl fin
end
end Mine
end
section
open PySem PySem.W PySem.Calls PyProof.Rows
set_option Elab.async false
set_option maxRecDepth 100000
namespace Mine
section
variable {M : Model} {A : Around} {E : Value → Shared → Prop} {s : Shared} {env : Env}

theorem wpC_bindName {x : Str} {v : Value} {Q : Unit → Shared → Prop} (h : wpC M A (storeName env x v) Q E s) : wpC M A (bindName env x v) Q E s :=
  fun Γ p hΓ hk => by rw [Sem.wp_bindName]; exact h Γ p hΓ hk
theorem wpC_operate {vs : List Value} {m : Sem Value} {Q : Value → Shared → Prop} (h : wpC M A m Q E s) : wpC M A (operate vs m) Q E s :=
  fun Γ p hΓ hk => by rw [Sem.wp_operate]; exact h Γ p hΓ hk
theorem wpC_keep {α : Type} {vs : List Value} {m : Sem α} {Q : α → Shared → Prop} (h : wpC M A m Q E s) : wpC M A (m.keep vs) Q E s :=
  fun Γ p hΓ hk => by rw [Sem.wp_keep]; exact h Γ p hΓ hk
theorem wpC_release {vs keep : List Value} {Q : Unit → Shared → Prop} (h : Q () s) : wpC M A (release vs keep) Q E s :=
  fun Γ p _ _ => by rw [Sem.wp_release]; exact h
theorem wpC_stand {α : Type} {pos : Pos} {m : Sem α} {Q : α → Shared → Prop} (h : wpC M A m Q E s) : wpC M A (standAt pos >>= fun _ => m) Q E s := wpC_bind (wpC_standAt h)

theorem C_nil {Q : Flow → Shared → Prop} (h : Q .next s) : wpC M A (execs [] env) Q E s := fun _ _ _ _ => h
theorem C_cons {st rest} {Q : Flow → Shared → Prop}
    (h : wpC M A (exec st env) (fun f s' => match f with | .next => wpC M A (execs rest env) Q E s' | f => Q f s') E s) :
    wpC M A (execs (st :: rest) env) Q E s := by
  rw [execs_cons]
  refine wpC_bind (wpC_mono h (fun f s' h' => ?_) fun _ _ x => x)
  cases f <;> first | exact h' | exact wpC_pure h'
theorem C_If {test body orelse pos} {Q : Flow → Shared → Prop}
    (h : wpC M A (isTrue test env (eval test env)) (fun b s₂ => if b then wpC M A (execs body env) Q E s₂ else wpC M A (execs orelse env) Q E s₂) E s) :
    wpC M A (exec (.If test body orelse pos) env) Q E s := by
  rw [exec_If]
  refine wpC_stand (wpC_bind (wpC_mono h (fun b s' h' => ?_) fun _ _ x => x))
  cases b <;> exact h'
theorem C_Assign_Name {x pos' value pos} {Q : Flow → Shared → Prop}
    (h : wpC M A (eval value env) (fun v s₁ => wpAny M A (storeName env x v) (fun _ => Q .next) E s₁) E s)
    (hs : swapsWith value (some (.Name x pos')) pos.line env = pure false := by rfl) :
    wpC M A (exec (.Assign [.Name x pos'] value pos) env) Q E s := by
  rw [exec_Assign_Name env x pos' value pos hs]
  exact wpC_stand (wpC_bind (wpC_mono h (fun v s₁ h₁ => wpC_stand (wpC_bind (wpC_bindName (wpC_of (wpAny_mono h₁ (fun _ _ q => wpC_pure q) fun _ _ x => x))))) fun _ _ x => x))
theorem C_Assign_Attribute {o attr pos' value pos} {Q : Flow → Shared → Prop}
    (h : wpC M A (eval value env) (fun v s₁ => wpAny M A (eval o env) (fun ov s₂ => wpAny M A (setAttr ov attr v) (fun _ => Q .next) E s₂) E s₁) E s)
    (hs : swapsWith value (some (.Attribute o attr pos')) pos.line env = pure false := by rfl) :
    wpC M A (exec (.Assign [.Attribute o attr pos'] value pos) env) Q E s := by
  simp only [plainObj_exec_Assign_Attribute o attr pos' value pos hs, assign_Attribute]
  refine wpC_stand (wpC_bind (wpC_mono h (fun v s₁ h₁ => wpC_bind (wpC_bind (wpC_holding (wpC_of (wpAny_mono h₁ (fun ov s₂ h₂ => wpC_stand (wpC_bind (wpC_holding (wpC_of (wpAny_mono h₂ (fun _ _ q => wpC_release (wpC_pure q)) fun _ _ x => x))))) fun _ _ x => x))))) fun _ _ x => x))
theorem C_Assign_Subscript {o i pos' value pos} {Q : Flow → Shared → Prop}
    (h : wpC M A (eval value env) (fun v s₁ => wpAny M A (eval o env) (fun ov s₂ => wpAny M A (eval i env) (fun iv s₃ => wpC M A (setItem ov iv v) (fun _ => Q .next) E s₃) E s₂) E s₁) E s)
    (hs : swapsWith value (some (.Subscript o i pos')) pos.line env = pure false := by rfl) :
    wpC M A (exec (.Assign [.Subscript o i pos'] value pos) env) Q E s := by
  simp only [exec_Assign_Subscript o i pos' value pos hs, assign_Subscript]
  refine wpC_stand (wpC_bind (wpC_mono h (fun v s₁ h₁ => wpC_bind (wpC_bind (wpC_holding (wpC_of (wpAny_mono h₁ (fun ov s₂ h₂ => wpC_bind (wpC_holding (wpC_of (wpAny_mono h₂ (fun iv s₃ h₃ => wpC_stand (wpC_bind (wpC_holding (wpC_mono h₃ (fun _ _ q => wpC_release (wpC_pure q)) fun _ _ x => x)))) fun _ _ x => x)))) fun _ _ x => x))))) fun _ _ x => x))
theorem C_Delete_Subscript {o i pos' pos} {Q : Flow → Shared → Prop}
    (h : wpAny M A (eval o env) (fun ov s₂ => wpAny M A (eval i env) (fun iv s₃ => wpC M A (delItem ov iv) (fun _ => Q .next) E s₃) E s₂) E s) :
    wpC M A (exec (.Delete [.Subscript o i pos'] pos) env) Q E s := by
  rw [arm_exec_Delete]
  refine wpC_stand (wpC_bind ?_)
  rw [arm_deleteEach_cons, arm_deleteEach_nil]
  refine wpC_bind ?_
  rw [arm_delete_Subscript]
  refine wpC_bind (wpC_of (wpAny_mono h (fun ov s₂ h₂ => wpC_bind (wpC_holding (wpC_of (wpAny_mono h₂ (fun iv s₃ h₃ => wpC_stand (wpC_bind (wpC_holding (wpC_mono h₃ (fun _ _ q => wpC_release (wpC_pure (wpC_pure q))) fun _ _ x => x)))) fun _ _ x => x)))) fun _ _ x => x))
theorem C_Return {e pos} {Q : Flow → Shared → Prop} (h : wpC M A (eval e env) (fun v => Q (.ret v)) E s) : wpC M A (exec (.Return (some e) pos) env) Q E s := by
  rw [exec_Return_some]
  exact wpC_stand (wpC_bind (wpC_mono h (fun _ _ q => wpC_pure q) fun _ _ x => x))
theorem C_Return0 {pos} {Q : Flow → Shared → Prop} (h : Q (.ret .none) s) : wpC M A (exec (.Return none pos) env) Q E s := fun _ _ _ _ => h
theorem C_Assign_Tuple {elts k tpos value pos} {Q : Flow → Shared → Prop}
    (h : wpC M A (eval value env) (fun v s₁ => wpAny M A (assign (.Tuple elts k tpos) env v) (fun _ => Q .next) E s₁) E s)
    (hs : swapsWithSole [.Tuple elts k tpos] value pos.line env = pure false := by rfl)
    (hw : swappedStores [.Tuple elts k tpos] value env = pure none := by rfl) :
    wpC M A (exec (.Assign [.Tuple elts k tpos] value pos) env) Q E s := by
  rw [exec_Assign]
  refine wpC_stand ?_
  rw [hs]
  refine wpC_bind (wpC_pure ?_)
  rw [if_neg (by decide)]
  refine wpC_bind (wpC_mono h (fun v s₁ h₁ => ?_) fun _ _ x => x)
  rw [hw]
  refine wpC_bind (wpC_pure ?_)
  show wpC M A (do assignAll v [assign (.Tuple elts k tpos) env]; pure .next) Q E s₁
  exact wpC_bind (wpC_of (wpAny_mono h₁ (fun _ _ x => wpC_pure x) fun _ _ x => x))
theorem C_Compare1 {l op r pos} {Q : Value → Shared → Prop}
    (h : wpC M A (eval l env) (fun a s₁ => wpAny M A (eval r env) (fun b s₂ => wpAny M A (compareOp op a b) Q E s₂) E s₁) E s)
    (hm : behindInMarks op r = false := by with_unfolding_all rfl) :
    wpC M A (eval (.Compare l [op] [r] pos) env) Q E s := by
  simp only [eval_Compare1, markedBehindIn_of_false hm]
  exact wpC_bind (wpC_mono h (fun a s₁ h₁ => wpC_bind (wpC_holding (wpC_of (wpAny_mono h₁ (fun b s₂ h₂ => wpC_stand (wpC_operate (wpC_of h₂))) fun _ _ x => x)))) fun _ _ x => x)
theorem C_or {e₁ e₂ rest pos} {Q : Value → Shared → Prop}
    (h : wpC M A (eval e₁ env) (fun v s₁ => wpAny M A (truthy v) (fun c s₂ => if c then Q v s₂ else wpC M A (eval (.BoolOp .Or (e₂ :: rest) pos) env) Q E s₂) E s₁) E s) :
    wpC M A (eval (.BoolOp .Or (e₁ :: e₂ :: rest) pos) env) Q E s := by
  show wpC M A (do
    let v ← eval e₁ env
    standAt pos
    let c ← holding [v] (truthy v)
    match BoolOp.Or, c with
    | .And, false | .Or, true => pure v
    | _, _ => boolOp pos .Or (eval e₂ env :: evalEach rest env)) Q E s
  refine wpC_bind (wpC_mono h (fun v s₁ h₁ => wpC_stand (wpC_bind (wpC_holding (wpC_of (wpAny_mono h₁ (fun c s₂ h₂ => ?_) fun _ _ x => x))))) fun _ _ x => x)
  cases c with
  | false => exact h₂
  | true => exact wpC_pure h₂
theorem C_and {e₁ e₂ rest pos} {Q : Value → Shared → Prop}
    (h : wpC M A (eval e₁ env) (fun v s₁ => wpAny M A (truthy v) (fun c s₂ => if c then wpC M A (eval (.BoolOp .And (e₂ :: rest) pos) env) Q E s₂ else Q v s₂) E s₁) E s) :
    wpC M A (eval (.BoolOp .And (e₁ :: e₂ :: rest) pos) env) Q E s := by
  show wpC M A (do
    let v ← eval e₁ env
    standAt pos
    let c ← holding [v] (truthy v)
    match BoolOp.And, c with
    | .And, false | .Or, true => pure v
    | _, _ => boolOp pos .And (eval e₂ env :: evalEach rest env)) Q E s
  refine wpC_bind (wpC_mono h (fun v s₁ h₁ => wpC_stand (wpC_bind (wpC_holding (wpC_of (wpAny_mono h₁ (fun c s₂ h₂ => ?_) fun _ _ x => x))))) fun _ _ x => x)
  cases c with
  | false => exact wpC_pure h₂
  | true => exact h₂
theorem C_bool1 {e op pos} {Q : Value → Shared → Prop} (h : wpC M A (eval e env) Q E s) : wpC M A (eval (.BoolOp op [e] pos) env) Q E s := h
theorem C_isTrue {e : PySem.Expr} {whole : Sem Value} {Q : Bool → Shared → Prop} (h : wpC M A whole (fun v s₁ => wpAny M A (truthy v) Q E s₁) E s)
    (he : isTrue e env whole = (do let v ← whole; standAt e.pos; holding [v] (truthy v)) := by rfl) : wpC M A (isTrue e env whole) Q E s := by
  rw [he]
  exact wpC_bind (wpC_mono h (fun v s₁ h₁ => wpC_stand (wpC_holding (wpC_of h₁))) fun _ _ x => x)

theorem C_callWith_of {P : Heap → Prop} {pos : Pos} {f : Value} {first : List Value} {Q : Value → Shared → Prop} {args : List (Bool × Sem Value)} {keywords : List (Option Str × Sem Value)} (hplain : (args.any (·.1) || keywords.any (·.1.isNone)) = false)
    (hk : ∀ h, P h → ∃ k, (k = Keeper.frame ∨ k = Keeper.machine ∨ k = Keeper.boundFrame) ∧ Looks M h (keeperOf f) k)
    (h : wpAny M A (evalArgs f true args keywords) (fun a s₁ => P s₁.heap ∧ wpC M A (call f (first ++ a.pos) a.kw) Q E s₁) E s) : wpC M A (callWith pos f first args keywords) Q E s := by
  unfold callWith
  refine wpC_bind (wpC_holding (wpC_of (wpAny_mono h (fun a s₁ h₁ => wpC_stand ?_) fun _ _ x => x)))
  obtain ⟨k, hk', L⟩ := hk _ h₁.1
  simp only [hplain]
  refine wpC_seq (L.here ?_)
  have tail : ∀ {t : Sem Value}, wpC M A t Q E s₁ → wpC M A (t >>= fun r => holding [r] point >>= fun _ => pure r) Q E s₁ :=
    fun ht => wpC_bind (wpC_mono ht (fun r s₂ hr => wpC_bind (wpC_holding (wpC_of (wpAny_point (wpC_pure hr))))) fun _ _ x => x)
  have marked (mk : Value) : wpC M A (callMarked mk f (first ++ a.pos) a.kw) Q E s₁ := by unfold callMarked; exact wpC_keep h₁.2
  rcases hk' with rfl | rfl | rfl <;> dsimp only <;> first | exact tail h₁.2 | (split <;> first | exact tail h₁.2 | exact tail (marked _))
theorem C_callWith_K {K : Frag} {pos : Pos} {f : Value} {first : List Value} {Q : Value → Shared → Prop} {h₀ : Heap} {e : PySem.Expr} {rest : List PySem.Expr} (_X : K.In h₀) (hk : keepIn K f = true) (h : wpAny M A (spliced (backTo pos (starEach (e :: rest) env))) (fun vs s₁ => K.In s₁.heap ∧ wpC M A (call f (first ++ vs)) Q E s₁) E s)
    (he : starEach (e :: rest) env = (false, eval e env) :: starEach rest env := by rfl) (hplain : (backTo pos (starEach rest env)).any (·.1) = false := by rfl) :
    wpC M A (callWith pos f first (backTo pos (starEach (e :: rest) env)) []) Q E s := by
  rw [he] at h ⊢
  exact C_callWith_of (by show ((false || (backTo pos (starEach rest env)).any (·.1)) || false) = false; rw [hplain]; rfl) (keeps_K hk) (evalArgs_plain h)
theorem C_callWith_K0 {K : Frag} {pos : Pos} {f : Value} {first : List Value} {Q : Value → Shared → Prop} (X : K.In s.heap) (hk : keepIn K f = true) (h : wpC M A (call f (first ++ [])) Q E s) : wpC M A (callWith pos f first (backTo pos (starEach [] env)) []) Q E s :=
  C_callWith_of rfl (keeps_K hk) (evalArgs_nil3 ⟨X, h⟩)
theorem C_callWith_builtin {pos : Pos} {id : String} {first : List Value} {Q : Value → Shared → Prop} {args : List (Bool × Sem Value)} (hplain : args.any (·.1) = false)
    (h : wpAny M A (evalArgs (.builtin id) true args []) (fun a s₁ => wpC M A (call (.builtin id) (first ++ a.pos) a.kw) Q E s₁) E s) : wpC M A (callWith pos (.builtin id) first args []) Q E s := by
  unfold callWith
  refine wpC_bind (wpC_holding (wpC_of (wpAny_mono h (fun a s₁ h₁ => wpC_stand ?_) fun _ _ x => x)))
  simp only [hplain, List.any_nil, Bool.or_false]
  refine wpC_bind (wpC_pure ?_)
  exact wpC_bind (wpC_mono h₁ (fun r s₂ hr => wpC_bind (wpC_holding (wpC_of (wpAny_point (wpC_pure hr))))) fun _ _ x => x)
theorem C_callWith_type {pos : Pos} {id : String} {first : List Value} {Q : Value → Shared → Prop} {args : List (Bool × Sem Value)} (hplain : args.any (·.1) = false)
    (h : wpAny M A (evalArgs (.type id) true args []) (fun a s₁ => wpC M A (call (.type id) (first ++ a.pos) a.kw) Q E s₁) E s) : wpC M A (callWith pos (.type id) first args []) Q E s := by
  unfold callWith
  refine wpC_bind (wpC_holding (wpC_of (wpAny_mono h (fun a s₁ h₁ => wpC_stand ?_) fun _ _ x => x)))
  simp only [hplain, List.any_nil, Bool.or_false]
  refine wpC_bind (wpC_pure ?_)
  exact wpC_bind (wpC_mono h₁ (fun r s₂ hr => wpC_bind (wpC_holding (wpC_of (wpAny_point (wpC_pure hr))))) fun _ _ x => x)
theorem C_builtin1 {pos : Pos} {id : String} {first : List Value} {Q : Value → Shared → Prop} {e : PySem.Expr} {rest : List PySem.Expr}
    (h : wpAny M A (spliced (backTo pos (starEach (e :: rest) env))) (fun vs s₁ => wpC M A (call (.builtin id) (first ++ vs)) Q E s₁) E s)
    (he : starEach (e :: rest) env = (false, eval e env) :: starEach rest env := by rfl)
    (hplain : (backTo pos (starEach rest env)).any (·.1) = false := by rfl) :
    wpC M A (callWith pos (.builtin id) first (backTo pos (starEach (e :: rest) env)) []) Q E s := by
  rw [he] at h ⊢
  exact C_callWith_builtin (by show (false || (backTo pos (starEach rest env)).any (·.1)) = false; rw [hplain]; rfl) (evalArgs_plain h)
theorem C_type1 {pos : Pos} {id : String} {Q : Value → Shared → Prop} {e : PySem.Expr} {rest : List PySem.Expr}
    (h : wpAny M A (spliced (backTo pos (starEach (e :: rest) env))) (fun vs s₁ => wpC M A (call (.type id) vs) Q E s₁) E s)
    (he : starEach (e :: rest) env = (false, eval e env) :: starEach rest env := by rfl)
    (hplain : (backTo pos (starEach rest env)).any (·.1) = false := by rfl) :
    wpC M A (callWith pos (.type id) [] (backTo pos (starEach (e :: rest) env)) []) Q E s := by
  rw [he] at h ⊢
  exact C_callWith_type (by show (false || (backTo pos (starEach rest env)).any (·.1)) = false; rw [hplain]; rfl) (evalArgs_plain h)
theorem C_type0 {pos : Pos} {id : String} {Q : Value → Shared → Prop} (h : wpC M A (call (.type id) []) Q E s) : wpC M A (callWith pos (.type id) [] (backTo pos (starEach [] env)) []) Q E s :=
  C_callWith_type rfl (evalArgs_nil3 h)

theorem C_Call {func : PySem.Expr} {args : List PySem.Expr} {pos : Pos} {Q : Value → Shared → Prop}
    (h : wpAny M A (eval func env) (fun f s₁ => wpC M A (callWith pos f [] (backTo pos (starEach args env)) []) Q E s₁) E s)
    (he : eval (.Call func args [] pos) env = (do callWith pos (← eval func env) [] (backTo pos (starEach args env)) (backToKw pos (keywordEach [] env))) := by rfl) :
    wpC M A (eval (.Call func args [] pos) env) Q E s := by
  rw [he]; exact wpC_bind (wpC_of h)
theorem C_Method {o : PySem.Expr} {name : Str} {apos pos : Pos} {args : List PySem.Expr} {pl : Sem Bool} {Q : Value → Shared → Prop}
    (h : wpC M A (eval o env) (fun ov s₁ => wpAny M A (getMethod ov name pl) (fun fx s₂ => wpC M A (callWith pos fx.1 fx.2 (backTo pos (starEach args env)) []) Q E s₂) E s₁) E s)
    (he : eval (.Call (.Attribute o name apos) args [] pos) env = (do
      let ov ← eval o env
      standAt apos.atName
      let (f, first) ← holding [ov] (getMethod ov name pl)
      callWith pos f first (backTo pos (starEach args env)) []) := by rfl) :
    wpC M A (eval (.Call (.Attribute o name apos) args [] pos) env) Q E s := by
  rw [he]
  refine wpC_bind (wpC_mono h (fun ov s₁ h₁ => wpC_stand (wpC_bind (wpC_holding (wpC_of (wpAny_mono h₁ (fun fx s₂ h₂ => ?_) fun _ _ x => x))))) fun _ _ x => x)
  exact h₂
end
section
variable {prog : Program} {w : World} {A : Around} {E : Value → Shared → Prop} {s : Shared} {env : Env}
theorem C_Expr {e pos} {Q : Flow → Shared → Prop} (h : wpC (model prog w) A (eval e env) (fun _ => Q .next) E s)
    (hi : interactive env = false := by rfl) (hs : swapsWith e none pos.line env = pure false := by rfl) :
    wpC (model prog w) A (exec (.Expr e pos) env) Q E s := by
  rw [exec_Expr env e pos hi hs]
  exact wpC_stand (wpC_bind (wpC_mono h (fun v s' h' => wpC_of (wpAny_dropValue h')) fun _ _ x => x))
theorem C_Try {body orelse : List Stmt} {h₀ : ExceptHandler} {hs : List ExceptHandler} {pos : Pos} {Q : Flow → Shared → Prop}
    (h : wpC (model prog w) A (execs body env) (fun f s₁ => match f with | .next => wpC (model prog w) A (execs orelse env) Q E s₁ | f => Q f s₁)
      (fun e s₁ => wpAny (model prog w) A (noteFrame e env) (fun _ s₂ => wpAny (model prog w) A (setFlight e none) (fun _ s₃ => wpAny (model prog w) A (handleBy e env (h₀ :: hs)) Q E s₃) E s₂) E s₁) s) :
    wpC (model prog w) A (exec (.Try body (h₀ :: hs) orelse [] pos) env) Q E s := by
  rw [arm_exec_Try]
  refine wpC_stand ?_
  unfold tryStmt
  simp only [List.isEmpty_nil, if_true, List.isEmpty_cons, Bool.false_and, Bool.false_eq_true, if_false]
  refine wpC_bind (wpC_attempt (wpC_mono h (fun f s₁ h₁ => ?_) fun e s₁ h₁ => ?_))
  · cases f <;> first | exact h₁ | exact wpC_pure h₁
  · refine wpC_seq (wpAny_mono h₁ (fun _ s₂ h₂ => ?_) fun _ _ x => x)
    exact wpC_seq (wpAny_mono h₂ (fun _ s₃ h₃ => wpC_of h₃) fun _ _ x => x)
end
end Mine
end
section
open PySem PySem.W PySem.Calls PyProof.Rows
set_option Elab.async false
set_option maxRecDepth 100000
namespace Mine
section
variable {w : World} {mean : ExcName → Option Value} {mg mb : Str → Option Value} {dp un : Nat} {gd : Option (List Code)} {cn : Str} {cs : Scope} {L a : Addr} {ccd : Value} {cl : List (Str × Addr)} {outer : List Env} {A₀ : Around} {base h₀ : Heap} {m : Str → Option Value} {s : Shared} {led : List (Addr × Obj)}
theorem enterC {R : Result → Shared → Prop} {name qual : Str} {params : Arguments} {body : List Stmt} {scope : Scope} {dV kV doc pm cdv ct oc : Value} {an od : Option Addr} {osl : Array (Option Value)} {f : Addr} {args : Args} {binds : List (Str × Value)}
    (S : Site w mean mg mb outer A₀ base h₀ L m cs s.heap led)
    (ho : (Mine.hd.heap_39 w.params).lookup f = some ⟨oc, od, .func (fnOf name qual params body scope dV kV doc pm an cdv ct), osl⟩) (hcd : codeIn (Mine.hd.heap_39 w.params) cdv qual = true) (hroom : dp < recursionLimit)
    (hbind : BindsTo s (fnOf name qual params body scope dV kV doc pm an cdv ct) args binds) (hloc : ∀ y ∈ binds, scope.names.lookup y.1 = some .local)
    (h : ∀ g L' h₁, Fr g L' h₁ (fun y => binds.reverse.lookup y) → News g L' h₁ led → Below (ktrTop dp un gd cn cs L a ccd cl outer) base (envX cn cs L a ccd cl :: outer) g → (Mine.hd.heap_39 w.params).In g → Top VW LO mean mg mb g →
      (∀ b o, s.heap.get? b = some o → b ∉ led.map (·.1) → g.get? b = some o) →
      (let qk : Flow → Shared → Prop := fun fl s' => LeaveW g R (match fl with | .ret v => v | _ => .none) s'
       let ek : Value → Shared → Prop := fun e s' => wpC (model PG w) ((ktrTop dp un gd cn cs L a ccd cl outer).deeper (envOf qual scope L' f cdv)) (leaving (envOf qual scope L' f cdv) e) (fun _ s'' => R (.error e) s'') (fun e' s'' => R (.error e') s'') s'
       wpC (model PG w) ((ktrTop dp un gd cn cs L a ccd cl outer).deeper (envOf qual scope L' f cdv)) (execs body (envOf qual scope L' f cdv)) qk ek
        { s with heap := h₁, toks := s.toks + binds.length }))
    (hco : scope.isCoroutine = false) (hgen : scope.isGenerator = false) (hk : scope.kind = .function)
    (hcell : ∀ x ∈ scope.names, x.2 ≠ .cell) : codeC (model PG w) (ktrTop dp un gd cn cs L a ccd cl outer) (.call (.ref f) args) R s := by
  obtain ⟨B, F, X₀, N, T, hke⟩ := S
  intro Γ p hc hΓ hkΓ
  obtain ⟨FG, BG, st, _⟩ := groundX (A := ktrTop dp un gd cn cs L a ccd cl outer) (env := envX cn cs L a ccd cl) (R := R) B F N rfl rfl hke
  refine codeC_call_def (fd := fnOf name qual params body scope dV kV doc pm an cdv ct) (body := body) (binds := binds) hroom ((X₀.keeps F.keep) _ _ ho) rfl (T.nolimit.keeps F.keep) (codeRec_of (X₀.keeps F.keep) hcd) rfl hbind hcell hloc (fun h₁ hns hk₁ => ?_) hco hgen hk Γ p hc hΓ hkΓ
  refine wpC_mono (h _ s.heap.objs.size h₁ ⟨hns, fun b o e => hk₁ b o (of_hideAll _ e), Nat.le_of_eq (hideAll_size _ _)⟩
    (fun p hp => ⟨hk₁ _ _ (N p hp).1, Nat.ne_of_lt (Heap.lt_size (N p hp).1), hideAll_none _ (List.mem_map_of_mem hp)⟩) BG (X₀.keeps st) (T.keeps st) (fun b o e n => hideAll_get _ e n)) (fun fl s' hl => ?_) fun _ _ y => y
  obtain ⟨L', m', news', F', N', k⟩ := hl
  exact k F'.keep N'
theorem enterCK {A : Around} {env : Env} {R : Result → Shared → Prop} {name qual : Str} {params : Arguments} {body : List Stmt} {scope : Scope} {dV kV doc pm cdv ct oc : Value} {an od : Option Addr} {osl : Array (Option Value)} {f : Addr} {args : Args} {binds : List (Str × Value)}
    (B : Below A₀ base outer h₀) (F : Fr h₀ L s.heap m) (X₀ : (Mine.hd.heap_39 w.params).In h₀) (N : News h₀ L s.heap led) (T : Top VW LO mean mg mb h₀) (hA : A.frames = some (env :: outer)) (hf : env.frame = some L) (hke : env.scope.kind = .function)
    (ho : (Mine.hd.heap_39 w.params).lookup f = some ⟨oc, od, .func (fnOf name qual params body scope dV kV doc pm an cdv ct), osl⟩) (hcd : codeIn (Mine.hd.heap_39 w.params) cdv qual = true) (hroom : A.depth < recursionLimit)
    (hbind : BindsTo s (fnOf name qual params body scope dV kV doc pm an cdv ct) args binds) (hloc : ∀ y ∈ binds, scope.names.lookup y.1 = some .local)
    (h : ∀ g L' h₁, Fr h₀ L g m → Fr g L' h₁ (fun y => binds.reverse.lookup y) → News g L' h₁ led → Below A base (env :: outer) g → (Mine.hd.heap_39 w.params).In g → Top VW LO mean mg mb g →
      (let qk : Flow → Shared → Prop := fun fl s' => LeaveK h₀ L m g R (match fl with | .ret v => v | _ => .none) s'
       let ek : Value → Shared → Prop := fun e s' => wpC (model PG w) (A.deeper (envOf qual scope L' f cdv)) (leaving (envOf qual scope L' f cdv) e) (fun _ s'' => R (.error e) s'') (fun e' s'' => R (.error e') s'') s'
       wpC (model PG w) (A.deeper (envOf qual scope L' f cdv)) (execs body (envOf qual scope L' f cdv)) qk ek
        { s with heap := h₁, toks := s.toks + binds.length }))
    (hco : scope.isCoroutine = false) (hgen : scope.isGenerator = false) (hk : scope.kind = .function)
    (hcell : ∀ x ∈ scope.names, x.2 ≠ .cell) : codeC (model PG w) A (.call (.ref f) args) R s := by
  intro Γ p hc hΓ hkΓ
  obtain ⟨FG, BG, st, lv⟩ := groundX (A := A) (env := env) (R := R) B F N hA hf hke
  refine codeC_call_def (fd := fnOf name qual params body scope dV kV doc pm an cdv ct) (body := body) (binds := binds) hroom ((X₀.keeps F.keep) _ _ ho) rfl (T.nolimit.keeps F.keep) (codeRec_of (X₀.keeps F.keep) hcd) rfl hbind hcell hloc (fun h₁ hns hk₁ => ?_) hco hgen hk Γ p hc hΓ hkΓ
  refine wpC_mono (h _ s.heap.objs.size h₁ FG ⟨hns, fun b o e => hk₁ b o (of_hideAll _ e), Nat.le_of_eq (hideAll_size _ _)⟩
    (fun p hp => ⟨hk₁ _ _ (N p hp).1, Nat.ne_of_lt (Heap.lt_size (N p hp).1), hideAll_none _ (List.mem_map_of_mem hp)⟩) BG (X₀.keeps st) (T.keeps st)) (fun fl s' hl => lv _ _ hl) fun _ _ y => y
end
end Mine
end
section
open PySem PySem.W PySem.Calls PyProof.Rows PyProof.V PySem.Spec
set_option Elab.async false
set_option linter.unusedVariables false
set_option maxRecDepth 100000
namespace Mine
theorem BA.type_extend : typeOf (.builtin "bytearray.extend") = pure (.type "method_descriptor") := by show builtinType _ = _; rw [builtinType_eq_fast]; kernel_rfl
theorem BA.plainAttrs : PlainAttrs "bytearray" := by
  exact ⟨⟨"bytearray.__getattribute__", by rw [typeLookup_type, builtinLookup_eq_fast]; kernel_rfl, by decide +kernel⟩, by rw [typeLookup_type, builtinLookup_eq_fast]; kernel_rfl⟩
theorem frK {as : List Addr} {h₀ h h' : Heap} {L : Addr} {m : Str → Option Value} {led : List (Addr × Obj)} (F : Fr h₀ L h m) (N : News h₀ L h led) (k : Keep as h h') (hs : ∀ x ∈ as, x ∈ led.map (·.1)) : Fr h₀ L h' m := by
  have fr : ∀ b o, h₀.get? b = some o → b ∉ as := fun b o e q => by
    obtain ⟨p, hp, e'⟩ := List.mem_map.mp (hs b q)
    have := (N p hp).2.2
    rw [e'] at this; rw [this] at e; cases e
  obtain ⟨oL, es, ep, hL, r⟩ := F.ns
  have nL : L ∉ as := fun q => by
    obtain ⟨p, hp, e'⟩ := List.mem_map.mp (hs L q)
    exact (N p hp).2.1 e'
  exact ⟨⟨oL, es, ep, k L oL nL hL, r⟩, fun b o e => k b o (fr b o e) (F.keep b o e), F.above⟩
theorem upd_mem {d : Addr} {o o' : Obj} {news news' : List (Addr × Obj)} (U : Upd d o o' news news') : (d, o) ∈ news := by
  obtain ⟨pre, post, rfl, rfl, h1, h2⟩ := U.split
  exact List.mem_append.mpr (.inr (.head _))
theorem upd_memA {d : Addr} {o o' : Obj} {news news' : List (Addr × Obj)} (U : Upd d o o' news news') : ∀ x ∈ [d], x ∈ news.map (·.1) := fun x hx => by
  rw [List.mem_singleton.mp hx]; exact List.mem_map_of_mem (f := (·.1)) (upd_mem U)
section
variable {prog : Program} {w : World} {A : Around} {E : Value → Shared → Prop} {hp : Heap} {g : Array GenState} {dr : Drawn} {tk : Nat} {os : OsState} {h₀ : Heap} {L a : Addr} {m : Str → Option Value} {news news' : List (Addr × Obj)} {Q : Value → Shared → Prop} {b x y : List UInt8} {t u : Tok}
theorem n_len (N : News h₀ L hp news) (hm : (a, baObj b) ∈ news) (hz : b.length ≤ 16777216) (h : ∀ t' k, Q (.int (b.length : Int) t') ⟨hp, g, dr, k, os⟩) : wpAny (model prog w) A (call (.builtin "len") [.ref a]) Q E ⟨hp, g, dr, tk, os⟩ :=
  ba_len (s := ⟨hp, g, dr, tk, os⟩) (N _ hm).1 hz h
theorem n_extendM {pl : Sem Bool} {Q : Value × List Value → Shared → Prop} (N : News h₀ L hp news) (hm : (a, baObj b) ∈ news) (h : Q (.builtin "bytearray.extend", [.ref a]) ⟨hp, g, dr, tk, os⟩) : wpAny (model prog w) A (getMethod (.ref a) (Str.ofString "extend") pl) Q E ⟨hp, g, dr, tk, os⟩ :=
  getMethod_builtin ⟨_, (N _ hm).1, rfl⟩ BA.plainAttrs BA.slot_extend BA.type_extend (fun a e => by cases e; exact ⟨_, (N _ hm).1, rfl⟩) h
theorem n_zeros {n : Int} (h0 : 0 ≤ n) (h1 : n ≤ 16777216) (h : ∀ t' k, Q (.bytes (List.replicate n.toNat (0 : UInt8)).toArray t') ⟨hp, g, dr, k, os⟩) : wpAny (model prog w) A (call (.type "bytes") [.int n t]) Q E ⟨hp, g, dr, tk, os⟩ :=
  bytes_int (s := ⟨hp, g, dr, tk, os⟩) h0 h1 h
theorem n_bytes (N : News h₀ L hp news) (hm : (a, baObj b) ∈ news) (hz : b.length ≤ 16777216) (h : ∀ t' k, Q (.bytes b.toArray t') ⟨hp, g, dr, k, os⟩) : wpAny (model prog w) A (call (.type "bytes") [.ref a]) Q E ⟨hp, g, dr, tk, os⟩ :=
  bytes_ba (s := ⟨hp, g, dr, tk, os⟩) (N _ hm).1 hz h
theorem n_extend (F : Fr h₀ L hp m) (N : News h₀ L hp news) (hz : b.length + x.length ≤ 16777216) (U : Upd a (baObj b) (baObj (b ++ x)) news news') (h : ∀ h', Fr h₀ L h' m → News h₀ L h' news' → Q .none ⟨h', g, dr, tk, os⟩) : wpC (model prog w) A (call (.builtin "bytearray.extend") [.ref a, .bytes x.toArray t]) Q E ⟨hp, g, dr, tk, os⟩ :=
  call_extend (s := ⟨hp, g, dr, tk, os⟩) (N _ (upd_mem U)).1 hz fun h' k e => h h' (frK F N k (upd_memA U)) (upd1 N k e U)
theorem isSlice_new {l v : Value} : (hp.push { cls := .type "slice", data := .fields #[l, v, .none] }).IsSliceOf hp.objs.size l v .none := ⟨_, Heap.get?_push_size _ rfl, rfl, rfl⟩
theorem n_push {o : Obj} (F : Fr h₀ L hp m) (N : News h₀ L hp news) : Fr h₀ L (hp.push o) m ∧ News h₀ L (hp.push o) news :=
  ⟨frK (as := []) F N (fun b o' _ e => Heap.get?_push_of_some _ e) (fun _ q => nomatch q), keep0 N fun b o' _ e => Heap.get?_push_of_some _ e⟩
theorem fresh_of (F : Fr h₀ L hp m) (hN : hp.objs.size ≤ a) : h₀.get? a = none := by
  cases q : h₀.get? a with
  | none => rfl
  | some o => exact absurd (Heap.lt_size (F.keep _ _ q)) (Nat.not_lt.mpr hN)
theorem ne_of_fresh (F : Fr h₀ L hp m) (hN : hp.objs.size ≤ a) : a ≠ L := fun q => by
  obtain ⟨oL, es, ep, hL, r⟩ := F.ns
  rw [q] at hN
  exact absurd (Heap.lt_size hL) (Nat.not_lt.mpr hN)
theorem n_add {o : Obj} {h' : Heap} (F : Fr h₀ L hp m) (N : News h₀ L hp news) (k : Keep [] hp h') (e : h'.get? a = some o) (hN : hp.objs.size ≤ a) : Fr h₀ L h' m ∧ News h₀ L h' ((a, o) :: news) ∧ ∀ p ∈ news, p.1 < a :=
  ⟨frK (as := []) F N k (fun _ q => nomatch q), fun p hp' => by
    rcases List.mem_cons.mp hp' with rfl | hq
    · exact ⟨e, ne_of_fresh F hN, fresh_of F hN⟩
    · exact keep0 N k p hq, fun p hq => Nat.lt_of_lt_of_le (Heap.lt_size (N p hq).1) hN⟩
theorem n_get {l v : Value} {lo hi : Option Int} {value slice : PySem.Expr} (F : Fr h₀ L hp m) (N : News h₀ L hp news) (hm : (a, baObj b) ∈ news) (hl : IsPart l lo) (hu : IsPart v hi) (hz : b.length ≤ 16777216) (h1 : ∀ k ∈ lo, 0 ≤ k) (h2 : ∀ k ∈ hi, 0 ≤ k)
    (h : ∀ d h', Fr h₀ L h' m → News h₀ L h' ((d, baObj (cut b lo hi)) :: news) → (∀ p ∈ news, p.1 < d) → Q (.ref d) ⟨h', g, dr, tk, os⟩)
    (hs : subscripted slice false (.ref a) (.ref hp.objs.size) = operate [.ref hp.objs.size, .ref a] (getItem (.ref a) (.ref hp.objs.size)) := by with_unfolding_all rfl)
    (ht : ∀ r, letTemporaryGo value (.ref a) r = pure () := by intro _; with_unfolding_all rfl) :
    wpAny (model prog w) A (subscriptTail value slice (.ref a) (.ref hp.objs.size)) Q E ⟨hp.push { cls := .type "slice", data := .fields #[l, v, .none] }, g, dr, tk, os⟩ := by
  have P := n_push (o := { cls := .type "slice", data := .fields #[l, v, .none] }) F N
  have z := n_add (hp := hp.push { cls := .type "slice", data := .fields #[l, v, .none] }) (o := baObj (cut b lo hi)) P.1 P.2 (fun b' o' _ e => Heap.get?_push_of_some _ e) (Heap.get?_push_size _ rfl) (Nat.le_refl _)
  have hG : (hp.push { cls := .type "slice", data := .fields #[l, v, .none] }).get? a = some (baObj b) := (P.2 _ hm).1
  exact tail_any (ba_type (s := ⟨hp.push { cls := .type "slice", data := .fields #[l, v, .none] }, g, dr, tk, os⟩) hG) BA.slot_getitem.lookup
    (ba_get (s := ⟨hp.push { cls := .type "slice", data := .fields #[l, v, .none] }, g, dr, tk, os⟩) hG isSlice_new hl hu h1 h2 hz (h _ _ z.1 z.2.1 z.2.2)) hs
theorem n_setitem {k e : Int} {tk1 te : Tok} {Q : Unit → Shared → Prop} (F : Fr h₀ L hp m) (N : News h₀ L hp news) (h0 : 0 ≤ k) (he : e = k + x.length) (hk : k ≤ b.length) (hz : b.length + x.length ≤ 16777216) (U : Upd a (baObj b) (baObj (putAt b k.toNat x)) news news')
    (h : ∀ h', Fr h₀ L h' m → News h₀ L h' news' → Q () ⟨h', g, dr, tk, os⟩) :
    wpC (model prog w) A (setItem (.ref a) (.ref hp.objs.size) (.bytes x.toArray t)) Q E ⟨hp.push { cls := .type "slice", data := .fields #[.int k tk1, .int e te, .none] }, g, dr, tk, os⟩ := by
  have P := n_push (o := { cls := .type "slice", data := .fields #[.int k tk1, .int e te, .none] }) F N
  have hG : (hp.push { cls := .type "slice", data := .fields #[.int k tk1, .int e te, .none] }).get? a = some (baObj b) := (P.2 _ (upd_mem U)).1
  refine setItemC (s := ⟨hp.push { cls := .type "slice", data := .fields #[.int k tk1, .int e te, .none] }, g, dr, tk, os⟩) (ba_type hG) (by decide +kernel) BA.slot_setitem (by decide +kernel) BA.entry_setitem (BA.args_setitem _ _ _) ?_
  exact ba_setitem (s := ⟨hp.push { cls := .type "slice", data := .fields #[.int k tk1, .int e te, .none] }, g, dr, tk, os⟩) hG isSlice_new h0 he hk hz fun h' k e => ⟨_, rfl, h h' (frK P.1 P.2 k (upd_memA U)) (upd1 P.2 k e U)⟩
theorem n_delitem {k : Int} {tk1 : Tok} {Q : Unit → Shared → Prop} (F : Fr h₀ L hp m) (N : News h₀ L hp news) (h0 : 0 ≤ k) (hk : k ≤ b.length) (hz : b.length ≤ 16777216) (U : Upd a (baObj b) (baObj (b.take k.toNat)) news news')
    (h : ∀ h', Fr h₀ L h' m → News h₀ L h' news' → Q () ⟨h', g, dr, tk, os⟩) :
    wpC (model prog w) A (delItem (.ref a) (.ref hp.objs.size)) Q E ⟨hp.push { cls := .type "slice", data := .fields #[.int k tk1, .none, .none] }, g, dr, tk, os⟩ := by
  have P := n_push (o := { cls := .type "slice", data := .fields #[.int k tk1, .none, .none] }) F N
  have hG : (hp.push { cls := .type "slice", data := .fields #[.int k tk1, .none, .none] }).get? a = some (baObj b) := (P.2 _ (upd_mem U)).1
  refine delItemC (s := ⟨hp.push { cls := .type "slice", data := .fields #[.int k tk1, .none, .none] }, g, dr, tk, os⟩) (ba_type hG) (by decide +kernel) BA.slot_delitem (by decide +kernel) BA.entry_delitem (BA.args_delitem _ _) ?_
  exact ba_delitem (s := ⟨hp.push { cls := .type "slice", data := .fields #[.int k tk1, .none, .none] }, g, dr, tk, os⟩) hG isSlice_new h0 hk hz fun h' k e => ⟨_, rfl, h h' (frK P.1 P.2 k (upd_memA U)) (upd1 P.2 k e U)⟩
theorem n_ba0 (F : Fr h₀ L hp m) (N : News h₀ L hp news) (h : ∀ d h', Fr h₀ L h' m → News h₀ L h' ((d, baObj []) :: news) → (∀ p ∈ news, p.1 < d) → Q (.ref d) ⟨h', g, dr, tk, os⟩) : wpC (model prog w) A (call (.type "bytearray") []) Q E ⟨hp, g, dr, tk, os⟩ :=
  call_ba0 (s := ⟨hp, g, dr, tk, os⟩) fun d h' k e _ hN => have z := n_add F N k e hN; h d h' z.1 z.2.1 z.2.2
theorem n_ba1 (F : Fr h₀ L hp m) (N : News h₀ L hp news) (hz : x.length ≤ 16777216) (h : ∀ d h', Fr h₀ L h' m → News h₀ L h' ((d, baObj x) :: news) → (∀ p ∈ news, p.1 < d) → Q (.ref d) ⟨h', g, dr, tk, os⟩) : wpC (model prog w) A (call (.type "bytearray") [.bytes x.toArray t]) Q E ⟨hp, g, dr, tk, os⟩ :=
  call_ba1 (s := ⟨hp, g, dr, tk, os⟩) hz fun d h' k e _ hN => have z := n_add F N k e hN; h d h' z.1 z.2.1 z.2.2
end
end Mine
end
section
open PySem PySem.W PySem.Calls PyProof.Rows PyProof.V PySem.Spec
set_option Elab.async false
set_option linter.unusedVariables false
set_option maxRecDepth 100000
namespace Mine
abbrev NoE : Value → Shared → Prop := fun _ _ => False
section
variable {prog : Program} {w : World} {A : Around} {E : Value → Shared → Prop} {s : Shared} {env : Env} {h₀ : Heap} {x : Str} {body : List Stmt} {Q : Flow → Shared → Prop}

def TurnEnd (h₀ : Heap) (L : Addr) (I : Addr) (o : Obj) (J : (Str → Option Value) → List (Addr × Obj) → Prop) (Q : Flow → Shared → Prop) (f : Flow) (s s₂ : Shared) : Prop :=
  match f with
  | .ret v => Q (.ret v) s₂
  | .brk => Q .next s₂
  | _ => ∃ h' tk m' news', s₂ = { s with heap := h', toks := tk } ∧ Fr h₀ L h' m' ∧ News h₀ L h' ((I, o) :: news') ∧ (∀ p ∈ news', p.1 ≠ I) ∧ J m' news'
theorem TurnEnd.next {h₀ : Heap} {L I : Addr} {o : Obj} {J : (Str → Option Value) → List (Addr × Obj) → Prop} {s s₂ : Shared} {m' : Str → Option Value} {news' all : List (Addr × Obj)} (e : s₂ = { s with heap := s₂.heap, toks := s₂.toks }) (F : Fr h₀ L s₂.heap m') (N : News h₀ L s₂.heap all) (hs : ∀ p ∈ (I, o) :: news', p ∈ all) (ha : ∀ p ∈ news', p.1 ≠ I) (j : J m' news') : TurnEnd h₀ L I o J Q .next s s₂ :=
  ⟨_, _, _, _, e, F, fun p hp => N p (hs p hp), ha, j⟩

def RngGoal (prog : Program) (w : World) (A : Around) (h₀ : Heap) (env : Env) (x : Str) (body : List Stmt) (Q : Flow → Shared → Prop) (xv : Value) (s₁ : Shared) : Prop :=
  ∃ (J : Nat → (Str → Option Value) → List (Addr × Obj) → Prop) (r : Addr) (a b c : Int) (t u v : Tok) (n : Nat) (m : Str → Option Value) (news : List (Addr × Obj)),
    xv = .ref r ∧ IsRange s₁.heap r a b c t u v ∧ Builtin.Range.small a b c = true ∧ Builtin.Range.rangeSize a b c = (n : Int) ∧ Fr h₀ env.locals s₁.heap m ∧ News h₀ env.locals s₁.heap news ∧ J 0 m news ∧
    (∀ I i t' m₁ news₁ hp tk, (∀ p ∈ news, p.1 < I) → i < n → J i m₁ news₁ → Fr h₀ env.locals hp (fun y => if y = x then some (.int (a + (i : Int) * c) t') else m₁ y) →
      News h₀ env.locals hp ((I, krsIt (a + ((i + 1 : Nat) : Int) * c) ((n : Int) - ((i + 1 : Nat) : Int)) c) :: news₁) →
      wpAny (model prog w) A (execs body env) (fun f s₂ => TurnEnd h₀ env.locals I (krsIt (a + ((i + 1 : Nat) : Int) * c) ((n : Int) - ((i + 1 : Nat) : Int)) c) (J (i + 1)) Q f s₁ s₂) NoE { s₁ with heap := hp, toks := tk }) ∧
    ∀ h' tk m' news', J n m' news' → Fr h₀ env.locals h' m' → News h₀ env.locals h' news' → Q .next { s₁ with heap := h', toks := tk }

theorem RngGoal.mk' (J : Nat → (Str → Option Value) → List (Addr × Obj) → Prop) {r : Addr} {a b c : Int} {t u v : Tok} {n : Nat} {m : Str → Option Value} {news : List (Addr × Obj)}
    (hr : IsRange s.heap r a b c t u v) (hs : Builtin.Range.small a b c = true) (hn : Builtin.Range.rangeSize a b c = (n : Int)) (F : Fr h₀ env.locals s.heap m) (N : News h₀ env.locals s.heap news) (j0 : J 0 m news)
    (st : ∀ I i t' m₁ news₁ hp tk, (∀ p ∈ news, p.1 < I) → i < n → J i m₁ news₁ → Fr h₀ env.locals hp (fun y => if y = x then some (.int (a + (i : Int) * c) t') else m₁ y) →
      News h₀ env.locals hp ((I, krsIt (a + ((i + 1 : Nat) : Int) * c) ((n : Int) - ((i + 1 : Nat) : Int)) c) :: news₁) →
      wpAny (model prog w) A (execs body env) (fun f s₂ => TurnEnd h₀ env.locals I (krsIt (a + ((i + 1 : Nat) : Int) * c) ((n : Int) - ((i + 1 : Nat) : Int)) c) (J (i + 1)) Q f s s₂) NoE { s with heap := hp, toks := tk })
    (dn : ∀ h' tk m' news', J n m' news' → Fr h₀ env.locals h' m' → News h₀ env.locals h' news' → Q .next { s with heap := h', toks := tk }) : RngGoal prog w A h₀ env x body Q (.ref r) s :=
  exi11 J r a b c t u v n m news (andi9 rfl hr hs hn F N j0 st dn)
theorem News_one {h₀ h : Heap} {L a : Addr} {o : Obj} {news : List (Addr × Obj)} (N : News h₀ L h news) (hm : (a, o) ∈ news) : News h₀ L h [(a, o)] := fun p hp => by rw [List.mem_singleton.mp hp]; exact N _ hm
theorem rng_with {xv : Value} {base : Str → Option Value} {x0 : Str} {v : Value} (F : Fr h₀ env.locals s.heap (fun y => if y = x0 then some v else base y))
    (h : ∀ base', base' = base → RngGoal prog w A h₀ env x body Q xv s) : RngGoal prog w A h₀ env x body Q xv s := h _ rfl
theorem range_nn {k : Int} (h : 0 ≤ k) : Builtin.Range.rangeSize 0 k 1 = ((k.toNat : Nat) : Int) := by
  rw [rangeSize_one]; split <;> omega
theorem rng_iter {xv : Value} (H : RngGoal prog w A h₀ env x body Q xv s) (hh : A.handled = none) :
    wpAny (model prog w) A (pyIter xv) (fun it s₂ => LoopAtV prog w A h₀ env x body Q NoE it s₂) NoE s := by
  refine ex11 H ?_
  clear H
  intro J r a₀ b₀ c t₀ u₀ v₀ n m₀ news H
  refine and9 H ?_
  clear H
  rintro rfl hr hsmall hn F N j0 step done
  refine wpAny_pyIter_range hr hsmall ?_
  have W : Walks prog w A s.heap.objs.size [s.heap.objs.size] [s.heap.objs.size] n (fun i v => i < n ∧ ∃ t, v = .int (a₀ + i * c) t)
      (fun i h => IsRangeIter h s.heap.objs.size (a₀ + (i : Nat) * c) ((n : Int) - (i : Nat)) c) := (Walks.range hh _ a₀ c n).bound
  have hnew := next_is_new F
  refine exi9 _ _ _ n _ _ m₀ news J (andi11 rfl W ?_ ?_ ?_ (by show IsRangeIter _ _ _ _ _; rw [hn]; simpa using Heap.get?_push_size _ rfl) (F.push _) (fun p hp => ⟨Heap.get?_push_of_some _ (N p hp).1, (N p hp).2⟩) j0 ?_ ?_)
  · intro hm
    exact absurd F.ns.lt ((List.mem_singleton.mp hm) ▸ Nat.lt_irrefl _)
  · intro b hb
    rw [List.mem_singleton.mp hb]
    exact hnew
  · intro p hp hI
    exact absurd (Heap.lt_size (N p hp).1) ((List.mem_singleton.mp hI) ▸ Nat.lt_irrefl _)
  · rintro i v m₁ news₁ s₁ own ⟨hh', tk', rfl⟩ hin ⟨_, t, rfl⟩ hJ hoff hown hget hall hst F₁ N₁
    have hst' : hh'.get? s.heap.objs.size = some (krsIt (a₀ + ((i + 1 : Nat) : Int) * c) ((n : Int) - ((i + 1 : Nat) : Int)) c) := hst
    have hmem := hall s.heap.objs.size (List.mem_singleton.mpr rfl) hnew _ hst'
    have N₂ : News h₀ env.locals hh' ((s.heap.objs.size, krsIt (a₀ + ((i + 1 : Nat) : Int) * c) ((n : Int) - ((i + 1 : Nat) : Int)) c) :: news₁) := fun p hp => by
      rcases List.mem_cons.mp hp with rfl | hp
      · exact N₁ _ (List.mem_append_left _ hmem)
      · exact N₁ _ (List.mem_append_right _ hp)
    refine wpAny_mono (step _ i t m₁ news₁ hh' tk' (fun p hp => Heap.lt_size (N p hp).1) hin hJ F₁ N₂) (fun f s₂ p => ?_) fun _ _ e => e
    have fin : (∃ h' tk m' news', s₂ = { s with heap := h', toks := tk } ∧ Fr h₀ env.locals h' m' ∧ News h₀ env.locals h' ((s.heap.objs.size, krsIt (a₀ + ((i + 1 : Nat) : Int) * c) ((n : Int) - ((i + 1 : Nat) : Int)) c) :: news') ∧ (∀ p ∈ news', p.1 ≠ s.heap.objs.size) ∧ J (i + 1) m' news') →
        LoopStepU h₀ env.locals [s.heap.objs.size] own (J (i + 1)) { s with heap := hh', toks := tk' } .next s₂ := by
      rintro ⟨h', tk, m', news', e, F', N', ho, r⟩
      refine ⟨rfl, h', tk, m', news', e, F', fun p hp => ?_, fun p hp hI => ho p hp (List.mem_singleton.mp hI), r⟩
      rcases List.mem_append.mp hp with hp | hp
      · have h1 : p.1 = s.heap.objs.size := List.mem_singleton.mp (hown p hp)
        have h2 : hh'.get? p.1 = some p.2 := hget p hp
        have h3 : p = (s.heap.objs.size, krsIt (a₀ + ((i + 1 : Nat) : Int) * c) ((n : Int) - ((i + 1 : Nat) : Int)) c) := by
          rw [h1, hst'] at h2
          exact Prod.ext h1 (Option.some.inj h2).symm
        rw [h3]; exact N' _ (List.mem_cons_self ..)
      · exact N' _ (List.mem_cons_of_mem _ hp)
    cases f with
    | ret v => exact .ret p
    | brk => exact .brk p
    | next => exact .next (fin p)
    | cont => exact .cont (fin p)
  · rintro h' tk m' news' F' N' _ hJ
    exact done h' tk m' news' hJ F' N'
theorem For_rng {px pos : Pos} {iter : PySem.Expr} {m : Str → Option Value} (_F : Fr h₀ env.locals s.heap m) (hx : env.kindOf x = some .local) (hp : (env.scope.kind == .class || (env.scope.kind == .module && env.locals != env.globals)) = false) (hh : A.handled = none)
    (h : wpAny (model prog w) A (eval iter env) (fun xv s₁ => RngGoal prog w A h₀ env x body Q xv s₁) NoE s)
    (hs : ∀ x, foldedSetIterable iter env x = pure x := by intro _; rfl) :
    wpAny (model prog w) A (exec (.For (.Name x px) iter body [] pos) env) Q E s :=
  wpAny_noRaise (For_invV h₀ hx hp (wpAny_mono h (fun xv s₁ h₁ => rng_iter h₁ hh) fun _ _ e => e) hs PassesOwn.never)
end
section
variable {w : World} {mean : ExcName → Option Value} {mg mb : Str → Option Value} {dp un : Nat} {gd : Option (List Code)} {cn : Str} {cs : Scope} {L a : Addr} {ccd : Value} {cl : List (Str × Addr)} {outer : List Env} {A₀ : Around} {base h₀ : Heap} {m : Str → Option Value} {s : Shared} {led : List (Addr × Obj)}
theorem enterZ {R : Result → Shared → Prop} {name qual : Str} {params : Arguments} {body : List Stmt} {scope : Scope} {dV kV doc pm cdv ct oc : Value} {an od : Option Addr} {osl : Array (Option Value)} {f : Addr} {args : Args} {binds : List (Str × Value)}
    (S : Site w mean mg mb outer A₀ base h₀ L m cs s.heap led)
    (ho : (Mine.hd.heap_39 w.params).lookup f = some ⟨oc, od, .func (fnOf name qual params body scope dV kV doc pm an cdv ct), osl⟩) (hcd : codeIn (Mine.hd.heap_39 w.params) cdv qual = true) (hroom : dp < recursionLimit)
    (hbind : BindsTo s (fnOf name qual params body scope dV kV doc pm an cdv ct) args binds) (hloc : ∀ y ∈ binds, scope.names.lookup y.1 = some .local)
    (h : ∀ g L' h₁, Fr g L' h₁ (fun y => binds.reverse.lookup y) → News g L' h₁ led → Below (ktrTop dp un gd cn cs L a ccd cl outer) base (envX cn cs L a ccd cl :: outer) g → (Mine.hd.heap_39 w.params).In g → Top VW LO mean mg mb g →
      (∀ b o, s.heap.get? b = some o → b ∉ led.map (·.1) → g.get? b = some o) →
      (let qk : Flow → Shared → Prop := fun fl s' => LeaveW g R (match fl with | .ret v => v | _ => .none) s'
       wpAny (model PG w) ((ktrTop dp un gd cn cs L a ccd cl outer).deeper (envOf qual scope L' f cdv)) (execs body (envOf qual scope L' f cdv)) qk NoE
        { s with heap := h₁, toks := s.toks + binds.length }))
    (hco : scope.isCoroutine = false) (hgen : scope.isGenerator = false) (hk : scope.kind = .function)
    (hcell : ∀ x ∈ scope.names, x.2 ≠ .cell) : codeAny (model PG w) (ktrTop dp un gd cn cs L a ccd cl outer) (.call (.ref f) args) R s :=
  enterM S ho hcd hroom hbind hloc (fun g L' h₁ F N B X T k => wpAny_noRaise (h g L' h₁ F N B X T k)) hco hgen hk hcell
end
end Mine
end
section
open PySem PySem.W PySem.Calls PyProof.Rows PyProof.V PySem.Spec
set_option Elab.async false
set_option linter.unusedVariables false
set_option maxRecDepth 100000
namespace Mine
section
variable {prog : Program} {w : World} {A : Around} {E : Value → Shared → Prop} {hp : Heap} {g : Array GenState} {dr : Drawn} {tk : Nat} {os : OsState} {h₀ : Heap} {L a : Addr} {m : Str → Option Value} {news news' : List (Addr × Obj)} {Q : Value → Shared → Prop} {b x y : List UInt8} {t u : Tok}
theorem r_pow32 (h : ∀ t' k, Q (.int 4294967296 t') ⟨hp, g, dr, k, os⟩) : wpAny (model prog w) A (binaryOp .Pow (.int 2 t) (.int 32 u)) Q E ⟨hp, g, dr, tk, os⟩ :=
  pow_int_small (by decide) (by decide) (by decide) (by
    show Q (.int ((2 : Int) ^ (32 : Nat)) _) _
    rw [show (2 : Int) ^ (32 : Nat) = 4294967296 from by decide]
    exact h _ _)
theorem r_pow18 (h : ∀ t' k, Q (.int 1000000000000000000 t') ⟨hp, g, dr, k, os⟩) : wpAny (model prog w) A (binaryOp .Pow (.int 10 t) (.int 18 u)) Q E ⟨hp, g, dr, tk, os⟩ :=
  pow_int_small (by decide) (by decide) (by decide) (by
    show Q (.int ((10 : Int) ^ (18 : Nat)) _) _
    rw [show (10 : Int) ^ (18 : Nat) = 1000000000000000000 from by decide]
    exact h _ _)
theorem r_mulb {c : UInt8} {i : Int} (h : ∀ t' k, Q (.int ((c.toNat : Int) * i) t') ⟨hp, g, dr, k, os⟩) : wpAny (model prog w) A (binaryOp .Mult (.int (c.toNat : Int) t) (.int i u)) Q E ⟨hp, g, dr, tk, os⟩ :=
  r_mul (by omega) (by have := c.toNat_lt; omega) h
theorem small_step {a b c : Int} (hc : c ≠ 0) (hc1 : -1000000 ≤ c) (hc2 : c ≤ 1000000) (ha : -(2 ^ 61) ≤ a) (ha' : a < 2 ^ 61) (hb : -(2 ^ 61) ≤ b) (hb' : b < 2 ^ 61) : Builtin.Range.small a b c = true := by
  have hs : 0 ≤ Builtin.Range.rangeSize a b c ∧ Builtin.Range.rangeSize a b c < 2 ^ 63 := by
    unfold Builtin.Range.rangeSize
    split
    · split
      · have h1 := Int.ediv_nonneg (a := b - a - 1) (b := c) (by omega) (by omega)
        have h2 := Int.ediv_le_self (a := b - a - 1) c (by omega)
        omega
      · omega
    · split
      · have h1 := Int.ediv_nonneg (a := a - b - 1) (b := -c) (by omega) (by omega)
        have h2 := Int.ediv_le_self (a := a - b - 1) (-c) (by omega)
        omega
      · omega
  unfold Builtin.Range.small
  simp only [Builtin.Range.rangeFitsLong, Bool.and_eq_true, Bool.or_eq_true, decide_eq_true_eq, beq_iff_eq]
  refine ⟨by omega, Or.inr ?_⟩
  split <;> simp only [Bool.and_eq_true, decide_eq_true_eq] <;> omega
theorem r_itemI {value slice : PySem.Expr} {l : Addr} {vs : List Value} {n : Nat} {k : Int} (N : News h₀ L hp news) (hm : (l, W.listOf vs.toArray n) ∈ news)
    (h0 : 0 ≤ k) (h1 : k < vs.length) (h2 : vs.length ≤ 1000) (hv : ∀ v ∈ vs, ∃ z t, v = Value.int z t) (h : ∀ z t', Q (.int z t') ⟨hp, g, dr, tk, os⟩)
    (hs : subscripted slice false (.ref l) (.int k u) = operate [.ref l, .int k u] (getItem (.ref l) (.int k u)) := by with_unfolding_all rfl) :
    wpAny (model prog w) A (subscriptTail value slice (.ref l) (.int k u)) Q E ⟨hp, g, dr, tk, os⟩ := by
  have hk : k.toNat < vs.length := by omega
  obtain ⟨z, t', e⟩ := hv _ (List.getElem_mem hk)
  exact r_item (s := ⟨hp, g, dr, tk, os⟩) N hm h0 (by omega) (List.getElem?_eq_getElem hk) (by rw [e]; exact h z t') hs
theorem byteArr_one (k : Int) : byteArr [k] = ([k.toNat.toUInt8] : List UInt8).toArray := rfl
theorem n_bytes1 {k : Int} {D : Addr} {n : Nat} (F : Fr h₀ L hp m) (N : News h₀ L hp news) (hh : A.handled = none) (hm : (D, W.listOf #[.int k t] n) ∈ news) (h0 : 0 ≤ k) (h1 : k < 256)
    (h : ∀ h' t' k', Fr h₀ L h' m → News h₀ L h' news → Q (.bytes ([k.toNat.toUInt8] : List UInt8).toArray t') ⟨h', g, dr, k', os⟩) : wpAny (model prog w) A (call (.type "bytes") [.ref D]) Q E ⟨hp, g, dr, tk, os⟩ :=
  KBa.make_K (s := ⟨hp, g, dr, tk, os⟩) (vs := [.int k t]) (ns := [k]) F N hh (PySem.IsL.isList (n := n) (N _ hm).1) (.cons _ _ .nil) (by intro z hz; rw [List.mem_singleton.mp hz]; exact ⟨h0, h1⟩) (by simp) fun h' t' k' F' N' _ => by rw [byteArr_one]; exact h h' t' k' F' N'
theorem r_intb {c : Bool} (h : ∀ t' k, Q (.int (if c then 1 else 0) t') ⟨hp, g, dr, k, os⟩) : wpAny (model prog w) A (call (.type "int") [.bool c]) Q E ⟨hp, g, dr, tk, os⟩ := call_int_bool (h _ _)
theorem r_max {i j : Int} (F : Fr h₀ L hp m) (N : News h₀ L hp news) (hh : A.handled = none) (h : ∀ h' t' k, Fr h₀ L h' m → News h₀ L h' news → Q (.int (max i j) t') ⟨h', g, dr, k, os⟩) : wpAny (model prog w) A (call (.builtin "max") [.int i t, .int j u]) Q E ⟨hp, g, dr, tk, os⟩ :=
  max_two_N (s := ⟨hp, g, dr, tk, os⟩) hh F N fun h' tk' F' N' => by
    have e : (if j > i then j else i) = max i j := by split <;> omega
    rw [e]; exact h h' _ tk' F' N'
theorem b_take1 (k : Int) : ([k.toNat.toUInt8] : List UInt8).length = 1 := rfl
end
theorem updF_split {d : Addr} {o : Obj} : ∀ {l : List (Addr × Obj)} {l' : Obj → List (Addr × Obj)}, UpdF d o l l' → (d, o) ∈ l ∧ ∀ o', Upd d o o' l (l' o')
  | _, _, .head h => ⟨.head _, fun _ => .head h⟩
  | _, _, .tail h r => ⟨.tail _ (updF_split r).1, fun o' => .tail h ((updF_split r).2 o')⟩
theorem updF_mem {d : Addr} {o : Obj} {l : List (Addr × Obj)} {l' : Obj → List (Addr × Obj)} (U : UpdF d o l l') : (d, o) ∈ l := (updF_split U).1
theorem updF1 {h₀ h h' : Heap} {L d : Addr} {o o' : Obj} {news : List (Addr × Obj)} {news' : Obj → List (Addr × Obj)} (N : News h₀ L h news) (k : Keep [d] h h') (e : h'.get? d = some o') (U : UpdF d o news news') : News h₀ L h' (news' o') := upd1 N k e ((updF_split U).2 o')
end Mine
namespace Mine
theorem execs_consL {M : Model} {A : Around} {env : Env} {E : Value → Shared → Prop} {s : Shared} {st : Stmt} {rest : List Stmt} {Q : Flow → Shared → Prop}
    (h : let qs : Flow → Shared → Prop := fun f s' => match f with | .next => wpAny M A (execs rest env) Q E s' | f => Q f s'
      wpAny M A (exec st env) qs E s) : wpAny M A (execs (st :: rest) env) Q E s := wpAny_execs_cons h
theorem C_consL {M : Model} {A : Around} {env : Env} {E : Value → Shared → Prop} {s : Shared} {st : Stmt} {rest : List Stmt} {Q : Flow → Shared → Prop}
    (h : let qs : Flow → Shared → Prop := fun f s' => match f with | .next => wpC M A (execs rest env) Q E s' | f => Q f s'
      wpC M A (exec st env) qs E s) : wpC M A (execs (st :: rest) env) Q E s := C_cons h
end Mine
end
section
open PySem PySem.W PySem.Calls PyProof.Rows PyProof.V PySem.Spec PySem.Builtin
set_option Elab.async false
set_option linter.unusedVariables false
set_option maxRecDepth 100000
namespace Mine
theorem ne_tail {d : Addr} {news : List (Addr × Obj)} (h : ∀ p ∈ news, p.1 < d) : ∀ p ∈ news, p.1 ≠ d := fun p hp => Nat.ne_of_lt (h p hp)
section
variable {prog : Program} {w : World} {A : Around} {K : Frag} {C : Addr} {R : Result → Shared → Prop} {h : Heap} {g : Array GenState} {d : Drawn} {t : Nat} {os : OsState}
theorem codeC_call_builtin_at {s : Shared} {id : String} {args : Args} {b : Builtin} (hq : (Code.builtin id args).quiet = true) (hk : okCode (.builtin id args) = true) (hb : entryFor table id = some b)
    (h : wpAny (model prog w) A.in1 (checkBuiltinCall id args) (fun _ s₁ => wpC (model prog w) (A.under (.builtin id args)) (b args)
      (fun fin s' => match fin with | .done f => R (.ok f) s' | .again c' => c'.quiet = true ∧ okCode c' = true ∧ codeC (model prog w) A c' R s') (fun e s' => R (.error e) s') s₁)
      (fun e s' => R (.error e) s') s) : codeC (model prog w) A (.call (.builtin id) args) R s := by
  refine codeC_of_tree ?_
  show wpC _ A.in1 (do checkBuiltinCall id args; again (.builtin id args)) _ _ s
  exact wpC_seq (wpAny_mono h (fun _ s₁ h₁ => wpC_pure ⟨hq, hk, codeC_builtin hb h₁⟩) fun _ _ h' => h')
theorem make_coreC {rest : List Value} {kw : List (Str × Value)} {init : Value} (Y : Makes (model prog w) h C) (hi : Looks (model prog w) h (typeLookup (.ref C) "__init__") (some init))
    (hb : ∀ self, Looks (model prog w) h (bindSpecial init self) (init, [self])) (hne : (some init != some (Value.builtin "object.__init__")) = true ∨ (rest = [] ∧ kw = []))
    (hq : codeC (model prog w) (A.under (.builtin "type.__call__" ⟨.ref C :: rest, kw⟩)) (.call init ⟨.ref (h.objs.size + 1) :: rest, kw⟩) (InitBack (h.objs.size + 1) R) ⟨(h.push emptyDict).push (instObj C h.objs.size), g, d, t, os⟩) :
    codeC (model prog w) A (.call (.ref C) ⟨rest, kw⟩) R ⟨h, g, d, t, os⟩ := by
  have Y' := Y
  obtain ⟨⟨oc, od, cd, sl, hC, e1, e2, e4⟩, made, base, self, top, call, typ⟩ := Y
  refine codeC_of_tree ?_
  show wpC _ _ (callAny (.ref C) _) _ _ _
  refine wpC_of ?_
  refine nd_load hC ?_
  show wpAny _ _ (callAny.viaDunder (.ref C) _) _ _ _
  unfold callAny.viaDunder
  refine wpAny_bind (call.at ?_)
  dsimp only
  rw [tc_bind]
  refine wpAny_bind (wpAny_pure (wpAny_bind (wpAny_pure ?_)))
  refine wpAny_pure (a := Fin.again (.call (.builtin "type.__call__") ⟨.ref C :: rest, kw⟩)) (And.intro rfl (And.intro rfl ?_))
  refine codeC_call_builtin_at (Code.quiet_builtin _ (by decide +kernel)) (okCode_of (by decide +kernel) _) entry_typeCall (check_slot tc_kind tc_split typ (tc_args _ _ _) ?_)
  unfold Builtin.«type.__call__»
  have hm : Looks (model prog w) h (mroOf (.ref C)) cd.mro := ((Looks.ld (part := none) hC).andThen .now).andThen .now
  show wpC _ _ (mroOf (.ref C) >>= _) _ _ _
  refine wpC_seq (hm.at ?_)
  dsimp only
  rw [e4]
  refine wpC_if_false rfl ?_
  refine wpC_seq (made.at ?_)
  dsimp only
  refine wpC_bind (wpC_pure ?_)
  refine wpC_bind (wpC_of (wpAny_holding (wpAny_call (new_K Y' hi hne ?_))))
  dsimp only
  have k : ∀ b o, h.get? b = some o → ((h.push emptyDict).push (instObj C h.objs.size)).get? b = some o := fun b o e => Heap.get?_push_of_some _ (Heap.get?_push_of_some _ e)
  have hx : ((h.push emptyDict).push (instObj C h.objs.size)).get? (h.objs.size + 1) = some (instObj C h.objs.size) := by heap_get
  have t1 : Looks (model prog w) ((h.push emptyDict).push (instObj C h.objs.size)) (typeOf (.ref (h.objs.size + 1))) (.ref C) := (Looks.ld hx).andThen .now
  have s1 := self.keeps k
  have i1 := hi.keeps k
  have b1 := (hb (.ref (h.objs.size + 1))).keeps k
  refine wpC_seq ?_
  unfold isInstance
  refine wpAny_bind (t1.at (s1.at ?_))
  refine wpC_if_false rfl ?_
  refine wpC_bind (wpC_holding ?_)
  unfold callSpecial? specialOf
  refine wpC_seq (wpAny_bind (t1.at (i1.at ?_)))
  dsimp only
  refine wpC_holding (wpC_seq (b1.at ?_))
  dsimp only
  refine wpC_bind (wpC_call (codeC_mono hq fun r s' z => ?_))
  rcases r with e | (v | _ | _ | _) <;> first | exact z | exact z.elim | skip
  obtain ⟨rfl, z⟩ := z
  exact wpC_pure (wpC_pure z)
end
section
variable {prog : Program} {w : World} {A A₀ : Around} {E : Value → Shared → Prop} {s : Shared} {K : Frag} {C L : Addr} {h₀ base : Heap} {m mg mb : Str → Option Value} {news : List (Addr × Obj)} {Q : Value → Shared → Prop}
theorem C_cls {pos : List Value} {fI : Addr} (F : Fr h₀ L s.heap m) (X₀ : K.In h₀) (N : News h₀ L s.heap news) (hm : makesIn K C = true) (hi : findIn K (.ref C) "__init__" = some (some (.ref fI))) (hf : isFn K (.ref fI) = true)
    (h : ∀ x dx h', Fr h₀ L h' m → News h₀ L h' ((x, instObj C dx) :: (dx, dictOf [] 0) :: news) → (∀ p ∈ news, p.1 < dx) → dx < x →
      codeC (model prog w) (A.under (.builtin "type.__call__" ⟨.ref C :: pos, []⟩)) (.call (.ref fI) ⟨.ref x :: pos, []⟩) (InitBack x fun r s' => match r with | .ok (.ret v) => Q v s' | .ok _ => False | .error e => E e s') { s with heap := h' }) :
    wpC (model prog w) A (call (.ref C) pos []) Q E s := by
  refine wpC_call ?_
  have X := X₀.keeps F.keep
  obtain ⟨hh, g, d, t, os⟩ := s
  refine make_coreC (makes_of X hm) (looks_findIn X hi) (fun self => bind_fn X self (beq_iff_eq.mp hf)) (.inl rfl) (h _ hh.objs.size _ ((F.push _).push _) ?_ (fun p hp => Heap.lt_size (N p hp).1) (Nat.lt_succ_self _))
  have := (N.push F emptyDict).push (F.push _) (instObj C hh.objs.size)
  rwa [Heap.size_push] at this
theorem n_set {x dx : Addr} {ox : Obj} {es : List DictEntry} {es' : Tok → List DictEntry} {n n' : Nat} {name : Str} {v : Value} {hp : Heap} {g : Array GenState} {dr : Drawn} {tk : Nat} {os : OsState} {news' : Tok → List (Addr × Obj)} {Q : Unit → Shared → Prop} (F : Fr h₀ L hp m) (X₀ : K.In h₀) (N : News h₀ L hp news) (I : InstAt hp x ox C (some (dictOf es n))) (hd : ox.dict = some dx)
    (hs : findIn K (.ref C) "__setattr__" = some (some (.builtin "object.__setattr__"))) (hp' : plainOver K C = true) (ht : takerIn K C name = some none) (hh : hasDictIn K C = true) (hl : (getL name es).isSome = true)
    (e : ∀ kt : Tok, (putL name (PyData.keyHash w.params name) (.str name kt) v es, putN name es n) = (es' kt, n')) (U : ∀ kt : Tok, Upd dx (dictOf es n) (dictOf (es' kt) n') news (news' kt)) (hz : ∀ kt : Tok, (es' kt).length ≤ 1000)
    (h : ∀ (kt : Tok) h' k, Fr h₀ L h' m → News h₀ L h' (news' kt) → Q () ⟨h', g, dr, k, os⟩) :
    wpAny (model prog w) A (setAttr (.ref x) name v) Q E ⟨hp, g, dr, tk, os⟩ :=
  set_dict (s := ⟨hp, g, dr, tk, os⟩) F X₀ N I hd hs hp' ht hh hl (e _) (U _) (hz _) fun h' F' N' => h _ h' _ F' N'
end
section
variable {prog : Program} {w : World} {A : Around} {E : Value → Shared → Prop} {s : Shared} {Q : Value → Shared → Prop}
theorem BA.look_bytes : typeLookup (.type "bytes") "__bytes__" = pure (some (.builtin "bytes.__bytes__")) := by rw [typeLookup_type, builtinLookup_eq_fast]; kernel_rfl
theorem bytes_bytes {x : List UInt8} {t : Tok} (hQ : ∀ t k, Q (.bytes x.toArray t) { s with toks := k }) :
    wpAny (model prog w) A (call (.type "bytes") [.bytes x.toArray t]) Q E s := by
  refine bytes_via (fun {A' P E'} hP => ?_) hQ
  unfold Builtin.«bytes.__new__»
  refine wpAny_bind (wpAny_of_eq (a := true) rfl ?_)
  refine bm_if_false rfl ?_
  refine wpAny_bind (wpAny_of_eq F.bm_sub ?_)
  refine bm_if_false rfl ?_
  refine wpAny_bind (wpAny_of_eq (F.bm_bind _) ?_)
  refine wpAny_bind (wpAny_of_eq (a := ()) rfl ?_)
  refine wpAny_bind (wpAny_of_eq (a := ()) rfl ?_)
  refine bm_if_false rfl ?_
  refine wpAny_bind (wpAny_specialOf (PySem.W.typeIs_bytes s _ t) BA.look_bytes ?_)
  refine wpAny_bind (wpAny_rule ?_)
  refine wpAny_bind (wpAny_typeOf (PySem.W.typeIs_bytes s _ t) ?_)
  refine bm_if_true (by decide) ?_
  refine bm_if_true (by decide) ?_
  first
    | exact wpAny_pure (hP t s.toks)
    | exact wpAny_bind (wpAny_pure (wpAny_pure (hP t s.toks)))
end
end Mine
end
section
open PySem PySem.W PySem.Calls PyProof.Rows
set_option Elab.async false
set_option maxRecDepth 100000
set_option maxHeartbeats 2000000
namespace Mine
local macro_rules | `(tactic| cell_enter) => `(tactic| ((case kS => k_asm); (case k6 => k_is); (case k7 => k_is); (case k8 => ktr_room); (case k9 => exact BindsTo.of_eq rfl); (case c5 => decide); (case kB => exact locs rfl); (case c2 => exact rfl); (case c3 => exact rfl); (case c4 => exact rfl); k_whole; intro g' L' h' F' N' B' X' T' kg'; (try dsimp only at F'); (try dsimp only); (try k_fold)))
local macro_rules | `(tactic| k_lt $h:ident) => `(tactic| (replace $h := allNe_of $h; simp only [AllNe, and_true] at $h:ident))
local macro_rules | `(tactic| k_all) => `(tactic| exact ne_tail (by assumption))
local macro_rules | `(tactic| omega) => `(tactic| k_extra "pre2|q_om")
def rowsFor (ps : List (String × List String)) (k : String) : List String := ps.filterMap fun p => if p.2.contains k then some (p.1 ++ "|" ++ k) else none
def kp_pre2 : List String := ["cell_enterC", "cell_enterZ", "LeaveW", "subscriptTail Name Constant ref int", "subscriptTail Name Name ref int", "binaryOp Mod int int", "binaryOp FloorDiv int int", "binaryOp Mult int int", "binaryOp Add int int", "binaryOp Sub int int", "eval Constant int", "b_om", "b_sz", "b_nn", "call builtin:len ref", "call builtin:len", "getMethod ref", "call type:bytes", "subscriptTail", "subscriptTail Name Slice ref ref", "subscriptTail Attribute Name Slice ref ref", "subscriptTail Attribute", "wpC", "b_ne0", "binaryOp Pow int int", "call builtin:int.to_bytes", "call ref", "binaryOp Add bytes bytes", "binaryOp Mult bytes int", "compareOp Eq bytes bytes", "compareOp NotEq bytes bytes", "eval Constant bytes", "subscriptTail Name Name bytes int", "subscriptTail Name Constant bytes int", "subscriptTail Name BinOp bytes int", "call type:int", "call builtin:max", "exec For Name Call cons nil", "subscriptTail List Call ref int", "subscriptTail List", "cell_enterZC", "enterCK_cases", "setAttr ref", "inl", "call builtin:list.append", "exec For Tuple Attribute cons nil", "execs cons", "q_me", "q_st0", "q_st1", "q_st2", "q_st3", "q_st4", "q_st5", "q_st6", "q_st7", "q_st8", "q_st9", "q_st10", "q_st11", "q_st12", "q_st13", "q_st14", "q_om", "q_sz"]
theorem setup_pre2 : True := by
  k_with_none
  (k_with "pre2|cell_enterC" => ((case kS => k_asm); (case k6 => k_is); (case k7 => k_is); (case k8 => ktr_room); (case k9 => exact BindsTo.of_eq rfl); (case c5 => decide); (case kB => exact locs rfl); (case c2 => exact rfl); (case c3 => exact rfl); (case c4 => exact rfl); k_whole; intro zg' zL' zh' zF' zN' zB' zX' zT' zkg' zqk zek; (try dsimp only at zF')))
  (k_with "pre2|cell_enterZ" => ((case kS => k_asm); (case k6 => k_is); (case k7 => k_is); (case k8 => ktr_room); (case k9 => exact BindsTo.of_eq rfl); (case c5 => decide); (case kB => exact locs rfl); (case c2 => exact rfl); (case c3 => exact rfl); (case c4 => exact rfl); k_whole; intro zg' zL' zh' zF' zN' zB' zX' zT' zkg' zqk; (try dsimp only at zF')))
  (k_with "pre2|LeaveW" => (k_dflt (refine' leaveW_ ?k1 ?k2 ?_; (case k1 => k_asm); (case k2 => k_asm); k_whole); intro zkK zkN; (try dsimp only)))
  (k_with "pre2|subscriptTail Name Constant ref int" => (k_here; (with_reducible show wpAny _ _ (subscriptTail _ _ (Value.ref _) (Value.int _ _)) _ _ _); k_dflt (refine' r_item ?N ?hm ?h0 ?h1 ?hx ?_ ?hs; (case N => k_asm); (case hm => k_mem); (case h0 => decide); (case h1 => decide); (case hx => rfl); (case hs => with_unfolding_all rfl); k_whole)))
  (k_with "pre2|subscriptTail Name Name ref int" => (k_here; (with_reducible show wpAny _ _ (subscriptTail _ _ (Value.ref _) (Value.int _ _)) _ _ _); k_dflt (refine' r_item ?N ?hm ?h0 ?h1 ?hx ?_ ?hs; (case N => k_asm); (case hm => k_mem); (case h0 => decide); (case h1 => decide); (case hx => rfl); (case hs => with_unfolding_all rfl); k_whole)))
  (k_with "pre2|binaryOp Mod int int" => (k_here; refine r_mod (by omega) ?_; intro _ _))
  (k_with "pre2|binaryOp FloorDiv int int" => (k_here; refine r_div (by omega) (by omega) ?_; intro _ _))
  (k_with "pre2|binaryOp Mult int int" => (k_here; refine r_mul (by omega) (by omega) ?_; intro _ _))
  (k_with "pre2|binaryOp Add int int" => (k_here; refine r_add ?_; intro _ _))
  (k_with "pre2|binaryOp Sub int int" => (k_here; refine r_sub ?_; intro _ _))
  (k_with "pre2|eval Constant int" => (k_here; refine r_const ?_; intro _ _))
  (k_with "pre2|b_om" => (simp only [List.length_append, List.length_replicate, List.length_cons, List.length_nil, Nat.zero_add, putAt, cut, be4, List.length_take, List.length_drop, Option.elim] <;> omega))
  (k_with "pre2|b_om" => omega)
  (k_with "pre2|b_sz" => walk_at "b_om")
  (k_with "pre2|b_nn" => (intro zk zhk; (first | cases zhk | skip); omega))
  (k_with "pre2|b_nn" => (intro zk zhk; cases zhk; done))
  (k_with "pre2|call builtin:len ref" => (k_here; k_dflt (refine' n_len ?N ?hm ?hz ?_; (case N => k_asm); (case hm => k_mem); (case hz => walk_at "b_sz"); k_whole); intro _ _))
  (k_with "pre2|call builtin:len" => (k_here; (with_reducible show wpAny _ _ (call _ [Value.ref _]) _ _ _); k_dflt (refine' n_len ?N ?hm ?hz ?_; (case N => k_asm); (case hm => k_mem); (case hz => walk_at "b_sz"); k_whole); intro _ _))
  (k_with "pre2|call builtin:len" => (k_here; (with_reducible show wpAny _ _ (call _ [Value.bytes _ _]) _ _ _); k_dflt (refine' b_len ?hz ?_; (case hz => walk_at "b_sz"); k_whole); intro _ _))
  (k_with "pre2|getMethod ref" => (k_here; (with_reducible show wpAny _ _ (getMethod (Value.ref _) (PySem.Str.ofString "extend") _) _ _ _); k_dflt (refine' n_extendM ?N ?hm ?_; (case N => k_asm); (case hm => k_mem); k_whole)))
  (k_with "pre2|call type:bytes" => (k_here; (with_reducible show wpAny _ _ (call _ [Value.int _ _]) _ _ _); k_dflt (refine' n_zeros ?h0 ?h1 ?_; (case h0 => walk_at "b_om"); (case h1 => walk_at "b_om"); k_whole); intro _ _))
  (k_with "pre2|call type:bytes" => (k_here; (with_reducible show wpAny _ _ (call _ [Value.ref _]) _ _ _); k_dflt (refine' n_bytes ?N ?hm ?hz ?_; (case N => k_asm); (case hm => k_mem); (case hz => walk_at "b_sz"); k_whole); intro _ _))
  (k_with "pre2|subscriptTail" => (k_here; (with_reducible show wpAny _ _ (subscriptTail _ (PySem.Expr.Slice _ _ none _) (Value.bytes _ _) (Value.ref _)) _ _ _); k_dflt (refine' b_slice ?F ?N ?l ?u ?hz ?h1 ?h2 ?_ ?hs ?ht; (case F => k_asm); (case N => k_asm); (case l => constructor); (case u => constructor); (case hz => walk_at "b_sz"); (case h1 => walk_at "b_nn"); (case h2 => walk_at "b_nn"); (case hs => with_unfolding_all rfl); (case ht => intro _; with_unfolding_all rfl); k_whole); intro zh' _ _ zF' zN'; (try k_sweep)))
  (k_with "pre2|subscriptTail Name Slice ref ref" => (k_here; (with_reducible show wpAny _ _ (subscriptTail _ (PySem.Expr.Slice _ _ none _) (Value.ref _) (Value.ref _)) _ _ _); k_dflt (refine' n_get ?F ?N ?hm ?l ?u ?hz ?h1 ?h2 ?_ ?hs ?ht; (case F => k_asm); (case N => k_asm); (case hm => k_mem); (case l => constructor); (case u => constructor); (case hz => walk_at "b_sz"); (case h1 => walk_at "b_nn"); (case h2 => walk_at "b_nn"); (case hs => with_unfolding_all rfl); (case ht => intro _; with_unfolding_all rfl); k_whole); intro zd' zh' zF' zN' zl1; (try k_lt zl1); (try k_sweep)))
  (k_with "pre2|subscriptTail Attribute Name Slice ref ref" => walk_at "subscriptTail Name Slice ref ref")
  (k_with "pre2|subscriptTail Attribute" => walk_at "subscriptTail Name Slice ref ref")
  (k_with "pre2|wpC" => (first
  | ((with_reducible show wpC _ _ (execs [] _) _ _ _); refine C_nil ?_; (try dsimp only))
  | ((with_reducible show wpC _ _ (execs (_ :: _) _) _ _ _); refine C_consL ?_; intro zqs)
  | ((with_reducible show wpC _ _ (exec (Stmt.If _ _ _ _) _) _ _ _); k_dflt (refine C_If ?_))
  | ((with_reducible show wpC _ _ (exec (Stmt.Return (some _) _) _) _ _ _); k_dflt (refine C_Return ?_))
  | ((with_reducible show wpC _ _ (exec (Stmt.Return none _) _) _ _ _); refine C_Return0 ?_; (try dsimp only))
  | ((with_reducible show wpC _ _ (exec (Stmt.Expr _ _) _) _ _ _); k_dflt (refine C_Expr ?_))
  | ((with_reducible show wpC _ _ (exec (Stmt.Assign [PySem.Expr.Name _ _] _ _) _) _ _ _); k_dflt (refine C_Assign_Name ?_))
  | ((with_reducible show wpC _ _ (exec (Stmt.Assign [PySem.Expr.Attribute _ _ _] _ _) _) _ _ _); k_dflt (refine C_Assign_Attribute ?_ (by with_unfolding_all rfl)))
  | ((with_reducible show wpC _ _ (exec (Stmt.Assign [PySem.Expr.Subscript _ _ _] _ _) _) _ _ _); k_dflt (refine C_Assign_Subscript ?_ (by with_unfolding_all rfl)))
  | ((with_reducible show wpC _ _ (exec (Stmt.Delete [PySem.Expr.Subscript _ _ _] _) _) _ _ _); k_dflt (refine C_Delete_Subscript ?_))
  | ((with_reducible show wpC _ _ (eval (PySem.Expr.Call (PySem.Expr.Attribute _ _ _) _ [] _) _) _ _ _); k_dflt (refine C_Method ?_))
  | ((with_reducible show wpC _ _ (eval (PySem.Expr.Call _ _ [] _) _) _ _ _); k_dflt (refine C_Call ?_))
  | ((with_reducible show wpC _ _ (callWith _ (Value.builtin _) _ (backTo _ (starEach (_ :: _) _)) []) _ _ _); k_dflt (refine C_builtin1 ?_))
  | ((with_reducible show wpC _ _ (callWith _ (Value.type _) [] (backTo _ (starEach (_ :: _) _)) []) _ _ _); k_dflt (refine C_type1 ?_))
  | ((with_reducible show wpC _ _ (callWith _ (Value.type _) [] (backTo _ (starEach [] _)) []) _ _ _); k_dflt (refine C_type0 ?_))
  | ((with_reducible show wpC _ _ (callWith _ (Value.ref _) _ (backTo _ (starEach (_ :: _) _)) []) _ _ _); k_dflt (refine' C_callWith_K ?k1 ?k2 ?_; (case k1 => k_asm); (case k2 => k_is); k_whole))
  | ((with_reducible show wpC _ _ (callWith _ (Value.ref _) _ (backTo _ (starEach [] _)) []) _ _ _); k_dflt (refine' C_callWith_K0 ?k1 ?k2 ?_; (case k1 => k_in); (case k2 => k_is); k_whole))
  | ((with_reducible show wpC _ _ (call (Value.builtin "bytearray.extend") _) _ _ _); k_dflt (refine' n_extend ?F ?N ?hz ?U ?_; (case F => k_asm); (case N => k_asm); (case U => k_upd); (case hz => walk_at "b_sz"); k_whole); intro zh' zF' zN'; (try k_sweep))
  | ((with_reducible show wpC _ _ (setItem (Value.ref _) (Value.ref _) (Value.bytes _ _)) _ _ _); k_dflt (refine' n_setitem ?F ?N ?h0 ?he ?hk ?hz ?U ?_; (case F => k_asm); (case N => k_asm); (case U => k_upd); (case h0 => walk_at "b_om"); (case he => walk_at "b_om"); (case hk => walk_at "b_om"); (case hz => walk_at "b_sz"); k_whole); intro zh' zF' zN'; (try k_sweep))
  | ((with_reducible show wpC _ _ (delItem (Value.ref _) (Value.ref _)) _ _ _); k_dflt (refine' n_delitem ?F ?N ?h0 ?hk ?hz ?U ?_; (case F => k_asm); (case N => k_asm); (case U => k_upd); (case h0 => walk_at "b_om"); (case hk => walk_at "b_om"); (case hz => walk_at "b_sz"); k_whole); intro zh' zF' zN'; (try k_sweep))
  | ((with_reducible show wpC _ _ (call (Value.type "bytearray") []) _ _ _); k_dflt (refine' n_ba0 ?F ?N ?_; (case F => k_asm); (case N => k_asm); k_whole); intro zd' zh' zF' zN' zl1; (try k_lt zl1); (try k_sweep))
  | ((with_reducible show wpC _ _ (call (Value.type "bytearray") [_]) _ _ _); k_dflt (refine' n_ba1 ?F ?N ?hz ?_; (case F => k_asm); (case N => k_asm); (case hz => walk_at "b_sz"); k_whole); intro zd' zh' zF' zN' zl1; (try k_lt zl1); (try k_sweep))
  | (refine wpC_of ?_)))
  (k_with "pre2|b_ne0" => (intro ze; simp at ze))
  (k_with "pre2|b_ne0" => (intro ze; have e' := congrArg List.length ze; simp only [List.length_nil] at e'; omega))
  (k_with "pre2|binaryOp Pow int int" => (k_here; k_dflt (first | refine r_pow32 ?_ | refine r_pow18 ?_); intro _ _))
  (k_with "pre2|binaryOp Mod int int" => (k_here; refine r_mod (by omega) ?_; intro _ _))
  (k_with "pre2|call builtin:int.to_bytes" => (k_here; k_dflt (refine' b_to4 ?h0 ?h1 ?_; (case h0 => omega); (case h1 => omega); k_whole); intro _ _))
  (k_with "pre2|call ref" => (k_here; (with_reducible show wpAny _ _ (call (Value.ref _) [Value.bytes _ _, Value.str _ _]) _ _ _); k_dflt (refine' b_from ?N ?hm ?hz ?_; (case N => k_asm); (case hm => k_mem); (case hz => walk_at "b_sz"); k_whole); intro _ _))
  (k_with "pre2|binaryOp Add bytes bytes" => (k_here; k_dflt (refine' b_add ?hz ?_; (case hz => walk_at "b_sz"); k_whole); intro _ _))
  (k_with "pre2|binaryOp Mult bytes int" => (k_here; k_dflt (refine' b_mul ?hb ?h2 ?hn ?hz ?_; (case hb => walk_at "b_ne0"); (case h2 => omega); (case hn => omega); (case hz => walk_at "b_sz"); k_whole); intro _ _))
  (k_with "pre2|compareOp Eq bytes bytes" => (k_here; k_dflt (refine b_eq ?_)))
  (k_with "pre2|compareOp NotEq bytes bytes" => (k_here; k_dflt (refine b_ne ?_)))
  (k_with "pre2|eval Constant bytes" => (k_here; k_dflt (refine b_const ?_); intro _ _))
  (k_with "pre2|subscriptTail Name Name bytes int" => (k_here; k_dflt (refine' b_item ?hz ?h0 ?h1 ?_ ?hs ?ht; (case hz => walk_at "b_sz"); (case h0 => walk_at "b_om"); (case h1 => walk_at "b_om"); (case hs => with_unfolding_all rfl); (case ht => intro _; with_unfolding_all rfl); k_whole); intro _ _))
  (k_with "pre2|subscriptTail Name Constant bytes int" => (k_here; k_dflt (refine' b_item ?hz ?h0 ?h1 ?_ ?hs ?ht; (case hz => walk_at "b_sz"); (case h0 => walk_at "b_om"); (case h1 => walk_at "b_om"); (case hs => with_unfolding_all rfl); (case ht => intro _; with_unfolding_all rfl); k_whole); intro _ _))
  (k_with "pre2|subscriptTail Name BinOp bytes int" => (k_here; k_dflt (refine' b_item ?hz ?h0 ?h1 ?_ ?hs ?ht; (case hz => walk_at "b_sz"); (case h0 => walk_at "b_om"); (case h1 => walk_at "b_om"); (case hs => with_unfolding_all rfl); (case ht => intro _; with_unfolding_all rfl); k_whole); intro _ _))
  (k_with "pre2|call type:bytes" => (k_here; (with_reducible show wpAny _ _ (call _ [Value.ref _]) _ _ _); k_dflt (refine' n_bytes1 ?F ?N ?hh ?hm ?h0 ?h1 ?_; (case F => k_asm); (case N => k_asm); (case hh => rfl); (case hm => k_mem); (case h0 => omega); (case h1 => omega); k_whole); intro zh' _ _ zF' zN'; (try k_sweep)))
  (k_with "pre2|call type:int" => (k_here; (with_reducible show wpAny _ _ (call _ [Value.bool _]) _ _ _); k_dflt (refine r_intb ?_); intro _ _))
  (k_with "pre2|call builtin:max" => (k_here; (with_reducible show wpAny _ _ (call _ [Value.int _ _, Value.int _ _]) _ _ _); k_dflt (refine' r_max ?F ?N ?hh ?_; (case F => k_asm); (case N => k_asm); (case hh => rfl); k_whole); intro zh' _ _ zF' zN'; (try k_sweep)))
  (k_with "pre2|exec For Name Call cons nil" => (k_here; k_dflt (refine' For_rng ?F ?hx ?hp ?hh ?_ ?hs; (case F => k_asm); (case hx => rfl); (case hp => rfl); (case hh => rfl); (case hs => intro _; rfl); k_whole)))
  (k_with "pre2|binaryOp Mult int int" => (k_here; (with_reducible show wpAny _ _ (binaryOp _ (Value.int (Nat.cast (UInt8.toNat _)) _) _) _ _ _); k_dflt (refine r_mulb ?_); intro _ _))
  (k_with "pre2|subscriptTail List Call ref int" => (k_here; (with_reducible show wpAny _ _ (subscriptTail _ _ (Value.ref _) (Value.int _ _)) _ _ _); k_dflt (refine' r_itemI ?N ?hm ?h0 ?h1 ?h2 ?hv ?_ ?hs; (case N => k_asm); (case hm => k_mem); (case h0 => omega); (case h1 => (simp only [List.length_cons, List.length_nil]; omega)); (case h2 => (simp only [List.length_cons, List.length_nil]; omega)); (case zhv => (intro zv zhv; simp only [List.mem_cons, List.not_mem_nil, or_false] at zhv; rcases zhv with rfl | rfl | rfl | rfl | rfl | rfl <;> exact ⟨_, _, rfl⟩)); (case hs => with_unfolding_all rfl); k_whole); intro _ _))
  (k_with "pre2|subscriptTail List" => (k_here; (with_reducible show wpAny _ _ (subscriptTail _ _ (Value.ref _) (Value.int _ _)) _ _ _); k_dflt (refine' r_itemI ?N ?hm ?h0 ?h1 ?h2 ?hv ?_ ?hs; (case N => k_asm); (case hm => k_mem); (case h0 => omega); (case h1 => (simp only [List.length_cons, List.length_nil]; omega)); (case h2 => (simp only [List.length_cons, List.length_nil]; omega)); (case zhv => (intro zv zhv; simp only [List.mem_cons, List.not_mem_nil, or_false] at zhv; rcases zhv with rfl | rfl | rfl | rfl | rfl | rfl <;> exact ⟨_, _, rfl⟩)); (case hs => with_unfolding_all rfl); k_whole); intro _ _))
  (k_with "pre2|cell_enterZC" => ((case kS => k_asm); (case k6 => k_is); (case k7 => k_is); (case k8 => ktr_room); (case k9 => exact BindsTo.of_eq rfl); (case kB => exact rfl); (case kD => decide +kernel); (case c2 => exact rfl); (case c3 => exact rfl); (case c4 => exact rfl); k_whole; intro zg' zL' zh' ztk' zcells' zF' zN' zY' zB' zX' zT' zkg' zl1 zqk; (try k_lt zl1); k_cells zY'; (try simp only [List.cons_append, List.nil_append] at zN'); (try dsimp only at zF')))
  (k_with "pre2|enterCK_cases" => ((case kA => exact rfl); (case kF => exact rfl); (case kK => first | assumption | exact rfl); (case k1 => k_asm); (case k2 => k_asm); (case k3 => k_asm); (case k4 => k_asm); (case k5 => k_asm); (case k6 => k_is); (case k7 => k_is); (case k8 => ktr_room); (case k9 => exact BindsTo.of_eq rfl); (case c5 => decide); (case kB => exact locs rfl); (case c2 => exact rfl); (case c3 => exact rfl); (case c4 => exact rfl); k_whole; intro zg' zL' zh' zFG' zF' zN' zB' zX' zT' zqk zek; (try dsimp only at zF')))
  (k_with "pre2|setAttr ref" => (k_here; k_dflt (refine' n_set ?k1 ?k2 ?k3 ?k4 ?k5 ?k6 ?k7 ?k8 ?k9 ?k10 ?k11 ?k12 ?k13 ?_; (case k1 => k_asm); (case k2 => k_asm); (case k3 => k_asm); (case k4 => k_inst); (case k5 => exact rfl); (case k6 => k_is); (case k7 => k_is); (case k8 => k_is); (case k9 => k_is); (case k10 => k_get); (case k11 => intro zkt; k_put); (case k12 => intro zkt; k_upd); (case k13 => intro zkt; exact Nat.le_of_ble_eq_true rfl); k_whole; intro zkt zh' _ zF' zN'; (try dsimp only at zN'); (try k_sweep))))
  (k_with "pre2|inl" => (refine' code_def ?k1 ?k2 ?k3 ?k4 ?k5 ?kA ?kF ?kK ?k6 ?k7 ?k8 ?k9 ?kB ?_ ?c2 ?c3 ?c4 ?c5; (case kA => exact rfl); (case kF => exact rfl); (case kK => first | exact rfl | assumption); (case k1 => k_asm); (case k2 => k_asm); (case k3 => k_asm); (case k4 => k_asm); (case k5 => k_asm); (case k6 => k_is); (case k7 => k_is); (case k8 => ktr_room); (case k9 => first | exact BindsTo.of_eq rfl | exact binds_K (by k_in) rfl (by k_is) rfl rfl rfl); (case c5 => decide); (case kB => exact locs rfl); (case c2 => exact rfl); (case c3 => exact rfl); (case c4 => exact rfl); k_whole; intro zg' zL' zh' zFG' zF' zN' zB' zX' zT'; (try dsimp only at zF'); (try dsimp only); (try k_fold)))
  (k_with "pre2|call ref" => (k_here; k_dflt (refine wpAny_call ?_; walk_at "inl")))
  (k_with "pre2|call type:bytes" => (k_here; (with_reducible show wpAny _ _ (call _ [Value.bytes _ _]) _ _ _); k_dflt (refine bytes_bytes (s := ⟨_, _, _, _, _⟩) ?_); intro _ _; (try dsimp only)))
  (k_with "pre2|call builtin:list.append" => (k_here; (with_reducible show wpAny _ _ (call (Value.builtin _) [Value.ref _, _]) _ _ _); k_dflt (refine' append_K ?k1 ?k2 ?k3 ?_ ?z; (case k1 => k_asm); (case k2 => k_asm); (case k3 => k_upd); (case z => (rw [sizeLine_eq]; omega)); k_whole); intro zh' zF' zN'; (try k_sweep)))
  (k_with "pre2|exec For Tuple Attribute cons nil" => ktu_for)
  (k_with "pre2|execs cons" => (first | (k_here; k_gentoks) | ((with_reducible refine execs_consL ?_); intro zqs)))
  (k_with "pre2|q_me" => (first | ((case sta => k_extra "pre2|q_st14"); (case stb => exact rfl); (case stc => exact rfl); (case sth => (repeat (refine ⟨?_, ?_⟩; with_unfolding_all rfl)); exact trivial)) | ((case sta => k_extra "pre2|q_st13"); (case stb => exact rfl); (case stc => exact rfl); (case sth => (repeat (refine ⟨?_, ?_⟩; with_unfolding_all rfl)); exact trivial)) | ((case sta => k_extra "pre2|q_st12"); (case stb => exact rfl); (case stc => exact rfl); (case sth => (repeat (refine ⟨?_, ?_⟩; with_unfolding_all rfl)); exact trivial)) | ((case sta => k_extra "pre2|q_st11"); (case stb => exact rfl); (case stc => exact rfl); (case sth => (repeat (refine ⟨?_, ?_⟩; with_unfolding_all rfl)); exact trivial)) | ((case sta => k_extra "pre2|q_st10"); (case stb => exact rfl); (case stc => exact rfl); (case sth => (repeat (refine ⟨?_, ?_⟩; with_unfolding_all rfl)); exact trivial)) | ((case sta => k_extra "pre2|q_st9"); (case stb => exact rfl); (case stc => exact rfl); (case sth => (repeat (refine ⟨?_, ?_⟩; with_unfolding_all rfl)); exact trivial)) | ((case sta => k_extra "pre2|q_st8"); (case stb => exact rfl); (case stc => exact rfl); (case sth => (repeat (refine ⟨?_, ?_⟩; with_unfolding_all rfl)); exact trivial)) | ((case sta => k_extra "pre2|q_st7"); (case stb => exact rfl); (case stc => exact rfl); (case sth => (repeat (refine ⟨?_, ?_⟩; with_unfolding_all rfl)); exact trivial)) | ((case sta => k_extra "pre2|q_st6"); (case stb => exact rfl); (case stc => exact rfl); (case sth => (repeat (refine ⟨?_, ?_⟩; with_unfolding_all rfl)); exact trivial)) | ((case sta => k_extra "pre2|q_st5"); (case stb => exact rfl); (case stc => exact rfl); (case sth => (repeat (refine ⟨?_, ?_⟩; with_unfolding_all rfl)); exact trivial)) | ((case sta => k_extra "pre2|q_st4"); (case stb => exact rfl); (case stc => exact rfl); (case sth => (repeat (refine ⟨?_, ?_⟩; with_unfolding_all rfl)); exact trivial)) | ((case sta => k_extra "pre2|q_st3"); (case stb => exact rfl); (case stc => exact rfl); (case sth => (repeat (refine ⟨?_, ?_⟩; with_unfolding_all rfl)); exact trivial)) | ((case sta => k_extra "pre2|q_st2"); (case stb => exact rfl); (case stc => exact rfl); (case sth => (repeat (refine ⟨?_, ?_⟩; with_unfolding_all rfl)); exact trivial)) | ((case sta => k_extra "pre2|q_st1"); (case stb => exact rfl); (case stc => exact rfl); (case sth => (repeat (refine ⟨?_, ?_⟩; with_unfolding_all rfl)); exact trivial)) | ((case sta => k_extra "pre2|q_st0"); (case stb => exact rfl); (case stc => exact rfl); (case sth => (repeat (refine ⟨?_, ?_⟩; with_unfolding_all rfl)); exact trivial))))
  (k_with "pre2|q_st0" => exact st_end)
  (k_with "pre2|q_st1" => (with_reducible refine' st_step ?stx; (case stx => k_extra "pre2|q_st0")))
  (k_with "pre2|q_st2" => (with_reducible refine' st_step ?stx; (case stx => k_extra "pre2|q_st1")))
  (k_with "pre2|q_st3" => (with_reducible refine' st_step ?stx; (case stx => k_extra "pre2|q_st2")))
  (k_with "pre2|q_st4" => (with_reducible refine' st_step ?stx; (case stx => k_extra "pre2|q_st3")))
  (k_with "pre2|q_st5" => (with_reducible refine' st_step ?stx; (case stx => k_extra "pre2|q_st4")))
  (k_with "pre2|q_st6" => (with_reducible refine' st_step ?stx; (case stx => k_extra "pre2|q_st5")))
  (k_with "pre2|q_st7" => (with_reducible refine' st_step ?stx; (case stx => k_extra "pre2|q_st6")))
  (k_with "pre2|q_st8" => (with_reducible refine' st_step ?stx; (case stx => k_extra "pre2|q_st7")))
  (k_with "pre2|q_st9" => (with_reducible refine' st_step ?stx; (case stx => k_extra "pre2|q_st8")))
  (k_with "pre2|q_st10" => (with_reducible refine' st_step ?stx; (case stx => k_extra "pre2|q_st9")))
  (k_with "pre2|q_st11" => (with_reducible refine' st_step ?stx; (case stx => k_extra "pre2|q_st10")))
  (k_with "pre2|q_st12" => (with_reducible refine' st_step ?stx; (case stx => k_extra "pre2|q_st11")))
  (k_with "pre2|q_st13" => (with_reducible refine' st_step ?stx; (case stx => k_extra "pre2|q_st12")))
  (k_with "pre2|q_st14" => (with_reducible refine' st_step ?stx; (case stx => k_extra "pre2|q_st13")))
  (k_with "pre2|q_om" => with_reducible (first | assumption | (refine' rm2 ?oma ?omb; (case oma => assumption); (case omb => k_dflt (exact rfl))) | (refine' rm1 ?oma ?omb; (case oma => assumption); (case omb => k_dflt (exact rfl))) | (refine' rm3 ?oma ?omb; (case oma => assumption); (case omb => k_dflt (exact rfl))) | (refine' rm4 ?oma ?omb; (case oma => assumption); (case omb => k_dflt (exact rfl))) | (refine' le_up ?oma ?omb; (case oma => assumption); (case omb => k_dflt (exact rfl))) | (refine' ge_dn ?oma ?omb; (case oma => assumption); (case omb => k_dflt (exact rfl))) | (refine' rm0 ?oma; (case oma => assumption)) | (refine' Ne.symm ?oma; (case oma => assumption)) | (refine' hb1 ?oma; (case oma => assumption)) | (refine' hb7 ?oma; (case oma => assumption)) | (refine' hb5 ?oma; (case oma => assumption)) | (refine' hb3 ?oma; (case oma => assumption)) | (refine' hb8 ?oma; (case oma => assumption)) | (refine' hb9 ?oma; (case oma => assumption)) | (refine' hb2 ?oma; (case oma => assumption)) | (refine' hb4 ?oma; (case oma => assumption)) | (refine' hb6 ?oma; (case oma => assumption)) | (refine' hb7a ?oma; (case oma => assumption)) | (refine' hb7b ?oma; (case oma => assumption)) | (refine' hb7c ?oma; (case oma => assumption)) | (refine' hb1a ?oma; (case oma => assumption)) | (refine' hb1b ?oma; (case oma => assumption)) | (refine' hb1c ?oma; (case oma => assumption)) | (refine' hb1d ?oma; (case oma => assumption)) | (refine' hb5a ?oma; (case oma => assumption)) | (refine' hb5b ?oma; (case oma => assumption)) | (refine' hb1n ?oma; (case oma => assumption)) | (refine' pg_lo ?oma; (case oma => assumption)) | (refine' pg_hi ?oma; (case oma => assumption)) | (refine' at_in1 ?oma ?omb ?omc ?omd; (case oma => assumption); (case omb => assumption); (case omc => assumption); (case omd => assumption)) | (refine' at_in2 ?oma ?omb ?omc ?omd ?ome; (case oma => assumption); (case omb => assumption); (case omc => assumption); (case omd => assumption); (case ome => k_dflt (exact rfl))) | (refine' nn4 ?oma ?omb; (case oma => assumption); (case omb => k_extra "pre2|q_om")) | (refine' nn2 ?oma; (case oma => assumption)) | (refine' nn3 ?omc ?oma ?omb; (case omc => assumption); (case oma => assumption); (case omb => k_extra "pre2|q_om")) | (refine' nn5 ?oma ?omb; (case oma => assumption); (case omb => assumption)) | (refine' nn6 ?oma ?omb; (case oma => assumption); (case omb => assumption)) | fail "q_om"))
  (k_with "pre2|b_sz" => (first | ((with_reducible refine' sz_up ?sza ?szb); (case sza => k_extra "pre2|q_sz"); (case szb => exact rfl)) | ((with_reducible refine' sz_sum ?sza ?szd ?szb); (case sza => k_extra "pre2|q_sz"); (case szd => k_extra "pre2|q_sz"); (case szb => exact rfl)) | fail "b_sz"))
  (k_with "pre2|q_sz" => (with_reducible (first | assumption | exact sz_cut4 | exact sz_cutn4 | exact sz_cut24 | exact sz_be4 | (refine' sz_tail ?szt ?szu; (case szt => k_extra "pre2|q_om"); (case szu => k_extra "pre2|q_om")) | exact sz_nil | exact sz_eq (by assumption) | (refine' sz_cut ?szc; (case szc => k_extra "pre2|q_sz")) | (apply sz_app; (focus k_extra "pre2|q_sz"); (focus k_extra "pre2|q_sz")) | (refine' sz_cons ?szc; (case szc => k_extra "pre2|q_sz")) | (refine' sz_take ?szc; (case szc => k_extra "pre2|q_sz")) | (refine' sz_drop ?szc; (case szc => k_extra "pre2|q_sz")) | (k_dflt (refine' sz_repmax ?szc); (case szc => assumption)))))
  trivial
section
local macro_rules | `(tactic| walk_at "odd part") => `(tactic| skip)
local macro_rules | `(tactic| walk_at $s:str) => do
  let xs := (rowsFor [("pre2", kp_pre2)] s.getString).reverse
  let x :: r := xs | Lean.Macro.throwUnsupported
  let y := Lean.Syntax.mkStrLit x
  let mut t ← `(tactic| k_extra $y)
  for z in r do
    let y := Lean.Syntax.mkStrLit z
    t ← `(tactic| first | k_extra $y | ($t:tactic))
  return t
section
variable {w : World} {mean : ExcName → Option Value} {mg mb : Str → Option Value} {dp un : Nat} {gd : Option (List Code)} {cn : Str} {cs : Scope} {L a : Addr} {ccd : Value} {cl : List (Str × Addr)} {outer : List Env} {A₀ : Around} {base h₀ : Heap} {m : Str → Option Value} {s : Shared} {led : List (Addr × Obj)} {Q E : Value → Shared → Prop}


theorem primer_C1 (w : World) (h : Heap) : (Mine.hd.heap_39 w.params).In h → (PySem.Challenge.rw_pb0455_01.Holds → True) := by
  k_fill
  intros; trivial

def putB (b : List UInt8) (k : Int) (x : List UInt8) : List UInt8 := putAt (b ++ List.replicate (k - (b.length : Int)).toNat 0) k.toNat x
theorem putB_le {b x : List UInt8} {k : Int} (h : k ≤ b.length) : putB b k x = putAt b k.toNat x := by
  unfold putB
  rw [show (k - (b.length : Int)).toNat = 0 by omega]
  simp
theorem put_w {Q E : Value → Shared → Prop} {tg : Addr} {b x : List UInt8} {k : Int} {t1 t2 : Tok}
    (S : Site w mean mg mb outer A₀ base h₀ L m cs s.heap [(tg, baObj b)]) (hd : dp + 3 < recursionLimit)
    (h0 : 0 ≤ k) (h1 : k ≤ 4194304) (h2 : b.length ≤ 4194304) (h3 : x.length ≤ 4194304)
    (hret : ∀ h' tk', Keep [tg] s.heap h' → h'.get? tg = some (baObj (putB b k x)) → Q .none { s with heap := h', toks := tk' }) :
    wpC (model PySem.Challenge.rw_pb0455_01.row.prog w) (ktrTop dp un gd cn cs L a ccd cl outer) (call (.ref 500) [.ref tg, .int k t1, .bytes x.toArray t2]) Q E s := by
  refine wpC_call ?_
  k_dflt (refine' enterC (binds := [(Str.ofString "target", Value.ref tg), (Str.ofString "at", Value.int k t1), (Str.ofString "octets", Value.bytes x.toArray t2)]) ?kS ?k6 ?k7 ?k8 ?k9 ?kB ?_ ?c2 ?c3 ?c4 ?c5; walk_at "cell_enterC")
  k_steps
  · refine hret _ _ (keep1 (by assumption) (by assumption)) ?_
    exact News.get (by assumption) (List.Mem.head _)
  · refine hret _ _ (keep1 (by assumption) (by assumption)) ?_
    rw [putB_le (by omega)]
    exact News.get (by assumption) (List.Mem.head _)
theorem put_k {Q E : Value → Shared → Prop} {hp : Heap} {g : Array GenState} {dr : Drawn} {tk : Nat} {os : OsState} {news news' : List (Addr × Obj)} {tg : Addr} {b x : List UInt8} {k : Int} {t1 t2 : Tok}
    (B : Below A₀ base outer h₀) (F : Fr h₀ L hp m) (X : (Mine.hd.heap_39 w.params).In h₀) (N : News h₀ L hp news) (T : Top VW LO mean mg mb h₀) (kk : cs.kind = .function) (U : Upd tg (baObj b) (baObj (putB b k x)) news news')
    (hd : dp + 3 < recursionLimit) (h0 : 0 ≤ k) (h1 : k ≤ 4194304) (h2 : b.length ≤ 4194304) (h3 : x.length ≤ 4194304)
    (hret : ∀ h' tk', Fr h₀ L h' m → News h₀ L h' news' → Q .none ⟨h', g, dr, tk', os⟩) :
    wpC (model PySem.Challenge.rw_pb0455_01.row.prog w) (ktrTop dp un gd cn cs L a ccd cl outer) (call (.ref 500) [.ref tg, .int k t1, .bytes x.toArray t2]) Q E ⟨hp, g, dr, tk, os⟩ :=
  put_w (s := ⟨hp, g, dr, tk, os⟩) ⟨B, F, X, fun p hp' => N p (by rw [List.mem_singleton.mp hp']; exact upd_mem U), T, kk⟩ hd h0 h1 h2 h3 fun h' tk' k e => hret h' tk' (frK F N k (upd_memA U)) (upd1 N k e U)

def cutB (b : List UInt8) (n : Int) : List UInt8 := if n < b.length then b.take n.toNat else b ++ List.replicate (n - (b.length : Int)).toNat 0
theorem cut_w {Q E : Value → Shared → Prop} {tg : Addr} {b : List UInt8} {k : Int} {t1 : Tok}
    (S : Site w mean mg mb outer A₀ base h₀ L m cs s.heap [(tg, baObj b)]) (hd : dp + 3 < recursionLimit)
    (h0 : 0 ≤ k) (h1 : k ≤ 4194304) (h2 : b.length ≤ 4194304)
    (hret : ∀ h' tk', Keep [tg] s.heap h' → h'.get? tg = some (baObj (cutB b k)) → Q .none { s with heap := h', toks := tk' }) :
    wpC (model PySem.Challenge.rw_pb0455_01.row.prog w) (ktrTop dp un gd cn cs L a ccd cl outer) (call (.ref 507) [.ref tg, .int k t1]) Q E s := by
  refine wpC_call ?_
  k_dflt (refine' enterC (binds := [(Str.ofString "target", Value.ref tg), (Str.ofString "size", Value.int k t1)]) ?kS ?k6 ?k7 ?k8 ?k9 ?kB ?_ ?c2 ?c3 ?c4 ?c5; walk_at "cell_enterC")
  k_steps
  · refine hret _ _ (keep1 (by assumption) (by assumption)) ?_
    have e : cutB b k = b.take k.toNat := if_pos (by omega)
    rw [e]
    exact News.get (by assumption) (List.Mem.head _)
  · refine hret _ _ (keep1 (by assumption) (by assumption)) ?_
    have e : cutB b k = b ++ List.replicate (k - (b.length : Int)).toNat 0 := if_neg (by omega)
    rw [e]
    exact News.get (by assumption) (List.Mem.head _)
  · refine hret _ _ (keep1 (by assumption) (by assumption)) ?_
    have e : cutB b k = b := by
      unfold cutB
      rw [if_neg (by omega), show (k - (b.length : Int)).toNat = 0 by omega]
      simp
    rw [e]
    exact News.get (by assumption) (List.Mem.head _)
theorem cut_k {Q E : Value → Shared → Prop} {hp : Heap} {g : Array GenState} {dr : Drawn} {tk : Nat} {os : OsState} {news news' : List (Addr × Obj)} {tg : Addr} {b : List UInt8} {k : Int} {t1 : Tok}
    (B : Below A₀ base outer h₀) (F : Fr h₀ L hp m) (X : (Mine.hd.heap_39 w.params).In h₀) (N : News h₀ L hp news) (T : Top VW LO mean mg mb h₀) (kk : cs.kind = .function) (U : Upd tg (baObj b) (baObj (cutB b k)) news news')
    (hd : dp + 3 < recursionLimit) (h0 : 0 ≤ k) (h1 : k ≤ 4194304) (h2 : b.length ≤ 4194304)
    (hret : ∀ h' tk', Fr h₀ L h' m → News h₀ L h' news' → Q .none ⟨h', g, dr, tk', os⟩) :
    wpC (model PySem.Challenge.rw_pb0455_01.row.prog w) (ktrTop dp un gd cn cs L a ccd cl outer) (call (.ref 507) [.ref tg, .int k t1]) Q E ⟨hp, g, dr, tk, os⟩ :=
  cut_w (s := ⟨hp, g, dr, tk, os⟩) ⟨B, F, X, fun p hp' => N p (by rw [List.mem_singleton.mp hp']; exact upd_mem U), T, kk⟩ hd h0 h1 h2 fun h' tk' k e => hret h' tk' (frK F N k (upd_memA U)) (upd1 N k e U)

end
end
section
local macro_rules | `(tactic| walk_at $s:str) => do
  let xs := (rowsFor [("pre2", kp_pre2)] s.getString).reverse
  let x :: r := xs | Lean.Macro.throwUnsupported
  let y := Lean.Syntax.mkStrLit x
  let mut t ← `(tactic| k_extra $y)
  for z in r do
    let y := Lean.Syntax.mkStrLit z
    t ← `(tactic| first | k_extra $y | ($t:tactic))
  return t
section
variable {w : World} {mean : ExcName → Option Value} {mg mb : Str → Option Value} {dp un : Nat} {gd : Option (List Code)} {cn : Str} {cs : Scope} {L a : Addr} {ccd : Value} {cl : List (Str × Addr)} {outer : List Env} {A₀ : Around} {base h₀ : Heap} {m : Str → Option Value} {s : Shared} {led : List (Addr × Obj)} {Q E : Value → Shared → Prop}


theorem primer_C2 (w : World) (h : Heap) : (Mine.hd.heap_39 w.params).In h → (PySem.Challenge.rw_pb0455_01.Holds → True) := by
  k_fill
  intros; trivial

theorem take_k {E : Value → Shared → Prop} {Q : Value → Shared → Prop} {hp : Heap} {g : Array GenState} {dr : Drawn} {tk : Nat} {os : OsState} {news : List (Addr × Obj)} {news' : Obj → List (Addr × Obj)} {src : Addr} {d c top : Int} {t1 t2 tt : Tok} {n : Nat}
    (B : Below A₀ base outer h₀) (F : Fr h₀ L hp m) (X : (Mine.hd.heap_39 w.params).In h₀) (N : News h₀ L hp news) (T : Top VW LO mean mg mb h₀) (kk : cs.kind = .function) (hd : dp + 3 < recursionLimit)
    (U : UpdF src (W.listOf #[.int d t1, .int c t2] n) news news') (h0 : 0 ≤ d) (h1 : 1 ≤ top) (h2 : top ≤ 1000000) (h3 : 0 ≤ c) (h4 : c < 2147483647)
    (hret : ∀ d' c' x t t1' t2' h' tk', 0 ≤ x → x < top → 0 ≤ d' → 0 ≤ c' → c' < 2147483647 → Fr h₀ L h' m → News h₀ L h' (news' (W.listOf #[.int d' t1', .int c' t2'] n)) → Q (.int x t) ⟨h', g, dr, tk', os⟩) :
    wpAny (model PySem.Challenge.rw_pb0455_01.row.prog w) (ktrTop dp un gd cn cs L a ccd cl outer) (call (.ref 521) [.ref src, .int top tt]) Q E ⟨hp, g, dr, tk, os⟩ := by
  have hm := updF_mem U
  have S : Site w mean mg mb outer A₀ base h₀ L m cs hp [(src, W.listOf #[.int d t1, .int c t2] n)] := ⟨B, F, X, (fun p hp' => N p (by rw [List.mem_singleton.mp hp']; exact hm)), T, kk⟩
  have hret' : ∀ d' c' x t t1' t2' h' tk', 0 ≤ x → x < top → 0 ≤ d' → 0 ≤ c' → c' < 2147483647 → Keep [src] hp h' → h'.get? src = some (W.listOf #[.int d' t1', .int c' t2'] n) → Q (.int x t) ⟨h', g, dr, tk', os⟩ :=
    fun d' c' x t t1' t2' h' tk' a1 a2 a3 a4 a5 k e => hret d' c' x t t1' t2' h' tk' a1 a2 a3 a4 a5 (frK F N k (fun x hx => by rw [List.mem_singleton.mp hx]; exact List.mem_map_of_mem (f := (·.1)) hm)) (updF1 N k e U)
  clear B F X N T kk hret
  refine wpAny_call ?_
  k_dflt (refine' enterZ (s := ⟨hp, g, dr, tk, os⟩) (led := [(src, W.listOf #[.int d t1, .int c t2] n)]) (binds := [(Str.ofString "source", Value.ref src), (Str.ofString "top", Value.int top tt)]) ?kS ?k6 ?k7 ?k8 ?k9 ?kB ?_ ?c2 ?c3 ?c4 ?c5; walk_at "cell_enterZ")
  k_steps
  · refine' hret' (d / top) c (d % top) _ _ _ _ _ ?a ?b ?c ?d ?e (keep1 ?k1 ?k2) (News.get ?n ?mem)
    case k1 => assumption
    case k2 => assumption
    case n => assumption
    case mem => exact List.Mem.head _
    case a => exact Int.emod_nonneg _ (by omega)
    case b => exact Int.emod_lt_of_pos _ (by omega)
    case c => exact Int.ediv_nonneg h0 (by omega)
    case d => exact h3
    case e => exact h4
  · refine' hret' d ((c * 39373 + 7) % 2147483647) _ _ _ _ _ _ ?a ?b h0 ?c ?d (keep1 ?k1 ?k2) (News.get ?n ?mem)
    case k1 => assumption
    case k2 => assumption
    case n => assumption
    case mem => exact List.Mem.head _
    case a => exact Int.emod_nonneg _ (by omega)
    case b => exact Int.emod_lt_of_pos _ (by omega)
    case c => omega
    case d => omega

theorem four_k {E : Value → Shared → Prop} {Q : Value → Shared → Prop} {hp : Heap} {g : Array GenState} {dr : Drawn} {tk : Nat} {os : OsState} {news : List (Addr × Obj)} {k : Int} {t1 : Tok}
    (B : Below A₀ base outer h₀) (F : Fr h₀ L hp m) (X : (Mine.hd.heap_39 w.params).In h₀) (N : News h₀ L hp news) (T : Top VW LO mean mg mb h₀) (kk : cs.kind = .function) (hd : dp + 3 < recursionLimit) 
    (hret : ∀ h' tk' t', Fr h₀ L h' m → News h₀ L h' news → Q (.bytes (be4 (k % 4294967296)).toArray t') ⟨h', g, dr, tk', os⟩) :
    wpAny (model PySem.Challenge.rw_pb0455_01.row.prog w) (ktrTop dp un gd cn cs L a ccd cl outer) (call (.ref 528) [Value.int k t1]) Q E ⟨hp, g, dr, tk, os⟩ := by
  have S : Site w mean mg mb outer A₀ base h₀ L m cs hp [] := ⟨B, F, X, (fun _ q => nomatch q), T, kk⟩
  have hret' : ∀ (h' : Heap), Keep [] hp h' → Fr h₀ L h' m ∧ News h₀ L h' news := fun h' k => ⟨frK (as := []) F N k (fun _ q => nomatch q), keep0 N k⟩
  clear B F X N T kk
  refine wpAny_call ?_
  k_dflt (refine' enterZ (s := ⟨hp, g, dr, tk, os⟩) (led := []) (binds := [(Str.ofString "number", Value.int k t1)]) ?kS ?k6 ?k7 ?k8 ?k9 ?kB ?_ ?c2 ?c3 ?c4 ?c5; walk_at "cell_enterZ")
  k_steps
  exact hret _ _ _ (hret' _ (keepN (by assumption) (by assumption))).1 (hret' _ (keepN (by assumption) (by assumption))).2

end
end
section
def kp_lines2 : List String := ["call ref"]
theorem setup_lines2 : True := by
  (k_with "lines2|call ref" => (k_here; (with_reducible show wpAny _ _ (call (Value.ref 521) _) _ _ _); k_dflt (refine' take_k ?B ?F ?X ?N ?T ?kk ?hd ?U ?h0 ?h1 ?h2 ?h3 ?h4 ?_; (case B => k_asm); (case F => k_asm); (case X => k_asm); (case N => k_asm); (case T => k_asm); (case kk => rfl); (case hd => ktr_room); (case U => k_updF); (case h0 => omega); (case h1 => omega); (case h2 => omega); (case h3 => omega); (case h4 => omega); k_whole); intro zd' zc' zx' _ _ _ zh' _ zhx0 zhx1 zhd0 zhc0 zhc1 zF' zN'; (try dsimp only at zN'); (try k_sweep)))
  (k_with "lines2|call ref" => (k_here; (with_reducible show wpAny _ _ (call (Value.ref 528) _) _ _ _); k_dflt (refine' four_k ?B ?F ?X ?N ?T ?kk ?hd  ?_; (case B => k_asm); (case F => k_asm); (case X => k_asm); (case N => k_asm); (case T => k_asm); (case kk => rfl); (case hd => ktr_room); k_whole); intro zh' _ _ zF' zN'; (try k_sweep)))
  trivial
local macro_rules | `(tactic| walk_at "odd part") => `(tactic| skip)
local macro_rules | `(tactic| walk_at $s:str) => do
  let xs := (rowsFor [("lines2", kp_lines2), ("pre2", kp_pre2)] s.getString).reverse
  let x :: r := xs | Lean.Macro.throwUnsupported
  let y := Lean.Syntax.mkStrLit x
  let mut t ← `(tactic| k_extra $y)
  for z in r do
    let y := Lean.Syntax.mkStrLit z
    t ← `(tactic| first | k_extra $y | ($t:tactic))
  return t
section
variable {w : World} {mean : ExcName → Option Value} {mg mb : Str → Option Value} {dp un : Nat} {gd : Option (List Code)} {cn : Str} {cs : Scope} {L a : Addr} {ccd : Value} {cl : List (Str × Addr)} {outer : List Env} {A₀ : Around} {base h₀ : Heap} {m : Str → Option Value} {s : Shared} {led : List (Addr × Obj)} {Q E : Value → Shared → Prop}


theorem primer_C3 (w : World) (h : Heap) : (Mine.hd.heap_39 w.params).In h → (PySem.Challenge.rw_pb0455_01.Holds → True) := by
  k_fill
  intros; trivial

theorem filled_k {E : Value → Shared → Prop} {Q : Value → Shared → Prop} {hp : Heap} {g : Array GenState} {dr : Drawn} {tk : Nat} {os : OsState} {news : List (Addr × Obj)} {news' : Obj → List (Addr × Obj)} {src : Addr} {d c : Int} {t1 t2 : Tok} {n : Nat}
    (B : Below A₀ base outer h₀) (F : Fr h₀ L hp m) (X : (Mine.hd.heap_39 w.params).In h₀) (N : News h₀ L hp news) (T : Top VW LO mean mg mb h₀) (kk : cs.kind = .function) (hd : dp + 8 < recursionLimit)
    (U : UpdF src (W.listOf #[.int d t1, .int c t2] n) news news') (h0 : 0 ≤ d) (h3 : 0 ≤ c) (h4 : c < 2147483647)
    (hret : ∀ d' c' (l : List UInt8) t t1' t2' h' tk', l.length = 64 → 0 ≤ d' → 0 ≤ c' → c' < 2147483647 → Fr h₀ L h' m → News h₀ L h' (news' (W.listOf #[.int d' t1', .int c' t2'] n)) → Q (.bytes l.toArray t) ⟨h', g, dr, tk', os⟩) :
    wpAny (model PySem.Challenge.rw_pb0455_01.row.prog w) (ktrTop dp un gd cn cs L a ccd cl outer) (call (.ref 542) [.ref src]) Q E ⟨hp, g, dr, tk, os⟩ := by
  have hm := updF_mem U
  have S : Site w mean mg mb outer A₀ base h₀ L m cs hp [(src, W.listOf #[.int d t1, .int c t2] n)] := ⟨B, F, X, (fun p hp' => N p (by rw [List.mem_singleton.mp hp']; exact hm)), T, kk⟩
  have hret' : ∀ d' c' (l : List UInt8) t t1' t2' h' tk', l.length = 64 → 0 ≤ d' → 0 ≤ c' → c' < 2147483647 → Keep [src] hp h' → h'.get? src = some (W.listOf #[.int d' t1', .int c' t2'] n) → Q (.bytes l.toArray t) ⟨h', g, dr, tk', os⟩ :=
    fun d' c' x t t1' t2' h' tk' a1 a2 a3 a4 k e => hret d' c' x t t1' t2' h' tk' a1 a2 a3 a4 (frK F N k (fun x hx => by rw [List.mem_singleton.mp hx]; exact List.mem_map_of_mem (f := (·.1)) hm)) (updF1 N k e U)
  clear B F X N T kk hret
  refine wpAny_call ?_
  k_dflt (refine' enterZ (s := ⟨hp, g, dr, tk, os⟩) (led := [(src, W.listOf #[.int d t1, .int c t2] n)]) (binds := [(Str.ofString "source", Value.ref src)]) ?kS ?k6 ?k7 ?k8 ?k9 ?kB ?_ ?c2 ?c3 ?c4 ?c5; walk_at "cell_enterZ")
  k_steps
  refine' hret' _ _ _ _ _ _ _ _ ?a ?b ?c ?d (keep1 ?k1 ?k2) (News.get ?n ?mem)
  case k1 => assumption
  case k2 => assumption
  case n => assumption
  case mem => k_mem
  case a => simp
  case b => assumption
  case c => assumption
  case d => assumption

theorem getnum_k {E : Value → Shared → Prop} {Q : Value → Shared → Prop} {hp : Heap} {g : Array GenState} {dr : Drawn} {tk : Nat} {os : OsState} {news : List (Addr × Obj)} {x : List UInt8} {k : Int} {t1 t2 t3 : Tok}
    (B : Below A₀ base outer h₀) (F : Fr h₀ L hp m) (X : (Mine.hd.heap_39 w.params).In h₀) (N : News h₀ L hp news) (T : Top VW LO mean mg mb h₀) (kk : cs.kind = .function) (hd : dp + 3 < recursionLimit) (h0 : 0 ≤ k) (h1 : x.length ≤ 1048576)
    (hret : ∀ h' tk' t', Fr h₀ L h' m → News h₀ L h' news → Q (.int (beVal (cut x (some k) (some (k + 4)))) t') ⟨h', g, dr, tk', os⟩) :
    wpAny (model PySem.Challenge.rw_pb0455_01.row.prog w) (ktrTop dp un gd cn cs L a ccd cl outer) (call (.ref 91) [Value.bytes x.toArray t1, Value.int k t2, Value.int 4 t3]) Q E ⟨hp, g, dr, tk, os⟩ := by
  have S : Site w mean mg mb outer A₀ base h₀ L m cs hp [] := ⟨B, F, X, (fun _ q => nomatch q), T, kk⟩
  have hret' : ∀ (h' : Heap), Keep [] hp h' → Fr h₀ L h' m ∧ News h₀ L h' news := fun h' k => ⟨frK (as := []) F N k (fun _ q => nomatch q), keep0 N k⟩
  clear B F X N T kk
  refine wpAny_call ?_
  k_dflt (refine' enterZ (s := ⟨hp, g, dr, tk, os⟩) (led := []) (binds := [(Str.ofString "octets", Value.bytes x.toArray t1), (Str.ofString "at", Value.int k t2), (Str.ofString "size", Value.int 4 t3)]) ?kS ?k6 ?k7 ?k8 ?k9 ?kB ?_ ?c2 ?c3 ?c4 ?c5; walk_at "cell_enterZ")
  k_steps
  exact hret _ _ _ (hret' _ (keepN (by assumption) (by assumption))).1 (hret' _ (keepN (by assumption) (by assumption))).2

theorem ispage_k {E : Value → Shared → Prop} {Q : Value → Shared → Prop} {hp : Heap} {g : Array GenState} {dr : Drawn} {tk : Nat} {os : OsState} {news : List (Addr × Obj)} {k : Int} {t1 : Tok}
    (B : Below A₀ base outer h₀) (F : Fr h₀ L hp m) (X : (Mine.hd.heap_39 w.params).In h₀) (N : News h₀ L hp news) (T : Top VW LO mean mg mb h₀) (kk : cs.kind = .function) (hd : dp + 3 < recursionLimit) 
    (hret : ∀ h' tk', Fr h₀ L h' m → News h₀ L h' news → Q (.bool (decide (64 ≤ k) && decide (k ≤ 32768))) ⟨h', g, dr, tk', os⟩) :
    wpAny (model PySem.Challenge.rw_pb0455_01.row.prog w) (ktrTop dp un gd cn cs L a ccd cl outer) (call (.ref 98) [Value.int k t1]) Q E ⟨hp, g, dr, tk, os⟩ := by
  have S : Site w mean mg mb outer A₀ base h₀ L m cs hp [] := ⟨B, F, X, (fun _ q => nomatch q), T, kk⟩
  have hret' : ∀ (h' : Heap), Keep [] hp h' → Fr h₀ L h' m ∧ News h₀ L h' news := fun h' k => ⟨frK (as := []) F N k (fun _ q => nomatch q), keep0 N k⟩
  clear B F X N T kk
  refine wpAny_call ?_
  k_dflt (refine' enterZ (s := ⟨hp, g, dr, tk, os⟩) (led := []) (binds := [(Str.ofString "size", Value.int k t1)]) ?kS ?k6 ?k7 ?k8 ?k9 ?kB ?_ ?c2 ?c3 ?c4 ?c5; walk_at "cell_enterZ")
  k_steps
  · rw [show decide (k ≤ 32768) = (decide (64 ≤ k) && decide (k ≤ 32768)) by rw [decide_eq_true (p := 64 ≤ k) (by assumption), Bool.true_and]]
    exact hret _ _ (hret' _ (keepN (by assumption) (by assumption))).1 (hret' _ (keepN (by assumption) (by assumption))).2
  · rw [show decide (64 ≤ k) = (decide (64 ≤ k) && decide (k ≤ 32768)) by rw [decide_eq_false (p := 64 ≤ k) (by assumption), Bool.false_and]]
    exact hret _ _ (hret' _ (keepN (by assumption) (by assumption))).1 (hret' _ (keepN (by assumption) (by assumption))).2

end
end
section
def kp_lines3 : List String := ["call ref"]
theorem setup_lines3 : True := by
  (k_with "lines3|call ref" => (k_here; (with_reducible show wpAny _ _ (call (Value.ref 542) _) _ _ _); k_dflt (refine' filled_k ?B ?F ?X ?N ?T ?kk ?hd ?U ?h0 ?h3 ?h4 ?_; (case B => k_asm); (case F => k_asm); (case X => k_asm); (case N => k_asm); (case T => k_asm); (case kk => rfl); (case hd => ktr_room); (case U => k_updF); (case h0 => omega); (case h3 => omega); (case h4 => omega); k_whole); intro zd' zc' zl' _ _ _ zh' _ zhl0 zhd0 zhc0 zhc1 zF' zN'; (try dsimp only at zN'); (try k_sweep)))
  (k_with "lines3|call ref" => (k_here; (with_reducible show wpAny _ _ (call (Value.ref 91) _) _ _ _); k_dflt (refine' getnum_k ?B ?F ?X ?N ?T ?kk ?hd ?h0 ?h1 ?_; (case B => k_asm); (case F => k_asm); (case X => k_asm); (case N => k_asm); (case T => k_asm); (case kk => rfl); (case hd => ktr_room); (case h0 => omega); (case h1 => walk_at "b_sz"); k_whole); intro zh' _ _ zF' zN'; (try k_sweep)))
  (k_with "lines3|call ref" => (k_here; (with_reducible show wpAny _ _ (call (Value.ref 98) _) _ _ _); k_dflt (refine' ispage_k ?B ?F ?X ?N ?T ?kk ?hd  ?_; (case B => k_asm); (case F => k_asm); (case X => k_asm); (case N => k_asm); (case T => k_asm); (case kk => rfl); (case hd => ktr_room); k_whole); intro zh' _ zF' zN'; (try k_sweep)))
  trivial
local macro_rules | `(tactic| walk_at $s:str) => do
  let xs := (rowsFor [("lines3", kp_lines3), ("lines2", kp_lines2), ("pre2", kp_pre2)] s.getString).reverse
  let x :: r := xs | Lean.Macro.throwUnsupported
  let y := Lean.Syntax.mkStrLit x
  let mut t ← `(tactic| k_extra $y)
  for z in r do
    let y := Lean.Syntax.mkStrLit z
    t ← `(tactic| first | k_extra $y | ($t:tactic))
  return t
section
variable {w : World} {mean : ExcName → Option Value} {mg mb : Str → Option Value} {dp un : Nat} {gd : Option (List Code)} {cn : Str} {cs : Scope} {L a : Addr} {ccd : Value} {cl : List (Str × Addr)} {outer : List Env} {A₀ : Around} {base h₀ : Heap} {m : Str → Option Value} {s : Shared} {led : List (Addr × Obj)} {Q E : Value → Shared → Prop}


theorem primer_C4 (w : World) (h : Heap) : (Mine.hd.heap_39 w.params).In h → (PySem.Challenge.rw_pb0455_01.Holds → True) := by
  k_fill
  intros; trivial

def sumTo (l : List UInt8) : Nat → Int
  | 0 => 0
  | i + 1 => sumTo l i + ((l.getD (l.length - 8 * i - 1) 0).toNat : Int) * ((l.length : Int) - 8 * (i : Int))
def rsum (nonce page : Int) (l : List UInt8) : Int := (nonce + page + sumTo l ((l.length + 7) / 8)) % 4294967296

theorem lsum_k {E : Value → Shared → Prop} {Q : Value → Shared → Prop} {hp : Heap} {g : Array GenState} {dr : Drawn} {tk : Nat} {os : OsState} {news : List (Addr × Obj)} {x : List UInt8} {nn pg : Int} {t1 t2 t3 : Tok}
    (B : Below A₀ base outer h₀) (F : Fr h₀ L hp m) (X : (Mine.hd.heap_39 w.params).In h₀) (N : News h₀ L hp news) (T : Top VW LO mean mg mb h₀) (kk : cs.kind = .function) (hd : dp + 3 < recursionLimit) (h1 : x.length ≤ 1048576)
    (hret : ∀ h' tk' t', Fr h₀ L h' m → News h₀ L h' news → Q (.int (rsum nn pg x) t') ⟨h', g, dr, tk', os⟩) :
    wpAny (model PySem.Challenge.rw_pb0455_01.row.prog w) (ktrTop dp un gd cn cs L a ccd cl outer) (call (.ref 535) [Value.int nn t1, Value.int pg t2, Value.bytes x.toArray t3]) Q E ⟨hp, g, dr, tk, os⟩ := by
  have S : Site w mean mg mb outer A₀ base h₀ L m cs hp [] := ⟨B, F, X, (fun _ q => nomatch q), T, kk⟩
  have hret' : ∀ (h' : Heap), Keep [] hp h' → Fr h₀ L h' m ∧ News h₀ L h' news := fun h' k => ⟨frK (as := []) F N k (fun _ q => nomatch q), keep0 N k⟩
  clear B F X N T kk
  refine wpAny_call ?_
  k_dflt (refine' enterZ (s := ⟨hp, g, dr, tk, os⟩) (led := []) (binds := [(Str.ofString "nonce", Value.int nn t1), (Str.ofString "page", Value.int pg t2), (Str.ofString "octets", Value.bytes x.toArray t3)]) ?kS ?k6 ?k7 ?k8 ?k9 ?kB ?_ ?c2 ?c3 ?c4 ?c5; walk_at "cell_enterZ")
  k_steps
  refine' RngGoal.mk' (fun i m news => ∃ (v : Int) (t : Tok) (ub us : Option Value), v = nn + pg + sumTo x i ∧ news = [] ∧ m = (fun y => if y = Str.ofString "summed" then some (.int v t) else if y = Str.ofString "back" then ub else if y = Str.ofString "spot" then us else List.lookup y [(Str.ofString "nonce", Value.int nn t1), (Str.ofString "page", Value.int pg t2), (Str.ofString "octets", Value.bytes x.toArray t3)].reverse))
    (n := (x.length + 7) / 8) (by assumption) ?_ ?_ (by assumption) (by assumption) ?_ ?_ ?_
  · exact small_step (by decide) (by decide) (by decide) (by decide) (by decide) (by omega) (by omega)
  · unfold Builtin.Range.rangeSize
    rw [if_pos (by decide)]
    split <;> omega
  · refine' (exi4 _ _ _ _ (andi3 ?v rfl ?m))
    case m => (refine' st_meet (ns := [Str.ofString "summed", Str.ofString "back", Str.ofString "spot"]) (tt := [(Str.ofString "summed", _), (Str.ofString "back", _), (Str.ofString "spot", _)]) ?sta ?stb ?stc ?sth; walk_at "q_me")
    case v => simp [sumTo]
  · intro I i t' m₁ news₁ hp' tk' hI hin hJ
    refine ex4 hJ ?_
    clear hJ
    intro v t ub us hJ
    refine and3 hJ ?_
    clear hJ
    rintro hv rfl rfl F N
    dsimp only at F
    k_fold
    k_steps
    refine' TurnEnd.next rfl ?F ?N ?hs ?ha (exi4 _ _ _ _ (andi3 ?v rfl ?m))
    case F => k_asm
    case N => k_asm
    case hs => exact fun p hp => hp
    case ha => exact fun p hp => nomatch hp
    case m => (refine' st_meet (ns := [Str.ofString "summed", Str.ofString "back", Str.ofString "spot"]) (tt := [(Str.ofString "summed", _), (Str.ofString "back", _), (Str.ofString "spot", _)]) ?sta ?stb ?stc ?sth; walk_at "q_me")
    case v =>
      have e1 : ((x.length : Int) - (0 + (i : Int) * 8) - 1).toNat = x.length - 8 * i - 1 := by omega
      have e2 : (x.length : Int) - (0 + (i : Int) * 8) = (x.length : Int) - 8 * (i : Int) := by omega
      rw [sumTo, hv, e1, e2, Int.add_assoc]
  · intro h' tk' m' news' hJ
    refine ex4 hJ ?_
    clear hJ
    intro v t ub us hJ
    refine and3 hJ ?_
    clear hJ
    rintro hv rfl rfl F N
    subst hv
    k_steps
    exact hret _ _ _ (hret' _ (keepN (by assumption) (by assumption))).1 (hret' _ (keepN (by assumption) (by assumption))).2

theorem rsum_k {E : Value → Shared → Prop} {Q : Value → Shared → Prop} {hp : Heap} {g : Array GenState} {dr : Drawn} {tk : Nat} {os : OsState} {news : List (Addr × Obj)} {x : List UInt8} {nn pg : Int} {t1 t2 t3 : Tok}
    (B : Below A₀ base outer h₀) (F : Fr h₀ L hp m) (X : (Mine.hd.heap_39 w.params).In h₀) (N : News h₀ L hp news) (T : Top VW LO mean mg mb h₀) (kk : cs.kind = .function) (hd : dp + 3 < recursionLimit) (h1 : x.length ≤ 1048576)
    (hret : ∀ h' tk' t', Fr h₀ L h' m → News h₀ L h' news → Q (.int (rsum nn pg x) t') ⟨h', g, dr, tk', os⟩) :
    wpAny (model PySem.Challenge.rw_pb0455_01.row.prog w) (ktrTop dp un gd cn cs L a ccd cl outer) (call (.ref 105) [Value.int nn t1, Value.int pg t2, Value.bytes x.toArray t3]) Q E ⟨hp, g, dr, tk, os⟩ := by
  have S : Site w mean mg mb outer A₀ base h₀ L m cs hp [] := ⟨B, F, X, (fun _ q => nomatch q), T, kk⟩
  have hret' : ∀ (h' : Heap), Keep [] hp h' → Fr h₀ L h' m ∧ News h₀ L h' news := fun h' k => ⟨frK (as := []) F N k (fun _ q => nomatch q), keep0 N k⟩
  clear B F X N T kk
  refine wpAny_call ?_
  k_dflt (refine' enterZ (s := ⟨hp, g, dr, tk, os⟩) (led := []) (binds := [(Str.ofString "nonce", Value.int nn t1), (Str.ofString "page", Value.int pg t2), (Str.ofString "octets", Value.bytes x.toArray t3)]) ?kS ?k6 ?k7 ?k8 ?k9 ?kB ?_ ?c2 ?c3 ?c4 ?c5; walk_at "cell_enterZ")
  k_steps
  refine' RngGoal.mk' (fun i m news => ∃ (v : Int) (t : Tok) (ub : Option Value), v = nn + pg + sumTo x i ∧ news = [] ∧ m = (fun y => if y = Str.ofString "total" then some (.int v t) else if y = Str.ofString "i" then ub else List.lookup y [(Str.ofString "nonce", Value.int nn t1), (Str.ofString "page", Value.int pg t2), (Str.ofString "octets", Value.bytes x.toArray t3)].reverse))
    (n := (x.length + 7) / 8) (by assumption) ?_ ?_ (by assumption) (by assumption) ?_ ?_ ?_
  · exact small_step (by decide) (by decide) (by decide) (by omega) (by omega) (by decide) (by decide)
  · unfold Builtin.Range.rangeSize
    rw [if_neg (by decide), show -(-8 : Int) = 8 from by decide]
    split <;> omega
  · refine' (exi3 _ _ _ (andi3 ?v rfl ?m))
    case m => (refine' st_meet (ns := [Str.ofString "total", Str.ofString "i"]) (tt := [(Str.ofString "total", _), (Str.ofString "i", _)]) ?sta ?stb ?stc ?sth; walk_at "q_me")
    case v => simp [sumTo]
  · intro I i t' m₁ news₁ hp' tk' hI hin hJ
    refine ex3 hJ ?_
    clear hJ
    intro v t ub hJ
    refine and3 hJ ?_
    clear hJ
    rintro hv rfl rfl F N
    dsimp only at F
    k_fold
    k_steps
    refine' TurnEnd.next rfl ?F ?N ?hs ?ha (exi3 _ _ _ (andi3 ?v rfl ?m))
    case F => k_asm
    case N => k_asm
    case hs => exact fun p hp => hp
    case ha => exact fun p hp => nomatch hp
    case m => (refine' st_meet (ns := [Str.ofString "total", Str.ofString "i"]) (tt := [(Str.ofString "total", _), (Str.ofString "i", _)]) ?sta ?stb ?stc ?sth; walk_at "q_me")
    case v =>
      have e1 : ((x.length : Int) - 1 + (i : Int) * -8).toNat = x.length - 8 * i - 1 := by omega
      have e2 : (x.length : Int) - 1 + (i : Int) * -8 + 1 = (x.length : Int) - 8 * (i : Int) := by omega
      rw [sumTo, hv, e1, e2, Int.add_assoc]
  · intro h' tk' m' news' hJ
    refine ex3 hJ ?_
    clear hJ
    intro v t ub hJ
    refine and3 hJ ?_
    clear hJ
    rintro hv rfl rfl F N
    subst hv
    k_steps
    exact hret _ _ _ (hret' _ (keepN (by assumption) (by assumption))).1 (hret' _ (keepN (by assumption) (by assumption))).2

end
end
section
def kp_lines4 : List String := ["call ref"]
theorem setup_lines4 : True := by
  (k_with "lines4|call ref" => (k_here; (with_reducible show wpAny _ _ (call (Value.ref 535) _) _ _ _); k_dflt (refine' lsum_k ?B ?F ?X ?N ?T ?kk ?hd ?h1 ?_; (case B => k_asm); (case F => k_asm); (case X => k_asm); (case N => k_asm); (case T => k_asm); (case kk => rfl); (case hd => ktr_room); (case h1 => walk_at "b_sz"); k_whole); intro zh' _ _ zF' zN'; (try k_sweep)))
  (k_with "lines4|call ref" => (k_here; (with_reducible show wpAny _ _ (call (Value.ref 105) _) _ _ _); k_dflt (refine' rsum_k ?B ?F ?X ?N ?T ?kk ?hd ?h1 ?_; (case B => k_asm); (case F => k_asm); (case X => k_asm); (case N => k_asm); (case T => k_asm); (case kk => rfl); (case hd => ktr_room); (case h1 => walk_at "b_sz"); k_whole); intro zh' _ _ zF' zN'; (try k_sweep)))
  trivial
local macro_rules | `(tactic| walk_at "odd part") => `(tactic| skip)
local macro_rules | `(tactic| walk_at $s:str) => do
  let xs := (rowsFor [("lines4", kp_lines4), ("lines3", kp_lines3), ("lines2", kp_lines2), ("pre2", kp_pre2)] s.getString).reverse
  let x :: r := xs | Lean.Macro.throwUnsupported
  let y := Lean.Syntax.mkStrLit x
  let mut t ← `(tactic| k_extra $y)
  for z in r do
    let y := Lean.Syntax.mkStrLit z
    t ← `(tactic| first | k_extra $y | ($t:tactic))
  return t
section
variable {w : World} {mean : ExcName → Option Value} {mg mb : Str → Option Value} {dp un : Nat} {gd : Option (List Code)} {cn : Str} {cs : Scope} {L a : Addr} {ccd : Value} {cl : List (Str × Addr)} {outer : List Env} {A₀ : Around} {base h₀ : Heap} {m : Str → Option Value} {s : Shared} {led : List (Addr × Obj)} {Q E : Value → Shared → Prop}


theorem primer_C5 (w : World) (h : Heap) : (Mine.hd.heap_39 w.params).In h → (PySem.Challenge.rw_pb0455_01.Holds → True) := by
  k_fill
  intros; trivial

def WrittenOk (l : List UInt8) : Prop := ∃ (p rows : List UInt8) (old : Int), l = p ++ be4 old ++ be4 64 ++ rows ∧ p.length = 16 ∧ rows.length ≤ 216 ∧ 0 ≤ old ∧ old < 5
theorem be4_len (k : Int) : (be4 k).length = 4 := rfl
theorem writtenOk_mk {a b old : Int} {rows : List UInt8} (h0 : 0 ≤ old) (h1 : old < 5) (hr : rows.length ≤ 216) :
    WrittenOk (112 :: 98 :: 106 :: 111 :: 117 :: 114 :: 110 :: 108 :: (be4 a ++ be4 b ++ be4 (old % 4294967296)) ++ be4 (64 % 4294967296) ++ rows) :=
  ⟨[112, 98, 106, 111, 117, 114, 110, 108] ++ be4 a ++ be4 b, rows, old, by rw [Int.emod_eq_of_lt h0 (by omega)]; rfl, rfl, hr, h0, h1⟩

theorem written_k {E : Value → Shared → Prop} {Q : Value → Shared → Prop} {hp : Heap} {g : Array GenState} {dr : Drawn} {tk : Nat} {os : OsState} {news : List (Addr × Obj)} {news' : Obj → List (Addr × Obj)} {src : Addr} {d c : Int} {t1 t2 : Tok} {n : Nat} 
    (B : Below A₀ base outer h₀) (F : Fr h₀ L hp m) (X : (Mine.hd.heap_39 w.params).In h₀) (N : News h₀ L hp news) (T : Top VW LO mean mg mb h₀) (kk : cs.kind = .function) (hd : dp + 12 < recursionLimit)
    (U : UpdF src (W.listOf #[.int d t1, .int c t2] n) news news') (h0 : 0 ≤ d) (h3 : 0 ≤ c) (h4 : c < 2147483647) 
    (hret : ∀ d' c' (l : List UInt8) (t : Tok) t1' t2' h' tk', WrittenOk l → 0 ≤ d' → 0 ≤ c' → c' < 2147483647 → Fr h₀ L h' m → News h₀ L h' (news' (W.listOf #[.int d' t1', .int c' t2'] n)) → Q (.bytes l.toArray t) ⟨h', g, dr, tk', os⟩) :
    wpAny (model PySem.Challenge.rw_pb0455_01.row.prog w) (ktrTop dp un gd cn cs L a ccd cl outer) (call (.ref 549) [Value.ref src]) Q E ⟨hp, g, dr, tk, os⟩ := by
  have hm := updF_mem U
  have S : Site w mean mg mb outer A₀ base h₀ L m cs hp [(src, W.listOf #[.int d t1, .int c t2] n)] := ⟨B, F, X, (fun p hp' => N p (by rw [List.mem_singleton.mp hp']; exact hm)), T, kk⟩
  have hret' : ∀ d' c' (l : List UInt8) (t : Tok) t1' t2' h' tk', WrittenOk l → 0 ≤ d' → 0 ≤ c' → c' < 2147483647 → Keep [src] hp h' → h'.get? src = some (W.listOf #[.int d' t1', .int c' t2'] n) → Q (.bytes l.toArray t) ⟨h', g, dr, tk', os⟩ := by
    intro d' c' l t t1' t2' h' tk' a0 a1 a2 a3 k e
    exact hret d' c' l t t1' t2' h' tk' a0 a1 a2 a3 (frK F N k (fun x hx => by rw [List.mem_singleton.mp hx]; exact List.mem_map_of_mem (f := (·.1)) hm)) (updF1 N k e U)
  clear B F X N T kk hret
  refine wpAny_call ?_
  k_dflt (refine' enterZ (s := ⟨hp, g, dr, tk, os⟩) (led := [(src, W.listOf #[.int d t1, .int c t2] n)]) (binds := [(Str.ofString "source", Value.ref src)]) ?kS ?k6 ?k7 ?k8 ?k9 ?kB ?_ ?c2 ?c3 ?c4 ?c5; walk_at "cell_enterZ")
  k_steps
  refine rng_with (by assumption) ?_
  intro base hbase
  refine' RngGoal.mk' (fun i m news => ∃ (rows : List UInt8) (t : Tok) (d c : Int) (t1 t2 : Tok) (ut up uo uw : Option Value), rows.length = 72 * i ∧ 0 ≤ d ∧ 0 ≤ c ∧ c < 2147483647 ∧ news = [(src, W.listOf #[.int d t1, .int c t2] n)] ∧ m = (fun y => if y = Str.ofString "rows" then some (.bytes rows.toArray t) else if y = Str.ofString "turn" then ut else if y = Str.ofString "page" then up else if y = Str.ofString "octets" then uo else if y = Str.ofString "wrong" then uw else base y)) ?hr ?hs ?hn ?F ?N ?j0 ?st ?dn
  case hr => assumption
  case F => assumption
  case hn => exact range_nn (by assumption)
  case hs => exact small_step (by decide) (by decide) (by decide) (by decide) (by decide) (by omega) (by omega)
  case N => exact News_one (by assumption) (List.Mem.tail _ (List.Mem.head _))
  case j0 =>
    subst hbase
    refine' ⟨[], _, _, _, _, _, _, _, _, _, rfl, ?a, ?b, ?c, rfl, ?m⟩
    case m => (refine' st_meet (ns := [Str.ofString "rows", Str.ofString "turn", Str.ofString "page", Str.ofString "octets", Str.ofString "wrong"]) (tt := [(Str.ofString "rows", _), (Str.ofString "turn", _), (Str.ofString "page", _), (Str.ofString "octets", _), (Str.ofString "wrong", _)]) ?sta ?stb ?stc ?sth; walk_at "q_me")
    case a => assumption
    case b => assumption
    case c => assumption
  case st =>
    subst hbase
    intro I i t' m₁ news₁ hp' tk' hI hin hJ
    refine ex10 hJ ?_
    clear hJ
    intro rows t d c t1 t2 ut up uo uw hJ
    refine and6 hJ ?_
    clear hJ
    rintro hrows hd0 hc0 hc1 rfl rfl F N
    have hI' : @LT.lt Nat _ src I := hI _ (List.mem_singleton.mpr rfl)
    dsimp only at F
    show wpAny _ _ _ _ _ _
    k_fold
    k_steps
    refine' TurnEnd.next (news' := [(src, _)]) rfl ?F ?N ?hs ?ha (exi10 _ _ _ _ _ _ _ _ _ _ (andi6 ?len ?a ?b ?c rfl ?m))
    case F => k_asm
    case N => k_asm
    case hs =>
      intro p hp
      rcases List.mem_cons.mp hp with rfl | hp
      · k_mem
      · rw [List.mem_singleton.mp hp]; k_mem
    case ha => intro p hp; rw [List.mem_singleton.mp hp]; exact Nat.ne_of_lt hI'
    case m => (refine' st_meet (ns := [Str.ofString "rows", Str.ofString "turn", Str.ofString "page", Str.ofString "octets", Str.ofString "wrong"]) (tt := [(Str.ofString "rows", _), (Str.ofString "turn", _), (Str.ofString "page", _), (Str.ofString "octets", _), (Str.ofString "wrong", _)]) ?sta ?stb ?stc ?sth; walk_at "q_me")
    case a => assumption
    case b => assumption
    case c => assumption
    case len => walk_at "b_om"
  case dn =>
    subst hbase
    intro h' tk' m' news' hJ
    refine ex10 hJ ?_
    clear hJ
    intro rows t d c t1 t2 ut up uo uw hJ
    refine and6 hJ ?_
    clear hJ
    rintro hrows hd0 hc0 hc1 rfl rfl F N
    k_steps
    refine' hret' _ _ _ _ _ _ _ _ (writtenOk_mk ?o1 ?o2 ?len) ?b ?c ?d (keep1 ?k1 ?k2) (News.get ?n ?mem)
    case k1 => assumption
    case k2 => assumption
    case n => assumption
    case mem => k_mem
    case o1 => assumption
    case o2 => assumption
    case len => omega
    case b => assumption
    case c => assumption
    case d => assumption

end
end
section
def kp_lines5 : List String := ["call ref"]
theorem setup_lines5 : True := by
  (k_with "lines5|call ref" => (k_here; (with_reducible show wpAny _ _ (call (Value.ref 549) _) _ _ _); k_dflt (refine' written_k ?B ?F ?X ?N ?T ?kk ?hd ?U ?h0 ?h3 ?h4 ?_; (case B => k_asm); (case F => k_asm); (case X => k_asm); (case N => k_asm); (case T => k_asm); (case kk => rfl); (case hd => ktr_room); (case U => k_updF); (case h0 => omega); (case h3 => omega); (case h4 => omega); k_whole); intro zd' zc' zl' _ _ _ zh' _ zhl0 zhd0 zhc0 zhc1 zF' zN'; (try dsimp only at zN'); (try k_sweep)))
  trivial
local macro_rules | `(tactic| walk_at $s:str) => do
  let xs := (rowsFor [("lines5", kp_lines5), ("lines4", kp_lines4), ("lines3", kp_lines3), ("lines2", kp_lines2), ("pre2", kp_pre2)] s.getString).reverse
  let x :: r := xs | Lean.Macro.throwUnsupported
  let y := Lean.Syntax.mkStrLit x
  let mut t ← `(tactic| k_extra $y)
  for z in r do
    let y := Lean.Syntax.mkStrLit z
    t ← `(tactic| first | k_extra $y | ($t:tactic))
  return t
section
variable {w : World} {mean : ExcName → Option Value} {mg mb : Str → Option Value} {dp un : Nat} {gd : Option (List Code)} {cn : Str} {cs : Scope} {L a : Addr} {ccd : Value} {cl : List (Str × Addr)} {outer : List Env} {A₀ : Around} {base h₀ : Heap} {m : Str → Option Value} {s : Shared} {led : List (Addr × Obj)} {Q E : Value → Shared → Prop}


theorem primer_C6 (w : World) (h : Heap) : (Mine.hd.heap_39 w.params).In h → (PySem.Challenge.rw_pb0455_01.Holds → True) := by
  k_fill
  intros; trivial

def BentOk (l : List UInt8) : Prop := l.length ≤ 240 ∧ (24 ≤ l.length → beVal (cut l (some 16) (some 20)) ≤ 7)
theorem written_ge {l : List UInt8} (h : WrittenOk l) : 24 ≤ l.length := by
  obtain ⟨p, rows, old, rfl, hp, hr, h0, h1⟩ := h
  simp only [List.length_append, be4_len]; omega
theorem written_le {l : List UInt8} (h : WrittenOk l) : l.length ≤ 240 := by
  obtain ⟨p, rows, old, rfl, hp, hr, h0, h1⟩ := h
  simp only [List.length_append, be4_len]; omega
theorem cut_nn {l : List UInt8} {i j : Nat} : cut l (some (i : Int)) (some (j : Int)) = (l.drop i).take (j - i) := by
  unfold cut
  simp only [Option.elim, Int.toNat_natCast]
theorem cut1620 {l : List UInt8} : cut l (some 16) (some 20) = (l.drop 16).take 4 := rfl
theorem bent_id {l : List UInt8} (h : WrittenOk l) : BentOk l := by
  refine ⟨written_le h, fun _ => ?_⟩
  obtain ⟨p, rows, old, rfl, hp, hr, h0, h1⟩ := h
  rw [cut1620]
  have e : ((p ++ be4 old ++ be4 64 ++ rows).drop 16).take 4 = be4 old := by
    rw [List.append_assoc, List.append_assoc, List.drop_append_of_le_length (by omega), List.drop_eq_nil_of_le (by omega), List.nil_append]
    rfl
  rw [e]
  have q : ∀ n, n < 5 → beVal (be4 ((n : Nat) : Int)) ≤ 7 := by decide
  rw [← Int.toNat_of_nonneg h0]
  exact q _ ((Int.toNat_lt h0).mpr h1)
theorem bent_take {l : List UInt8} {k : Int} (h : WrittenOk l) (h0 : 0 ≤ k) : BentOk (cut l none (some k)) := by
  obtain ⟨b1, b2⟩ := bent_id h
  have e : cut l none (some k) = l.take k.toNat := by unfold cut; simp
  rw [e]
  refine ⟨by rw [List.length_take]; omega, fun hl => ?_⟩
  rw [List.length_take] at hl
  have b3 := b2 (by omega)
  rw [cut1620] at b3 ⊢
  rw [List.drop_take, List.take_take, Nat.min_eq_left (by omega)]
  exact b3
theorem beVal_get {l : List UInt8} (h : 20 ≤ l.length) : beVal ((l.drop 16).take 4) = (((l.getD 16 0).toNat * 256 + (l.getD 17 0).toNat) * 256 + (l.getD 18 0).toNat) * 256 + ((l.getD 19 0).toNat : Int) := by
  have e : (l.drop 16).take 4 = [l.getD 16 0, l.getD 17 0, l.getD 18 0, l.getD 19 0] := by
    apply List.ext_getElem?
    intro n
    rw [List.getElem?_take, List.getElem?_drop]
    by_cases hn : n < 4
    · rw [if_pos hn]
      rcases n with _ | _ | _ | _ | n
      all_goals first | exact absurd hn (Nat.not_lt.mpr (Nat.le_add_left 4 n)) | skip
      all_goals simp [List.getD_eq_getElem?_getD, List.getElem?_eq_getElem (show 16 < l.length by omega), List.getElem?_eq_getElem (show 17 < l.length by omega), List.getElem?_eq_getElem (show 18 < l.length by omega), List.getElem?_eq_getElem (show 19 < l.length by omega)]
    · rw [if_neg hn, List.getElem?_eq_none (by simpa using hn)]
  rw [e]
  simp [beVal]
theorem bent_set {l : List UInt8} {k v : Int} (h : WrittenOk l) (h0 : 0 ≤ k) (h1 : k < l.length) (hs : ¬ (16 ≤ k ∧ k < 19)) (hv : 0 ≤ v) (hv8 : k = 19 → v < 8) : BentOk (cut l none (some k) ++ [v.toNat.toUInt8] ++ cut l (some (k + 1)) none) := by
  obtain ⟨b1, b2⟩ := bent_id h
  have hl1 := written_ge h
  have e : cut l none (some k) ++ [v.toNat.toUInt8] ++ cut l (some (k + 1)) none = l.set k.toNat v.toNat.toUInt8 := by
    unfold cut
    simp only [Option.elim, List.drop_zero, Nat.sub_zero]
    rw [List.take_of_length_le (l := l.drop (k + 1).toNat) (by rw [List.length_drop]; exact Nat.le_refl _), List.set_eq_take_append_cons_drop, if_pos (by omega), show (k + 1).toNat = k.toNat + 1 from toNat_add' (n := 1) h0]
    simp
  rw [e]
  refine ⟨by rw [List.length_set]; exact b1, fun _ => ?_⟩
  have b3 := b2 hl1
  rw [cut1620, beVal_get (by omega)] at b3
  rw [cut1620, beVal_get (by rw [List.length_set]; omega)]
  simp only [List.getD_eq_getElem?_getD, List.getElem?_set] at b3 ⊢
  have g : ∀ j : Nat, 16 ≤ j → j < 19 → ¬ k.toNat = j := fun j _ _ => by omega
  rw [if_neg (g 16 (by decide) (by decide)), if_neg (g 17 (by decide) (by decide)), if_neg (g 18 (by decide) (by decide))]
  by_cases hk : k.toNat = 19
  · rw [if_pos hk, if_pos (by omega)]
    have hv' := hv8 (by omega)
    have q : ∀ n, n < 8 → ((some (Nat.toUInt8 n) : Option UInt8).getD 0).toNat ≤ 7 := by decide
    have e' : ((some v.toNat.toUInt8 : Option UInt8).getD 0).toNat ≤ 7 := q _ ((Int.toNat_lt hv).mpr hv')
    omega
  · rw [if_neg hk]; exact b3

theorem bent_k {E : Value → Shared → Prop} {Q : Value → Shared → Prop} {hp : Heap} {g : Array GenState} {dr : Drawn} {tk : Nat} {os : OsState} {news : List (Addr × Obj)} {news' : Obj → List (Addr × Obj)} {src : Addr} {d c : Int} {t1 t2 : Tok} {n : Nat} {x : List UInt8} {t3 : Tok}
    (B : Below A₀ base outer h₀) (F : Fr h₀ L hp m) (X : (Mine.hd.heap_39 w.params).In h₀) (N : News h₀ L hp news) (T : Top VW LO mean mg mb h₀) (kk : cs.kind = .function) (hd : dp + 12 < recursionLimit)
    (U : UpdF src (W.listOf #[.int d t1, .int c t2] n) news news') (h0 : 0 ≤ d) (h3 : 0 ≤ c) (h4 : c < 2147483647) (hw : WrittenOk x) (hl1 : 24 ≤ x.length) (hl2 : x.length ≤ 240)
    (hret : ∀ d' c' (l : List UInt8) (t : Tok) t1' t2' h' tk', BentOk l → 0 ≤ d' → 0 ≤ c' → c' < 2147483647 → Fr h₀ L h' m → News h₀ L h' (news' (W.listOf #[.int d' t1', .int c' t2'] n)) → Q (.bytes l.toArray t) ⟨h', g, dr, tk', os⟩) :
    wpAny (model PySem.Challenge.rw_pb0455_01.row.prog w) (ktrTop dp un gd cn cs L a ccd cl outer) (call (.ref 556) [Value.ref src, Value.bytes x.toArray t3]) Q E ⟨hp, g, dr, tk, os⟩ := by
  have hm := updF_mem U
  have S : Site w mean mg mb outer A₀ base h₀ L m cs hp [(src, W.listOf #[.int d t1, .int c t2] n)] := ⟨B, F, X, (fun p hp' => N p (by rw [List.mem_singleton.mp hp']; exact hm)), T, kk⟩
  have hret' : ∀ d' c' (l : List UInt8) (t : Tok) t1' t2' h' tk', BentOk l → 0 ≤ d' → 0 ≤ c' → c' < 2147483647 → Keep [src] hp h' → h'.get? src = some (W.listOf #[.int d' t1', .int c' t2'] n) → Q (.bytes l.toArray t) ⟨h', g, dr, tk', os⟩ := by
    intro d' c' l t t1' t2' h' tk' a0 a1 a2 a3 k e
    exact hret d' c' l t t1' t2' h' tk' a0 a1 a2 a3 (frK F N k (fun x hx => by rw [List.mem_singleton.mp hx]; exact List.mem_map_of_mem (f := (·.1)) hm)) (updF1 N k e U)
  clear B F X N T kk hret
  refine wpAny_call ?_
  k_dflt (refine' enterZ (s := ⟨hp, g, dr, tk, os⟩) (led := [(src, W.listOf #[.int d t1, .int c t2] n)]) (binds := [(Str.ofString "source", Value.ref src), (Str.ofString "octets", Value.bytes x.toArray t3)]) ?kS ?k6 ?k7 ?k8 ?k9 ?kB ?_ ?c2 ?c3 ?c4 ?c5; walk_at "cell_enterZ")
  k_steps
  all_goals first
    | (refine' hret' _ _ _ _ _ _ _ _ (bent_id hw) ?b ?c ?d (keep1 ?k1 ?k2) (News.get ?n ?mem); (case k1 => assumption); (case k2 => assumption); (case n => assumption); (case mem => k_mem); (case b => assumption); (case c => assumption); (case d => assumption))
    | (refine' hret' _ _ _ _ _ _ _ _ (bent_take hw ?q1) ?b ?c ?d (keep1 ?k1 ?k2) (News.get ?n ?mem); (case k1 => assumption); (case k2 => assumption); (case n => assumption); (case mem => k_mem); (case q1 => omega); (case b => assumption); (case c => assumption); (case d => assumption))
    | (refine' hret' _ _ _ _ _ _ _ _ (bent_set hw ?q1 ?q2 ?q3 ?q4 ?q5) ?b ?c ?d (keep1 ?k1 ?k2) (News.get ?n ?mem); (case k1 => assumption); (case k2 => assumption); (case n => assumption); (case mem => k_mem); (case q1 => omega); (case q2 => omega); (case q3 => omega); (case q4 => omega); (case q5 => (intro _; omega)); (case b => assumption); (case c => assumption); (case d => assumption))

end
end
section
local macro_rules | `(tactic| walk_at "odd part") => `(tactic| skip)
local macro_rules | `(tactic| walk_at $s:str) => do
  let xs := (rowsFor [("lines2", kp_lines2), ("pre2", kp_pre2)] s.getString).reverse
  let x :: r := xs | Lean.Macro.throwUnsupported
  let y := Lean.Syntax.mkStrLit x
  let mut t ← `(tactic| k_extra $y)
  for z in r do
    let y := Lean.Syntax.mkStrLit z
    t ← `(tactic| first | k_extra $y | ($t:tactic))
  return t
section
variable {w : World} {mean : ExcName → Option Value} {mg mb : Str → Option Value} {dp un : Nat} {gd : Option (List Code)} {cn : Str} {cs : Scope} {L a : Addr} {ccd : Value} {cl : List (Str × Addr)} {outer : List Env} {A₀ : Around} {base h₀ : Heap} {m : Str → Option Value} {s : Shared} {led : List (Addr × Obj)} {Q E : Value → Shared → Prop}


theorem primer_C8 (w : World) (h : Heap) : (Mine.hd.heap_39 w.params).In h → (PySem.Challenge.rw_pb0455_01.Holds → True) := by
  k_fill
  intros; trivial

theorem mkfile_k {E : Value → Shared → Prop} {Q : Value → Shared → Prop} {hp : Heap} {g : Array GenState} {dr : Drawn} {tk : Nat} {os : OsState} {news : List (Addr × Obj)} {dk : Addr} {nm : Str} {t1 : Tok}
    (B : Below A₀ base outer h₀) (F : Fr h₀ L hp m) (X : (Mine.hd.heap_39 w.params).In h₀) (N : News h₀ L hp news) (T : Top VW LO mean mg mb h₀) (kk : cs.kind = .function) (hd : dp + 6 < recursionLimit)
    (hret : ∀ (f fd p n : Addr) (k1 k2 k3 k4 k5 t2 : Tok) h' tk', (∀ q ∈ news, q.1 < fd) → @LT.lt Nat _ fd f → @LT.lt Nat _ f p → @LT.lt Nat _ p n → Fr h₀ L h' m → News h₀ L h' ((n, baObj []) :: (p, W.listOf #[] 0) :: (f, instObj 390 fd) :: (fd, dictOf [{ hash := PyData.keyHash w.params (Str.ofString "disk"), key := Value.str (Str.ofString "disk") k1, val := Value.ref dk }, { hash := PyData.keyHash w.params (Str.ofString "name"), key := Value.str (Str.ofString "name") k2, val := Value.str nm t1 }, { hash := PyData.keyHash w.params (Str.ofString "synced"), key := Value.str (Str.ofString "synced") k3, val := Value.bytes #[] t2 }, { hash := PyData.keyHash w.params (Str.ofString "pending"), key := Value.str (Str.ofString "pending") k4, val := Value.ref p }, { hash := PyData.keyHash w.params (Str.ofString "now"), key := Value.str (Str.ofString "now") k5, val := Value.ref n }] 5) :: news) → Q (.ref f) ⟨h', g, dr, tk', os⟩) :
    wpC (model PySem.Challenge.rw_pb0455_01.row.prog w) (ktrTop dp un gd cn cs L a ccd cl outer) (call (.ref 390) [.ref dk, .str nm t1]) Q E ⟨hp, g, dr, tk, os⟩ := by
  k_dflt (refine' C_cls ?k1 ?k2 ?k3 ?k4 ?k5 ?k6 ?_; (case k1 => k_asm); (case k2 => k_asm); (case k3 => k_asm); (case k4 => k_is); (case k5 => k_is); (case k6 => k_is); k_whole; intro x' d' h' F' N' l1 l2; (try k_lt2 l2); (try k_sweep))
  k_dflt (refine' enterCK (binds := [(Str.ofString "self", .ref x'), (Str.ofString "disk", .ref dk), (Str.ofString "name", .str nm t1)]) ?k1 ?k2 ?k3 ?k4 ?k5 ?kA ?kF ?kK ?k6 ?k7 ?k8 ?k9 ?kB ?_ ?c2 ?c3 ?c4 ?c5; walk_at "enterCK_cases")
  k_steps
  refine' hret _ _ _ _ _ _ _ _ _ _ _ _ l1 l2 ?q1 ?q2 ?q3 ?q4
  case q3 => k_asm
  case q4 => k_asm
  case q1 => omega
  case q2 => omega

end
end
section
local macro_rules | `(tactic| walk_at $s:str) => do
  let xs := (rowsFor [("pre2", kp_pre2)] s.getString).reverse
  let x :: r := xs | Lean.Macro.throwUnsupported
  let y := Lean.Syntax.mkStrLit x
  let mut t ← `(tactic| k_extra $y)
  for z in r do
    let y := Lean.Syntax.mkStrLit z
    t ← `(tactic| first | k_extra $y | ($t:tactic))
  return t
section
variable {w : World} {mean : ExcName → Option Value} {mg mb : Str → Option Value} {dp un : Nat} {gd : Option (List Code)} {cn : Str} {cs : Scope} {L a : Addr} {ccd : Value} {cl : List (Str × Addr)} {outer : List Env} {A₀ : Around} {base h₀ : Heap} {m : Str → Option Value} {s : Shared} {led : List (Addr × Obj)} {Q E : Value → Shared → Prop}


theorem primer_C11 (w : World) (h : Heap) : (Mine.hd.heap_39 w.params).In h → (PySem.Challenge.rw_pb0455_01.Holds → True) := by
  k_fill
  intros; trivial

theorem putB_cut {b x : List UInt8} {k : Int} (h0 : 0 ≤ k) : cut (b ++ List.replicate (max 0 (k - (b.length : Int))).toNat 0) none (some k) ++ x ++ cut (b ++ List.replicate (max 0 (k - (b.length : Int))).toNat 0) (some (k + (x.length : Int))) none = putB b k x := by
  have e : (max 0 (k - (b.length : Int))).toNat = (k - (b.length : Int)).toNat := max0_nat _
  rw [e]
  unfold putB putAt cut
  simp only [Option.elim, List.drop_zero, Nat.sub_zero]
  rw [List.take_of_length_le (l := List.drop (k + (x.length : Int)).toNat _) (by rw [List.length_drop]; exact Nat.le_refl _), show (k + (x.length : Int)).toNat = k.toNat + x.length from toNat_add' h0]

theorem lput_k {E : Value → Shared → Prop} {Q : Value → Shared → Prop} {hp : Heap} {g : Array GenState} {dr : Drawn} {tk : Nat} {os : OsState} {news : List (Addr × Obj)} {b x : List UInt8} {k : Int} {t1 t2 t3 : Tok}
    (B : Below A₀ base outer h₀) (F : Fr h₀ L hp m) (X : (Mine.hd.heap_39 w.params).In h₀) (N : News h₀ L hp news) (T : Top VW LO mean mg mb h₀) (kk : cs.kind = .function) (hd : dp + 6 < recursionLimit) (h0 : 0 ≤ k) (h1 : k ≤ 1048576) (h2 : b.length ≤ 1048576) (h3 : x.length ≤ 1048576)
    (hret : ∀ h' tk' t', Fr h₀ L h' m → News h₀ L h' news → Q (.bytes (putB b k x).toArray t') ⟨h', g, dr, tk', os⟩) :
    wpAny (model PySem.Challenge.rw_pb0455_01.row.prog w) (ktrTop dp un gd cn cs L a ccd cl outer) (call (.ref 575) [Value.bytes b.toArray t1, Value.int k t2, Value.bytes x.toArray t3]) Q E ⟨hp, g, dr, tk, os⟩ := by
  have S : Site w mean mg mb outer A₀ base h₀ L m cs hp [] := ⟨B, F, X, (fun _ q => nomatch q), T, kk⟩
  have hret' : ∀ (h' : Heap), Keep [] hp h' → Fr h₀ L h' m ∧ News h₀ L h' news := fun h' k => ⟨frK (as := []) F N k (fun _ q => nomatch q), keep0 N k⟩
  clear B F X N T kk
  refine wpAny_call ?_
  k_dflt (refine' enterZ (s := ⟨hp, g, dr, tk, os⟩) (led := []) (binds := [(Str.ofString "whole", Value.bytes b.toArray t1), (Str.ofString "spot", Value.int k t2), (Str.ofString "octets", Value.bytes x.toArray t3)]) ?kS ?k6 ?k7 ?k8 ?k9 ?kB ?_ ?c2 ?c3 ?c4 ?c5; walk_at "cell_enterZ")
  k_steps
  rw [putB_cut h0]
  exact hret _ _ _ (hret' _ (keepN (by assumption) (by assumption))).1 (hret' _ (keepN (by assumption) (by assumption))).2

end
end
end Mine
end
section
open PySem PySem.W PySem.Calls PyProof.Rows PyProof.V PySem.Spec
set_option Elab.async false
set_option linter.unusedVariables false
set_option maxRecDepth 100000
namespace Mine
section
variable {prog : Program} {w : World} {A : Around} {E : Value → Shared → Prop} {s : Shared} {env : Env} {R : Result → Shared → Prop}
theorem wpC_noted {α : Type} {m : Sem α} {Q : α → Shared → Prop} (h : wpC (model prog w) A m Q (notedBy (model prog w) A env E) s) : wpC (model prog w) A (m.onRaise fun x => do noteFrame x env; theTreesLotGoes x) Q E s :=
  wpC_onRaise (wpC_mono h (fun _ _ q => q) fun _ _ hx => wpC_seq (wpAny_mono hx (fun _ _ e => wpC_of (wpAny_theTreesLotGoes e)) fun _ _ e => e))
theorem wpC_runOwn {c : Code} {h : Option Value} {Q : Flow → Shared → Prop} (ho : okCode c = true)
    (hc : codeC (model prog w) (A.mark h) c (fun r s' => match r with | .ok f => Q f s' | .error e => cameBackBy (model prog w) A env E e s') s) (hnb : h ≠ some byPass := by intro x; cases x) :
    wpC (model prog w) A (runOwn c env h) Q E s := by
  unfold runOwn
  exact wpC_onRaise (wpC_run ho (codeC_mono hc fun r s' y => by cases r with | ok f => exact y | error e => exact wpC_of y) hnb)
theorem codeC_block {body : List Stmt} (h : wpC (model prog w) A (execs body env) (fun f s' => R (.ok f) s') (notedBy (model prog w) A env fun e s' => R (.error e) s') s) : codeC (model prog w) A (.block body env) R s := by
  refine codeC_of_tree ?_
  show wpC _ _ (do return Fin.done (← (execs body env).onRaise (fun x => do noteFrame x env; theTreesLotGoes x))) _ _ s
  exact wpC_bind (wpC_noted (wpC_mono h (fun f s' q => wpC_pure q) fun _ _ x => x))
theorem codeC_turn {target : PySem.Expr} {it : Value} {body orelse : List Stmt}
    (h : wpAny (model prog w) A (pyNext it) (fun r s₁ => match r with
      | none => wpC (model prog w) A (execs orelse env) (fun f s₃ => R (.ok f) s₃) (notedBy (model prog w) A env fun e s' => R (.error e) s') s₁
      | some v => wpAny (model prog w) A (letOwnedTupleGo target it v) (fun _ s₁' => wpAny (model prog w) A (assign target env v) (fun _ s₂ => wpC (model prog w) A (execs body env) (fun f s₃ => match f with
          | .next | .cont => codeC (model prog w) A (.forLoop target it body orelse env) R s₃
          | .brk => R (.ok .next) s₃
          | .ret v => R (.ok (.ret v)) s₃) (notedBy (model prog w) A env fun e s' => R (.error e) s') s₂) (notedBy (model prog w) A env fun e s' => R (.error e) s') s₁') (notedBy (model prog w) A env fun e s' => R (.error e) s') s₁) (notedBy (model prog w) A env fun e s' => R (.error e) s') s) : codeC (model prog w) A (.forLoop target it body orelse env) R s := by
  refine codeC_of_tree ?_
  show wpC _ A ((forTurn target it body orelse env).onRaise (fun x => do noteFrame x env; theTreesLotGoes x)) _ _ s
  refine wpC_noted ?_
  simp only [forTurn]
  refine wpC_stand (wpC_bind (wpC_onRaise (wpC_of (wpAny_mono h (fun r s₁ h₁ => ?_) fun _ _ h' => wpC_standAt h'))))
  cases r with
  | none => exact wpC_pure ⟨rfl, rfl, codeC_block h₁⟩
  | some v =>
    refine wpC_seq (wpAny_mono h₁ (fun _ s₁' h₁' => ?_) fun _ _ h' => h')
    refine wpC_seq (wpAny_mono h₁' (fun _ s₂ h₂ => wpC_bind (wpC_mono h₂ (fun f s₃ h₃ => ?_) fun _ _ h' => h')) fun _ _ h' => h')
    cases f with
    | next => exact wpC_pure ⟨rfl, rfl, h₃⟩
    | cont => exact wpC_pure ⟨rfl, rfl, h₃⟩
    | brk => exact wpC_pure h₃
    | ret v => exact wpC_pure h₃
theorem C_For {target iter body pos} {Q : Flow → Shared → Prop}
    (h : wpAny (model prog w) A (eval iter env) (fun x s₁ => wpAny (model prog w) A (pyIter x) (fun it s₂ =>
      codeC (model prog w) A (.forLoop target it body [] env) (fun r s' => match r with | .ok f => Q f s' | .error e => cameBackBy (model prog w) A env E e s') s₂) E s₁) E s)
    (hs : ∀ x, foldedSetIterable iter env x = pure x := by intro _; rfl) :
    wpC (model prog w) A (exec (.For target iter body [] pos) env) Q E s := by
  rw [exec_For]
  exact wpC_stand (wpC_seq (wpAny_mono h (fun x s₁ h₁ => wpC_bind (wpC_of_eq (hs x) (wpC_stand (wpC_bind (wpC_holding (wpC_of (wpAny_mono h₁ (fun it s₂ h₂ => wpC_runOwn rfl h₂) fun _ _ h' => h'))))))) fun _ _ h' => h'))
end
section
variable {prog : Program} {w : World} {A : Around} {E : Value → Shared → Prop} {hp : Heap} {g : Array GenState} {dr : Drawn} {tk : Nat} {os : OsState} {h₀ : Heap} {L l I : Addr} {m : Str → Option Value} {news news' : List (Addr × Obj)} {vs : Array Value} {c i : Nat} {o : Obj}
inductive Del (d : Addr) (o : Obj) : List (Addr × Obj) → List (Addr × Obj) → Prop
  | head {r} : (∀ p ∈ r, p.1 ≠ d) → Del d o ((d, o) :: r) r
  | tail {p r r'} : p.1 ≠ d → Del d o r r' → Del d o (p :: r) (p :: r')
theorem del_in {d : Addr} {o : Obj} : ∀ {l l' : List (Addr × Obj)}, Del d o l l' → (d, o) ∈ l ∧ ∀ q ∈ l', q ∈ l ∧ q.1 ≠ d
  | _, _, .head h => ⟨.head _, fun q hq => ⟨.tail _ hq, h q hq⟩⟩
  | _, _, .tail h r => ⟨.tail _ (del_in r).1, fun q hq => by
      rcases List.mem_cons.mp hq with rfl | hq
      · exact ⟨.head _, h⟩
      · exact ⟨.tail _ ((del_in r).2 q hq).1, ((del_in r).2 q hq).2⟩⟩
def IsLit (o : Obj) (l : Addr) (i : Nat) : Prop := o.cls = .type "list_iterator" ∧ o.data = .fields #[.ref l, .int i 0]
theorem k_iter {Q : Value → Shared → Prop} (F : Fr h₀ L hp m) (N : News h₀ L hp news) (hm : (l, W.listOf vs c) ∈ news)
    (h : ∀ I o h', IsLit o l 0 → Fr h₀ L h' m → News h₀ L h' ((I, o) :: news) → (∀ p ∈ news, p.1 < I) → Q (.ref I) ⟨h', g, dr, tk, os⟩) : wpAny (model prog w) A (pyIter (.ref l)) Q E ⟨hp, g, dr, tk, os⟩ := by
  refine wpAny_pyIter_list (s := ⟨hp, g, dr, tk, os⟩) (PySem.IsL.isList (n := c) (N _ hm).1) ?_
  have z := n_add (hp := hp) (o := ({ cls := .type "list_iterator", data := .fields #[.ref l, .int 0 0] } : Obj)) F N (fun b o' _ e => Heap.get?_push_of_some _ e) (Heap.get?_push_size _ rfl) (Nat.le_refl _)
  exact h _ _ _ ⟨rfl, rfl⟩ z.1 z.2.1 z.2.2
theorem k_next {v : Value} {Q : Option Value → Shared → Prop} {news' : Obj → List (Addr × Obj)} (F : Fr h₀ L hp m) (N : News h₀ L hp news) (hm : (l, W.listOf vs c) ∈ news) (U : UpdF I o news news') (hi : IsLit o l i) (hx : vs[i]? = some v)
    (h : ∀ o' h', IsLit o' l (i + 1) → Fr h₀ L h' m → News h₀ L h' (news' o') → Q (some v) ⟨h', g, dr, tk, os⟩) : wpAny (model prog w) A (pyNext (.ref I)) Q E ⟨hp, g, dr, tk, os⟩ := by
  refine wpAny_pyNext_list_item (s := ⟨hp, g, dr, tk, os⟩) (l := l) (i := i) (items := vs) ⟨o, (N _ (updF_mem U)).1, hi.1, hi.2⟩ (PySem.IsL.isList (n := c) (N _ hm).1) hx fun h' hit hs => ?_
  obtain ⟨o', e', c1, c2⟩ := hit
  have k : Keep [I] hp h' := fun b x n q => (hs.2 b (fun z => n (by rw [z]; exact List.mem_singleton.mpr rfl))).trans q
  exact h o' h' ⟨c1, c2⟩ (frK F N k (fun x hx => by rw [List.mem_singleton.mp hx]; exact List.mem_map_of_mem (f := (·.1)) (updF_mem U))) (updF1 N k e' U)
theorem k_done {Q : Option Value → Shared → Prop} (hh : A.handled = none) (F : Fr h₀ L hp m) (N : News h₀ L hp news) (hm : (l, W.listOf vs c) ∈ news) (D : Del I o news news') (hi : IsLit o l i) (hx : vs[i]? = none)
    (h : ∀ h', Fr h₀ L h' m → News h₀ L h' news' → Q none ⟨h', g, dr, tk, os⟩) : wpAny (model prog w) A (pyNext (.ref I)) Q E ⟨hp, g, dr, tk, os⟩ := by
  refine wpAny_pyNext_list_end (s := ⟨hp, g, dr, tk, os⟩) (l := l) (i := i) (items := vs) hh ⟨o, (N _ (del_in D).1).1, hi.1, hi.2⟩ (PySem.IsL.isList (n := c) (N _ hm).1) hx fun h' hs => ?_
  have k : Keep [I] hp h' := fun b x n q => hs b x (fun z => n (by rw [z]; exact List.mem_singleton.mpr rfl)) q
  exact h h' (frK F N k (fun x hx => by rw [List.mem_singleton.mp hx]; exact List.mem_map_of_mem (f := (·.1)) (del_in D).1)) fun p hp' => ⟨k _ _ (by simpa using ((del_in D).2 p hp').2) (N p ((del_in D).2 p hp').1).1, (N p ((del_in D).2 p hp').1).2⟩
theorem k_owned {elts : List PySem.Expr} {x1} {pos : Pos} {T : Addr} {Q : Unit → Shared → Prop} (N : News h₀ L hp news) (hm : (I, o) ∈ news) (hi : IsLit o l i) (h : Q () ⟨hp, g, dr, tk, os⟩) : wpAny (model prog w) A (letOwnedTupleGo (.Tuple elts x1 pos) (.ref I) (.ref T)) Q E ⟨hp, g, dr, tk, os⟩ :=
  wpAny_letOwnedTupleGo_listiter (s := ⟨hp, g, dr, tk, os⟩) ⟨o, (N _ hm).1, hi.1, hi.2⟩ h
theorem k_assignT {env : Env} {elts : List PySem.Expr} {x1} {pos : Pos} {T : Addr} {items : Array Value} {nn : Nat} {Q : Unit → Shared → Prop} (F : Fr h₀ L hp m) (N : News h₀ L hp news) (hm : (T, ({ cls := .type "tuple", data := .seq items nn } : Obj)) ∈ news) (hh : A.handled = none)
    (hn : (assignEach elts env).length = items.size) (hstar : (assignEach elts env).findIdx? (·.1) = none)
    (h : ∀ h', Fr h₀ L h' m → News h₀ L h' news → wpAny (model prog w) A (assignInOrder ((assignEach elts env).map (·.2)) items.toList) Q E ⟨h', g, dr, tk, os⟩) :
    wpAny (model prog w) A (assign (.Tuple elts x1 pos) env (.ref T)) Q E ⟨hp, g, dr, tk, os⟩ :=
  assign_Tuple_tuple (s := ⟨hp, g, dr, tk, os⟩) hh ⟨_, (N _ hm).1, rfl, nn, rfl⟩ hn hstar fun h' hs => by
    have k : Keep [] hp h' := fun b x _ q => hs b x (Nat.ne_of_lt (Heap.lt_size q)) q
    exact h h' (frK (as := []) F N k (fun _ q => nomatch q)) (keep0 N k)
theorem k_eqlen {a b : Addr} {xs ys : Array Value} {c1 c2 : Nat} {Q : Value → Shared → Prop} (N : News h₀ L hp news) (m1 : (a, W.listOf xs c1) ∈ news) (m2 : (b, W.listOf ys c2) ∈ news) (hsz : (xs.size != ys.size) = true) (hu : A.units < cLine) (h : Q (.bool false) ⟨hp, g, dr, tk, os⟩) :
    wpAny (model prog w) A (compareOp .Eq (.ref a) (.ref b)) Q E ⟨hp, g, dr, tk, os⟩ :=
  PySem.SeqAt.eq_list_lengthsAt (s := ⟨hp, g, dr, tk, os⟩) (PySem.IsL.isList (n := c1) (N _ m1).1) (PySem.IsL.isList (n := c2) (N _ m2).1) hsz hu h
theorem r_item1 {value slice : PySem.Expr} {l : Addr} {v : Value} {n : Nat} {k : Int} {u : Tok} {Q : Value → Shared → Prop} (N : News h₀ L hp news) (hm : (l, W.listOf #[v] n) ∈ news)
    (h0 : 0 ≤ k) (h1 : k < 1) (h : Q v ⟨hp, g, dr, tk, os⟩)
    (hs : subscripted slice false (.ref l) (.int k u) = operate [.ref l, .int k u] (getItem (.ref l) (.int k u)) := by with_unfolding_all rfl) :
    wpAny (model prog w) A (subscriptTail value slice (.ref l) (.int k u)) Q E ⟨hp, g, dr, tk, os⟩ := by
  have : k = 0 := by omega
  subst this
  exact r_item (s := ⟨hp, g, dr, tk, os⟩) (vs := [v]) N hm (by decide) (by decide) rfl h hs
end
end Mine
end
section
open PySem PySem.W PySem.Calls PyProof.Rows PyProof.V PySem.Spec
set_option Elab.async false
set_option linter.unusedVariables false
set_option maxRecDepth 100000
namespace Mine
section
variable {prog : Program} {w : World} {A : Around} {E : Value → Shared → Prop} {hp : Heap} {g : Array GenState} {dr : Drawn} {tk : Nat} {os : OsState} {h₀ : Heap} {L d : Addr} {m : Str → Option Value} {news : List (Addr × Obj)} {Q : Value → Shared → Prop}
theorem k_sorted2 {o : Obj} {a b : Str} {x y : Value} (hh : A.handled = none) (F : Fr h₀ L hp m) (N : News h₀ L hp news) (hm : (d, o) ∈ news) (hd : o.IsDictOf (PySem.strKind prog w) [(a, x), (b, y)]) (lo : (d == sysModules) = false)
    (h : ∀ (B : Addr) h' tk' t u, Fr h₀ L h' m → News h₀ L h' ((B, W.listOf #[.str a t, .str b u] 0) :: news) → (∀ q ∈ news, q.1 < B) →
      wpAny (model prog w) A.in1 (call (.builtin "list.sort") [.ref B]) (fun _ s' => Q (.ref B) s') E ⟨h', g, dr, tk', os⟩) :
    wpAny (model prog w) A (call (.builtin "sorted") [.ref d]) Q E ⟨hp, g, dr, tk, os⟩ := by
  obtain ⟨ep, hat⟩ := (kda_dict (s := ⟨hp, g, dr, tk, os⟩) N hm hd).dictAt
  refine kdu_sorted (s := ⟨hp, g, dr, tk, os⟩) (kdl_dict (knd := PySem.strKind prog w) (kvs := [(a, x), (b, y)]) (ep := ep) lo) hh F N hat (kdl_size (Nat.le_of_ble_eq_true rfl)) fun B h' tk vs F' N' l1 hl hv => ?_
  obtain ⟨v0, v1, rfl⟩ : ∃ v0 v1, vs = [v0, v1] := by
    match vs, hl with
    | [v0, v1], _ => exact ⟨v0, v1, rfl⟩
  obtain ⟨k0, x0, e0, q0⟩ := hv 0 v0 rfl
  obtain ⟨k1, x1, e1, q1⟩ := hv 1 v1 rfl
  simp only [List.getElem?_cons_zero, List.getElem?_cons_succ, Option.some.injEq, Prod.mk.injEq] at e0 e1
  obtain ⟨rfl, rfl⟩ := e0
  obtain ⟨rfl, rfl⟩ := e1
  obtain ⟨t, rfl⟩ := Value.isStrOf_shape q0
  obtain ⟨u, rfl⟩ := Value.isStrOf_shape q1
  exact h B h' tk t u F' N' l1
theorem k_nextL {l I : Addr} {c i : Nat} {o : Obj} {vs : List Value} {v : Value} {Q : Option Value → Shared → Prop} {news' : Obj → List (Addr × Obj)} (F : Fr h₀ L hp m) (N : News h₀ L hp news) (hm : (l, W.listOf vs.toArray c) ∈ news) (U : UpdF I o news news') (hi : IsLit o l i) (hx : vs[i]? = some v)
    (h : ∀ o' h', IsLit o' l (i + 1) → Fr h₀ L h' m → News h₀ L h' (news' o') → Q (some v) ⟨h', g, dr, tk, os⟩) : wpAny (model prog w) A (pyNext (.ref I)) Q E ⟨hp, g, dr, tk, os⟩ :=
  k_next F N hm U hi (by simpa using hx) h
theorem k_doneD {l I : Addr} {c i : Nat} {o : Obj} {vs : Array Value} {news' : List (Addr × Obj)} {Q : Option Value → Shared → Prop} (hh : A.handled = none) (F : Fr h₀ L hp m) (N : News h₀ L hp news) (hm : (l, W.listOf vs c) ∈ news) (D : Del I o news news') (hi : IsLit o l i) (hx : vs[i]? = none)
    (h : ∀ h', Del I o news news' → Fr h₀ L h' m → News h₀ L h' news' → Q none ⟨h', g, dr, tk, os⟩) : wpAny (model prog w) A (pyNext (.ref I)) Q E ⟨hp, g, dr, tk, os⟩ :=
  k_done hh F N hm D hi hx fun h' F' N' => h h' D F' N'
theorem k_ownedN {x : Str} {pos : Pos} {it v : Value} {Q : Unit → Shared → Prop} (h : Q () ⟨hp, g, dr, tk, os⟩) : wpAny (model prog w) A (letOwnedTupleGo (.Name x pos) it v) Q E ⟨hp, g, dr, tk, os⟩ := wpAny_of_eq (a := ()) rfl h
end
end Mine
end
section
open PySem PySem.W PySem.Calls PyProof.Rows PyProof.V PySem.Spec
set_option Elab.async false
set_option linter.unusedVariables false
set_option maxRecDepth 100000
namespace Mine
section
variable {w : World} {mean : ExcName → Option Value} {mg mb : Str → Option Value} {dp un : Nat} {gd : Option (List Code)} {cn : Str} {cs : Scope} {L a : Addr} {ccd : Value} {cl : List (Str × Addr)} {outer : List Env} {A₀ : Around} {base h₀ : Heap} {m : Str → Option Value} {s : Shared} {led : List (Addr × Obj)}
theorem enterZC {R : Result → Shared → Prop} {name qual : Str} {params : Arguments} {body : List Stmt} {scope : Scope} {dV kV doc pm cdv ct oc : Value} {an od : Option Addr} {osl : Array (Option Value)} {f : Addr} {args : Args} {binds : List (Str × Value)}
    (S : Site w mean mg mb outer A₀ base h₀ L m cs s.heap led)
    (ho : (Mine.hd.heap_39 w.params).lookup f = some ⟨oc, od, .func (fnOf name qual params body scope dV kV doc pm an cdv ct), osl⟩) (hcd : codeIn (Mine.hd.heap_39 w.params) cdv qual = true) (hroom : dp < recursionLimit)
    (hbind : BindsTo s (fnOf name qual params body scope dV kV doc pm an cdv ct) args binds) (hkind : (binds.all fun y => scope.names.lookup y.1 == some .local || scope.names.lookup y.1 == some .cell) = true)
    (hnd : ((cellsFrom 0 scope.names []).map (·.1)).Nodup)
    (h : ∀ g L' h₁ tk cells, Fr g L' h₁ (bindL (envOfC qual scope L' f cdv).kindOf binds fun _ => none) → News g L' h₁ (cells ++ led) →
      CellsAre (bindC (envOfC qual scope L' f cdv).kindOf binds fun _ => none) (cellsFrom (L' + 1) scope.names []) cells →
      Below (ktrTop dp un gd cn cs L a ccd cl outer) base (envX cn cs L a ccd cl :: outer) g → (Mine.hd.heap_39 w.params).In g → Top VW LO mean mg mb g →
      (∀ b o, s.heap.get? b = some o → b ∉ led.map (·.1) → g.get? b = some o) → (∀ p ∈ led, p.1 < L') →
      (let qk : Flow → Shared → Prop := fun fl s' => LeaveW g R (match fl with | .ret v => v | _ => .none) s'
       wpAny (model PG w) ((ktrTop dp un gd cn cs L a ccd cl outer).deeper (envOfC qual scope L' f cdv)) (execs body (envOfC qual scope L' f cdv)) qk NoE
        { s with heap := h₁, toks := tk }))
    (hco : scope.isCoroutine = false) (hgen : scope.isGenerator = false) (hk : scope.kind = .function) : codeAny (model PG w) (ktrTop dp un gd cn cs L a ccd cl outer) (.call (.ref f) args) R s := by
  obtain ⟨B, F, X₀, N, T, hke⟩ := S
  obtain ⟨FG, BG, st, _⟩ := groundX (A := ktrTop dp un gd cn cs L a ccd cl outer) (env := envX cn cs L a ccd cl) (R := R) B F N rfl rfl hke
  refine codeAny_call_function (fd := fnX name qual params body scope [] dV kV doc pm an cdv ct) hroom ((X₀.keeps F.keep) _ _ ho) rfl hco hgen rfl (codeRec_of (X₀.keeps F.keep) hcd) (hbind _ _ _ _ ?_)
  refine wpAny_newFunctionEnv_cells hk (kindsX hkind _) fun env' he s' x => ?_
  subst he
  refine ⟨(T.nolimit.keeps F.keep).keeps x.toInCall.keep, codeAny_func ?_⟩
  obtain ⟨h₁, tk, rfl, _⟩ := x.done
  have hk₁ := x.toInCall.keep
  obtain ⟨cells, NC, Y⟩ := Cl.news (h₀ := s.heap) (Nat.le_refl _) fun n c hm => ⟨x.cell n c (lookup_of_mem_nodup (cellsFrom_names scope.names 0 (s.heap.objs.size + 1) [] [] rfl ▸ hnd) hm), x.above n c hm⟩
  refine wpAny_noRaise (wpAny_mono (h _ s.heap.objs.size h₁ tk cells ⟨x.toInCall.ns, fun b o e => hk₁ b o (of_hideAll _ e), Nat.le_of_eq (hideAll_size _ _)⟩ (fun p hp => ?_) Y BG (X₀.keeps st) (T.keeps st) (fun b o e n => hideAll_get _ e n) (fun p hp => Heap.lt_size (N p hp).1)) (fun fl s' hl => ?_) fun _ _ y => y)
  · rcases List.mem_append.mp hp with hp | hp
    · refine ⟨(NC p hp).1, (NC p hp).2.1, ?_⟩
      cases q : (hideAll s.heap (led.map (·.1))).get? p.1 with
      | none => rfl
      | some o => have := of_hideAll _ q; rw [(NC p hp).2.2] at this; cases this
    · exact ⟨hk₁ _ _ (N p hp).1, Nat.ne_of_lt (Heap.lt_size (N p hp).1), hideAll_none _ (List.mem_map_of_mem hp)⟩
  · obtain ⟨L', m', news', F', N', k⟩ := hl
    exact k F'.keep N'

theorem fresh_ret {g hp h' : Heap} {L' : Addr} {led news' : List (Addr × Obj)} (kg : ∀ b o, hp.get? b = some o → b ∉ led.map (·.1) → g.get? b = some o) (N' : News g L' h' news') {D : Addr} {o : Obj} (hm : (D, o) ∈ news') (hD : D ∉ led.map (·.1)) : hp.get? D = none := by
  cases q : hp.get? D with
  | none => rfl
  | some o' => have := kg D o' q hD; rw [(N' _ hm).2.2] at this; cases this
theorem n_addN {hp h' : Heap} {D : Addr} {o : Obj} {news : List (Addr × Obj)} (F : Fr h₀ L hp m) (N : News h₀ L hp news) (k : Keep [] hp h') (e : h'.get? D = some o) (hn : hp.get? D = none) : Fr h₀ L h' m ∧ News h₀ L h' ((D, o) :: news) ∧ ∀ p ∈ news, p.1 ≠ D :=
  ⟨frK (as := []) F N k (fun _ q => nomatch q), fun p hp' => by
    rcases List.mem_cons.mp hp' with rfl | hq
    · refine ⟨e, ?_, ?_⟩
      · obtain ⟨oL, es, ep, hL, r⟩ := F.ns
        intro q
        rw [show D = L from q, hL] at hn; cases hn
      · cases q : h₀.get? D with
        | none => rfl
        | some o' => have := F.keep _ _ q; rw [hn] at this; cases this
    · exact keep0 N k p hq, fun p hq q => by
      have := (N p hq).1
      rw [q, hn] at this; cases this⟩
end
def AllNe (d : Addr) : List (Addr × Obj) → Prop
  | [] => True
  | p :: r => @Ne Nat p.1 d ∧ AllNe d r
theorem allNe_of {d : Addr} : ∀ {l : List (Addr × Obj)}, (∀ p ∈ l, p.1 ≠ d) → AllNe d l
  | [], _ => trivial
  | p :: r, h => ⟨h p (.head _), allNe_of fun q hq => h q (.tail _ hq)⟩
theorem keep_drop {a : Addr} {as : List Addr} {h h' : Heap} {o : Obj} (k : Keep (a :: as) h h') (e : h.get? a = some o) (e' : h'.get? a = some o) : Keep as h h' := fun b x n q => by
  by_cases c : b = a
  · subst c; rw [e] at q; cases q; exact e'
  · exact k b x (fun z => (List.mem_cons.mp z).elim c n) q
theorem news_cons {h₀ hp h' : Heap} {L D : Addr} {o : Obj} {m : Str → Option Value} {nw : List (Addr × Obj)} (F : Fr h₀ L hp m) (N : News h₀ L h' nw) (e : h'.get? D = some o) (hn : hp.get? D = none) : News h₀ L h' ((D, o) :: nw) := fun p hp' => by
  rcases List.mem_cons.mp hp' with rfl | hq
  · refine ⟨e, ?_, ?_⟩
    · obtain ⟨oL, es, ep, hL, r⟩ := F.ns
      intro q
      rw [show D = L from q, hL] at hn; cases hn
    · cases q : h₀.get? D with
      | none => rfl
      | some o' => have := F.keep _ _ q; rw [hn] at this; cases this
  · exact N p hq
theorem ne_new {h₀ hp : Heap} {L D : Addr} {nw : List (Addr × Obj)} (N : News h₀ L hp nw) (hn : hp.get? D = none) : ∀ q ∈ nw, q.1 ≠ D := fun q hq c => by
  have := (N q hq).1
  rw [c, hn] at this; cases this
theorem not_led {D : Addr} : ∀ {led : List (Addr × Obj)}, AllNe D led → D ∉ led.map (·.1)
  | [], _ => fun h => nomatch h
  | p :: r, h => fun q => by
    rcases List.mem_cons.mp q with q | q
    · exact h.1 q.symm
    · exact not_led h.2 q
theorem upd_in {d : Addr} {o o' : Obj} {l l' : List (Addr × Obj)} (U : Upd d o o' l l') : ∀ q ∈ l', q = (d, o') ∨ (q ∈ l ∧ q.1 ≠ d) := by
  obtain ⟨pre, post, rfl, rfl, h1, h2⟩ := U.split
  intro q hq
  rcases List.mem_append.mp hq with h | h
  · exact .inr ⟨List.mem_append.mpr (.inl h), h1 q h⟩
  · rcases List.mem_cons.mp h with h | h
    · exact .inl h
    · exact .inr ⟨List.mem_append.mpr (.inr (.tail _ h)), h2 q h⟩
def AddrOk (h₀ : Heap) (L : Addr) (l : List (Addr × Obj)) : Prop := ∀ q ∈ l, q.1 ≠ L ∧ h₀.get? q.1 = none
theorem AddrOk.upd {h₀ : Heap} {L d : Addr} {o o' : Obj} {l l' : List (Addr × Obj)} (k : AddrOk h₀ L l) (U : Upd d o o' l l') : AddrOk h₀ L l' := fun q hq => by
  rcases upd_in U q hq with rfl | h
  · exact k (d, o) (upd_mem U)
  · exact k q h.1
theorem news2 {h₀ h h' : Heap} {L a1 a2 : Addr} {x1 y1 x2 y2 : Obj} {news n1 n2 : List (Addr × Obj)} (N : News h₀ L h news) (k : Keep [a1, a2] h h') (U1 : Upd a1 x1 y1 news n1) (U2 : Upd a2 x2 y2 n1 n2)
    (g1 : h'.get? a1 = some y1) (g2 : h'.get? a2 = some y2) : News h₀ L h' n2 := fun q hq => by
  have A0 : AddrOk h₀ L news := fun q hq => (N q hq).2
  refine ⟨?_, ((A0.upd U1).upd U2) q hq⟩
  rcases upd_in U2 q hq with rfl | ⟨hq, e2⟩
  · exact g2
  rcases upd_in U1 q hq with rfl | ⟨hq, e1⟩
  · exact g1
  exact k _ _ (by simp [e1, e2]) (N q hq).1
theorem news3 {h₀ h h' : Heap} {L a1 a2 a3 : Addr} {x1 y1 x2 y2 x3 y3 : Obj} {news n1 n2 n3 : List (Addr × Obj)} (N : News h₀ L h news) (k : Keep [a1, a2, a3] h h') (U1 : Upd a1 x1 y1 news n1) (U2 : Upd a2 x2 y2 n1 n2) (U3 : Upd a3 x3 y3 n2 n3)
    (g1 : h'.get? a1 = some y1) (g2 : h'.get? a2 = some y2) (g3 : h'.get? a3 = some y3) : News h₀ L h' n3 := fun q hq => by
  have A0 : AddrOk h₀ L news := fun q hq => (N q hq).2
  refine ⟨?_, (((A0.upd U1).upd U2).upd U3) q hq⟩
  rcases upd_in U3 q hq with rfl | ⟨hq, e3⟩
  · exact g3
  rcases upd_in U2 q hq with rfl | ⟨hq, e2⟩
  · exact g2
  rcases upd_in U1 q hq with rfl | ⟨hq, e1⟩
  · exact g1
  exact k _ _ (by simp [e1, e2, e3]) (N q hq).1
theorem frK' {as : List Addr} {h₀ h h' : Heap} {L : Addr} {m : Str → Option Value} (F : Fr h₀ L h m) (A0 : ∀ x ∈ as, x ≠ L ∧ h₀.get? x = none) (k : Keep as h h') : Fr h₀ L h' m := by
  obtain ⟨oL, es, ep, hL, r⟩ := F.ns
  exact ⟨⟨oL, es, ep, k L oL (fun q => (A0 L q).1 rfl) hL, r⟩, fun b o e => k b o (fun q => by rw [(A0 b q).2] at e; cases e) (F.keep b o e), F.above⟩
theorem addr1 {h₀ h : Heap} {L d : Addr} {o : Obj} {news : List (Addr × Obj)} (N : News h₀ L h news) (hm : (d, o) ∈ news) : d ≠ L ∧ h₀.get? d = none := (N _ hm).2
theorem keep_swap {as bs : List Addr} {h h' : Heap} (k : Keep as h h') (s : ∀ a ∈ as, a ∈ bs) : Keep bs h h' := k.mono s
end Mine
end
section
open PySem PySem.W PySem.Calls PyProof.Rows PyProof.V PySem.Spec
set_option Elab.async false
set_option linter.unusedVariables false
set_option maxRecDepth 100000
namespace Mine
def NdA (l : List Addr) : Prop := l.Nodup
theorem nd_lt {l : List (Addr × Obj)} {D : Addr} {L : List Addr} (h : ∀ p ∈ l, p.1 < D) (n : NdA L) (e : l.map (·.1) = L) : NdA (D :: L) :=
  List.nodup_cons.mpr ⟨fun q => by subst e; obtain ⟨p, hp, rfl⟩ := List.mem_map.mp q; exact Nat.lt_irrefl _ (h p hp), n⟩
theorem nd_neq {l : List (Addr × Obj)} {D : Addr} {L : List Addr} (h : ∀ p ∈ l, p.1 ≠ D) (n : NdA L) (e : l.map (·.1) = L) : NdA (D :: L) :=
  List.nodup_cons.mpr ⟨fun q => by subst e; obtain ⟨p, hp, rfl⟩ := List.mem_map.mp q; exact h p hp rfl, n⟩
theorem nd_lt2 {l : List (Addr × Obj)} {D x : Addr} {L : List Addr} (h : ∀ p ∈ l, p.1 < D) (h2 : D < x) (n : NdA (D :: L)) (e : l.map (·.1) = L) : NdA (x :: D :: L) :=
  List.nodup_cons.mpr ⟨fun q => by
    rcases List.mem_cons.mp q with q | q
    · exact Nat.lt_irrefl _ (q ▸ h2)
    · subst e; obtain ⟨p, hp, rfl⟩ := List.mem_map.mp q; exact Nat.lt_irrefl _ (Nat.lt_trans (h p hp) h2), n⟩
theorem nd_app {l : List (Addr × Obj)} : ∀ {new L : List Addr}, NdA new → (∀ x ∈ new, ∀ q ∈ l, q.1 ≠ x) → NdA L → l.map (·.1) = L → NdA (new ++ L)
  | [], _, _, _, n, _ => n
  | x :: r, L, h1, h2, n, e => List.nodup_cons.mpr ⟨fun q => by
      rcases List.mem_append.mp q with q | q
      · exact (List.nodup_cons.mp h1).1 q
      · subst e; obtain ⟨p, hp, rfl⟩ := List.mem_map.mp q; exact h2 _ (.head _) p hp rfl, nd_app (List.nodup_cons.mp h1).2 (fun y hy => h2 y (.tail _ hy)) n e⟩
theorem nd4lt {l : List (Addr × Obj)} {a b c d : Addr} {L : List Addr} (h : ∀ p ∈ l, p.1 < a) (h2 : @LT.lt Nat _ a b) (h3 : @LT.lt Nat _ b c) (h4 : @LT.lt Nat _ c d) (n : NdA L) (e : l.map (·.1) = L) : NdA (d :: c :: b :: a :: L) := by
  have h' : ∀ x ∈ L, @LT.lt Nat _ x a := fun x hx => by subst e; obtain ⟨p, hp, rfl⟩ := List.mem_map.mp hx; exact h p hp
  refine List.nodup_cons.mpr ⟨fun q => ?_, List.nodup_cons.mpr ⟨fun q => ?_, List.nodup_cons.mpr ⟨fun q => ?_, List.nodup_cons.mpr ⟨fun q => ?_, n⟩⟩⟩⟩
  · simp only [List.mem_cons] at q
    rcases q with q | q | q | q
    · rw [q] at h4; exact Nat.lt_irrefl _ h4
    · rw [q] at h4; exact Nat.lt_irrefl _ (Nat.lt_trans h3 h4)
    · rw [q] at h4; exact Nat.lt_irrefl _ (Nat.lt_trans h2 (Nat.lt_trans h3 h4))
    · exact Nat.lt_irrefl _ (Nat.lt_trans (h' _ q) (Nat.lt_trans h2 (Nat.lt_trans h3 h4)))
  · simp only [List.mem_cons] at q
    rcases q with q | q | q
    · rw [q] at h3; exact Nat.lt_irrefl _ h3
    · rw [q] at h3; exact Nat.lt_irrefl _ (Nat.lt_trans h2 h3)
    · exact Nat.lt_irrefl _ (Nat.lt_trans (h' _ q) (Nat.lt_trans h2 h3))
  · simp only [List.mem_cons] at q
    rcases q with q | q
    · rw [q] at h2; exact Nat.lt_irrefl _ h2
    · exact Nat.lt_irrefl _ (Nat.lt_trans (h' _ q) h2)
  · exact Nat.lt_irrefl _ (h' _ q)
theorem all4 {l : List (Addr × Obj)} {a b c d : Addr} (h1 : ∀ q ∈ l, q.1 ≠ a) (h2 : ∀ q ∈ l, q.1 ≠ b) (h3 : ∀ q ∈ l, q.1 ≠ c) (h4 : ∀ q ∈ l, q.1 ≠ d) : ∀ x ∈ [a, b, c, d], ∀ q ∈ l, q.1 ≠ x := fun x hx => by
  simp only [List.mem_cons, List.not_mem_nil, or_false] at hx
  rcases hx with rfl | rfl | rfl | rfl <;> assumption
def UpdW (d : Addr) (o o' : Obj) (l l' : List (Addr × Obj)) : Prop := (l.map (·.1)).Nodup → Upd d o o' l l'
theorem UpdW.head {d : Addr} {o o' : Obj} {r : List (Addr × Obj)} : UpdW d o o' ((d, o) :: r) ((d, o') :: r) := fun n => .head fun p hp e => (List.nodup_cons.mp n).1 (by show d ∈ _; rw [← e]; exact List.mem_map_of_mem (f := fun q : Addr × Obj => q.1) hp)
theorem UpdW.tail {d : Addr} {o o' : Obj} {p : Addr × Obj} {r r' : List (Addr × Obj)} (u : UpdW d o o' r r') : UpdW d o o' (p :: r) (p :: r') := fun n =>
  have U := u (List.nodup_cons.mp n).2
  .tail (fun e => (List.nodup_cons.mp n).1 (by show p.1 ∈ _; rw [e]; exact List.mem_map_of_mem (f := fun q : Addr × Obj => q.1) (upd_mem U))) U
theorem upd_nd {d : Addr} {o o' : Obj} {l l' : List (Addr × Obj)} {L : List Addr} (n : NdA L) (e : l.map (·.1) = L) (u : UpdW d o o' l l') : Upd d o o' l l' := u (e ▸ n)
def UpdFW (d : Addr) (o : Obj) (l : List (Addr × Obj)) (g : Obj → List (Addr × Obj)) : Prop := (l.map (·.1)).Nodup → UpdF d o l g
theorem UpdFW.head {d : Addr} {o : Obj} {r : List (Addr × Obj)} : UpdFW d o ((d, o) :: r) (fun o' => (d, o') :: r) := fun n => .head fun p hp e => (List.nodup_cons.mp n).1 (by show d ∈ _; rw [← e]; exact List.mem_map_of_mem (f := fun q : Addr × Obj => q.1) hp)
theorem UpdFW.tail {d : Addr} {o : Obj} {p : Addr × Obj} {r : List (Addr × Obj)} {g : Obj → List (Addr × Obj)} (u : UpdFW d o r g) : UpdFW d o (p :: r) (fun o' => p :: g o') := fun n =>
  have U := u (List.nodup_cons.mp n).2
  .tail (fun e => (List.nodup_cons.mp n).1 (by show p.1 ∈ _; rw [e]; exact List.mem_map_of_mem (f := fun q : Addr × Obj => q.1) (updF_mem U))) U
theorem updF_nd {d : Addr} {o : Obj} {l : List (Addr × Obj)} {g : Obj → List (Addr × Obj)} {L : List Addr} (n : NdA L) (e : l.map (·.1) = L) (u : UpdFW d o l g) : UpdF d o l g := u (e ▸ n)
def DelW (d : Addr) (o : Obj) (l l' : List (Addr × Obj)) : Prop := (l.map (·.1)).Nodup → Del d o l l'
theorem DelW.head {d : Addr} {o : Obj} {r : List (Addr × Obj)} : DelW d o ((d, o) :: r) r := fun n => .head fun p hp e => (List.nodup_cons.mp n).1 (by show d ∈ _; rw [← e]; exact List.mem_map_of_mem (f := fun q : Addr × Obj => q.1) hp)
theorem DelW.tail {d : Addr} {o : Obj} {p : Addr × Obj} {r r' : List (Addr × Obj)} (u : DelW d o r r') : DelW d o (p :: r) (p :: r') := fun n =>
  have U := u (List.nodup_cons.mp n).2
  .tail (fun e => (List.nodup_cons.mp n).1 (by show p.1 ∈ _; rw [e]; exact List.mem_map_of_mem (f := fun q : Addr × Obj => q.1) ((del_in U).1))) U
theorem del_nd {d : Addr} {o : Obj} {l l' : List (Addr × Obj)} {L : List Addr} (n : NdA L) (e : l.map (·.1) = L) (u : DelW d o l l') : Del d o l l' := u (e ▸ n)
theorem del_sub {d : Addr} {o : Obj} : ∀ {l l' : List (Addr × Obj)}, Del d o l l' → (l'.map (·.1)).Sublist (l.map (·.1))
  | _, _, .head _ => List.sublist_cons_self _ _
  | _, _, .tail _ r => (del_sub r).cons_cons _
theorem nd_del {d : Addr} {o : Obj} {l l' : List (Addr × Obj)} {L L' : List Addr} (n : NdA L) (D : Del d o l l') (e : l.map (·.1) = L) (e' : l'.map (·.1) = L') : NdA L' := by
  subst e; subst e'
  exact List.Nodup.sublist (del_sub D) n
def TwoW (a b : Addr) (l : List Addr) : Prop := l.Nodup → a ≠ b
theorem TwoW.hit {a b : Addr} {r : List Addr} (h : b ∈ r) : TwoW a b (a :: r) := fun n e => (List.nodup_cons.mp n).1 (e ▸ h)
theorem TwoW.hit' {a b : Addr} {r : List Addr} (h : a ∈ r) : TwoW a b (b :: r) := fun n e => (List.nodup_cons.mp n).1 (e ▸ h)
theorem TwoW.tail {a b c : Addr} {r : List Addr} (h : TwoW a b r) : TwoW a b (c :: r) := fun n => h (List.nodup_cons.mp n).2
theorem nd_two {a b : Addr} {l : List Addr} (n : NdA l) (h : TwoW a b l) : @Ne Nat a b := h n
def PickW (l r : List Addr) : Prop := l.Nodup → r.Nodup ∧ ∀ x ∈ r, x ∈ l
theorem PickW.nil {l : List Addr} : PickW l [] := fun _ => ⟨List.nodup_nil, fun _ h => nomatch h⟩
theorem PickW.cons {a : Addr} {l l' r : List Addr} (p : l.Perm (a :: l')) (h : PickW l' r) : PickW l (a :: r) := fun n => by
  have n' := List.nodup_cons.mp (p.nodup_iff.mp n)
  obtain ⟨h1, h2⟩ := h n'.2
  refine ⟨List.nodup_cons.mpr ⟨fun q => n'.1 (h2 _ q), h1⟩, fun x hx => p.mem_iff.mpr ?_⟩
  rcases List.mem_cons.mp hx with rfl | hx
  · exact .head _
  · exact .tail _ (h2 x hx)
theorem RemW.head {a : Addr} {l : List Addr} : (a :: l).Perm (a :: l) := .refl _
theorem RemW.tail {a b : Addr} {l l' : List Addr} (h : l.Perm (a :: l')) : (b :: l).Perm (a :: b :: l') := (h.cons b).trans (.swap a b l')
theorem nd_pick {l r : List Addr} (n : NdA l) (h : PickW l r) : NdA r := (h n).1
end Mine
end
section
open PySem PySem.W PySem.Calls PyProof.Rows PyProof.V
set_option Elab.async false
set_option linter.unusedVariables false
namespace Mine

def AtI (l : List Addr) (i : Nat) (x : Addr) : Prop := l[i]? = some x
def PickI (l : List Addr) (is : List Nat) (r : List Addr) : Prop := is.map (fun i => l[i]?) = r.map some
def nodupB : List Nat → Bool
  | [] => true
  | i :: r => !(r.any (Nat.beq i)) && nodupB r
def SameBut (ch : List Addr) (l l' : List (Addr × Obj)) : Prop := ∀ q ∈ l, q.1 ∈ ch ∨ q ∈ l'

theorem mt1 {α : Type} {x x1 : α} {l : List α} (h : x ∈ l) : x ∈ x1 :: l := List.Mem.tail _ h
theorem tw1 {a b x1 : Addr} {r : List Addr} (h : TwoW a b r) : TwoW a b (x1 :: r) := TwoW.tail h
theorem uw1 {d : Addr} {o o' : Obj} {x1 : Addr × Obj} {r r' : List (Addr × Obj)} (h : UpdW d o o' r r') : UpdW d o o' (x1 :: r) (x1 :: r') := UpdW.tail h
theorem fw1 {d : Addr} {o : Obj} {x1 : Addr × Obj} {r : List (Addr × Obj)} {g : Obj → List (Addr × Obj)} (h : UpdFW d o r g) : UpdFW d o (x1 :: r) (fun o' => x1 :: g o') := UpdFW.tail h
theorem dw1 {d : Addr} {o : Obj} {x1 : Addr × Obj} {r r' : List (Addr × Obj)} (h : DelW d o r r') : DelW d o (x1 :: r) (x1 :: r') := DelW.tail h
theorem ai1 {x x1 : Addr} {l : List Addr} {i : Nat} (h : AtI l i x) : AtI (x1 :: l) (i + 1) x := h
theorem sk1 {α : Type} {x1 : α} {l r : List α} (h : r.Sublist l) : (x1 :: r).Sublist (x1 :: l) := h.cons₂ _
theorem sd1 {α : Type} {x1 : α} {l r : List α} (h : r.Sublist l) : r.Sublist (x1 :: l) := h.cons _
theorem sb1 {ch : List Addr} {x1 : Addr × Obj} {l r : List (Addr × Obj)} (h : SameBut ch r l) : SameBut ch (x1 :: r) (x1 :: l) := fun q hq => (List.mem_cons.mp hq).elim (fun e => .inr (e ▸ .head _)) (fun m => (h q m).imp id (.tail _))
theorem sn1 {ch : List Addr} {x1 : Addr × Obj} {l r : List (Addr × Obj)} (h : SameBut ch r l) : SameBut ch r (x1 :: l) := fun q hq => (h q hq).imp id (.tail _)
theorem mt2 {α : Type} {x x1 x2 : α} {l : List α} (h : x ∈ l) : x ∈ x1 :: x2 :: l := mt1 (mt1 h)
theorem tw2 {a b x1 x2 : Addr} {r : List Addr} (h : TwoW a b r) : TwoW a b (x1 :: x2 :: r) := tw1 (tw1 h)
theorem uw2 {d : Addr} {o o' : Obj} {x1 x2 : Addr × Obj} {r r' : List (Addr × Obj)} (h : UpdW d o o' r r') : UpdW d o o' (x1 :: x2 :: r) (x1 :: x2 :: r') := uw1 (uw1 h)
theorem fw2 {d : Addr} {o : Obj} {x1 x2 : Addr × Obj} {r : List (Addr × Obj)} {g : Obj → List (Addr × Obj)} (h : UpdFW d o r g) : UpdFW d o (x1 :: x2 :: r) (fun o' => x1 :: x2 :: g o') := fw1 (fw1 h)
theorem dw2 {d : Addr} {o : Obj} {x1 x2 : Addr × Obj} {r r' : List (Addr × Obj)} (h : DelW d o r r') : DelW d o (x1 :: x2 :: r) (x1 :: x2 :: r') := dw1 (dw1 h)
theorem ai2 {x x1 x2 : Addr} {l : List Addr} {i : Nat} (h : AtI l i x) : AtI (x1 :: x2 :: l) (i + 2) x := ai1 (ai1 h)
theorem sk2 {α : Type} {x1 x2 : α} {l r : List α} (h : r.Sublist l) : (x1 :: x2 :: r).Sublist (x1 :: x2 :: l) := sk1 (sk1 h)
theorem sd2 {α : Type} {x1 x2 : α} {l r : List α} (h : r.Sublist l) : r.Sublist (x1 :: x2 :: l) := sd1 (sd1 h)
theorem sb2 {ch : List Addr} {x1 x2 : Addr × Obj} {l r : List (Addr × Obj)} (h : SameBut ch r l) : SameBut ch (x1 :: x2 :: r) (x1 :: x2 :: l) := sb1 (sb1 h)
theorem sn2 {ch : List Addr} {x1 x2 : Addr × Obj} {l r : List (Addr × Obj)} (h : SameBut ch r l) : SameBut ch r (x1 :: x2 :: l) := sn1 (sn1 h)
theorem mt4 {α : Type} {x x1 x2 x3 x4 : α} {l : List α} (h : x ∈ l) : x ∈ x1 :: x2 :: x3 :: x4 :: l := mt2 (mt2 h)
theorem tw4 {a b x1 x2 x3 x4 : Addr} {r : List Addr} (h : TwoW a b r) : TwoW a b (x1 :: x2 :: x3 :: x4 :: r) := tw2 (tw2 h)
theorem uw4 {d : Addr} {o o' : Obj} {x1 x2 x3 x4 : Addr × Obj} {r r' : List (Addr × Obj)} (h : UpdW d o o' r r') : UpdW d o o' (x1 :: x2 :: x3 :: x4 :: r) (x1 :: x2 :: x3 :: x4 :: r') := uw2 (uw2 h)
theorem fw4 {d : Addr} {o : Obj} {x1 x2 x3 x4 : Addr × Obj} {r : List (Addr × Obj)} {g : Obj → List (Addr × Obj)} (h : UpdFW d o r g) : UpdFW d o (x1 :: x2 :: x3 :: x4 :: r) (fun o' => x1 :: x2 :: x3 :: x4 :: g o') := fw2 (fw2 h)
theorem dw4 {d : Addr} {o : Obj} {x1 x2 x3 x4 : Addr × Obj} {r r' : List (Addr × Obj)} (h : DelW d o r r') : DelW d o (x1 :: x2 :: x3 :: x4 :: r) (x1 :: x2 :: x3 :: x4 :: r') := dw2 (dw2 h)
theorem ai4 {x x1 x2 x3 x4 : Addr} {l : List Addr} {i : Nat} (h : AtI l i x) : AtI (x1 :: x2 :: x3 :: x4 :: l) (i + 4) x := ai2 (ai2 h)
theorem sk4 {α : Type} {x1 x2 x3 x4 : α} {l r : List α} (h : r.Sublist l) : (x1 :: x2 :: x3 :: x4 :: r).Sublist (x1 :: x2 :: x3 :: x4 :: l) := sk2 (sk2 h)
theorem sd4 {α : Type} {x1 x2 x3 x4 : α} {l r : List α} (h : r.Sublist l) : r.Sublist (x1 :: x2 :: x3 :: x4 :: l) := sd2 (sd2 h)
theorem sb4 {ch : List Addr} {x1 x2 x3 x4 : Addr × Obj} {l r : List (Addr × Obj)} (h : SameBut ch r l) : SameBut ch (x1 :: x2 :: x3 :: x4 :: r) (x1 :: x2 :: x3 :: x4 :: l) := sb2 (sb2 h)
theorem sn4 {ch : List Addr} {x1 x2 x3 x4 : Addr × Obj} {l r : List (Addr × Obj)} (h : SameBut ch r l) : SameBut ch r (x1 :: x2 :: x3 :: x4 :: l) := sn2 (sn2 h)
theorem mt8 {α : Type} {x x1 x2 x3 x4 x5 x6 x7 x8 : α} {l : List α} (h : x ∈ l) : x ∈ x1 :: x2 :: x3 :: x4 :: x5 :: x6 :: x7 :: x8 :: l := mt4 (mt4 h)
theorem tw8 {a b x1 x2 x3 x4 x5 x6 x7 x8 : Addr} {r : List Addr} (h : TwoW a b r) : TwoW a b (x1 :: x2 :: x3 :: x4 :: x5 :: x6 :: x7 :: x8 :: r) := tw4 (tw4 h)
theorem uw8 {d : Addr} {o o' : Obj} {x1 x2 x3 x4 x5 x6 x7 x8 : Addr × Obj} {r r' : List (Addr × Obj)} (h : UpdW d o o' r r') : UpdW d o o' (x1 :: x2 :: x3 :: x4 :: x5 :: x6 :: x7 :: x8 :: r) (x1 :: x2 :: x3 :: x4 :: x5 :: x6 :: x7 :: x8 :: r') := uw4 (uw4 h)
theorem fw8 {d : Addr} {o : Obj} {x1 x2 x3 x4 x5 x6 x7 x8 : Addr × Obj} {r : List (Addr × Obj)} {g : Obj → List (Addr × Obj)} (h : UpdFW d o r g) : UpdFW d o (x1 :: x2 :: x3 :: x4 :: x5 :: x6 :: x7 :: x8 :: r) (fun o' => x1 :: x2 :: x3 :: x4 :: x5 :: x6 :: x7 :: x8 :: g o') := fw4 (fw4 h)
theorem dw8 {d : Addr} {o : Obj} {x1 x2 x3 x4 x5 x6 x7 x8 : Addr × Obj} {r r' : List (Addr × Obj)} (h : DelW d o r r') : DelW d o (x1 :: x2 :: x3 :: x4 :: x5 :: x6 :: x7 :: x8 :: r) (x1 :: x2 :: x3 :: x4 :: x5 :: x6 :: x7 :: x8 :: r') := dw4 (dw4 h)
theorem ai8 {x x1 x2 x3 x4 x5 x6 x7 x8 : Addr} {l : List Addr} {i : Nat} (h : AtI l i x) : AtI (x1 :: x2 :: x3 :: x4 :: x5 :: x6 :: x7 :: x8 :: l) (i + 8) x := ai4 (ai4 h)
theorem sk8 {α : Type} {x1 x2 x3 x4 x5 x6 x7 x8 : α} {l r : List α} (h : r.Sublist l) : (x1 :: x2 :: x3 :: x4 :: x5 :: x6 :: x7 :: x8 :: r).Sublist (x1 :: x2 :: x3 :: x4 :: x5 :: x6 :: x7 :: x8 :: l) := sk4 (sk4 h)
theorem sd8 {α : Type} {x1 x2 x3 x4 x5 x6 x7 x8 : α} {l r : List α} (h : r.Sublist l) : r.Sublist (x1 :: x2 :: x3 :: x4 :: x5 :: x6 :: x7 :: x8 :: l) := sd4 (sd4 h)
theorem sb8 {ch : List Addr} {x1 x2 x3 x4 x5 x6 x7 x8 : Addr × Obj} {l r : List (Addr × Obj)} (h : SameBut ch r l) : SameBut ch (x1 :: x2 :: x3 :: x4 :: x5 :: x6 :: x7 :: x8 :: r) (x1 :: x2 :: x3 :: x4 :: x5 :: x6 :: x7 :: x8 :: l) := sb4 (sb4 h)
theorem sn8 {ch : List Addr} {x1 x2 x3 x4 x5 x6 x7 x8 : Addr × Obj} {l r : List (Addr × Obj)} (h : SameBut ch r l) : SameBut ch r (x1 :: x2 :: x3 :: x4 :: x5 :: x6 :: x7 :: x8 :: l) := sn4 (sn4 h)
theorem ai0 {x : Addr} {l : List Addr} : AtI (x :: l) 0 x := rfl
theorem pk_nil {l : List Addr} : PickI l [] [] := rfl
theorem pk_cons {l : List Addr} {i : Nat} {is : List Nat} {a : Addr} {r : List Addr} (h : AtI l i a) (t : PickI l is r) : PickI l (i :: is) (a :: r) := by
  unfold PickI at *; rw [List.map_cons, List.map_cons, t]; exact congrArg (· :: _) h
theorem pk_mem {l : List Addr} {a : Addr} : ∀ {is : List Nat} {r : List Addr}, PickI l is r → a ∈ r → ∃ j ∈ is, l[j]? = some a
  | [], [], _, m => nomatch m
  | [], _ :: _, h, _ => nomatch h
  | _ :: _, [], h, _ => nomatch h
  | i :: is, b :: r, h, m => by
    injection h with h1 h2
    rcases List.mem_cons.mp m with rfl | m
    · exact ⟨i, .head _, h1⟩
    · obtain ⟨j, hj, e⟩ := pk_mem h2 m
      exact ⟨j, .tail _ hj, e⟩
theorem nd_pickI {l : List Addr} (n : NdA l) : ∀ {is : List Nat} {r : List Addr}, PickI l is r → nodupB is = true → NdA r
  | [], [], _, _ => List.nodup_nil
  | [], _ :: _, h, _ => nomatch h
  | _ :: _, [], h, _ => nomatch h
  | i :: is, b :: r, h, q => by
    injection h with h1 h2
    replace h1 : l[i]? = some b := h1
    rw [nodupB, Bool.and_eq_true, Bool.not_eq_true'] at q
    refine List.nodup_cons.mpr ⟨fun m => ?_, nd_pickI n h2 q.2⟩
    obtain ⟨j, hj, e⟩ := pk_mem h2 m
    have hi : i < l.length := by
      rcases Nat.lt_or_ge i l.length with z | z
      · exact z
      · rw [List.getElem?_eq_none z] at h1; exact nomatch h1
    have : i = j := (List.getElem?_inj hi n).mp (h1.trans e.symm)
    subst this
    have : is.any (Nat.beq i) = true := List.any_eq_true.mpr ⟨i, hj, Nat.beq_refl i⟩
    rw [this] at q; exact nomatch q.1
theorem fa_nil {α : Type} {P : α → Prop} : ∀ q ∈ ([] : List α), P q := fun _ h => nomatch h
theorem fa_cons {α : Type} {P : α → Prop} {a : α} {l : List α} (h : P a) (t : ∀ q ∈ l, P q) : ∀ q ∈ a :: l, P q := fun q hq => by
  rcases List.mem_cons.mp hq with rfl | hq
  · exact h
  · exact t q hq
theorem ns_nil {h₀ h : Heap} {L : Addr} : News h₀ L h [] := fun _ q => nomatch q
theorem ns_cons {h₀ h : Heap} {L : Addr} {news l : List (Addr × Obj)} {q : Addr × Obj} (N : News h₀ L h news) (m : q ∈ news) (t : News h₀ L h l) : News h₀ L h (q :: l) := fun p hp => by
  rcases List.mem_cons.mp hp with rfl | hp
  · exact N _ m
  · exact t p hp
theorem mm_nil {news : List (Addr × Obj)} : ∀ x ∈ ([] : List Addr), x ∈ news.map (·.1) := fun _ h => nomatch h
theorem mm_cons {news : List (Addr × Obj)} {a : Addr} {o : Obj} {l : List Addr} (m : (a, o) ∈ news) (t : ∀ x ∈ l, x ∈ news.map (·.1)) : ∀ x ∈ a :: l, x ∈ news.map (·.1) := fun x hx => by
  rcases List.mem_cons.mp hx with rfl | hx
  · exact List.mem_map_of_mem (f := (·.1)) m
  · exact t x hx
theorem sb_nil {ch : List Addr} {l : List (Addr × Obj)} : SameBut ch [] l := fun _ h => nomatch h
theorem sb_ch {ch : List Addr} {a : Addr} {o o' : Obj} {l r : List (Addr × Obj)} (m : a ∈ ch) (h : SameBut ch r l) : SameBut ch ((a, o) :: r) ((a, o') :: l) := fun q hq =>
  (List.mem_cons.mp hq).elim (fun e => .inl (by rw [e]; exact m)) (fun m => (h q m).imp id (.tail _))
theorem sb_gone {ch : List Addr} {a : Addr} {o : Obj} {l r : List (Addr × Obj)} (m : a ∈ ch) (h : SameBut ch r l) : SameBut ch ((a, o) :: r) l := fun q hq =>
  (List.mem_cons.mp hq).elim (fun e => .inl (by rw [e]; exact m)) (fun m => h q m)
theorem keep_led {g hp h' : Heap} {L' : Addr} {led fin : List (Addr × Obj)} {ch : List Addr} (kg : ∀ b o, hp.get? b = some o → b ∉ led.map (·.1) → g.get? b = some o) (kK : ∀ b o, g.get? b = some o → h'.get? b = some o)
    {h₀ : Heap} {L : Addr} (N : News h₀ L hp led) (N' : News g L' h' fin) (s : SameBut ch led fin) : Keep ch hp h' := fun b o n e => by
  by_cases c : b ∈ led.map (·.1)
  · obtain ⟨q, hq, rfl⟩ := List.mem_map.mp c
    have e1 := (N q hq).1
    rw [e] at e1
    cases e1
    exact (s q hq).elim (fun z => absurd z n) (fun m => (N' q m).1)
  · exact kK b o (kg b o e c)
theorem fresh_in {g hp h' : Heap} {L' : Addr} {led fin : List (Addr × Obj)} {L : List Addr} (kg : ∀ b o, hp.get? b = some o → b ∉ led.map (·.1) → g.get? b = some o) (N' : News g L' h' fin) {D : Addr} {o : Obj} (hm : (D, o) ∈ fin) (n : NdA L) {as : List Addr} (e : led.map (·.1) = as) (s : (D :: as).Sublist L) : hp.get? D = none :=
  fresh_ret kg N' hm fun c => (List.nodup_cons.mp (s.nodup n)).1 (e ▸ c)
theorem updF_upd {d : Addr} {o o' : Obj} : ∀ {l : List (Addr × Obj)} {g : Obj → List (Addr × Obj)}, UpdF d o l g → Upd d o o' l (g o')
  | _, _, .head h => .head h
  | _, _, .tail h r => .tail h (updF_upd r)
theorem n_setL {prog : Program} {w : World} {A : Around} {E : Value → Shared → Prop} {K : Frag} {C L : Addr} {h₀ : Heap} {m : Str → Option Value} {news : List (Addr × Obj)} {x dx : Addr} {ox : Obj} {es : List DictEntry} {es' : Tok → List DictEntry} {n n' : Nat} {name : Str} {v : Value} {hp : Heap} {g : Array GenState} {dr : Drawn} {tk : Nat} {os : OsState} {gn : Obj → List (Addr × Obj)} {Q : Unit → Shared → Prop} (F : Fr h₀ L hp m) (X₀ : K.In h₀) (N : News h₀ L hp news) (I : InstAt hp x ox C (some (dictOf es n))) (hd : ox.dict = some dx)
    (hs : findIn K (.ref C) "__setattr__" = some (some (.builtin "object.__setattr__"))) (hp' : plainOver K C = true) (ht : takerIn K C name = some none) (hh : hasDictIn K C = true) (hl : (getL name es).isSome = true)
    (e : ∀ kt : Tok, (putL name (PyData.keyHash w.params name) (.str name kt) v es, putN name es n) = (es' kt, n')) (U : UpdF dx (dictOf es n) news gn) (hz : ∀ kt : Tok, (es' kt).length ≤ 1000)
    (h : ∀ (kt : Tok) h' k, let es1 : List DictEntry := es' kt; Fr h₀ L h' m → News h₀ L h' (gn (dictOf es1 n')) → Q () ⟨h', g, dr, k, os⟩) :
    wpAny (model prog w) A (setAttr (.ref x) name v) Q E ⟨hp, g, dr, tk, os⟩ :=
  n_set (es' := es') (news' := fun kt => gn (dictOf (es' kt) n')) F X₀ N I hd hs hp' ht hh hl e (fun _ => updF_upd U) hz h
theorem ne_led {led : List (Addr × Obj)} {L as : List Addr} {D : Addr} (n : NdA L) (e : led.map (·.1) = as) (s : (D :: as).Sublist L) : ∀ q ∈ led, q.1 ≠ D := fun q hq c =>
  (List.nodup_cons.mp (s.nodup n)).1 (e ▸ c ▸ List.mem_map_of_mem (f := (·.1)) hq)
theorem ns_notin {h₀ h : Heap} {L : Addr} {led : List (Addr × Obj)} (N : News h₀ L h led) : L ∉ led.map (·.1) := fun c => by
  obtain ⟨q, hq, e⟩ := List.mem_map.mp c
  exact (N q hq).2.1 e
theorem news_sub0 {h₀ h : Heap} {L : Addr} {l l' : List (Addr × Obj)} (N : News h₀ L h l') (s : l.Sublist l') : News h₀ L h l := fun q hq => N q (s.subset hq)
theorem fa_sub {α : Type} {P : α → Prop} {l l' : List α} (h : ∀ q ∈ l', P q) (s : l.Sublist l') : ∀ q ∈ l, P q := fun q hq => h q (s.subset hq)
theorem sub_in {α : Type} {as bs : List α} (h : as.Sublist bs) : ∀ a ∈ as, a ∈ bs := fun _ m => h.subset m
end Mine
end
section
open PySem PySem.W PySem.Calls PyProof.Rows PyProof.V PySem.Spec
set_option Elab.async false
set_option linter.unusedVariables false
set_option maxRecDepth 100000
namespace Mine
section
variable {prog : Program} {w : World} {A : Around} {E : Value → Shared → Prop} {s : Shared} {h₀ : Heap} {L : Addr} {m : Str → Option Value} {env : Env}
def SrcT (ax : Addr) (its : List Value) (news : List (Addr × Obj)) : Prop := ∃ o, (ax, o) ∈ news ∧ o.cls = .type "tuple" ∧ ∃ n, o.data = .seq its.toArray n
theorem SrcT.tup {h : Heap} {ax : Addr} {its : List Value} {news : List (Addr × Obj)} (x : SrcT ax its news) (N : News h₀ L h news) : h.IsTuple ax its.toArray :=
  let ⟨o, hm, hc, hd⟩ := x; ⟨o, (N _ hm).1, hc, hd⟩
def TupSrc (prog : Program) (w : World) (A : Around) (h₀ : Heap) (L : Addr) (m : Str → Option Value) (env : Env) (elt : PySem.Expr) (x : Str) (scope : Scope) (cl : List (Str × Addr)) (Fin : Shared → List Value → List (Addr × Obj) → Prop) (xv : Value) (s₁ : Shared) : Prop :=
  ∃ ax its news, xv = .ref ax ∧ A.handled = none ∧ Fr h₀ L s₁.heap m ∧ News h₀ L s₁.heap news ∧ SrcT ax its news ∧ its.length ≤ sizeLine ∧
    ∀ s₂ : Shared, (∃ h, s₂ = { s₁ with heap := h }) → LCg.CompRest prog w A h₀ L m env elt x scope cl s₂ (SrcT ax its) (fun i v => its.toArray[i]? = some v) (Fin s₂) its.length 0 [] news
theorem TupSrc.mk' {elt : PySem.Expr} {x : Str} {scope : Scope} {cl : List (Str × Addr)} {Fin : Shared → List Value → List (Addr × Obj) → Prop} {ax : Addr} {its : List Value} {k n : Nat} {news : List (Addr × Obj)} {s₁ : Shared}
    (hh : A.handled = none) (F : Fr h₀ L s₁.heap m) (N : News h₀ L s₁.heap news) (hm : (ax, ({ cls := .type "tuple", data := .seq its.toArray k } : Obj)) ∈ news) (hn : its.length = n) (hsz : n ≤ sizeLine)
    (h : ∀ g, LCg.CompRest prog w A h₀ L m env elt x scope cl { s₁ with heap := g } (SrcT ax its) (fun i v => its.toArray[i]? = some v) (Fin { s₁ with heap := g }) n 0 [] news) :
    TupSrc prog w A h₀ L m env elt x scope cl Fin (.ref ax) s₁ := by subst hn; exact ⟨ax, its, news, rfl, hh, F, N, ⟨_, hm, rfl, _, rfl⟩, hsz, fun _ ⟨g, e⟩ => e ▸ h g⟩
theorem tup_st {ax I : Addr} {its : List Value} : ∀ i (h h' : Heap) (o : Obj) (nw : List (Addr × Obj)), (h.IsTupleIter I ax i ∧ h.IsTuple ax its.toArray) → h.get? I = some o → h'.get? I = some o → (∀ b o, h₀.get? b = some o → h'.get? b = some o) → News h₀ L h' nw → SrcT ax its nw → (h'.IsTupleIter I ax i ∧ h'.IsTuple ax its.toArray) :=
  fun i h h' o nw st e e' _ N S => ⟨by obtain ⟨o', q, r⟩ := st.1; rw [e] at q; cases q; exact ⟨o, e', r⟩, S.tup N⟩
theorem assign_tup {elt iter : PySem.Expr} {x y : Str} {px py : Pos} {scope : Scope} {cl : List (Str × Addr)} {pos spos : Pos} {Q : Flow → Shared → Prop} (F₀ : Fr h₀ L s.heap m) (hLe : env.locals = L)
    (hsw : swapsWith (.ListComp elt [⟨.Name x px, iter, [], 0⟩] scope pos) (some (.Name y py)) spos.line env = pure true)
    (hclos : closureFor scope env = pure cl) (hcell : ∀ z ∈ scope.names, z.2 ≠ .cell) (hkind : scope.kind = .function)
    (hnames : ∀ z ∈ scope.names, z.2 = .local → scope.names.lookup z.1 = some .local) (hx : scope.names.lookup x = some .local)
    (hy : env.kindOf y = some .local) (hp : (env.scope.kind == .class || (env.scope.kind == .module && env.locals != env.globals)) = false)
    (h : wpAny (model prog w) A (eval iter env) (TupSrc prog w A h₀ L m env elt x scope cl (fun s₂ => LCg.FinA h₀ L m s₂ y Q)) E s)
    (hs : ∀ x, foldedSetIterable iter env x = pure x := by intro _; rfl) :
    wpAny (model prog w) A (exec (.Assign [.Name y py] (.ListComp elt [⟨.Name x px, iter, [], 0⟩] scope pos) spos) env) Q E s := by
  subst hLe
  rw [exec_Assign_Name_used _ _ _ _ hsw]
  refine wpAny_bind (wpAny_standAt (wpAny_bind ?_))
  show wpAny _ A (do let _ ← comprehension (.ListComp elt [⟨.Name x px, iter, [], 0⟩] scope pos) scope env _ (newList []) false (eval iter env) (some (assign (.Name y py) env))) _ _ s
  refine wpAny_bind (wpAny_mono (wpAny_comprehension_free (use := some (assign (.Name y py) env)) (Q := fun _ s' => Q .next s') rfl hs hclos hkind hnames
    (wpAny_mono h (fun xv s₁ h₁ => ?_) fun _ _ e => e)) (fun _ s' hq => wpAny_pure (wpAny_pure hq)) fun _ _ e => e)
  obtain ⟨ax, its, news, rfl, hh, F, N, S, hsz, R⟩ := h₁
  have hl := S.tup N
  have hlt : ax < s₁.heap.objs.size := by obtain ⟨_, e, _⟩ := hl; exact Heap.lt_size e
  refine wpAny_pyIter_tuple hl ?_
  have up : ∀ b o, s₁.heap.get? b = some o → (s₁.heap.push { cls := .type "tuple_iterator", data := .fields #[.ref ax, .int 0 0] }).get? b = some o := fun b o e => Heap.get?_push_of_some _ e
  have R' : LCg.CompRest prog w A h₀ env.locals m env elt x scope cl { s₁ with heap := s₁.heap.push { cls := .type "tuple_iterator", data := .fields #[.ref ax, .int 0 0] } } (SrcT ax its) (fun i v => its.toArray[i]? = some v) (LCg.FinA h₀ env.locals m { s₁ with heap := s₁.heap.push { cls := .type "tuple_iterator", data := .fields #[.ref ax, .int 0 0] } } y Q) its.toArray.size 0 [] news := by
    rw [List.size_toArray]
    exact R { s₁ with heap := s₁.heap.push { cls := .type "tuple_iterator", data := .fields #[.ref ax, .int 0 0] } } ⟨_, rfl⟩
  refine LCg.block_U (Walks.tuple hh s₁.heap.objs.size ax (Nat.ne_of_lt hlt) its.toArray) (by rw [List.size_toArray]; exact hsz) (fun i h st => by obtain ⟨o, e, _⟩ := st.1; exact ⟨o, e⟩) tup_st hcell hkind hx ⟨⟨_, Heap.get?_push_size _ rfl, rfl, rfl⟩, ?hpush⟩ (fun b hb => ?_)
      (F.keeps up) (N.grown up) (Nat.ne_of_lt F.ns.lt) (next_is_new F) (fun p hp => Nat.ne_of_lt (Heap.lt_size (N p hp).1)) S R' ?_
  case hpush => obtain ⟨o, e, r⟩ := hl; exact ⟨o, up _ _ e, r⟩
  · show b < (s₁.heap.push _).objs.size
    rw [Heap.size_push]
    rcases List.mem_cons.mp hb with rfl | hb
    · exact Nat.lt_succ_self _
    · rw [List.mem_singleton.mp hb]; exact Nat.lt_succ_of_lt hlt
  · intro D C h' tk m' ys news' F' N' o1 hn hC₀ hD₀ hCL hDL hCD offC fin
    show wpAny _ A (assign (.Name y py) env (.ref D)) _ _ _
    refine wpAny_assign_Name (wpAny_storeName_local hy F'.ns (fun h₂ hn₂ hs₂ => ?_) hp)
    have hL₀ : h₀.get? env.locals = none := Heap.get?_none_of_le F'.above
    have F₂ : Fr h₀ env.locals h₂ (fun z => if z = y then some (.ref D) else m z) := ⟨hn₂, fun b o e => hs₂.extBut b o (fun q => by rw [q, hL₀] at e; cases e) (F'.keep b o e), F'.above⟩
    refine ⟨m', hn.sameBut hs₂ hCL, fun h'' hs'' => fin D h'' _ (F₂.change hs'' hCL hC₀) (fun p hp => ?_) o1⟩
    have z : h₂.get? p.1 = some p.2 := hs₂.extBut _ _ (N' p hp).2.1 (N' p hp).1
    refine ⟨hs''.extBut _ _ ?_ z, (N' p hp).2⟩
    rcases List.mem_cons.mp hp with rfl | hp
    · exact Ne.symm hCD
    · exact offC p hp
theorem c_cell {scope : Scope} {cl : List (Str × Addr)} {C c : Addr} {x : Str} {pos : Pos} {v : Value} {o : Obj} {news : List (Addr × Obj)} {Q : Value → Shared → Prop} (N : News h₀ L s.heap news) (hc : cl.lookup x = some c) (hm : (c, o) ∈ news) (hd : o.data = .cell (some v)) (h : Q v s)
    (hk : (compEnvC scope cl C env).scope.kind = .function) (hl : (compEnvC scope cl C env).kindOf x = some .cell) (hb : (x == ("__debug__" : Str)) = false) :
    wpAny (model prog w) A (eval (.Name x pos) (compEnvC scope cl C env)) Q E s := ldCellK hc ⟨o, (N _ hm).1, hd⟩ h hk hl hb
end
theorem all_nil7 {P : Addr × Obj → Prop} : ∀ q ∈ ([] : List (Addr × Obj)), P q := fun _ h => nomatch h
theorem all_cons7 {P : Addr × Obj → Prop} {a : Addr × Obj} {l : List (Addr × Obj)} (h : P a) (t : ∀ q ∈ l, P q) : ∀ q ∈ a :: l, P q := fun q hq => by
  rcases List.mem_cons.mp hq with rfl | hq
  · exact h
  · exact t q hq
end Mine
end
section
open PySem PySem.W PySem.Calls PyProof.Rows
set_option Elab.async false
set_option maxRecDepth 100000
set_option maxHeartbeats 2000000
namespace Mine
local macro_rules | `(tactic| cell_enter) => `(tactic| ((case kS => k_asm); (case k6 => k_is); (case k7 => k_is); (case k8 => ktr_room); (case k9 => exact BindsTo.of_eq rfl); (case c5 => decide); (case kB => exact locs rfl); (case c2 => exact rfl); (case c3 => exact rfl); (case c4 => exact rfl); k_whole; intro g' L' h' F' N' B' X' T' kg'; (try dsimp only at F'); (try dsimp only); (try k_fold)))
local macro_rules | `(tactic| k_lt $h:ident) => `(tactic| first | (revert $h; walk_at "nd_lt") | (replace $h := allNe_of $h; simp only [AllNe, and_true] at $h:ident))
local macro_rules | `(tactic| k_lt2 $h:ident) => `(tactic| first | (revert $h; walk_at "nd_lt2") | replace $h := ltN $h)
local macro_rules | `(tactic| k_upd) => `(tactic| (refine' upd_nd ?n ?e ?u; (case n => assumption); (case e => exact rfl); (case u => k_extra "pre3|q_uw")))
local macro_rules | `(tactic| k_updF) => `(tactic| (refine' updF_nd ?n ?e ?u; (case n => assumption); (case e => exact rfl); (case u => k_extra "pre3|q_fw")))
local macro_rules | `(tactic| k_all) => `(tactic| exact ne_tail (by assumption))
local macro_rules | `(tactic| omega) => `(tactic| k_extra "pre3|q_om")
local macro_rules | `(tactic| k_mem) => `(tactic| k_extra "pre3|q_mem")
def kp_pre3 : List String := ["cell_enterC", "cell_enterZ", "LeaveW", "subscriptTail Name Constant ref int", "subscriptTail Name Name ref int", "binaryOp Mod int int", "binaryOp FloorDiv int int", "binaryOp Mult int int", "binaryOp Add int int", "binaryOp Sub int int", "eval Constant int", "b_om", "b_sz", "b_nn", "call builtin:len ref", "call builtin:len", "getMethod ref", "call type:bytes", "subscriptTail", "subscriptTail Name Slice ref ref", "subscriptTail Attribute Name Slice ref ref", "subscriptTail Attribute", "wpC", "b_ne0", "binaryOp Pow int int", "call builtin:int.to_bytes", "call ref", "binaryOp Add bytes bytes", "binaryOp Mult bytes int", "compareOp Eq bytes bytes", "compareOp NotEq bytes bytes", "eval Constant bytes", "subscriptTail Name Name bytes int", "subscriptTail Name Constant bytes int", "subscriptTail Name BinOp bytes int", "call type:int", "call builtin:max", "exec For Name Call cons nil", "subscriptTail List Call ref int", "subscriptTail List", "cell_enterZC", "nd_lt", "nd_lt2", "enterCK_cases", "setAttr ref", "inl", "call builtin:list.append", "exec For Tuple Attribute cons nil", "execs cons", "q_me", "q_st0", "q_st1", "q_st2", "q_st3", "q_st4", "q_st5", "q_st6", "q_st7", "q_st8", "q_st9", "q_st10", "q_st11", "q_st12", "q_st13", "q_st14", "q_om", "q_sz", "q_mem", "q_two", "q_uw", "q_fw", "delw", "q_at", "q_pk", "q_sub", "q_sb", "nd_ne", "nd_pick"]
theorem setup_pre3 : True := by
  (k_with "pre3|cell_enterC" => ((case kS => k_asm); (case k6 => k_is); (case k7 => k_is); (case k8 => ktr_room); (case k9 => exact BindsTo.of_eq rfl); (case c5 => decide); (case kB => exact locs rfl); (case c2 => exact rfl); (case c3 => exact rfl); (case c4 => exact rfl); k_whole; intro zg' zL' zh' zF' zN' zB' zX' zT' zkg' zqk zek; (try dsimp only at zF')))
  (k_with "pre3|cell_enterZ" => ((case kS => k_asm); (case k6 => k_is); (case k7 => k_is); (case k8 => ktr_room); (case k9 => exact BindsTo.of_eq rfl); (case c5 => decide); (case kB => exact locs rfl); (case c2 => exact rfl); (case c3 => exact rfl); (case c4 => exact rfl); k_whole; intro zg' zL' zh' zF' zN' zB' zX' zT' zkg' zqk; (try dsimp only at zF')))
  (k_with "pre3|LeaveW" => (k_dflt (refine' leaveW_ ?k1 ?k2 ?_; (case k1 => k_asm); (case k2 => k_asm); k_whole); intro zkK zkN; (try dsimp only)))
  (k_with "pre3|subscriptTail Name Constant ref int" => (k_here; (with_reducible show wpAny _ _ (subscriptTail _ _ (Value.ref _) (Value.int _ _)) _ _ _); k_dflt (refine' r_item ?N ?hm ?h0 ?h1 ?hx ?_ ?hs; (case N => k_asm); (case hm => k_mem); (case h0 => decide); (case h1 => decide); (case hx => rfl); (case hs => with_unfolding_all rfl); k_whole)))
  (k_with "pre3|subscriptTail Name Name ref int" => (k_here; (with_reducible show wpAny _ _ (subscriptTail _ _ (Value.ref _) (Value.int _ _)) _ _ _); k_dflt (refine' r_item ?N ?hm ?h0 ?h1 ?hx ?_ ?hs; (case N => k_asm); (case hm => k_mem); (case h0 => decide); (case h1 => decide); (case hx => rfl); (case hs => with_unfolding_all rfl); k_whole)))
  (k_with "pre3|binaryOp Mod int int" => (k_here; refine r_mod (by omega) ?_; intro _ _))
  (k_with "pre3|binaryOp FloorDiv int int" => (k_here; refine r_div (by omega) (by omega) ?_; intro _ _))
  (k_with "pre3|binaryOp Mult int int" => (k_here; refine r_mul (by omega) (by omega) ?_; intro _ _))
  (k_with "pre3|binaryOp Add int int" => (k_here; refine r_add ?_; intro _ _))
  (k_with "pre3|binaryOp Sub int int" => (k_here; refine r_sub ?_; intro _ _))
  (k_with "pre3|eval Constant int" => (k_here; refine r_const ?_; intro _ _))
  (k_with "pre3|b_om" => (simp only [List.length_append, List.length_replicate, List.length_cons, List.length_nil, Nat.zero_add, putAt, cut, be4, List.length_take, List.length_drop, Option.elim] <;> omega))
  (k_with "pre3|b_om" => omega)
  (k_with "pre3|b_sz" => walk_at "b_om")
  (k_with "pre3|b_nn" => (intro zk zhk; (first | cases zhk | skip); omega))
  (k_with "pre3|b_nn" => (intro zk zhk; cases zhk; done))
  (k_with "pre3|call builtin:len ref" => (k_here; k_dflt (refine' n_len ?N ?hm ?hz ?_; (case N => k_asm); (case hm => k_mem); (case hz => walk_at "b_sz"); k_whole); intro _ _))
  (k_with "pre3|call builtin:len" => (k_here; (with_reducible show wpAny _ _ (call _ [Value.ref _]) _ _ _); k_dflt (refine' n_len ?N ?hm ?hz ?_; (case N => k_asm); (case hm => k_mem); (case hz => walk_at "b_sz"); k_whole); intro _ _))
  (k_with "pre3|call builtin:len" => (k_here; (with_reducible show wpAny _ _ (call _ [Value.bytes _ _]) _ _ _); k_dflt (refine' b_len ?hz ?_; (case hz => walk_at "b_sz"); k_whole); intro _ _))
  (k_with "pre3|getMethod ref" => (k_here; (with_reducible show wpAny _ _ (getMethod (Value.ref _) (PySem.Str.ofString "extend") _) _ _ _); k_dflt (refine' n_extendM ?N ?hm ?_; (case N => k_asm); (case hm => k_mem); k_whole)))
  (k_with "pre3|call type:bytes" => (k_here; (with_reducible show wpAny _ _ (call _ [Value.int _ _]) _ _ _); k_dflt (refine' n_zeros ?h0 ?h1 ?_; (case h0 => walk_at "b_om"); (case h1 => walk_at "b_om"); k_whole); intro _ _))
  (k_with "pre3|call type:bytes" => (k_here; (with_reducible show wpAny _ _ (call _ [Value.ref _]) _ _ _); k_dflt (refine' n_bytes ?N ?hm ?hz ?_; (case N => k_asm); (case hm => k_mem); (case hz => walk_at "b_sz"); k_whole); intro _ _))
  (k_with "pre3|subscriptTail" => (k_here; (with_reducible show wpAny _ _ (subscriptTail _ (PySem.Expr.Slice _ _ none _) (Value.bytes _ _) (Value.ref _)) _ _ _); k_dflt (refine' b_slice ?F ?N ?l ?u ?hz ?h1 ?h2 ?_ ?hs ?ht; (case F => k_asm); (case N => k_asm); (case l => constructor); (case u => constructor); (case hz => walk_at "b_sz"); (case h1 => walk_at "b_nn"); (case h2 => walk_at "b_nn"); (case hs => with_unfolding_all rfl); (case ht => intro _; with_unfolding_all rfl); k_whole); intro zh' _ _ zF' zN'; (try k_sweep)))
  (k_with "pre3|subscriptTail Name Slice ref ref" => (k_here; (with_reducible show wpAny _ _ (subscriptTail _ (PySem.Expr.Slice _ _ none _) (Value.ref _) (Value.ref _)) _ _ _); k_dflt (refine' n_get ?F ?N ?hm ?l ?u ?hz ?h1 ?h2 ?_ ?hs ?ht; (case F => k_asm); (case N => k_asm); (case hm => k_mem); (case l => constructor); (case u => constructor); (case hz => walk_at "b_sz"); (case h1 => walk_at "b_nn"); (case h2 => walk_at "b_nn"); (case hs => with_unfolding_all rfl); (case ht => intro _; with_unfolding_all rfl); k_whole); intro zd' zh' zF' zN' zl1; (try k_lt zl1); (try k_sweep)))
  (k_with "pre3|subscriptTail Attribute Name Slice ref ref" => walk_at "subscriptTail Name Slice ref ref")
  (k_with "pre3|subscriptTail Attribute" => ((with_reducible show wpAny _ _ (subscriptTail _ (PySem.Expr.Slice _ _ none _) (Value.ref _) (Value.ref _)) _ _ _); walk_at "subscriptTail Name Slice ref ref"))
  (k_with "pre3|wpC" => (first
  | ((with_reducible show wpC _ _ (execs [] _) _ _ _); refine C_nil ?_; (try dsimp only))
  | ((with_reducible show wpC _ _ (execs (_ :: _) _) _ _ _); refine C_consL ?_; intro zqs)
  | ((with_reducible show wpC _ _ (exec (Stmt.If _ _ _ _) _) _ _ _); k_dflt (refine C_If ?_))
  | ((with_reducible show wpC _ _ (exec (Stmt.Return (some _) _) _) _ _ _); k_dflt (refine C_Return ?_))
  | ((with_reducible show wpC _ _ (exec (Stmt.Return none _) _) _ _ _); refine C_Return0 ?_; (try dsimp only))
  | ((with_reducible show wpC _ _ (exec (Stmt.Expr _ _) _) _ _ _); k_dflt (refine C_Expr ?_))
  | ((with_reducible show wpC _ _ (exec (Stmt.Assign [PySem.Expr.Name _ _] _ _) _) _ _ _); k_dflt (refine C_Assign_Name ?_))
  | ((with_reducible show wpC _ _ (exec (Stmt.Assign [PySem.Expr.Attribute _ _ _] _ _) _) _ _ _); k_dflt (refine C_Assign_Attribute ?_ (by with_unfolding_all rfl)))
  | ((with_reducible show wpC _ _ (exec (Stmt.Assign [PySem.Expr.Subscript _ _ _] _ _) _) _ _ _); k_dflt (refine C_Assign_Subscript ?_ (by with_unfolding_all rfl)))
  | ((with_reducible show wpC _ _ (exec (Stmt.Delete [PySem.Expr.Subscript _ _ _] _) _) _ _ _); k_dflt (refine C_Delete_Subscript ?_))
  | ((with_reducible show wpC _ _ (eval (PySem.Expr.Call (PySem.Expr.Attribute _ _ _) _ [] _) _) _ _ _); k_dflt (refine C_Method ?_))
  | ((with_reducible show wpC _ _ (eval (PySem.Expr.Call _ _ [] _) _) _ _ _); k_dflt (refine C_Call ?_))
  | ((with_reducible show wpC _ _ (callWith _ (Value.builtin _) _ (backTo _ (starEach (_ :: _) _)) []) _ _ _); k_dflt (refine C_builtin1 ?_))
  | ((with_reducible show wpC _ _ (callWith _ (Value.type _) [] (backTo _ (starEach (_ :: _) _)) []) _ _ _); k_dflt (refine C_type1 ?_))
  | ((with_reducible show wpC _ _ (callWith _ (Value.type _) [] (backTo _ (starEach [] _)) []) _ _ _); k_dflt (refine C_type0 ?_))
  | ((with_reducible show wpC _ _ (callWith _ (Value.ref _) _ (backTo _ (starEach (_ :: _) _)) []) _ _ _); k_dflt (refine' C_callWith_K ?k1 ?k2 ?_; (case k1 => k_asm); (case k2 => k_is); k_whole))
  | ((with_reducible show wpC _ _ (callWith _ (Value.ref _) _ (backTo _ (starEach [] _)) []) _ _ _); k_dflt (refine' C_callWith_K0 ?k1 ?k2 ?_; (case k1 => k_in); (case k2 => k_is); k_whole))
  | ((with_reducible show wpC _ _ (call (Value.builtin "bytearray.extend") _) _ _ _); k_dflt (refine' n_extend ?F ?N ?hz ?U ?_; (case F => k_asm); (case N => k_asm); (case U => k_upd); (case hz => walk_at "b_sz"); k_whole); intro zh' zF' zN'; (try k_sweep))
  | ((with_reducible show wpC _ _ (setItem (Value.ref _) (Value.ref _) (Value.bytes _ _)) _ _ _); k_dflt (refine' n_setitem ?F ?N ?h0 ?he ?hk ?hz ?U ?_; (case F => k_asm); (case N => k_asm); (case U => k_upd); (case h0 => walk_at "b_om"); (case he => walk_at "b_om"); (case hk => walk_at "b_om"); (case hz => walk_at "b_sz"); k_whole); intro zh' zF' zN'; (try k_sweep))
  | ((with_reducible show wpC _ _ (delItem (Value.ref _) (Value.ref _)) _ _ _); k_dflt (refine' n_delitem ?F ?N ?h0 ?hk ?hz ?U ?_; (case F => k_asm); (case N => k_asm); (case U => k_upd); (case h0 => walk_at "b_om"); (case hk => walk_at "b_om"); (case hz => walk_at "b_sz"); k_whole); intro zh' zF' zN'; (try k_sweep))
  | ((with_reducible show wpC _ _ (call (Value.type "bytearray") []) _ _ _); k_dflt (refine' n_ba0 ?F ?N ?_; (case F => k_asm); (case N => k_asm); k_whole); intro zd' zh' zF' zN' zl1; (try k_lt zl1); (try k_sweep))
  | ((with_reducible show wpC _ _ (call (Value.type "bytearray") [_]) _ _ _); k_dflt (refine' n_ba1 ?F ?N ?hz ?_; (case F => k_asm); (case N => k_asm); (case hz => walk_at "b_sz"); k_whole); intro zd' zh' zF' zN' zl1; (try k_lt zl1); (try k_sweep))
  | (refine wpC_of ?_)))
  (k_with "pre3|b_ne0" => (intro ze; simp at ze))
  (k_with "pre3|b_ne0" => (intro ze; have e' := congrArg List.length ze; simp only [List.length_nil] at e'; omega))
  (k_with "pre3|binaryOp Pow int int" => (k_here; k_dflt (first | refine r_pow32 ?_ | refine r_pow18 ?_); intro _ _))
  (k_with "pre3|binaryOp Mod int int" => (k_here; refine r_mod (by omega) ?_; intro _ _))
  (k_with "pre3|call builtin:int.to_bytes" => (k_here; k_dflt (refine' b_to4 ?h0 ?h1 ?_; (case h0 => omega); (case h1 => omega); k_whole); intro _ _))
  (k_with "pre3|call ref" => (k_here; (with_reducible show wpAny _ _ (call (Value.ref _) [Value.bytes _ _, Value.str _ _]) _ _ _); k_dflt (refine' b_from ?N ?hm ?hz ?_; (case N => k_asm); (case hm => k_mem); (case hz => walk_at "b_sz"); k_whole); intro _ _))
  (k_with "pre3|binaryOp Add bytes bytes" => (k_here; k_dflt (refine' b_add ?hz ?_; (case hz => walk_at "b_sz"); k_whole); intro _ _))
  (k_with "pre3|binaryOp Mult bytes int" => (k_here; k_dflt (refine' b_mul ?hb ?h2 ?hn ?hz ?_; (case hb => walk_at "b_ne0"); (case h2 => omega); (case hn => omega); (case hz => walk_at "b_sz"); k_whole); intro _ _))
  (k_with "pre3|compareOp Eq bytes bytes" => (k_here; k_dflt (refine b_eq ?_)))
  (k_with "pre3|compareOp NotEq bytes bytes" => (k_here; k_dflt (refine b_ne ?_)))
  (k_with "pre3|eval Constant bytes" => (k_here; k_dflt (refine b_const ?_); intro _ _))
  (k_with "pre3|subscriptTail Name Name bytes int" => (k_here; k_dflt (refine' b_item ?hz ?h0 ?h1 ?_ ?hs ?ht; (case hz => walk_at "b_sz"); (case h0 => walk_at "b_om"); (case h1 => walk_at "b_om"); (case hs => with_unfolding_all rfl); (case ht => intro _; with_unfolding_all rfl); k_whole); intro _ _))
  (k_with "pre3|subscriptTail Name Constant bytes int" => (k_here; k_dflt (refine' b_item ?hz ?h0 ?h1 ?_ ?hs ?ht; (case hz => walk_at "b_sz"); (case h0 => walk_at "b_om"); (case h1 => walk_at "b_om"); (case hs => with_unfolding_all rfl); (case ht => intro _; with_unfolding_all rfl); k_whole); intro _ _))
  (k_with "pre3|subscriptTail Name BinOp bytes int" => (k_here; k_dflt (refine' b_item ?hz ?h0 ?h1 ?_ ?hs ?ht; (case hz => walk_at "b_sz"); (case h0 => walk_at "b_om"); (case h1 => walk_at "b_om"); (case hs => with_unfolding_all rfl); (case ht => intro _; with_unfolding_all rfl); k_whole); intro _ _))
  (k_with "pre3|call type:bytes" => (k_here; (with_reducible show wpAny _ _ (call _ [Value.ref _]) _ _ _); k_dflt (refine' n_bytes1 ?F ?N ?hh ?hm ?h0 ?h1 ?_; (case F => k_asm); (case N => k_asm); (case hh => rfl); (case hm => k_mem); (case h0 => omega); (case h1 => omega); k_whole); intro zh' _ _ zF' zN'; (try k_sweep)))
  (k_with "pre3|call type:int" => (k_here; (with_reducible show wpAny _ _ (call _ [Value.bool _]) _ _ _); k_dflt (refine r_intb ?_); intro _ _))
  (k_with "pre3|call builtin:max" => (k_here; (with_reducible show wpAny _ _ (call _ [Value.int _ _, Value.int _ _]) _ _ _); k_dflt (refine' r_max ?F ?N ?hh ?_; (case F => k_asm); (case N => k_asm); (case hh => rfl); k_whole); intro zh' _ _ zF' zN'; (try k_sweep)))
  (k_with "pre3|exec For Name Call cons nil" => (k_here; k_dflt (refine' For_rng ?F ?hx ?hp ?hh ?_ ?hs; (case F => k_asm); (case hx => rfl); (case hp => rfl); (case hh => rfl); (case hs => intro _; rfl); k_whole)))
  (k_with "pre3|binaryOp Mult int int" => (k_here; (with_reducible show wpAny _ _ (binaryOp _ (Value.int (Nat.cast (UInt8.toNat _)) _) _) _ _ _); k_dflt (refine r_mulb ?_); intro _ _))
  (k_with "pre3|subscriptTail List Call ref int" => (k_here; (with_reducible show wpAny _ _ (subscriptTail _ _ (Value.ref _) (Value.int _ _)) _ _ _); k_dflt (refine' r_itemI ?N ?hm ?h0 ?h1 ?h2 ?hv ?_ ?hs; (case N => k_asm); (case hm => k_mem); (case h0 => omega); (case h1 => (simp only [List.length_cons, List.length_nil]; omega)); (case h2 => (simp only [List.length_cons, List.length_nil]; omega)); (case zhv => (intro zv zhv; simp only [List.mem_cons, List.not_mem_nil, or_false] at zhv; rcases zhv with rfl | rfl | rfl | rfl | rfl | rfl <;> exact ⟨_, _, rfl⟩)); (case hs => with_unfolding_all rfl); k_whole); intro _ _))
  (k_with "pre3|subscriptTail List" => (k_here; (with_reducible show wpAny _ _ (subscriptTail _ _ (Value.ref _) (Value.int _ _)) _ _ _); k_dflt (refine' r_itemI ?N ?hm ?h0 ?h1 ?h2 ?hv ?_ ?hs; (case N => k_asm); (case hm => k_mem); (case h0 => omega); (case h1 => (simp only [List.length_cons, List.length_nil]; omega)); (case h2 => (simp only [List.length_cons, List.length_nil]; omega)); (case zhv => (intro zv zhv; simp only [List.mem_cons, List.not_mem_nil, or_false] at zhv; rcases zhv with rfl | rfl | rfl | rfl | rfl | rfl <;> exact ⟨_, _, rfl⟩)); (case hs => with_unfolding_all rfl); k_whole); intro _ _))
  (k_with "pre3|cell_enterZC" => ((case kS => k_asm); (case k6 => k_is); (case k7 => k_is); (case k8 => ktr_room); (case k9 => exact BindsTo.of_eq rfl); (case kB => exact rfl); (case kD => decide +kernel); (case c2 => exact rfl); (case c3 => exact rfl); (case c4 => exact rfl); k_whole; intro zg' zL' zh' ztk' zcells' zF' zN' zY' zB' zX' zT' zkg' zl1 zqk; (try k_lt zl1); k_cells zY'; (try simp only [List.cons_append, List.nil_append] at zN'); (try dsimp only at zF')))
  (k_with "pre3|nd_lt" => ((try clear zlast); intro zlast; k_dflt (first | (replace znd := nd_lt zlast znd rfl) | (replace znd := nd_neq zlast znd rfl))))
  (k_with "pre3|nd_lt2" => (intro zlast2; k_dflt (replace znd := nd_lt2 zlast zlast2 znd rfl); clear zlast2))
  (k_with "pre3|enterCK_cases" => ((case kA => exact rfl); (case kF => exact rfl); (case kK => first | assumption | exact rfl); (case k1 => k_asm); (case k2 => k_asm); (case k3 => k_asm); (case k4 => k_asm); (case k5 => k_asm); (case k6 => k_is); (case k7 => k_is); (case k8 => ktr_room); (case k9 => exact BindsTo.of_eq rfl); (case c5 => decide); (case kB => exact locs rfl); (case c2 => exact rfl); (case c3 => exact rfl); (case c4 => exact rfl); k_whole; intro zg' zL' zh' zFG' zF' zN' zB' zX' zT' zqk zek; (try dsimp only at zF')))
  (k_with "pre3|setAttr ref" => (k_here; k_dflt (refine' n_setL ?k1 ?k2 ?k3 ?k4 ?k5 ?k6 ?k7 ?k8 ?k9 ?k10 ?k11 ?k12 ?k13 ?_; (case k1 => k_asm); (case k2 => k_asm); (case k3 => k_asm); (case k4 => k_inst); (case k5 => exact rfl); (case k6 => k_is); (case k7 => k_is); (case k8 => k_is); (case k9 => k_is); (case k10 => k_get); (case k11 => intro zkt; k_put); (case k12 => k_updF); (case k13 => intro zkt; exact Nat.le_of_ble_eq_true rfl); k_whole; intro zkt zh' _ zes1 zF' zN'; (try dsimp only at zN'); (try k_sweep))))
  (k_with "pre3|inl" => (refine' code_def ?k1 ?k2 ?k3 ?k4 ?k5 ?kA ?kF ?kK ?k6 ?k7 ?k8 ?k9 ?kB ?_ ?c2 ?c3 ?c4 ?c5; (case kA => exact rfl); (case kF => exact rfl); (case kK => first | exact rfl | assumption); (case k1 => k_asm); (case k2 => k_asm); (case k3 => k_asm); (case k4 => k_asm); (case k5 => k_asm); (case k6 => k_is); (case k7 => k_is); (case k8 => ktr_room); (case k9 => first | exact BindsTo.of_eq rfl | exact binds_K (by k_in) rfl (by k_is) rfl rfl rfl); (case c5 => decide); (case kB => exact locs rfl); (case c2 => exact rfl); (case c3 => exact rfl); (case c4 => exact rfl); k_whole; intro zg' zL' zh' zFG' zF' zN' zB' zX' zT'; (try dsimp only at zF'); (try dsimp only); (try k_fold)))
  (k_with "pre3|call ref" => (k_here; k_dflt (refine wpAny_call ?_; walk_at "inl")))
  (k_with "pre3|call type:bytes" => (k_here; (with_reducible show wpAny _ _ (call _ [Value.bytes _ _]) _ _ _); k_dflt (refine bytes_bytes (s := ⟨_, _, _, _, _⟩) ?_); intro _ _; (try dsimp only)))
  (k_with "pre3|call builtin:list.append" => (k_here; (with_reducible show wpAny _ _ (call (Value.builtin _) [Value.ref _, _]) _ _ _); k_dflt (refine' append_K ?k1 ?k2 ?k3 ?_ ?z; (case k1 => k_asm); (case k2 => k_asm); (case k3 => k_upd); (case z => (rw [sizeLine_eq]; omega)); k_whole); intro zh' zF' zN'; (try k_sweep)))
  (k_with "pre3|exec For Tuple Attribute cons nil" => ktu_for)
  (k_with "pre3|execs cons" => (first | (k_here; k_gentoks) | ((with_reducible refine execs_consL ?_); intro zqs)))
  (k_with "pre3|q_me" => (first | ((case sta => k_extra "pre3|q_st14"); (case stb => exact rfl); (case stc => exact rfl); (case sth => (repeat (refine ⟨?_, ?_⟩; with_unfolding_all rfl)); exact trivial)) | ((case sta => k_extra "pre3|q_st13"); (case stb => exact rfl); (case stc => exact rfl); (case sth => (repeat (refine ⟨?_, ?_⟩; with_unfolding_all rfl)); exact trivial)) | ((case sta => k_extra "pre3|q_st12"); (case stb => exact rfl); (case stc => exact rfl); (case sth => (repeat (refine ⟨?_, ?_⟩; with_unfolding_all rfl)); exact trivial)) | ((case sta => k_extra "pre3|q_st11"); (case stb => exact rfl); (case stc => exact rfl); (case sth => (repeat (refine ⟨?_, ?_⟩; with_unfolding_all rfl)); exact trivial)) | ((case sta => k_extra "pre3|q_st10"); (case stb => exact rfl); (case stc => exact rfl); (case sth => (repeat (refine ⟨?_, ?_⟩; with_unfolding_all rfl)); exact trivial)) | ((case sta => k_extra "pre3|q_st9"); (case stb => exact rfl); (case stc => exact rfl); (case sth => (repeat (refine ⟨?_, ?_⟩; with_unfolding_all rfl)); exact trivial)) | ((case sta => k_extra "pre3|q_st8"); (case stb => exact rfl); (case stc => exact rfl); (case sth => (repeat (refine ⟨?_, ?_⟩; with_unfolding_all rfl)); exact trivial)) | ((case sta => k_extra "pre3|q_st7"); (case stb => exact rfl); (case stc => exact rfl); (case sth => (repeat (refine ⟨?_, ?_⟩; with_unfolding_all rfl)); exact trivial)) | ((case sta => k_extra "pre3|q_st6"); (case stb => exact rfl); (case stc => exact rfl); (case sth => (repeat (refine ⟨?_, ?_⟩; with_unfolding_all rfl)); exact trivial)) | ((case sta => k_extra "pre3|q_st5"); (case stb => exact rfl); (case stc => exact rfl); (case sth => (repeat (refine ⟨?_, ?_⟩; with_unfolding_all rfl)); exact trivial)) | ((case sta => k_extra "pre3|q_st4"); (case stb => exact rfl); (case stc => exact rfl); (case sth => (repeat (refine ⟨?_, ?_⟩; with_unfolding_all rfl)); exact trivial)) | ((case sta => k_extra "pre3|q_st3"); (case stb => exact rfl); (case stc => exact rfl); (case sth => (repeat (refine ⟨?_, ?_⟩; with_unfolding_all rfl)); exact trivial)) | ((case sta => k_extra "pre3|q_st2"); (case stb => exact rfl); (case stc => exact rfl); (case sth => (repeat (refine ⟨?_, ?_⟩; with_unfolding_all rfl)); exact trivial)) | ((case sta => k_extra "pre3|q_st1"); (case stb => exact rfl); (case stc => exact rfl); (case sth => (repeat (refine ⟨?_, ?_⟩; with_unfolding_all rfl)); exact trivial)) | ((case sta => k_extra "pre3|q_st0"); (case stb => exact rfl); (case stc => exact rfl); (case sth => (repeat (refine ⟨?_, ?_⟩; with_unfolding_all rfl)); exact trivial))))
  (k_with "pre3|q_st0" => exact st_end)
  (k_with "pre3|q_st1" => (with_reducible refine' st_step ?stx; (case stx => k_extra "pre3|q_st0")))
  (k_with "pre3|q_st2" => (with_reducible refine' st_step ?stx; (case stx => k_extra "pre3|q_st1")))
  (k_with "pre3|q_st3" => (with_reducible refine' st_step ?stx; (case stx => k_extra "pre3|q_st2")))
  (k_with "pre3|q_st4" => (with_reducible refine' st_step ?stx; (case stx => k_extra "pre3|q_st3")))
  (k_with "pre3|q_st5" => (with_reducible refine' st_step ?stx; (case stx => k_extra "pre3|q_st4")))
  (k_with "pre3|q_st6" => (with_reducible refine' st_step ?stx; (case stx => k_extra "pre3|q_st5")))
  (k_with "pre3|q_st7" => (with_reducible refine' st_step ?stx; (case stx => k_extra "pre3|q_st6")))
  (k_with "pre3|q_st8" => (with_reducible refine' st_step ?stx; (case stx => k_extra "pre3|q_st7")))
  (k_with "pre3|q_st9" => (with_reducible refine' st_step ?stx; (case stx => k_extra "pre3|q_st8")))
  (k_with "pre3|q_st10" => (with_reducible refine' st_step ?stx; (case stx => k_extra "pre3|q_st9")))
  (k_with "pre3|q_st11" => (with_reducible refine' st_step ?stx; (case stx => k_extra "pre3|q_st10")))
  (k_with "pre3|q_st12" => (with_reducible refine' st_step ?stx; (case stx => k_extra "pre3|q_st11")))
  (k_with "pre3|q_st13" => (with_reducible refine' st_step ?stx; (case stx => k_extra "pre3|q_st12")))
  (k_with "pre3|q_st14" => (with_reducible refine' st_step ?stx; (case stx => k_extra "pre3|q_st13")))
  (k_with "pre3|q_om" => with_reducible (first | assumption | (refine' rm2 ?oma ?omb; (case oma => assumption); (case omb => k_dflt (exact rfl))) | (refine' rm1 ?oma ?omb; (case oma => assumption); (case omb => k_dflt (exact rfl))) | (refine' rm3 ?oma ?omb; (case oma => assumption); (case omb => k_dflt (exact rfl))) | (refine' rm4 ?oma ?omb; (case oma => assumption); (case omb => k_dflt (exact rfl))) | (refine' le_up ?oma ?omb; (case oma => assumption); (case omb => k_dflt (exact rfl))) | (refine' ge_dn ?oma ?omb; (case oma => assumption); (case omb => k_dflt (exact rfl))) | (refine' rm0 ?oma; (case oma => assumption)) | (refine' Ne.symm ?oma; (case oma => assumption)) | (refine' hb1 ?oma; (case oma => assumption)) | (refine' hb7 ?oma; (case oma => assumption)) | (refine' hb5 ?oma; (case oma => assumption)) | (refine' hb3 ?oma; (case oma => assumption)) | (refine' hb8 ?oma; (case oma => assumption)) | (refine' hb9 ?oma; (case oma => assumption)) | (refine' hb2 ?oma; (case oma => assumption)) | (refine' hb4 ?oma; (case oma => assumption)) | (refine' hb6 ?oma; (case oma => assumption)) | (refine' hb7a ?oma; (case oma => assumption)) | (refine' hb7b ?oma; (case oma => assumption)) | (refine' hb7c ?oma; (case oma => assumption)) | (refine' hb1a ?oma; (case oma => assumption)) | (refine' hb1b ?oma; (case oma => assumption)) | (refine' hb1c ?oma; (case oma => assumption)) | (refine' hb1d ?oma; (case oma => assumption)) | (refine' hb5a ?oma; (case oma => assumption)) | (refine' hb5b ?oma; (case oma => assumption)) | (refine' hb1n ?oma; (case oma => assumption)) | (refine' pg_lo ?oma; (case oma => assumption)) | (refine' pg_hi ?oma; (case oma => assumption)) | (refine' at_in1 ?oma ?omb ?omc ?omd; (case oma => assumption); (case omb => assumption); (case omc => assumption); (case omd => assumption)) | (refine' at_in2 ?oma ?omb ?omc ?omd ?ome; (case oma => assumption); (case omb => assumption); (case omc => assumption); (case omd => assumption); (case ome => k_dflt (exact rfl))) | (refine' nn4 ?oma ?omb; (case oma => assumption); (case omb => k_extra "pre3|q_om")) | (refine' nn2 ?oma; (case oma => assumption)) | (refine' nn3 ?omc ?oma ?omb; (case omc => assumption); (case oma => assumption); (case omb => k_extra "pre3|q_om")) | (refine' nn5 ?oma ?omb; (case oma => assumption); (case omb => assumption)) | (refine' nn6 ?oma ?omb; (case oma => assumption); (case omb => assumption)) | fail "q_om"))
  (k_with "pre3|b_sz" => (first | ((with_reducible refine' sz_up ?sza ?szb); (case sza => k_extra "pre3|q_sz"); (case szb => exact rfl)) | ((with_reducible refine' sz_sum ?sza ?szd ?szb); (case sza => k_extra "pre3|q_sz"); (case szd => k_extra "pre3|q_sz"); (case szb => exact rfl)) | fail "b_sz"))
  (k_with "pre3|q_sz" => (with_reducible (first | assumption | exact sz_cut4 | exact sz_cutn4 | exact sz_cut24 | exact sz_be4 | (refine' sz_tail ?szt ?szu; (case szt => k_extra "pre3|q_om"); (case szu => k_extra "pre3|q_om")) | exact sz_nil | exact sz_eq (by assumption) | (refine' sz_cut ?szc; (case szc => k_extra "pre3|q_sz")) | (apply sz_app; (focus k_extra "pre3|q_sz"); (focus k_extra "pre3|q_sz")) | (refine' sz_cons ?szc; (case szc => k_extra "pre3|q_sz")) | (refine' sz_take ?szc; (case szc => k_extra "pre3|q_sz")) | (refine' sz_drop ?szc; (case szc => k_extra "pre3|q_sz")) | (k_dflt (refine' sz_repmax ?szc); (case szc => assumption)))))
  (k_with "pre3|q_mem" => (first | exact List.Mem.head _ | (refine' mt1 ?fa1; (case fa1 => (first | exact List.Mem.head _))) | (refine' mt2 ?fa2; (case fa2 => (first | exact List.Mem.head _ | (refine' mt1 ?fa1; (case fa1 => (first | exact List.Mem.head _)))))) | (refine' mt4 ?fa4; (case fa4 => (first | exact List.Mem.head _ | (refine' mt1 ?fa1; (case fa1 => (first | exact List.Mem.head _))) | (refine' mt2 ?fa2; (case fa2 => (first | exact List.Mem.head _ | (refine' mt1 ?fa1; (case fa1 => (first | exact List.Mem.head _))))))))) | (refine' mt8 ?fa8; (case fa8 => (first | exact List.Mem.head _ | (refine' mt1 ?fa1; (case fa1 => (first | exact List.Mem.head _))) | (refine' mt2 ?fa2; (case fa2 => (first | exact List.Mem.head _ | (refine' mt1 ?fa1; (case fa1 => (first | exact List.Mem.head _)))))) | (refine' mt4 ?fa4; (case fa4 => (first | exact List.Mem.head _ | (refine' mt1 ?fa1; (case fa1 => (first | exact List.Mem.head _))) | (refine' mt2 ?fa2; (case fa2 => (first | exact List.Mem.head _ | (refine' mt1 ?fa1; (case fa1 => (first | exact List.Mem.head _)))))))))))) | (refine' mt8 ?fa8; (case fa8 => refine' mt8 ?fa8; (case fa8 => (first | exact List.Mem.head _ | (refine' mt1 ?fa1; (case fa1 => (first | exact List.Mem.head _))) | (refine' mt2 ?fa2; (case fa2 => (first | exact List.Mem.head _ | (refine' mt1 ?fa1; (case fa1 => (first | exact List.Mem.head _)))))) | (refine' mt4 ?fa4; (case fa4 => (first | exact List.Mem.head _ | (refine' mt1 ?fa1; (case fa1 => (first | exact List.Mem.head _))) | (refine' mt2 ?fa2; (case fa2 => (first | exact List.Mem.head _ | (refine' mt1 ?fa1; (case fa1 => (first | exact List.Mem.head _))))))))))))) | (refine' mt8 ?fa8; (case fa8 => refine' mt8 ?fa8; (case fa8 => refine' mt8 ?fa8; (case fa8 => (first | exact List.Mem.head _ | (refine' mt1 ?fa1; (case fa1 => (first | exact List.Mem.head _))) | (refine' mt2 ?fa2; (case fa2 => (first | exact List.Mem.head _ | (refine' mt1 ?fa1; (case fa1 => (first | exact List.Mem.head _)))))) | (refine' mt4 ?fa4; (case fa4 => (first | exact List.Mem.head _ | (refine' mt1 ?fa1; (case fa1 => (first | exact List.Mem.head _))) | (refine' mt2 ?fa2; (case fa2 => (first | exact List.Mem.head _ | (refine' mt1 ?fa1; (case fa1 => (first | exact List.Mem.head _)))))))))))))) | (refine' mt8 ?fa8; (case fa8 => refine' mt8 ?fa8; (case fa8 => refine' mt8 ?fa8; (case fa8 => refine' mt8 ?fa8; (case fa8 => (first | exact List.Mem.head _ | (refine' mt1 ?fa1; (case fa1 => (first | exact List.Mem.head _))) | (refine' mt2 ?fa2; (case fa2 => (first | exact List.Mem.head _ | (refine' mt1 ?fa1; (case fa1 => (first | exact List.Mem.head _)))))) | (refine' mt4 ?fa4; (case fa4 => (first | exact List.Mem.head _ | (refine' mt1 ?fa1; (case fa1 => (first | exact List.Mem.head _))) | (refine' mt2 ?fa2; (case fa2 => (first | exact List.Mem.head _ | (refine' mt1 ?fa1; (case fa1 => (first | exact List.Mem.head _))))))))))))))) | (refine' mt8 ?fa8; (case fa8 => refine' mt8 ?fa8; (case fa8 => refine' mt8 ?fa8; (case fa8 => refine' mt8 ?fa8; (case fa8 => refine' mt8 ?fa8; (case fa8 => (first | exact List.Mem.head _ | (refine' mt1 ?fa1; (case fa1 => (first | exact List.Mem.head _))) | (refine' mt2 ?fa2; (case fa2 => (first | exact List.Mem.head _ | (refine' mt1 ?fa1; (case fa1 => (first | exact List.Mem.head _)))))) | (refine' mt4 ?fa4; (case fa4 => (first | exact List.Mem.head _ | (refine' mt1 ?fa1; (case fa1 => (first | exact List.Mem.head _))) | (refine' mt2 ?fa2; (case fa2 => (first | exact List.Mem.head _ | (refine' mt1 ?fa1; (case fa1 => (first | exact List.Mem.head _))))))))))))))))))
  (k_with "pre3|q_two" => (first | (refine TwoW.hit ?_; k_mem) | (refine TwoW.hit' ?_; k_mem) | (refine' tw1 ?fa1; (case fa1 => (first | (refine TwoW.hit ?_; k_mem) | (refine TwoW.hit' ?_; k_mem)))) | (refine' tw2 ?fa2; (case fa2 => (first | (refine TwoW.hit ?_; k_mem) | (refine TwoW.hit' ?_; k_mem) | (refine' tw1 ?fa1; (case fa1 => (first | (refine TwoW.hit ?_; k_mem) | (refine TwoW.hit' ?_; k_mem))))))) | (refine' tw4 ?fa4; (case fa4 => (first | (refine TwoW.hit ?_; k_mem) | (refine TwoW.hit' ?_; k_mem) | (refine' tw1 ?fa1; (case fa1 => (first | (refine TwoW.hit ?_; k_mem) | (refine TwoW.hit' ?_; k_mem)))) | (refine' tw2 ?fa2; (case fa2 => (first | (refine TwoW.hit ?_; k_mem) | (refine TwoW.hit' ?_; k_mem) | (refine' tw1 ?fa1; (case fa1 => (first | (refine TwoW.hit ?_; k_mem) | (refine TwoW.hit' ?_; k_mem)))))))))) | (refine' tw8 ?fa8; (case fa8 => (first | (refine TwoW.hit ?_; k_mem) | (refine TwoW.hit' ?_; k_mem) | (refine' tw1 ?fa1; (case fa1 => (first | (refine TwoW.hit ?_; k_mem) | (refine TwoW.hit' ?_; k_mem)))) | (refine' tw2 ?fa2; (case fa2 => (first | (refine TwoW.hit ?_; k_mem) | (refine TwoW.hit' ?_; k_mem) | (refine' tw1 ?fa1; (case fa1 => (first | (refine TwoW.hit ?_; k_mem) | (refine TwoW.hit' ?_; k_mem))))))) | (refine' tw4 ?fa4; (case fa4 => (first | (refine TwoW.hit ?_; k_mem) | (refine TwoW.hit' ?_; k_mem) | (refine' tw1 ?fa1; (case fa1 => (first | (refine TwoW.hit ?_; k_mem) | (refine TwoW.hit' ?_; k_mem)))) | (refine' tw2 ?fa2; (case fa2 => (first | (refine TwoW.hit ?_; k_mem) | (refine TwoW.hit' ?_; k_mem) | (refine' tw1 ?fa1; (case fa1 => (first | (refine TwoW.hit ?_; k_mem) | (refine TwoW.hit' ?_; k_mem))))))))))))) | (refine' tw8 ?fa8; (case fa8 => refine' tw8 ?fa8; (case fa8 => (first | (refine TwoW.hit ?_; k_mem) | (refine TwoW.hit' ?_; k_mem) | (refine' tw1 ?fa1; (case fa1 => (first | (refine TwoW.hit ?_; k_mem) | (refine TwoW.hit' ?_; k_mem)))) | (refine' tw2 ?fa2; (case fa2 => (first | (refine TwoW.hit ?_; k_mem) | (refine TwoW.hit' ?_; k_mem) | (refine' tw1 ?fa1; (case fa1 => (first | (refine TwoW.hit ?_; k_mem) | (refine TwoW.hit' ?_; k_mem))))))) | (refine' tw4 ?fa4; (case fa4 => (first | (refine TwoW.hit ?_; k_mem) | (refine TwoW.hit' ?_; k_mem) | (refine' tw1 ?fa1; (case fa1 => (first | (refine TwoW.hit ?_; k_mem) | (refine TwoW.hit' ?_; k_mem)))) | (refine' tw2 ?fa2; (case fa2 => (first | (refine TwoW.hit ?_; k_mem) | (refine TwoW.hit' ?_; k_mem) | (refine' tw1 ?fa1; (case fa1 => (first | (refine TwoW.hit ?_; k_mem) | (refine TwoW.hit' ?_; k_mem)))))))))))))) | (refine' tw8 ?fa8; (case fa8 => refine' tw8 ?fa8; (case fa8 => refine' tw8 ?fa8; (case fa8 => (first | (refine TwoW.hit ?_; k_mem) | (refine TwoW.hit' ?_; k_mem) | (refine' tw1 ?fa1; (case fa1 => (first | (refine TwoW.hit ?_; k_mem) | (refine TwoW.hit' ?_; k_mem)))) | (refine' tw2 ?fa2; (case fa2 => (first | (refine TwoW.hit ?_; k_mem) | (refine TwoW.hit' ?_; k_mem) | (refine' tw1 ?fa1; (case fa1 => (first | (refine TwoW.hit ?_; k_mem) | (refine TwoW.hit' ?_; k_mem))))))) | (refine' tw4 ?fa4; (case fa4 => (first | (refine TwoW.hit ?_; k_mem) | (refine TwoW.hit' ?_; k_mem) | (refine' tw1 ?fa1; (case fa1 => (first | (refine TwoW.hit ?_; k_mem) | (refine TwoW.hit' ?_; k_mem)))) | (refine' tw2 ?fa2; (case fa2 => (first | (refine TwoW.hit ?_; k_mem) | (refine TwoW.hit' ?_; k_mem) | (refine' tw1 ?fa1; (case fa1 => (first | (refine TwoW.hit ?_; k_mem) | (refine TwoW.hit' ?_; k_mem))))))))))))))) | (refine' tw8 ?fa8; (case fa8 => refine' tw8 ?fa8; (case fa8 => refine' tw8 ?fa8; (case fa8 => refine' tw8 ?fa8; (case fa8 => (first | (refine TwoW.hit ?_; k_mem) | (refine TwoW.hit' ?_; k_mem) | (refine' tw1 ?fa1; (case fa1 => (first | (refine TwoW.hit ?_; k_mem) | (refine TwoW.hit' ?_; k_mem)))) | (refine' tw2 ?fa2; (case fa2 => (first | (refine TwoW.hit ?_; k_mem) | (refine TwoW.hit' ?_; k_mem) | (refine' tw1 ?fa1; (case fa1 => (first | (refine TwoW.hit ?_; k_mem) | (refine TwoW.hit' ?_; k_mem))))))) | (refine' tw4 ?fa4; (case fa4 => (first | (refine TwoW.hit ?_; k_mem) | (refine TwoW.hit' ?_; k_mem) | (refine' tw1 ?fa1; (case fa1 => (first | (refine TwoW.hit ?_; k_mem) | (refine TwoW.hit' ?_; k_mem)))) | (refine' tw2 ?fa2; (case fa2 => (first | (refine TwoW.hit ?_; k_mem) | (refine TwoW.hit' ?_; k_mem) | (refine' tw1 ?fa1; (case fa1 => (first | (refine TwoW.hit ?_; k_mem) | (refine TwoW.hit' ?_; k_mem)))))))))))))))) | (refine' tw8 ?fa8; (case fa8 => refine' tw8 ?fa8; (case fa8 => refine' tw8 ?fa8; (case fa8 => refine' tw8 ?fa8; (case fa8 => refine' tw8 ?fa8; (case fa8 => (first | (refine TwoW.hit ?_; k_mem) | (refine TwoW.hit' ?_; k_mem) | (refine' tw1 ?fa1; (case fa1 => (first | (refine TwoW.hit ?_; k_mem) | (refine TwoW.hit' ?_; k_mem)))) | (refine' tw2 ?fa2; (case fa2 => (first | (refine TwoW.hit ?_; k_mem) | (refine TwoW.hit' ?_; k_mem) | (refine' tw1 ?fa1; (case fa1 => (first | (refine TwoW.hit ?_; k_mem) | (refine TwoW.hit' ?_; k_mem))))))) | (refine' tw4 ?fa4; (case fa4 => (first | (refine TwoW.hit ?_; k_mem) | (refine TwoW.hit' ?_; k_mem) | (refine' tw1 ?fa1; (case fa1 => (first | (refine TwoW.hit ?_; k_mem) | (refine TwoW.hit' ?_; k_mem)))) | (refine' tw2 ?fa2; (case fa2 => (first | (refine TwoW.hit ?_; k_mem) | (refine TwoW.hit' ?_; k_mem) | (refine' tw1 ?fa1; (case fa1 => (first | (refine TwoW.hit ?_; k_mem) | (refine TwoW.hit' ?_; k_mem)))))))))))))))))))
  (k_with "pre3|q_uw" => (first | exact UpdW.head | (refine' uw1 ?fa1; (case fa1 => (first | exact UpdW.head))) | (refine' uw2 ?fa2; (case fa2 => (first | exact UpdW.head | (refine' uw1 ?fa1; (case fa1 => (first | exact UpdW.head)))))) | (refine' uw4 ?fa4; (case fa4 => (first | exact UpdW.head | (refine' uw1 ?fa1; (case fa1 => (first | exact UpdW.head))) | (refine' uw2 ?fa2; (case fa2 => (first | exact UpdW.head | (refine' uw1 ?fa1; (case fa1 => (first | exact UpdW.head))))))))) | (refine' uw8 ?fa8; (case fa8 => (first | exact UpdW.head | (refine' uw1 ?fa1; (case fa1 => (first | exact UpdW.head))) | (refine' uw2 ?fa2; (case fa2 => (first | exact UpdW.head | (refine' uw1 ?fa1; (case fa1 => (first | exact UpdW.head)))))) | (refine' uw4 ?fa4; (case fa4 => (first | exact UpdW.head | (refine' uw1 ?fa1; (case fa1 => (first | exact UpdW.head))) | (refine' uw2 ?fa2; (case fa2 => (first | exact UpdW.head | (refine' uw1 ?fa1; (case fa1 => (first | exact UpdW.head)))))))))))) | (refine' uw8 ?fa8; (case fa8 => refine' uw8 ?fa8; (case fa8 => (first | exact UpdW.head | (refine' uw1 ?fa1; (case fa1 => (first | exact UpdW.head))) | (refine' uw2 ?fa2; (case fa2 => (first | exact UpdW.head | (refine' uw1 ?fa1; (case fa1 => (first | exact UpdW.head)))))) | (refine' uw4 ?fa4; (case fa4 => (first | exact UpdW.head | (refine' uw1 ?fa1; (case fa1 => (first | exact UpdW.head))) | (refine' uw2 ?fa2; (case fa2 => (first | exact UpdW.head | (refine' uw1 ?fa1; (case fa1 => (first | exact UpdW.head))))))))))))) | (refine' uw8 ?fa8; (case fa8 => refine' uw8 ?fa8; (case fa8 => refine' uw8 ?fa8; (case fa8 => (first | exact UpdW.head | (refine' uw1 ?fa1; (case fa1 => (first | exact UpdW.head))) | (refine' uw2 ?fa2; (case fa2 => (first | exact UpdW.head | (refine' uw1 ?fa1; (case fa1 => (first | exact UpdW.head)))))) | (refine' uw4 ?fa4; (case fa4 => (first | exact UpdW.head | (refine' uw1 ?fa1; (case fa1 => (first | exact UpdW.head))) | (refine' uw2 ?fa2; (case fa2 => (first | exact UpdW.head | (refine' uw1 ?fa1; (case fa1 => (first | exact UpdW.head)))))))))))))) | (refine' uw8 ?fa8; (case fa8 => refine' uw8 ?fa8; (case fa8 => refine' uw8 ?fa8; (case fa8 => refine' uw8 ?fa8; (case fa8 => (first | exact UpdW.head | (refine' uw1 ?fa1; (case fa1 => (first | exact UpdW.head))) | (refine' uw2 ?fa2; (case fa2 => (first | exact UpdW.head | (refine' uw1 ?fa1; (case fa1 => (first | exact UpdW.head)))))) | (refine' uw4 ?fa4; (case fa4 => (first | exact UpdW.head | (refine' uw1 ?fa1; (case fa1 => (first | exact UpdW.head))) | (refine' uw2 ?fa2; (case fa2 => (first | exact UpdW.head | (refine' uw1 ?fa1; (case fa1 => (first | exact UpdW.head))))))))))))))) | (refine' uw8 ?fa8; (case fa8 => refine' uw8 ?fa8; (case fa8 => refine' uw8 ?fa8; (case fa8 => refine' uw8 ?fa8; (case fa8 => refine' uw8 ?fa8; (case fa8 => (first | exact UpdW.head | (refine' uw1 ?fa1; (case fa1 => (first | exact UpdW.head))) | (refine' uw2 ?fa2; (case fa2 => (first | exact UpdW.head | (refine' uw1 ?fa1; (case fa1 => (first | exact UpdW.head)))))) | (refine' uw4 ?fa4; (case fa4 => (first | exact UpdW.head | (refine' uw1 ?fa1; (case fa1 => (first | exact UpdW.head))) | (refine' uw2 ?fa2; (case fa2 => (first | exact UpdW.head | (refine' uw1 ?fa1; (case fa1 => (first | exact UpdW.head))))))))))))))))))
  (k_with "pre3|q_fw" => (first | exact UpdFW.head | (refine' fw1 ?fa1; (case fa1 => (first | exact UpdFW.head))) | (refine' fw2 ?fa2; (case fa2 => (first | exact UpdFW.head | (refine' fw1 ?fa1; (case fa1 => (first | exact UpdFW.head)))))) | (refine' fw4 ?fa4; (case fa4 => (first | exact UpdFW.head | (refine' fw1 ?fa1; (case fa1 => (first | exact UpdFW.head))) | (refine' fw2 ?fa2; (case fa2 => (first | exact UpdFW.head | (refine' fw1 ?fa1; (case fa1 => (first | exact UpdFW.head))))))))) | (refine' fw8 ?fa8; (case fa8 => (first | exact UpdFW.head | (refine' fw1 ?fa1; (case fa1 => (first | exact UpdFW.head))) | (refine' fw2 ?fa2; (case fa2 => (first | exact UpdFW.head | (refine' fw1 ?fa1; (case fa1 => (first | exact UpdFW.head)))))) | (refine' fw4 ?fa4; (case fa4 => (first | exact UpdFW.head | (refine' fw1 ?fa1; (case fa1 => (first | exact UpdFW.head))) | (refine' fw2 ?fa2; (case fa2 => (first | exact UpdFW.head | (refine' fw1 ?fa1; (case fa1 => (first | exact UpdFW.head)))))))))))) | (refine' fw8 ?fa8; (case fa8 => refine' fw8 ?fa8; (case fa8 => (first | exact UpdFW.head | (refine' fw1 ?fa1; (case fa1 => (first | exact UpdFW.head))) | (refine' fw2 ?fa2; (case fa2 => (first | exact UpdFW.head | (refine' fw1 ?fa1; (case fa1 => (first | exact UpdFW.head)))))) | (refine' fw4 ?fa4; (case fa4 => (first | exact UpdFW.head | (refine' fw1 ?fa1; (case fa1 => (first | exact UpdFW.head))) | (refine' fw2 ?fa2; (case fa2 => (first | exact UpdFW.head | (refine' fw1 ?fa1; (case fa1 => (first | exact UpdFW.head))))))))))))) | (refine' fw8 ?fa8; (case fa8 => refine' fw8 ?fa8; (case fa8 => refine' fw8 ?fa8; (case fa8 => (first | exact UpdFW.head | (refine' fw1 ?fa1; (case fa1 => (first | exact UpdFW.head))) | (refine' fw2 ?fa2; (case fa2 => (first | exact UpdFW.head | (refine' fw1 ?fa1; (case fa1 => (first | exact UpdFW.head)))))) | (refine' fw4 ?fa4; (case fa4 => (first | exact UpdFW.head | (refine' fw1 ?fa1; (case fa1 => (first | exact UpdFW.head))) | (refine' fw2 ?fa2; (case fa2 => (first | exact UpdFW.head | (refine' fw1 ?fa1; (case fa1 => (first | exact UpdFW.head)))))))))))))) | (refine' fw8 ?fa8; (case fa8 => refine' fw8 ?fa8; (case fa8 => refine' fw8 ?fa8; (case fa8 => refine' fw8 ?fa8; (case fa8 => (first | exact UpdFW.head | (refine' fw1 ?fa1; (case fa1 => (first | exact UpdFW.head))) | (refine' fw2 ?fa2; (case fa2 => (first | exact UpdFW.head | (refine' fw1 ?fa1; (case fa1 => (first | exact UpdFW.head)))))) | (refine' fw4 ?fa4; (case fa4 => (first | exact UpdFW.head | (refine' fw1 ?fa1; (case fa1 => (first | exact UpdFW.head))) | (refine' fw2 ?fa2; (case fa2 => (first | exact UpdFW.head | (refine' fw1 ?fa1; (case fa1 => (first | exact UpdFW.head))))))))))))))) | (refine' fw8 ?fa8; (case fa8 => refine' fw8 ?fa8; (case fa8 => refine' fw8 ?fa8; (case fa8 => refine' fw8 ?fa8; (case fa8 => refine' fw8 ?fa8; (case fa8 => (first | exact UpdFW.head | (refine' fw1 ?fa1; (case fa1 => (first | exact UpdFW.head))) | (refine' fw2 ?fa2; (case fa2 => (first | exact UpdFW.head | (refine' fw1 ?fa1; (case fa1 => (first | exact UpdFW.head)))))) | (refine' fw4 ?fa4; (case fa4 => (first | exact UpdFW.head | (refine' fw1 ?fa1; (case fa1 => (first | exact UpdFW.head))) | (refine' fw2 ?fa2; (case fa2 => (first | exact UpdFW.head | (refine' fw1 ?fa1; (case fa1 => (first | exact UpdFW.head))))))))))))))))))
  (k_with "pre3|delw" => (first | exact DelW.head | (refine' dw1 ?fa1; (case fa1 => (first | exact DelW.head))) | (refine' dw2 ?fa2; (case fa2 => (first | exact DelW.head | (refine' dw1 ?fa1; (case fa1 => (first | exact DelW.head)))))) | (refine' dw4 ?fa4; (case fa4 => (first | exact DelW.head | (refine' dw1 ?fa1; (case fa1 => (first | exact DelW.head))) | (refine' dw2 ?fa2; (case fa2 => (first | exact DelW.head | (refine' dw1 ?fa1; (case fa1 => (first | exact DelW.head))))))))) | (refine' dw8 ?fa8; (case fa8 => (first | exact DelW.head | (refine' dw1 ?fa1; (case fa1 => (first | exact DelW.head))) | (refine' dw2 ?fa2; (case fa2 => (first | exact DelW.head | (refine' dw1 ?fa1; (case fa1 => (first | exact DelW.head)))))) | (refine' dw4 ?fa4; (case fa4 => (first | exact DelW.head | (refine' dw1 ?fa1; (case fa1 => (first | exact DelW.head))) | (refine' dw2 ?fa2; (case fa2 => (first | exact DelW.head | (refine' dw1 ?fa1; (case fa1 => (first | exact DelW.head)))))))))))) | (refine' dw8 ?fa8; (case fa8 => refine' dw8 ?fa8; (case fa8 => (first | exact DelW.head | (refine' dw1 ?fa1; (case fa1 => (first | exact DelW.head))) | (refine' dw2 ?fa2; (case fa2 => (first | exact DelW.head | (refine' dw1 ?fa1; (case fa1 => (first | exact DelW.head)))))) | (refine' dw4 ?fa4; (case fa4 => (first | exact DelW.head | (refine' dw1 ?fa1; (case fa1 => (first | exact DelW.head))) | (refine' dw2 ?fa2; (case fa2 => (first | exact DelW.head | (refine' dw1 ?fa1; (case fa1 => (first | exact DelW.head))))))))))))) | (refine' dw8 ?fa8; (case fa8 => refine' dw8 ?fa8; (case fa8 => refine' dw8 ?fa8; (case fa8 => (first | exact DelW.head | (refine' dw1 ?fa1; (case fa1 => (first | exact DelW.head))) | (refine' dw2 ?fa2; (case fa2 => (first | exact DelW.head | (refine' dw1 ?fa1; (case fa1 => (first | exact DelW.head)))))) | (refine' dw4 ?fa4; (case fa4 => (first | exact DelW.head | (refine' dw1 ?fa1; (case fa1 => (first | exact DelW.head))) | (refine' dw2 ?fa2; (case fa2 => (first | exact DelW.head | (refine' dw1 ?fa1; (case fa1 => (first | exact DelW.head)))))))))))))) | (refine' dw8 ?fa8; (case fa8 => refine' dw8 ?fa8; (case fa8 => refine' dw8 ?fa8; (case fa8 => refine' dw8 ?fa8; (case fa8 => (first | exact DelW.head | (refine' dw1 ?fa1; (case fa1 => (first | exact DelW.head))) | (refine' dw2 ?fa2; (case fa2 => (first | exact DelW.head | (refine' dw1 ?fa1; (case fa1 => (first | exact DelW.head)))))) | (refine' dw4 ?fa4; (case fa4 => (first | exact DelW.head | (refine' dw1 ?fa1; (case fa1 => (first | exact DelW.head))) | (refine' dw2 ?fa2; (case fa2 => (first | exact DelW.head | (refine' dw1 ?fa1; (case fa1 => (first | exact DelW.head))))))))))))))) | (refine' dw8 ?fa8; (case fa8 => refine' dw8 ?fa8; (case fa8 => refine' dw8 ?fa8; (case fa8 => refine' dw8 ?fa8; (case fa8 => refine' dw8 ?fa8; (case fa8 => (first | exact DelW.head | (refine' dw1 ?fa1; (case fa1 => (first | exact DelW.head))) | (refine' dw2 ?fa2; (case fa2 => (first | exact DelW.head | (refine' dw1 ?fa1; (case fa1 => (first | exact DelW.head)))))) | (refine' dw4 ?fa4; (case fa4 => (first | exact DelW.head | (refine' dw1 ?fa1; (case fa1 => (first | exact DelW.head))) | (refine' dw2 ?fa2; (case fa2 => (first | exact DelW.head | (refine' dw1 ?fa1; (case fa1 => (first | exact DelW.head))))))))))))))))))
  (k_with "pre3|q_at" => (first | exact ai0 | (refine' ai1 ?fa1; (case fa1 => (first | exact ai0))) | (refine' ai2 ?fa2; (case fa2 => (first | exact ai0 | (refine' ai1 ?fa1; (case fa1 => (first | exact ai0)))))) | (refine' ai4 ?fa4; (case fa4 => (first | exact ai0 | (refine' ai1 ?fa1; (case fa1 => (first | exact ai0))) | (refine' ai2 ?fa2; (case fa2 => (first | exact ai0 | (refine' ai1 ?fa1; (case fa1 => (first | exact ai0))))))))) | (refine' ai8 ?fa8; (case fa8 => (first | exact ai0 | (refine' ai1 ?fa1; (case fa1 => (first | exact ai0))) | (refine' ai2 ?fa2; (case fa2 => (first | exact ai0 | (refine' ai1 ?fa1; (case fa1 => (first | exact ai0)))))) | (refine' ai4 ?fa4; (case fa4 => (first | exact ai0 | (refine' ai1 ?fa1; (case fa1 => (first | exact ai0))) | (refine' ai2 ?fa2; (case fa2 => (first | exact ai0 | (refine' ai1 ?fa1; (case fa1 => (first | exact ai0)))))))))))) | (refine' ai8 ?fa8; (case fa8 => refine' ai8 ?fa8; (case fa8 => (first | exact ai0 | (refine' ai1 ?fa1; (case fa1 => (first | exact ai0))) | (refine' ai2 ?fa2; (case fa2 => (first | exact ai0 | (refine' ai1 ?fa1; (case fa1 => (first | exact ai0)))))) | (refine' ai4 ?fa4; (case fa4 => (first | exact ai0 | (refine' ai1 ?fa1; (case fa1 => (first | exact ai0))) | (refine' ai2 ?fa2; (case fa2 => (first | exact ai0 | (refine' ai1 ?fa1; (case fa1 => (first | exact ai0))))))))))))) | (refine' ai8 ?fa8; (case fa8 => refine' ai8 ?fa8; (case fa8 => refine' ai8 ?fa8; (case fa8 => (first | exact ai0 | (refine' ai1 ?fa1; (case fa1 => (first | exact ai0))) | (refine' ai2 ?fa2; (case fa2 => (first | exact ai0 | (refine' ai1 ?fa1; (case fa1 => (first | exact ai0)))))) | (refine' ai4 ?fa4; (case fa4 => (first | exact ai0 | (refine' ai1 ?fa1; (case fa1 => (first | exact ai0))) | (refine' ai2 ?fa2; (case fa2 => (first | exact ai0 | (refine' ai1 ?fa1; (case fa1 => (first | exact ai0)))))))))))))) | (refine' ai8 ?fa8; (case fa8 => refine' ai8 ?fa8; (case fa8 => refine' ai8 ?fa8; (case fa8 => refine' ai8 ?fa8; (case fa8 => (first | exact ai0 | (refine' ai1 ?fa1; (case fa1 => (first | exact ai0))) | (refine' ai2 ?fa2; (case fa2 => (first | exact ai0 | (refine' ai1 ?fa1; (case fa1 => (first | exact ai0)))))) | (refine' ai4 ?fa4; (case fa4 => (first | exact ai0 | (refine' ai1 ?fa1; (case fa1 => (first | exact ai0))) | (refine' ai2 ?fa2; (case fa2 => (first | exact ai0 | (refine' ai1 ?fa1; (case fa1 => (first | exact ai0))))))))))))))) | (refine' ai8 ?fa8; (case fa8 => refine' ai8 ?fa8; (case fa8 => refine' ai8 ?fa8; (case fa8 => refine' ai8 ?fa8; (case fa8 => refine' ai8 ?fa8; (case fa8 => (first | exact ai0 | (refine' ai1 ?fa1; (case fa1 => (first | exact ai0))) | (refine' ai2 ?fa2; (case fa2 => (first | exact ai0 | (refine' ai1 ?fa1; (case fa1 => (first | exact ai0)))))) | (refine' ai4 ?fa4; (case fa4 => (first | exact ai0 | (refine' ai1 ?fa1; (case fa1 => (first | exact ai0))) | (refine' ai2 ?fa2; (case fa2 => (first | exact ai0 | (refine' ai1 ?fa1; (case fa1 => (first | exact ai0))))))))))))))))))
  (k_with "pre3|q_pk" => (first | exact pk_nil | (refine' pk_cons ?pka ?pkb; (case pka => k_extra "pre3|q_at"); (case pkb => k_extra "pre3|q_pk"))))
  (k_with "pre3|q_sub" => repeat (first | exact List.Sublist.refl _ | refine' sk8 ?_ | refine' sk4 ?_ | refine' sk2 ?_ | refine' sk1 ?_ | refine' sd1 ?_))
  (k_with "pre3|q_sb" => repeat (first | exact sb_nil | refine' sb8 ?_ | refine' sb4 ?_ | refine' sb2 ?_ | refine' sb1 ?_ | (refine' sb_ch ?_ ?_; k_mem) | refine' sn1 ?_))
  (k_with "pre3|nd_ne" => first | (refine' nd_two ?ndn ?ndt; (case ndn => assumption); (case ndt => k_extra "pre3|q_two")) | fail "nd_ne")
  (k_with "pre3|nd_pick" => first | (refine' nd_pickI ?ndn ?ndt ?ndq; (case ndn => assumption); (case ndt => k_extra "pre3|q_pk"); (case ndq => exact rfl)) | fail "nd_pick")
  trivial
section
def kp_linesK : List String := ["call ref", "call builtin:sorted", "pyNext ref", "letOwnedTupleGo", "call builtin:list.sort"]
theorem setup_linesK : True := by
  (k_with "linesK|call ref" => (k_here; k_dflt (refine' call_cls ?k1 ?k2 ?k3 ?k4 ?k5 ?k6 ?_; (case k1 => k_asm); (case k2 => k_asm); (case k3 => k_asm); (case k4 => k_is); (case k5 => k_is); (case k6 => k_is); k_whole; intro zx' zd' zh' zF' zN' zl1 zl2; (try k_lt zl1); (try k_lt2 zl2); (try k_sweep); walk_at "inl")))
  (k_with "linesK|call builtin:sorted" => (k_here; (with_reducible show wpAny _ _ (call (Value.builtin "sorted") [Value.ref _]) _ _ _); k_dflt (refine' k_sorted2 ?hh ?F ?N ?hm ?hd ?lo ?_; (case hh => rfl); (case F => k_asm); (case N => k_asm); (case hm => k_mem); (case hd => assumption); (case lo => assumption); k_whole); intro zB' zh' _ _ _ zF' zN' zl1; (try k_lt zl1); (try k_sweep)))
  (k_with "linesK|pyNext ref" => (k_here; k_dflt (refine' k_nextL ?F ?N ?hm ?U ?hi ?hx ?_; (case F => k_asm); (case N => k_asm); (case hi => assumption); (case hm => k_mem); (case U => k_updF); (case hx => rfl); k_whole); intro zo' zh' zhI' zF' zN'; (try dsimp only at zN'); (try dsimp only); (try k_sweep)))
  (k_with "linesK|letOwnedTupleGo" => (k_here; k_dflt (refine k_ownedN ?_)))
  (k_with "linesK|call builtin:list.sort" => (k_here; (with_reducible show wpAny _ _ (call (Value.builtin _) [Value.ref _]) _ _ _); (with_unfolding_all refine' kas_lsort ?F ?N ?U ?e ?z ?y ?T ?t ?_; (case F => k_asm); (case N => k_asm); (case U => k_updF); (case e => kso_lit); (case z => exact Nat.le_of_ble_eq_true rfl); (case y => exact Nat.le_of_ble_eq_true rfl); (case T => (kas_look; intro ze' zh' zF' zN'; (try dsimp only at zN'); kas_types)); (case t => exact rfl); k_whole); intro ze' zh' zF' zN'; (try dsimp only at zN'); (try k_sweep)))
  trivial
local macro_rules | `(tactic| lcg_src) => `(tactic| exact ⟨_, by k_mem, rfl, _, rfl⟩)
def kp_linesC : List String := ["exec Assign cons ListComp", "TupSrc", "eval Name", "CompRest", "CompEnd"]
theorem setup_linesC : True := by
  (k_with "linesC|exec Assign cons ListComp" => (k_here; k_dflt (refine' assign_tup ?F0 ?hLe ?hsw ?hclos ?hcell ?hkind ?hnames ?hx ?hy ?hp ?_ ?hs; (case F0 => k_asm); (case hLe => rfl); (case hsw => with_unfolding_all rfl); (case hclos => rfl); (case hcell => decide); (case hkind => rfl); (case hnames => decide); (case hx => rfl); (case hy => rfl); (case hp => rfl); (case hs => intro _; rfl); k_whole)))
  (k_with "linesC|TupSrc" => (k_here; k_dflt (refine' TupSrc.mk' ?hh ?F ?N ?hm ?hn ?hz ?_; (case hh => rfl); (case F => k_asm); (case N => k_asm); (case hm => k_mem); (case hn => rfl); (case hz => exact Nat.le_of_ble_eq_true rfl)); intro zg'))
  (k_with "linesC|eval Name" => (k_here; (with_reducible show wpAny _ _ (eval (PySem.Expr.Name _ _) (compEnvC _ _ _ _)) _ _ _); k_dflt (refine' c_cell ?N ?hc ?hm ?hd ?_ ?hk ?hl ?hb; (case hc => rfl); (case N => k_asm); (case hm => k_mem); (case hd => assumption); (case hk => rfl); (case hl => rfl); (case hb => decide); k_whole)))
  (k_with "linesC|CompRest" => (with_unfolding_all (refine LCg.CompRest.succ ?_; intro zv' zI' zoI' zC' zoC' zD' zm' zh' ztk' zE' zhv' zhC' zhx' zF' zN' zoff' zne'; (first | lcg_open zhv' | (obtain ⟨t9', hv9'⟩ := zhv'; subst hv9')); (have off0 := zoff'); (try simp only [LCg.Off3, and_true] at zoff'))))
  (k_with "linesC|CompEnd" => (refine' LCg.CompEnd.intro ?F ?N ?nw ?sub ?off ?S ?_; (case off => assumption); (case F => k_asm); (case N => k_asm); (case sub => (repeat (first | exact all_nil7 | (refine all_cons7 ?_ ?_; (k_mem))))); (case S => lcg_src)))
  trivial
local macro_rules | `(tactic| walk_at "odd part") => `(tactic| skip)
local macro_rules | `(tactic| walk_at $s:str) => do
  let xs := (rowsFor [("linesC", kp_linesC), ("linesK", kp_linesK), ("pre3", kp_pre3)] s.getString).reverse
  let x :: r := xs | Lean.Macro.throwUnsupported
  let y := Lean.Syntax.mkStrLit x
  let mut t ← `(tactic| k_extra $y)
  for z in r do
    let y := Lean.Syntax.mkStrLit z
    t ← `(tactic| first | k_extra $y | ($t:tactic))
  return t
section
variable {w : World} {mean : ExcName → Option Value} {mg mb : Str → Option Value} {dp un : Nat} {gd : Option (List Code)} {cn : Str} {cs : Scope} {L a : Addr} {ccd : Value} {cl : List (Str × Addr)} {outer : List Env} {A₀ : Around} {base h₀ : Heap} {m : Str → Option Value} {s : Shared} {led : List (Addr × Obj)} {Q E : Value → Shared → Prop}


theorem primer_C7 (w : World) (h : Heap) : (Mine.hd.heap_39 w.params).In h → (PySem.Challenge.rw_pb0455_01.Holds → True) := by
  k_fill
  intros; trivial

def w4 (l : List UInt8) (i : Int) : Int := beVal (cut l (some i) (some (i + 4)))
def magic : List UInt8 := [112, 98, 106, 111, 117, 114, 110, 108]
def headOf (l : List UInt8) : Option (Int × Int × Int × Int) :=
  if l.length < 24 ∨ cut l none (some 8) ≠ magic then none
  else if 64 ≤ w4 l 20 ∧ w4 l 20 ≤ 32768 then some (w4 l 8, w4 l 12, w4 l 16, w4 l 20) else none
theorem headOf_short {l : List UInt8} (h : (l.length : Int) < 24) : headOf l = none := if_pos (.inl (by omega))
theorem headOf_magic {l : List UInt8} (h : ¬ cut l none (some 8) = magic) : headOf l = none := if_pos (.inr h)
theorem headOf_lo {l : List UInt8} (h : ¬ 64 ≤ w4 l 20) : headOf l = none := by
  unfold headOf; split
  · rfl
  · exact if_neg fun q => h q.1
theorem headOf_hi {l : List UInt8} (h : ¬ w4 l 20 ≤ 32768) : headOf l = none := by
  unfold headOf; split
  · rfl
  · exact if_neg fun q => h q.2
theorem headOf_ok {l : List UInt8} (h0 : ¬ (l.length : Int) < 24) (h1 : cut l none (some 8) = magic) (h2 : 64 ≤ w4 l 20) (h3 : w4 l 20 ≤ 32768) : headOf l = some (w4 l 8, w4 l 12, w4 l 16, w4 l 20) := by
  unfold headOf
  rw [if_neg (fun q => q.elim (fun q => h0 (by omega)) (fun q => q h1)), if_pos ⟨h2, h3⟩]

theorem lhead_k {E : Value → Shared → Prop} {Q : Value → Shared → Prop} {hp : Heap} {g : Array GenState} {dr : Drawn} {tk : Nat} {os : OsState} {news : List (Addr × Obj)} {x : List UInt8} {t1 : Tok}
    (B : Below A₀ base outer h₀) (F : Fr h₀ L hp m) (X : (Mine.hd.heap_39 w.params).In h₀) (N : News h₀ L hp news) (T : Top VW LO mean mg mb h₀) (kk : cs.kind = .function) (hd : dp + 6 < recursionLimit) (h1 : x.length ≤ 240)
    (hret : ∀ h' tk', headOf x = none → Fr h₀ L h' m → News h₀ L h' news → Q .none ⟨h', g, dr, tk', os⟩)
    (hret1 : ∀ (D : Addr) a b c d (t1 t2 t3 t4 : Tok) n h' tk', headOf x = some (a, b, c, d) → (∀ q ∈ news, q.1 ≠ D) → Fr h₀ L h' m → News h₀ L h' ((D, W.listOf #[.int a t1, .int b t2, .int c t3, .int d t4] n) :: news) → Q (.ref D) ⟨h', g, dr, tk', os⟩) :
    wpAny (model PySem.Challenge.rw_pb0455_01.row.prog w) (ktrTop dp un gd cn cs L a ccd cl outer) (call (.ref 561) [Value.bytes x.toArray t1]) Q E ⟨hp, g, dr, tk, os⟩ := by
  have S : Site w mean mg mb outer A₀ base h₀ L m cs hp [] := ⟨B, F, X, (fun _ q => nomatch q), T, kk⟩
  have hret' : ∀ (h' : Heap), Keep [] hp h' → Fr h₀ L h' m ∧ News h₀ L h' news := fun h' k => ⟨frK (as := []) F N k (fun _ q => nomatch q), keep0 N k⟩
  have F0 := F
  have N0 := N
  clear B F X N T kk
  refine wpAny_call ?_
  k_dflt (refine' enterZC (s := ⟨hp, g, dr, tk, os⟩) (led := []) (binds := [(Str.ofString "octets", Value.bytes x.toArray t1)]) ?kS ?k6 ?k7 ?k8 ?k9 ?kB ?kD ?_ ?c2 ?c3 ?c4; walk_at "cell_enterZC")
  k_steps
  all_goals rename ∀ b o, _ → _ => kK0
  all_goals rename News _ _ _ _ => kN0
  all_goals first
    | exact hret _ _ (headOf_short (by assumption)) (hret' _ (keepN (by assumption) kK0)).1 (hret' _ (keepN (by assumption) kK0)).2
    | exact hret _ _ (headOf_magic (by assumption)) (hret' _ (keepN (by assumption) kK0)).1 (hret' _ (keepN (by assumption) kK0)).2
    | exact hret _ _ (headOf_lo (by assumption)) (hret' _ (keepN (by assumption) kK0)).1 (hret' _ (keepN (by assumption) kK0)).2
    | exact hret _ _ (headOf_hi (by assumption)) (hret' _ (keepN (by assumption) kK0)).1 (hret' _ (keepN (by assumption) kK0)).2
    | exact hret1 _ _ _ _ _ _ _ _ _ _ _ _ (headOf_ok (by assumption) (by assumption) (by assumption) (by assumption)) (ne_new N0 (fresh_ret (led := []) (by assumption) kN0 (.head _) (List.not_mem_nil))) (hret' _ (keepN (by assumption) kK0)).1 (news_cons F0 (hret' _ (keepN (by assumption) kK0)).2 (kN0 _ (.head _)).1 (fresh_ret (led := []) (by assumption) kN0 (.head _) (List.not_mem_nil)))

end
end
section
def kp_lines7 : List String := ["call ref"]
theorem setup_lines7 : True := by
  (k_with "lines7|call ref" => (k_here; (with_reducible show wpAny _ _ (call (Value.ref 561) _) _ _ _); k_dflt (refine' lhead_k ?B ?F ?X ?N ?T ?kk ?hd ?h1 ?r0 ?r1; (case B => k_asm); (case F => k_asm); (case X => k_asm); (case N => k_asm); (case T => k_asm); (case kk => rfl); (case hd => ktr_room); (case h1 => walk_at "b_sz")); (case' r0 => (intro zh' _ zhh zF' zN'; (try k_sweep))); (case' r1 => (intro zD' za' zb' zc' ze' _ _ _ _ _ zh' _ zhh zl1 zF' zN'; (have hb := headOf_bd zhh); (try k_lt zl1); (try k_sweep)))))
  trivial
local macro_rules | `(tactic| walk_at $s:str) => do
  let xs := (rowsFor [("lines7", kp_lines7), ("linesK", kp_linesK), ("pre3", kp_pre3)] s.getString).reverse
  let x :: r := xs | Lean.Macro.throwUnsupported
  let y := Lean.Syntax.mkStrLit x
  let mut t ← `(tactic| k_extra $y)
  for z in r do
    let y := Lean.Syntax.mkStrLit z
    t ← `(tactic| first | k_extra $y | ($t:tactic))
  return t
section
variable {w : World} {mean : ExcName → Option Value} {mg mb : Str → Option Value} {dp un : Nat} {gd : Option (List Code)} {cn : Str} {cs : Scope} {L a : Addr} {ccd : Value} {cl : List (Str × Addr)} {outer : List Env} {A₀ : Around} {base h₀ : Heap} {m : Str → Option Value} {s : Shared} {led : List (Addr × Obj)} {Q E : Value → Shared → Prop}


theorem primer_C14 (w : World) (h : Heap) : (Mine.hd.heap_39 w.params).In h → (PySem.Challenge.rw_pb0455_01.Holds → True) := by
  k_fill
  intros; trivial

theorem beFold_bd : ∀ (l : List UInt8) (a B : Int), 0 ≤ a → a < B → 0 ≤ l.foldl (fun a c => a * 256 + (c.toNat : Int)) a ∧ l.foldl (fun a c => a * 256 + (c.toNat : Int)) a < B * 256 ^ l.length
  | [], a, B, h0, h1 => ⟨h0, by simpa using h1⟩
  | c :: r, a, B, h0, h1 => by
    have hc : c.toNat < 256 := c.toNat_lt
    obtain ⟨q1, q2⟩ := beFold_bd r (a * 256 + (c.toNat : Int)) (B * 256) (by omega) (by omega)
    refine ⟨q1, ?_⟩
    rw [List.length_cons, Int.pow_succ', ← Int.mul_assoc]
    exact q2
theorem beVal_bd {l : List UInt8} (h : l.length ≤ 4) : 0 ≤ beVal l ∧ beVal l < 4294967296 := by
  obtain ⟨q1, q2⟩ := beFold_bd l 0 1 (by decide) (by decide)
  refine ⟨q1, ?_⟩
  have q3 : beVal l < 1 * 256 ^ l.length := q2
  have q4 : ∀ n, n ≤ 4 → (1 : Int) * 256 ^ n ≤ 4294967296 := by decide
  exact Int.lt_of_lt_of_le q3 (q4 _ h)
theorem w4_bd (l : List UInt8) {i : Int} (h : 0 ≤ i) : 0 ≤ w4 l i ∧ w4 l i < 4294967296 := beVal_bd sz_cut4
theorem headOf_bd {l : List UInt8} {a b c d : Int} (h : headOf l = some (a, b, c, d)) : 0 ≤ a ∧ a < 4294967296 ∧ 0 ≤ b ∧ b < 4294967296 ∧ 0 ≤ c ∧ c < 4294967296 ∧ 64 ≤ d ∧ d ≤ 32768 ∧ 24 ≤ l.length ∧ c = w4 l 16 := by
  unfold headOf at h
  split at h
  · cases h
  · rename_i h1
    split at h
    · rename_i h2
      simp only [Option.some.injEq, Prod.mk.injEq] at h
      obtain ⟨rfl, rfl, rfl, rfl⟩ := h
      exact ⟨(w4_bd l (by decide)).1, (w4_bd l (by decide)).2, (w4_bd l (by decide)).1, (w4_bd l (by decide)).2, (w4_bd l (by decide)).1, (w4_bd l (by decide)).2, h2.1, h2.2, by
        have : ¬ l.length < 24 := fun q => h1 (.inl q)
        omega, rfl⟩
    · cases h
def hotB (l : List UInt8) : Bool := match headOf l with
  | none => false
  | some (a, _, _, d) => decide (a ≠ 4294967295) && decide (24 + a * (d + 8) ≤ (l.length : Int))
theorem hotB_none {l : List UInt8} (h : headOf l = none) : false = hotB l := by unfold hotB; rw [h]
theorem hotB_un {l : List UInt8} {a b c d : Int} (h : headOf l = some (a, b, c, d)) (e : a = 4294967296 - 1) : (a != 4294967296 - 1) = hotB l := by unfold hotB; rw [h]; subst e; simp
theorem hotB_val {l : List UInt8} {a b c d : Int} (h : headOf l = some (a, b, c, d)) (e : a ≠ 4294967296 - 1) : decide (24 + a * (d + 8) ≤ (l.length : Int)) = hotB l := by
  unfold hotB; rw [h]
  have e' : a ≠ 4294967295 := by omega
  simp [e']

theorem hot_k {E : Value → Shared → Prop} {Q : Value → Shared → Prop} {hp : Heap} {g : Array GenState} {dr : Drawn} {tk : Nat} {os : OsState} {news : List (Addr × Obj)} {x : List UInt8} {t1 : Tok}
    (B : Below A₀ base outer h₀) (F : Fr h₀ L hp m) (X : (Mine.hd.heap_39 w.params).In h₀) (N : News h₀ L hp news) (T : Top VW LO mean mg mb h₀) (kk : cs.kind = .function) (hd : dp + 10 < recursionLimit) (h1 : x.length ≤ 240)
    (hret : ∀ h' tk', Fr h₀ L h' m → News h₀ L h' news → Q (.bool (hotB x)) ⟨h', g, dr, tk', os⟩) :
    wpAny (model PySem.Challenge.rw_pb0455_01.row.prog w) (ktrTop dp un gd cn cs L a ccd cl outer) (call (.ref 568) [Value.bytes x.toArray t1]) Q E ⟨hp, g, dr, tk, os⟩ := by
  have S : Site w mean mg mb outer A₀ base h₀ L m cs hp [] := ⟨B, F, X, (fun _ q => nomatch q), T, kk⟩
  have hret' : ∀ (h' : Heap), Keep [] hp h' → Fr h₀ L h' m ∧ News h₀ L h' news := fun h' k => ⟨frK (as := []) F N k (fun _ q => nomatch q), keep0 N k⟩
  clear B F X N T kk
  refine wpAny_call ?_
  k_dflt (refine' enterZ (s := ⟨hp, g, dr, tk, os⟩) (led := []) (binds := [(Str.ofString "octets", Value.bytes x.toArray t1)]) ?kS ?k6 ?k7 ?k8 ?k9 ?kB ?_ ?c2 ?c3 ?c4 ?c5; walk_at "cell_enterZ")
  k_steps
  all_goals rename ∀ b o, _ → _ => kK0
  all_goals first
    | (rw [hotB_none (l := x) (by assumption)]; exact hret _ _ (hret' _ (keepN (by assumption) kK0)).1 (hret' _ (keepN (by assumption) kK0)).2)
    | (rw [hotB_un (l := x) (by assumption) (by assumption)]; exact hret _ _ (hret' _ (keepN (by assumption) kK0)).1 (hret' _ (keepN (by assumption) kK0)).2)
    | (rw [hotB_val (l := x) (by assumption) (by assumption)]; exact hret _ _ (hret' _ (keepN (by assumption) kK0)).1 (hret' _ (keepN (by assumption) kK0)).2)

end
end
section
local macro_rules | `(tactic| walk_at "odd part") => `(tactic| skip)
local macro_rules | `(tactic| walk_at $s:str) => do
  let xs := (rowsFor [("linesK", kp_linesK), ("lines3", kp_lines3), ("lines2", kp_lines2), ("pre3", kp_pre3)] s.getString).reverse
  let x :: r := xs | Lean.Macro.throwUnsupported
  let y := Lean.Syntax.mkStrLit x
  let mut t ← `(tactic| k_extra $y)
  for z in r do
    let y := Lean.Syntax.mkStrLit z
    t ← `(tactic| first | k_extra $y | ($t:tactic))
  return t
section
variable {w : World} {mean : ExcName → Option Value} {mg mb : Str → Option Value} {dp un : Nat} {gd : Option (List Code)} {cn : Str} {cs : Scope} {L a : Addr} {ccd : Value} {cl : List (Str × Addr)} {outer : List Env} {A₀ : Around} {base h₀ : Heap} {m : Str → Option Value} {s : Shared} {led : List (Addr × Obj)} {Q E : Value → Shared → Prop}


theorem primer_C15 (w : World) (h : Heap) : (Mine.hd.heap_39 w.params).In h → (PySem.Challenge.rw_pb0455_01.Holds → True) := by
  k_fill
  intros; trivial

theorem len24 {x : List UInt8} : (cut x (some 0) (some (0 + 24))).length = min 24 x.length := by
  unfold cut; simp
theorem cut24_8 {x : List UInt8} : cut (cut x (some 0) (some (0 + 24))) none (some 8) = cut x none (some 8) := by
  unfold cut; simp [List.take_take]
theorem w4_24 {x : List UInt8} {i : Int} (h0 : 0 ≤ i) (h1 : i ≤ 20) : w4 (cut x (some 0) (some (0 + 24))) i = w4 x i := by
  unfold w4 cut
  congr 1
  simp only [Option.elim]
  apply List.ext_getElem?
  intro n
  simp only [List.getElem?_take, List.getElem?_drop]
  by_cases hn : n < (i + 4).toNat - i.toNat
  · rw [if_pos hn, if_pos hn, if_pos (show i.toNat + n < (0 + 24 : Int).toNat - (0 : Int).toNat by simp; omega)]
    simp
  · rw [if_neg hn, if_neg hn]
theorem headJ_short {x : List UInt8} (h : ((cut x (some 0) (some (0 + 24))).length : Int) < 24) : headOf x = none := headOf_short (by rw [len24] at h; omega)
theorem headJ_magic {x : List UInt8} (h : ¬ cut (cut x (some 0) (some (0 + 24))) none (some 8) = magic) : headOf x = none := headOf_magic (by rwa [cut24_8] at h)
theorem headJ_size {x : List UInt8} (h : (decide (64 ≤ w4 (cut x (some 0) (some (0 + 24))) 20) && decide (w4 (cut x (some 0) (some (0 + 24))) 20 ≤ 32768)) = false) : headOf x = none := by
  rw [w4_24 (by decide) (by decide)] at h
  unfold headOf; split
  · rfl
  · exact if_neg fun q => by simp [q.1, q.2] at h
theorem headJ_ok {x : List UInt8} (h0 : ¬ ((cut x (some 0) (some (0 + 24))).length : Int) < 24) (h1 : cut (cut x (some 0) (some (0 + 24))) none (some 8) = magic)
    (h : (decide (64 ≤ w4 (cut x (some 0) (some (0 + 24))) 20) && decide (w4 (cut x (some 0) (some (0 + 24))) 20 ≤ 32768)) = true) :
    headOf x = some (w4 (cut x (some 0) (some (0 + 24))) 8, w4 (cut x (some 0) (some (0 + 24))) 12, w4 (cut x (some 0) (some (0 + 24))) 16, w4 (cut x (some 0) (some (0 + 24))) 20) := by
  rw [w4_24 (by decide) (by decide), w4_24 (by decide) (by decide), w4_24 (by decide) (by decide)]
  rw [w4_24 (by decide) (by decide)] at h ⊢
  simp only [Bool.and_eq_true, decide_eq_true_eq] at h
  exact headOf_ok (by rw [len24] at h0; omega) (by rwa [cut24_8] at h1) h.1 h.2

theorem rhead_k {E : Value → Shared → Prop} {Q : Value → Shared → Prop} {hp : Heap} {g : Array GenState} {dr : Drawn} {tk : Nat} {os : OsState} {news : List (Addr × Obj)} {jn jx dk dd fs sh lk f j jd pj nj : Addr} {ofs : Obj} {st : Int} {x : List UInt8} {q1 q2 q3 q4 q5 q6 q7 b1 b2 b3 b4 b5 t5 t6 t9 t10 g1 g2 g3 g4 g5 g6 gt2 gt3 gt4 gt5 gt6 : Tok}
    (B : Below A₀ base outer h₀) (F : Fr h₀ L hp m) (X : (Mine.hd.heap_39 w.params).In h₀) (N : News h₀ L hp news) (T' : Top VW LO mean mg mb h₀) (kk : cs.kind = .function) (hd : dp + 12 < recursionLimit) (m0 : (jn, instObj 185 jx) ∈ news) (m1 : (jx, dictOf [{ hash := PyData.keyHash w.params (Str.ofString "disk"), key := Value.str (Str.ofString "disk") g1, val := Value.ref dk }, { hash := PyData.keyHash w.params (Str.ofString "name"), key := Value.str (Str.ofString "name") g2, val := Value.str (Str.ofString "db-journal") gt2 }, { hash := PyData.keyHash w.params (Str.ofString "page_size"), key := Value.str (Str.ofString "page_size") g3, val := Value.int 64 gt3 }, { hash := PyData.keyHash w.params (Str.ofString "nonce"), key := Value.str (Str.ofString "nonce") g4, val := Value.int 0 gt4 }, { hash := PyData.keyHash w.params (Str.ofString "count"), key := Value.str (Str.ofString "count") g5, val := Value.int 0 gt5 }, { hash := PyData.keyHash w.params (Str.ofString "safe"), key := Value.str (Str.ofString "safe") g6, val := Value.int 4294967295 gt6 }] 6) ∈ news) (m2 : (dk, instObj 489 dd) ∈ news) (m3 : (dd, dictOf [{ hash := PyData.keyHash w.params (Str.ofString "sector"), key := Value.str (Str.ofString "sector") q1, val := Value.int 8 t5 }, { hash := PyData.keyHash w.params (Str.ofString "room"), key := Value.str (Str.ofString "room") q2, val := Value.none }, { hash := PyData.keyHash w.params (Str.ofString "files"), key := Value.str (Str.ofString "files") q3, val := Value.ref fs }, { hash := PyData.keyHash w.params (Str.ofString "steps"), key := Value.str (Str.ofString "steps") q4, val := Value.int st t6 }, { hash := PyData.keyHash w.params (Str.ofString "crash_at"), key := Value.str (Str.ofString "crash_at") q5, val := Value.none }, { hash := PyData.keyHash w.params (Str.ofString "shared"), key := Value.str (Str.ofString "shared") q6, val := Value.ref sh }, { hash := PyData.keyHash w.params (Str.ofString "locks"), key := Value.str (Str.ofString "locks") q7, val := Value.ref lk }] 7) ∈ news) (m4 : (fs, ofs) ∈ news) (m5 : (j, instObj 390 jd) ∈ news) (m6 : (jd, dictOf [{ hash := PyData.keyHash w.params (Str.ofString "disk"), key := Value.str (Str.ofString "disk") b1, val := Value.ref dk }, { hash := PyData.keyHash w.params (Str.ofString "name"), key := Value.str (Str.ofString "name") b2, val := Value.str (Str.ofString "db-journal") t9 }, { hash := PyData.keyHash w.params (Str.ofString "synced"), key := Value.str (Str.ofString "synced") b3, val := Value.bytes #[] t10 }, { hash := PyData.keyHash w.params (Str.ofString "pending"), key := Value.str (Str.ofString "pending") b4, val := Value.ref pj }, { hash := PyData.keyHash w.params (Str.ofString "now"), key := Value.str (Str.ofString "now") b5, val := Value.ref nj }] 5) ∈ news) (m7 : (nj, baObj x) ∈ news) (h2 : x.length ≤ 4194304) (nd0 : NdA [jn, jx, dk, dd, fs, j, jd, nj]) (lo : (fs == sysModules) = false) (hfs : ofs.IsDictOf (PySem.strKind PG w) [(Str.ofString "db", .ref f), (Str.ofString "db-journal", .ref j)])
    (hret : ∀ h' tk', headOf x = none → Fr h₀ L h' m → News h₀ L h' news → Q .none ⟨h', g, dr, tk', os⟩)
    (hret1 : ∀ (D : Addr) a b c d (t1 t2 t3 t4 : Tok) h' tk', headOf x = some (a, b, c, d) → (∀ q ∈ news, q.1 ≠ D) → Fr h₀ L h' m → News h₀ L h' ((D, { cls := Value.type "tuple", data := Data.seq #[.int a t1, .int b t2, .int c t3, .int d t4] }) :: news) → Q (.ref D) ⟨h', g, dr, tk', os⟩) :
    wpAny (model PySem.Challenge.rw_pb0455_01.row.prog w) (ktrTop dp un gd cn cs L a ccd cl outer) (call (.ref 161) [.ref jn]) Q E ⟨hp, g, dr, tk, os⟩ := by
  let e_jx : List DictEntry := [{ hash := PyData.keyHash w.params (Str.ofString "disk"), key := Value.str (Str.ofString "disk") g1, val := Value.ref dk }, { hash := PyData.keyHash w.params (Str.ofString "name"), key := Value.str (Str.ofString "name") g2, val := Value.str (Str.ofString "db-journal") gt2 }, { hash := PyData.keyHash w.params (Str.ofString "page_size"), key := Value.str (Str.ofString "page_size") g3, val := Value.int 64 gt3 }, { hash := PyData.keyHash w.params (Str.ofString "nonce"), key := Value.str (Str.ofString "nonce") g4, val := Value.int 0 gt4 }, { hash := PyData.keyHash w.params (Str.ofString "count"), key := Value.str (Str.ofString "count") g5, val := Value.int 0 gt5 }, { hash := PyData.keyHash w.params (Str.ofString "safe"), key := Value.str (Str.ofString "safe") g6, val := Value.int 4294967295 gt6 }]
  let e_dd : List DictEntry := [{ hash := PyData.keyHash w.params (Str.ofString "sector"), key := Value.str (Str.ofString "sector") q1, val := Value.int 8 t5 }, { hash := PyData.keyHash w.params (Str.ofString "room"), key := Value.str (Str.ofString "room") q2, val := Value.none }, { hash := PyData.keyHash w.params (Str.ofString "files"), key := Value.str (Str.ofString "files") q3, val := Value.ref fs }, { hash := PyData.keyHash w.params (Str.ofString "steps"), key := Value.str (Str.ofString "steps") q4, val := Value.int st t6 }, { hash := PyData.keyHash w.params (Str.ofString "crash_at"), key := Value.str (Str.ofString "crash_at") q5, val := Value.none }, { hash := PyData.keyHash w.params (Str.ofString "shared"), key := Value.str (Str.ofString "shared") q6, val := Value.ref sh }, { hash := PyData.keyHash w.params (Str.ofString "locks"), key := Value.str (Str.ofString "locks") q7, val := Value.ref lk }]
  let e_jd : List DictEntry := [{ hash := PyData.keyHash w.params (Str.ofString "disk"), key := Value.str (Str.ofString "disk") b1, val := Value.ref dk }, { hash := PyData.keyHash w.params (Str.ofString "name"), key := Value.str (Str.ofString "name") b2, val := Value.str (Str.ofString "db-journal") t9 }, { hash := PyData.keyHash w.params (Str.ofString "synced"), key := Value.str (Str.ofString "synced") b3, val := Value.bytes #[] t10 }, { hash := PyData.keyHash w.params (Str.ofString "pending"), key := Value.str (Str.ofString "pending") b4, val := Value.ref pj }, { hash := PyData.keyHash w.params (Str.ofString "now"), key := Value.str (Str.ofString "now") b5, val := Value.ref nj }]
  have S : Site w mean mg mb outer A₀ base h₀ L m cs hp [(jn, instObj 185 jx), (jx, dictOf e_jx 6), (dk, instObj 489 dd), (dd, dictOf e_dd 7), (fs, ofs), (j, instObj 390 jd), (jd, dictOf e_jd 5), (nj, baObj x)] := ⟨B, F, X, (ns_cons N m0 (ns_cons N m1 (ns_cons N m2 (ns_cons N m3 (ns_cons N m4 (ns_cons N m5 (ns_cons N m6 (ns_cons N m7 ns_nil)))))))), T', kk⟩
  have F0 := F
  have N0 := N
  have znd := nd0
  clear B F X N T' kk nd0
  refine wpAny_call ?_
  k_dflt (refine' enterZ (s := ⟨hp, g, dr, tk, os⟩) (led := [(jn, instObj 185 jx), (jx, dictOf e_jx 6), (dk, instObj 489 dd), (dd, dictOf e_dd 7), (fs, ofs), (j, instObj 390 jd), (jd, dictOf e_jd 5), (nj, baObj x)]) (binds := [(Str.ofString "self", .ref jn)]) ?kS ?k6 ?k7 ?k8 ?k9 ?kB ?_ ?c2 ?c3 ?c4 ?c5; walk_at "cell_enterZ")
  rename ∀ b o, _ → b ∉ List.map _ _ → _ => kg0
  k_steps
  all_goals rename ∀ b o, _ → _ => kK0
  all_goals rename News _ _ _ _ => kN0
  all_goals have kq := (keep_led (ch := []) kg0 kK0 S.N kN0 (by walk_at "q_sb"))
  all_goals first
    | exact hret _ _ (headJ_short (by assumption)) (frK (as := []) F0 N0 kq (fun _ q => nomatch q)) (keep0 N0 kq)
    | exact hret _ _ (headJ_magic (by assumption)) (frK (as := []) F0 N0 kq (fun _ q => nomatch q)) (keep0 N0 kq)
    | exact hret _ _ (headJ_size (by assumption)) (frK (as := []) F0 N0 kq (fun _ q => nomatch q)) (keep0 N0 kq)
    | (refine' hret1 _ _ _ _ _ _ _ _ _ _ _ (headJ_ok (by assumption) (by assumption) (by assumption)) (ne_new N0 ?h1) (frK (as := []) F0 N0 kq (fun _ q => nomatch q)) (news_cons F0 (keep0 N0 kq) ?e1 ?h1); (case e1 => exact News.get kN0 (by k_mem)); (case h1 => exact fresh_in kg0 kN0 (by k_mem) znd (as := [jn, jx, dk, dd, fs, j, jd, nj]) rfl (by walk_at "q_sub")))

end
end
section
def kp_lines15 : List String := ["call ref"]
theorem setup_lines15 : True := by
  (k_with "lines15|call ref" => (k_here; (with_reducible show wpAny _ _ (call (Value.ref 161) _) _ _ _); k_dflt (refine' rhead_k ?B ?F ?X ?N ?T ?kk ?hd ?m0 ?m1 ?m2 ?m3 ?m4 ?m5 ?m6 ?m7 ?h2 ?nd0 ?lo ?hfs ?r0 ?r1; (case B => k_asm); (case F => k_asm); (case X => k_asm); (case N => k_asm); (case T => k_asm); (case kk => rfl); (case hd => ktr_room); (case m0 => k_mem); (case m1 => k_mem); (case m2 => k_mem); (case m3 => k_mem); (case m4 => k_mem); (case m5 => k_mem); (case m6 => k_mem); (case m7 => k_mem); (case h2 => walk_at "b_sz"); (case nd0 => walk_at "nd_pick"); (case lo => assumption); (case hfs => assumption)); (case' r0 => (intro zh' _ zhh zF' zN'; (try k_sweep))); (case' r1 => (intro zD' za' zb' zc' ze' _ _ _ _ zh' _ zhh zl1 zF' zN'; (have hb := headOf_bd zhh); (try k_lt zl1); (try k_sweep)))))
  trivial
local macro_rules | `(tactic| walk_at $s:str) => do
  let xs := (rowsFor [("lines15", kp_lines15), ("linesK", kp_linesK), ("lines2", kp_lines2), ("pre3", kp_pre3)] s.getString).reverse
  let x :: r := xs | Lean.Macro.throwUnsupported
  let y := Lean.Syntax.mkStrLit x
  let mut t ← `(tactic| k_extra $y)
  for z in r do
    let y := Lean.Syntax.mkStrLit z
    t ← `(tactic| first | k_extra $y | ($t:tactic))
  return t
section
variable {w : World} {mean : ExcName → Option Value} {mg mb : Str → Option Value} {dp un : Nat} {gd : Option (List Code)} {cn : Str} {cs : Scope} {L a : Addr} {ccd : Value} {cl : List (Str × Addr)} {outer : List Env} {A₀ : Around} {base h₀ : Heap} {m : Str → Option Value} {s : Shared} {led : List (Addr × Obj)} {Q E : Value → Shared → Prop}


theorem primer_C16 (w : World) (h : Heap) : (Mine.hd.heap_39 w.params).In h → (PySem.Challenge.rw_pb0455_01.Holds → True) := by
  k_fill
  intros; trivial

theorem hotJ_un {l : List UInt8} {a b c d : Int} (h : headOf l = some (a, b, c, d)) (e : a = 4294967295) : false = hotB l := by unfold hotB; rw [h]; subst e; simp
theorem hotJ_val {l : List UInt8} {a b c d : Int} (h : headOf l = some (a, b, c, d)) (e : ¬ a = 4294967295) : decide (24 + a * (d + 8) ≤ (l.length : Int)) = hotB l := by
  unfold hotB; rw [h]; simp [e]

theorem ishot_k {E : Value → Shared → Prop} {Q : Value → Shared → Prop} {hp : Heap} {g : Array GenState} {dr : Drawn} {tk : Nat} {os : OsState} {news : List (Addr × Obj)} {jn jx dk dd fs sh lk f j jd pj nj : Addr} {ofs : Obj} {st : Int} {x : List UInt8} {q1 q2 q3 q4 q5 q6 q7 b1 b2 b3 b4 b5 t5 t6 t9 t10 g1 g2 g3 g4 g5 g6 gt2 gt3 gt4 gt5 gt6 : Tok}
    (B : Below A₀ base outer h₀) (F : Fr h₀ L hp m) (X : (Mine.hd.heap_39 w.params).In h₀) (N : News h₀ L hp news) (T' : Top VW LO mean mg mb h₀) (kk : cs.kind = .function) (hd : dp + 16 < recursionLimit) (m0 : (jn, instObj 185 jx) ∈ news) (m1 : (jx, dictOf [{ hash := PyData.keyHash w.params (Str.ofString "disk"), key := Value.str (Str.ofString "disk") g1, val := Value.ref dk }, { hash := PyData.keyHash w.params (Str.ofString "name"), key := Value.str (Str.ofString "name") g2, val := Value.str (Str.ofString "db-journal") gt2 }, { hash := PyData.keyHash w.params (Str.ofString "page_size"), key := Value.str (Str.ofString "page_size") g3, val := Value.int 64 gt3 }, { hash := PyData.keyHash w.params (Str.ofString "nonce"), key := Value.str (Str.ofString "nonce") g4, val := Value.int 0 gt4 }, { hash := PyData.keyHash w.params (Str.ofString "count"), key := Value.str (Str.ofString "count") g5, val := Value.int 0 gt5 }, { hash := PyData.keyHash w.params (Str.ofString "safe"), key := Value.str (Str.ofString "safe") g6, val := Value.int 4294967295 gt6 }] 6) ∈ news) (m2 : (dk, instObj 489 dd) ∈ news) (m3 : (dd, dictOf [{ hash := PyData.keyHash w.params (Str.ofString "sector"), key := Value.str (Str.ofString "sector") q1, val := Value.int 8 t5 }, { hash := PyData.keyHash w.params (Str.ofString "room"), key := Value.str (Str.ofString "room") q2, val := Value.none }, { hash := PyData.keyHash w.params (Str.ofString "files"), key := Value.str (Str.ofString "files") q3, val := Value.ref fs }, { hash := PyData.keyHash w.params (Str.ofString "steps"), key := Value.str (Str.ofString "steps") q4, val := Value.int st t6 }, { hash := PyData.keyHash w.params (Str.ofString "crash_at"), key := Value.str (Str.ofString "crash_at") q5, val := Value.none }, { hash := PyData.keyHash w.params (Str.ofString "shared"), key := Value.str (Str.ofString "shared") q6, val := Value.ref sh }, { hash := PyData.keyHash w.params (Str.ofString "locks"), key := Value.str (Str.ofString "locks") q7, val := Value.ref lk }] 7) ∈ news) (m4 : (fs, ofs) ∈ news) (m5 : (j, instObj 390 jd) ∈ news) (m6 : (jd, dictOf [{ hash := PyData.keyHash w.params (Str.ofString "disk"), key := Value.str (Str.ofString "disk") b1, val := Value.ref dk }, { hash := PyData.keyHash w.params (Str.ofString "name"), key := Value.str (Str.ofString "name") b2, val := Value.str (Str.ofString "db-journal") t9 }, { hash := PyData.keyHash w.params (Str.ofString "synced"), key := Value.str (Str.ofString "synced") b3, val := Value.bytes #[] t10 }, { hash := PyData.keyHash w.params (Str.ofString "pending"), key := Value.str (Str.ofString "pending") b4, val := Value.ref pj }, { hash := PyData.keyHash w.params (Str.ofString "now"), key := Value.str (Str.ofString "now") b5, val := Value.ref nj }] 5) ∈ news) (m7 : (nj, baObj x) ∈ news) (h2 : x.length ≤ 4194304) (nd0 : NdA [jn, jx, dk, dd, fs, j, jd, nj]) (lo : (fs == sysModules) = false) (hfs : ofs.IsDictOf (PySem.strKind PG w) [(Str.ofString "db", .ref f), (Str.ofString "db-journal", .ref j)])
    (hret : ∀ h' tk', Fr h₀ L h' m → News h₀ L h' news → Q (.bool (hotB x)) ⟨h', g, dr, tk', os⟩) :
    wpAny (model PySem.Challenge.rw_pb0455_01.row.prog w) (ktrTop dp un gd cn cs L a ccd cl outer) (call (.ref 168) [.ref jn]) Q E ⟨hp, g, dr, tk, os⟩ := by
  let e_jx : List DictEntry := [{ hash := PyData.keyHash w.params (Str.ofString "disk"), key := Value.str (Str.ofString "disk") g1, val := Value.ref dk }, { hash := PyData.keyHash w.params (Str.ofString "name"), key := Value.str (Str.ofString "name") g2, val := Value.str (Str.ofString "db-journal") gt2 }, { hash := PyData.keyHash w.params (Str.ofString "page_size"), key := Value.str (Str.ofString "page_size") g3, val := Value.int 64 gt3 }, { hash := PyData.keyHash w.params (Str.ofString "nonce"), key := Value.str (Str.ofString "nonce") g4, val := Value.int 0 gt4 }, { hash := PyData.keyHash w.params (Str.ofString "count"), key := Value.str (Str.ofString "count") g5, val := Value.int 0 gt5 }, { hash := PyData.keyHash w.params (Str.ofString "safe"), key := Value.str (Str.ofString "safe") g6, val := Value.int 4294967295 gt6 }]
  let e_dd : List DictEntry := [{ hash := PyData.keyHash w.params (Str.ofString "sector"), key := Value.str (Str.ofString "sector") q1, val := Value.int 8 t5 }, { hash := PyData.keyHash w.params (Str.ofString "room"), key := Value.str (Str.ofString "room") q2, val := Value.none }, { hash := PyData.keyHash w.params (Str.ofString "files"), key := Value.str (Str.ofString "files") q3, val := Value.ref fs }, { hash := PyData.keyHash w.params (Str.ofString "steps"), key := Value.str (Str.ofString "steps") q4, val := Value.int st t6 }, { hash := PyData.keyHash w.params (Str.ofString "crash_at"), key := Value.str (Str.ofString "crash_at") q5, val := Value.none }, { hash := PyData.keyHash w.params (Str.ofString "shared"), key := Value.str (Str.ofString "shared") q6, val := Value.ref sh }, { hash := PyData.keyHash w.params (Str.ofString "locks"), key := Value.str (Str.ofString "locks") q7, val := Value.ref lk }]
  let e_jd : List DictEntry := [{ hash := PyData.keyHash w.params (Str.ofString "disk"), key := Value.str (Str.ofString "disk") b1, val := Value.ref dk }, { hash := PyData.keyHash w.params (Str.ofString "name"), key := Value.str (Str.ofString "name") b2, val := Value.str (Str.ofString "db-journal") t9 }, { hash := PyData.keyHash w.params (Str.ofString "synced"), key := Value.str (Str.ofString "synced") b3, val := Value.bytes #[] t10 }, { hash := PyData.keyHash w.params (Str.ofString "pending"), key := Value.str (Str.ofString "pending") b4, val := Value.ref pj }, { hash := PyData.keyHash w.params (Str.ofString "now"), key := Value.str (Str.ofString "now") b5, val := Value.ref nj }]
  have S : Site w mean mg mb outer A₀ base h₀ L m cs hp [(jn, instObj 185 jx), (jx, dictOf e_jx 6), (dk, instObj 489 dd), (dd, dictOf e_dd 7), (fs, ofs), (j, instObj 390 jd), (jd, dictOf e_jd 5), (nj, baObj x)] := ⟨B, F, X, (ns_cons N m0 (ns_cons N m1 (ns_cons N m2 (ns_cons N m3 (ns_cons N m4 (ns_cons N m5 (ns_cons N m6 (ns_cons N m7 ns_nil)))))))), T', kk⟩
  have F0 := F
  have N0 := N
  have znd := nd0
  clear B F X N T' kk nd0
  refine wpAny_call ?_
  k_dflt (refine' enterZ (s := ⟨hp, g, dr, tk, os⟩) (led := [(jn, instObj 185 jx), (jx, dictOf e_jx 6), (dk, instObj 489 dd), (dd, dictOf e_dd 7), (fs, ofs), (j, instObj 390 jd), (jd, dictOf e_jd 5), (nj, baObj x)]) (binds := [(Str.ofString "self", .ref jn)]) ?kS ?k6 ?k7 ?k8 ?k9 ?kB ?_ ?c2 ?c3 ?c4 ?c5; walk_at "cell_enterZ")
  rename ∀ b o, _ → b ∉ List.map _ _ → _ => kg0
  k_steps
  all_goals rename ∀ b o, _ → _ => kK0
  all_goals rename News _ _ _ _ => kN0
  all_goals have kq := (keep_led (ch := []) kg0 kK0 S.N kN0 (by walk_at "q_sb"))
  all_goals first
    | (rw [hotB_none (l := x) (by assumption)]; exact hret _ _ (frK (as := []) F0 N0 kq (fun _ q => nomatch q)) (keep0 N0 kq))
    | (rw [hotJ_un (l := x) (by assumption) (by assumption)]; exact hret _ _ (frK (as := []) F0 N0 kq (fun _ q => nomatch q)) (keep0 N0 kq))
    | (rw [hotJ_val (l := x) (by assumption) (by assumption)]; exact hret _ _ (frK (as := []) F0 N0 kq (fun _ q => nomatch q)) (keep0 N0 kq))

end
end
section
def kp_lines8 : List String := ["wpC"]
theorem setup_lines8 : True := by
  (k_with "lines8|wpC" => (k_here; (with_reducible show wpC _ _ (call (Value.ref 390) _) _ _ _); k_dflt (refine' mkfile_k ?B ?F ?X ?N ?T ?kk ?hd ?_; (case B => k_asm); (case F => k_asm); (case X => k_asm); (case N => k_asm); (case T => k_asm); (case kk => rfl); (case hd => ktr_room); k_whole); intro zf' zfd' zp' zn' _ _ _ _ _ _ zh' _ zl1 zl2 zl3 zl4 zF' zN'; (first | (replace znd := nd4lt zl1 zl2 zl3 zl4 znd rfl; clear zl1 zl2 zl3 zl4) | (try k_lt zl1)); (try k_sweep)))
  trivial
local macro_rules | `(tactic| walk_at "odd part") => `(tactic| skip)
local macro_rules | `(tactic| walk_at $s:str) => do
  let xs := (rowsFor [("lines8", kp_lines8), ("lines2", kp_lines2), ("pre3", kp_pre3)] s.getString).reverse
  let x :: r := xs | Lean.Macro.throwUnsupported
  let y := Lean.Syntax.mkStrLit x
  let mut t ← `(tactic| k_extra $y)
  for z in r do
    let y := Lean.Syntax.mkStrLit z
    t ← `(tactic| first | k_extra $y | ($t:tactic))
  return t
section
variable {w : World} {mean : ExcName → Option Value} {mg mb : Str → Option Value} {dp un : Nat} {gd : Option (List Code)} {cn : Str} {cs : Scope} {L a : Addr} {ccd : Value} {cl : List (Str × Addr)} {outer : List Env} {A₀ : Around} {base h₀ : Heap} {m : Str → Option Value} {s : Shared} {led : List (Addr × Obj)} {Q E : Value → Shared → Prop}


theorem primer_C9 (w : World) (h : Heap) : (Mine.hd.heap_39 w.params).In h → (PySem.Challenge.rw_pb0455_01.Holds → True) := by
  k_fill
  intros; trivial

theorem open_db {E : Value → Shared → Prop} {Q : Value → Shared → Prop} {hp : Heap} {g : Array GenState} {dr : Drawn} {tk : Nat} {os : OsState} {news : List (Addr × Obj)} {news' : Obj → List (Addr × Obj)} {dk dd fs sh lk : Addr} {ofs : Obj} {sec st : Int} {q1 q2 q3 q4 q5 q6 q7 t1 t5 t6 : Tok} 
    (B : Below A₀ base outer h₀) (F : Fr h₀ L hp m) (X : (Mine.hd.heap_39 w.params).In h₀) (N : News h₀ L hp news) (T : Top VW LO mean mg mb h₀) (kk : cs.kind = .function) (hd : dp + 12 < recursionLimit) (m1 : (dk, instObj 489 dd) ∈ news) (m2 : (dd, dictOf [{ hash := PyData.keyHash w.params (Str.ofString "sector"), key := Value.str (Str.ofString "sector") q1, val := Value.int sec t5 }, { hash := PyData.keyHash w.params (Str.ofString "room"), key := Value.str (Str.ofString "room") q2, val := Value.none }, { hash := PyData.keyHash w.params (Str.ofString "files"), key := Value.str (Str.ofString "files") q3, val := Value.ref fs }, { hash := PyData.keyHash w.params (Str.ofString "steps"), key := Value.str (Str.ofString "steps") q4, val := Value.int st t6 }, { hash := PyData.keyHash w.params (Str.ofString "crash_at"), key := Value.str (Str.ofString "crash_at") q5, val := Value.none }, { hash := PyData.keyHash w.params (Str.ofString "shared"), key := Value.str (Str.ofString "shared") q6, val := Value.ref sh }, { hash := PyData.keyHash w.params (Str.ofString "locks"), key := Value.str (Str.ofString "locks") q7, val := Value.ref lk }] 7) ∈ news) (U : UpdF fs ofs news news') (nd0 : NdA [dk, dd, fs]) (lo : (fs == sysModules) = false)
    (hfs : ofs.IsDictOf (PySem.strKind PG w) [])
    (hret : ∀ (f fd p n : Addr) (ofs' : Obj) (k1 k2 k3 k4 k5 t2 t7 : Tok) h' tk', (∀ Lx, NdA Lx → news.map (·.1) = Lx → NdA (n :: p :: f :: fd :: Lx)) →
      ofs'.IsDictOf (PySem.strKind PG w) ([] ++ [(Str.ofString "db", .ref f)]) → Fr h₀ L h' m → News h₀ L h' ((n, baObj []) :: (p, W.listOf #[] 0) :: (f, instObj 390 fd) :: (fd, dictOf [{ hash := PyData.keyHash w.params (Str.ofString "disk"), key := Value.str (Str.ofString "disk") k1, val := Value.ref dk }, { hash := PyData.keyHash w.params (Str.ofString "name"), key := Value.str (Str.ofString "name") k2, val := Value.str (Str.ofString "db") t7 }, { hash := PyData.keyHash w.params (Str.ofString "synced"), key := Value.str (Str.ofString "synced") k3, val := Value.bytes #[] t2 }, { hash := PyData.keyHash w.params (Str.ofString "pending"), key := Value.str (Str.ofString "pending") k4, val := Value.ref p }, { hash := PyData.keyHash w.params (Str.ofString "now"), key := Value.str (Str.ofString "now") k5, val := Value.ref n }] 5) :: news' ofs') → Q (.ref f) ⟨h', g, dr, tk', os⟩) :
    wpC (model PySem.Challenge.rw_pb0455_01.row.prog w) (ktrTop dp un gd cn cs L a ccd cl outer) (call (.ref 465) [.ref dk, .str (Str.ofString "db") t1]) Q E ⟨hp, g, dr, tk, os⟩ := by
  let e_dd : List DictEntry := [{ hash := PyData.keyHash w.params (Str.ofString "sector"), key := Value.str (Str.ofString "sector") q1, val := Value.int sec t5 }, { hash := PyData.keyHash w.params (Str.ofString "room"), key := Value.str (Str.ofString "room") q2, val := Value.none }, { hash := PyData.keyHash w.params (Str.ofString "files"), key := Value.str (Str.ofString "files") q3, val := Value.ref fs }, { hash := PyData.keyHash w.params (Str.ofString "steps"), key := Value.str (Str.ofString "steps") q4, val := Value.int st t6 }, { hash := PyData.keyHash w.params (Str.ofString "crash_at"), key := Value.str (Str.ofString "crash_at") q5, val := Value.none }, { hash := PyData.keyHash w.params (Str.ofString "shared"), key := Value.str (Str.ofString "shared") q6, val := Value.ref sh }, { hash := PyData.keyHash w.params (Str.ofString "locks"), key := Value.str (Str.ofString "locks") q7, val := Value.ref lk }]
  have S : Site w mean mg mb outer A₀ base h₀ L m cs hp [(dk, instObj 489 dd), (dd, dictOf e_dd 7), (fs, ofs)] := ⟨B, F, X, (ns_cons N m1 (ns_cons N m2 (ns_cons N (updF_mem U) ns_nil))), T, kk⟩
  have F0 := F
  have N0 := N
  have znd := nd0
  clear B F X N T kk nd0
  refine wpC_call ?_
  k_dflt (refine' enterC (s := ⟨hp, g, dr, tk, os⟩) (led := [(dk, instObj 489 dd), (dd, dictOf e_dd 7), (fs, ofs)]) (binds := [(Str.ofString "self", .ref dk), (Str.ofString "name", .str (Str.ofString "db") t1)]) ?kS ?k6 ?k7 ?k8 ?k9 ?kB ?_ ?c2 ?c3 ?c4 ?c5; walk_at "cell_enterC")
  rename ∀ b o, _ → b ∉ List.map _ _ → _ => kg0
  k_steps
  rename ∀ b o, _ → _ => kK0
  rename News _ _ _ _ => kN0
  have kk1 := keep_led (ch := [fs]) kg0 kK0 S.N kN0 (by walk_at "q_sb")
  have hfsN := News.get kN0 (a := fs) (by k_mem)
  refine' hret _ _ _ _ _ _ _ _ _ _ _ _ _ _ ?nd ?dd ?F (news_cons F0 (news_cons F0 (news_cons F0 (news_cons F0 (updF1 N0 kk1 hfsN U) ?e4 ?h1) ?e3 ?h2) ?e2 ?h3) ?e1 ?h4)
  case e1 => exact News.get kN0 (by k_mem)
  case e2 => exact News.get kN0 (by k_mem)
  case e3 => exact News.get kN0 (by k_mem)
  case e4 => exact News.get kN0 (by k_mem)
  case h1 => exact fresh_in kg0 kN0 (by k_mem) znd (as := [dk, dd, fs]) rfl (by walk_at "q_sub")
  case h2 => exact fresh_in kg0 kN0 (by k_mem) znd (as := [dk, dd, fs]) rfl (by walk_at "q_sub")
  case h3 => exact fresh_in kg0 kN0 (by k_mem) znd (as := [dk, dd, fs]) rfl (by walk_at "q_sub")
  case h4 => exact fresh_in kg0 kN0 (by k_mem) znd (as := [dk, dd, fs]) rfl (by walk_at "q_sub")
  case nd =>
    intro Lx n e
    refine' nd_app (new := [_, _, _, _]) ?q4 (all4 (ne_new N0 ?a1) (ne_new N0 ?a2) (ne_new N0 ?a3) (ne_new N0 ?a4)) n e
    case q4 => clear n e; walk_at "nd_pick"
    all_goals clear n e
    all_goals exact fresh_in kg0 kN0 (by k_mem) znd (as := [dk, dd, fs]) rfl (by walk_at "q_sub")
  case dd => assumption
  case F => exact frK F0 N0 kk1 (fun x hx => by rw [List.mem_singleton.mp hx]; exact List.mem_map_of_mem (f := (·.1)) (updF_mem U))

theorem open_j {E : Value → Shared → Prop} {Q : Value → Shared → Prop} {hp : Heap} {g : Array GenState} {dr : Drawn} {tk : Nat} {os : OsState} {news : List (Addr × Obj)} {news' : Obj → List (Addr × Obj)} {dk dd fs sh lk : Addr} {ofs : Obj} {sec st : Int} {q1 q2 q3 q4 q5 q6 q7 t1 t5 t6 : Tok} {f1 : Addr}
    (B : Below A₀ base outer h₀) (F : Fr h₀ L hp m) (X : (Mine.hd.heap_39 w.params).In h₀) (N : News h₀ L hp news) (T : Top VW LO mean mg mb h₀) (kk : cs.kind = .function) (hd : dp + 12 < recursionLimit) (m1 : (dk, instObj 489 dd) ∈ news) (m2 : (dd, dictOf [{ hash := PyData.keyHash w.params (Str.ofString "sector"), key := Value.str (Str.ofString "sector") q1, val := Value.int sec t5 }, { hash := PyData.keyHash w.params (Str.ofString "room"), key := Value.str (Str.ofString "room") q2, val := Value.none }, { hash := PyData.keyHash w.params (Str.ofString "files"), key := Value.str (Str.ofString "files") q3, val := Value.ref fs }, { hash := PyData.keyHash w.params (Str.ofString "steps"), key := Value.str (Str.ofString "steps") q4, val := Value.int st t6 }, { hash := PyData.keyHash w.params (Str.ofString "crash_at"), key := Value.str (Str.ofString "crash_at") q5, val := Value.none }, { hash := PyData.keyHash w.params (Str.ofString "shared"), key := Value.str (Str.ofString "shared") q6, val := Value.ref sh }, { hash := PyData.keyHash w.params (Str.ofString "locks"), key := Value.str (Str.ofString "locks") q7, val := Value.ref lk }] 7) ∈ news) (U : UpdF fs ofs news news') (nd0 : NdA [dk, dd, fs]) (lo : (fs == sysModules) = false)
    (hfs : ofs.IsDictOf (PySem.strKind PG w) [(Str.ofString "db", .ref f1)])
    (hret : ∀ (f fd p n : Addr) (ofs' : Obj) (k1 k2 k3 k4 k5 t2 t7 : Tok) h' tk', (∀ Lx, NdA Lx → news.map (·.1) = Lx → NdA (n :: p :: f :: fd :: Lx)) →
      ofs'.IsDictOf (PySem.strKind PG w) ([(Str.ofString "db", .ref f1)] ++ [(Str.ofString "db-journal", .ref f)]) → Fr h₀ L h' m → News h₀ L h' ((n, baObj []) :: (p, W.listOf #[] 0) :: (f, instObj 390 fd) :: (fd, dictOf [{ hash := PyData.keyHash w.params (Str.ofString "disk"), key := Value.str (Str.ofString "disk") k1, val := Value.ref dk }, { hash := PyData.keyHash w.params (Str.ofString "name"), key := Value.str (Str.ofString "name") k2, val := Value.str (Str.ofString "db-journal") t7 }, { hash := PyData.keyHash w.params (Str.ofString "synced"), key := Value.str (Str.ofString "synced") k3, val := Value.bytes #[] t2 }, { hash := PyData.keyHash w.params (Str.ofString "pending"), key := Value.str (Str.ofString "pending") k4, val := Value.ref p }, { hash := PyData.keyHash w.params (Str.ofString "now"), key := Value.str (Str.ofString "now") k5, val := Value.ref n }] 5) :: news' ofs') → Q (.ref f) ⟨h', g, dr, tk', os⟩) :
    wpC (model PySem.Challenge.rw_pb0455_01.row.prog w) (ktrTop dp un gd cn cs L a ccd cl outer) (call (.ref 465) [.ref dk, .str (Str.ofString "db-journal") t1]) Q E ⟨hp, g, dr, tk, os⟩ := by
  let e_dd : List DictEntry := [{ hash := PyData.keyHash w.params (Str.ofString "sector"), key := Value.str (Str.ofString "sector") q1, val := Value.int sec t5 }, { hash := PyData.keyHash w.params (Str.ofString "room"), key := Value.str (Str.ofString "room") q2, val := Value.none }, { hash := PyData.keyHash w.params (Str.ofString "files"), key := Value.str (Str.ofString "files") q3, val := Value.ref fs }, { hash := PyData.keyHash w.params (Str.ofString "steps"), key := Value.str (Str.ofString "steps") q4, val := Value.int st t6 }, { hash := PyData.keyHash w.params (Str.ofString "crash_at"), key := Value.str (Str.ofString "crash_at") q5, val := Value.none }, { hash := PyData.keyHash w.params (Str.ofString "shared"), key := Value.str (Str.ofString "shared") q6, val := Value.ref sh }, { hash := PyData.keyHash w.params (Str.ofString "locks"), key := Value.str (Str.ofString "locks") q7, val := Value.ref lk }]
  have S : Site w mean mg mb outer A₀ base h₀ L m cs hp [(dk, instObj 489 dd), (dd, dictOf e_dd 7), (fs, ofs)] := ⟨B, F, X, (ns_cons N m1 (ns_cons N m2 (ns_cons N (updF_mem U) ns_nil))), T, kk⟩
  have F0 := F
  have N0 := N
  have znd := nd0
  clear B F X N T kk nd0
  refine wpC_call ?_
  k_dflt (refine' enterC (s := ⟨hp, g, dr, tk, os⟩) (led := [(dk, instObj 489 dd), (dd, dictOf e_dd 7), (fs, ofs)]) (binds := [(Str.ofString "self", .ref dk), (Str.ofString "name", .str (Str.ofString "db-journal") t1)]) ?kS ?k6 ?k7 ?k8 ?k9 ?kB ?_ ?c2 ?c3 ?c4 ?c5; walk_at "cell_enterC")
  rename ∀ b o, _ → b ∉ List.map _ _ → _ => kg0
  k_steps
  rename ∀ b o, _ → _ => kK0
  rename News _ _ _ _ => kN0
  have kk1 := keep_led (ch := [fs]) kg0 kK0 S.N kN0 (by walk_at "q_sb")
  have hfsN := News.get kN0 (a := fs) (by k_mem)
  refine' hret _ _ _ _ _ _ _ _ _ _ _ _ _ _ ?nd ?dd ?F (news_cons F0 (news_cons F0 (news_cons F0 (news_cons F0 (updF1 N0 kk1 hfsN U) ?e4 ?h1) ?e3 ?h2) ?e2 ?h3) ?e1 ?h4)
  case e1 => exact News.get kN0 (by k_mem)
  case e2 => exact News.get kN0 (by k_mem)
  case e3 => exact News.get kN0 (by k_mem)
  case e4 => exact News.get kN0 (by k_mem)
  case h1 => exact fresh_in kg0 kN0 (by k_mem) znd (as := [dk, dd, fs]) rfl (by walk_at "q_sub")
  case h2 => exact fresh_in kg0 kN0 (by k_mem) znd (as := [dk, dd, fs]) rfl (by walk_at "q_sub")
  case h3 => exact fresh_in kg0 kN0 (by k_mem) znd (as := [dk, dd, fs]) rfl (by walk_at "q_sub")
  case h4 => exact fresh_in kg0 kN0 (by k_mem) znd (as := [dk, dd, fs]) rfl (by walk_at "q_sub")
  case nd =>
    intro Lx n e
    refine' nd_app (new := [_, _, _, _]) ?q4 (all4 (ne_new N0 ?a1) (ne_new N0 ?a2) (ne_new N0 ?a3) (ne_new N0 ?a4)) n e
    case q4 => clear n e; walk_at "nd_pick"
    all_goals clear n e
    all_goals exact fresh_in kg0 kN0 (by k_mem) znd (as := [dk, dd, fs]) rfl (by walk_at "q_sub")
  case dd => assumption
  case F => exact frK F0 N0 kk1 (fun x hx => by rw [List.mem_singleton.mp hx]; exact List.mem_map_of_mem (f := (·.1)) (updF_mem U))

end
end
section
def kp_lines1 : List String := ["wpC"]
theorem setup_lines1 : True := by
  (k_with "lines1|wpC" => (k_here; (with_reducible show wpC _ _ (call (Value.ref 500) _) _ _ _); k_dflt (refine' put_k ?B ?F ?X ?N ?T ?kk ?U ?hd ?h0 ?h1 ?h2 ?h3 ?_; (case B => k_asm); (case F => k_asm); (case X => k_asm); (case N => k_asm); (case T => k_asm); (case kk => rfl); (case U => k_upd); (case hd => ktr_room); (case h0 => omega); (case h1 => omega); (case h2 => walk_at "b_sz"); (case h3 => walk_at "b_sz"); k_whole); intro zh' _ zF' zN'; (try k_sweep)))
  (k_with "lines1|wpC" => (k_here; (with_reducible show wpC _ _ (call (Value.ref 507) _) _ _ _); k_dflt (refine' cut_k ?B ?F ?X ?N ?T ?kk ?U ?hd ?h0 ?h1 ?h2 ?_; (case B => k_asm); (case F => k_asm); (case X => k_asm); (case N => k_asm); (case T => k_asm); (case kk => rfl); (case U => k_upd); (case hd => ktr_room); (case h0 => omega); (case h1 => omega); (case h2 => walk_at "b_sz"); k_whole); intro zh' _ zF' zN'; (try k_sweep)))
  trivial
local macro_rules | `(tactic| walk_at $s:str) => do
  let xs := (rowsFor [("lines1", kp_lines1), ("lines2", kp_lines2), ("pre3", kp_pre3)] s.getString).reverse
  let x :: r := xs | Lean.Macro.throwUnsupported
  let y := Lean.Syntax.mkStrLit x
  let mut t ← `(tactic| k_extra $y)
  for z in r do
    let y := Lean.Syntax.mkStrLit z
    t ← `(tactic| first | k_extra $y | ($t:tactic))
  return t
section
variable {w : World} {mean : ExcName → Option Value} {mg mb : Str → Option Value} {dp un : Nat} {gd : Option (List Code)} {cn : Str} {cs : Scope} {L a : Addr} {ccd : Value} {cl : List (Str × Addr)} {outer : List Env} {A₀ : Around} {base h₀ : Heap} {m : Str → Option Value} {s : Shared} {led : List (Addr × Obj)} {Q E : Value → Shared → Prop}


theorem primer_C10 (w : World) (h : Heap) : (Mine.hd.heap_39 w.params).In h → (PySem.Challenge.rw_pb0455_01.Holds → True) := by
  k_fill
  intros; trivial

theorem write_k {E : Value → Shared → Prop} {Q : Value → Shared → Prop} {hp : Heap} {g : Array GenState} {dr : Drawn} {tk : Nat} {os : OsState} {news : List (Addr × Obj)} {n1 : Tok → List (Addr × Obj)} {n2 : Tok → Addr → List (Addr × Obj)} {n3 : Tok → Addr → List (Addr × Obj)} {dk dd fs sh lk f fd p n : Addr} {sec st at_ : Int} {nm : Str} {sy : Value} {vs : Array Value} {c : Nat} {b x : List UInt8} {q1 q2 q3 q4 q5 q6 q7 k1 k2 k3 k4 k5 t1 t2 t5 t6 t7 : Tok}
    (B : Below A₀ base outer h₀) (F : Fr h₀ L hp m) (X : (Mine.hd.heap_39 w.params).In h₀) (N : News h₀ L hp news) (T : Top VW LO mean mg mb h₀) (kk : cs.kind = .function)
    (hd : dp + 12 < recursionLimit) (h0 : 0 ≤ at_) (h1 : at_ ≤ 4194304) (h2 : b.length ≤ 4194304) (h3 : x.length ≤ 4194304) (hv : vs.size ≤ 100000)
    (m1 : (dk, instObj 489 dd) ∈ news) (m2 : (f, instObj 390 fd) ∈ news) (m3 : (fd, dictOf [{ hash := PyData.keyHash w.params (Str.ofString "disk"), key := Value.str (Str.ofString "disk") k1, val := Value.ref dk }, { hash := PyData.keyHash w.params (Str.ofString "name"), key := Value.str (Str.ofString "name") k2, val := Value.str nm t7 }, { hash := PyData.keyHash w.params (Str.ofString "synced"), key := Value.str (Str.ofString "synced") k3, val := sy }, { hash := PyData.keyHash w.params (Str.ofString "pending"), key := Value.str (Str.ofString "pending") k4, val := Value.ref p }, { hash := PyData.keyHash w.params (Str.ofString "now"), key := Value.str (Str.ofString "now") k5, val := Value.ref n }] 5) ∈ news)
    (U1 : ∀ t8 : Tok, Upd dd (dictOf [{ hash := PyData.keyHash w.params (Str.ofString "sector"), key := Value.str (Str.ofString "sector") q1, val := Value.int sec t5 }, { hash := PyData.keyHash w.params (Str.ofString "room"), key := Value.str (Str.ofString "room") q2, val := Value.none }, { hash := PyData.keyHash w.params (Str.ofString "files"), key := Value.str (Str.ofString "files") q3, val := Value.ref fs }, { hash := PyData.keyHash w.params (Str.ofString "steps"), key := Value.str (Str.ofString "steps") q4, val := Value.int st t6 }, { hash := PyData.keyHash w.params (Str.ofString "crash_at"), key := Value.str (Str.ofString "crash_at") q5, val := Value.none }, { hash := PyData.keyHash w.params (Str.ofString "shared"), key := Value.str (Str.ofString "shared") q6, val := Value.ref sh }, { hash := PyData.keyHash w.params (Str.ofString "locks"), key := Value.str (Str.ofString "locks") q7, val := Value.ref lk }] 7) (dictOf [{ hash := PyData.keyHash w.params (Str.ofString "sector"), key := Value.str (Str.ofString "sector") q1, val := Value.int sec t5 }, { hash := PyData.keyHash w.params (Str.ofString "room"), key := Value.str (Str.ofString "room") q2, val := Value.none }, { hash := PyData.keyHash w.params (Str.ofString "files"), key := Value.str (Str.ofString "files") q3, val := Value.ref fs }, { hash := PyData.keyHash w.params (Str.ofString "steps"), key := Value.str (Str.ofString "steps") q4, val := Value.int (st + 1) t8 }, { hash := PyData.keyHash w.params (Str.ofString "crash_at"), key := Value.str (Str.ofString "crash_at") q5, val := Value.none }, { hash := PyData.keyHash w.params (Str.ofString "shared"), key := Value.str (Str.ofString "shared") q6, val := Value.ref sh }, { hash := PyData.keyHash w.params (Str.ofString "locks"), key := Value.str (Str.ofString "locks") q7, val := Value.ref lk }] 7) news (n1 t8)) (U2 : ∀ (t8 : Tok) (T : Addr), Upd p (W.listOf vs c) (W.listOf (vs.push (.ref T)) (c + 1)) (n1 t8) (n2 t8 T)) (U3 : ∀ (t8 : Tok) (T : Addr), Upd n (baObj b) (baObj (putB b at_ x)) (n2 t8 T) (n3 t8 T))
    (nd0 : NdA [dk, dd, f, fd, p, n])
    (hret : ∀ (T : Addr) (t8 t9 t10 : Tok) h' tk', (∀ q ∈ news, q.1 ≠ T) → Fr h₀ L h' m → News h₀ L h' ((T, { cls := Value.type "tuple", data := Data.seq #[Value.str (Str.ofString "write") t9, Value.int at_ t1, Value.bytes x.toArray t10] }) :: n3 t8 T) → Q .none ⟨h', g, dr, tk', os⟩) :
    wpC (model PySem.Challenge.rw_pb0455_01.row.prog w) (ktrTop dp un gd cn cs L a ccd cl outer) (call (.ref 359) [.ref f, .int at_ t1, .bytes x.toArray t2]) Q E ⟨hp, g, dr, tk, os⟩ := by
  have e8 : @Ne Nat dd p := by walk_at "nd_ne"
  have e9 : @Ne Nat dd n := by walk_at "nd_ne"
  have e15 : @Ne Nat p n := by walk_at "nd_ne"
  have mdd : (dd, dictOf [{ hash := PyData.keyHash w.params (Str.ofString "sector"), key := Value.str (Str.ofString "sector") q1, val := Value.int sec t5 }, { hash := PyData.keyHash w.params (Str.ofString "room"), key := Value.str (Str.ofString "room") q2, val := Value.none }, { hash := PyData.keyHash w.params (Str.ofString "files"), key := Value.str (Str.ofString "files") q3, val := Value.ref fs }, { hash := PyData.keyHash w.params (Str.ofString "steps"), key := Value.str (Str.ofString "steps") q4, val := Value.int st t6 }, { hash := PyData.keyHash w.params (Str.ofString "crash_at"), key := Value.str (Str.ofString "crash_at") q5, val := Value.none }, { hash := PyData.keyHash w.params (Str.ofString "shared"), key := Value.str (Str.ofString "shared") q6, val := Value.ref sh }, { hash := PyData.keyHash w.params (Str.ofString "locks"), key := Value.str (Str.ofString "locks") q7, val := Value.ref lk }] 7) ∈ news := upd_mem (U1 0)
  have mp : (p, W.listOf vs c) ∈ news := by
    rcases upd_in (U1 0) _ (upd_mem (U2 0 0)) with q | q
    · exact absurd (congrArg Prod.fst q) (fun z => e8 z.symm)
    · exact q.1
  have mn : (n, baObj b) ∈ news := by
    rcases upd_in (U2 0 0) _ (upd_mem (U3 0 0)) with q | q
    · exact absurd (congrArg Prod.fst q) (fun z => e15 z.symm)
    rcases upd_in (U1 0) _ q.1 with q | q
    · exact absurd (congrArg Prod.fst q) (fun z => e9 z.symm)
    · exact q.1
  let e_dd : List DictEntry := [{ hash := PyData.keyHash w.params (Str.ofString "sector"), key := Value.str (Str.ofString "sector") q1, val := Value.int sec t5 }, { hash := PyData.keyHash w.params (Str.ofString "room"), key := Value.str (Str.ofString "room") q2, val := Value.none }, { hash := PyData.keyHash w.params (Str.ofString "files"), key := Value.str (Str.ofString "files") q3, val := Value.ref fs }, { hash := PyData.keyHash w.params (Str.ofString "steps"), key := Value.str (Str.ofString "steps") q4, val := Value.int st t6 }, { hash := PyData.keyHash w.params (Str.ofString "crash_at"), key := Value.str (Str.ofString "crash_at") q5, val := Value.none }, { hash := PyData.keyHash w.params (Str.ofString "shared"), key := Value.str (Str.ofString "shared") q6, val := Value.ref sh }, { hash := PyData.keyHash w.params (Str.ofString "locks"), key := Value.str (Str.ofString "locks") q7, val := Value.ref lk }]
  let e_fd : List DictEntry := [{ hash := PyData.keyHash w.params (Str.ofString "disk"), key := Value.str (Str.ofString "disk") k1, val := Value.ref dk }, { hash := PyData.keyHash w.params (Str.ofString "name"), key := Value.str (Str.ofString "name") k2, val := Value.str nm t7 }, { hash := PyData.keyHash w.params (Str.ofString "synced"), key := Value.str (Str.ofString "synced") k3, val := sy }, { hash := PyData.keyHash w.params (Str.ofString "pending"), key := Value.str (Str.ofString "pending") k4, val := Value.ref p }, { hash := PyData.keyHash w.params (Str.ofString "now"), key := Value.str (Str.ofString "now") k5, val := Value.ref n }]
  have S : Site w mean mg mb outer A₀ base h₀ L m cs hp [(dk, instObj 489 dd), (dd, dictOf e_dd 7), (f, instObj 390 fd), (fd, dictOf e_fd 5), (p, W.listOf vs c), (n, baObj b)] := ⟨B, F, X, (ns_cons N m1 (ns_cons N mdd (ns_cons N m2 (ns_cons N m3 (ns_cons N mp (ns_cons N mn ns_nil)))))), T, kk⟩
  have F0 := F
  have N0 := N
  have znd := nd0
  clear B F X N T kk nd0 e8 e9 e15
  refine wpC_call ?_
  k_dflt (refine' enterC (s := ⟨hp, g, dr, tk, os⟩) (led := [(dk, instObj 489 dd), (dd, dictOf e_dd 7), (f, instObj 390 fd), (fd, dictOf e_fd 5), (p, W.listOf vs c), (n, baObj b)]) (binds := [(Str.ofString "self", .ref f), (Str.ofString "at", .int at_ t1), (Str.ofString "octets", .bytes x.toArray t2)]) ?kS ?k6 ?k7 ?k8 ?k9 ?kB ?_ ?c2 ?c3 ?c4 ?c5; walk_at "cell_enterC")
  rename ∀ b o, _ → b ∉ List.map _ _ → _ => kg0
  k_steps
  rename ∀ b o, _ → _ => kK0
  rename News _ _ _ _ => kN0
  have kq := keep_led (ch := [dd, p, n]) kg0 kK0 S.N kN0 (by walk_at "q_sb")
  refine' hret _ _ _ _ _ _ (ne_new N0 ?h4) (frK' F0 ?fa kq) (news_cons F0 (news3 N0 kq (U1 _) (U2 _ _) (U3 _ _) ?g1 ?g2 ?g3) ?e1 ?h4)
  case e1 => exact News.get kN0 (by k_mem)
  case g1 => exact News.get kN0 (by k_mem)
  case g2 => exact News.get kN0 (by k_mem)
  case g3 => exact News.get kN0 (by k_mem)
  case fa =>
    exact fa_cons (addr1 N0 mdd) (fa_cons (addr1 N0 mp) (fa_cons (addr1 N0 mn) fa_nil))
  case h4 => exact fresh_in kg0 kN0 (by k_mem) znd (as := [dk, dd, f, fd, p, n]) rfl (by walk_at "q_sub")

theorem trunc_k {E : Value → Shared → Prop} {Q : Value → Shared → Prop} {hp : Heap} {g : Array GenState} {dr : Drawn} {tk : Nat} {os : OsState} {news : List (Addr × Obj)} {n1 : Tok → List (Addr × Obj)} {n2 : Tok → Addr → List (Addr × Obj)} {n3 : Tok → Addr → List (Addr × Obj)} {dk dd fs sh lk f fd p n : Addr} {sec st at_ : Int} {nm : Str} {sy : Value} {vs : Array Value} {c : Nat} {b : List UInt8} {q1 q2 q3 q4 q5 q6 q7 k1 k2 k3 k4 k5 t1 t5 t6 t7 : Tok}
    (B : Below A₀ base outer h₀) (F : Fr h₀ L hp m) (X : (Mine.hd.heap_39 w.params).In h₀) (N : News h₀ L hp news) (T : Top VW LO mean mg mb h₀) (kk : cs.kind = .function)
    (hd : dp + 12 < recursionLimit) (h0 : 0 ≤ at_) (h1 : at_ ≤ 4194304) (h2 : b.length ≤ 4194304) (hv : vs.size ≤ 100000)
    (m1 : (dk, instObj 489 dd) ∈ news) (m2 : (f, instObj 390 fd) ∈ news) (m3 : (fd, dictOf [{ hash := PyData.keyHash w.params (Str.ofString "disk"), key := Value.str (Str.ofString "disk") k1, val := Value.ref dk }, { hash := PyData.keyHash w.params (Str.ofString "name"), key := Value.str (Str.ofString "name") k2, val := Value.str nm t7 }, { hash := PyData.keyHash w.params (Str.ofString "synced"), key := Value.str (Str.ofString "synced") k3, val := sy }, { hash := PyData.keyHash w.params (Str.ofString "pending"), key := Value.str (Str.ofString "pending") k4, val := Value.ref p }, { hash := PyData.keyHash w.params (Str.ofString "now"), key := Value.str (Str.ofString "now") k5, val := Value.ref n }] 5) ∈ news)
    (U1 : ∀ t8 : Tok, Upd dd (dictOf [{ hash := PyData.keyHash w.params (Str.ofString "sector"), key := Value.str (Str.ofString "sector") q1, val := Value.int sec t5 }, { hash := PyData.keyHash w.params (Str.ofString "room"), key := Value.str (Str.ofString "room") q2, val := Value.none }, { hash := PyData.keyHash w.params (Str.ofString "files"), key := Value.str (Str.ofString "files") q3, val := Value.ref fs }, { hash := PyData.keyHash w.params (Str.ofString "steps"), key := Value.str (Str.ofString "steps") q4, val := Value.int st t6 }, { hash := PyData.keyHash w.params (Str.ofString "crash_at"), key := Value.str (Str.ofString "crash_at") q5, val := Value.none }, { hash := PyData.keyHash w.params (Str.ofString "shared"), key := Value.str (Str.ofString "shared") q6, val := Value.ref sh }, { hash := PyData.keyHash w.params (Str.ofString "locks"), key := Value.str (Str.ofString "locks") q7, val := Value.ref lk }] 7) (dictOf [{ hash := PyData.keyHash w.params (Str.ofString "sector"), key := Value.str (Str.ofString "sector") q1, val := Value.int sec t5 }, { hash := PyData.keyHash w.params (Str.ofString "room"), key := Value.str (Str.ofString "room") q2, val := Value.none }, { hash := PyData.keyHash w.params (Str.ofString "files"), key := Value.str (Str.ofString "files") q3, val := Value.ref fs }, { hash := PyData.keyHash w.params (Str.ofString "steps"), key := Value.str (Str.ofString "steps") q4, val := Value.int (st + 1) t8 }, { hash := PyData.keyHash w.params (Str.ofString "crash_at"), key := Value.str (Str.ofString "crash_at") q5, val := Value.none }, { hash := PyData.keyHash w.params (Str.ofString "shared"), key := Value.str (Str.ofString "shared") q6, val := Value.ref sh }, { hash := PyData.keyHash w.params (Str.ofString "locks"), key := Value.str (Str.ofString "locks") q7, val := Value.ref lk }] 7) news (n1 t8)) (U2 : ∀ (t8 : Tok) (T : Addr), Upd p (W.listOf vs c) (W.listOf (vs.push (.ref T)) (c + 1)) (n1 t8) (n2 t8 T)) (U3 : ∀ (t8 : Tok) (T : Addr), Upd n (baObj b) (baObj (cutB b at_)) (n2 t8 T) (n3 t8 T))
    (nd0 : NdA [dk, dd, f, fd, p, n])
    (hret : ∀ (T : Addr) (t8 t9 t10 : Tok) h' tk', (∀ q ∈ news, q.1 ≠ T) → Fr h₀ L h' m → News h₀ L h' ((T, { cls := Value.type "tuple", data := Data.seq #[Value.str (Str.ofString "truncate") t9, Value.int at_ t1, Value.bytes #[] t10] }) :: n3 t8 T) → Q .none ⟨h', g, dr, tk', os⟩) :
    wpC (model PySem.Challenge.rw_pb0455_01.row.prog w) (ktrTop dp un gd cn cs L a ccd cl outer) (call (.ref 366) [.ref f, .int at_ t1]) Q E ⟨hp, g, dr, tk, os⟩ := by
  have e8 : @Ne Nat dd p := by walk_at "nd_ne"
  have e9 : @Ne Nat dd n := by walk_at "nd_ne"
  have e15 : @Ne Nat p n := by walk_at "nd_ne"
  have mdd : (dd, dictOf [{ hash := PyData.keyHash w.params (Str.ofString "sector"), key := Value.str (Str.ofString "sector") q1, val := Value.int sec t5 }, { hash := PyData.keyHash w.params (Str.ofString "room"), key := Value.str (Str.ofString "room") q2, val := Value.none }, { hash := PyData.keyHash w.params (Str.ofString "files"), key := Value.str (Str.ofString "files") q3, val := Value.ref fs }, { hash := PyData.keyHash w.params (Str.ofString "steps"), key := Value.str (Str.ofString "steps") q4, val := Value.int st t6 }, { hash := PyData.keyHash w.params (Str.ofString "crash_at"), key := Value.str (Str.ofString "crash_at") q5, val := Value.none }, { hash := PyData.keyHash w.params (Str.ofString "shared"), key := Value.str (Str.ofString "shared") q6, val := Value.ref sh }, { hash := PyData.keyHash w.params (Str.ofString "locks"), key := Value.str (Str.ofString "locks") q7, val := Value.ref lk }] 7) ∈ news := upd_mem (U1 0)
  have mp : (p, W.listOf vs c) ∈ news := by
    rcases upd_in (U1 0) _ (upd_mem (U2 0 0)) with q | q
    · exact absurd (congrArg Prod.fst q) (fun z => e8 z.symm)
    · exact q.1
  have mn : (n, baObj b) ∈ news := by
    rcases upd_in (U2 0 0) _ (upd_mem (U3 0 0)) with q | q
    · exact absurd (congrArg Prod.fst q) (fun z => e15 z.symm)
    rcases upd_in (U1 0) _ q.1 with q | q
    · exact absurd (congrArg Prod.fst q) (fun z => e9 z.symm)
    · exact q.1
  let e_dd : List DictEntry := [{ hash := PyData.keyHash w.params (Str.ofString "sector"), key := Value.str (Str.ofString "sector") q1, val := Value.int sec t5 }, { hash := PyData.keyHash w.params (Str.ofString "room"), key := Value.str (Str.ofString "room") q2, val := Value.none }, { hash := PyData.keyHash w.params (Str.ofString "files"), key := Value.str (Str.ofString "files") q3, val := Value.ref fs }, { hash := PyData.keyHash w.params (Str.ofString "steps"), key := Value.str (Str.ofString "steps") q4, val := Value.int st t6 }, { hash := PyData.keyHash w.params (Str.ofString "crash_at"), key := Value.str (Str.ofString "crash_at") q5, val := Value.none }, { hash := PyData.keyHash w.params (Str.ofString "shared"), key := Value.str (Str.ofString "shared") q6, val := Value.ref sh }, { hash := PyData.keyHash w.params (Str.ofString "locks"), key := Value.str (Str.ofString "locks") q7, val := Value.ref lk }]
  let e_fd : List DictEntry := [{ hash := PyData.keyHash w.params (Str.ofString "disk"), key := Value.str (Str.ofString "disk") k1, val := Value.ref dk }, { hash := PyData.keyHash w.params (Str.ofString "name"), key := Value.str (Str.ofString "name") k2, val := Value.str nm t7 }, { hash := PyData.keyHash w.params (Str.ofString "synced"), key := Value.str (Str.ofString "synced") k3, val := sy }, { hash := PyData.keyHash w.params (Str.ofString "pending"), key := Value.str (Str.ofString "pending") k4, val := Value.ref p }, { hash := PyData.keyHash w.params (Str.ofString "now"), key := Value.str (Str.ofString "now") k5, val := Value.ref n }]
  have S : Site w mean mg mb outer A₀ base h₀ L m cs hp [(dk, instObj 489 dd), (dd, dictOf e_dd 7), (f, instObj 390 fd), (fd, dictOf e_fd 5), (p, W.listOf vs c), (n, baObj b)] := ⟨B, F, X, (ns_cons N m1 (ns_cons N mdd (ns_cons N m2 (ns_cons N m3 (ns_cons N mp (ns_cons N mn ns_nil)))))), T, kk⟩
  have F0 := F
  have N0 := N
  have znd := nd0
  clear B F X N T kk nd0 e8 e9 e15
  refine wpC_call ?_
  k_dflt (refine' enterC (s := ⟨hp, g, dr, tk, os⟩) (led := [(dk, instObj 489 dd), (dd, dictOf e_dd 7), (f, instObj 390 fd), (fd, dictOf e_fd 5), (p, W.listOf vs c), (n, baObj b)]) (binds := [(Str.ofString "self", .ref f), (Str.ofString "size", .int at_ t1)]) ?kS ?k6 ?k7 ?k8 ?k9 ?kB ?_ ?c2 ?c3 ?c4 ?c5; walk_at "cell_enterC")
  rename ∀ b o, _ → b ∉ List.map _ _ → _ => kg0
  k_steps
  rename ∀ b o, _ → _ => kK0
  rename News _ _ _ _ => kN0
  have kq := keep_led (ch := [dd, p, n]) kg0 kK0 S.N kN0 (by walk_at "q_sb")
  refine' hret _ _ _ _ _ _ (ne_new N0 ?h4) (frK' F0 ?fa kq) (news_cons F0 (news3 N0 kq (U1 _) (U2 _ _) (U3 _ _) ?g1 ?g2 ?g3) ?e1 ?h4)
  case e1 => exact News.get kN0 (by k_mem)
  case g1 => exact News.get kN0 (by k_mem)
  case g2 => exact News.get kN0 (by k_mem)
  case g3 => exact News.get kN0 (by k_mem)
  case fa =>
    exact fa_cons (addr1 N0 mdd) (fa_cons (addr1 N0 mp) (fa_cons (addr1 N0 mn) fa_nil))
  case h4 => exact fresh_in kg0 kN0 (by k_mem) znd (as := [dk, dd, f, fd, p, n]) rfl (by walk_at "q_sub")

end
end
section
def kp_linesG : List String := ["k_del", "wpC", "pyIter ref", "codeC", "pyNext ref", "letOwnedTupleGo", "assign Tuple", "compareOp Eq ref ref", "units", "subscriptTail Attribute BinOp ref int", "subscriptTail Attribute Name BinOp ref int", "subscriptTail Attribute"]
theorem setup_linesG : True := by
  (k_with "linesG|k_del" => first | (refine' Del.head ?a; (case a => k_all)) | (refine' Del.tail ?a ?b; (case a => k_ne); (case b => walk_at "k_del")))
  (k_with "linesG|wpC" => ((with_reducible show wpC _ _ (exec (Stmt.For _ _ _ [] _) _) _ _ _); k_dflt (refine C_For ?_)))
  (k_with "linesG|pyIter ref" => (k_here; k_dflt (refine' k_iter ?F ?N ?hm ?_; (case F => k_asm); (case N => k_asm); (case hm => k_mem); k_whole); intro zI' zo' zh' zhI' zF' zN' zl1; (try k_lt zl1); (try k_sweep)))
  (k_with "linesG|codeC" => ((with_reducible show codeC _ _ (Code.forLoop _ _ _ _ _) _ _); k_dflt (refine codeC_turn ?_)))
  (k_with "linesG|pyNext ref" => (k_here; k_dflt (refine' k_doneD ?hh ?F ?N ?hm ?D ?hi ?hx ?_; (case hh => rfl); (case F => k_asm); (case N => k_asm); (case hi => assumption); (case hm => k_mem); (case D => (refine' del_nd ?ndn ?nde ?ndu; (case ndn => assumption); (case nde => exact rfl); (case ndu => walk_at "delw"))); (case hx => with_unfolding_all rfl); k_whole); intro zh' zDl zF' zN'; (replace znd := nd_del znd zDl rfl rfl); clear zDl; (simp only [List.map_cons, List.map_nil] at znd); (try dsimp only); (try k_sweep)))
  (k_with "linesG|pyNext ref" => (k_here; k_dflt (refine' k_next ?F ?N ?hm ?U ?hi ?hx ?_; (case F => k_asm); (case N => k_asm); (case hi => assumption); (case hm => k_mem); (case U => k_updF); (case hx => with_unfolding_all rfl); k_whole); intro zo' zh' zhI' zF' zN'; (try dsimp only at zN'); (try dsimp only); (try k_sweep)))
  (k_with "linesG|letOwnedTupleGo" => (k_here; k_dflt (refine' k_owned ?N ?hm ?hi ?_; (case N => k_asm); (case hi => assumption); (case hm => k_mem); k_whole)))
  (k_with "linesG|assign Tuple" => (k_here; k_dflt (refine' k_assignT ?F ?N ?hm ?hh ?hn ?hs ?_; (case F => k_asm); (case N => k_asm); (case hm => k_mem); (case hh => rfl); (case hn => with_unfolding_all rfl); (case hs => with_unfolding_all rfl); k_whole); intro zh' zF' zN'; (try k_sweep)))
  (k_with "linesG|compareOp Eq ref ref" => (k_here; k_dflt (refine' k_eqlen ?N ?m1 ?m2 ?hz ?hu ?_; (case N => k_asm); (case m1 => k_mem); (case m2 => k_mem); (case hz => rfl); (case hu => walk_at "units"); k_whole)))
  (k_with "linesG|units" => (simp only [units_in1, units_deeper, Around.mark_units]; (try dsimp only [ktrTop]); omega))
  (k_with "linesG|subscriptTail Attribute BinOp ref int" => (k_here; (with_reducible show wpAny _ _ (subscriptTail _ _ (Value.ref _) (Value.int _ _)) _ _ _); k_dflt (refine' r_item1 ?N ?hm ?h0 ?h1 ?_ ?hs; (case N => k_asm); (case hm => k_mem); (case h0 => first | omega | (simp only [List.size_toArray, List.length_cons, List.length_nil]; omega)); (case h1 => first | omega | (simp only [List.size_toArray, List.length_cons, List.length_nil]; omega)); (case hs => with_unfolding_all rfl); k_whole)))
  (k_with "linesG|subscriptTail Attribute Name BinOp ref int" => (k_here; (with_reducible show wpAny _ _ (subscriptTail _ _ (Value.ref _) (Value.int _ _)) _ _ _); k_dflt (refine' r_item1 ?N ?hm ?h0 ?h1 ?_ ?hs; (case N => k_asm); (case hm => k_mem); (case h0 => first | omega | (simp only [List.size_toArray, List.length_cons, List.length_nil]; omega)); (case h1 => first | omega | (simp only [List.size_toArray, List.length_cons, List.length_nil]; omega)); (case hs => with_unfolding_all rfl); k_whole)))
  (k_with "linesG|subscriptTail Attribute" => (k_here; (with_reducible show wpAny _ _ (subscriptTail _ _ (Value.ref _) (Value.int _ _)) _ _ _); k_dflt (refine' r_item1 ?N ?hm ?h0 ?h1 ?_ ?hs; (case N => k_asm); (case hm => k_mem); (case h0 => first | omega | (simp only [List.size_toArray, List.length_cons, List.length_nil]; omega)); (case h1 => first | omega | (simp only [List.size_toArray, List.length_cons, List.length_nil]; omega)); (case hs => with_unfolding_all rfl); k_whole)))
  trivial
local macro_rules | `(tactic| walk_at "odd part") => `(tactic| skip)
local macro_rules | `(tactic| walk_at $s:str) => do
  let xs := (rowsFor [("linesG", kp_linesG), ("lines1", kp_lines1), ("lines2", kp_lines2), ("pre3", kp_pre3)] s.getString).reverse
  let x :: r := xs | Lean.Macro.throwUnsupported
  let y := Lean.Syntax.mkStrLit x
  let mut t ← `(tactic| k_extra $y)
  for z in r do
    let y := Lean.Syntax.mkStrLit z
    t ← `(tactic| first | k_extra $y | ($t:tactic))
  return t
section
variable {w : World} {mean : ExcName → Option Value} {mg mb : Str → Option Value} {dp un : Nat} {gd : Option (List Code)} {cn : Str} {cs : Scope} {L a : Addr} {ccd : Value} {cl : List (Str × Addr)} {outer : List Env} {A₀ : Around} {base h₀ : Heap} {m : Str → Option Value} {s : Shared} {led : List (Addr × Obj)} {Q E : Value → Shared → Prop}


theorem primer_C12 (w : World) (h : Heap) : (Mine.hd.heap_39 w.params).In h → (PySem.Challenge.rw_pb0455_01.Holds → True) := by
  k_fill
  intros; trivial

theorem surv0_k {E : Value → Shared → Prop} {Q : Value → Shared → Prop} {hp : Heap} {g : Array GenState} {dr : Drawn} {tk : Nat} {os : OsState} {news : List (Addr × Obj)} {dk f fd p n ch cd nl : Addr} {td : Int} {nm : Str} {sy : List UInt8} {c c2 : Nat} {q1 q2 k1 k2 k3 k4 k5 t2 t4 t7 t8 t11 : Tok}
    (B : Below A₀ base outer h₀) (F : Fr h₀ L hp m) (X : (Mine.hd.heap_39 w.params).In h₀) (N : News h₀ L hp news) (T' : Top VW LO mean mg mb h₀) (kk : cs.kind = .function)
    (hd : dp + 12 < recursionLimit) (hu : un + 40 < cLine) (h2 : sy.length ≤ 4194304) (ht0 : 0 ≤ td) (ht1 : td ≤ 1000) (m0 : (f, instObj 390 fd) ∈ news) (m1 : (fd, dictOf [{ hash := PyData.keyHash w.params (Str.ofString "disk"), key := Value.str (Str.ofString "disk") k1, val := Value.ref dk }, { hash := PyData.keyHash w.params (Str.ofString "name"), key := Value.str (Str.ofString "name") k2, val := Value.str nm t7 }, { hash := PyData.keyHash w.params (Str.ofString "synced"), key := Value.str (Str.ofString "synced") k3, val := Value.bytes sy.toArray t8 }, { hash := PyData.keyHash w.params (Str.ofString "pending"), key := Value.str (Str.ofString "pending") k4, val := Value.ref p }, { hash := PyData.keyHash w.params (Str.ofString "now"), key := Value.str (Str.ofString "now") k5, val := Value.ref n }] 5) ∈ news) (m2 : (p, W.listOf #[] c) ∈ news) (m3 : (ch, instObj 418 cd) ∈ news) (m4 : (nl, W.listOf #[Value.int 0 t11] c2) ∈ news) (m5 : (cd, dictOf [{ hash := PyData.keyHash w.params (Str.ofString "numbers"), key := Value.str (Str.ofString "numbers") q1, val := Value.ref nl }, { hash := PyData.keyHash w.params (Str.ofString "told"), key := Value.str (Str.ofString "told") q2, val := Value.int td t4 }] 2) ∈ news)   (nd0 : NdA [f, fd, p, ch, nl, cd])
    (hret : ∀ d' (t : Tok) h' tk', (∀ q ∈ news, q.1 ≠ d') → Fr h₀ L h' m → News h₀ L h' ((d', baObj sy) :: news) → Q (.ref d') ⟨h', g, dr, tk', os⟩) :
    wpC (model PySem.Challenge.rw_pb0455_01.row.prog w) (ktrTop dp un gd cn cs L a ccd cl outer) (call (.ref 387) [.ref f, .ref ch, .int 8 t2]) Q E ⟨hp, g, dr, tk, os⟩ := by
  let e_fd : List DictEntry := [{ hash := PyData.keyHash w.params (Str.ofString "disk"), key := Value.str (Str.ofString "disk") k1, val := Value.ref dk }, { hash := PyData.keyHash w.params (Str.ofString "name"), key := Value.str (Str.ofString "name") k2, val := Value.str nm t7 }, { hash := PyData.keyHash w.params (Str.ofString "synced"), key := Value.str (Str.ofString "synced") k3, val := Value.bytes sy.toArray t8 }, { hash := PyData.keyHash w.params (Str.ofString "pending"), key := Value.str (Str.ofString "pending") k4, val := Value.ref p }, { hash := PyData.keyHash w.params (Str.ofString "now"), key := Value.str (Str.ofString "now") k5, val := Value.ref n }]
  let e_cd : List DictEntry := [{ hash := PyData.keyHash w.params (Str.ofString "numbers"), key := Value.str (Str.ofString "numbers") q1, val := Value.ref nl }, { hash := PyData.keyHash w.params (Str.ofString "told"), key := Value.str (Str.ofString "told") q2, val := Value.int td t4 }]
  have S : Site w mean mg mb outer A₀ base h₀ L m cs hp [(f, instObj 390 fd), (fd, dictOf e_fd 5), (p, W.listOf #[] c), (ch, instObj 418 cd), (nl, W.listOf #[Value.int 0 t11] c2), (cd, dictOf e_cd 2)] := ⟨B, F, X, (ns_cons N m0 (ns_cons N m1 (ns_cons N m2 (ns_cons N m3 (ns_cons N m4 (ns_cons N m5 ns_nil)))))), T', kk⟩
  have F0 := F
  have N0 := N
  have znd := nd0
  clear B F X N T' kk
  refine wpC_call ?_
  k_dflt (refine' enterC (s := ⟨hp, g, dr, tk, os⟩) (led := [(f, instObj 390 fd), (fd, dictOf e_fd 5), (p, W.listOf #[] c), (ch, instObj 418 cd), (nl, W.listOf #[Value.int 0 t11] c2), (cd, dictOf e_cd 2)]) (binds := [(Str.ofString "self", .ref f), (Str.ofString "numbers", .ref ch), (Str.ofString "sector", .int 8 t2)]) ?kS ?k6 ?k7 ?k8 ?k9 ?kB ?_ ?c2 ?c3 ?c4 ?c5; walk_at "cell_enterC")
  rename ∀ b o, _ → b ∉ List.map _ _ → _ => kg0
  k_steps
  rename ∀ b o, _ → _ => kK0
  rename News _ _ _ _ => kN0
  have kq := keep_led (ch := []) kg0 kK0 S.N kN0 (by walk_at "q_sb")
  refine' hret _ 0 _ _ (ne_new N0 ?h4) ?F (news_cons F0 ?nn ?e1 ?h4)
  case e1 => exact News.get kN0 (by k_mem)
  case F => exact frK (as := []) F0 N0 kq (fun _ q => nomatch q)
  case nn => exact keep0 N0 kq
  case h4 => exact fresh_in kg0 kN0 (by k_mem) znd (as := [f, fd, p, ch, nl, cd]) rfl (by walk_at "q_sub")

theorem surv1_k {E : Value → Shared → Prop} {Q : Value → Shared → Prop} {hp : Heap} {g : Array GenState} {dr : Drawn} {tk : Nat} {os : OsState} {news : List (Addr × Obj)} {n1 : Tok → List (Addr × Obj)} {dk f fd p n ch cd nl T : Addr} {td at_ : Int} {nm : Str} {sy x : List UInt8} {c c2 : Nat} {q1 q2 k1 k2 k3 k4 k5 t1 t2 t4 t7 t8 t9 t10 t11 : Tok}
    (B : Below A₀ base outer h₀) (F : Fr h₀ L hp m) (X : (Mine.hd.heap_39 w.params).In h₀) (N : News h₀ L hp news) (T' : Top VW LO mean mg mb h₀) (kk : cs.kind = .function)
    (hd : dp + 12 < recursionLimit) (hu : un + 40 < cLine) (h2 : sy.length ≤ 4194304) (ht0 : 0 ≤ td) (ht1 : td ≤ 1000) (m0 : (f, instObj 390 fd) ∈ news) (m1 : (fd, dictOf [{ hash := PyData.keyHash w.params (Str.ofString "disk"), key := Value.str (Str.ofString "disk") k1, val := Value.ref dk }, { hash := PyData.keyHash w.params (Str.ofString "name"), key := Value.str (Str.ofString "name") k2, val := Value.str nm t7 }, { hash := PyData.keyHash w.params (Str.ofString "synced"), key := Value.str (Str.ofString "synced") k3, val := Value.bytes sy.toArray t8 }, { hash := PyData.keyHash w.params (Str.ofString "pending"), key := Value.str (Str.ofString "pending") k4, val := Value.ref p }, { hash := PyData.keyHash w.params (Str.ofString "now"), key := Value.str (Str.ofString "now") k5, val := Value.ref n }] 5) ∈ news) (m2 : (p, W.listOf #[Value.ref T] c) ∈ news) (m3 : (ch, instObj 418 cd) ∈ news) (m4 : (nl, W.listOf #[Value.int 0 t11] c2) ∈ news) (m5 : (T, { cls := Value.type "tuple", data := Data.seq #[Value.str (Str.ofString "write") t9, Value.int at_ t1, Value.bytes x.toArray t10] }) ∈ news)  (U : ∀ t : Tok, Upd cd (dictOf [{ hash := PyData.keyHash w.params (Str.ofString "numbers"), key := Value.str (Str.ofString "numbers") q1, val := Value.ref nl }, { hash := PyData.keyHash w.params (Str.ofString "told"), key := Value.str (Str.ofString "told") q2, val := Value.int td t4 }] 2) (dictOf [{ hash := PyData.keyHash w.params (Str.ofString "numbers"), key := Value.str (Str.ofString "numbers") q1, val := Value.ref nl }, { hash := PyData.keyHash w.params (Str.ofString "told"), key := Value.str (Str.ofString "told") q2, val := Value.int (td + 1) t }] 2) news (n1 t)) (nd0 : NdA [f, fd, p, ch, nl, T, cd])
    (hret : ∀ d' (t : Tok) h' tk', (∀ q ∈ news, q.1 ≠ d') → Fr h₀ L h' m → News h₀ L h' ((d', baObj sy) :: n1 t) → Q (.ref d') ⟨h', g, dr, tk', os⟩) :
    wpC (model PySem.Challenge.rw_pb0455_01.row.prog w) (ktrTop dp un gd cn cs L a ccd cl outer) (call (.ref 387) [.ref f, .ref ch, .int 8 t2]) Q E ⟨hp, g, dr, tk, os⟩ := by
  let e_fd : List DictEntry := [{ hash := PyData.keyHash w.params (Str.ofString "disk"), key := Value.str (Str.ofString "disk") k1, val := Value.ref dk }, { hash := PyData.keyHash w.params (Str.ofString "name"), key := Value.str (Str.ofString "name") k2, val := Value.str nm t7 }, { hash := PyData.keyHash w.params (Str.ofString "synced"), key := Value.str (Str.ofString "synced") k3, val := Value.bytes sy.toArray t8 }, { hash := PyData.keyHash w.params (Str.ofString "pending"), key := Value.str (Str.ofString "pending") k4, val := Value.ref p }, { hash := PyData.keyHash w.params (Str.ofString "now"), key := Value.str (Str.ofString "now") k5, val := Value.ref n }]
  let e_cd : List DictEntry := [{ hash := PyData.keyHash w.params (Str.ofString "numbers"), key := Value.str (Str.ofString "numbers") q1, val := Value.ref nl }, { hash := PyData.keyHash w.params (Str.ofString "told"), key := Value.str (Str.ofString "told") q2, val := Value.int td t4 }]
  have S : Site w mean mg mb outer A₀ base h₀ L m cs hp [(f, instObj 390 fd), (fd, dictOf e_fd 5), (p, W.listOf #[Value.ref T] c), (ch, instObj 418 cd), (nl, W.listOf #[Value.int 0 t11] c2), (T, { cls := Value.type "tuple", data := Data.seq #[Value.str (Str.ofString "write") t9, Value.int at_ t1, Value.bytes x.toArray t10] }), (cd, dictOf e_cd 2)] := ⟨B, F, X, (ns_cons N m0 (ns_cons N m1 (ns_cons N m2 (ns_cons N m3 (ns_cons N m4 (ns_cons N m5 (ns_cons N (upd_mem (U 0)) ns_nil))))))), T', kk⟩
  have F0 := F
  have N0 := N
  have znd := nd0
  clear B F X N T' kk
  refine wpC_call ?_
  k_dflt (refine' enterC (s := ⟨hp, g, dr, tk, os⟩) (led := [(f, instObj 390 fd), (fd, dictOf e_fd 5), (p, W.listOf #[Value.ref T] c), (ch, instObj 418 cd), (nl, W.listOf #[Value.int 0 t11] c2), (T, { cls := Value.type "tuple", data := Data.seq #[Value.str (Str.ofString "write") t9, Value.int at_ t1, Value.bytes x.toArray t10] }), (cd, dictOf e_cd 2)]) (binds := [(Str.ofString "self", .ref f), (Str.ofString "numbers", .ref ch), (Str.ofString "sector", .int 8 t2)]) ?kS ?k6 ?k7 ?k8 ?k9 ?kB ?_ ?c2 ?c3 ?c4 ?c5; walk_at "cell_enterC")
  rename ∀ b o, _ → b ∉ List.map _ _ → _ => kg0
  k_steps
  rename ∀ b o, _ → _ => kK0
  rename News _ _ _ _ => kN0
  have kq := keep_led (ch := [cd]) kg0 kK0 S.N kN0 (by walk_at "q_sb")
  refine' hret _ _ _ _ (ne_new N0 ?h4) ?F (news_cons F0 ?nn ?e1 ?h4)
  case e1 => exact News.get kN0 (by k_mem)
  case F => exact frK F0 N0 kq (upd_memA (U 0))
  case nn => exact upd1 N0 kq (News.get kN0 (by k_mem)) (U _)
  case h4 => exact fresh_in kg0 kN0 (by k_mem) znd (as := [f, fd, p, ch, nl, T, cd]) rfl (by walk_at "q_sub")

end
end
section
def kp_lines9 : List String := ["wpC"]
theorem setup_lines9 : True := by
  (k_with "lines9|wpC" => (k_here; (with_reducible show wpC _ _ (call (Value.ref 465) _) _ _ _); k_dflt (refine' open_db ?B ?F ?X ?N ?T ?kk ?hd ?m1 ?m2 ?U ?n1 ?lo ?hfs ?_; (case B => k_asm); (case F => k_asm); (case X => k_asm); (case N => k_asm); (case T => k_asm); (case kk => rfl); (case hd => ktr_room); (case m1 => k_mem); (case m2 => k_mem); (case U => k_updF); (case n1 => walk_at "nd_pick"); (case lo => assumption); (case hfs => assumption); k_whole); intro zf' zfd' zp' zn' zofs' _ _ _ _ _ _ _ zh' _ znd2 zhfs' zF' zN'; (try dsimp only at zN'); (replace znd := znd2 _ znd rfl); clear znd2; (try k_sweep)))
  (k_with "lines9|wpC" => (k_here; (with_reducible show wpC _ _ (call (Value.ref 465) _) _ _ _); k_dflt (refine' open_j ?B ?F ?X ?N ?T ?kk ?hd ?m1 ?m2 ?U ?n1 ?lo ?hfs ?_; (case B => k_asm); (case F => k_asm); (case X => k_asm); (case N => k_asm); (case T => k_asm); (case kk => rfl); (case hd => ktr_room); (case m1 => k_mem); (case m2 => k_mem); (case U => k_updF); (case n1 => walk_at "nd_pick"); (case lo => assumption); (case hfs => assumption); k_whole); intro zf' zfd' zp' zn' zofs' _ _ _ _ _ _ _ zh' _ znd2 zhfs' zF' zN'; (try dsimp only at zN'); (replace znd := znd2 _ znd rfl); clear znd2; (try k_sweep)))
  trivial
def kp_lines12 : List String := ["wpC"]
theorem setup_lines12 : True := by
  (k_with "lines12|wpC" => (k_here; (with_reducible show wpC _ _ (call (Value.ref 387) _) _ _ _); k_dflt (refine' surv0_k ?B ?F ?X ?N ?T ?kk ?hd ?hu ?h2 ?ht0 ?ht1 ?m0 ?m1 ?m2 ?m3 ?m4 ?m5 ?nd0 ?_; (case B => k_asm); (case F => k_asm); (case X => k_asm); (case N => k_asm); (case T => k_asm); (case kk => rfl); (case hd => ktr_room); (case m0 => k_mem); (case m1 => k_mem); (case m2 => k_mem); (case m3 => k_mem); (case m4 => k_mem); (case m5 => k_mem); (case hu => walk_at "units"); (case h2 => walk_at "b_sz"); (case ht0 => omega); (case ht1 => omega); (case nd0 => walk_at "nd_pick"); k_whole); intro zd' _ zh' _ zl1 zF' zN'; (try k_lt zl1); (try k_sweep)))
  (k_with "lines12|wpC" => (k_here; (with_reducible show wpC _ _ (call (Value.ref 387) _) _ _ _); k_dflt (refine' surv1_k ?B ?F ?X ?N ?T ?kk ?hd ?hu ?h2 ?ht0 ?ht1 ?m0 ?m1 ?m2 ?m3 ?m4 ?m5 ?U ?nd0 ?_; (case B => k_asm); (case F => k_asm); (case X => k_asm); (case N => k_asm); (case T => k_asm); (case kk => rfl); (case hd => ktr_room); (case m0 => k_mem); (case m1 => k_mem); (case m2 => k_mem); (case m3 => k_mem); (case m4 => k_mem); (case m5 => k_mem); (case U => intro zt; k_upd); (case hu => walk_at "units"); (case h2 => walk_at "b_sz"); (case ht0 => omega); (case ht1 => omega); (case nd0 => walk_at "nd_pick"); k_whole); intro zd' _ zh' _ zl1 zF' zN'; (try dsimp only at zN'); (try k_lt zl1); (try k_sweep)))
  trivial
local macro_rules | `(tactic| walk_at $s:str) => do
  let xs := (rowsFor [("linesK", kp_linesK), ("linesG", kp_linesG), ("lines12", kp_lines12), ("lines9", kp_lines9), ("pre3", kp_pre3)] s.getString).reverse
  let x :: r := xs | Lean.Macro.throwUnsupported
  let y := Lean.Syntax.mkStrLit x
  let mut t ← `(tactic| k_extra $y)
  for z in r do
    let y := Lean.Syntax.mkStrLit z
    t ← `(tactic| first | k_extra $y | ($t:tactic))
  return t
section
variable {w : World} {mean : ExcName → Option Value} {mg mb : Str → Option Value} {dp un : Nat} {gd : Option (List Code)} {cn : Str} {cs : Scope} {L a : Addr} {ccd : Value} {cl : List (Str × Addr)} {outer : List Env} {A₀ : Around} {base h₀ : Heap} {m : Str → Option Value} {s : Shared} {led : List (Addr × Obj)} {Q E : Value → Shared → Prop}


theorem primer_C13 (w : World) (h : Heap) : (Mine.hd.heap_39 w.params).In h → (PySem.Challenge.rw_pb0455_01.Holds → True) := by
  k_fill
  intros; trivial

theorem all6 {l : List (Addr × Obj)} {a b c d e f : Addr} (h1 : ∀ q ∈ l, q.1 ≠ a) (h2 : ∀ q ∈ l, q.1 ≠ b) (h3 : ∀ q ∈ l, q.1 ≠ c) (h4 : ∀ q ∈ l, q.1 ≠ d) (h5 : ∀ q ∈ l, q.1 ≠ e) (h6 : ∀ q ∈ l, q.1 ≠ f) : ∀ x ∈ [a, b, c, d, e, f], ∀ q ∈ l, q.1 ≠ x := fun x hx => by
  simp only [List.mem_cons, List.not_mem_nil, or_false] at hx
  rcases hx with rfl | rfl | rfl | rfl | rfl | rfl <;> assumption

theorem survivor_k {E : Value → Shared → Prop} {Q : Value → Shared → Prop} {hp : Heap} {g : Array GenState} {dr : Drawn} {tk : Nat} {os : OsState} {news : List (Addr × Obj)} {dk dd fs sh lk f fd p n j jd pj nj T nl : Addr} {ofs : Obj} {st at_ : Int} {sy x : List UInt8} {c cj c2 : Nat} {q1 q2 q3 q4 q5 q6 q7 a1 a2 a3 a4 a5 b1 b2 b3 b4 b5 t5 t6 t7 t8 t9 t10 t11 t12 t13 t14 : Tok}
    (B : Below A₀ base outer h₀) (F : Fr h₀ L hp m) (X : (Mine.hd.heap_39 w.params).In h₀) (N : News h₀ L hp news) (T' : Top VW LO mean mg mb h₀) (kk : cs.kind = .function)
    (hd : dp + 20 < recursionLimit) (hu : un + 60 < cLine) (m0 : (dk, instObj 489 dd) ∈ news) (m1 : (dd, dictOf [{ hash := PyData.keyHash w.params (Str.ofString "sector"), key := Value.str (Str.ofString "sector") q1, val := Value.int 8 t5 }, { hash := PyData.keyHash w.params (Str.ofString "room"), key := Value.str (Str.ofString "room") q2, val := Value.none }, { hash := PyData.keyHash w.params (Str.ofString "files"), key := Value.str (Str.ofString "files") q3, val := Value.ref fs }, { hash := PyData.keyHash w.params (Str.ofString "steps"), key := Value.str (Str.ofString "steps") q4, val := Value.int st t6 }, { hash := PyData.keyHash w.params (Str.ofString "crash_at"), key := Value.str (Str.ofString "crash_at") q5, val := Value.none }, { hash := PyData.keyHash w.params (Str.ofString "shared"), key := Value.str (Str.ofString "shared") q6, val := Value.ref sh }, { hash := PyData.keyHash w.params (Str.ofString "locks"), key := Value.str (Str.ofString "locks") q7, val := Value.ref lk }] 7) ∈ news) (m2 : (fs, ofs) ∈ news) (m3 : (f, instObj 390 fd) ∈ news) (m4 : (fd, dictOf [{ hash := PyData.keyHash w.params (Str.ofString "disk"), key := Value.str (Str.ofString "disk") a1, val := Value.ref dk }, { hash := PyData.keyHash w.params (Str.ofString "name"), key := Value.str (Str.ofString "name") a2, val := Value.str (Str.ofString "db") t7 }, { hash := PyData.keyHash w.params (Str.ofString "synced"), key := Value.str (Str.ofString "synced") a3, val := Value.bytes sy.toArray t8 }, { hash := PyData.keyHash w.params (Str.ofString "pending"), key := Value.str (Str.ofString "pending") a4, val := Value.ref p }, { hash := PyData.keyHash w.params (Str.ofString "now"), key := Value.str (Str.ofString "now") a5, val := Value.ref n }] 5) ∈ news) (m5 : (p, W.listOf #[] c) ∈ news) (m6 : (j, instObj 390 jd) ∈ news) (m7 : (jd, dictOf [{ hash := PyData.keyHash w.params (Str.ofString "disk"), key := Value.str (Str.ofString "disk") b1, val := Value.ref dk }, { hash := PyData.keyHash w.params (Str.ofString "name"), key := Value.str (Str.ofString "name") b2, val := Value.str (Str.ofString "db-journal") t9 }, { hash := PyData.keyHash w.params (Str.ofString "synced"), key := Value.str (Str.ofString "synced") b3, val := Value.bytes #[] t10 }, { hash := PyData.keyHash w.params (Str.ofString "pending"), key := Value.str (Str.ofString "pending") b4, val := Value.ref pj }, { hash := PyData.keyHash w.params (Str.ofString "now"), key := Value.str (Str.ofString "now") b5, val := Value.ref nj }] 5) ∈ news) (m8 : (pj, W.listOf #[Value.ref T] cj) ∈ news) (m9 : (T, { cls := Value.type "tuple", data := Data.seq #[Value.str (Str.ofString "write") t11, Value.int at_ t12, Value.bytes x.toArray t13] }) ∈ news) (m10 : (nl, W.listOf #[Value.int 0 t14] c2) ∈ news) (h2 : sy.length ≤ 4194304) (nd0 : NdA [dk, dd, fs, f, fd, p, j, jd, pj, T, nl]) (lo : (fs == sysModules) = false)
    (hfs : ofs.IsDictOf (PySem.strKind PG w) [(Str.ofString "db", .ref f), (Str.ofString "db-journal", .ref j)])
    (hret : ∀ (o2 od fs2 f2 f2d ba2 p2 j2 sh2 lk2 : Addr) (ofs2 : Obj) (u1 u2 u3 u4 u5 u6 u7 u8 u9 v1 v2 v3 v4 v5 v6 v7 : Tok) h' tk', (fs2 == sysModules) = false → ofs2.IsDictOf (PySem.strKind PG w) [(Str.ofString "db", .ref f2), (Str.ofString "db-journal", .ref j2)] →
      (∀ Lx, NdA Lx → news.map (·.1) = Lx → NdA (ba2 :: f2 :: f2d :: fs2 :: o2 :: od :: Lx)) → Fr h₀ L h' m →
      News h₀ L h' ((ba2, baObj sy) :: (f2, instObj 390 f2d) :: (f2d, dictOf [{ hash := PyData.keyHash w.params (Str.ofString "disk"), key := Value.str (Str.ofString "disk") u5, val := Value.ref o2 }, { hash := PyData.keyHash w.params (Str.ofString "name"), key := Value.str (Str.ofString "name") u6, val := Value.str (Str.ofString "db") u3 }, { hash := PyData.keyHash w.params (Str.ofString "synced"), key := Value.str (Str.ofString "synced") u7, val := Value.bytes sy.toArray u4 }, { hash := PyData.keyHash w.params (Str.ofString "pending"), key := Value.str (Str.ofString "pending") u8, val := Value.ref p2 }, { hash := PyData.keyHash w.params (Str.ofString "now"), key := Value.str (Str.ofString "now") u9, val := Value.ref ba2 }] 5) :: (fs2, ofs2) :: (o2, instObj 489 od) :: (od, dictOf [{ hash := PyData.keyHash w.params (Str.ofString "sector"), key := Value.str (Str.ofString "sector") v1, val := Value.int 8 u1 }, { hash := PyData.keyHash w.params (Str.ofString "room"), key := Value.str (Str.ofString "room") v2, val := Value.none }, { hash := PyData.keyHash w.params (Str.ofString "files"), key := Value.str (Str.ofString "files") v3, val := Value.ref fs2 }, { hash := PyData.keyHash w.params (Str.ofString "steps"), key := Value.str (Str.ofString "steps") v4, val := Value.int 0 u2 }, { hash := PyData.keyHash w.params (Str.ofString "crash_at"), key := Value.str (Str.ofString "crash_at") v5, val := Value.none }, { hash := PyData.keyHash w.params (Str.ofString "shared"), key := Value.str (Str.ofString "shared") v6, val := Value.ref sh2 }, { hash := PyData.keyHash w.params (Str.ofString "locks"), key := Value.str (Str.ofString "locks") v7, val := Value.ref lk2 }] 7) :: news) → Q (.ref o2) ⟨h', g, dr, tk', os⟩) :
    wpC (model PySem.Challenge.rw_pb0455_01.row.prog w) (ktrTop dp un gd cn cs L a ccd cl outer) (call (.ref 479) [.ref dk, .ref nl]) Q E ⟨hp, g, dr, tk, os⟩ := by
  let e_dd : List DictEntry := [{ hash := PyData.keyHash w.params (Str.ofString "sector"), key := Value.str (Str.ofString "sector") q1, val := Value.int 8 t5 }, { hash := PyData.keyHash w.params (Str.ofString "room"), key := Value.str (Str.ofString "room") q2, val := Value.none }, { hash := PyData.keyHash w.params (Str.ofString "files"), key := Value.str (Str.ofString "files") q3, val := Value.ref fs }, { hash := PyData.keyHash w.params (Str.ofString "steps"), key := Value.str (Str.ofString "steps") q4, val := Value.int st t6 }, { hash := PyData.keyHash w.params (Str.ofString "crash_at"), key := Value.str (Str.ofString "crash_at") q5, val := Value.none }, { hash := PyData.keyHash w.params (Str.ofString "shared"), key := Value.str (Str.ofString "shared") q6, val := Value.ref sh }, { hash := PyData.keyHash w.params (Str.ofString "locks"), key := Value.str (Str.ofString "locks") q7, val := Value.ref lk }]
  let e_fd : List DictEntry := [{ hash := PyData.keyHash w.params (Str.ofString "disk"), key := Value.str (Str.ofString "disk") a1, val := Value.ref dk }, { hash := PyData.keyHash w.params (Str.ofString "name"), key := Value.str (Str.ofString "name") a2, val := Value.str (Str.ofString "db") t7 }, { hash := PyData.keyHash w.params (Str.ofString "synced"), key := Value.str (Str.ofString "synced") a3, val := Value.bytes sy.toArray t8 }, { hash := PyData.keyHash w.params (Str.ofString "pending"), key := Value.str (Str.ofString "pending") a4, val := Value.ref p }, { hash := PyData.keyHash w.params (Str.ofString "now"), key := Value.str (Str.ofString "now") a5, val := Value.ref n }]
  let e_jd : List DictEntry := [{ hash := PyData.keyHash w.params (Str.ofString "disk"), key := Value.str (Str.ofString "disk") b1, val := Value.ref dk }, { hash := PyData.keyHash w.params (Str.ofString "name"), key := Value.str (Str.ofString "name") b2, val := Value.str (Str.ofString "db-journal") t9 }, { hash := PyData.keyHash w.params (Str.ofString "synced"), key := Value.str (Str.ofString "synced") b3, val := Value.bytes #[] t10 }, { hash := PyData.keyHash w.params (Str.ofString "pending"), key := Value.str (Str.ofString "pending") b4, val := Value.ref pj }, { hash := PyData.keyHash w.params (Str.ofString "now"), key := Value.str (Str.ofString "now") b5, val := Value.ref nj }]
  have S : Site w mean mg mb outer A₀ base h₀ L m cs hp [(dk, instObj 489 dd), (dd, dictOf e_dd 7), (fs, ofs), (f, instObj 390 fd), (fd, dictOf e_fd 5), (p, W.listOf #[] c), (j, instObj 390 jd), (jd, dictOf e_jd 5), (pj, W.listOf #[Value.ref T] cj), (T, { cls := Value.type "tuple", data := Data.seq #[Value.str (Str.ofString "write") t11, Value.int at_ t12, Value.bytes x.toArray t13] }), (nl, W.listOf #[Value.int 0 t14] c2)] := ⟨B, F, X, (ns_cons N m0 (ns_cons N m1 (ns_cons N m2 (ns_cons N m3 (ns_cons N m4 (ns_cons N m5 (ns_cons N m6 (ns_cons N m7 (ns_cons N m8 (ns_cons N m9 (ns_cons N m10 ns_nil))))))))))), T', kk⟩
  have F0 := F
  have N0 := N
  have znd := nd0
  clear B F X N T' kk nd0
  refine wpC_call ?_
  k_dflt (refine' enterC (s := ⟨hp, g, dr, tk, os⟩) (led := [(dk, instObj 489 dd), (dd, dictOf e_dd 7), (fs, ofs), (f, instObj 390 fd), (fd, dictOf e_fd 5), (p, W.listOf #[] c), (j, instObj 390 jd), (jd, dictOf e_jd 5), (pj, W.listOf #[Value.ref T] cj), (T, { cls := Value.type "tuple", data := Data.seq #[Value.str (Str.ofString "write") t11, Value.int at_ t12, Value.bytes x.toArray t13] }), (nl, W.listOf #[Value.int 0 t14] c2)]) (binds := [(Str.ofString "self", .ref dk), (Str.ofString "choices", .ref nl)]) ?kS ?k6 ?k7 ?k8 ?k9 ?kB ?_ ?c2 ?c3 ?c4 ?c5; walk_at "cell_enterC")
  rename ∀ b o, _ → b ∉ List.map _ _ → _ => kg0
  k_steps
  rename ∀ b o, _ → _ => kK0
  rename News _ _ _ _ => kN0
  have kq := keep_led (ch := []) kg0 kK0 S.N kN0 (by walk_at "q_sb")
  refine' hret _ _ _ _ _ _ _ _ _ _ _ _ _ _ _ _ _ _ _ _ _ _ _ _ _ _ _ _ _ ?lo ?dd ?nd (frK (as := []) F0 N0 kq (fun _ q => nomatch q)) (news_cons F0 (news_cons F0 (news_cons F0 (news_cons F0 (news_cons F0 (news_cons F0 (keep0 N0 kq) ?e6 ?h6) ?e5 ?h5) ?e4 ?h4) ?e3 ?h3) ?e2 ?h2) ?e1 ?h1)
  case e5 => exact News.get kN0 (by k_mem)
  case e6 => exact News.get kN0 (by k_mem)
  case e4 => exact News.get kN0 (by k_mem)
  case e3 => exact News.get kN0 (by k_mem)
  case e2 => exact News.get kN0 (by k_mem)
  case e1 => exact News.get kN0 (by k_mem)
  case lo => assumption
  case dd => assumption
  case h1 => exact fresh_in kg0 kN0 (by k_mem) znd (as := [dk, dd, fs, f, fd, p, j, jd, pj, T, nl]) rfl (by walk_at "q_sub")
  case h2 => exact fresh_in kg0 kN0 (by k_mem) znd (as := [dk, dd, fs, f, fd, p, j, jd, pj, T, nl]) rfl (by walk_at "q_sub")
  case h3 => exact fresh_in kg0 kN0 (by k_mem) znd (as := [dk, dd, fs, f, fd, p, j, jd, pj, T, nl]) rfl (by walk_at "q_sub")
  case h4 => exact fresh_in kg0 kN0 (by k_mem) znd (as := [dk, dd, fs, f, fd, p, j, jd, pj, T, nl]) rfl (by walk_at "q_sub")
  case h5 => exact fresh_in kg0 kN0 (by k_mem) znd (as := [dk, dd, fs, f, fd, p, j, jd, pj, T, nl]) rfl (by walk_at "q_sub")
  case h6 => exact fresh_in kg0 kN0 (by k_mem) znd (as := [dk, dd, fs, f, fd, p, j, jd, pj, T, nl]) rfl (by walk_at "q_sub")
  case nd =>
    intro Lx n e
    refine' nd_app (new := [_, _, _, _, _, _]) ?q4 (all6 (ne_new N0 ?a1) (ne_new N0 ?a2) (ne_new N0 ?a3) (ne_new N0 ?a4) (ne_new N0 ?a5) (ne_new N0 ?a6)) n e
    case q4 => clear n e; walk_at "nd_pick"
    all_goals clear n e
    all_goals exact fresh_in kg0 kN0 (by k_mem) znd (as := [dk, dd, fs, f, fd, p, j, jd, pj, T, nl]) rfl (by walk_at "q_sub")

end
end
section
local macro_rules | `(tactic| walk_at "odd part") => `(tactic| skip)
local macro_rules | `(tactic| walk_at $s:str) => do
  let xs := (rowsFor [("linesK", kp_linesK), ("lines2", kp_lines2), ("pre3", kp_pre3)] s.getString).reverse
  let x :: r := xs | Lean.Macro.throwUnsupported
  let y := Lean.Syntax.mkStrLit x
  let mut t ← `(tactic| k_extra $y)
  for z in r do
    let y := Lean.Syntax.mkStrLit z
    t ← `(tactic| first | k_extra $y | ($t:tactic))
  return t
section
variable {w : World} {mean : ExcName → Option Value} {mg mb : Str → Option Value} {dp un : Nat} {gd : Option (List Code)} {cn : Str} {cs : Scope} {L a : Addr} {ccd : Value} {cl : List (Str × Addr)} {outer : List Env} {A₀ : Around} {base h₀ : Heap} {m : Str → Option Value} {s : Shared} {led : List (Addr × Obj)} {Q E : Value → Shared → Prop}


theorem primer_C22 (w : World) (h : Heap) : (Mine.hd.heap_39 w.params).In h → (PySem.Challenge.rw_pb0455_01.Holds → True) := by
  k_fill
  intros; trivial

theorem upd_of_F {d : Addr} {o o' : Obj} : ∀ {l : List (Addr × Obj)} {g : Obj → List (Addr × Obj)}, UpdF d o l g → Upd d o o' l (g o')
  | _, _, .head h => .head h
  | _, _, .tail h r => .tail h (upd_of_F r)

theorem finish_k {E : Value → Shared → Prop} {Q : Value → Shared → Prop} {hp : Heap} {g : Array GenState} {dr : Drawn} {tk : Nat} {os : OsState} {news : List (Addr × Obj)} {jn jx dk dd fs sh lk f j : Addr} {ofs : Obj} {st : Int} {q1 q2 q3 q4 q5 q6 q7 t5 t6 g1 g2 g3 g4 g5 g6 gt2 gt3 gt4 gt5 gt6 : Tok} {n1 : Tok → Tok → List (Addr × Obj)} {n2 : Tok → Tok → Obj → List (Addr × Obj)}
    (B : Below A₀ base outer h₀) (F : Fr h₀ L hp m) (X : (Mine.hd.heap_39 w.params).In h₀) (N : News h₀ L hp news) (T' : Top VW LO mean mg mb h₀) (kk : cs.kind = .function) (hd : dp + 16 < recursionLimit) (m0 : (jn, instObj 185 jx) ∈ news) (m1 : (jx, dictOf [{ hash := PyData.keyHash w.params (Str.ofString "disk"), key := Value.str (Str.ofString "disk") g1, val := Value.ref dk }, { hash := PyData.keyHash w.params (Str.ofString "name"), key := Value.str (Str.ofString "name") g2, val := Value.str (Str.ofString "db-journal") gt2 }, { hash := PyData.keyHash w.params (Str.ofString "page_size"), key := Value.str (Str.ofString "page_size") g3, val := Value.int 64 gt3 }, { hash := PyData.keyHash w.params (Str.ofString "nonce"), key := Value.str (Str.ofString "nonce") g4, val := Value.int 0 gt4 }, { hash := PyData.keyHash w.params (Str.ofString "count"), key := Value.str (Str.ofString "count") g5, val := Value.int 0 gt5 }, { hash := PyData.keyHash w.params (Str.ofString "safe"), key := Value.str (Str.ofString "safe") g6, val := Value.int 4294967295 gt6 }] 6) ∈ news) (m2 : (dk, instObj 489 dd) ∈ news) (m3 : (dd, dictOf [{ hash := PyData.keyHash w.params (Str.ofString "sector"), key := Value.str (Str.ofString "sector") q1, val := Value.int 8 t5 }, { hash := PyData.keyHash w.params (Str.ofString "room"), key := Value.str (Str.ofString "room") q2, val := Value.none }, { hash := PyData.keyHash w.params (Str.ofString "files"), key := Value.str (Str.ofString "files") q3, val := Value.ref fs }, { hash := PyData.keyHash w.params (Str.ofString "steps"), key := Value.str (Str.ofString "steps") q4, val := Value.int st t6 }, { hash := PyData.keyHash w.params (Str.ofString "crash_at"), key := Value.str (Str.ofString "crash_at") q5, val := Value.none }, { hash := PyData.keyHash w.params (Str.ofString "shared"), key := Value.str (Str.ofString "shared") q6, val := Value.ref sh }, { hash := PyData.keyHash w.params (Str.ofString "locks"), key := Value.str (Str.ofString "locks") q7, val := Value.ref lk }] 7) ∈ news) (m4 : (fs, ofs) ∈ news) (nd0 : NdA [jn, jx, dk, dd, fs]) (lo : (fs == sysModules) = false) (hfs : ofs.IsDictOf (PySem.strKind PG w) [(Str.ofString "db", .ref f), (Str.ofString "db-journal", .ref j)])
    (U1 : ∀ s0 s1, Upd dd (dictOf [{ hash := PyData.keyHash w.params (Str.ofString "sector"), key := Value.str (Str.ofString "sector") q1, val := Value.int 8 t5 }, { hash := PyData.keyHash w.params (Str.ofString "room"), key := Value.str (Str.ofString "room") q2, val := Value.none }, { hash := PyData.keyHash w.params (Str.ofString "files"), key := Value.str (Str.ofString "files") q3, val := Value.ref fs }, { hash := PyData.keyHash w.params (Str.ofString "steps"), key := Value.str (Str.ofString "steps") q4, val := Value.int st t6 }, { hash := PyData.keyHash w.params (Str.ofString "crash_at"), key := Value.str (Str.ofString "crash_at") q5, val := Value.none }, { hash := PyData.keyHash w.params (Str.ofString "shared"), key := Value.str (Str.ofString "shared") q6, val := Value.ref sh }, { hash := PyData.keyHash w.params (Str.ofString "locks"), key := Value.str (Str.ofString "locks") q7, val := Value.ref lk }] 7) (dictOf [{ hash := PyData.keyHash w.params (Str.ofString "sector"), key := Value.str (Str.ofString "sector") q1, val := Value.int 8 s0 }, { hash := PyData.keyHash w.params (Str.ofString "room"), key := Value.str (Str.ofString "room") q2, val := Value.none }, { hash := PyData.keyHash w.params (Str.ofString "files"), key := Value.str (Str.ofString "files") q3, val := Value.ref fs }, { hash := PyData.keyHash w.params (Str.ofString "steps"), key := Value.str (Str.ofString "steps") q4, val := Value.int (st + 1) s1 }, { hash := PyData.keyHash w.params (Str.ofString "crash_at"), key := Value.str (Str.ofString "crash_at") q5, val := Value.none }, { hash := PyData.keyHash w.params (Str.ofString "shared"), key := Value.str (Str.ofString "shared") q6, val := Value.ref sh }, { hash := PyData.keyHash w.params (Str.ofString "locks"), key := Value.str (Str.ofString "locks") q7, val := Value.ref lk }] 7) news (n1 s0 s1)) (U2 : ∀ s0 s1, UpdF fs ofs (n1 s0 s1) (n2 s0 s1))
    (hret : ∀ s0 s1 ofs' h' tk', ofs'.IsDictOf (PySem.strKind PG w) [(Str.ofString "db", .ref f)] → Fr h₀ L h' m → News h₀ L h' (n2 s0 s1 ofs') → Q .none ⟨h', g, dr, tk', os⟩) :
    wpAny (model PySem.Challenge.rw_pb0455_01.row.prog w) (ktrTop dp un gd cn cs L a ccd cl outer) (call (.ref 182) [.ref jn]) Q E ⟨hp, g, dr, tk, os⟩ := by
  let e_jx : List DictEntry := [{ hash := PyData.keyHash w.params (Str.ofString "disk"), key := Value.str (Str.ofString "disk") g1, val := Value.ref dk }, { hash := PyData.keyHash w.params (Str.ofString "name"), key := Value.str (Str.ofString "name") g2, val := Value.str (Str.ofString "db-journal") gt2 }, { hash := PyData.keyHash w.params (Str.ofString "page_size"), key := Value.str (Str.ofString "page_size") g3, val := Value.int 64 gt3 }, { hash := PyData.keyHash w.params (Str.ofString "nonce"), key := Value.str (Str.ofString "nonce") g4, val := Value.int 0 gt4 }, { hash := PyData.keyHash w.params (Str.ofString "count"), key := Value.str (Str.ofString "count") g5, val := Value.int 0 gt5 }, { hash := PyData.keyHash w.params (Str.ofString "safe"), key := Value.str (Str.ofString "safe") g6, val := Value.int 4294967295 gt6 }]
  let e_dd : List DictEntry := [{ hash := PyData.keyHash w.params (Str.ofString "sector"), key := Value.str (Str.ofString "sector") q1, val := Value.int 8 t5 }, { hash := PyData.keyHash w.params (Str.ofString "room"), key := Value.str (Str.ofString "room") q2, val := Value.none }, { hash := PyData.keyHash w.params (Str.ofString "files"), key := Value.str (Str.ofString "files") q3, val := Value.ref fs }, { hash := PyData.keyHash w.params (Str.ofString "steps"), key := Value.str (Str.ofString "steps") q4, val := Value.int st t6 }, { hash := PyData.keyHash w.params (Str.ofString "crash_at"), key := Value.str (Str.ofString "crash_at") q5, val := Value.none }, { hash := PyData.keyHash w.params (Str.ofString "shared"), key := Value.str (Str.ofString "shared") q6, val := Value.ref sh }, { hash := PyData.keyHash w.params (Str.ofString "locks"), key := Value.str (Str.ofString "locks") q7, val := Value.ref lk }]
  have S : Site w mean mg mb outer A₀ base h₀ L m cs hp [(jn, instObj 185 jx), (jx, dictOf e_jx 6), (dk, instObj 489 dd), (dd, dictOf e_dd 7), (fs, ofs)] := ⟨B, F, X, (ns_cons N m0 (ns_cons N m1 (ns_cons N m2 (ns_cons N m3 (ns_cons N m4 ns_nil))))), T', kk⟩
  have F0 := F
  have N0 := N
  have znd := nd0
  clear B F X N T' kk nd0
  refine wpAny_call ?_
  k_dflt (refine' enterZ (s := ⟨hp, g, dr, tk, os⟩) (led := [(jn, instObj 185 jx), (jx, dictOf e_jx 6), (dk, instObj 489 dd), (dd, dictOf e_dd 7), (fs, ofs)]) (binds := [(Str.ofString "self", .ref jn)]) ?kS ?k6 ?k7 ?k8 ?k9 ?kB ?_ ?c2 ?c3 ?c4 ?c5; walk_at "cell_enterZ")
  rename ∀ b o, _ → b ∉ List.map _ _ → _ => kg0
  k_steps
  rename ∀ b o, _ → _ => kK0
  rename News _ _ _ _ => kN0
  have kq := keep_led (ch := [dd, fs]) kg0 kK0 S.N kN0 (by walk_at "q_sb")
  refine' hret _ _ _ _ _ (by assumption) (frK F0 N0 kq ?fa) (news2 N0 kq (U1 _ _) (upd_of_F (U2 _ _)) ?g1 ?g2)
  case g1 => exact News.get kN0 (by k_mem)
  case g2 => exact News.get kN0 (by k_mem)
  case fa =>
    exact (mm_cons m3 (mm_cons m4 mm_nil))

end
end
end Mine
end
section
open PySem PySem.Calls
open Sem (wp)
set_option Elab.async false
set_option linter.unusedVariables false
set_option maxRecDepth 100000
namespace Mine
section
variable {prog : Program} {w : World} {A : Around} {E : Value → Shared → Prop} {R : Result → Shared → Prop} {h : Heap} {g : Array GenState} {d : Drawn} {t : Nat} {os : OsState}
variable {nm q : Str} {C N : Addr} {bs bm : List Value} {hdct : Bool} {sn : List Str} {sub : List Value} {ab : Bool} {col : Option Bool} {dd : Option Addr} {k0 k1 k2 k3 k5 : Option Value} {B newId initId : String} {bmB : List Value}
theorem x_check_new (Fn : ExcBaseFacts B newId initId bmB) (hB : bm.contains (.type B) = true) {M : Model} {rest : List Value} {Q : Unit → Shared → Prop} (hC : h.get? C = some (excClassObj nm q C N bs bm hdct sn sub ab col dd k0 k1 k2 k3 k5 newId))
    (hq : Q () ⟨h, g, d, t, os⟩) : wpAny M A (checkBuiltinCall newId ⟨.ref C :: rest, []⟩) Q E ⟨h, g, d, t, os⟩ := by
  have hcont : (Value.ref C :: bm).contains (.type B) = true := by rw [List.contains_cons, hB, Bool.or_true]
  have hstar := Fn.noStar
  simp only [checkBuiltinCall, Fn.newKind, Fn.newSplit, Fn.newRow]
  repeat (first | refine wpAny_loadPart_at hC ?_ | (refine wpAny_isSubtype_exc hC ?_; rw [hcont]) | refine wpAny_staticBase_exc hC ?_ | refine wpAny_madeBy_exc hC ?_ | simp only [bne_self_eq_false, Bool.false_eq_true, if_false] | wp_step)
  exact hq
theorem x_new (Fn : ExcBaseFacts B newId initId bmB) (hB : bm.contains (.type B) = true) (hA : bm.contains (.type "AttributeError") = false) (hN : bm.contains (.type "NameError") = false) {rest : List Value} (hC : h.get? C = some (excClassObj nm q C N bs bm hdct sn sub ab col dd k0 k1 k2 k3 k5 newId))
    (hq : R (.ok (.ret (.ref (h.objs.size + 1)))) ⟨(h.push { cls := .type "tuple", data := .seq rest.toArray }).push
      { cls := .ref C, data := .fields #[.ref h.objs.size, .none, .none, .none, .bool false, .none] }, g, d, t, os⟩) (hrest : rest.length ≤ sizeLine) :
    codeAny (model prog w) A (.builtin newId ⟨.ref C :: rest, []⟩) R ⟨h, g, d, t, os⟩ := by
  have hends := Fn.ends
  have hcB : (Value.ref C :: bm).contains (.type B) = true := by rw [List.contains_cons, hB, Bool.or_true]
  have hcA : (Value.ref C :: bm).contains (.type "AttributeError") = false := by rw [List.contains_cons, hA]; rfl
  have hcN : (Value.ref C :: bm).contains (.type "NameError") = false := by rw [List.contains_cons, hN]; rfl
  refine codeAny_builtinAt Fn.entry ?_
  unfold Builtin.«BaseException.__new__»
  refine PySem.wpAt_bind ?_
  show PySem.wpAt _ _ _ (stack >>= _) _ _ _
  refine PySem.wpAt_bind (PySem.wpAt_stack fun p below => PySem.wpAt_of_wpAny ?_)
  wp_walk
  refine PySem.wpAt_of_wpAny ?_
  rw [Fn.owner]
  repeat (first | with_reducible refine wpAny_madeHere_exc Fn.canon hC ?_ | with_reducible refine wpAny_loadPart_at hC ?_ | (with_reducible refine wpAny_isSubtype_exc hC ?_; first | rw [hcB] | rw [hcA] | rw [hcN]) | wp_step)
  show R _ _
  rw [Heap.size_push]
  exact hq
theorem x_type_call (Fn : ExcBaseFacts B newId initId bmB) (hB : bm.contains (.type B) = true) (hA : bm.contains (.type "AttributeError") = false) (hN : bm.contains (.type "NameError") = false) {rest : List Value} {fI : Addr} {oI : Obj} {Q : PySem.Fin → Shared → Prop}
    (hC : h.get? C = some (excClassObj nm q C N bs bm hdct sn sub ab col dd k0 k1 k2 k3 k5 newId)) (hi : PySem.W.Looks (model prog w) h (typeLookup (.ref C) "__init__") (some (.ref fI)))
    (hfI : h.get? fI = some oI) (hfc : oI.cls = .type "function")
    (hq : ∀ h' e, Heap.MadeExcOf h h' e (.ref C) rest →
      wpAny (model prog w) A (call (.ref fI) (.ref e :: rest)) (fun r s' => r = .none ∧ Q (.done (.ret (.ref e))) s') E ⟨h', g, d, t, os⟩) (hrest : rest.length ≤ sizeLine) :
    wpAny (model prog w) A (Builtin.«type.__call__» ⟨.ref C :: rest, []⟩) Q E ⟨h, g, d, t, os⟩ := by
  repeat (first | with_reducible refine wpAny_loadPart_at hC ?_ | with_reducible refine wpAny_madeBy_exc hC ?_ | wp_step)
  refine codeAny_call_builtin_code (Code.quiet_builtin _ Fn.quiet) (x_check_new Fn hB hC ?_)
  refine x_new Fn hB hA hN hC ?_ hrest
  show wpAny _ _ _ _ _ _
  have k : ∀ b o, h.get? b = some o → ((h.push { cls := .type "tuple", data := .seq rest.toArray }).push { cls := .ref C, data := .fields #[.ref h.objs.size, .none, .none, .none, .bool false, .none] }).get? b = some o :=
    fun b o e => Heap.get?_push_of_some _ (Heap.get?_push_of_some _ e)
  have hC₁ := k _ _ hC
  have hfI₁ := k _ _ hfI
  have hget : ((h.push { cls := .type "tuple", data := .seq rest.toArray }).push
      { cls := .ref C, data := .fields #[.ref h.objs.size, .none, .none, .none, .bool false, .none] }).get? (h.objs.size + 1) = some
      { cls := .ref C, data := .fields #[.ref h.objs.size, .none, .none, .none, .bool false, .none] } := by heap_get
  have hcC : (Value.ref C :: bm).contains (.ref C) = true := by simp
  unfold isInstance
  repeat (first | with_reducible refine wpAny_loadPart_at hget ?_ | (with_reducible refine wpAny_isSubtype_exc hC₁ ?_; rw [hcC]) | wp_step)
  show wpAny _ _ (typeLookup (.ref C) _) _ _ _
  refine (hi.keeps k).at ?_
  refine wpAny_holding (wpAny_bind ?_)
  unfold bindSpecial
  refine wpAny_bind (wpAny_typeOf (T := "function") ⟨_, hfI₁, hfc⟩ ?_)
  rw [if_pos (by decide)]
  refine wpAny_pure (wpAny_bind (wpAny_mono (hq _ (h.objs.size + 1) ⟨fun b o hb => k b o hb, Heap.get?_none_of_le (Nat.le_succ _), h.objs.size, hget, Heap.get?_none_of_le (Nat.le_refl _), ?_⟩) (fun r s' hr => ?_) fun _ _ x => x))
  · exact Heap.get?_push_of_some _ (Heap.get?_push_at rfl rfl)
  · obtain ⟨rfl, hQ⟩ := hr
    wp_walk
    exact hQ
theorem x_call (Fn : ExcBaseFacts B newId initId bmB) (hB : bm.contains (.type B) = true) (hA : bm.contains (.type "AttributeError") = false) (hN : bm.contains (.type "NameError") = false) {rest : List Value} {fI : Addr} {oI : Obj} {Q : Value → Shared → Prop}
    (hC : h.get? C = some (excClassObj nm q C N bs bm hdct sn sub ab col dd k0 k1 k2 k3 k5 newId)) (hi : PySem.W.Looks (model prog w) h (typeLookup (.ref C) "__init__") (some (.ref fI)))
    (hfI : h.get? fI = some oI) (hfc : oI.cls = .type "function")
    (hq : ∀ h' e, Heap.MadeExcOf h h' e (.ref C) rest →
      wpAny (model prog w) (A.under (.builtin "type.__call__" ⟨.ref C :: rest, []⟩)) (call (.ref fI) (.ref e :: rest)) (fun r s' => r = .none ∧ Q (.ref e) s') E ⟨h', g, d, t, os⟩) (hrest : rest.length ≤ sizeLine) :
    wpAny (model prog w) A (call (.ref C) rest) Q E ⟨h, g, d, t, os⟩ := by
  have f1 := tc_lookup
  have f2 := tc_bind (.ref C)
  have hT : (⟨h, g, d, t, os⟩ : Shared).TypeIs (.ref C) "type" := ⟨_, hC, rfl⟩
  refine wpAny_call (codeAny_of_tree ?_)
  show wpAny _ _ (callAny (.ref C) _) _ _ _
  repeat (any_goals (first | assumption | with_reducible refine wpAny_loadPart_at hC ?_ | wp_step))
  refine ⟨rfl, ?_⟩
  refine codeAny_call_builtin_at (Code.quiet_builtin _ (by decide +kernel)) entry_typeCall (wpAny_check_type_call_sub hC (x_type_call Fn hB hA hN hC hi hfI hfc (fun h' e hm => ?_) hrest))
  exact hq h' e hm
end
end Mine
end
section
open PySem PySem.W PySem.Calls PyProof.Rows
set_option Elab.async false
set_option linter.unusedVariables false
set_option maxRecDepth 100000
namespace Mine
def RX (base : Heap) (l : List Env) (e : Addr) (cls : Value) (L' : Addr) (h₁ h' : Heap) : Prop :=
  ∃ B a0, base.StaysIn B ∧ (∀ b o, h₁.get? b = some o → b ≠ e → b ≠ L' → b ∉ l.filterMap (·.frame) → B.get? b = some o) ∧ Heap.FlyingW B l e cls a0 h' ∧ h₁.UpToSlots h'
section
variable {M : Model} {A : Around} {E : Value → Shared → Prop} {s' : Shared} {base g : Heap} {outer : List Env} {L' f e : Addr} {m' : Str → Option Value} {name : Str} {scope : Scope} {cd : Value} {Q : Unit → Shared → Prop}
theorem leaveX {oe : Obj} {vs : Array Value} {a0 : Value} (K : Below A base outer g) (F : Fr g L' s'.heap m') (he : s'.heap.get? e = some oe) (hd : oe.data = .fields vs) (h1 : vs[1]? = some .none) (h0 : vs[0]? = some a0) (hge : g.get? e = none)
    (hQ : ∀ h', RX base outer e oe.cls L' s'.heap h' → Q () { s' with heap := h' }) (hk : scope.kind = .function) :
    wpAny M (A.deeper (envOf name scope L' f cd)) (leaving (envOf name scope L' f cd) (.ref e)) Q E s' := by
  have K' := K.push (name := name) (a := f) (cd := cd) F hk
  have hin : ∀ env ∈ (envOf name scope L' f cd :: outer), ∀ b, env.frame = some b → b ∈ e :: (envOf name scope L' f cd :: outer).filterMap (·.frame) := fun env he b hb => .tail _ (List.mem_filterMap.mpr ⟨env, he, hb⟩)
  have hen : (hideAll s'.heap (e :: (envOf name scope L' f cd :: outer).filterMap (·.frame))).get? e = none := hideAll_none _ (.head _)
  refine wpAny_leaving_firstW (base := hideAll s'.heap (e :: (envOf name scope L' f cd :: outer).filterMap (·.frame))) K'.stack (funFrames_hide K'.frames hin) rfl he (fun b o q => of_hideAll _ q) hen hd h1 h0 fun h' hL => ?_
  obtain ⟨k1, ⟨_, _, k2⟩, k3, k4⟩ := hL
  refine hQ h' ⟨_, a0, fun b o q => hideAll_get _ (K'.stays b o q) fun hm => ?_, fun b o q n1 n2 n3 => hideAll_get _ q fun hm => ?_, ⟨k1, hen, k2, k3⟩, k4⟩
  · rcases List.mem_cons.mp hm with rfl | hm
    · rw [K.stays b o q] at hge; cases hge
    · rw [(K'.frames.mem hm).1] at q; cases q
  · rcases List.mem_cons.mp hm with z | hm
    · exact n1 z
    · rcases kts_mem hm with z | z
      · exact n2 z
      · exact n3 z
end
section
variable {prog : Program} {w : World} {A₀ : Around} {E : Value → Shared → Prop} {s' : Shared} {base h₁ : Heap} {outer : List Env} {L L' a e C : Addr} {m : Str → Option Value} {name : Str} {scope : Scope} {cd : Value}
  {b₀ : Stmt} {suite : List Stmt} {pos np : Pos} {rest : List ExceptHandler} {Q : Flow → Shared → Prop} {KF : Frag} {p : Program} {loose : List Str} {mg mb : Str → Option Value} {x : Str}
  {nm q : Str} {N : Addr} {bs bm : List Value} {hdct : Bool} {sn : List Str} {sub : List Value} {ab : Bool} {col : Option Bool} {dd : Option Addr} {k0 k1 k2 k3 k5 : Option Value} {newId : String}
theorem caughtX (hst : A₀.frames = some outer) (R : RX base (envOf name scope L a cd :: outer) e (.ref C) L' h₁ s'.heap) (ns : h₁.Ns L m) (hab : base.objs.size ≤ L) (XB : KF.In base) (T : TopRead p loose mg mb base)
    (ex : nsIn KF mainGlobals x = some (some (.ref C))) (hC : base.get? C = some (excClassObj nm q C N bs bm hdct sn sub ab col dd k0 k1 k2 k3 k5 newId)) (hb : bm.contains (.type "BaseException") = true)
    (k : ∀ h', Fr base L h' m → (∀ b o, h₁.get? b = some o → b ≠ e → b ≠ L' → b ∉ (envOf name scope L a cd :: outer).filterMap (·.frame) → h'.get? b = some o) → h₁.UpToSlots h' →
      wpAny (model prog w) ((A₀.deeper (envOf name scope L a cd)).mark (some (.ref e))) (execs (b₀ :: suite) (envOf name scope L a cd)) Q (fun _ _ => False) { s' with heap := h' })
    (hk : scope.kind = .function) (hx : (envOf name scope L a cd).kindOf x = some .globalImplicit) (hd : (x == ("__debug__" : Str)) = false) :
    wpAny (model prog w) (A₀.deeper (envOf name scope L a cd)) (noteFrame (.ref e) (envOf name scope L a cd))
      (fun _ s₂ => wpAny (model prog w) (A₀.deeper (envOf name scope L a cd)) (setFlight (.ref e) none) (fun _ s₃ =>
        wpAny (model prog w) (A₀.deeper (envOf name scope L a cd)) (handleBy (.ref e) (envOf name scope L a cd) (.ExceptHandler (some (.Name x np)) none (b₀ :: suite) pos :: rest)) Q E s₃) E s₂) E s' := by
  obtain ⟨B, a0, hB, hBh, hfl, hsm⟩ := R
  refine wpAny_looks_onW (Around.frames_deeper hst) rfl hfl fun h₄ hheld₄ hsm₄ => ?_
  refine wpAny_landsW hheld₄ fun h₅ hfl₅ hsm₅ => ?_
  have sm5 := (hsm.trans hsm₄).trans hsm₅
  have F₅ : Fr base L h₅ m := ⟨sm5.ns ns, fun b o e => hfl₅.1 b o (hB b o e), hab⟩
  obtain ⟨ob, hob, hobc⟩ := hfl₅.there
  refine wpAny_handleBy_cons (codeAny_handlers_test (name_K F₅ XB T ex ?_ hk hx hd)) (by intro q; cases q)
  refine wpAny_excMatches_sub_self (F₅.keep _ _ hC) hob hobc hb (codeAny_handlers_suite ?_)
  refine lands_againW hfl₅ fun h₆ hfl₆ hsm₆ => ?_
  exact wpAny_noRaise (k h₆ ⟨(sm5.trans hsm₆).ns ns, fun b o e => hfl₆.1 b o (hB b o e), hab⟩ (fun b o q n1 n2 n3 => hfl₆.1 b o (hBh b o q n1 n2 n3)) (sm5.trans hsm₆))
end
section
variable {w : World} {mean : ExcName → Option Value} {mg mb : Str → Option Value} {dp un : Nat} {gd : Option (List Code)} {cn : Str} {cs : Scope} {L a : Addr} {ccd : Value} {cl : List (Str × Addr)} {outer : List Env} {A₀ : Around} {base h₀ : Heap} {m : Str → Option Value} {s : Shared} {led : List (Addr × Obj)}
theorem enterR {R : Result → Shared → Prop} {name qual : Str} {params : Arguments} {body : List Stmt} {scope : Scope} {dV kV doc pm cdv ct oc : Value} {an od : Option Addr} {osl : Array (Option Value)} {f : Addr} {args : Args} {binds : List (Str × Value)}
    (S : Site w mean mg mb outer A₀ base h₀ L m cs s.heap led)
    (ho : (Mine.hd.heap_39 w.params).lookup f = some ⟨oc, od, .func (fnOf name qual params body scope dV kV doc pm an cdv ct), osl⟩) (hcd : codeIn (Mine.hd.heap_39 w.params) cdv qual = true) (hroom : dp < recursionLimit)
    (hbind : BindsTo s (fnOf name qual params body scope dV kV doc pm an cdv ct) args binds) (hloc : ∀ y ∈ binds, scope.names.lookup y.1 = some .local)
    (h : ∀ g L' h₁, Fr g L' h₁ (fun y => binds.reverse.lookup y) → News g L' h₁ led → Below (ktrTop dp un gd cn cs L a ccd cl outer) base (envX cn cs L a ccd cl :: outer) g → (Mine.hd.heap_39 w.params).In g → Top VW LO mean mg mb g →
      (∀ b o, s.heap.get? b = some o → b ∉ led.map (·.1) → g.get? b = some o) → s.heap.get? L' = none → (∀ b o, s.heap.get? b = some o → h₁.get? b = some o) →
      (let qk : Flow → Shared → Prop := fun fl s' => R (.ok (.ret (match fl with | .ret v => v | _ => .none))) s'
       let ek : Value → Shared → Prop := fun e s' => wpC (model PG w) ((ktrTop dp un gd cn cs L a ccd cl outer).deeper (envOf qual scope L' f cdv)) (leaving (envOf qual scope L' f cdv) e) (fun _ s'' => R (.error e) s'') (fun e' s'' => R (.error e') s'') s'
       wpC (model PG w) ((ktrTop dp un gd cn cs L a ccd cl outer).deeper (envOf qual scope L' f cdv)) (execs body (envOf qual scope L' f cdv)) qk ek
        { s with heap := h₁, toks := s.toks + binds.length }))
    (hco : scope.isCoroutine = false) (hgen : scope.isGenerator = false) (hk : scope.kind = .function)
    (hcell : ∀ x ∈ scope.names, x.2 ≠ .cell) : codeC (model PG w) (ktrTop dp un gd cn cs L a ccd cl outer) (.call (.ref f) args) R s := by
  obtain ⟨B, F, X₀, N, T, hke⟩ := S
  intro Γ p hc hΓ hkΓ
  obtain ⟨FG, BG, st, _⟩ := groundX (A := ktrTop dp un gd cn cs L a ccd cl outer) (env := envX cn cs L a ccd cl) (R := R) B F N rfl rfl hke
  exact codeC_call_def (fd := fnOf name qual params body scope dV kV doc pm an cdv ct) (body := body) (binds := binds) hroom ((X₀.keeps F.keep) _ _ ho) rfl (T.nolimit.keeps F.keep) (codeRec_of (X₀.keeps F.keep) hcd) rfl hbind hcell hloc (fun h₁ hns hk₁ =>
    h _ s.heap.objs.size h₁ ⟨hns, fun b o e => hk₁ b o (of_hideAll _ e), Nat.le_of_eq (hideAll_size _ _)⟩
    (fun p hp => ⟨hk₁ _ _ (N p hp).1, Nat.ne_of_lt (Heap.lt_size (N p hp).1), hideAll_none _ (List.mem_map_of_mem hp)⟩) BG (X₀.keeps st) (T.keeps st) (fun b o e n => hideAll_get _ e n) (Heap.get?_none_of_le (Nat.le_refl _)) hk₁) hco hgen hk Γ p hc hΓ hkΓ
end
end Mine
end
section
open PySem PySem.W PySem.Calls PyProof.Rows PyProof.V PySem.Spec PySem.Builtin PySem.Builtin.ObjectAttr
set_option Elab.async false
set_option linter.unusedVariables false
set_option maxRecDepth 100000
namespace Mine
section
variable {prog : Program} {w : World} {A : Around} {E : Value → Shared → Prop} {s : Shared} {K : Frag} {C x : Addr} {R : Result → Shared → Prop}
theorem refuse_exc (self : Value) : refuseLoop self "__setattr__" [.type "Exception", .type "BaseException", .type "object"] = pure () := by kernel_rfl
theorem refuse_ce (self : Value) {a b : Addr} : refuseLoop self "__setattr__" [.ref a, .ref b, .type "Exception", .type "BaseException", .type "object"] = pure () := by
  rw [refuseLoop_ref, refuseLoop_ref]; exact refuse_exc self
theorem osa_exc {ox : Obj} {name : Str} {tk : Tok} {v : Value} {cd : ClassData} {vs : Array Value} (X : K.In s.heap) (I : InstAt s.heap x ox C none) (hc : clsIn K C = some cd) (hl : ∀ self, refuseLoop self "__setattr__" cd.mro = pure ()) (hob : cd.mro.contains (.type "object") = true)
    (ht : takerIn K C name = some none) (hdd : cd.hasDict = true) (hdn : ox.dict = none) (hda : ox.data = .fields vs)
    (h : ∀ h' d k, (∀ b o, b ≠ x → s.heap.get? b = some o → h'.get? b = some o) → h'.get? x = some { ox with dict := some d } → s.heap.get? d = none → R (.ok (.ret .none)) { s with heap := h', toks := k }) :
    codeAny (model prog w) A (.call (.builtin "object.__setattr__") ⟨[.ref x, .str name tk, v], []⟩) R s := by
  have SF := PySem.F.store_object
  have ne : cd.mro.isEmpty = false := by cases q : cd.mro with | nil => rw [q] at hob; simp at hob | cons _ _ => rfl
  have sub : Looks (model prog w) s.heap (isInstance (.ref x) (.type "object")) true := I.type.andThen (looks_mroIn X (by unfold mroIn; rw [hc, Option.bind_some, if_neg (by rw [ne]; decide), hob]))
  refine codeAny_call_builtin SF.slot.plain SF.entry (@check_slot (model prog w) _ _ s "object.__setattr__" "object" "__setattr__" (.ref x) [.str name tk, v] [] _ SF.kind SF.split sub (SF.args (.ref x) (.str name tk) v) ?_)
  obtain ⟨attr, ha, hr⟩ := Option.bind_eq_some_iff.mp ht
  have hm : Looks (model prog w) s.heap (mroOf (.ref C)) cd.mro := (looks_clsIn X hc).andThen .now
  have L3 : Looks (model prog w) s.heap (storeTaker? attr) none := by
    cases attr with
    | none => exact .now
    | some a =>
      obtain ⟨b, hb, hb'⟩ := Option.map_eq_some_iff.mp hr
      refine (looks_takesIn X hb).andThen ?_
      cases b
      · exact .now
      · cases hb'
  rw [osa_eq, refuse_eq]
  refine wpAny_bind (wpAny_bind (I.type.here (wpAny_bind (hm.here ?_))))
  rw [hl]
  refine wpAny_pure (wpAny_bind (I.type.here (wpAny_bind ((looks_findIn X ha).here (wpAny_bind (L3.here ?_))))))
  obtain ⟨hx, hcl, hn, -⟩ := I
  obtain ⟨oc, odi, oda, osl⟩ := ox
  dsimp only at hcl hdn hda
  subst hcl hdn hda
  obtain ⟨hh, g, dr, t, os⟩ := s
  dsimp only at hx h
  refine wpAny_bind (wpAny_pure (wpAny_bind (wpAny_bind (wpAny_loadPart hx (wpAny_bind ((looks_clsIn X hc).here ?_))))))
  rw [hdd]
  refine wpAny_bind (wpAny_alloc ?_)
  have hx1 := Heap.get?_push_of_some ({ cls := .type "dict", data := .dict #[] } : Obj) hx
  have nd : hh.objs.size ≠ x := Nat.ne_of_gt (Heap.lt_size hx)
  refine wpAny_bind (wpAny_update hx1 ?_)
  refine wpAny_bind (wpAny_pure ?_)
  have hd1 : (hh.push ({ cls := .type "dict", data := .dict #[] } : Obj)).get? hh.objs.size = some { cls := .type "dict", data := .dict #[] } := Heap.get?_push_size _ rfl
  have hd2 := (Heap.get?_update_other (hh.push ({ cls := .type "dict", data := .dict #[] } : Obj)) (fun o : Obj => { o with dict := some hh.objs.size }) (Ne.symm nd)).trans hd1
  refine wpAny_pure (wpAny_bind (wpAny_pure (wpAny_bind ?_)))
  unfold nsSet
  refine wpAny_bind (wpAny_bind (wpAny_askSetting (wpAny_pure (wpAny_bind (wpAny_mkText (wpAny_bind (wpAny_loadPart hd2 ?_)))))))
  dsimp only
  have c : (!(#[] : Array DictEntry).any (·.key.isStr name) && (#[] : Array DictEntry).any (·.refKey)) = false := by simp
  rw [aRefKeyMayBeTheName_at, c]
  refine wpAny_updatePart hd2 ?_
  have hd3 := Heap.get?_update_self (Obj.putName name (PyData.keyHash w.params name) (.str name t) v) hd2 rfl
  refine wpAny_bind (wpAny_lookBehind hd3 ?_ ?_)
  · first | rfl | kernel_rfl | (simp [Obj.putName, Data.pastItsLine]; done)
  refine wpAny_pure (h _ hh.objs.size _ (fun b o nb e => ?_) ?_ (Heap.get?_none_of_le (Nat.le_refl _)))
  · have nb2 : b ≠ hh.objs.size := Nat.ne_of_lt (Heap.lt_size e)
    rw [Heap.get?_update_other _ _ (Ne.symm nb2), Heap.get?_update_other _ _ (Ne.symm nb)]
    exact Heap.get?_push_of_some _ e
  · rw [Heap.get?_update_other _ _ nd]
    exact Heap.get?_update_self _ hx1 rfl
end
end Mine
namespace Mine
abbrev excO (t : Addr) : Obj := { cls := .ref 51, data := .fields #[.ref t, .none, .none, .none, .bool false, .none] }
abbrev excD (t d : Addr) : Obj := { cls := .ref 51, dict := some d, data := .fields #[.ref t, .none, .none, .none, .bool false, .none] }
section
variable {prog : Program} {w : World} {A : Around} {E : Value → Shared → Prop} {hp : Heap} {g : Array GenState} {dr : Drawn} {tk : Nat} {os : OsState} {h₀ : Heap} {L x t : Addr} {m : Str → Option Value} {news : List (Addr × Obj)} {K : Frag}
theorem e_set {name : Str} {v : Value} {cd : ClassData} {news' : Addr → List (Addr × Obj)} {Q : Unit → Shared → Prop} (F : Fr h₀ L hp m) (X₀ : K.In h₀) (N : News h₀ L hp news) (U : ∀ d, Upd x (excO t) (excD t d) news (news' d))
    (hs : findIn K (.ref 51) "__setattr__" = some (some (.builtin "object.__setattr__"))) (hc : clsIn K 51 = some cd) (hl : ∀ self, refuseLoop self "__setattr__" cd.mro = pure ()) (hob : cd.mro.contains (.type "object") = true)
    (ht : takerIn K 51 name = some none) (hdd : cd.hasDict = true)
    (h : ∀ d h' k, Fr h₀ L h' m → News h₀ L h' (news' d) → Q () ⟨h', g, dr, k, os⟩) : wpAny (model prog w) A (setAttr (.ref x) name v) Q E ⟨hp, g, dr, tk, os⟩ := by
  have hx := (N _ (upd_mem (U 0))).1
  have I : InstAt hp x (excO t) 51 none := ⟨hx, rfl, rfl, trivial⟩
  refine set_plain (s := ⟨hp, g, dr, tk, os⟩) (X₀.keeps F.keep) I hs (osa_exc (s := ⟨hp, g, dr, tk + 1, os⟩) (X₀.keeps F.keep) I hc hl hob ht hdd rfl rfl fun h' d k hk he hd => ?_)
  have kp : Keep [x] hp h' := fun b o n e => hk b o (fun q => n (by rw [q]; exact List.mem_singleton.mpr rfl)) e
  exact h d h' k (frK F N kp (upd_memA (U 0))) (upd1 N kp he (U d))
theorem exc_news {vs : List Value} {h' : Heap} {e : Addr} (F : Fr h₀ L hp m) (N : News h₀ L hp news) (hm : Heap.MadeExcOf hp h' e (.ref 51) vs) :
    ∃ t, Fr h₀ L h' m ∧ News h₀ L h' ((e, excO t) :: news) ∧ (∀ q ∈ news, q.1 ≠ e) := by
  obtain ⟨k, hn, t, he, -, -⟩ := hm
  have ne : ∀ q ∈ news, q.1 ≠ e := fun q hq z => by
    have := (N q hq).1
    rw [z, hn] at this; cases this
  refine ⟨t, frK (as := []) F N (fun b o _ q => k b o q) (fun _ q => nomatch q), fun p hp' => ?_, ne⟩
  rcases List.mem_cons.mp hp' with rfl | hq
  · refine ⟨he, ?_, ?_⟩
    · obtain ⟨oL, es, ep, hL, r⟩ := F.ns
      intro q
      rw [show e = L from q, hL] at hn; cases hn
    · cases q : h₀.get? e with
      | none => rfl
      | some o => have := F.keep _ _ q; rw [hn] at this; cases this
  · exact ⟨k _ _ (N p hq).1, (N p hq).2⟩
end
section
variable {M : Model} {A : Around} {E : Value → Shared → Prop} {s : Shared} {env : Env}
variable {nm q : Str} {N : Addr} {bs bm : List Value} {hdct : Bool} {sn : List Str} {sub : List Value} {ab : Bool} {col : Option Bool} {dd : Option Addr} {k0 k1 k2 k3 k5 : Option Value} {newId : String}
theorem x_raiseStmt {x : Sem Value} {Q : Flow → Shared → Prop} (hbase : bm.contains (.type "BaseException") = true) (hh : A.handled = none)
    (h : wpAny M A x (fun v s₁ => ∃ e t d, v = .ref e ∧ s₁.heap.get? 51 = some (excClassObj nm q 51 N bs bm hdct sn sub ab col dd k0 k1 k2 k3 k5 newId) ∧
      s₁.heap.get? e = some (excD t d) ∧ E (.ref e) s₁) E s) :
    wpAny M A (raiseStmt env (some x) none) Q E s := by
  have hcB : (Value.ref 51 :: bm).contains (.type "BaseException") = true := by rw [List.contains_cons, hbase, Bool.or_true]
  unfold raiseStmt
  refine wpAny_bind (wpAny_mono h (fun v s₁ h₁ => ?_) fun _ _ x => x)
  obtain ⟨e, t, d, rfl, hC, he, hE⟩ := h₁
  obtain ⟨hp, g, d', tk, os⟩ := s₁
  repeat (first | with_reducible refine wpAny_loadPart_at he ?_ | with_reducible refine wpAny_loadPart_at hC ?_ | (with_reducible refine wpAny_isSubtype_exc hC ?_; rw [hcB]) | wp_step)
  exact wpAny_raiseNew_none hh hE
theorem x_Raise {ex : PySem.Expr} {pos : Pos} {Q : Flow → Shared → Prop} (hbase : bm.contains (.type "BaseException") = true) (hh : A.handled = none)
    (h : wpAny M A (eval ex env) (fun v s₁ => ∃ e t d, v = .ref e ∧ s₁.heap.get? 51 = some (excClassObj nm q 51 N bs bm hdct sn sub ab col dd k0 k1 k2 k3 k5 newId) ∧
      s₁.heap.get? e = some (excD t d) ∧ E (.ref e) s₁) E s) :
    wpAny M A (exec (.Raise (some ex) none pos) env) Q E s := by
  rw [arm_exec_Raise]
  refine wpAny_bind (wpAny_standAt (x_raiseStmt hbase hh (wpAny_bind (wpAny_mono h (fun v s₃ h₃ => wpAny_bind (wpAny_standAt (wpAny_pure h₃))) fun _ _ x => x))))
end
end Mine
end
section
open PySem PySem.W PySem.Calls PyProof.Rows PyProof.V PySem.Spec
set_option Elab.async false
set_option linter.unusedVariables false
set_option maxRecDepth 100000
namespace Mine
section
variable {M : Model} {A : Around} {E : Value → Shared → Prop} {s' : Shared} {base g : Heap} {outer : List Env} {L' f e : Addr} {m' : Str → Option Value} {name : Str} {scope : Scope} {cd : Value}
theorem loopX {oe : Obj} {vs : Array Value} {a0 : Value} {Ek : Value → Shared → Prop} {Q : Unit → Shared → Prop} (K : Below A base outer g) (F : Fr g L' s'.heap m') (he : s'.heap.get? e = some oe) (hd : oe.data = .fields vs) (h1 : vs[1]? = some .none) (h0 : vs[0]? = some a0) (hge : g.get? e = none)
    (hE : ∀ s'', wpAny M (A.deeper (envOf name scope L' f cd)) (leaving (envOf name scope L' f cd) (.ref e)) Q E s'' → Ek (.ref e) s'')
    (hQ : ∀ h', RX base outer e oe.cls L' s'.heap h' → Q () { s' with heap := h' }) (hk : scope.kind = .function) :
    notedBy M (A.deeper (envOf name scope L' f cd)) (envOf name scope L' f cd) (cameBackBy M (A.deeper (envOf name scope L' f cd)) (envOf name scope L' f cd) Ek) (.ref e) s' := by
  have K' := K.push (name := name) (a := f) (cd := cd) F hk
  have hin : ∀ env ∈ (envOf name scope L' f cd :: outer), ∀ b, env.frame = some b → b ∈ e :: (envOf name scope L' f cd :: outer).filterMap (·.frame) := fun env he b hb => .tail _ (List.mem_filterMap.mpr ⟨env, he, hb⟩)
  have hen : (hideAll s'.heap (e :: (envOf name scope L' f cd :: outer).filterMap (·.frame))).get? e = none := hideAll_none _ (.head _)
  have hl := funFrames_hide K'.frames hin
  show wpAny _ _ (noteFrame _ _) _ _ _
  unfold noteFrame
  rw [show (envOf name scope L' f cd).frame = some L' from rfl]
  refine wpAny_bind (wpAny_field he hd h1 ?_)
  rw [if_neg (by decide)]
  refine wpAny_entryW (base := hideAll s'.heap (e :: (envOf name scope L' f cd :: outer).filterMap (·.frame))) K'.stack hl rfl he (fun b o q => of_hideAll _ q) hen hd (Array.getElem?_eq_some_iff.mp h1).1 h0 fun h₁ hL => ?_
  obtain ⟨k1, k2, k3, k4⟩ := hL
  show wpAny _ _ (do
    if (← field (.ref e) 1) == .none then unsupported "frame.own-activation:exception-without-traceback"
    setFlight (.ref e) (some L')) _ _ _
  obtain ⟨oe₁, vs₁, T, oT, ts, he₁, hcls, hd₁, h1₁, hnT, hTe, hT, hdT, h3⟩ := k3
  refine wpAny_bind (wpAny_field he₁ hd₁ h1₁ ?_)
  rw [if_neg (by simp)]
  have hsz3 : 3 < ts.size := (Array.getElem?_eq_some_iff.mp h3).1
  have other : ∀ b, b ≠ T → (h₁.update T (Obj.mapFields (·.setIfInBounds 3 ((some L').elim Value.none fun f => rawInt f)))).get? b = h₁.get? b :=
    fun b hb => Heap.get?_update_other _ _ (Ne.symm hb)
  have noRecord : ∀ b o, h₁.get? b = some o → (∀ vs, o.data ≠ .fields vs) → b ≠ T := fun b o hb hnf q => by
    rw [q, hT] at hb; injection hb with hb; subst hb; exact hnf ts hdT
  unfold setFlight
  refine wpAny_bind (wpAny_field he₁ hd₁ h1₁ ?_)
  rw [if_pos (show (Value.ref T != Value.none) = true from by simp)]
  refine wpAny_setField hT hdT hsz3 (hE _ ?_)
  have hh : Heap.HeldW (hideAll s'.heap (e :: (envOf name scope L' f cd :: outer).filterMap (·.frame))) (envOf name scope L' f cd :: outer) e oe.cls a0 L' (h₁.update T (Obj.mapFields (·.setIfInBounds 3 ((some L').elim Value.none fun f => rawInt f)))) := ⟨fun b o hbo => (other b fun q => by rw [q, hnT] at hbo; cases hbo).trans (k1 b o hbo), hen,
    k2.of_keeps fun b o hb hnf => ⟨o, (other b (noRecord b o hb hnf)).trans hb, rfl⟩, ⟨oe₁, vs₁, T, _, _, (other e (Ne.symm hTe)).trans he₁, hcls, hd₁, h1₁, hnT, hTe, Heap.get?_update_self _ hT (Obj.isFreed_of_fields (Obj.data_mapFields hdT _)), Obj.data_mapFields hdT _, by simp [hsz3]⟩⟩
  unfold leaving
  refine wpAny_bind (wpAny_noteFrame_againW (L := L') rfl hh.2.2.2 ?_)
  refine wpAny_landsW hh fun h' hfl hsm => ?_
  obtain ⟨k1', k2', ⟨_, _, k3'⟩, k4'⟩ := hfl
  refine hQ h' ⟨_, a0, fun b o q => hideAll_get _ (K'.stays b o q) fun hm => ?_, fun b o q n1 n2 n3 => hideAll_get _ q fun hm => ?_, ⟨k1', k2', k3', k4'⟩, (Heap.UpToSlots.trans (fun b o hb hnf => k4 b o hb hnf) (fun b o hb hnf => ⟨o.slots, (other b (noRecord b o hb hnf)).trans hb⟩)).trans hsm⟩
  · rcases List.mem_cons.mp hm with rfl | hm
    · rw [K.stays b o q] at hge; cases hge
    · rw [(K'.frames.mem hm).1] at q; cases q
  · rcases List.mem_cons.mp hm with z | hm
    · exact n1 z
    · rcases kts_mem hm with z | z
      · exact n2 z
      · exact n3 z
end
section
variable {prog : Program} {w : World} {A : Around} {E : Value → Shared → Prop} {env : Env} {R : Result → Shared → Prop} {hp : Heap} {g : Array GenState} {dr : Drawn} {tk : Nat} {os : OsState} {h₀ : Heap} {I : Addr} {m : Str → Option Value} {news : List (Addr × Obj)} {x : Str} {body : List Stmt}
theorem k_riter {L r : Addr} {a b c : Int} {t u v : Tok} {n : Nat} {Q : Value → Shared → Prop} (hr : IsRange hp r a b c t u v) (hs : Builtin.Range.small a b c = true) (hn : Builtin.Range.rangeSize a b c = (n : Int)) (F : Fr h₀ L hp m) (N : News h₀ L hp news)
    (h : ∀ I h', Fr h₀ L h' m → News h₀ L h' ((I, krsIt (a + ((0 : Nat) : Int) * c) ((n : Int) - ((0 : Nat) : Int)) c) :: news) → (∀ p ∈ news, p.1 < I) → Q (.ref I) ⟨h', g, dr, tk, os⟩) : wpAny (model prog w) A (pyIter (.ref r)) Q E ⟨hp, g, dr, tk, os⟩ := by
  refine wpAny_pyIter_range (s := ⟨hp, g, dr, tk, os⟩) hr hs ?_
  rw [hn]
  have z := n_add (hp := hp) (o := ({ cls := .type "range_iterator", data := .fields #[rawInt a, rawInt (n : Int), rawInt c] } : Obj)) F N (fun b o' _ e => Heap.get?_push_of_some _ e) (Heap.get?_push_size _ rfl) (Nat.le_refl _)
  have e : krsIt (a + ((0 : Nat) : Int) * c) ((n : Int) - ((0 : Nat) : Int)) c = ({ cls := .type "range_iterator", data := .fields #[rawInt a, rawInt (n : Int), rawInt c] } : Obj) := by simp [krsIt]
  rw [e] at h
  exact h _ _ z.1 z.2.1 z.2.2
theorem codeC_rng {px : Pos} {a c : Int} {n : Nat} (hh : A.handled = none) (hx : env.kindOf x = some .local) (hp : (env.scope.kind == .class || (env.scope.kind == .module && env.locals != env.globals)) = false)
    (J : Nat → (Str → Option Value) → List (Addr × Obj) → Prop)
    (step : ∀ i t' m₁ news₁ hp tk, i < n → J i m₁ news₁ → (∀ p ∈ news₁, p.1 ≠ I) → Fr h₀ env.locals hp (fun y => if y = x then some (.int (a + (i : Int) * c) t') else m₁ y) →
      News h₀ env.locals hp ((I, krsIt (a + ((i + 1 : Nat) : Int) * c) ((n : Int) - ((i + 1 : Nat) : Int)) c) :: news₁) →
      wpC (model prog w) A (execs body env) (TurnEnd h₀ env.locals I (krsIt (a + ((i + 1 : Nat) : Int) * c) ((n : Int) - ((i + 1 : Nat) : Int)) c) (J (i + 1)) (fun f s => R (.ok f) s) · ⟨hp, g, dr, tk, os⟩ ·) (notedBy (model prog w) A env fun e s' => R (.error e) s') ⟨hp, g, dr, tk, os⟩)
    (done : ∀ h' tk m' news', J n m' news' → Fr h₀ env.locals h' m' → News h₀ env.locals h' news' → R (.ok .next) ⟨h', g, dr, tk, os⟩) :
    ∀ k i, i + k = n → ∀ hp tk m news, J i m news → Fr h₀ env.locals hp m → News h₀ env.locals hp ((I, krsIt (a + (i : Int) * c) ((n : Int) - (i : Int)) c) :: news) → (∀ p ∈ news, p.1 ≠ I) →
      codeC (model prog w) A (.forLoop (.Name x px) (.ref I) body [] env) R ⟨hp, g, dr, tk, os⟩ := by
  intro k
  induction k with
  | zero =>
    intro i hi hp' tk m news j F N ne
    obtain rfl : i = n := by omega
    refine codeC_turn ?_
    refine wpAny_pyNext_range_end (s := ⟨hp', g, dr, tk, os⟩) hh (N _ (.head _)).1 (by omega) fun h' he' => ?_
    have k : Keep [I] hp' h' := fun b y nb q => he' b y (fun z => nb (by rw [z]; exact List.mem_singleton.mpr rfl)) q
    refine C_nil (done h' tk m news j (frK F N k (fun y hy => by rw [List.mem_singleton.mp hy]; exact .head _)) fun p hp' => ⟨k _ _ (by simpa using ne p hp') (N p (.tail _ hp')).1, (N p (.tail _ hp')).2⟩)
  | succ k ih =>
    intro i hi hp' tk m news j F N ne
    refine codeC_turn ?_
    refine wpAny_pyNext_range_item (s := ⟨hp', g, dr, tk, os⟩) (N _ (.head _)).1 (by omega) fun h' hit hs => ?_
    have e1 : a + ((i + 1 : Nat) : Int) * c = a + (i : Int) * c + c := by push_cast; rw [Int.add_mul, Int.one_mul, Int.add_assoc]
    have e2 : (n : Int) - ((i + 1 : Nat) : Int) = (n : Int) - (i : Int) - 1 := by push_cast; omega
    have k : Keep [I] hp' h' := fun b y nb q => (hs.2 b (fun z => nb (by rw [z]; exact List.mem_singleton.mpr rfl))).trans q
    have F' := frK F N k (fun y hy => by rw [List.mem_singleton.mp hy]; exact .head _)
    have N' : News h₀ env.locals h' ((I, krsIt (a + ((i + 1 : Nat) : Int) * c) ((n : Int) - ((i + 1 : Nat) : Int)) c) :: news) := fun p hp'' => by
      rcases List.mem_cons.mp hp'' with rfl | hq
      · exact ⟨by rw [e1, e2]; exact hit, (N _ (.head _)).2⟩
      · exact ⟨k _ _ (by simpa using ne p hq) (N p (.tail _ hq)).1, (N p (.tail _ hq)).2⟩
    dsimp only
    refine wpAny_of_eq (a := ()) rfl ?_
    refine wpAny_assign_Name (wpAny_storeName_local hx F'.ns (fun h₂ hn₂ hs₂ => ?_) hp)
    refine wpC_mono (step i _ m news h₂ _ (by omega) j ne (F'.set hn₂ hs₂) (N'.set hs₂)) (fun f s₃ z => ?_) fun _ _ z => z
    cases f with
    | ret v => exact z
    | brk => exact z
    | _ => exact ex4 z fun h3 tk3 m3 n3 z => and5 z fun e F3 N3 ne3 j3 => by subst e; exact ih (i + 1) (by omega) h3 tk3 m3 n3 j3 F3 N3 ne3
end
end Mine
end
section
open PySem PySem.W PySem.Calls PyProof.Rows PyProof.V PySem.Spec
set_option Elab.async false
set_option linter.unusedVariables false
set_option maxRecDepth 100000
namespace Mine
section
variable {prog : Program} {w : World} {A : Around} {E : Value → Shared → Prop} {env : Env} {hp : Heap} {g : Array GenState} {dr : Drawn} {tk : Nat} {os : OsState} {h₀ : Heap} {m : Str → Option Value} {news : List (Addr × Obj)} {test : PySem.Expr} {body : List Stmt} {Q : Flow → Shared → Prop}
def WhEnd (h₀ : Heap) (L : Addr) (g : Array GenState) (dr : Drawn) (os : OsState) (n : Nat) (J : Nat → (Str → Option Value) → List (Addr × Obj) → Prop) (Q : Flow → Shared → Prop) (f : Flow) (s₂ : Shared) : Prop :=
  match f with
  | .ret v => Q (.ret v) s₂
  | .brk => Q .next s₂
  | _ => ∃ h' tk m' news' n', s₂ = ⟨h', g, dr, tk, os⟩ ∧ n' < n ∧ Fr h₀ L h' m' ∧ News h₀ L h' news' ∧ J n' m' news'
theorem WhEnd.next {L : Addr} {n n' : Nat} {J : Nat → (Str → Option Value) → List (Addr × Obj) → Prop} {m' : Str → Option Value} {news' all : List (Addr × Obj)} (F : Fr h₀ L hp m') (N : News h₀ L hp all) (hn : n' < n) (hs : ∀ p ∈ news', p ∈ all) (j : J n' m' news') : WhEnd h₀ L g dr os n J Q .next ⟨hp, g, dr, tk, os⟩ :=
  ⟨_, _, _, _, _, rfl, hn, F, fun p hp => N p (hs p hp), j⟩
def WhIf (b : Bool) (T F : Prop) : Prop := (b = true → T) ∧ (b = false → F)
theorem While_K {pos : Pos} {n : Nat} (J : Nat → (Str → Option Value) → List (Addr × Obj) → Prop) (F : Fr h₀ env.locals hp m) (N : News h₀ env.locals hp news) (j : J n m news)
    (st : ∀ n m news hp tk, J n m news → Fr h₀ env.locals hp m → News h₀ env.locals hp news →
      wpAny (model prog w) A (isTrue test env (eval test env)) (fun b s₂ => WhIf b (wpAny (model prog w) A (execs body env) (WhEnd h₀ env.locals g dr os n J Q) NoE s₂) (Q .next s₂)) NoE ⟨hp, g, dr, tk, os⟩) :
    wpAny (model prog w) A (exec (.While test body [] pos) env) Q E ⟨hp, g, dr, tk, os⟩ := by
  refine wpAny_While (codeAny_whileLoop (fun n s => ∃ h' tk m' news', s = ⟨h', g, dr, tk, os⟩ ∧ Fr h₀ env.locals h' m' ∧ News h₀ env.locals h' news' ∧ J n m' news') ?_ n ⟨hp, tk, m, news, rfl, F, N, j⟩)
  intro n s hJ
  refine ex4 hJ ?_
  clear hJ
  intro h' tk' m' news' hJ
  refine and4 hJ ?_
  clear hJ
  rintro rfl F' N' j'
  refine wpAny_noRaise (wpAny_mono (st n m' news' h' tk' j' F' N') (fun b s₂ z => ?_) fun _ _ x => x)
  cases b with
  | false => exact wpAny_execs_nil (z.2 rfl)
  | true =>
    refine wpAny_noRaise (wpAny_mono (z.1 rfl) (fun f s₃ y => ?_) fun _ _ x => x)
    cases f with
    | ret v => exact y
    | brk => exact y
    | _ => exact ex5 y fun h3 tk3 m3 n3 n' y => and5 y fun e hn F3 N3 j3 => ⟨n', hn, exi4 h3 tk3 m3 n3 (andi4 e F3 N3 j3)⟩
end
end Mine
end
section
open PySem PySem.W PySem.Calls PyProof.Rows PyProof.V PySem.Spec
set_option Elab.async false
set_option linter.unusedVariables false
set_option maxRecDepth 100000
namespace Mine
section
variable {prog : Program} {w : World} {A : Around} {E : Value → Shared → Prop} {env : Env} {R : Result → Shared → Prop} {hp : Heap} {g : Array GenState} {dr : Drawn} {tk : Nat} {os : OsState} {h₀ : Heap} {I ax : Addr} {m : Str → Option Value} {news : List (Addr × Obj)} {x : Str} {body : List Stmt} {items : Array Value} {c : Nat}
theorem k_iterG {L : Addr} {Q : Value → Shared → Prop} (F : Fr h₀ L hp m) (N : News h₀ L hp news) (hax : h₀.get? ax = some (W.listOf items c))
    (h : ∀ I o h', IsLit o ax 0 → Fr h₀ L h' m → News h₀ L h' ((I, o) :: news) → (∀ p ∈ news, p.1 < I) → Q (.ref I) ⟨h', g, dr, tk, os⟩) : wpAny (model prog w) A (pyIter (.ref ax)) Q E ⟨hp, g, dr, tk, os⟩ := by
  refine wpAny_pyIter_list (s := ⟨hp, g, dr, tk, os⟩) (PySem.IsL.isList (n := c) (F.keep _ _ hax)) ?_
  have z := n_add (hp := hp) (o := ({ cls := .type "list_iterator", data := .fields #[.ref ax, .int 0 0] } : Obj)) F N (fun b o' _ e => Heap.get?_push_of_some _ e) (Heap.get?_push_size _ rfl) (Nat.le_refl _)
  exact h _ _ _ ⟨rfl, rfl⟩ z.1 z.2.1 z.2.2
theorem codeC_lst {px : Pos} (hh : A.handled = none) (hx : env.kindOf x = some .local) (hp : (env.scope.kind == .class || (env.scope.kind == .module && env.locals != env.globals)) = false) (hax : h₀.get? ax = some (W.listOf items c))
    (J : Nat → (Str → Option Value) → List (Addr × Obj) → Prop)
    (step : ∀ i v m₁ news₁ hp tk o, items[i]? = some v → IsLit o ax (i + 1) → J i m₁ news₁ → (∀ p ∈ news₁, p.1 ≠ I) → Fr h₀ env.locals hp (fun y => if y = x then some v else m₁ y) →
      News h₀ env.locals hp ((I, o) :: news₁) →
      wpC (model prog w) A (execs body env) (TurnEnd h₀ env.locals I o (J (i + 1)) (fun f s => R (.ok f) s) · ⟨hp, g, dr, tk, os⟩ ·) (notedBy (model prog w) A env fun e s' => R (.error e) s') ⟨hp, g, dr, tk, os⟩)
    (done : ∀ h' tk m' news', J items.size m' news' → Fr h₀ env.locals h' m' → News h₀ env.locals h' news' → R (.ok .next) ⟨h', g, dr, tk, os⟩) :
    ∀ k i, i + k = items.size → ∀ hp tk m news o, IsLit o ax i → J i m news → Fr h₀ env.locals hp m → News h₀ env.locals hp ((I, o) :: news) → (∀ p ∈ news, p.1 ≠ I) →
      codeC (model prog w) A (.forLoop (.Name x px) (.ref I) body [] env) R ⟨hp, g, dr, tk, os⟩ := by
  intro k
  induction k with
  | zero =>
    intro i hi hp' tk m news o ho j F N ne
    obtain rfl : i = items.size := by omega
    refine codeC_turn ?_
    refine wpAny_pyNext_list_end (s := ⟨hp', g, dr, tk, os⟩) (l := ax) (i := items.size) (items := items) hh ⟨o, (N _ (.head _)).1, ho.1, ho.2⟩ (PySem.IsL.isList (n := c) (F.keep _ _ hax)) (by simp) fun h' he' => ?_
    have k : Keep [I] hp' h' := fun b y nb q => he' b y (fun z => nb (by rw [z]; exact List.mem_singleton.mpr rfl)) q
    refine C_nil (done h' tk m news j (frK F N k (fun y hy => by rw [List.mem_singleton.mp hy]; exact .head _)) fun p hp' => ⟨k _ _ (by simpa using ne p hp') (N p (.tail _ hp')).1, (N p (.tail _ hp')).2⟩)
  | succ k ih =>
    intro i hi hp' tk m news o ho j F N ne
    refine codeC_turn ?_
    have hit : items[i]? = some items[i] := by simp
    refine wpAny_pyNext_list_item (s := ⟨hp', g, dr, tk, os⟩) (l := ax) (i := i) (items := items) ⟨o, (N _ (.head _)).1, ho.1, ho.2⟩ (PySem.IsL.isList (n := c) (F.keep _ _ hax)) hit fun h' hit' hs => ?_
    obtain ⟨o', e', c1, c2⟩ := hit'
    have k : Keep [I] hp' h' := fun b y nb q => (hs.2 b (fun z => nb (by rw [z]; exact List.mem_singleton.mpr rfl))).trans q
    have F' := frK F N k (fun y hy => by rw [List.mem_singleton.mp hy]; exact .head _)
    have N' : News h₀ env.locals h' ((I, o') :: news) := fun p hp'' => by
      rcases List.mem_cons.mp hp'' with rfl | hq
      · exact ⟨e', (N _ (.head _)).2⟩
      · exact ⟨k _ _ (by simpa using ne p hq) (N p (.tail _ hq)).1, (N p (.tail _ hq)).2⟩
    dsimp only
    refine wpAny_of_eq (a := ()) rfl ?_
    refine wpAny_assign_Name (wpAny_storeName_local hx F'.ns (fun h₂ hn₂ hs₂ => ?_) hp)
    refine wpC_mono (step i _ m news h₂ _ o' hit ⟨c1, c2⟩ j ne (F'.set hn₂ hs₂) (N'.set hs₂)) (fun f s₃ z => ?_) fun _ _ z => z
    cases f with
    | ret v => exact z
    | brk => exact z
    | _ => exact ex4 z fun h3 tk3 m3 n3 z => and5 z fun e F3 N3 ne3 j3 => by subst e; exact ih (i + 1) (by omega) h3 tk3 m3 n3 o' ⟨c1, c2⟩ j3 F3 N3 ne3
end
end Mine
end
section
open PySem PySem.W PySem.Calls PyProof.Rows
set_option Elab.async false
set_option maxRecDepth 100000
set_option maxHeartbeats 2000000
namespace Mine
local macro_rules | `(tactic| cell_enter) => `(tactic| ((case kS => k_asm); (case k6 => k_is); (case k7 => k_is); (case k8 => ktr_room); (case k9 => exact BindsTo.of_eq rfl); (case c5 => decide); (case kB => exact locs rfl); (case c2 => exact rfl); (case c3 => exact rfl); (case c4 => exact rfl); k_whole; intro g' L' h' F' N' B' X' T' kg'; (try dsimp only at F'); (try dsimp only); (try k_fold)))
local macro_rules | `(tactic| k_lt $h:ident) => `(tactic| first | (revert $h; walk_at "nd_lt") | (replace $h := allNe_of $h; simp only [AllNe, and_true] at $h:ident))
local macro_rules | `(tactic| k_lt2 $h:ident) => `(tactic| first | (revert $h; walk_at "nd_lt2") | replace $h := ltN $h)
local macro_rules | `(tactic| k_upd) => `(tactic| (refine' upd_nd ?n ?e ?u; (case n => assumption); (case e => exact rfl); (case u => k_extra "pre3|q_uw")))
local macro_rules | `(tactic| k_updF) => `(tactic| (refine' updF_nd ?n ?e ?u; (case n => assumption); (case e => exact rfl); (case u => k_extra "pre3|q_fw")))
local macro_rules | `(tactic| k_all) => `(tactic| exact ne_tail (by assumption))
local macro_rules | `(tactic| omega) => `(tactic| k_extra "pre3|q_om")
local macro_rules | `(tactic| k_mem) => `(tactic| k_extra "pre3|q_mem")
section
def kp_linesX : List String := ["setAttr ref"]
theorem setup_linesX : True := by
  (k_with "linesX|setAttr ref" => (k_here; k_dflt (refine' e_set ?F ?X ?N ?U ?hs ?hc ?hl ?hob ?ht ?hdd ?_; (case F => k_asm); (case X => k_asm); (case N => k_asm); (case U => (intro zd; exact Upd.head (by assumption))); (case hs => k_is); (case hc => k_is); (case hl => exact fun self => refuse_ce self); (case hob => rfl); (case ht => k_is); (case hdd => rfl); k_whole); intro zd zh' zk zF' zN'; (try dsimp only at zN'); (try k_sweep)))
  trivial
local macro_rules | `(tactic| walk_at $s:str) => do
  let xs := (rowsFor [("linesX", kp_linesX), ("lines15", kp_lines15), ("linesK", kp_linesK), ("lines2", kp_lines2), ("pre3", kp_pre3)] s.getString).reverse
  let x :: r := xs | Lean.Macro.throwUnsupported
  let y := Lean.Syntax.mkStrLit x
  let mut t ← `(tactic| k_extra $y)
  for z in r do
    let y := Lean.Syntax.mkStrLit z
    t ← `(tactic| first | k_extra $y | ($t:tactic))
  return t
section
variable {w : World} {mean : ExcName → Option Value} {mg mb : Str → Option Value} {dp un : Nat} {gd : Option (List Code)} {cn : Str} {cs : Scope} {L a : Addr} {ccd : Value} {cl : List (Str × Addr)} {outer : List Env} {A₀ : Around} {base h₀ : Heap} {m : Str → Option Value} {s : Shared} {led : List (Addr × Obj)} {Q E : Value → Shared → Prop}


theorem primer_C17 (w : World) (h : Heap) : (Mine.hd.heap_39 w.params).In h → (PySem.Challenge.rw_pb0455_01.Holds → True) := by
  k_fill
  intros; trivial

theorem fnAt {K : Frag} {f : Addr} (e : isFn K (.ref f) = true) : ∃ o, K.lookup f = some o ∧ o.cls = .type "function" := by
  have e' : typeIn K (.ref f) = some (.type "function") := beq_iff_eq.mp e
  unfold typeIn at e'
  obtain ⟨o, ho, hc⟩ := Option.map_eq_some_iff.mp e'
  exact ⟨o, ho, hc⟩

theorem mkexc_k {E : Value → Shared → Prop} {Q : Value → Shared → Prop} {hp : Heap} {g : Array GenState} {dr : Drawn} {tk : Nat} {os : OsState} {news : List (Addr × Obj)} {x : Str} {t1 : Tok}
    (B : Below A₀ base outer h₀) (F : Fr h₀ L hp m) (X : (Mine.hd.heap_39 w.params).In h₀) (N : News h₀ L hp news) (T' : Top VW LO mean mg mb h₀) (kk : cs.kind = .function) (hd : dp + 8 < recursionLimit)
    (hret : ∀ (e t d : Addr) h' tk', (∀ q ∈ news, q.1 ≠ e) → Fr h₀ L h' m → News h₀ L h' ((e, excD t d) :: news) → Q (.ref e) ⟨h', g, dr, tk', os⟩) :
    wpAny (model PySem.Challenge.rw_pb0455_01.row.prog w) (ktrTop dp un gd cn cs L a ccd cl outer) (call (.ref 51) [.str x t1]) Q E ⟨hp, g, dr, tk, os⟩ := by
  have X' := X.keeps F.keep
  obtain ⟨oI, hf1, hf2⟩ := fnAt (K := Mine.hd.heap_39 w.params) (f := 35) (by k_is)
  k_dflt (refine' x_call (fI := 35) PySem.F.excBase_Exception ?hB ?hA ?hN (X' _ _ ?hC) (looks_findIn X' ?hi) (X' _ _ hf1) hf2 ?hq ?hrest; (case hC => k_is); (case hi => k_is))
  case hB => decide
  case hA => decide
  case hN => decide
  case hrest => (rw [sizeLine_eq]; exact Nat.le_of_ble_eq_true rfl)
  case hq =>
    intro h' e hm
    obtain ⟨t, F', N', ne⟩ := exc_news F N hm
    clear F N X'
    k_sweep
    refine wpAny_call ?_
    walk_at "inl"
    k_steps
    refine' hret _ _ _ _ _ ne ?f1 ?f2
    case f1 => k_asm
    case f2 => k_asm

end
end
section
def kp_linesH : List String := ["k_del", "wpC", "pyIter ref", "pyNext ref", "letOwnedTupleGo", "assign Tuple", "compareOp Eq ref ref", "units", "subscriptTail Attribute BinOp ref int", "subscriptTail Attribute Name BinOp ref int", "subscriptTail Attribute"]
theorem setup_linesH : True := by
  (k_with "linesH|k_del" => first | (refine' Del.head ?a; (case a => k_all)) | (refine' Del.tail ?a ?b; (case a => k_ne); (case b => walk_at "k_del")))
  (k_with "linesH|wpC" => ((with_reducible show wpC _ _ (exec (Stmt.For _ _ _ [] _) _) _ _ _); k_dflt (refine C_For ?_)))
  (k_with "linesH|pyIter ref" => (k_here; k_dflt (refine' k_iter ?F ?N ?hm ?_; (case F => k_asm); (case N => k_asm); (case hm => k_mem); k_whole); intro zI' zo' zh' zhI' zF' zN' zl1; (try k_lt zl1); (try k_sweep)))
  (k_with "linesH|pyNext ref" => (k_here; k_dflt (refine' k_doneD ?hh ?F ?N ?hm ?D ?hi ?hx ?_; (case hh => rfl); (case F => k_asm); (case N => k_asm); (case hi => assumption); (case hm => k_mem); (case D => (refine' del_nd ?ndn ?nde ?ndu; (case ndn => assumption); (case nde => exact rfl); (case ndu => walk_at "delw"))); (case hx => with_unfolding_all rfl); k_whole); intro zh' zDl zF' zN'; (replace znd := nd_del znd zDl rfl rfl); clear zDl; (simp only [List.map_cons, List.map_nil] at znd); (try dsimp only); (try k_sweep)))
  (k_with "linesH|pyNext ref" => (k_here; k_dflt (refine' k_next ?F ?N ?hm ?U ?hi ?hx ?_; (case F => k_asm); (case N => k_asm); (case hi => assumption); (case hm => k_mem); (case U => k_updF); (case hx => with_unfolding_all rfl); k_whole); intro zo' zh' zhI' zF' zN'; (try dsimp only at zN'); (try dsimp only); (try k_sweep)))
  (k_with "linesH|letOwnedTupleGo" => (k_here; k_dflt (refine' k_owned ?N ?hm ?hi ?_; (case N => k_asm); (case hi => assumption); (case hm => k_mem); k_whole)))
  (k_with "linesH|assign Tuple" => (k_here; k_dflt (refine' k_assignT ?F ?N ?hm ?hh ?hn ?hs ?_; (case F => k_asm); (case N => k_asm); (case hm => k_mem); (case hh => rfl); (case hn => with_unfolding_all rfl); (case hs => with_unfolding_all rfl); k_whole); intro zh' zF' zN'; (try k_sweep)))
  (k_with "linesH|compareOp Eq ref ref" => (k_here; k_dflt (refine' k_eqlen ?N ?m1 ?m2 ?hz ?hu ?_; (case N => k_asm); (case m1 => k_mem); (case m2 => k_mem); (case hz => rfl); (case hu => walk_at "units"); k_whole)))
  (k_with "linesH|units" => (simp only [units_in1, units_deeper, Around.mark_units]; (try dsimp only [ktrTop]); omega))
  (k_with "linesH|subscriptTail Attribute BinOp ref int" => (k_here; (with_reducible show wpAny _ _ (subscriptTail _ _ (Value.ref _) (Value.int _ _)) _ _ _); k_dflt (refine' r_item1 ?N ?hm ?h0 ?h1 ?_ ?hs; (case N => k_asm); (case hm => k_mem); (case h0 => first | omega | (simp only [List.size_toArray, List.length_cons, List.length_nil]; omega)); (case h1 => first | omega | (simp only [List.size_toArray, List.length_cons, List.length_nil]; omega)); (case hs => with_unfolding_all rfl); k_whole)))
  (k_with "linesH|subscriptTail Attribute Name BinOp ref int" => (k_here; (with_reducible show wpAny _ _ (subscriptTail _ _ (Value.ref _) (Value.int _ _)) _ _ _); k_dflt (refine' r_item1 ?N ?hm ?h0 ?h1 ?_ ?hs; (case N => k_asm); (case hm => k_mem); (case h0 => first | omega | (simp only [List.size_toArray, List.length_cons, List.length_nil]; omega)); (case h1 => first | omega | (simp only [List.size_toArray, List.length_cons, List.length_nil]; omega)); (case hs => with_unfolding_all rfl); k_whole)))
  (k_with "linesH|subscriptTail Attribute" => (k_here; (with_reducible show wpAny _ _ (subscriptTail _ _ (Value.ref _) (Value.int _ _)) _ _ _); k_dflt (refine' r_item1 ?N ?hm ?h0 ?h1 ?_ ?hs; (case N => k_asm); (case hm => k_mem); (case h0 => first | omega | (simp only [List.size_toArray, List.length_cons, List.length_nil]; omega)); (case h1 => first | omega | (simp only [List.size_toArray, List.length_cons, List.length_nil]; omega)); (case hs => with_unfolding_all rfl); k_whole)))
  trivial
def kp_linesY : List String := ["wpC", "call ref", "exec Raise some none", "pyIter ref"]
theorem setup_linesY : True := by
  (k_with "linesY|wpC" => (k_here; (with_reducible show wpC _ _ (call (Value.ref 359) _) _ _ _); k_dflt (refine' write_k ?B ?F ?X ?N ?T ?kk ?hd ?h0 ?h1 ?h2 ?h3 ?hv ?m1 ?m2 ?m3 ?U1 ?U2 ?U3 ?nd0 ?_; (case B => k_asm); (case F => k_asm); (case X => k_asm); (case N => k_asm); (case T => k_asm); (case kk => rfl); (case hd => ktr_room); (case m2 => k_mem); (case m3 => k_mem); (case m1 => k_mem); (case U1 => (intro zkt; k_upd)); (case U2 => (intro zkt zkT; k_upd)); (case U3 => (intro zkt zkT; k_upd)); (case nd0 => walk_at "nd_pick"); (case h0 => omega); (case h1 => omega); (case h2 => walk_at "b_sz"); (case h3 => walk_at "b_sz"); (case hv => first | omega | (simp only [List.size_toArray, List.length_nil]; omega)); k_whole); intro zT' zkt1 zkt2 zkt3 zh' _ zl1 zF' zN'; (try dsimp only at zN'); (try k_lt zl1); (try k_sweep)))
  (k_with "linesY|wpC" => (k_here; (with_reducible show wpC _ _ (call (Value.ref 366) _) _ _ _); k_dflt (refine' trunc_k ?B ?F ?X ?N ?T ?kk ?hd ?h0 ?h1 ?h2 ?hv ?m1 ?m2 ?m3 ?U1 ?U2 ?U3 ?nd0 ?_; (case B => k_asm); (case F => k_asm); (case X => k_asm); (case N => k_asm); (case T => k_asm); (case kk => rfl); (case hd => ktr_room); (case m2 => k_mem); (case m3 => k_mem); (case m1 => k_mem); (case U1 => (intro zkt; k_upd)); (case U2 => (intro zkt zkT; k_upd)); (case U3 => (intro zkt zkT; k_upd)); (case nd0 => walk_at "nd_pick"); (case h0 => omega); (case h1 => omega); (case h2 => walk_at "b_sz"); (case hv => first | omega | (simp only [List.size_toArray, List.length_nil]; omega)); k_whole); intro zT' zkt1 zkt2 zkt3 zh' _ zl1 zF' zN'; (try dsimp only at zN'); (try k_lt zl1); (try k_sweep)))
  (k_with "linesY|call ref" => (k_here; (with_reducible show wpAny _ _ (call (Value.ref 51) _) _ _ _); k_dflt (refine' mkexc_k ?B ?F ?X ?N ?T ?kk ?hd ?_; (case B => k_asm); (case F => k_asm); (case X => k_asm); (case N => k_asm); (case T => k_asm); (case kk => rfl); (case hd => ktr_room); k_whole); intro zex' zet' zed' zh' _ zl1 zF' zN'; (try k_lt zl1); (try k_sweep)))
  (k_with "linesY|exec Raise some none" => (k_here; k_dflt (refine' x_RaiseK ?X ?hK ?hbase ?hh ?_; (case X => k_asm); (case hK => k_is); (case hbase => rfl); (case hh => rfl); k_whole)))
  (k_with "linesY|pyIter ref" => (k_here; k_dflt (refine' k_riter ?hr ?hs ?hn ?F ?N ?_; (case hr => assumption); (case hn => exact range_nn (by omega)); (case hs => exact small_step (by decide) (by decide) (by decide) (by decide) (by decide) (by omega) (by omega)); (case F => k_asm); (case N => k_asm); k_whole); intro zI' zh' zF' zN' zl1; (try k_lt zl1); (try k_sweep)))
  trivial
local macro_rules | `(tactic| walk_at "odd part") => `(tactic| skip)
local macro_rules | `(tactic| walk_at $s:str) => do
  let xs := (rowsFor [("linesY", kp_linesY), ("lines15", kp_lines15), ("linesK", kp_linesK), ("linesH", kp_linesH), ("lines4", kp_lines4), ("lines3", kp_lines3), ("lines2", kp_lines2), ("pre3", kp_pre3)] s.getString).reverse
  let x :: r := xs | Lean.Macro.throwUnsupported
  let y := Lean.Syntax.mkStrLit x
  let mut t ← `(tactic| k_extra $y)
  for z in r do
    let y := Lean.Syntax.mkStrLit z
    t ← `(tactic| first | k_extra $y | ($t:tactic))
  return t
section
variable {w : World} {mean : ExcName → Option Value} {mg mb : Str → Option Value} {dp un : Nat} {gd : Option (List Code)} {cn : Str} {cs : Scope} {L a : Addr} {ccd : Value} {cl : List (Str × Addr)} {outer : List Env} {A₀ : Around} {base h₀ : Heap} {m : Str → Option Value} {s : Shared} {led : List (Addr × Obj)} {Q E : Value → Shared → Prop}


theorem primer_C18 (w : World) (h : Heap) : (Mine.hd.heap_39 w.params).In h → (PySem.Challenge.rw_pb0455_01.Holds → True) := by
  k_fill
  intros; trivial

theorem with_map {P : Prop} {h₀ hp : Heap} {L : Addr} {m : Str → Option Value} (F : Fr h₀ L hp m) (k : ∀ m', m' = m → Fr h₀ L hp m' → P) : P := k m rfl F
theorem all_nil {P : Addr × Obj → Prop} : ∀ q ∈ ([] : List (Addr × Obj)), P q := fun _ h => nomatch h
theorem all_cons {P : Addr × Obj → Prop} {a : Addr × Obj} {l : List (Addr × Obj)} (h : P a) (t : ∀ q ∈ l, P q) : ∀ q ∈ a :: l, P q := fun q hq => by
  rcases List.mem_cons.mp hq with rfl | hq
  · exact h
  · exact t q hq
theorem at_bd {p ps : Int} (h0 : 0 ≤ ps) (h1 : ps ≤ 32768) : p < 1 ∨ 7 < p ∨ (0 ≤ (p - 1) * ps ∧ (p - 1) * ps ≤ 196608) := by
  by_cases a : p < 1
  · exact .inl a
  by_cases b : 7 < p
  · exact .inr (.inl b)
  refine .inr (.inr ⟨Int.mul_nonneg (by omega) h0, ?_⟩)
  have := Int.mul_le_mul (show p - 1 ≤ 6 by omega) h1 h0 (by decide)
  omega
def Raised51 (K : Frag) (E : Value → Shared → Prop) (v : Value) (s₁ : Shared) : Prop := ∃ e t d, v = .ref e ∧ K.In s₁.heap ∧ s₁.heap.get? e = some (excD t d) ∧ E (.ref e) s₁
theorem x_RaiseK {prog : Program} {w : World} {A : Around} {E : Value → Shared → Prop} {s : Shared} {env : Env} {K : Frag} {h₀ : Heap} {nm q : Str} {N : Addr} {bs bm : List Value} {hdct : Bool} {sn : List Str} {sub : List Value} {ab : Bool} {col : Option Bool} {dd : Option Addr} {k0 k1 k2 k3 k5 : Option Value} {newId : String}
    {ex : PySem.Expr} {pos : Pos} {Q : Flow → Shared → Prop} (X : K.In h₀) (hK : K.lookup 51 = some (excClassObj nm q 51 N bs bm hdct sn sub ab col dd k0 k1 k2 k3 k5 newId)) (hbase : bm.contains (.type "BaseException") = true) (hh : A.handled = none)
    (h : wpAny (model prog w) A (eval ex env) (Raised51 K E) E s) :
    wpAny (model prog w) A (exec (.Raise (some ex) none pos) env) Q E s :=
  x_Raise hbase hh (wpAny_mono h (fun v s₁ z => by obtain ⟨e, t, d, rfl, x, y, z⟩ := z; exact ⟨e, t, d, rfl, x _ _ hK, y, z⟩) fun _ _ x => x)
theorem fresh_frame {g hp h' : Heap} {L' : Addr} {m' : Str → Option Value} {led : List (Addr × Obj)} (kg : ∀ b o, hp.get? b = some o → b ∉ led.map (·.1) → g.get? b = some o) (F' : Fr g L' h' m') {h'' : Heap} {led' : List (Addr × Obj)} (N' : News g L' h'' led') (hs : ∀ a ∈ led.map (·.1), a ∈ led'.map (·.1)) : hp.get? L' = none := by
  cases q : hp.get? L' with
  | none => rfl
  | some o =>
    have hn : L' ∉ led.map (·.1) := fun z => by
      obtain ⟨p, hp', e⟩ := List.mem_map.mp (hs _ z)
      exact (N' p hp').2.1 e
    have := Heap.lt_size (kg _ _ q hn)
    exact absurd (Nat.lt_of_lt_of_le this F'.above) (Nat.lt_irrefl _)
theorem fresh_frame2 {g hp h' : Heap} {L' : Addr} {m' : Str → Option Value} {led : List (Addr × Obj)} (kg : ∀ b o, hp.get? b = some o → b ∉ led.map (·.1) → g.get? b = some o) (F' : Fr g L' h' m') {h'' : Heap} {led' : List (Addr × Obj)} (N' : News g L' h'' led') {as L : List Addr} (e : led.map (·.1) = as) (n : NdA L) (e' : led'.map (·.1) = L) (s : as.Sublist L) : hp.get? L' = none :=
  fresh_frame kg F' N' (fun a ha => by rw [e']; exact s.subset (e ▸ ha))
def recAt (x : List UInt8) (ps : Int) (i : Nat) : List UInt8 := cut x (some (24 + (0 + (i : Int) * 1) * (ps + 8))) (some (24 + (0 + (i : Int) * 1) * (ps + 8) + (ps + 8)))
def pageAt (x : List UInt8) (ps : Int) (i : Nat) : Int := beVal (cut (recAt x ps i) (some 0) (some (0 + 4)))
def octAt (x : List UInt8) (ps : Int) (i : Nat) : List UInt8 := cut (recAt x ps i) (some 4) (some (4 + ps))
def recBad (x : List UInt8) (nn ps : Int) (i : Nat) : Prop := ((recAt x ps i).length : Int) < ps + 8 ∨ beVal (cut (recAt x ps i) (some (4 + ps)) (some (4 + ps + 4))) ≠ rsum nn (pageAt x ps i) (octAt x ps i)
def recPut (x : List UInt8) (pc ps : Int) (i : Nat) (b : List UInt8) : List UInt8 := if 1 ≤ pageAt x ps i ∧ pageAt x ps i ≤ pc then putB b ((pageAt x ps i - 1) * ps) (octAt x ps i) else b
open Classical in
noncomputable def playGo (x : List UInt8) (nn pc ps : Int) : Nat → Nat → List UInt8 → List UInt8 × Bool
  | 0, _, b => (cutB b (pc * ps), false)
  | k + 1, i, b => if recBad x nn ps i then (b, true) else playGo x nn pc ps k (i + 1) (recPut x pc ps i b)
noncomputable def playOf (x b : List UInt8) : List UInt8 × Bool := match headOf x with
  | none => (b, true)
  | some (cn, nn, pc, ps) => if cn = 4294967295 then (b, true) else playGo x nn pc ps cn.toNat 0 b
theorem play_none {x b : List UInt8} (hh : headOf x = none) : playOf x b = (b, true) := by unfold playOf; rw [hh]
theorem play_uns {x b : List UInt8} {cn nn pc ps : Int} (hh : headOf x = some (cn, nn, pc, ps)) (h : cn = 4294967295) : playOf x b = (b, true) := by
  unfold playOf; rw [hh]; exact if_pos h
theorem play_raise {x b bb : List UInt8} {cn nn pc ps : Int} {i : Nat} (hh : headOf x = some (cn, nn, pc, ps)) (hne : cn ≠ 4294967295) (hin : i < cn.toNat) (hgo : playGo x nn pc ps (cn.toNat - i) i bb = playGo x nn pc ps cn.toNat 0 b) (hbad : recBad x nn ps i) : playOf x b = (bb, true) := by
  unfold playOf
  rw [hh]
  show (if cn = 4294967295 then _ else _) = _
  rw [if_neg hne, ← hgo, show cn.toNat - i = (cn.toNat - (i + 1)) + 1 from sub_step hin, playGo, if_pos hbad]
theorem play_step {x b bb : List UInt8} {cn nn pc ps : Int} {i : Nat} (hin : i < cn.toNat) (hgo : playGo x nn pc ps (cn.toNat - i) i bb = playGo x nn pc ps cn.toNat 0 b) (hok : ¬ recBad x nn ps i) :
    playGo x nn pc ps (cn.toNat - (i + 1)) (i + 1) (recPut x pc ps i bb) = playGo x nn pc ps cn.toNat 0 b := by
  rw [← hgo, show cn.toNat - i = (cn.toNat - (i + 1)) + 1 from sub_step hin]
  conv => rhs; rw [playGo, if_neg hok]
theorem ok_mk {x : List UInt8} {nn ps : Int} {i : Nat} (a : ¬ ((recAt x ps i).length : Int) < ps + 8) (b : beVal (cut (recAt x ps i) (some (4 + ps)) (some (4 + ps + 4))) = rsum nn (pageAt x ps i) (octAt x ps i)) : ¬ recBad x nn ps i := fun h => h.elim a fun c => c b
theorem play_put {x b bb : List UInt8} {cn nn pc ps : Int} {i : Nat} (hin : i < cn.toNat) (hgo : playGo x nn pc ps (cn.toNat - i) i bb = playGo x nn pc ps cn.toNat 0 b) (a : ¬ ((recAt x ps i).length : Int) < ps + 8) (c : beVal (cut (recAt x ps i) (some (4 + ps)) (some (4 + ps + 4))) = rsum nn (pageAt x ps i) (octAt x ps i)) (h1 : 1 ≤ pageAt x ps i) (h2 : pageAt x ps i ≤ pc) :
    playGo x nn pc ps (cn.toNat - (i + 1)) (i + 1) (putB bb ((pageAt x ps i - 1) * ps) (octAt x ps i)) = playGo x nn pc ps cn.toNat 0 b := by
  have := play_step hin hgo (ok_mk a c)
  rwa [recPut, if_pos ⟨h1, h2⟩] at this
theorem play_skip {x b bb : List UInt8} {cn nn pc ps : Int} {i : Nat} (hin : i < cn.toNat) (hgo : playGo x nn pc ps (cn.toNat - i) i bb = playGo x nn pc ps cn.toNat 0 b) (a : ¬ ((recAt x ps i).length : Int) < ps + 8) (c : beVal (cut (recAt x ps i) (some (4 + ps)) (some (4 + ps + 4))) = rsum nn (pageAt x ps i) (octAt x ps i)) (h : ¬ (1 ≤ pageAt x ps i ∧ pageAt x ps i ≤ pc)) :
    playGo x nn pc ps (cn.toNat - (i + 1)) (i + 1) bb = playGo x nn pc ps cn.toNat 0 b := by
  have := play_step hin hgo (ok_mk a c)
  rwa [recPut, if_neg h] at this
theorem play_end {x b bb : List UInt8} {cn nn pc ps : Int} (hh : headOf x = some (cn, nn, pc, ps)) (hne : cn ≠ 4294967295) (hgo : playGo x nn pc ps (cn.toNat - cn.toNat) cn.toNat bb = playGo x nn pc ps cn.toNat 0 b) : playOf x b = (cutB bb (pc * ps), false) := by
  unfold playOf
  rw [hh]
  show (if cn = 4294967295 then _ else _) = _
  rw [if_neg hne, ← hgo, Nat.sub_self, playGo]
theorem cutB_same {b : List UInt8} {k : Int} (h : (b.length : Int) = k) : cutB b k = b := by
  unfold cutB
  rw [if_neg (by omega), show (k - (b.length : Int)).toNat = 0 by omega]
  simp
theorem cutB_len {b : List UInt8} {k : Int} (h0 : 0 ≤ k) (h1 : k ≤ 229376) : (cutB b k).length ≤ 229376 := by
  unfold cutB
  split <;> simp only [List.length_take, List.length_append, List.length_replicate] <;> omega
theorem cut_le {l : List UInt8} {a b : Int} (h : 0 ≤ a) : ((cut l (some a) (some b)).length : Int) ≤ max 0 (b - a) ∧ (cut l (some a) (some b)).length ≤ l.length - a.toNat := by
  unfold cut
  simp only [Option.elim, List.length_take, List.length_drop]
  refine ⟨Int.le_trans (Int.ofNat_le.mpr (Nat.min_le_left _ _)) ?_, Nat.min_le_right _ _⟩
  rcases Int.le_total b a with q | q
  · rw [Nat.sub_eq_zero_of_le (Int.toNat_le_toNat q)]; exact Int.le_max_left 0 _
  · rw [Int.ofNat_sub (Int.toNat_le_toNat q), Int.toNat_of_nonneg h, Int.toNat_of_nonneg (Int.le_trans h q)]; exact Int.le_max_right 0 _
theorem rec_len {x : List UInt8} {ps : Int} {i : Nat} (h : ¬ ((recAt x ps i).length : Int) < ps + 8) (h0 : 64 ≤ ps) (hx : x.length ≤ 240) : ((i + 1 : Nat) : Int) * 72 ≤ 240 := by
  have e : (0 + (i : Int) * 1) = (i : Int) := by omega
  have m : (i : Int) * 72 ≤ (i : Int) * (ps + 8) := Int.mul_le_mul_of_nonneg_left (by omega) (by omega)
  have := (cut_le (l := x) (a := 24 + (0 + (i : Int) * 1) * (ps + 8)) (b := 24 + (0 + (i : Int) * 1) * (ps + 8) + (ps + 8)) (by rw [e]; omega)).2
  unfold recAt at h
  rw [e] at h this
  push_cast
  omega
theorem putB_len {b x : List UInt8} {k : Int} (h0 : 0 ≤ k) : (putB b k x).length ≤ max b.length (k.toNat + x.length) := by
  unfold putB putAt
  simp only [List.length_append, List.length_take, List.length_drop, List.length_replicate]
  have e : b.length + (k - (b.length : Int)).toNat = max b.length k.toNat := by
    clear x
    omega
  rw [e, Nat.min_eq_left (Nat.le_max_right _ _)]
  rcases Nat.le_total (max b.length k.toNat) (k.toNat + x.length) with q | q
  · rw [Nat.sub_eq_zero_of_le q, Nat.add_zero]; exact Nat.le_max_right _ _
  · rw [Nat.add_sub_cancel' q]; exact Nat.max_le.mpr ⟨Nat.le_max_left _ _, Nat.le_trans (Nat.le_add_right _ _) (Nat.le_max_right _ _)⟩
theorem put_bd {b x : List UInt8} {ps k : Int} {i : Nat} (hb : b.length ≤ 240000) (h0 : 0 ≤ k) (h1 : k ≤ 196608) (hp : 64 ≤ ps) (hp' : ps ≤ 32768) : (putB b k (octAt x ps i)).length ≤ 240000 := by
  have := putB_len (b := b) (x := octAt x ps i) h0
  have := (cut_le (l := recAt x ps i) (a := 4) (b := 4 + ps) (by decide)).1
  unfold octAt at *
  omega
theorem pcps_bd {pc ps : Int} (h0 : 0 ≤ pc) (h1 : pc ≤ 7) (h2 : 0 ≤ ps) (h3 : ps ≤ 32768) : 0 ≤ pc * ps ∧ pc * ps ≤ 229376 := by
  refine ⟨Int.mul_nonneg h0 h2, ?_⟩
  have := Int.mul_le_mul h1 h3 h2 (by decide)
  omega
theorem news4 {h₀ h h' : Heap} {L a1 a2 a3 a4 : Addr} {x1 y1 x2 y2 x3 y3 x4 y4 : Obj} {news n1 n2 n3 n4 : List (Addr × Obj)} (N : News h₀ L h news) (k : Keep [a1, a2, a3, a4] h h') (U1 : Upd a1 x1 y1 news n1) (U2 : Upd a2 x2 y2 n1 n2) (U3 : Upd a3 x3 y3 n2 n3) (U4 : Upd a4 x4 y4 n3 n4)
    (g1 : h'.get? a1 = some y1) (g2 : h'.get? a2 = some y2) (g3 : h'.get? a3 = some y3) (g4 : h'.get? a4 = some y4) : News h₀ L h' n4 := fun q hq => by
  have A0 : AddrOk h₀ L news := fun q hq => (N q hq).2
  refine ⟨?_, ((((A0.upd U1).upd U2).upd U3).upd U4) q hq⟩
  rcases upd_in U4 q hq with rfl | ⟨hq, e4⟩
  · exact g4
  rcases upd_in U3 q hq with rfl | ⟨hq, e3⟩
  · exact g3
  rcases upd_in U2 q hq with rfl | ⟨hq, e2⟩
  · exact g2
  rcases upd_in U1 q hq with rfl | ⟨hq, e1⟩
  · exact g1
  exact k _ _ (by simp [e1, e2, e3, e4]) (N q hq).1

theorem play_k {E : Value → Shared → Prop} {Q : Value → Shared → Prop} {hp : Heap} {g : Array GenState} {dr : Drawn} {tk : Nat} {os : OsState} {news : List (Addr × Obj)} {jn jx dk dd fs sh lk f j jd pj nj : Addr} {ofs : Obj} {st : Int} {x : List UInt8} {q1 q2 q3 q4 q5 q6 q7 b1 b2 b3 b4 b5 t5 t6 t9 t10 g1 g2 g3 g4 g5 g6 gt2 gt3 gt4 gt5 gt6 : Tok} {fd p n : Addr} {sy : Value} {vs : Array Value} {c : Nat} {b : List UInt8} {k1 k2 k3 k4 k5 t7 : Tok}
    {n1 : Int → Tok → List (Addr × Obj)} {n2 : Int → Tok → Array Value → Nat → List (Addr × Obj)} {n3 : Int → Tok → Array Value → Nat → List UInt8 → List (Addr × Obj)} {n4 : Int → Tok → Array Value → Nat → List UInt8 → Tok → Addr → List (Addr × Obj)}
    (B : Below A₀ base outer h₀) (F : Fr h₀ L hp m) (X : (Mine.hd.heap_39 w.params).In h₀) (N : News h₀ L hp news) (T' : Top VW LO mean mg mb h₀) (kk : cs.kind = .function) (hd : dp + 24 < recursionLimit) (m0 : (jn, instObj 185 jx) ∈ news) (m1 : (jx, dictOf [{ hash := PyData.keyHash w.params (Str.ofString "disk"), key := Value.str (Str.ofString "disk") g1, val := Value.ref dk }, { hash := PyData.keyHash w.params (Str.ofString "name"), key := Value.str (Str.ofString "name") g2, val := Value.str (Str.ofString "db-journal") gt2 }, { hash := PyData.keyHash w.params (Str.ofString "page_size"), key := Value.str (Str.ofString "page_size") g3, val := Value.int 64 gt3 }, { hash := PyData.keyHash w.params (Str.ofString "nonce"), key := Value.str (Str.ofString "nonce") g4, val := Value.int 0 gt4 }, { hash := PyData.keyHash w.params (Str.ofString "count"), key := Value.str (Str.ofString "count") g5, val := Value.int 0 gt5 }, { hash := PyData.keyHash w.params (Str.ofString "safe"), key := Value.str (Str.ofString "safe") g6, val := Value.int 4294967295 gt6 }] 6) ∈ news) (m2 : (dk, instObj 489 dd) ∈ news) (m3 : (dd, dictOf [{ hash := PyData.keyHash w.params (Str.ofString "sector"), key := Value.str (Str.ofString "sector") q1, val := Value.int 8 t5 }, { hash := PyData.keyHash w.params (Str.ofString "room"), key := Value.str (Str.ofString "room") q2, val := Value.none }, { hash := PyData.keyHash w.params (Str.ofString "files"), key := Value.str (Str.ofString "files") q3, val := Value.ref fs }, { hash := PyData.keyHash w.params (Str.ofString "steps"), key := Value.str (Str.ofString "steps") q4, val := Value.int st t6 }, { hash := PyData.keyHash w.params (Str.ofString "crash_at"), key := Value.str (Str.ofString "crash_at") q5, val := Value.none }, { hash := PyData.keyHash w.params (Str.ofString "shared"), key := Value.str (Str.ofString "shared") q6, val := Value.ref sh }, { hash := PyData.keyHash w.params (Str.ofString "locks"), key := Value.str (Str.ofString "locks") q7, val := Value.ref lk }] 7) ∈ news) (m4 : (fs, ofs) ∈ news) (m5 : (j, instObj 390 jd) ∈ news) (m6 : (jd, dictOf [{ hash := PyData.keyHash w.params (Str.ofString "disk"), key := Value.str (Str.ofString "disk") b1, val := Value.ref dk }, { hash := PyData.keyHash w.params (Str.ofString "name"), key := Value.str (Str.ofString "name") b2, val := Value.str (Str.ofString "db-journal") t9 }, { hash := PyData.keyHash w.params (Str.ofString "synced"), key := Value.str (Str.ofString "synced") b3, val := Value.bytes #[] t10 }, { hash := PyData.keyHash w.params (Str.ofString "pending"), key := Value.str (Str.ofString "pending") b4, val := Value.ref pj }, { hash := PyData.keyHash w.params (Str.ofString "now"), key := Value.str (Str.ofString "now") b5, val := Value.ref nj }] 5) ∈ news) (m7 : (nj, baObj x) ∈ news) (m8 : (f, instObj 390 fd) ∈ news) (m9 : (fd, dictOf [{ hash := PyData.keyHash w.params (Str.ofString "disk"), key := Value.str (Str.ofString "disk") k1, val := Value.ref dk }, { hash := PyData.keyHash w.params (Str.ofString "name"), key := Value.str (Str.ofString "name") k2, val := Value.str (Str.ofString "db") t7 }, { hash := PyData.keyHash w.params (Str.ofString "synced"), key := Value.str (Str.ofString "synced") k3, val := sy }, { hash := PyData.keyHash w.params (Str.ofString "pending"), key := Value.str (Str.ofString "pending") k4, val := Value.ref p }, { hash := PyData.keyHash w.params (Str.ofString "now"), key := Value.str (Str.ofString "now") k5, val := Value.ref n }] 5) ∈ news) (m10 : (p, W.listOf vs c) ∈ news) (m11 : (n, baObj b) ∈ news) (h2 : x.length ≤ 240) (h3 : b.length ≤ 240000) (hv : vs.size ≤ 1000) (hpc : 24 ≤ x.length → w4 x 16 ≤ 7) (nd0 : NdA [jn, jx, dk, dd, fs, j, jd, nj, f, fd, p, n]) (lo : (fs == sysModules) = false) (hfs : ofs.IsDictOf (PySem.strKind PG w) [(Str.ofString "db", .ref f), (Str.ofString "db-journal", .ref j)])
    (U1 : ∀ st1 s1, Upd dd (dictOf [{ hash := PyData.keyHash w.params (Str.ofString "sector"), key := Value.str (Str.ofString "sector") q1, val := Value.int 8 t5 }, { hash := PyData.keyHash w.params (Str.ofString "room"), key := Value.str (Str.ofString "room") q2, val := Value.none }, { hash := PyData.keyHash w.params (Str.ofString "files"), key := Value.str (Str.ofString "files") q3, val := Value.ref fs }, { hash := PyData.keyHash w.params (Str.ofString "steps"), key := Value.str (Str.ofString "steps") q4, val := Value.int st t6 }, { hash := PyData.keyHash w.params (Str.ofString "crash_at"), key := Value.str (Str.ofString "crash_at") q5, val := Value.none }, { hash := PyData.keyHash w.params (Str.ofString "shared"), key := Value.str (Str.ofString "shared") q6, val := Value.ref sh }, { hash := PyData.keyHash w.params (Str.ofString "locks"), key := Value.str (Str.ofString "locks") q7, val := Value.ref lk }] 7) (dictOf [{ hash := PyData.keyHash w.params (Str.ofString "sector"), key := Value.str (Str.ofString "sector") q1, val := Value.int 8 t5 }, { hash := PyData.keyHash w.params (Str.ofString "room"), key := Value.str (Str.ofString "room") q2, val := Value.none }, { hash := PyData.keyHash w.params (Str.ofString "files"), key := Value.str (Str.ofString "files") q3, val := Value.ref fs }, { hash := PyData.keyHash w.params (Str.ofString "steps"), key := Value.str (Str.ofString "steps") q4, val := Value.int st1 s1 }, { hash := PyData.keyHash w.params (Str.ofString "crash_at"), key := Value.str (Str.ofString "crash_at") q5, val := Value.none }, { hash := PyData.keyHash w.params (Str.ofString "shared"), key := Value.str (Str.ofString "shared") q6, val := Value.ref sh }, { hash := PyData.keyHash w.params (Str.ofString "locks"), key := Value.str (Str.ofString "locks") q7, val := Value.ref lk }] 7) news (n1 st1 s1)) (U2 : ∀ st1 s1 vs1 c1, Upd p (W.listOf vs c) (W.listOf vs1 c1) (n1 st1 s1) (n2 st1 s1 vs1 c1)) (U3 : ∀ st1 s1 vs1 c1 bb, Upd n (baObj b) (baObj bb) (n2 st1 s1 vs1 c1) (n3 st1 s1 vs1 c1 bb))
    (U4 : ∀ st1 s1 vs1 c1 bb s2 p1, Upd fd (dictOf [{ hash := PyData.keyHash w.params (Str.ofString "disk"), key := Value.str (Str.ofString "disk") k1, val := Value.ref dk }, { hash := PyData.keyHash w.params (Str.ofString "name"), key := Value.str (Str.ofString "name") k2, val := Value.str (Str.ofString "db") t7 }, { hash := PyData.keyHash w.params (Str.ofString "synced"), key := Value.str (Str.ofString "synced") k3, val := sy }, { hash := PyData.keyHash w.params (Str.ofString "pending"), key := Value.str (Str.ofString "pending") k4, val := Value.ref p }, { hash := PyData.keyHash w.params (Str.ofString "now"), key := Value.str (Str.ofString "now") k5, val := Value.ref n }] 5) (dictOf [{ hash := PyData.keyHash w.params (Str.ofString "disk"), key := Value.str (Str.ofString "disk") k1, val := Value.ref dk }, { hash := PyData.keyHash w.params (Str.ofString "name"), key := Value.str (Str.ofString "name") k2, val := Value.str (Str.ofString "db") t7 }, { hash := PyData.keyHash w.params (Str.ofString "synced"), key := Value.str (Str.ofString "synced") k3, val := Value.bytes bb.toArray s2 }, { hash := PyData.keyHash w.params (Str.ofString "pending"), key := Value.str (Str.ofString "pending") k4, val := Value.ref p1 }, { hash := PyData.keyHash w.params (Str.ofString "now"), key := Value.str (Str.ofString "now") k5, val := Value.ref n }] 5) (n3 st1 s1 vs1 c1 bb) (n4 st1 s1 vs1 c1 bb s2 p1))
    (hret : ∀ st1 s1 vs1 c1 bb s2 p1 h' tk', playOf x b = (bb, false) → (∀ q ∈ news, q.1 ≠ p1) → Fr h₀ L h' m → News h₀ L h' ((p1, W.listOf #[] 0) :: n4 st1 s1 vs1 c1 bb s2 p1) → Q .none ⟨h', g, dr, tk', os⟩)
    (hraise : ∀ st1 s1 vs1 c1 bb e L' h₁ h' tk', playOf x b = (bb, true) → RX base (envX cn cs L a ccd cl :: outer) e (.ref 51) L' h₁ h' → Fr h₀ L h₁ m → News h₀ L h₁ (n3 st1 s1 vs1 c1 bb) → hp.get? e = none → hp.get? L' = none → E (.ref e) ⟨h', g, dr, tk', os⟩) :
    wpC (model PySem.Challenge.rw_pb0455_01.row.prog w) (ktrTop dp un gd cn cs L a ccd cl outer) (call (.ref 175) [.ref jn, .ref f]) Q E ⟨hp, g, dr, tk, os⟩ := by
  let e_jx : List DictEntry := [{ hash := PyData.keyHash w.params (Str.ofString "disk"), key := Value.str (Str.ofString "disk") g1, val := Value.ref dk }, { hash := PyData.keyHash w.params (Str.ofString "name"), key := Value.str (Str.ofString "name") g2, val := Value.str (Str.ofString "db-journal") gt2 }, { hash := PyData.keyHash w.params (Str.ofString "page_size"), key := Value.str (Str.ofString "page_size") g3, val := Value.int 64 gt3 }, { hash := PyData.keyHash w.params (Str.ofString "nonce"), key := Value.str (Str.ofString "nonce") g4, val := Value.int 0 gt4 }, { hash := PyData.keyHash w.params (Str.ofString "count"), key := Value.str (Str.ofString "count") g5, val := Value.int 0 gt5 }, { hash := PyData.keyHash w.params (Str.ofString "safe"), key := Value.str (Str.ofString "safe") g6, val := Value.int 4294967295 gt6 }]
  let e_dd : List DictEntry := [{ hash := PyData.keyHash w.params (Str.ofString "sector"), key := Value.str (Str.ofString "sector") q1, val := Value.int 8 t5 }, { hash := PyData.keyHash w.params (Str.ofString "room"), key := Value.str (Str.ofString "room") q2, val := Value.none }, { hash := PyData.keyHash w.params (Str.ofString "files"), key := Value.str (Str.ofString "files") q3, val := Value.ref fs }, { hash := PyData.keyHash w.params (Str.ofString "steps"), key := Value.str (Str.ofString "steps") q4, val := Value.int st t6 }, { hash := PyData.keyHash w.params (Str.ofString "crash_at"), key := Value.str (Str.ofString "crash_at") q5, val := Value.none }, { hash := PyData.keyHash w.params (Str.ofString "shared"), key := Value.str (Str.ofString "shared") q6, val := Value.ref sh }, { hash := PyData.keyHash w.params (Str.ofString "locks"), key := Value.str (Str.ofString "locks") q7, val := Value.ref lk }]
  let e_jd : List DictEntry := [{ hash := PyData.keyHash w.params (Str.ofString "disk"), key := Value.str (Str.ofString "disk") b1, val := Value.ref dk }, { hash := PyData.keyHash w.params (Str.ofString "name"), key := Value.str (Str.ofString "name") b2, val := Value.str (Str.ofString "db-journal") t9 }, { hash := PyData.keyHash w.params (Str.ofString "synced"), key := Value.str (Str.ofString "synced") b3, val := Value.bytes #[] t10 }, { hash := PyData.keyHash w.params (Str.ofString "pending"), key := Value.str (Str.ofString "pending") b4, val := Value.ref pj }, { hash := PyData.keyHash w.params (Str.ofString "now"), key := Value.str (Str.ofString "now") b5, val := Value.ref nj }]
  let e_fd : List DictEntry := [{ hash := PyData.keyHash w.params (Str.ofString "disk"), key := Value.str (Str.ofString "disk") k1, val := Value.ref dk }, { hash := PyData.keyHash w.params (Str.ofString "name"), key := Value.str (Str.ofString "name") k2, val := Value.str (Str.ofString "db") t7 }, { hash := PyData.keyHash w.params (Str.ofString "synced"), key := Value.str (Str.ofString "synced") k3, val := sy }, { hash := PyData.keyHash w.params (Str.ofString "pending"), key := Value.str (Str.ofString "pending") k4, val := Value.ref p }, { hash := PyData.keyHash w.params (Str.ofString "now"), key := Value.str (Str.ofString "now") k5, val := Value.ref n }]
  have S : Site w mean mg mb outer A₀ base h₀ L m cs hp [(jn, instObj 185 jx), (jx, dictOf e_jx 6), (dk, instObj 489 dd), (dd, dictOf e_dd 7), (fs, ofs), (j, instObj 390 jd), (jd, dictOf e_jd 5), (nj, baObj x), (f, instObj 390 fd), (fd, dictOf e_fd 5), (p, W.listOf vs c), (n, baObj b)] := ⟨B, F, X, (ns_cons N m0 (ns_cons N m1 (ns_cons N m2 (ns_cons N m3 (ns_cons N m4 (ns_cons N m5 (ns_cons N m6 (ns_cons N m7 (ns_cons N m8 (ns_cons N m9 (ns_cons N m10 (ns_cons N m11 ns_nil)))))))))))), T', kk⟩
  have F0 := F
  have N0 := N
  have znd := nd0
  clear B F X N T' kk nd0
  refine wpC_call ?_
  k_dflt (refine' enterC (s := ⟨hp, g, dr, tk, os⟩) (led := [(jn, instObj 185 jx), (jx, dictOf e_jx 6), (dk, instObj 489 dd), (dd, dictOf e_dd 7), (fs, ofs), (j, instObj 390 jd), (jd, dictOf e_jd 5), (nj, baObj x), (f, instObj 390 fd), (fd, dictOf e_fd 5), (p, W.listOf vs c), (n, baObj b)]) (binds := [(Str.ofString "self", .ref jn), (Str.ofString "file", .ref f)]) ?kS ?k6 ?k7 ?k8 ?k9 ?kB ?_ ?c2 ?c3 ?c4 ?c5; walk_at "cell_enterC")
  rename ∀ b o, _ → b ∉ List.map _ _ → _ => kg0
  k_steps
  rotate_left
  · have hpc7 : zc' ≤ 7 := by have := hpc (by omega); omega
    refine with_map zF' ?_
    intro mb hmb F1
    clear zF'
    refine' codeC_rng (n := za'.toNat) (a := 0) (c := 1) (I := zI') rfl rfl rfl (fun i m₁ news₁ => ∃ (st1 : Int) (s1 : Tok) (vs1 : Array Value) (c1 : Nat) (bb : List UInt8) (ui ur up uo : Option Value), playGo x zb' zc' ze' (za'.toNat - i) i bb = playGo x zb' zc' ze' za'.toNat 0 b ∧ bb.length ≤ 240000 ∧ vs1.size ≤ vs.size + i ∧ (i : Int) * 72 ≤ 240 ∧ news₁ = [(jn, instObj 185 jx), (jx, dictOf e_jx 6), (dk, instObj 489 dd), (dd, dictOf [{ hash := PyData.keyHash w.params (Str.ofString "sector"), key := Value.str (Str.ofString "sector") q1, val := Value.int 8 t5 }, { hash := PyData.keyHash w.params (Str.ofString "room"), key := Value.str (Str.ofString "room") q2, val := Value.none }, { hash := PyData.keyHash w.params (Str.ofString "files"), key := Value.str (Str.ofString "files") q3, val := Value.ref fs }, { hash := PyData.keyHash w.params (Str.ofString "steps"), key := Value.str (Str.ofString "steps") q4, val := Value.int st1 s1 }, { hash := PyData.keyHash w.params (Str.ofString "crash_at"), key := Value.str (Str.ofString "crash_at") q5, val := Value.none }, { hash := PyData.keyHash w.params (Str.ofString "shared"), key := Value.str (Str.ofString "shared") q6, val := Value.ref sh }, { hash := PyData.keyHash w.params (Str.ofString "locks"), key := Value.str (Str.ofString "locks") q7, val := Value.ref lk }] 7), (fs, ofs), (j, instObj 390 jd), (jd, dictOf e_jd 5), (nj, baObj x), (f, instObj 390 fd), (fd, dictOf e_fd 5), (p, W.listOf vs1 c1), (n, baObj bb)] ∧ m₁ = (fun y => if y = Str.ofString "i" then ui else if y = Str.ofString "record" then ur else if y = Str.ofString "page" then up else if y = Str.ofString "octets" then uo else mb y)) ?st ?dn za'.toNat 0 (Nat.zero_add _) _ _ _ [(jn, instObj 185 jx), (jx, dictOf e_jx 6), (dk, instObj 489 dd), (dd, dictOf e_dd 7), (fs, ofs), (j, instObj 390 jd), (jd, dictOf e_jd 5), (nj, baObj x), (f, instObj 390 fd), (fd, dictOf e_fd 5), (p, W.listOf vs c), (n, baObj b)] ?j0 F1 ?N ?ne
    case j0 =>
      subst hmb
      refine' (exi9 _ _ _ _ _ _ _ _ _ (andi6 rfl ?a ?b ?c rfl ?m))
      case a => assumption
      case b => exact Nat.le_refl _
      case c => decide
      case m => (refine' st_meet (ns := [Str.ofString "i", Str.ofString "record", Str.ofString "page", Str.ofString "octets"]) (tt := [(Str.ofString "i", _), (Str.ofString "record", _), (Str.ofString "page", _), (Str.ofString "octets", _)]) ?sta ?stb ?stc ?sth; walk_at "q_me")
    case N => exact fa_sub zN' (by walk_at "q_sub")
    case ne => exact ne_led znd rfl (by walk_at "q_sub")
    case dn =>
      subst hmb
      intro h' tk' m' news' hJ
      refine ex9 hJ ?_
      clear hJ
      intro st1 s1 vs1 c1 bb ui ur up uo hJ
      refine and6 hJ ?_
      clear hJ
      rintro hgo hb1 hvs hi72 rfl rfl F N
      have hpp := pcps_bd (pc := zc') (ps := ze') (by omega) hpc7 (by omega) (by omega)
      have hcl : (cutB bb (zc' * ze')).length ≤ 229376 := cutB_len hpp.1 hpp.2
      replace znd : NdA [jn, jx, dk, dd, fs, j, jd, nj, f, fd, p, n] := by walk_at "nd_pick"
      clear zN' F1
      dsimp only at F
      show wpC _ _ _ _ _ _
      k_steps
      · have kK0 := zkK
        have kN0 := zkN
        have kq := keep_led (ch := [dd, p, n, fd]) kg0 kK0 S.N kN0 (by walk_at "q_sb")
        refine' hret _ _ _ _ _ _ _ _ _ ?pl1 (ne_new N0 ?h11) (frK F0 N0 kq (mm_cons m3 (mm_cons m10 (mm_cons m11 (mm_cons m9 mm_nil))))) (news_cons F0 (news4 N0 kq (U1 _ _) (U2 _ _ _ _) (U3 _ _ _ _ _) (U4 _ _ _ _ _ _ _) ?g11 ?g21 ?g31 ?g41) ?e11 ?h11)
        case g41 => exact News.get kN0 (by k_mem)
        case g11 => exact News.get kN0 (by k_mem)
        case g21 => exact News.get kN0 (by k_mem)
        case g31 => exact News.get kN0 (by k_mem)
        case e11 => exact News.get kN0 (by k_mem)
        case pl1 => exact play_end zhh (by assumption) hgo
        case h11 => exact fresh_in kg0 kN0 (by k_mem) znd (as := [jn, jx, dk, dd, fs, j, jd, nj, f, fd, p, n]) rfl (by walk_at "q_sub")
      · have kK0 := zkK
        have kN0 := zkN
        have kq := keep_led (ch := [dd, p, n, fd]) kg0 kK0 S.N kN0 (by walk_at "q_sb")
        refine' hret _ _ _ _ _ _ _ _ _ ?pl2 (ne_new N0 ?h12) (frK F0 N0 kq (mm_cons m3 (mm_cons m10 (mm_cons m11 (mm_cons m9 mm_nil))))) (news_cons F0 (news4 N0 kq (U1 _ _) (U2 _ _ _ _) (U3 _ _ _ _ _) (U4 _ _ _ _ _ _ _) ?g12 ?g22 ?g32 ?g42) ?e12 ?h12)
        case g42 => exact News.get kN0 (by k_mem)
        case g12 => exact News.get kN0 (by k_mem)
        case g22 => exact News.get kN0 (by k_mem)
        case g32 => exact News.get kN0 (by k_mem)
        case e12 => exact News.get kN0 (by k_mem)
        case pl2 => exact by have := play_end zhh (by assumption) hgo; rwa [cutB_same (by assumption)] at this
        case h12 => exact fresh_in kg0 kN0 (by k_mem) znd (as := [jn, jx, dk, dd, fs, j, jd, nj, f, fd, p, n]) rfl (by walk_at "q_sub")
    case st =>
      replace znd : NdA [zI', jn, jx, dk, dd, fs, j, jd, nj, f, fd, p, n] := by walk_at "nd_pick"
      clear zN' F1
      subst hmb
      intro i t' m₁ news₁ hp' tk' hin hJ
      refine ex9 hJ ?_
      clear hJ
      intro st1 s1 vs1 c1 bb ui ur up uo hJ
      refine and6 hJ ?_
      clear hJ
      rintro hgo hb1 hvs hi72 rfl rfl ne F N
      clear ne
      have hpg0 : 0 ≤ beVal (cut (cut x (some (24 + (0 + (i : Int) * 1) * (ze' + 8))) (some (24 + (0 + (i : Int) * 1) * (ze' + 8) + (ze' + 8)))) (some 0) (some (0 + 4))) ∧ beVal (cut (cut x (some (24 + (0 + (i : Int) * 1) * (ze' + 8))) (some (24 + (0 + (i : Int) * 1) * (ze' + 8) + (ze' + 8)))) (some 0) (some (0 + 4))) < 4294967296 := w4_bd _ (by decide)
      have hmul : 0 ≤ (0 + (i : Int) * 1) * (ze' + 8) := Int.mul_nonneg (by omega) (by omega)
      have hat := at_bd (p := beVal (cut (cut x (some (24 + (0 + (i : Int) * 1) * (ze' + 8))) (some (24 + (0 + (i : Int) * 1) * (ze' + 8) + (ze' + 8)))) (some 0) (some (0 + 4)))) (ps := ze') (by omega) (by omega)
      dsimp only at F
      show wpC _ _ _ _ _ _
      k_steps
      · have hX : (Mine.hd.heap_39 w.params).In zh' := Frag.In.keeps (by k_asm) zF'.keep
        refine ⟨_, _, _, rfl, hX, (zN' _ (.head _)).1, ?_⟩
        refine' loopX (E := fun e' s3 => E e' s3) (Q := fun _ s3 => E (.ref zex') s3) ?K1 zF' (zN' _ (.head _)).1 rfl rfl rfl (zN' _ (.head _)).2.2 (fun s'' z => wpC_of z) ?hQ1 rfl
        case K1 => k_asm
        case' hQ1 => intro h'' hR
        have kq := keep_led (ch := [dd, p, n]) kg0 zF'.keep S.N zN' (by walk_at "q_sb")
        refine' hraise _ _ _ _ bb _ _ _ _ _ (play_raise zhh (by assumption) hin hgo (by first | exact .inl (by assumption) | exact .inr (by assumption))) hR (frK F0 N0 kq (mm_cons m3 (mm_cons m10 (mm_cons m11 mm_nil)))) (news3 N0 kq (U1 _ _) (U2 _ _ _ _) (U3 _ _ _ _ _) (News.get zN' (by k_mem)) (News.get zN' (by k_mem)) (News.get zN' (by k_mem))) ?ne1 (fresh_frame2 kg0 zF' zN' (as := [jn, jx, dk, dd, fs, j, jd, nj, f, fd, p, n]) rfl znd rfl (by walk_at "q_sub"))
        case ne1 => exact fresh_in kg0 zN' (.head _) znd (as := [jn, jx, dk, dd, fs, j, jd, nj, f, fd, p, n]) rfl (by walk_at "q_sub")
      · have hX : (Mine.hd.heap_39 w.params).In zh' := Frag.In.keeps (by k_asm) zF'.keep
        refine ⟨_, _, _, rfl, hX, (zN' _ (.head _)).1, ?_⟩
        refine' loopX (E := fun e' s3 => E e' s3) (Q := fun _ s3 => E (.ref zex') s3) ?K2 zF' (zN' _ (.head _)).1 rfl rfl rfl (zN' _ (.head _)).2.2 (fun s'' z => wpC_of z) ?hQ2 rfl
        case K2 => k_asm
        case' hQ2 => intro h'' hR
        have kq := keep_led (ch := [dd, p, n]) kg0 zF'.keep S.N zN' (by walk_at "q_sb")
        refine' hraise _ _ _ _ bb _ _ _ _ _ (play_raise zhh (by assumption) hin hgo (by first | exact .inl (by assumption) | exact .inr (by assumption))) hR (frK F0 N0 kq (mm_cons m3 (mm_cons m10 (mm_cons m11 mm_nil)))) (news3 N0 kq (U1 _ _) (U2 _ _ _ _) (U3 _ _ _ _ _) (News.get zN' (by k_mem)) (News.get zN' (by k_mem)) (News.get zN' (by k_mem))) ?ne2 (fresh_frame2 kg0 zF' zN' (as := [jn, jx, dk, dd, fs, j, jd, nj, f, fd, p, n]) rfl znd rfl (by walk_at "q_sub"))
        case ne2 => exact fresh_in kg0 zN' (.head _) znd (as := [jn, jx, dk, dd, fs, j, jd, nj, f, fd, p, n]) rfl (by walk_at "q_sub")
      · refine' TurnEnd.next rfl zF' zN' ?hs ?ha (exi9 _ _ _ _ _ _ _ _ _ (andi6 ?go ?lb ?lv (rec_len (by assumption) (by omega) h2) rfl ?m))
        case hs => exact sub_in (by walk_at "q_sub")
        case ha => exact ne_led znd (as := [jn, jx, dk, dd, fs, j, jd, nj, f, fd, p, n]) rfl (by walk_at "q_sub")
        case m => (refine' st_meet (ns := [Str.ofString "i", Str.ofString "record", Str.ofString "page", Str.ofString "octets"]) (tt := [(Str.ofString "i", _), (Str.ofString "record", _), (Str.ofString "page", _), (Str.ofString "octets", _)]) ?sta ?stb ?stc ?sth; walk_at "q_me")
        case go => exact play_put hin hgo (by assumption) (by assumption) (by assumption) (by assumption)
        case lb => exact put_bd hb1 (by omega) (by omega) (by omega) (by omega)
        case lv => (simp only [Array.size_push]; omega)
      · refine' TurnEnd.next rfl zF' zN' ?hs ?ha (exi9 _ _ _ _ _ _ _ _ _ (andi6 ?go ?lb ?lv (rec_len (by assumption) (by omega) h2) rfl ?m))
        case hs => exact sub_in (by walk_at "q_sub")
        case ha => exact ne_led znd (as := [jn, jx, dk, dd, fs, j, jd, nj, f, fd, p, n]) rfl (by walk_at "q_sub")
        case m => (refine' st_meet (ns := [Str.ofString "i", Str.ofString "record", Str.ofString "page", Str.ofString "octets"]) (tt := [(Str.ofString "i", _), (Str.ofString "record", _), (Str.ofString "page", _), (Str.ofString "octets", _)]) ?sta ?stb ?stc ?sth; walk_at "q_me")
        case go => exact play_skip hin hgo (by assumption) (by assumption) (fun z => absurd z.2 (by assumption))
        case lb => exact hb1
        case lv => (omega)
      · refine' TurnEnd.next rfl zF' zN' ?hs ?ha (exi9 _ _ _ _ _ _ _ _ _ (andi6 ?go ?lb ?lv (rec_len (by assumption) (by omega) h2) rfl ?m))
        case hs => exact sub_in (by walk_at "q_sub")
        case ha => exact ne_led znd (as := [jn, jx, dk, dd, fs, j, jd, nj, f, fd, p, n]) rfl (by walk_at "q_sub")
        case m => (refine' st_meet (ns := [Str.ofString "i", Str.ofString "record", Str.ofString "page", Str.ofString "octets"]) (tt := [(Str.ofString "i", _), (Str.ofString "record", _), (Str.ofString "page", _), (Str.ofString "octets", _)]) ?sta ?stb ?stc ?sth; walk_at "q_me")
        case go => exact play_skip hin hgo (by assumption) (by assumption) (fun z => absurd z.1 (by assumption))
        case lb => exact hb1
        case lv => (omega)
  · have hX : (Mine.hd.heap_39 w.params).In zh' := Frag.In.keeps (by k_asm) zF'.keep
    refine ⟨_, _, _, rfl, hX, (zN' _ (.head _)).1, ?_⟩
    show wpC _ _ (leaving _ _) _ _ _
    refine wpC_of ?_
    refine' leaveX ?K7 zF' (zN' _ (.head _)).1 rfl rfl rfl (zN' _ (.head _)).2.2 ?hQ7 rfl
    case K7 => k_asm
    case' hQ7 => intro h'' hR
    have kq := keep_led (ch := [dd, p, n]) kg0 zF'.keep S.N zN' (by walk_at "q_sb")
    refine' hraise st t6 vs c b _ _ _ _ _ (play_none zhh) hR (frK F0 N0 kq (mm_cons m3 (mm_cons m10 (mm_cons m11 mm_nil)))) (news3 N0 kq (U1 _ _) (U2 _ _ _ _) (U3 _ _ _ _ _) (News.get zN' (by k_mem)) (News.get zN' (by k_mem)) (News.get zN' (by k_mem))) ?ne7 (fresh_frame2 kg0 zF' zN' (as := [jn, jx, dk, dd, fs, j, jd, nj, f, fd, p, n]) rfl znd rfl (by walk_at "q_sub"))
    case ne7 => exact fresh_in kg0 zN' (.head _) znd (as := [jn, jx, dk, dd, fs, j, jd, nj, f, fd, p, n]) rfl (by walk_at "q_sub")
  · have hX : (Mine.hd.heap_39 w.params).In zh' := Frag.In.keeps (by k_asm) zF'.keep
    refine ⟨_, _, _, rfl, hX, (zN' _ (.head _)).1, ?_⟩
    show wpC _ _ (leaving _ _) _ _ _
    refine wpC_of ?_
    refine' leaveX ?K8 zF' (zN' _ (.head _)).1 rfl rfl rfl (zN' _ (.head _)).2.2 ?hQ8 rfl
    case K8 => k_asm
    case' hQ8 => intro h'' hR
    have kq := keep_led (ch := [dd, p, n]) kg0 zF'.keep S.N zN' (by walk_at "q_sb")
    refine' hraise st t6 vs c b _ _ _ _ _ (play_uns zhh (by assumption)) hR (frK F0 N0 kq (mm_cons m3 (mm_cons m10 (mm_cons m11 mm_nil)))) (news3 N0 kq (U1 _ _) (U2 _ _ _ _) (U3 _ _ _ _ _) (News.get zN' (by k_mem)) (News.get zN' (by k_mem)) (News.get zN' (by k_mem))) ?ne8 (fresh_frame2 kg0 zF' zN' (as := [jn, jx, dk, dd, fs, j, jd, nj, f, fd, p, n]) rfl znd rfl (by walk_at "q_sub"))
    case ne8 => exact fresh_in kg0 zN' (.head _) znd (as := [jn, jx, dk, dd, fs, j, jd, nj, f, fd, p, n]) rfl (by walk_at "q_sub")

end
end
section
def kp_linesZ : List String := ["wpC", "cell_enterR"]
theorem setup_linesZ : True := by
  (k_with "linesZ|wpC" => ((with_reducible show wpC _ _ (exec (Stmt.Try _ (_ :: _) _ [] _) _) _ _ _); k_dflt (refine C_Try ?_)))
  (k_with "linesZ|wpC" => (k_here; (with_reducible show wpC _ _ (call (Value.ref 175) _) _ _ _); k_dflt (refine' play_k ?B ?F ?X ?N ?T ?kk ?hd ?m0 ?m1 ?m2 ?m3 ?m4 ?m5 ?m6 ?m7 ?m8 ?m9 ?m10 ?m11 ?h2 ?h3 ?hv ?hpc ?nd0 ?lo ?hfs ?U1 ?U2 ?U3 ?U4 ?r0 ?r1; (case B => k_asm); (case F => k_asm); (case X => k_asm); (case N => k_asm); (case T => k_asm); (case kk => rfl); (case hd => ktr_room); (case m0 => k_mem); (case m1 => k_mem); (case m2 => k_mem); (case m3 => k_mem); (case m4 => k_mem); (case m5 => k_mem); (case m6 => k_mem); (case m7 => k_mem); (case m8 => k_mem); (case m9 => k_mem); (case m10 => k_mem); (case m11 => k_mem); (case h2 => first | assumption | omega); (case h3 => first | assumption | omega); (case hv => first | assumption | omega); (case hpc => assumption); (case nd0 => walk_at "nd_pick"); (case lo => assumption); (case hfs => assumption); (case U1 => (intro zka zkb; k_upd)); (case U2 => (intro zka zkb zkc zkd; k_upd)); (case U3 => (intro zka zkb zkc zkd zke; k_upd)); (case U4 => (intro zka zkb zkc zkd zke zkf zkg; k_upd))); (case' r0 => (intro zst1 zs1 zvs1 zc1 zbb zs2 zp1 zh' _ zhpl zl1 zF' zN'; (try dsimp only at zN'); (try k_lt zl1); (try k_sweep))); (case' r1 => (intro zst1 zs1 zvs1 zc1 zbb ze' zLp' zh1' zh' _ zhpl zhR zF1' zN1' zhe zhL1; (try dsimp only at zN1')))))
  (k_with "linesZ|cell_enterR" => ((case kS => k_asm); (case k6 => k_is); (case k7 => k_is); (case k8 => ktr_room); (case k9 => exact BindsTo.of_eq rfl); (case c5 => decide); (case kB => exact locs rfl); (case c2 => exact rfl); (case c3 => exact rfl); (case c4 => exact rfl); k_whole; intro zg' zL' zh' zF' zN' zB' zX' zT' zkg' zhL zhk zqk zek; (try dsimp only at zF')))
  trivial
local macro_rules | `(tactic| walk_at $s:str) => do
  let xs := (rowsFor [("linesZ", kp_linesZ), ("lines15", kp_lines15), ("linesK", kp_linesK), ("lines2", kp_lines2), ("pre3", kp_pre3)] s.getString).reverse
  let x :: r := xs | Lean.Macro.throwUnsupported
  let y := Lean.Syntax.mkStrLit x
  let mut t ← `(tactic| k_extra $y)
  for z in r do
    let y := Lean.Syntax.mkStrLit z
    t ← `(tactic| first | k_extra $y | ($t:tactic))
  return t
section
variable {w : World} {mean : ExcName → Option Value} {mg mb : Str → Option Value} {dp un : Nat} {gd : Option (List Code)} {cn : Str} {cs : Scope} {L a : Addr} {ccd : Value} {cl : List (Str × Addr)} {outer : List Env} {A₀ : Around} {base h₀ : Heap} {m : Str → Option Value} {s : Shared} {led : List (Addr × Obj)} {Q E : Value → Shared → Prop}


theorem primer_C19 (w : World) (h : Heap) : (Mine.hd.heap_39 w.params).In h → (PySem.Challenge.rw_pb0455_01.Holds → True) := by
  k_fill
  intros; trivial

theorem fresh_at {g hp hc : Heap} {L' e : Addr} {m' : Str → Option Value} {led led' : List (Addr × Obj)} (kg : ∀ b o, hp.get? b = some o → b ∉ led.map (·.1) → g.get? b = some o) (F : Fr g L' hc m') (N : News g L' hc led') (hs : ∀ a ∈ led.map (·.1), a ∈ led'.map (·.1)) (he : hc.get? e = none) : hp.get? e = none := by
  cases q : hp.get? e with
  | none => rfl
  | some o =>
    by_cases hn : e ∈ led.map (·.1)
    · obtain ⟨p, hp', ee⟩ := List.mem_map.mp (hs _ hn)
      have := (N p hp').1
      rw [ee, he] at this; cases this
    · have := F.keep _ _ (kg _ _ q hn)
      rw [he] at this; cases this
theorem upd_addr {d : Addr} {o o' : Obj} {l l' : List (Addr × Obj)} (U : Upd d o o' l l') {q : Addr × Obj} (hq : q ∈ l') : ∃ q' ∈ l, q'.1 = q.1 := by
  rcases upd_in U q hq with rfl | ⟨h, _⟩
  · exact ⟨_, upd_mem U, rfl⟩
  · exact ⟨q, h, rfl⟩

theorem raises_k {E : Value → Shared → Prop} {Q : Value → Shared → Prop} {hp : Heap} {g : Array GenState} {dr : Drawn} {tk : Nat} {os : OsState} {news : List (Addr × Obj)} {jn jx dk dd fs sh lk f j jd pj nj : Addr} {ofs : Obj} {st : Int} {x : List UInt8} {q1 q2 q3 q4 q5 q6 q7 b1 b2 b3 b4 b5 t5 t6 t9 t10 g1 g2 g3 g4 g5 g6 gt2 gt3 gt4 gt5 gt6 : Tok} {fd p n : Addr} {sy : Value} {vs : Array Value} {c : Nat} {b : List UInt8} {k1 k2 k3 k4 k5 t7 : Tok}
    {n1 : Int → Tok → List (Addr × Obj)} {n2 : Int → Tok → Array Value → Nat → List (Addr × Obj)} {n3 : Int → Tok → Array Value → Nat → List UInt8 → List (Addr × Obj)} {n4 : Int → Tok → Array Value → Nat → List UInt8 → Tok → Addr → List (Addr × Obj)}
    (B : Below A₀ h₀ [] h₀) (F : Fr h₀ L hp m) (X : (Mine.hd.heap_39 w.params).In h₀) (N : News h₀ L hp news) (T' : Top VW LO mean mg mb h₀) (kk : cs.kind = .function) (hd : dp + 28 < recursionLimit) (m0 : (jn, instObj 185 jx) ∈ news) (m1 : (jx, dictOf [{ hash := PyData.keyHash w.params (Str.ofString "disk"), key := Value.str (Str.ofString "disk") g1, val := Value.ref dk }, { hash := PyData.keyHash w.params (Str.ofString "name"), key := Value.str (Str.ofString "name") g2, val := Value.str (Str.ofString "db-journal") gt2 }, { hash := PyData.keyHash w.params (Str.ofString "page_size"), key := Value.str (Str.ofString "page_size") g3, val := Value.int 64 gt3 }, { hash := PyData.keyHash w.params (Str.ofString "nonce"), key := Value.str (Str.ofString "nonce") g4, val := Value.int 0 gt4 }, { hash := PyData.keyHash w.params (Str.ofString "count"), key := Value.str (Str.ofString "count") g5, val := Value.int 0 gt5 }, { hash := PyData.keyHash w.params (Str.ofString "safe"), key := Value.str (Str.ofString "safe") g6, val := Value.int 4294967295 gt6 }] 6) ∈ news) (m2 : (dk, instObj 489 dd) ∈ news) (m3 : (dd, dictOf [{ hash := PyData.keyHash w.params (Str.ofString "sector"), key := Value.str (Str.ofString "sector") q1, val := Value.int 8 t5 }, { hash := PyData.keyHash w.params (Str.ofString "room"), key := Value.str (Str.ofString "room") q2, val := Value.none }, { hash := PyData.keyHash w.params (Str.ofString "files"), key := Value.str (Str.ofString "files") q3, val := Value.ref fs }, { hash := PyData.keyHash w.params (Str.ofString "steps"), key := Value.str (Str.ofString "steps") q4, val := Value.int st t6 }, { hash := PyData.keyHash w.params (Str.ofString "crash_at"), key := Value.str (Str.ofString "crash_at") q5, val := Value.none }, { hash := PyData.keyHash w.params (Str.ofString "shared"), key := Value.str (Str.ofString "shared") q6, val := Value.ref sh }, { hash := PyData.keyHash w.params (Str.ofString "locks"), key := Value.str (Str.ofString "locks") q7, val := Value.ref lk }] 7) ∈ news) (m4 : (fs, ofs) ∈ news) (m5 : (j, instObj 390 jd) ∈ news) (m6 : (jd, dictOf [{ hash := PyData.keyHash w.params (Str.ofString "disk"), key := Value.str (Str.ofString "disk") b1, val := Value.ref dk }, { hash := PyData.keyHash w.params (Str.ofString "name"), key := Value.str (Str.ofString "name") b2, val := Value.str (Str.ofString "db-journal") t9 }, { hash := PyData.keyHash w.params (Str.ofString "synced"), key := Value.str (Str.ofString "synced") b3, val := Value.bytes #[] t10 }, { hash := PyData.keyHash w.params (Str.ofString "pending"), key := Value.str (Str.ofString "pending") b4, val := Value.ref pj }, { hash := PyData.keyHash w.params (Str.ofString "now"), key := Value.str (Str.ofString "now") b5, val := Value.ref nj }] 5) ∈ news) (m7 : (nj, baObj x) ∈ news) (m8 : (f, instObj 390 fd) ∈ news) (m9 : (fd, dictOf [{ hash := PyData.keyHash w.params (Str.ofString "disk"), key := Value.str (Str.ofString "disk") k1, val := Value.ref dk }, { hash := PyData.keyHash w.params (Str.ofString "name"), key := Value.str (Str.ofString "name") k2, val := Value.str (Str.ofString "db") t7 }, { hash := PyData.keyHash w.params (Str.ofString "synced"), key := Value.str (Str.ofString "synced") k3, val := sy }, { hash := PyData.keyHash w.params (Str.ofString "pending"), key := Value.str (Str.ofString "pending") k4, val := Value.ref p }, { hash := PyData.keyHash w.params (Str.ofString "now"), key := Value.str (Str.ofString "now") k5, val := Value.ref n }] 5) ∈ news) (m10 : (p, W.listOf vs c) ∈ news) (m11 : (n, baObj b) ∈ news) (h2 : x.length ≤ 240) (h3 : b.length ≤ 240000) (hv : vs.size ≤ 1000) (hpc : 24 ≤ x.length → w4 x 16 ≤ 7) (nd0 : NdA [jn, jx, dk, dd, fs, j, jd, nj, f, fd, p, n]) (lo : (fs == sysModules) = false) (hfs : ofs.IsDictOf (PySem.strKind PG w) [(Str.ofString "db", .ref f), (Str.ofString "db-journal", .ref j)])
    (U1 : ∀ st1 s1, Upd dd (dictOf [{ hash := PyData.keyHash w.params (Str.ofString "sector"), key := Value.str (Str.ofString "sector") q1, val := Value.int 8 t5 }, { hash := PyData.keyHash w.params (Str.ofString "room"), key := Value.str (Str.ofString "room") q2, val := Value.none }, { hash := PyData.keyHash w.params (Str.ofString "files"), key := Value.str (Str.ofString "files") q3, val := Value.ref fs }, { hash := PyData.keyHash w.params (Str.ofString "steps"), key := Value.str (Str.ofString "steps") q4, val := Value.int st t6 }, { hash := PyData.keyHash w.params (Str.ofString "crash_at"), key := Value.str (Str.ofString "crash_at") q5, val := Value.none }, { hash := PyData.keyHash w.params (Str.ofString "shared"), key := Value.str (Str.ofString "shared") q6, val := Value.ref sh }, { hash := PyData.keyHash w.params (Str.ofString "locks"), key := Value.str (Str.ofString "locks") q7, val := Value.ref lk }] 7) (dictOf [{ hash := PyData.keyHash w.params (Str.ofString "sector"), key := Value.str (Str.ofString "sector") q1, val := Value.int 8 t5 }, { hash := PyData.keyHash w.params (Str.ofString "room"), key := Value.str (Str.ofString "room") q2, val := Value.none }, { hash := PyData.keyHash w.params (Str.ofString "files"), key := Value.str (Str.ofString "files") q3, val := Value.ref fs }, { hash := PyData.keyHash w.params (Str.ofString "steps"), key := Value.str (Str.ofString "steps") q4, val := Value.int st1 s1 }, { hash := PyData.keyHash w.params (Str.ofString "crash_at"), key := Value.str (Str.ofString "crash_at") q5, val := Value.none }, { hash := PyData.keyHash w.params (Str.ofString "shared"), key := Value.str (Str.ofString "shared") q6, val := Value.ref sh }, { hash := PyData.keyHash w.params (Str.ofString "locks"), key := Value.str (Str.ofString "locks") q7, val := Value.ref lk }] 7) news (n1 st1 s1)) (U2 : ∀ st1 s1 vs1 c1, Upd p (W.listOf vs c) (W.listOf vs1 c1) (n1 st1 s1) (n2 st1 s1 vs1 c1)) (U3 : ∀ st1 s1 vs1 c1 bb, Upd n (baObj b) (baObj bb) (n2 st1 s1 vs1 c1) (n3 st1 s1 vs1 c1 bb))
    (U4 : ∀ st1 s1 vs1 c1 bb s2 p1, Upd fd (dictOf [{ hash := PyData.keyHash w.params (Str.ofString "disk"), key := Value.str (Str.ofString "disk") k1, val := Value.ref dk }, { hash := PyData.keyHash w.params (Str.ofString "name"), key := Value.str (Str.ofString "name") k2, val := Value.str (Str.ofString "db") t7 }, { hash := PyData.keyHash w.params (Str.ofString "synced"), key := Value.str (Str.ofString "synced") k3, val := sy }, { hash := PyData.keyHash w.params (Str.ofString "pending"), key := Value.str (Str.ofString "pending") k4, val := Value.ref p }, { hash := PyData.keyHash w.params (Str.ofString "now"), key := Value.str (Str.ofString "now") k5, val := Value.ref n }] 5) (dictOf [{ hash := PyData.keyHash w.params (Str.ofString "disk"), key := Value.str (Str.ofString "disk") k1, val := Value.ref dk }, { hash := PyData.keyHash w.params (Str.ofString "name"), key := Value.str (Str.ofString "name") k2, val := Value.str (Str.ofString "db") t7 }, { hash := PyData.keyHash w.params (Str.ofString "synced"), key := Value.str (Str.ofString "synced") k3, val := Value.bytes bb.toArray s2 }, { hash := PyData.keyHash w.params (Str.ofString "pending"), key := Value.str (Str.ofString "pending") k4, val := Value.ref p1 }, { hash := PyData.keyHash w.params (Str.ofString "now"), key := Value.str (Str.ofString "now") k5, val := Value.ref n }] 5) (n3 st1 s1 vs1 c1 bb) (n4 st1 s1 vs1 c1 bb s2 p1))
    (hret : ∀ st1 s1 vs1 c1 bb s2 p1 h' tk', playOf x b = (bb, false) → (∀ q ∈ news, q.1 ≠ p1) → Fr h₀ L h' m → News h₀ L h' ((p1, W.listOf #[] 0) :: n4 st1 s1 vs1 c1 bb s2 p1) → Q (.bool false) ⟨h', g, dr, tk', os⟩)
    (hret1 : ∀ st1 s1 vs1 c1 bb h' tk', playOf x b = (bb, true) → Fr h₀ L h' m → News h₀ L h' (n3 st1 s1 vs1 c1 bb) → Q (.bool true) ⟨h', g, dr, tk', os⟩) :
    wpC (model PySem.Challenge.rw_pb0455_01.row.prog w) (ktrTop dp un gd cn cs L a ccd cl []) (call (.ref 589) [.ref jn, .ref f]) Q E ⟨hp, g, dr, tk, os⟩ := by
  have X0 := X
  have T0 := T'
  let e_jx : List DictEntry := [{ hash := PyData.keyHash w.params (Str.ofString "disk"), key := Value.str (Str.ofString "disk") g1, val := Value.ref dk }, { hash := PyData.keyHash w.params (Str.ofString "name"), key := Value.str (Str.ofString "name") g2, val := Value.str (Str.ofString "db-journal") gt2 }, { hash := PyData.keyHash w.params (Str.ofString "page_size"), key := Value.str (Str.ofString "page_size") g3, val := Value.int 64 gt3 }, { hash := PyData.keyHash w.params (Str.ofString "nonce"), key := Value.str (Str.ofString "nonce") g4, val := Value.int 0 gt4 }, { hash := PyData.keyHash w.params (Str.ofString "count"), key := Value.str (Str.ofString "count") g5, val := Value.int 0 gt5 }, { hash := PyData.keyHash w.params (Str.ofString "safe"), key := Value.str (Str.ofString "safe") g6, val := Value.int 4294967295 gt6 }]
  let e_dd : List DictEntry := [{ hash := PyData.keyHash w.params (Str.ofString "sector"), key := Value.str (Str.ofString "sector") q1, val := Value.int 8 t5 }, { hash := PyData.keyHash w.params (Str.ofString "room"), key := Value.str (Str.ofString "room") q2, val := Value.none }, { hash := PyData.keyHash w.params (Str.ofString "files"), key := Value.str (Str.ofString "files") q3, val := Value.ref fs }, { hash := PyData.keyHash w.params (Str.ofString "steps"), key := Value.str (Str.ofString "steps") q4, val := Value.int st t6 }, { hash := PyData.keyHash w.params (Str.ofString "crash_at"), key := Value.str (Str.ofString "crash_at") q5, val := Value.none }, { hash := PyData.keyHash w.params (Str.ofString "shared"), key := Value.str (Str.ofString "shared") q6, val := Value.ref sh }, { hash := PyData.keyHash w.params (Str.ofString "locks"), key := Value.str (Str.ofString "locks") q7, val := Value.ref lk }]
  let e_jd : List DictEntry := [{ hash := PyData.keyHash w.params (Str.ofString "disk"), key := Value.str (Str.ofString "disk") b1, val := Value.ref dk }, { hash := PyData.keyHash w.params (Str.ofString "name"), key := Value.str (Str.ofString "name") b2, val := Value.str (Str.ofString "db-journal") t9 }, { hash := PyData.keyHash w.params (Str.ofString "synced"), key := Value.str (Str.ofString "synced") b3, val := Value.bytes #[] t10 }, { hash := PyData.keyHash w.params (Str.ofString "pending"), key := Value.str (Str.ofString "pending") b4, val := Value.ref pj }, { hash := PyData.keyHash w.params (Str.ofString "now"), key := Value.str (Str.ofString "now") b5, val := Value.ref nj }]
  let e_fd : List DictEntry := [{ hash := PyData.keyHash w.params (Str.ofString "disk"), key := Value.str (Str.ofString "disk") k1, val := Value.ref dk }, { hash := PyData.keyHash w.params (Str.ofString "name"), key := Value.str (Str.ofString "name") k2, val := Value.str (Str.ofString "db") t7 }, { hash := PyData.keyHash w.params (Str.ofString "synced"), key := Value.str (Str.ofString "synced") k3, val := sy }, { hash := PyData.keyHash w.params (Str.ofString "pending"), key := Value.str (Str.ofString "pending") k4, val := Value.ref p }, { hash := PyData.keyHash w.params (Str.ofString "now"), key := Value.str (Str.ofString "now") k5, val := Value.ref n }]
  have S : Site w mean mg mb [] A₀ h₀ h₀ L m cs hp [(jn, instObj 185 jx), (jx, dictOf e_jx 6), (dk, instObj 489 dd), (dd, dictOf e_dd 7), (fs, ofs), (j, instObj 390 jd), (jd, dictOf e_jd 5), (nj, baObj x), (f, instObj 390 fd), (fd, dictOf e_fd 5), (p, W.listOf vs c), (n, baObj b)] := ⟨B, F, X, (ns_cons N m0 (ns_cons N m1 (ns_cons N m2 (ns_cons N m3 (ns_cons N m4 (ns_cons N m5 (ns_cons N m6 (ns_cons N m7 (ns_cons N m8 (ns_cons N m9 (ns_cons N m10 (ns_cons N m11 ns_nil)))))))))))), T', kk⟩
  have F0 := F
  have N0 := N
  have znd := nd0
  clear B F X N T' kk nd0
  refine wpC_call ?_
  k_dflt (refine' enterR (s := ⟨hp, g, dr, tk, os⟩) (led := [(jn, instObj 185 jx), (jx, dictOf e_jx 6), (dk, instObj 489 dd), (dd, dictOf e_dd 7), (fs, ofs), (j, instObj 390 jd), (jd, dictOf e_jd 5), (nj, baObj x), (f, instObj 390 fd), (fd, dictOf e_fd 5), (p, W.listOf vs c), (n, baObj b)]) (binds := [(Str.ofString "journal", .ref jn), (Str.ofString "file", .ref f)]) ?kS ?k6 ?k7 ?k8 ?k9 ?kB ?_ ?c2 ?c3 ?c4 ?c5; walk_at "cell_enterR")
  rename ∀ b o, _ → b ∉ List.map _ _ → _ => kg0
  k_steps
  · have hl : ∀ a ∈ [(jn, instObj 185 jx), (jx, dictOf e_jx 6), (dk, instObj 489 dd), (dd, dictOf e_dd 7), (fs, ofs), (j, instObj 390 jd), (jd, dictOf e_jd 5), (nj, baObj x), (f, instObj 390 fd), (fd, dictOf e_fd 5), (p, W.listOf vs c), (n, baObj b)].map (·.1), a ∈ [(jn, instObj 185 jx), (jx, dictOf e_jx 6), (dk, instObj 489 dd), (dd, dictOf e_dd 7), (fs, ofs), (j, instObj 390 jd), (jd, dictOf e_jd 5), (nj, baObj x), (f, instObj 390 fd), (fd, dictOf e_fd 5), (p, W.listOf vs c), (n, baObj b)].map (·.1) := fun _ q => q
    obtain ⟨oL, es, ep, hoL, rL⟩ := F0.ns
    have hLn := ns_notin S.N
    have hgL := kg0 L oL hoL hLn
    have he1 := fresh_at kg0 zF' zN' ?sub1 zhe
    have hL1 := fresh_at kg0 zF' zN' ?sub1 zhL1
    case sub1 => exact sub_in (by walk_at "q_sub")
    have hadr : ∀ q ∈ n3 zst1 zs1 zvs1 zc1 zbb, ∃ q' ∈ news, q'.1 = q.1 := fun q hq => by
      obtain ⟨q3, h3', e3⟩ := upd_addr (U3 _ _ _ _ _) hq
      obtain ⟨q2, h2', e2⟩ := upd_addr (U2 _ _ _ _) h3'
      obtain ⟨q1, h1', e1⟩ := upd_addr (U1 _ _) h2'
      exact ⟨q1, h1', e1.trans (e2.trans e3)⟩
    have kq := keep_led (ch := [dd, p, n]) kg0 zF1'.keep S.N zN1' (by walk_at "q_sb")
    have N1 : News h₀ L zh1' (n3 zst1 zs1 zvs1 zc1 zbb) := news3 N0 kq (U1 _ _) (U2 _ _ _ _) (U3 _ _ _ _ _) (News.get zN1' (by k_mem)) (News.get zN1' (by k_mem)) (News.get zN1' (by k_mem))
    refine' caughtX (base := h₀) (KF := Mine.hd.heap_39 w.params) (x := Str.ofString "CorruptError") rfl zhR zF1'.ns ?hab X0 (topRead_of T0) ?ex (X0 _ _ ?hC) ?hb ?k rfl rfl ?hd
    case hC => k_is
    case hb => rfl
    case ex => k_is
    case hd => decide
    case hab => exact Nat.le_trans F0.above (Nat.le_of_lt (Nat.lt_of_lt_of_le (Heap.lt_size hgL) zF'.above))
    case k =>
      intro h2' F2' hk2 hsl
      k_steps
      refine hret1 _ _ _ _ _ _ _ zhpl ⟨hsl.ns ⟨oL, es, ep, zF1'.keep _ _ hgL, rL⟩, fun b o q => F2'.keep b o q, F0.above⟩ fun q hq => ⟨hk2 _ _ (N1 q hq).1 ?_ ?_ ?_, (N1 q hq).2⟩
      · intro z
        obtain ⟨q', hq', eq⟩ := hadr q hq
        have := (N0 q' hq').1
        rw [eq, z, he1] at this; cases this
      · intro z
        obtain ⟨q', hq', eq⟩ := hadr q hq
        have := (N0 q' hq').1
        rw [eq, z, hL1] at this; cases this
      · intro hm
        obtain ⟨q', hq', eq⟩ := hadr q hq
        obtain ⟨ev, hev, hf⟩ := List.mem_filterMap.mp hm
        rcases List.mem_cons.mp hev with rfl | hev
        · have hf' : some zL' = some q.1 := hf
          have := (N0 q' hq').1
          rw [eq, ← Option.some.inj hf', zhL] at this; cases this
        · rcases List.mem_cons.mp hev with rfl | hev
          · have hf' : some L = some q.1 := hf
            exact (N0 q' hq').2.1 (eq.trans (Option.some.inj hf').symm)
          · cases hev
  · show Q (.bool false) _
    have kK0 := zF'.keep
    have kN0 := zN'
    have kq := keep_led (ch := [dd, p, n, fd]) kg0 kK0 S.N kN0 (by walk_at "q_sb")
    refine' hret _ _ _ _ _ _ _ _ _ ?pl1 (ne_new N0 ?h11) (frK F0 N0 kq (mm_cons m3 (mm_cons m10 (mm_cons m11 (mm_cons m9 mm_nil))))) (news_cons F0 (news4 N0 kq (U1 _ _) (U2 _ _ _ _) (U3 _ _ _ _ _) (U4 _ _ _ _ _ _ _) ?g11 ?g21 ?g31 ?g41) ?e11 ?h11)
    case g41 => exact News.get kN0 (by k_mem)
    case g11 => exact News.get kN0 (by k_mem)
    case g21 => exact News.get kN0 (by k_mem)
    case g31 => exact News.get kN0 (by k_mem)
    case e11 => exact News.get kN0 (by k_mem)
    case pl1 => exact zhpl
    case h11 => exact fresh_in kg0 kN0 (by k_mem) znd (as := [jn, jx, dk, dd, fs, j, jd, nj, f, fd, p, n]) rfl (by walk_at "q_sub")

end
end
section
local macro_rules | `(tactic| lcg_src) => `(tactic| exact ⟨_, by k_mem, rfl, _, rfl⟩)
def kp_lines11 : List String := ["call ref"]
theorem setup_lines11 : True := by
  (k_with "lines11|call ref" => (k_here; (with_reducible show wpAny _ _ (call (Value.ref 575) _) _ _ _); k_dflt (refine' lput_k ?B ?F ?X ?N ?T ?kk ?hd ?h0 ?h1 ?h2 ?h3 ?_; (case B => k_asm); (case F => k_asm); (case X => k_asm); (case N => k_asm); (case T => k_asm); (case kk => rfl); (case hd => ktr_room); (case h0 => omega); (case h1 => omega); (case h2 => walk_at "b_sz"); (case h3 => walk_at "b_sz"); k_whole); intro zh' _ _ zF' zN'; (try k_sweep)))
  trivial
def kp_linesW : List String := ["exec While"]
theorem setup_linesW : True := by
  (k_with "linesW|exec While" => (k_here; (with_reducible show wpAny _ _ (exec (Stmt.While _ _ [] _) _) _ _ _); refine whileStop ?_))
  trivial
local macro_rules | `(tactic| walk_at "odd part") => `(tactic| skip)
local macro_rules | `(tactic| walk_at $s:str) => do
  let xs := (rowsFor [("linesW", kp_linesW), ("lines11", kp_lines11), ("lines7", kp_lines7), ("linesC", kp_linesC), ("linesK", kp_linesK), ("lines4", kp_lines4), ("lines3", kp_lines3), ("lines2", kp_lines2), ("pre3", kp_pre3)] s.getString).reverse
  let x :: r := xs | Lean.Macro.throwUnsupported
  let y := Lean.Syntax.mkStrLit x
  let mut t ← `(tactic| k_extra $y)
  for z in r do
    let y := Lean.Syntax.mkStrLit z
    t ← `(tactic| first | k_extra $y | ($t:tactic))
  return t
section
variable {w : World} {mean : ExcName → Option Value} {mg mb : Str → Option Value} {dp un : Nat} {gd : Option (List Code)} {cn : Str} {cs : Scope} {L a : Addr} {ccd : Value} {cl : List (Str × Addr)} {outer : List Env} {A₀ : Around} {base h₀ : Heap} {m : Str → Option Value} {s : Shared} {led : List (Addr × Obj)} {Q E : Value → Shared → Prop}


theorem primer_C20 (w : World) (h : Heap) : (Mine.hd.heap_39 w.params).In h → (PySem.Challenge.rw_pb0455_01.Holds → True) := by
  k_fill
  intros; trivial

theorem cut_n4 {l : List UInt8} : cut l none (some 4) = cut l (some 0) (some (0 + 4)) := rfl
theorem pl_rec {x : List UInt8} {sp ps : Int} {i : Nat} (h : sp = 24 + (0 + (i : Int) * 1) * (ps + 8)) : cut x (some sp) (some (sp + ps + 8)) = recAt x ps i := by
  subst h; unfold recAt; rw [Int.add_assoc]
theorem pl_tail {l : List UInt8} {ps : Int} (h0 : 0 ≤ ps) (h : (l.length : Int) ≤ ps + 8) : cut l (some (4 + ps)) none = cut l (some (4 + ps)) (some (4 + ps + 4)) := by
  unfold cut
  simp only [Option.elim]
  rw [List.take_of_length_le (by simp only [List.length_drop]; omega), List.take_of_length_le (by simp only [List.length_drop]; omega)]
theorem rec_le {x : List UInt8} {ps : Int} {i : Nat} (h0 : 0 ≤ ps) : ((recAt x ps i).length : Int) ≤ ps + 8 := by
  have e : (0 + (i : Int) * 1) = (i : Int) := by omega
  have m : 0 ≤ (i : Int) * (ps + 8) := Int.mul_nonneg (by omega) (by omega)
  have := (cut_le (l := x) (a := 24 + (0 + (i : Int) * 1) * (ps + 8)) (b := 24 + (0 + (i : Int) * 1) * (ps + 8) + (ps + 8)) (by rw [e]; omega)).1
  unfold recAt
  omega
theorem pl_spot {sp ps : Int} {i : Nat} (h : sp = 24 + (0 + (i : Int) * 1) * (ps + 8)) : sp + ps + 8 = 24 + (0 + ((i + 1 : Nat) : Int) * 1) * (ps + 8) := by
  subst h
  have e : (0 + ((i + 1 : Nat) : Int) * 1) * (ps + 8) = (0 + (i : Int) * 1) * (ps + 8) + (ps + 8) := by
    rw [show (0 + ((i + 1 : Nat) : Int) * 1) = (0 + (i : Int) * 1) + 1 by push_cast; omega, Int.add_mul, Int.one_mul]
  rw [e]; omega
theorem pl_bad1 {x b bb : List UInt8} {cn nn pc ps sp : Int} {i n : Nat} (hh : headOf x = some (cn, nn, pc, ps)) (hne : ¬ cn = 4294967295) (hsp : sp = 24 + (0 + (i : Int) * 1) * (ps + 8)) (hgo : playGo x nn pc ps (n + 1) i bb = playGo x nn pc ps cn.toNat 0 b)
    (h : ((cut x (some sp) (some (sp + ps + 8))).length : Int) < ps + 8) : playOf x b = (bb, true) := by
  rw [pl_rec hsp] at h
  unfold playOf
  rw [hh]
  show (if cn = 4294967295 then _ else _) = _
  rw [if_neg hne, ← hgo, playGo, if_pos (.inl h)]
theorem pl_bad2 {x b bb : List UInt8} {cn nn pc ps sp : Int} {i n : Nat} (hh : headOf x = some (cn, nn, pc, ps)) (hne : ¬ cn = 4294967295) (hps : 0 ≤ ps) (hsp : sp = 24 + (0 + (i : Int) * 1) * (ps + 8)) (hgo : playGo x nn pc ps (n + 1) i bb = playGo x nn pc ps cn.toNat 0 b)
    (h : beVal (cut (cut x (some sp) (some (sp + ps + 8))) (some (4 + ps)) none) ≠ rsum nn (beVal (cut (cut x (some sp) (some (sp + ps + 8))) none (some 4))) (cut (cut x (some sp) (some (sp + ps + 8))) (some 4) (some (4 + ps)))) : playOf x b = (bb, true) := by
  rw [pl_rec hsp, pl_tail hps (rec_le hps), cut_n4] at h
  unfold playOf
  rw [hh]
  show (if cn = 4294967295 then _ else _) = _
  rw [if_neg hne, ← hgo, playGo, if_pos (.inr h)]
theorem pl_go {x b bb : List UInt8} {cn nn pc ps sp : Int} {i n : Nat} (hps : 0 ≤ ps) (hsp : sp = 24 + (0 + (i : Int) * 1) * (ps + 8)) (hgo : playGo x nn pc ps (n + 1) i bb = playGo x nn pc ps cn.toNat 0 b)
    (h1 : ¬ ((cut x (some sp) (some (sp + ps + 8))).length : Int) < ps + 8)
    (h2 : beVal (cut (cut x (some sp) (some (sp + ps + 8))) (some (4 + ps)) none) = rsum nn (beVal (cut (cut x (some sp) (some (sp + ps + 8))) none (some 4))) (cut (cut x (some sp) (some (sp + ps + 8))) (some 4) (some (4 + ps)))) :
    playGo x nn pc ps n (i + 1) (recPut x pc ps i bb) = playGo x nn pc ps cn.toNat 0 b := by
  rw [pl_rec hsp] at h1
  rw [pl_rec hsp, pl_tail hps (rec_le hps), cut_n4] at h2
  rw [← hgo]
  conv => rhs; rw [playGo, if_neg (ok_mk h1 h2)]
theorem pl_put {x b bb : List UInt8} {cn nn pc ps sp : Int} {i n : Nat} (hps : 0 ≤ ps) (hsp : sp = 24 + (0 + (i : Int) * 1) * (ps + 8)) (hgo : playGo x nn pc ps (n + 1) i bb = playGo x nn pc ps cn.toNat 0 b)
    (h1 : ¬ ((cut x (some sp) (some (sp + ps + 8))).length : Int) < ps + 8)
    (h2 : beVal (cut (cut x (some sp) (some (sp + ps + 8))) (some (4 + ps)) none) = rsum nn (beVal (cut (cut x (some sp) (some (sp + ps + 8))) none (some 4))) (cut (cut x (some sp) (some (sp + ps + 8))) (some 4) (some (4 + ps))))
    (h3 : beVal (cut (cut x (some sp) (some (sp + ps + 8))) none (some 4)) ≥ 1) (h4 : beVal (cut (cut x (some sp) (some (sp + ps + 8))) none (some 4)) ≤ pc) :
    playGo x nn pc ps n (i + 1) (putB bb ((beVal (cut (cut x (some sp) (some (sp + ps + 8))) none (some 4)) - 1) * ps) (cut (cut x (some sp) (some (sp + ps + 8))) (some 4) (some (4 + ps)))) = playGo x nn pc ps cn.toNat 0 b := by
  have := pl_go hps hsp hgo h1 h2
  rw [pl_rec hsp, cut_n4] at h3 h4 ⊢
  rwa [recPut, if_pos (show 1 ≤ pageAt x ps i ∧ pageAt x ps i ≤ pc from ⟨h3, h4⟩)] at this
theorem pl_skip {x b bb : List UInt8} {cn nn pc ps sp : Int} {i n : Nat} (hps : 0 ≤ ps) (hsp : sp = 24 + (0 + (i : Int) * 1) * (ps + 8)) (hgo : playGo x nn pc ps (n + 1) i bb = playGo x nn pc ps cn.toNat 0 b)
    (h1 : ¬ ((cut x (some sp) (some (sp + ps + 8))).length : Int) < ps + 8)
    (h2 : beVal (cut (cut x (some sp) (some (sp + ps + 8))) (some (4 + ps)) none) = rsum nn (beVal (cut (cut x (some sp) (some (sp + ps + 8))) none (some 4))) (cut (cut x (some sp) (some (sp + ps + 8))) (some 4) (some (4 + ps))))
    (h3 : ¬ (beVal (cut (cut x (some sp) (some (sp + ps + 8))) none (some 4)) ≥ 1 ∧ beVal (cut (cut x (some sp) (some (sp + ps + 8))) none (some 4)) ≤ pc)) :
    playGo x nn pc ps n (i + 1) bb = playGo x nn pc ps cn.toNat 0 b := by
  have := pl_go hps hsp hgo h1 h2
  rw [pl_rec hsp, cut_n4] at h3
  rwa [recPut, if_neg (show ¬ (1 ≤ pageAt x ps i ∧ pageAt x ps i ≤ pc) from h3)] at this
theorem pl_end {x b bb : List UInt8} {cn nn pc ps : Int} {i : Nat} (hh : headOf x = some (cn, nn, pc, ps)) (hne : ¬ cn = 4294967295) (hgo : playGo x nn pc ps 0 i bb = playGo x nn pc ps cn.toNat 0 b) : playOf x b = (cutB bb (pc * ps), false) := by
  unfold playOf
  rw [hh]
  show (if cn = 4294967295 then _ else _) = _
  rw [if_neg hne, ← hgo, playGo]
theorem pl_len {x bb : List UInt8} {sp ps k : Int} {i : Nat} (hb : bb.length ≤ 240000) (hsp : sp = 24 + (0 + (i : Int) * 1) * (ps + 8)) (h0 : 0 ≤ k) (h1 : k ≤ 196608) (hp : 64 ≤ ps) (hp' : ps ≤ 32768) : (putB bb k (cut (cut x (some sp) (some (sp + ps + 8))) (some 4) (some (4 + ps)))).length ≤ 240000 := by
  rw [pl_rec hsp]; exact put_bd hb h0 h1 hp hp'
theorem pl_cut {b : List UInt8} {k : Int} (h0 : 0 ≤ k) : cut (b ++ List.replicate k.toNat 0) none (some k) = cutB b k := by
  unfold cut cutB
  simp only [Option.elim, List.drop_zero, Nat.sub_zero]
  split
  · rw [List.take_append_of_le_length (by omega)]
  · rw [List.take_append, List.take_of_length_le (by omega), List.take_replicate, Nat.min_eq_left (Nat.sub_le _ _)]
    congr 2; omega
theorem WhEnd.ret {h₀ : Heap} {L : Addr} {g : Array GenState} {dr : Drawn} {os : OsState} {n : Nat} {J : Nat → (Str → Option Value) → List (Addr × Obj) → Prop} {Q : Flow → Shared → Prop} {v : Value} {s₂ : Shared} (h : Q (.ret v) s₂) : WhEnd h₀ L g dr os n J Q (.ret v) s₂ := h
def WhileStop (P : Prop) : Prop := P
theorem whileStop {P : Prop} (h : WhileStop P) : P := h

theorem played_k {E : Value → Shared → Prop} {Q : Value → Shared → Prop} {hp : Heap} {g : Array GenState} {dr : Drawn} {tk : Nat} {os : OsState} {news : List (Addr × Obj)} {x b : List UInt8} {t1 t2 : Tok}
    (B : Below A₀ base outer h₀) (F : Fr h₀ L hp m) (X : (Mine.hd.heap_39 w.params).In h₀) (N : News h₀ L hp news) (T : Top VW LO mean mg mb h₀) (kk : cs.kind = .function) (hd : dp + 14 < recursionLimit) (h2 : x.length ≤ 240) (h3 : b.length ≤ 240000) (hpc : 24 ≤ x.length → w4 x 16 ≤ 7)
    (hret : ∀ (T : Addr) (r : List UInt8) (wr : Bool) (t : Tok) h' tk', playOf x b = (r, wr) → (∀ q ∈ news, q.1 ≠ T) → Fr h₀ L h' m → News h₀ L h' ((T, { cls := Value.type "tuple", data := Data.seq #[Value.bytes r.toArray t, Value.bool wr, Value.bool !wr] }) :: news) → Q (.ref T) ⟨h', g, dr, tk', os⟩) :
    wpAny (model PySem.Challenge.rw_pb0455_01.row.prog w) (ktrTop dp un gd cn cs L a ccd cl outer) (call (.ref 582) [Value.bytes b.toArray t1, Value.bytes x.toArray t2]) Q E ⟨hp, g, dr, tk, os⟩ := by
  have S : Site w mean mg mb outer A₀ base h₀ L m cs hp [] := ⟨B, F, X, (fun _ q => nomatch q), T, kk⟩
  have hret' : ∀ (h' : Heap), Keep [] hp h' → Fr h₀ L h' m ∧ News h₀ L h' news := fun h' k => ⟨frK (as := []) F N k (fun _ q => nomatch q), keep0 N k⟩
  have F0 := F
  have N0 := N
  clear B F X N T kk
  refine wpAny_call ?_
  k_dflt (refine' enterZ (s := ⟨hp, g, dr, tk, os⟩) (led := []) (binds := [(Str.ofString "whole", Value.bytes b.toArray t1), (Str.ofString "octets", Value.bytes x.toArray t2)]) ?kS ?k6 ?k7 ?k8 ?k9 ?kB ?_ ?c2 ?c3 ?c4 ?c5; walk_at "cell_enterZ")
  k_steps
  · rename ∀ b o, _ → _ => kK0
    rename News _ _ _ _ => kN0
    exact hret _ _ true _ _ _ (play_uns zhh (by assumption)) (ne_new N0 (fresh_ret (led := []) (by assumption) kN0 (.head _) List.not_mem_nil)) (hret' _ (keepN (by assumption) kK0)).1 (news_cons F0 (hret' _ (keepN (by assumption) kK0)).2 (kN0 _ (.head _)).1 (fresh_ret (led := []) (by assumption) kN0 (.head _) List.not_mem_nil))
  · rename Fr _ _ _ _ => kF0
    refine with_map kF0 ?_
    intro mbase hmb F1
    have hpc7 : zc' ≤ 7 := by have := hpc (by omega); omega
    show wpAny _ _ _ _ _ _
    refine' While_K (n := za'.toNat) (news := []) (fun n m news => ∃ (i : Nat) (k sp : Int) (bb : List UInt8) (tt ts tw : Tok) (ur up ui : Option Value), playGo x zb' zc' ze' n i bb = playGo x zb' zc' ze' za'.toNat 0 b ∧ k = (n : Int) ∧ sp = 24 + (0 + (i : Int) * 1) * (ze' + 8) ∧ bb.length ≤ 240000 ∧ news = [] ∧ m = (fun y => if y = Str.ofString "told" then some (.int k tt) else if y = Str.ofString "spot" then some (.int sp ts) else if y = Str.ofString "row" then ur else if y = Str.ofString "page" then up else if y = Str.ofString "inside" then ui else if y = Str.ofString "whole" then some (.bytes bb.toArray tw) else mbase y)) F1 (fun _ q => nomatch q) ?j0 ?st
    case j0 =>
      subst hmb
      refine' ⟨0, _, _, _, _, _, _, _, _, _, rfl, ?a, ?b, ?c, rfl, ?m⟩
      case m => (refine' st_meet (ns := [Str.ofString "told", Str.ofString "spot", Str.ofString "row", Str.ofString "page", Str.ofString "inside", Str.ofString "whole"]) (tt := [(Str.ofString "told", _), (Str.ofString "spot", _), (Str.ofString "row", _), (Str.ofString "page", _), (Str.ofString "inside", _), (Str.ofString "whole", _)]) ?sta ?stb ?stc ?sth; walk_at "q_me")
      case a => omega
      case b => simp
      case c => assumption
    case st =>
      subst hmb
      intro n m news hp' tk' hJ
      refine ex10 hJ ?_
      clear hJ
      intro i k sp bb tt ts tw ur up ui hJ
      refine and6 hJ ?_
      clear hJ
      rintro hgo hk hsp hb1 rfl rfl F N
      dsimp only at F
      k_steps
      refine ⟨fun hb => ?_, fun hb => ?_⟩
      · have hk0 := of_decide_eq_true hb
        obtain ⟨n', rfl⟩ : ∃ n', n = n' + 1 := ⟨n - 1, by omega⟩
        have hmul : 0 ≤ (0 + (i : Int) * 1) * (ze' + 8) := Int.mul_nonneg (by omega) (by omega)
        have hsp0 : 24 ≤ sp := by omega
        have hpg0 : 0 ≤ beVal (cut (cut x (some sp) (some (sp + ze' + 8))) none (some 4)) ∧ beVal (cut (cut x (some sp) (some (sp + ze' + 8))) none (some 4)) < 4294967296 := w4_bd (cut x (some sp) (some (sp + ze' + 8))) (i := 0) (by decide)
        have hat := at_bd (p := beVal (cut (cut x (some sp) (some (sp + ze' + 8))) none (some 4))) (ps := ze') (by omega) (by omega)
        show wpAny _ _ _ _ _ _
        k_steps
        · refine WhEnd.ret ?_
          k_steps
          rename ∀ b o, _ → _ => kK0
          rename News _ _ _ _ => kN0
          exact hret _ _ true _ _ _ (pl_bad1 zhh (by assumption) hsp hgo (by assumption)) (ne_new N0 (fresh_ret (led := []) (by assumption) kN0 (.head _) List.not_mem_nil)) (hret' _ (keepN (by assumption) kK0)).1 (news_cons F0 (hret' _ (keepN (by assumption) kK0)).2 (kN0 _ (.head _)).1 (fresh_ret (led := []) (by assumption) kN0 (.head _) List.not_mem_nil))
        · refine WhEnd.ret ?_
          k_steps
          rename ∀ b o, _ → _ => kK0
          rename News _ _ _ _ => kN0
          exact hret _ _ true _ _ _ (pl_bad2 zhh (by assumption) (by omega) hsp hgo (by assumption)) (ne_new N0 (fresh_ret (led := []) (by assumption) kN0 (.head _) List.not_mem_nil)) (hret' _ (keepN (by assumption) kK0)).1 (news_cons F0 (hret' _ (keepN (by assumption) kK0)).2 (kN0 _ (.head _)).1 (fresh_ret (led := []) (by assumption) kN0 (.head _) List.not_mem_nil))
        · rename Fr _ _ _ _ => kF0
          rename News _ _ _ _ => kN0
          refine' WhEnd.next (n' := n') (news' := []) kF0 kN0 (Nat.lt_succ_self _) (fun _ q => nomatch q) ⟨i + 1, _, _, _, _, _, _, _, _, _, ?go1, ?hk1, pl_spot hsp, ?lb1, rfl, ?m1⟩
          case m1 => (refine' st_meet (ns := [Str.ofString "told", Str.ofString "spot", Str.ofString "row", Str.ofString "page", Str.ofString "inside", Str.ofString "whole"]) (tt := [(Str.ofString "told", _), (Str.ofString "spot", _), (Str.ofString "row", _), (Str.ofString "page", _), (Str.ofString "inside", _), (Str.ofString "whole", _)]) ?sta ?stb ?stc ?sth; walk_at "q_me")
          case go1 => exact pl_put (by omega) hsp hgo (by assumption) (by assumption) (by assumption) (by assumption)
          case hk1 => omega
          case lb1 => exact (pl_len hb1 hsp (by omega) (by omega) (by omega) (by omega))
        · rename Fr _ _ _ _ => kF0
          rename News _ _ _ _ => kN0
          refine' WhEnd.next (n' := n') (news' := []) kF0 kN0 (Nat.lt_succ_self _) (fun _ q => nomatch q) ⟨i + 1, _, _, _, _, _, _, _, _, _, ?go2, ?hk2, pl_spot hsp, ?lb2, rfl, ?m2⟩
          case m2 => (refine' st_meet (ns := [Str.ofString "told", Str.ofString "spot", Str.ofString "row", Str.ofString "page", Str.ofString "inside", Str.ofString "whole"]) (tt := [(Str.ofString "told", _), (Str.ofString "spot", _), (Str.ofString "row", _), (Str.ofString "page", _), (Str.ofString "inside", _), (Str.ofString "whole", _)]) ?sta ?stb ?stc ?sth; walk_at "q_me")
          case go2 => exact pl_skip (by omega) hsp hgo (by assumption) (by assumption) (fun z => absurd z.2 (by assumption))
          case hk2 => omega
          case lb2 => exact hb1
        · rename Fr _ _ _ _ => kF0
          rename News _ _ _ _ => kN0
          refine' WhEnd.next (n' := n') (news' := []) kF0 kN0 (Nat.lt_succ_self _) (fun _ q => nomatch q) ⟨i + 1, _, _, _, _, _, _, _, _, _, ?go3, ?hk3, pl_spot hsp, ?lb3, rfl, ?m3⟩
          case m3 => (refine' st_meet (ns := [Str.ofString "told", Str.ofString "spot", Str.ofString "row", Str.ofString "page", Str.ofString "inside", Str.ofString "whole"]) (tt := [(Str.ofString "told", _), (Str.ofString "spot", _), (Str.ofString "row", _), (Str.ofString "page", _), (Str.ofString "inside", _), (Str.ofString "whole", _)]) ?sta ?stb ?stc ?sth; walk_at "q_me")
          case go3 => exact pl_skip (by omega) hsp hgo (by assumption) (by assumption) (fun z => absurd z.1 (by assumption))
          case hk3 => omega
          case lb3 => exact hb1
      · have hk0 := of_decide_eq_false hb
        have hn0 : n = 0 := by omega
        subst hn0
        have hpp := pcps_bd (pc := zc') (ps := ze') (by omega) hpc7 (by omega) (by omega)
        show wpAny _ _ _ _ _ _
        k_steps
        rename ∀ b o, _ → _ => kK0
        rename News _ _ _ _ => kN0
        exact hret _ _ false _ _ _ ((pl_end zhh (by assumption) hgo).trans (by rw [pl_cut hpp.1])) (ne_new N0 (fresh_ret (led := []) (by assumption) kN0 (.head _) List.not_mem_nil)) (hret' _ (keepN (by assumption) kK0)).1 (news_cons F0 (hret' _ (keepN (by assumption) kK0)).2 (kN0 _ (.head _)).1 (fresh_ret (led := []) (by assumption) kN0 (.head _) List.not_mem_nil))
  · rename ∀ b o, _ → _ => kK0
    rename News _ _ _ _ => kN0
    exact hret _ _ true _ _ _ (play_none zhh) (ne_new N0 (fresh_ret (led := []) (by assumption) kN0 (.head _) List.not_mem_nil)) (hret' _ (keepN (by assumption) kK0)).1 (news_cons F0 (hret' _ (keepN (by assumption) kK0)).2 (kN0 _ (.head _)).1 (fresh_ret (led := []) (by assumption) kN0 (.head _) List.not_mem_nil))


end
end
section
def kp_linesP : List String := ["pyIter ref", "binaryOp Mult int int", "binaryOp Pow int int"]
theorem setup_linesP : True := by
  (k_with "linesP|pyIter ref" => (k_here; k_dflt (refine' k_iterG ?F ?N ?hax ?_; (case F => k_asm); (case N => k_asm); (case hax => assumption); k_whole); intro zI' zo' zh' zhI' zF' zN' zl1; (try k_lt zl1); (try k_sweep)))
  (k_with "linesP|binaryOp Mult int int" => (k_here; k_dflt (refine r_mulB (by assumption) (by assumption) ?_); intro _ _))
  (k_with "linesP|binaryOp Pow int int" => (k_here; (with_reducible refine r_pow18 ?_); intro _ _))
  trivial
local macro_rules | `(tactic| walk_at $s:str) => do
  let xs := (rowsFor [("linesP", kp_linesP), ("linesH", kp_linesH), ("lines2", kp_lines2), ("pre3", kp_pre3)] s.getString).reverse
  let x :: r := xs | Lean.Macro.throwUnsupported
  let y := Lean.Syntax.mkStrLit x
  let mut t ← `(tactic| k_extra $y)
  for z in r do
    let y := Lean.Syntax.mkStrLit z
    t ← `(tactic| first | k_extra $y | ($t:tactic))
  return t
section
variable {w : World} {mean : ExcName → Option Value} {mg mb : Str → Option Value} {dp un : Nat} {gd : Option (List Code)} {cn : Str} {cs : Scope} {L a : Addr} {ccd : Value} {cl : List (Str × Addr)} {outer : List Env} {A₀ : Around} {base h₀ : Heap} {m : Str → Option Value} {s : Shared} {led : List (Addr × Obj)} {Q E : Value → Shared → Prop}


theorem primer_C21 (w : World) (h : Heap) : (Mine.hd.heap_39 w.params).In h → (PySem.Challenge.rw_pb0455_01.Holds → True) := by
  k_fill
  intros; trivial

theorem with_mapP {P : Prop} {h₀ hp : Heap} {L : Addr} {m : Str → Option Value} (F : Fr h₀ L hp m) (k : ∀ m', m' = m → Fr h₀ L hp m' → P) : P := k m rfl F
open Builtin.Int (intBits)
def bsum : List Value → Nat
  | [] => 0
  | .int k _ :: r => intBits k + bsum r
  | _ :: r => bsum r
theorem bsum_take {l : List Value} {i : Nat} {k : Int} {t : Tok} (h : l[i]? = some (.int k t)) : bsum (l.take (i + 1)) = bsum (l.take i) + intBits k := by
  induction l generalizing i with
  | nil => simp at h
  | cons a r ih =>
    cases i with
    | zero =>
      simp only [List.getElem?_cons_zero, Option.some.injEq] at h
      subst h
      simp [bsum]
    | succ i =>
      have := ih (i := i) (by simpa using h)
      cases a <;> simp only [List.take_succ_cons, bsum] <;> omega
theorem bsum_le {l : List Value} {i : Nat} : bsum (l.take i) ≤ bsum l := by
  induction l generalizing i with
  | nil => simp
  | cons a r ih =>
    cases i with
    | zero => simp [bsum]
    | succ i =>
      have := ih (i := i)
      cases a <;> simp only [List.take_succ_cons, bsum] <;> omega
theorem r_mulB {prog : Program} {w : World} {A : Around} {E : Value → Shared → Prop} {x y : Int} {t u : Tok} {Q : Value → Shared → Prop} {hp : Heap} {g : Array GenState} {dr : Drawn} {tk : Nat} {os : OsState} (h1 : intBits x ≤ 2 ^ 20) (h2 : intBits y ≤ 2 ^ 20) (h : ∀ t' k, Q (.int (x * y) t') ⟨hp, g, dr, k, os⟩) : wpAny (model prog w) A (binaryOp .Mult (.int x t) (.int y u)) Q E ⟨hp, g, dr, tk, os⟩ :=
  mul_int (h _ _) (IntMulOk.of_bits h1 h2)
def szOf (k : Int) : Int := if k ≥ 0 then k else -1 - k
theorem sz_pow {k : Int} : 0 ≤ szOf k ∧ szOf k + 1 ≤ 2 ^ intBits k := by
  have h := (intBits_le_iff (m := intBits k) (x := k)).mp (Nat.le_refl _)
  have e : ((2 : Int) ^ intBits k) = ((2 ^ intBits k : Nat) : Int) := by push_cast; rfl
  rw [e]
  unfold szOf
  split <;> omega
theorem dg_bits {d : Int} {n : Nat} (h0 : 0 ≤ d) (h1 : d + 1 ≤ 2 ^ n) (hn : n ≤ 2 ^ 20) : intBits d ≤ 2 ^ 20 := by
  refine Nat.le_trans (intBits_le_iff.mpr ?_) hn
  have e : ((2 : Int) ^ n) = ((2 ^ n : Nat) : Int) := by push_cast; rfl
  rw [e] at h1
  omega
theorem dg_step {d s : Int} {n m : Nat} (h0 : 0 ≤ d) (h1 : d + 1 ≤ 2 ^ n) (s0 : 0 ≤ s) (s1 : s + 1 ≤ 2 ^ m) : 0 ≤ d * s + s ∧ d * s + s + 1 ≤ 2 ^ (n + m) := by
  have a := Int.mul_nonneg h0 s0
  have b := Int.mul_le_mul h1 s1 (by omega) (by omega)
  rw [Int.pow_add]
  have c : (d + 1) * (s + 1) = d * s + s + (d + 1) := by rw [Int.add_mul, Int.mul_add, Int.mul_add]; omega
  omega
theorem dg_keep {d : Int} {n m : Nat} (h1 : d + 1 ≤ 2 ^ n) (s : Int) (s0 : 0 ≤ s) (s1 : s + 1 ≤ 2 ^ m) (h0 : 0 ≤ d) : d + 1 ≤ 2 ^ (n + m) := by
  have := (dg_step h0 h1 s0 s1).2
  have a := Int.mul_nonneg h0 s0
  have b : (1 : Int) ≤ 2 ^ m := by omega
  have c : (2 : Int) ^ n * 1 ≤ 2 ^ n * 2 ^ m := Int.mul_le_mul_of_nonneg_left b (by omega)
  rw [Int.pow_add]; omega

theorem pool_k {E : Value → Shared → Prop} {Q : Value → Shared → Prop} {hp : Heap} {g : Array GenState} {dr : Drawn} {tk : Nat} {os : OsState} {news : List (Addr × Obj)} {sc : Addr} {vs : Array Value} {c : Nat}
    (B : Below A₀ base outer h₀) (F : Fr h₀ L hp m) (X : (Mine.hd.heap_39 w.params).In h₀) (N : News h₀ L hp news) (T : Top VW LO mean mg mb h₀) (kk : cs.kind = .function) (hd : dp + 6 < recursionLimit) (hsc : hp.get? sc = some (W.listOf vs c)) (hiv : ∀ v ∈ vs.toList, ∃ k t, v = .int k t) (hbs : bsum vs.toList ≤ 2 ^ 20)
    (hret : ∀ (D : Addr) (d c' : Int) (t1 t2 : Tok) n h' tk', 0 ≤ d → 0 ≤ c' → c' < 2147483647 → (∀ q ∈ news, q.1 ≠ D) → Fr h₀ L h' m → News h₀ L h' ((D, W.listOf #[.int d t1, .int c' t2] n) :: news) → Q (.ref D) ⟨h', g, dr, tk', os⟩) :
    wpC (model PySem.Challenge.rw_pb0455_01.row.prog w) (ktrTop dp un gd cn cs L a ccd cl outer) (call (.ref 514) [.ref sc]) Q E ⟨hp, g, dr, tk, os⟩ := by
  have S : Site w mean mg mb outer A₀ base h₀ L m cs hp [] := ⟨B, F, X, (fun _ q => nomatch q), T, kk⟩
  have F0 := F
  have N0 := N
  clear B F X N T kk
  refine wpC_call ?_
  k_dflt (refine' enterC (s := ⟨hp, g, dr, tk, os⟩) (led := []) (binds := [(Str.ofString "script", .ref sc)]) ?kS ?k6 ?k7 ?k8 ?k9 ?kB ?_ ?c2 ?c3 ?c4 ?c5; walk_at "cell_enterC")
  rename ∀ b o, _ → b ∉ List.map _ _ → _ => kg0
  have hg := kg0 sc _ hsc List.not_mem_nil
  k_steps
  refine with_mapP zF' ?_
  intro mb hmb F1
  refine' codeC_lst rfl rfl rfl hg (fun i m₁ news₁ => ∃ (d c' : Int) (t1 t2 : Tok) (u0 us : Option Value), 0 ≤ d ∧ d + 1 ≤ 2 ^ bsum (vs.toList.take i) ∧ 0 ≤ c' ∧ c' < 2147483647 ∧ news₁ = [] ∧ m₁ = (fun y => if y = Str.ofString "number" then u0 else if y = Str.ofString "size" then us else if y = Str.ofString "digits" then some (.int d t1) else if y = Str.ofString "mixed" then some (.int c' t2) else mb y)) ?st ?dn vs.size 0 (Nat.zero_add _) _ _ _ [] _ zhI' ?j0 F1 (fun q hq => zN' q (by rw [List.mem_singleton.mp hq]; exact .head _)) (fun _ q => nomatch q)
  case j0 =>
    subst hmb
    refine' (exi6 _ _ _ _ _ _ (andi6 ?a ?b ?c ?d rfl ?m))
    case m => (refine' st_meet (ns := [Str.ofString "number", Str.ofString "size", Str.ofString "digits", Str.ofString "mixed"]) (tt := [(Str.ofString "number", _), (Str.ofString "size", _), (Str.ofString "digits", _), (Str.ofString "mixed", _)]) ?sta ?stb ?stc ?sth; walk_at "q_me")
    case a => decide
    case b => simp [bsum]
    case c => decide
    case d => decide
  case st =>
    subst hmb
    intro i v m₁ news₁ hp' tk' o hv ho hJ
    refine ex6 hJ ?_
    clear hJ
    intro d c' t1 t2 u0 us hJ
    refine and6 hJ ?_
    clear hJ
    rintro hd0 hd1 hc0 hc1 rfl rfl ne F N
    have hv' : vs.toList[i]? = some v := by simpa using hv
    obtain ⟨k, t, rfl⟩ := hiv v (List.mem_of_getElem? hv')
    have hb1 := bsum_take hv'
    have hb2 := bsum_le (l := vs.toList) (i := i)
    have hb3 := bsum_le (l := vs.toList) (i := i + 1)
    have hs := sz_pow (k := k)
    have m1 : Builtin.Int.intBits d ≤ 2 ^ 20 := dg_bits hd0 hd1 (Nat.le_trans hb2 hbs)
    have m2 : Builtin.Int.intBits (szOf k) ≤ 2 ^ 20 := dg_bits hs.1 hs.2 (by omega)
    have hst := dg_step hd0 hd1 hs.1 hs.2
    have hsk := dg_keep hd1 (szOf k) hs.1 hs.2 hd0
    rw [← hb1] at hst hsk
    clear hs
    dsimp only at F
    show wpC _ _ _ _ _ _
    by_cases hk : k ≥ 0
    · rw [show szOf k = k from if_pos hk] at m2 hst
      k_steps
      · rename Fr _ _ _ _ => kF0
        rename News _ _ _ _ => kN0
        refine' TurnEnd.next (news' := []) rfl kF0 kN0 (fun q hq => by rw [List.mem_singleton.mp hq]; exact .head _) (fun _ q => nomatch q) (exi6 _ _ _ _ _ _ (andi6 ?g01 ?g11 ?g21 ?g31 rfl ?m1))
        case m1 => (refine' st_meet (ns := [Str.ofString "number", Str.ofString "size", Str.ofString "digits", Str.ofString "mixed"]) (tt := [(Str.ofString "number", _), (Str.ofString "size", _), (Str.ofString "digits", _), (Str.ofString "mixed", _)]) ?sta ?stb ?stc ?sth; walk_at "q_me")
        case g01 => exact hst.1
        case g11 => exact hst.2
        case g21 => omega
        case g31 => omega
      · rename Fr _ _ _ _ => kF0
        rename News _ _ _ _ => kN0
        refine' TurnEnd.next (news' := []) rfl kF0 kN0 (fun q hq => by rw [List.mem_singleton.mp hq]; exact .head _) (fun _ q => nomatch q) (exi6 _ _ _ _ _ _ (andi6 ?g02 ?g12 ?g22 ?g32 rfl ?m2))
        case m2 => (refine' st_meet (ns := [Str.ofString "number", Str.ofString "size", Str.ofString "digits", Str.ofString "mixed"]) (tt := [(Str.ofString "number", _), (Str.ofString "size", _), (Str.ofString "digits", _), (Str.ofString "mixed", _)]) ?sta ?stb ?stc ?sth; walk_at "q_me")
        case g02 => exact hd0
        case g12 => exact hsk
        case g22 => omega
        case g32 => omega
    · rw [show szOf k = -1 - k from if_neg hk] at m2 hst
      k_steps
      · rename Fr _ _ _ _ => kF0
        rename News _ _ _ _ => kN0
        refine' TurnEnd.next (news' := []) rfl kF0 kN0 (fun q hq => by rw [List.mem_singleton.mp hq]; exact .head _) (fun _ q => nomatch q) (exi6 _ _ _ _ _ _ (andi6 ?g03 ?g13 ?g23 ?g33 rfl ?m3))
        case m3 => (refine' st_meet (ns := [Str.ofString "number", Str.ofString "size", Str.ofString "digits", Str.ofString "mixed"]) (tt := [(Str.ofString "number", _), (Str.ofString "size", _), (Str.ofString "digits", _), (Str.ofString "mixed", _)]) ?sta ?stb ?stc ?sth; walk_at "q_me")
        case g03 => exact hst.1
        case g13 => exact hst.2
        case g23 => omega
        case g33 => omega
      · rename Fr _ _ _ _ => kF0
        rename News _ _ _ _ => kN0
        refine' TurnEnd.next (news' := []) rfl kF0 kN0 (fun q hq => by rw [List.mem_singleton.mp hq]; exact .head _) (fun _ q => nomatch q) (exi6 _ _ _ _ _ _ (andi6 ?g04 ?g14 ?g24 ?g34 rfl ?m4))
        case m4 => (refine' st_meet (ns := [Str.ofString "number", Str.ofString "size", Str.ofString "digits", Str.ofString "mixed"]) (tt := [(Str.ofString "number", _), (Str.ofString "size", _), (Str.ofString "digits", _), (Str.ofString "mixed", _)]) ?sta ?stb ?stc ?sth; walk_at "q_me")
        case g04 => exact hd0
        case g14 => exact hsk
        case g24 => omega
        case g34 => omega
  case dn =>
    subst hmb
    intro h' tk' m' news' hJ
    refine ex6 hJ ?_
    clear hJ
    intro d c' t1 t2 u0 us hJ
    refine and6 hJ ?_
    clear hJ
    rintro hd0 hd1 hc0 hc1 rfl rfl F N
    dsimp only at F
    show wpC _ _ _ _ _ _
    k_steps
    rename ∀ b o, _ → _ => kK0
    rename News _ _ _ _ => kN0
    exact hret _ _ _ _ _ _ _ _ hd0 hc0 hc1 (ne_new N0 (fresh_ret (led := []) (by assumption) kN0 (.head _) List.not_mem_nil)) (frK (as := []) F0 N0 (keepN (by assumption) kK0) (fun _ q => nomatch q)) (news_cons F0 (keep0 N0 (keepN (by assumption) kK0)) (kN0 _ (.head _)).1 (fresh_ret (led := []) (by assumption) kN0 (.head _) List.not_mem_nil))

end
end
end Mine
end
section
open PySem PySem.W PySem.Calls PyProof.Rows PyProof.V PySem.Spec
set_option Elab.async false
set_option linter.unusedVariables false
set_option maxRecDepth 100000
namespace Mine
section
variable {w : World} {mean : ExcName → Option Value} {mg mb : Str → Option Value} {s : Shared}
theorem enterTop {R : Result → Shared → Prop} {name qual : Str} {params : Arguments} {body : List Stmt} {scope : Scope} {dV kV doc pm cdv ct oc : Value} {an od : Option Addr} {osl : Array (Option Value)} {f : Addr} {args : Args} {binds : List (Str × Value)}
    (X : (Mine.hd.heap_39 w.params).In s.heap) (T : Top VW LO mean mg mb s.heap) (ho : (Mine.hd.heap_39 w.params).lookup f = some ⟨oc, od, .func (fnOf name qual params body scope dV kV doc pm an cdv ct), osl⟩) (hcd : codeIn (Mine.hd.heap_39 w.params) cdv qual = true)
    (hbind : BindsTo s (fnOf name qual params body scope dV kV doc pm an cdv ct) args binds) (hkind : (binds.all fun y => scope.names.lookup y.1 == some .local || scope.names.lookup y.1 == some .cell) = true)
    (hnd : ((cellsFrom 0 scope.names []).map (·.1)).Nodup)
    (h : ∀ L' h₁ tk cells, Fr s.heap L' h₁ (bindL (envOfC qual scope L' f cdv).kindOf binds fun _ => none) → News s.heap L' h₁ cells →
      CellsAre (bindC (envOfC qual scope L' f cdv).kindOf binds fun _ => none) (cellsFrom (L' + 1) scope.names []) cells →
      Below callerA s.heap [] s.heap →
      (let qk : Flow → Shared → Prop := fun fl s' => R (.ok (.ret (match fl with | .ret v => v | _ => .none))) s'
       wpC (model PG w) (callerA.deeper (envOfC qual scope L' f cdv)) (execs body (envOfC qual scope L' f cdv)) qk NoE
        { s with heap := h₁, toks := tk }))
    (hco : scope.isCoroutine = false) (hgen : scope.isGenerator = false) (hk : scope.kind = .function) : codeC (model PG w) callerA (.call (.ref f) args) R s := by
  have B := below_caller (Top.heap T)
  refine codeC_call_function (fd := fnX name qual params body scope [] dV kV doc pm an cdv ct) (by decide) (X _ _ ho) rfl hco hgen rfl (codeRec_of X hcd) (hbind _ _ _ _ ?_)
  refine wpAny_newFunctionEnv_cells hk (kindsX hkind _) fun env' he s' x => ?_
  subst he
  refine ⟨T.nolimit.keeps x.toInCall.keep, codeC_func ?_⟩
  obtain ⟨h₁, tk, rfl, _⟩ := x.done
  have hk₁ := x.toInCall.keep
  obtain ⟨cells, NC, Y⟩ := Cl.news (h₀ := s.heap) (Nat.le_refl _) fun n c hm => ⟨x.cell n c (lookup_of_mem_nodup (cellsFrom_names scope.names 0 (s.heap.objs.size + 1) [] [] rfl ▸ hnd) hm), x.above n c hm⟩
  exact wpC_mono (h s.heap.objs.size h₁ tk cells ⟨x.toInCall.ns, hk₁, Nat.le_refl _⟩ NC Y B) (fun _ _ q => q) fun _ _ q => q.elim
end
section
variable {prog : Program} {w : World} {A : Around} {s : Shared} {h₀ : Heap} {L : Addr} {m : Str → Option Value} {env : Env}
theorem comp_all {elt : PySem.Expr} {x : Str} {scope : Scope} {cl : List (Str × Addr)} {P : Nat → Value → Prop} {Fin : List Value → List (Addr × Obj) → Prop} {n : Nat} (J : Nat → List Value → List (Addr × Obj) → Prop)
    (turn : ∀ i ys news, i < n → J i ys news → ∀ I oI C oC D m₂ h tk (E' : Value → Shared → Prop), LCg.NsObj oC m₂ → Fr h₀ L h m → News h₀ L h ((I, oI) :: (C, oC) :: (D, LCg.lst ys) :: news) → LCg.Off3 I C D news → ((@Ne Nat I C) ∧ (@Ne Nat I D) ∧ (@Ne Nat C D)) →
      wpAny (model prog w) A (eval elt (compEnvC scope cl C env)) (LCg.CompEnd h₀ L m { s with heap := h, toks := tk } I oI C oC D (LCg.lst ys) (fun _ => True) (fun y news' => J (i + 1) (ys ++ [y]) news')) E' { s with heap := h, toks := tk })
    (fin : ∀ ys news, J n ys news → Fin ys news) : ∀ k i ys news, i + k = n → J i ys news → LCg.CompRest prog w A h₀ L m env elt x scope cl s (fun _ => True) P Fin k i ys news
  | 0, i, ys, news, e, j => LCg.CompRest.zero (fin _ _ (by rwa [show i = n by omega] at j))
  | k + 1, i, ys, news, e, j => LCg.CompRest.succ fun v I oI C oC D m₂ h tk E' _ hC _ F N off ne => wpAny_mono (turn i ys news (by omega) j I oI C oC D m₂ h tk E' hC F N off ne) (fun y s₂ q => by
      obtain ⟨h', tk', nw, rfl, F', N', off', _, r⟩ := q
      exact ⟨h', tk', nw, rfl, F', N', off', trivial, comp_all J turn fin k (i + 1) _ _ (by omega) r⟩) fun _ _ q => q
end
section
variable {M : Model} {A : Around} {E : Value → Shared → Prop} {s : Shared} {env : Env}
theorem C_Tuple2 {e1 e2 : PySem.Expr} {k : Nat} {pos : Pos} {Q : Value → Shared → Prop}
    (h : wpC M A (eval e1 env) (fun v1 s1 => wpAny M A (eval e2 env) (fun v2 s2 => wpAny M A (newTuple [v1, v2]) Q E s2) E s1) E s)
    (he : eval (.Tuple [e1, e2] k pos) env = (do standAt pos; newTuple (← spliced [(false, eval e1 env), (false, eval e2 env)])) := by rfl) : wpC M A (eval (.Tuple [e1, e2] k pos) env) Q E s := by
  rw [he]
  refine wpC_stand (wpC_bind ?_)
  show wpC M A (do
    let v ← eval e1 env
    let here ← (pure [v] : Sem (List Value))
    return here ++ (← holding here (spliced [(false, eval e2 env)]))) _ _ _
  refine wpC_bind (wpC_mono h (fun v1 s1 h1 => wpC_bind (wpC_pure (wpC_bind (wpC_of (wpAny_holding ?_))))) fun _ _ x => x)
  show wpAny M A (do
    let v ← eval e2 env
    let here ← (pure [v] : Sem (List Value))
    return here ++ (← holding here (spliced []))) _ _ _
  refine wpAny_bind (wpAny_mono h1 (fun v2 s2 h2 => wpAny_bind (wpAny_pure (wpAny_bind (wpAny_holding (wpAny_pure (wpAny_pure (wpC_pure (wpC_of ?_)))))))) fun _ _ x => x)
  exact h2
theorem C_Assign_Swap {elts : List PySem.Expr} {k : Nat} {tpos : Pos} {value : PySem.Expr} {pos : Pos} {names : List Str} {Q : Flow → Shared → Prop}
    (h : wpC M A (eval value env) (fun v s₁ => wpAny M A (unpackItems v names.length none) (fun items s₂ => wpAny M A (assignInOrder (names.reverse.map fun n => bindName env n) items.reverse) (fun _ => Q .next) E s₂) E s₁) E s)
    (hs : swapsWithSole [.Tuple elts k tpos] value pos.line env = pure false)
    (hw : swappedStores [.Tuple elts k tpos] value env = pure (some names)) : wpC M A (exec (.Assign [.Tuple elts k tpos] value pos) env) Q E s := by
  rw [exec_Assign]
  refine wpC_stand ?_
  rw [hs]
  refine wpC_bind (wpC_pure ?_)
  rw [if_neg (by decide)]
  refine wpC_bind (wpC_mono h (fun v s₁ h₁ => ?_) fun _ _ x => x)
  rw [hw]
  refine wpC_bind (wpC_pure ?_)
  show wpC M A (do rule "assign.swapped-stores"; let items ← unpackItems v names.length none; assignInOrder (names.reverse.map fun n => bindName env n) items.reverse; pure .next) Q E s₁
  exact wpC_bind (wpC_rule (wpC_bind (wpC_of (wpAny_mono h₁ (fun items s₂ h₂ => wpC_bind (wpC_of (wpAny_mono h₂ (fun _ _ q => wpC_pure q) fun _ _ x => x))) fun _ _ x => x))))
theorem C_isTrueCmp {l op r pos whole} {Q : Bool → Shared → Prop}
    (h : wpC M A (eval l env) (fun a s₁ => wpAny M A (eval r env) (fun b s₂ => wpAny M A (compareOp op a b) (fun c s₃ => wpAny M A (truthy c) Q E s₃) E s₂) E s₁) E s)
    (hm : behindInMarks op r = false := by with_unfolding_all rfl) : wpC M A (isTrue (.Compare l [op] [r] pos) env whole) Q E s := by
  show wpC M A (do testChain pos (← eval l env) [op] [markedBehindIn op r (eval r env)]) Q E s
  rw [markedBehindIn_of_false hm]
  refine wpC_bind (wpC_mono h (fun a s₁ h₁ => ?_) fun _ _ x => x)
  show wpC M A (do
    let rv ← holding [a] (eval r env)
    standAt pos
    let c ← operate [a, rv] (compareOp op a rv)
    holding [c] (truthy c)) Q E s₁
  exact wpC_bind (wpC_holding (wpC_of (wpAny_mono h₁ (fun b s₂ h₂ => wpC_stand (wpC_bind (wpC_operate (wpC_of (wpAny_mono h₂ (fun c s₃ h₃ => wpC_holding (wpC_of h₃)) fun _ _ x => x))))) fun _ _ x => x)))
theorem C_isTrueOr {x rest pos whole} {Q : Bool → Shared → Prop}
    (h : wpC M A (isTrue x env (eval x env)) (fun c s₁ => if c then Q true s₁ else wpC M A (isTrue (.BoolOp .Or rest pos) env (pure .none)) Q E s₁) E s) : wpC M A (isTrue (.BoolOp .Or (x :: rest) pos) env whole) Q E s := by
  show wpC M A (do match BoolOp.Or, ← isTrue x env (eval x env) with
    | .And, false => pure false
    | .Or, true => pure true
    | _, _ => allTrue .Or rest env) Q E s
  refine wpC_bind (wpC_mono h (fun c s₁ h₁ => ?_) fun _ _ x => x)
  cases c with
  | true => exact wpC_pure h₁
  | false => exact h₁
theorem C_isTrueAnd {x rest pos whole} {Q : Bool → Shared → Prop}
    (h : wpC M A (isTrue x env (eval x env)) (fun c s₁ => if c then wpC M A (isTrue (.BoolOp .And rest pos) env (pure .none)) Q E s₁ else Q false s₁) E s) : wpC M A (isTrue (.BoolOp .And (x :: rest) pos) env whole) Q E s := by
  show wpC M A (do match BoolOp.And, ← isTrue x env (eval x env) with
    | .And, false => pure false
    | .Or, true => pure true
    | _, _ => allTrue .And rest env) Q E s
  refine wpC_bind (wpC_mono h (fun c s₁ h₁ => ?_) fun _ _ x => x)
  cases c with
  | true => exact h₁
  | false => exact wpC_pure h₁
theorem C_isTrueOr0 {pos whole} {Q : Bool → Shared → Prop} (h : Q false s) : wpC M A (isTrue (.BoolOp .Or [] pos) env whole) Q E s := fun _ _ _ _ => h
theorem C_isTrueAnd0 {pos whole} {Q : Bool → Shared → Prop} (h : Q true s) : wpC M A (isTrue (.BoolOp .And [] pos) env whole) Q E s := fun _ _ _ _ => h
end
end Mine
end
section
open PySem PySem.W PySem.Calls PyProof.Rows Builtin
set_option Elab.async false
set_option linter.unusedVariables false
set_option maxRecDepth 100000
namespace Mine
theorem slot_join : Slot "bytes" "join" "bytes.join" :=
  .of (owner := "bytes") (n := "join") (by rw [typeLookup_type, builtinLookup_eq_fast]; kernel_rfl) (by decide +kernel) (by decide +kernel) (by decide +kernel)
    (by first | exact .inl (by decide +kernel) | exact .inr (by decide +kernel)) (by rw [isSubtype_type]; kernel_rfl)
theorem type_join : typeOf (.builtin "bytes.join") = pure (.type "method_descriptor") := by show builtinType _ = _; rw [builtinType_eq_fast]; kernel_rfl
theorem entry_join : entryFor table "bytes.join" = some Builtin.«bytes.join» := entryFor_of_tree (by kernel_rfl)
theorem args_join (a b : Value) : argsOk "bytes.join" ⟨[a, b], []⟩ := by
  unfold argsOk; rw [signature?_of (id := "bytes.join") (n := ['n', 'i', 'o', 'j']) (o := ['s', 'e', 't', 'y', 'b']) (by kernel_rfl) FB.owner_bytes]; kernel_rfl
theorem taken_eq {b : Array UInt8} {t : Tok} {id : String} : Bytes.takeBufferQuiet? id (.bytes b t) 0 = pure (some (b, none)) := by
  unfold Bytes.takeBufferQuiet? Bytes.takeBuffer?
  rw [KBy.special_eq KBy.look_buffer, KBy.own_buffer]
  have e : (0 == Bytes.fullReadOnly) = false := by decide
  simp only [pure_bind, e, KBy.buffer_eq]
  kernel_rfl
def byV (p : List UInt8 × Tok) : Value := .bytes p.1.toArray p.2
def flat (ps : List (List UInt8 × Tok)) : List UInt8 := ps.flatMap (·.1)
theorem joined_flat (ps : List (List UInt8 × Tok)) : Bytes.joined #[] (ps.map fun p => p.1.toArray) = (flat ps).toArray := by
  unfold Bytes.joined
  have key : ∀ (l : List (List UInt8 × Tok)) (n : Nat) (acc : Array UInt8), (((l.map fun p => p.1.toArray).zipIdx n).foldl (fun out (x : Array UInt8 × Nat) => (if x.2 > 0 then out ++ #[] else out) ++ x.1) acc) = acc ++ (flat l).toArray := by
    intro l
    induction l with
    | nil => intro n acc; simp [flat]
    | cons p l ih =>
      intro n acc
      rw [List.map_cons, List.zipIdx_cons, List.foldl_cons, ih]
      simp [flat]
  have := key ps 0 #[]
  simpa using this
theorem foldl_flat : ∀ (L : List (List UInt8 × Tok)) (k : Nat), (L.map fun p => p.1.toArray).toArray.foldl (fun a b => a + b.size) k = k + (flat L).length := by
  intro L k
  rw [List.foldl_toArray]
  induction L generalizing k with
  | nil => simp [flat]
  | cons p L ih => rw [List.map_cons, List.foldl_cons, ih]; simp [flat]; omega
section
variable {prog : Program} {w : World} {A : Around} {E : Value → Shared → Prop} {s : Shared}
theorem wpAny_letGoAll {keep : List Value} {Q : Unit → Shared → Prop} (h : Q () s) : ∀ taken : List (Value × Option Value), (∀ p ∈ taken, p.2 = none) → wpAny (model prog w) A (Bytes.joinLetGo taken keep) Q E s
  | [], _ => wpAny_pure h
  | (x, some u) :: rest, q => nomatch q _ (.head _)
  | (x, none) :: rest, q => by
    show wpAny _ _ (do
      letGo [x] (keep ++ rest.flatMap fun (y, u) => y :: u.toList)
      Bytes.joinLetGo rest keep) _ _ _
    exact wpAny_bind (wpAny_letGo (wpAny_letGoAll h rest fun p hp => q p (.tail _ hp)))
theorem meets_join {l : Addr} {ps : List (List UInt8 × Tok)} {t : Tok} {n : Nat} (hsz : (flat ps).length ≤ 16777216) (ho : s.heap.get? l = some { cls := .type "list", data := .seq (ps.map byV).toArray n }) {Q : Fin → Shared → Prop}
    (h : ∀ t' k, Q (.done (.ret (.bytes (flat ps).toArray t'))) { s with toks := k }) :
    wpAny (model prog w) A (Builtin.«bytes.join» ⟨[.bytes #[] t, .ref l], []⟩) Q E s := by
  unfold Builtin.«bytes.join» Bytes.joinM
  dsimp only
  refine wpAny_bind (wpAny_of_eq (a := (Value.bytes #[] t, Value.ref l)) (by rfl) ?_)
  dsimp only
  rw [if_pos (by rfl)]
  refine wpAny_bind ?_
  unfold Bytes.joinItems
  refine wpAny_bind (wpAny_typeOf_ref ho ?_)
  rw [if_pos (by rfl)]
  refine wpAny_pure ?_
  refine wpAny_bind (wpAny_seqItems ho rfl ?_)
  dsimp only
  rw [if_pos (by rfl)]
  have hget : ∀ i (hi : i < ps.length), (ps.map byV).toArray.getD i Value.none = byV ps[i] := fun i hi => by simp [Array.getD, hi]
  have hon : ∀ (L : List (List UInt8 × Tok)), ((L.map fun p => (byV p, (none : Option Value))).any fun x => x.1.onHeap) = false := fun L => by
    induction L with
    | nil => rfl
    | cons p L ih => rw [List.map_cons, List.any_cons, ih]; rfl
  by_cases h1 : ps.length = 1
  · obtain ⟨p, rfl⟩ : ∃ p, ps = [p] := by
      cases ps with
      | nil => simp at h1
      | cons p r => cases r with
        | nil => exact ⟨p, rfl⟩
        | cons q r => simp at h1
    show wpAny _ _ (typeOf (byV p) >>= _) _ _ _
    refine wpAny_bind (wpAny_of_eq (a := Value.type "bytes") rfl ?_)
    rw [if_pos (by rfl)]
    refine wpAny_bind (wpAny_rule ?_)
    have := h p.2 s.toks
    rw [show flat [p] = p.1 by simp [flat]] at this
    exact wpAny_pure this
  have hm : ∀ {α : Type} (xs : Array Value) (f : Value → α) (g : Unit → α), xs.size ≠ 1 → (match xs with | #[x] => f x | _ => g ()) = g () := fun xs f g hx => by
    rcases xs with ⟨l⟩
    cases l with
    | nil => rfl
    | cons a l => cases l with
      | nil => exact absurd rfl hx
      | cons b l => rfl
  refine Eq.mpr (congrArg (fun T => wpAny (model prog w) A T Q E s) (hm (ps.map byV).toArray _ (fun _ => _) (by simpa using h1))) ?_
  refine wpAny_bind ?_
  rw [Std.Legacy.Range.forIn_eq_forIn_range']
  refine wpAny_forIn_list _ (fun rest b s' => ∃ i, s' = s ∧ rest = List.range' i (ps.length - i) ∧ i ≤ ps.length ∧ b = ((((ps.take i).map (·.1.toArray)).toArray, (ps.take i).map fun p => (byV p, none)) : Array (Array UInt8) × List (Value × Option Value))) _ ?turn ?fin _ _ ⟨0, rfl, ?r0, Nat.zero_le _, rfl⟩
  case r0 => simp [Std.Legacy.Range.size]
  case fin =>
    rintro b s' ⟨i, rfl, hr, hi, rfl⟩
    have hin : i = ps.length := by
      rcases Nat.lt_or_ge i ps.length with q | q
      · rw [show ps.length - i = (ps.length - (i + 1)) + 1 from sub_step (by assumption), List.range'_succ] at hr; cases hr
      · omega
    subst hin
    rw [List.take_length]
    refine wpAny_bind (wpAny_of_eq (a := (#[] : Array UInt8)) rfl ?_)
    dsimp only
    rw [foldl_flat, if_neg (by rw [KBy.tooLong_not (by simp; omega)]; decide)]
    refine wpAny_bind ?_
    show wpAny _ _ (mkBytes _) _ _ _
    rw [joined_flat]
    refine wpAny_mkBytes ?_ (by rw [sizeLine_eq]; simpa using hsz)
    refine wpAny_bind (wpAny_holding (wpAny_point ?_))
    refine wpAny_bind (wpAny_letGoAll ?_ _ fun p hp => by obtain ⟨q, _, rfl⟩ := List.mem_map.mp hp; rfl)
    exact wpAny_pure (h _ _)
  case turn =>
    rintro x rest b s' ⟨i, rfl, hr, hi, rfl⟩
    have hlt : i < ps.length := by
      rcases Nat.lt_or_ge i ps.length with q | q
      · exact q
      · rw [show ps.length - i = 0 by omega] at hr; simp at hr
    rw [show ps.length - i = (ps.length - (i + 1)) + 1 from sub_step (by assumption), List.range'_succ] at hr
    obtain ⟨rfl, rfl⟩ := List.cons.inj hr
    refine wpAny_bind (wpAny_seqItems ho rfl ?_)
    dsimp only
    rw [if_neg ?ng]
    case ng => rw [show (Bytes.Kind.bytes == Bytes.Kind.bytearray) = false from rfl, hon]; decide
    rw [hget _ hlt]
    refine wpAny_bind (wpAny_holding (wpAny_of_eq taken_eq ?_))
    dsimp only
    refine wpAny_bind (wpAny_seqItems ho rfl ?_)
    dsimp only
    rw [if_neg (by simp)]
    refine wpAny_pure ?_
    refine ⟨x + 1, rfl, rfl, hlt, ?_⟩
    rw [List.take_succ_eq_append_getElem hlt]
    simp only [List.map_append, List.map_cons, List.map_nil, List.push_toArray]

theorem join_method {M : Model} {b : Array UInt8} {t : Tok} {pl : Sem Bool} {Q : Value × List Value → Shared → Prop} (h : Q (.builtin "bytes.join", [.bytes b t]) s) : wpAny M A (getMethod (.bytes b t) (Str.ofString "join") pl) Q E s :=
  KBd.method_of (.bytes b t) (typeIs_bytes _ _ _) slot_join type_join KBd.noRef h
theorem n_join {h₀ hp : Heap} {g : Array GenState} {dr : Drawn} {tk : Nat} {os : OsState} {L l : Addr} {ps : List (List UInt8 × Tok)} {t : Tok} {n : Nat} {news : List (Addr × Obj)} {Q : Value → Shared → Prop} (N : News h₀ L hp news) (hm : (l, ({ cls := .type "list", data := .seq (ps.map byV).toArray n } : Obj)) ∈ news) (hz : (flat ps).length ≤ 16777216)
    (h : ∀ t' k, Q (.bytes (flat ps).toArray t') ⟨hp, g, dr, k, os⟩) : wpAny (model prog w) A (call (.builtin "bytes.join") [.bytes #[] t, .ref l]) Q E ⟨hp, g, dr, tk, os⟩ :=
  wpAny_call (codeAny_call_builtin slot_join.plain entry_join (slot_join.check _ _ _ _ _ _ _ _ (typeIs_bytes _ _ _) (args_join _ _) (meets_join (s := ⟨hp, g, dr, tk, os⟩) hz (N _ hm).1 fun t' k => h t' k)))
end
end Mine
namespace Mine
def bodyOf : Stmt → List Stmt
  | .FunctionDef _ _ b .. => b
  | _ => []
def scopeOf : Stmt → Scope
  | .FunctionDef _ _ _ _ _ _ sc .. => sc
  | _ => { kind := .function, names := [], isGenerator := false, isCoroutine := false }
def dropN {α : Type} : Nat → List α → List α
  | 0, l => l
  | _ + 1, [] => []
  | n + 1, _ :: l => dropN n l
def lawRest (k : Nat) : List Stmt := dropN k (bodyOf (st1 42))
def lawScope : Scope := scopeOf (st1 42)
abbrev lawEnv (L : Addr) : Env := envOfC (Str.ofString "law") lawScope L 594 (.ref 593)
def lawQ (hp : Heap) (g : Array GenState) (os : OsState) (fl : Flow) (s' : Shared) : Prop := fl = .ret (.bool true) ∧ (∀ b o, hp.get? b = some o → s'.heap.get? b = some o) ∧ s'.os = os ∧ s'.gens = g
theorem lawQ_ret {hp h : Heap} {g : Array GenState} {os : OsState} {dr : Drawn} {tk : Nat} {L : Addr} {m : Str → Option Value} {b : Bool} (F : Fr hp L h m) (e : b = true) : lawQ hp g os (.ret (.bool b)) ⟨h, g, dr, tk, os⟩ := ⟨by rw [e], F.keep, rfl, rfl⟩
end Mine
namespace Mine
theorem law_cut0 : lawRest 0 = nth (bodyOf (st1 42)) 0 :: lawRest 1 := rfl
theorem law_cut1 : lawRest 1 = nth (bodyOf (st1 42)) 1 :: lawRest 2 := rfl
theorem law_cut2 : lawRest 2 = nth (bodyOf (st1 42)) 2 :: lawRest 3 := rfl
theorem law_cut3 : lawRest 3 = nth (bodyOf (st1 42)) 3 :: lawRest 4 := rfl
theorem law_cut4 : lawRest 4 = nth (bodyOf (st1 42)) 4 :: lawRest 5 := rfl
theorem law_cut5 : lawRest 5 = nth (bodyOf (st1 42)) 5 :: lawRest 6 := rfl
theorem law_cut6 : lawRest 6 = nth (bodyOf (st1 42)) 6 :: lawRest 7 := rfl
theorem law_cut7 : lawRest 7 = nth (bodyOf (st1 42)) 7 :: lawRest 8 := rfl
theorem law_cut8 : lawRest 8 = nth (bodyOf (st1 42)) 8 :: lawRest 9 := rfl
theorem law_cut9 : lawRest 9 = nth (bodyOf (st1 42)) 9 :: lawRest 10 := rfl
theorem law_cut10 : lawRest 10 = nth (bodyOf (st1 42)) 10 :: lawRest 11 := rfl
theorem law_cut11 : lawRest 11 = nth (bodyOf (st1 42)) 11 :: lawRest 12 := rfl
theorem law_cut12 : lawRest 12 = nth (bodyOf (st1 42)) 12 :: lawRest 13 := rfl
theorem law_cut13 : lawRest 13 = nth (bodyOf (st1 42)) 13 :: lawRest 14 := rfl
theorem law_cut14 : lawRest 14 = nth (bodyOf (st1 42)) 14 :: lawRest 15 := rfl
theorem law_cut15 : lawRest 15 = [] := rfl
def LawStop (P : Prop) : Prop := P
theorem lawStop {P : Prop} (h : LawStop P) : P := h
theorem lawGo {P : Prop} (h : P) : LawStop P := h
def CompStop (P : Prop) : Prop := P
theorem compStop {P : Prop} (h : CompStop P) : P := h
theorem compGo {P : Prop} (h : P) : CompStop P := h
theorem news_sub {h₀ h : Heap} {L : Addr} {l l' : List (Addr × Obj)} (N : News h₀ L h l) (s : ∀ p ∈ l', p ∈ l) : News h₀ L h l' := fun p hp => N p (s p hp)
end Mine
namespace Mine
theorem nd_off3 {I C D : Addr} {l : List (Addr × Obj)} {Lx : List Addr} (n : NdA Lx) (off : LCg.Off3 I C D l) (e : l.map (·.1) = Lx) (ne : (@Ne Nat I C) ∧ (@Ne Nat I D) ∧ (@Ne Nat C D)) : NdA (I :: C :: D :: Lx) := by
  subst e
  have o := LCg.Off3.mem off
  refine List.nodup_cons.mpr ⟨fun h => ?_, List.nodup_cons.mpr ⟨fun h => ?_, List.nodup_cons.mpr ⟨fun h => ?_, n⟩⟩⟩
  · rcases List.mem_cons.mp h with q | h
    · exact ne.1 q
    rcases List.mem_cons.mp h with q | h
    · exact ne.2.1 q
    obtain ⟨p, hp, q⟩ := List.mem_map.mp h
    exact (o p hp).1 q
  · rcases List.mem_cons.mp h with q | h
    · exact ne.2.2 q
    obtain ⟨p, hp, q⟩ := List.mem_map.mp h
    exact (o p hp).2.1 q
  · obtain ⟨p, hp, q⟩ := List.mem_map.mp h
    exact (o p hp).2.2 q
theorem flat_len {ps : List (List UInt8 × Tok)} (h : ∀ p ∈ ps, p.1.length = 64) : (flat ps).length = 64 * ps.length := by
  unfold flat
  induction ps with
  | nil => rfl
  | cons p ps ih => rw [List.flatMap_cons, List.length_append, ih fun q hq => h q (.tail _ hq), h p (.head _), List.length_cons]; omega
end Mine
namespace Mine
theorem putB0 (x : List UInt8) : putB [] 0 x = x := by unfold putB putAt; simp
theorem db_name : Str.ofString "db" ++ Str.ofString "-journal" = Str.ofString "db-journal" := by decide +kernel
end Mine
namespace Mine
theorem go_len {x : List UInt8} {nn pc ps : Int} (h0 : 64 ≤ ps) (h1 : ps ≤ 32768) (h2 : 0 ≤ pc) (h3 : pc ≤ 7) : ∀ (k i : Nat) (b : List UInt8), b.length ≤ 240000 → (playGo x nn pc ps k i b).1.length ≤ 240000
  | 0, i, b, hb => by
    have := pcps_bd h2 h3 (show 0 ≤ ps by omega) h1
    have := cutB_len (b := b) this.1 this.2
    unfold playGo
    show (cutB b (pc * ps)).length ≤ _
    omega
  | k + 1, i, b, hb => by
    unfold playGo
    split
    · exact hb
    · refine go_len h0 h1 h2 h3 k (i + 1) _ ?_
      unfold recPut
      split
      · rename_i q
        have := at_bd (p := pageAt x ps i) (ps := ps) (by omega) h1
        rcases this with a | a | a
        · omega
        · omega
        · exact put_bd hb a.1 a.2 h0 h1
      · exact hb
theorem play_len {x b r : List UInt8} {wr : Bool} (h : playOf x b = (r, wr)) (hb : b.length ≤ 240000) (hpc : 24 ≤ x.length → w4 x 16 ≤ 7) : r.length ≤ 240000 := by
  unfold playOf at h
  cases q : headOf x with
  | none => rw [q] at h; cases h; exact hb
  | some y =>
    obtain ⟨cn, nn, pc, ps⟩ := y
    rw [q] at h
    dsimp only at h
    split at h
    · cases h; exact hb
    · unfold headOf at q
      split at q
      · cases q
      · split at q
        · rename_i h4 h5 h6
          cases q
          have hl : 24 ≤ x.length := by
            rcases Nat.lt_or_ge x.length 24 with z | z
            · exact absurd (Or.inl z) h5
            · exact z
          have := go_len (x := x) (nn := w4 x 12) h6.1 h6.2 (w4_bd x (i := 16) (by decide)).1 (hpc hl) (w4 x 8).toNat 0 b hb
          rw [h] at this
          exact this
        · cases q
theorem play_nil {b bb : List UInt8} {wr : Bool} (h : playOf [] b = (bb, wr)) : bb = b ∧ wr = true := by
  rw [play_none (headOf_short (by decide))] at h
  cases h; exact ⟨rfl, rfl⟩
theorem cut_all {b : List UInt8} {n : Int} (h : (b.length : Int) ≤ n) : cut b (some 0) (some (0 + n)) = b := by
  unfold cut
  simp only [Option.elim]
  rw [List.take_of_length_le (by simp; omega)]
  simp
end Mine
end
section
open PySem PySem.W PySem.Calls PyProof.Rows
set_option Elab.async false
set_option maxRecDepth 100000
set_option maxHeartbeats 2000000
namespace Mine
local macro_rules | `(tactic| cell_enter) => `(tactic| ((case kS => k_asm); (case k6 => k_is); (case k7 => k_is); (case k8 => ktr_room); (case k9 => exact BindsTo.of_eq rfl); (case c5 => decide); (case kB => exact locs rfl); (case c2 => exact rfl); (case c3 => exact rfl); (case c4 => exact rfl); k_whole; intro g' L' h' F' N' B' X' T' kg'; (try dsimp only at F'); (try dsimp only); (try k_fold)))
local macro_rules | `(tactic| k_lt $h:ident) => `(tactic| first | (revert $h; walk_at "nd_lt") | (replace $h := allNe_of $h; simp only [AllNe, and_true] at $h:ident))
local macro_rules | `(tactic| k_lt2 $h:ident) => `(tactic| first | (revert $h; walk_at "nd_lt2") | replace $h := ltN $h)
local macro_rules | `(tactic| k_upd) => `(tactic| (refine' upd_nd ?n ?e ?u; (case n => assumption); (case e => exact rfl); (case u => k_extra "pre3|q_uw")))
local macro_rules | `(tactic| k_updF) => `(tactic| (refine' updF_nd ?n ?e ?u; (case n => assumption); (case e => exact rfl); (case u => k_extra "pre3|q_fw")))
local macro_rules | `(tactic| k_all) => `(tactic| exact ne_tail (by assumption))
local macro_rules | `(tactic| omega) => `(tactic| k_extra "pre3|q_om")
local macro_rules | `(tactic| k_mem) => `(tactic| k_extra "pre3|q_mem")
section
def kp_lines6 : List String := ["call ref"]
theorem setup_lines6 : True := by
  (k_with "lines6|call ref" => (k_here; (with_reducible show wpAny _ _ (call (Value.ref 556) _) _ _ _); k_dflt (refine' bent_k ?B ?F ?X ?N ?T ?kk ?hd ?U ?h0 ?h3 ?h4 ?hw ?hl1 ?hl2 ?_; (case B => k_asm); (case F => k_asm); (case X => k_asm); (case N => k_asm); (case T => k_asm); (case kk => rfl); (case hd => ktr_room); (case U => k_updF); (case h0 => omega); (case h3 => omega); (case h4 => omega); (case hw => assumption); (case hl1 => exact written_ge (by assumption)); (case hl2 => exact written_le (by assumption)); k_whole); intro zd' zc' zl' _ _ _ zh' _ zhl0 zhd0 zhc0 zhc1 zF' zN'; (try dsimp only at zN'); (try k_sweep)))
  trivial
def kp_linesL : List String := ["wpC", "eval ListComp", "CompSrc", "getMethod bytes", "eval Name", "CompEnd", "call builtin:bytes.join", "units", "call ref"]
theorem setup_linesL : True := by
  (k_with "linesL|wpC" => (k_here; (with_reducible show wpC _ _ (call (Value.ref 359) _) _ _ _); k_dflt (refine' write_k ?B ?F ?X ?N ?T ?kk ?hd ?h0 ?h1 ?h2 ?h3 ?hv ?m1 ?m2 ?m3 ?U1 ?U2 ?U3 ?nd0 ?_; (case B => k_asm); (case F => k_asm); (case X => k_asm); (case N => k_asm); (case T => k_asm); (case kk => rfl); (case hd => ktr_room); (case m2 => k_mem); (case m3 => k_mem); (case m1 => k_mem); (case U1 => (intro zkt; k_upd)); (case U2 => (intro zkt zkT; k_upd)); (case U3 => (intro zkt zkT; k_upd)); (case nd0 => walk_at "nd_pick"); (case h0 => omega); (case h1 => omega); (case h2 => walk_at "b_sz"); (case h3 => walk_at "b_sz"); (case hv => first | omega | (simp only [List.size_toArray, List.length_nil]; omega)); k_whole); intro zT' zkt1 zkt2 zkt3 zh' _ zl1 zF' zN'; (try dsimp only at zN'); (try k_lt zl1); (try k_sweep)))
  (k_with "linesL|eval ListComp" => (k_here; k_dflt (refine' LCg.ListComp_U ?F0 ?hclos ?hcell ?hkind ?hnames ?hx ?_ ?hs; (case F0 => k_asm); (case hclos => rfl); (case hcell => decide); (case hkind => rfl); (case hnames => decide); (case hx => rfl); (case hs => intro _; rfl); k_whole)))
  (k_with "linesL|CompSrc" => (k_here; k_dflt (refine' LCg.CompSrc.range ?hh ?F ?N ?hr ?hsm ?hn ?hz ?_; (case hh => rfl); (case F => k_asm); (case N => k_asm); (case hr => assumption); (case hsm => exact small_step (by decide) (by decide) (by decide) (by decide) (by decide) (by omega) (by omega)); (case hn => exact range_nn (by omega)); (case hz => rw [sizeLine_eq]; omega)); intro zg'; refine compStop ?_))
  (k_with "linesL|wpC" => (first
  | ((with_reducible show wpC _ _ (exec (Stmt.Assign [PySem.Expr.Tuple _ _ _] _ _) _) _ _ _); k_dflt (first | refine C_Assign_Tuple ?_ | refine C_Assign_Swap ?_ (by rfl) (by rfl)))
  | ((with_reducible show wpC _ _ (eval (PySem.Expr.Tuple [_, _] _ _) _) _ _ _); k_dflt (refine C_Tuple2 ?_))
  | ((with_reducible show wpC _ _ (isTrue (PySem.Expr.Compare _ [_] [_] _) _ _) _ _ _); k_dflt (refine C_isTrueCmp ?_))
  | ((with_reducible show wpC _ _ (isTrue (PySem.Expr.BoolOp BoolOp.Or [] _) _ _) _ _ _); k_dflt (refine C_isTrueOr0 ?_))
  | ((with_reducible show wpC _ _ (isTrue (PySem.Expr.BoolOp BoolOp.And [] _) _ _) _ _ _); k_dflt (refine C_isTrueAnd0 ?_))
  | ((with_reducible show wpC _ _ (isTrue (PySem.Expr.BoolOp BoolOp.Or _ _) _ _) _ _ _); k_dflt (refine C_isTrueOr ?_))
  | ((with_reducible show wpC _ _ (isTrue (PySem.Expr.BoolOp BoolOp.And _ _) _ _) _ _ _); k_dflt (refine C_isTrueAnd ?_))))
  (k_with "linesL|getMethod bytes" => (k_here; (with_reducible show wpAny _ _ (getMethod (Value.bytes _ _) (PySem.Str.ofString "join") _) _ _ _); k_dflt (refine join_method ?_)))
  (k_with "linesL|eval Name" => (k_here; (with_reducible show wpAny _ _ (eval (PySem.Expr.Name _ _) (compEnvC _ _ _ _)) _ _ _); k_dflt (refine' c_cell ?N ?hc ?hm ?hd ?_ ?hk ?hl ?hb; (case hc => rfl); (case N => k_asm); (case hm => k_mem); (case hd => assumption); (case hk => rfl); (case hl => rfl); (case hb => decide); k_whole)))
  (k_with "linesL|CompEnd" => (refine lawStop ?_))
  (k_with "linesL|call builtin:bytes.join" => (k_here; k_dflt (refine' n_join ?N ?hm ?hz ?_; (case N => k_asm); (case hm => k_mem); (case hz => omega); k_whole); intro _ _))
  (k_with "linesL|wpC" => ((with_reducible show wpC _ _ (execs (lawRest _) _) _ _ _); refine lawStop ?_))
  (k_with "linesL|units" => (simp only [units_in1, units_deeper, Around.mark_units]; (try dsimp only [ktrTop]); omega))
  (k_with "linesL|wpC" => (k_here; (with_reducible show wpC _ _ (call (Value.ref 479) _) _ _ _); k_dflt (refine' survivor_k ?B ?F ?X ?N ?T ?kk ?hd ?hu ?m0 ?m1 ?m2 ?m3 ?m4 ?m5 ?m6 ?m7 ?m8 ?m9 ?m10 ?h2 ?nd0 ?lo ?hfs ?_; (case B => k_asm); (case F => k_asm); (case X => k_asm); (case N => k_asm); (case T => k_asm); (case kk => rfl); (case hd => ktr_room); (case hu => first | decide | walk_at "units"); (case hfs => assumption); (case m0 => k_mem); (case m1 => k_mem); (case m2 => k_mem); (case m3 => k_mem); (case m4 => k_mem); (case m5 => k_mem); (case m6 => k_mem); (case m7 => k_mem); (case m8 => k_mem); (case m9 => k_mem); (case m10 => k_mem); (case h2 => first | assumption | omega); (case nd0 => walk_at "nd_pick"); (case lo => assumption); k_whole); intro zo2' zod' zfs2' zf2' zf2d' zba2' zp2' zj2' zsh2' zlk2' zofs2' _ _ _ _ _ _ _ _ _ _ _ _ _ _ _ _ zh' _ zlo2 zhfs2 znd2 zF' zN'; (try dsimp only at zN'); (replace znd := znd2 _ znd rfl); clear znd2; (try k_sweep)))
  (k_with "linesL|call ref" => (k_here; (with_reducible show wpAny _ _ (call (Value.ref 182) _) _ _ _); k_dflt (refine' finish_k ?B ?F ?X ?N ?T ?kk ?hd ?m0 ?m1 ?m2 ?m3 ?m4 ?nd0 ?lo ?hfs ?U1 ?U2 ?_; (case B => k_asm); (case F => k_asm); (case X => k_asm); (case N => k_asm); (case T => k_asm); (case kk => rfl); (case hd => ktr_room); (case hfs => assumption); (case m0 => k_mem); (case m1 => k_mem); (case m2 => k_mem); (case m3 => k_mem); (case m4 => k_mem); (case nd0 => walk_at "nd_pick"); (case lo => assumption); (case U1 => (intro zka zkb; k_upd)); (case U2 => (intro zka zkb; k_updF)); k_whole); intro zs0' zs1' zofs' zh' _ zhfs' zF' zN'; (try dsimp only at zN'); (try k_sweep)))
  trivial
def kp_linesV : List String := ["wpC", "call ref"]
theorem setup_linesV : True := by
  (k_with "linesV|wpC" => (k_here; (with_reducible show wpC _ _ (call (Value.ref 514) _) _ _ _); k_dflt (refine' pool_k ?B ?F ?X ?N ?T ?kk ?hd ?hsc ?hiv ?hbs ?_; (case B => k_asm); (case F => k_asm); (case X => k_asm); (case N => k_asm); (case T => k_asm); (case kk => rfl); (case hd => ktr_room); (case hsc => assumption); (case hiv => assumption); (case hbs => assumption); k_whole); intro zD' zd' zc' _ _ zn' zh' _ zhd0 zhc0 zhc1 zl1 zF' zN'; (try dsimp only at zN'); (try k_lt zl1); (try k_sweep)))
  (k_with "linesV|call ref" => (k_here; (with_reducible show wpAny _ _ (call (Value.ref 568) _) _ _ _); k_dflt (refine' hot_k ?B ?F ?X ?N ?T ?kk ?hd ?h1 ?_; (case B => k_asm); (case F => k_asm); (case X => k_asm); (case N => k_asm); (case T => k_asm); (case kk => rfl); (case hd => ktr_room); (case h1 => first | assumption | omega); k_whole); intro zh' _ zF' zN'; (try k_sweep)))
  (k_with "linesV|call ref" => (k_here; (with_reducible show wpAny _ _ (call (Value.ref 168) _) _ _ _); k_dflt (refine' ishot_k ?B ?F ?X ?N ?T ?kk ?hd ?m0 ?m1 ?m2 ?m3 ?m4 ?m5 ?m6 ?m7 ?h2 ?nd0 ?lo ?hfs ?_; (case B => k_asm); (case F => k_asm); (case X => k_asm); (case N => k_asm); (case T => k_asm); (case kk => rfl); (case hd => ktr_room); (case hfs => assumption); (case m0 => k_mem); (case m1 => k_mem); (case m2 => k_mem); (case m3 => k_mem); (case m4 => k_mem); (case m5 => k_mem); (case m6 => k_mem); (case m7 => k_mem); (case h2 => first | assumption | omega); (case nd0 => walk_at "nd_pick"); (case lo => assumption); k_whole); intro zh' _ zF' zN'; (try k_sweep)))
  (k_with "linesV|wpC" => (k_here; (with_reducible show wpC _ _ (call (Value.ref 589) _) _ _ _); k_dflt (refine' raises_k ?B ?F ?X ?N ?T ?kk ?hd ?m0 ?m1 ?m2 ?m3 ?m4 ?m5 ?m6 ?m7 ?m8 ?m9 ?m10 ?m11 ?h2 ?h3 ?hv ?hpc ?nd0 ?lo ?hfs ?U1 ?U2 ?U3 ?U4 ?r0 ?r1; (case B => k_asm); (case F => k_asm); (case X => k_asm); (case N => k_asm); (case T => k_asm); (case kk => rfl); (case hd => ktr_room); (case hfs => assumption); (case m0 => k_mem); (case m1 => k_mem); (case m2 => k_mem); (case m3 => k_mem); (case m4 => k_mem); (case m5 => k_mem); (case m6 => k_mem); (case m7 => k_mem); (case m8 => k_mem); (case m9 => k_mem); (case m10 => k_mem); (case m11 => k_mem); (case h2 => first | assumption | omega); (case h3 => first | assumption | omega); (case hv => first | assumption | omega); (case hpc => assumption); (case nd0 => walk_at "nd_pick"); (case lo => assumption); (case U1 => (intro zka zkb; k_upd)); (case U2 => (intro zka zkb zkc zkd; k_upd)); (case U3 => (intro zka zkb zkc zkd zke; k_upd)); (case U4 => (intro zka zkb zkc zkd zke zkf zkg; k_upd))); (case' r0 => (intro zst1 zs1 zvs1 zc1 zbb zs2 zp1 zh' _ zhpl zl1 zF' zN'; (try dsimp only at zN'); (try k_lt zl1); (try k_sweep))); (case' r1 => (intro zst1 zs1 zvs1 zc1 zbb zh' _ zhpl zF' zN'; (try dsimp only at zN'); (try k_sweep)))))
  (k_with "linesV|call ref" => (k_here; (with_reducible show wpAny _ _ (call (Value.ref 582) _) _ _ _); k_dflt (refine' played_k ?B ?F ?X ?N ?T ?kk ?hd ?h2 ?h3 ?hpc ?_; (case B => k_asm); (case F => k_asm); (case X => k_asm); (case N => k_asm); (case T => k_asm); (case kk => rfl); (case hd => ktr_room); (case h2 => first | assumption | omega); (case h3 => first | assumption | omega); (case hpc => assumption); k_whole); intro zT' zr' zwr' _ zh' _ zhpd zl1 zF' zN'; (try dsimp only at zN'); (try k_lt zl1); (try k_sweep)))
  trivial
local macro_rules | `(tactic| walk_at "odd part") => `(tactic| skip)
local macro_rules | `(tactic| walk_at $s:str) => do
  let xs := (rowsFor [("linesV", kp_linesV), ("linesL", kp_linesL), ("linesK", kp_linesK), ("lines9", kp_lines9), ("lines6", kp_lines6), ("lines5", kp_lines5), ("lines4", kp_lines4), ("lines3", kp_lines3), ("lines2", kp_lines2), ("pre3", kp_pre3)] s.getString).reverse
  let x :: r := xs | Lean.Macro.throwUnsupported
  let y := Lean.Syntax.mkStrLit x
  let mut t ← `(tactic| k_extra $y)
  for z in r do
    let y := Lean.Syntax.mkStrLit z
    t ← `(tactic| first | k_extra $y | ($t:tactic))
  return t
section
variable {w : World} {mean : ExcName → Option Value} {mg mb : Str → Option Value} {dp un : Nat} {gd : Option (List Code)} {cn : Str} {cs : Scope} {L a : Addr} {ccd : Value} {cl : List (Str × Addr)} {outer : List Env} {A₀ : Around} {base h₀ : Heap} {m : Str → Option Value} {s : Shared} {led : List (Addr × Obj)} {Q E : Value → Shared → Prop}


theorem primer_C23 (w : World) (h : Heap) : (Mine.hd.heap_39 w.params).In h → (PySem.Challenge.rw_pb0455_01.Holds → True) := by
  k_fill
  intros; trivial

theorem law_I {w : World} {mean : ExcName → Option Value} {mg mb : Str → Option Value} {hp h1 : Heap} {g : Array GenState} {dr : Drawn} {tk : Nat} {os : OsState} {L sc : Addr} {news : List (Addr × Obj)} {dk dd fs sh lk : Addr} {ofs : Obj} {q1 q2 q3 q4 q5 q6 q7 t5 t6 tw tr : Tok} {b r : List UInt8} {st : Int} {jn jx : Addr} {g1 g2 g3 g4 g5 g6 gt2 gt3 gt4 gt5 gt6 : Tok} {f fd p n : Addr} {k1 k2 k3 k4 k5 t7 : Tok} {j jd pj nj : Addr} {x : List UInt8} {b1 b2 b3 b4 b5 t9 t10 tx : Tok} {sy : Value} {sf wr : Bool}
    (X : (Mine.hd.heap_39 w.params).In hp) (T : Top VW LO mean mg mb hp) (B : Below callerA hp [] hp) (F : Fr hp L h1 (fun y => if y = Str.ofString "is_safe" then some (.bool (sf)) else if y = Str.ofString "is_wrong" then some (.bool wr) else if y = Str.ofString "due" then some (.bytes r.toArray tr) else if y = Str.ofString "beside" then some (.ref j) else if y = Str.ofString "octets" then some (.bytes x.toArray tx) else if y = Str.ofString "file" then some (.ref f) else if y = Str.ofString "journal" then some (.ref jn) else if y = Str.ofString "whole" then some (.bytes b.toArray tw) else if y = Str.ofString "disk" then some (.ref dk) else if y = Str.ofString "script" then some (.ref sc) else none)) (N : News hp L h1 news) (m0 : ((dk, instObj 489 dd) : Addr × Obj) ∈ news) (m1 : ((dd, dictOf [{ hash := PyData.keyHash w.params (Str.ofString "sector"), key := Value.str (Str.ofString "sector") q1, val := Value.int 8 t5 }, { hash := PyData.keyHash w.params (Str.ofString "room"), key := Value.str (Str.ofString "room") q2, val := Value.none }, { hash := PyData.keyHash w.params (Str.ofString "files"), key := Value.str (Str.ofString "files") q3, val := Value.ref fs }, { hash := PyData.keyHash w.params (Str.ofString "steps"), key := Value.str (Str.ofString "steps") q4, val := Value.int st t6 }, { hash := PyData.keyHash w.params (Str.ofString "crash_at"), key := Value.str (Str.ofString "crash_at") q5, val := Value.none }, { hash := PyData.keyHash w.params (Str.ofString "shared"), key := Value.str (Str.ofString "shared") q6, val := Value.ref sh }, { hash := PyData.keyHash w.params (Str.ofString "locks"), key := Value.str (Str.ofString "locks") q7, val := Value.ref lk }] 7) : Addr × Obj) ∈ news) (m2 : ((fs, ofs) : Addr × Obj) ∈ news) (m3 : ((f, instObj 390 fd) : Addr × Obj) ∈ news) (m4 : ((fd, dictOf [{ hash := PyData.keyHash w.params (Str.ofString "disk"), key := Value.str (Str.ofString "disk") k1, val := Value.ref dk }, { hash := PyData.keyHash w.params (Str.ofString "name"), key := Value.str (Str.ofString "name") k2, val := Value.str (Str.ofString "db") t7 }, { hash := PyData.keyHash w.params (Str.ofString "synced"), key := Value.str (Str.ofString "synced") k3, val := sy }, { hash := PyData.keyHash w.params (Str.ofString "pending"), key := Value.str (Str.ofString "pending") k4, val := Value.ref p }, { hash := PyData.keyHash w.params (Str.ofString "now"), key := Value.str (Str.ofString "now") k5, val := Value.ref n }] 5) : Addr × Obj) ∈ news) (m5 : ((n, baObj r) : Addr × Obj) ∈ news) (m6 : ((jn, instObj 185 jx) : Addr × Obj) ∈ news) (m7 : ((jx, dictOf [{ hash := PyData.keyHash w.params (Str.ofString "disk"), key := Value.str (Str.ofString "disk") g1, val := Value.ref dk }, { hash := PyData.keyHash w.params (Str.ofString "name"), key := Value.str (Str.ofString "name") g2, val := Value.str (Str.ofString "db-journal") gt2 }, { hash := PyData.keyHash w.params (Str.ofString "page_size"), key := Value.str (Str.ofString "page_size") g3, val := Value.int 64 gt3 }, { hash := PyData.keyHash w.params (Str.ofString "nonce"), key := Value.str (Str.ofString "nonce") g4, val := Value.int 0 gt4 }, { hash := PyData.keyHash w.params (Str.ofString "count"), key := Value.str (Str.ofString "count") g5, val := Value.int 0 gt5 }, { hash := PyData.keyHash w.params (Str.ofString "safe"), key := Value.str (Str.ofString "safe") g6, val := Value.int 4294967295 gt6 }] 6) : Addr × Obj) ∈ news) (m8 : ((j, instObj 390 jd) : Addr × Obj) ∈ news) (m9 : ((jd, dictOf [{ hash := PyData.keyHash w.params (Str.ofString "disk"), key := Value.str (Str.ofString "disk") b1, val := Value.ref dk }, { hash := PyData.keyHash w.params (Str.ofString "name"), key := Value.str (Str.ofString "name") b2, val := Value.str (Str.ofString "db-journal") t9 }, { hash := PyData.keyHash w.params (Str.ofString "synced"), key := Value.str (Str.ofString "synced") b3, val := Value.bytes #[] t10 }, { hash := PyData.keyHash w.params (Str.ofString "pending"), key := Value.str (Str.ofString "pending") b4, val := Value.ref pj }, { hash := PyData.keyHash w.params (Str.ofString "now"), key := Value.str (Str.ofString "now") b5, val := Value.ref nj }] 5) : Addr × Obj) ∈ news) (m10 : ((nj, baObj x) : Addr × Obj) ∈ news) (nd0 : NdA [dk, dd, fs, f, fd, n, jn, jx, j, jd, nj]) (lo : (fs == sysModules) = false) (hfs : ofs.IsDictOf (PySem.strKind PG w) [(Str.ofString "db", .ref f), (Str.ofString "db-journal", .ref j)]) (hr : r.length ≤ 240000) (hx : x.length ≤ 240) :
    wpC (model PySem.Challenge.rw_pb0455_01.row.prog w) (callerA.deeper (lawEnv L)) (execs (lawRest 12) (lawEnv L)) (lawQ hp g os) NoE ⟨h1, g, dr, tk, os⟩ := by
  let e_dd : List DictEntry := [{ hash := PyData.keyHash w.params (Str.ofString "sector"), key := Value.str (Str.ofString "sector") q1, val := Value.int 8 t5 }, { hash := PyData.keyHash w.params (Str.ofString "room"), key := Value.str (Str.ofString "room") q2, val := Value.none }, { hash := PyData.keyHash w.params (Str.ofString "files"), key := Value.str (Str.ofString "files") q3, val := Value.ref fs }, { hash := PyData.keyHash w.params (Str.ofString "steps"), key := Value.str (Str.ofString "steps") q4, val := Value.int st t6 }, { hash := PyData.keyHash w.params (Str.ofString "crash_at"), key := Value.str (Str.ofString "crash_at") q5, val := Value.none }, { hash := PyData.keyHash w.params (Str.ofString "shared"), key := Value.str (Str.ofString "shared") q6, val := Value.ref sh }, { hash := PyData.keyHash w.params (Str.ofString "locks"), key := Value.str (Str.ofString "locks") q7, val := Value.ref lk }]
  let e_fd : List DictEntry := [{ hash := PyData.keyHash w.params (Str.ofString "disk"), key := Value.str (Str.ofString "disk") k1, val := Value.ref dk }, { hash := PyData.keyHash w.params (Str.ofString "name"), key := Value.str (Str.ofString "name") k2, val := Value.str (Str.ofString "db") t7 }, { hash := PyData.keyHash w.params (Str.ofString "synced"), key := Value.str (Str.ofString "synced") k3, val := sy }, { hash := PyData.keyHash w.params (Str.ofString "pending"), key := Value.str (Str.ofString "pending") k4, val := Value.ref p }, { hash := PyData.keyHash w.params (Str.ofString "now"), key := Value.str (Str.ofString "now") k5, val := Value.ref n }]
  let e_jx : List DictEntry := [{ hash := PyData.keyHash w.params (Str.ofString "disk"), key := Value.str (Str.ofString "disk") g1, val := Value.ref dk }, { hash := PyData.keyHash w.params (Str.ofString "name"), key := Value.str (Str.ofString "name") g2, val := Value.str (Str.ofString "db-journal") gt2 }, { hash := PyData.keyHash w.params (Str.ofString "page_size"), key := Value.str (Str.ofString "page_size") g3, val := Value.int 64 gt3 }, { hash := PyData.keyHash w.params (Str.ofString "nonce"), key := Value.str (Str.ofString "nonce") g4, val := Value.int 0 gt4 }, { hash := PyData.keyHash w.params (Str.ofString "count"), key := Value.str (Str.ofString "count") g5, val := Value.int 0 gt5 }, { hash := PyData.keyHash w.params (Str.ofString "safe"), key := Value.str (Str.ofString "safe") g6, val := Value.int 4294967295 gt6 }]
  let e_jd : List DictEntry := [{ hash := PyData.keyHash w.params (Str.ofString "disk"), key := Value.str (Str.ofString "disk") b1, val := Value.ref dk }, { hash := PyData.keyHash w.params (Str.ofString "name"), key := Value.str (Str.ofString "name") b2, val := Value.str (Str.ofString "db-journal") t9 }, { hash := PyData.keyHash w.params (Str.ofString "synced"), key := Value.str (Str.ofString "synced") b3, val := Value.bytes #[] t10 }, { hash := PyData.keyHash w.params (Str.ofString "pending"), key := Value.str (Str.ofString "pending") b4, val := Value.ref pj }, { hash := PyData.keyHash w.params (Str.ofString "now"), key := Value.str (Str.ofString "now") b5, val := Value.ref nj }]
  have N0 : News hp L h1 [(dk, instObj 489 dd), (dd, dictOf e_dd 7), (fs, ofs), (f, instObj 390 fd), (fd, dictOf e_fd 5), (n, baObj r), (jn, instObj 185 jx), (jx, dictOf e_jx 6), (j, instObj 390 jd), (jd, dictOf e_jd 5), (nj, baObj x)] := (ns_cons N m0 (ns_cons N m1 (ns_cons N m2 (ns_cons N m3 (ns_cons N m4 (ns_cons N m5 (ns_cons N m6 (ns_cons N m7 (ns_cons N m8 (ns_cons N m9 (ns_cons N m10 ns_nil)))))))))))
  have znd := nd0
  clear nd0 N m0 m1 m2 m3 m4 m5 m6 m7 m8 m9 m10
  rw [law_cut12]
  rw [law_cut13]
  rw [law_cut14]
  conv in nth _ 12 => whnf
  conv in nth _ 13 => whnf
  conv in nth _ 14 => whnf
  k_steps
  · exact lawQ_ret (by assumption) (decide_eq_true (cut_all (b := r) (n := (r.length : Int)) (Int.le_refl _)))
  · exact absurd (cut_all (b := x) (n := (x.length : Int) + 9) (by omega)) (by assumption)

theorem law_H1 {w : World} {mean : ExcName → Option Value} {mg mb : Str → Option Value} {hp h1 : Heap} {g : Array GenState} {dr : Drawn} {tk : Nat} {os : OsState} {L sc : Addr} {news : List (Addr × Obj)} {dk dd fs sh lk : Addr} {ofs : Obj} {q1 q2 q3 q4 q5 q6 q7 t5 t6 tw tr : Tok} {b r : List UInt8} {st : Int} {jn jx : Addr} {g1 g2 g3 g4 g5 g6 gt2 gt3 gt4 gt5 gt6 : Tok} {f fd p n : Addr} {k1 k2 k3 k4 k5 t7 : Tok} {j jd pj nj : Addr} {x : List UInt8} {b1 b2 b3 b4 b5 t9 t10 tx : Tok} {sy : Value}
    (X : (Mine.hd.heap_39 w.params).In hp) (T : Top VW LO mean mg mb hp) (B : Below callerA hp [] hp) (F : Fr hp L h1 (fun y => if y = Str.ofString "is_safe" then some (.bool (!true)) else if y = Str.ofString "is_wrong" then some (.bool true) else if y = Str.ofString "due" then some (.bytes r.toArray tr) else if y = Str.ofString "beside" then some (.ref j) else if y = Str.ofString "octets" then some (.bytes x.toArray tx) else if y = Str.ofString "file" then some (.ref f) else if y = Str.ofString "journal" then some (.ref jn) else if y = Str.ofString "whole" then some (.bytes b.toArray tw) else if y = Str.ofString "disk" then some (.ref dk) else if y = Str.ofString "script" then some (.ref sc) else none)) (N : News hp L h1 news) (m0 : ((dk, instObj 489 dd) : Addr × Obj) ∈ news) (m1 : ((dd, dictOf [{ hash := PyData.keyHash w.params (Str.ofString "sector"), key := Value.str (Str.ofString "sector") q1, val := Value.int 8 t5 }, { hash := PyData.keyHash w.params (Str.ofString "room"), key := Value.str (Str.ofString "room") q2, val := Value.none }, { hash := PyData.keyHash w.params (Str.ofString "files"), key := Value.str (Str.ofString "files") q3, val := Value.ref fs }, { hash := PyData.keyHash w.params (Str.ofString "steps"), key := Value.str (Str.ofString "steps") q4, val := Value.int st t6 }, { hash := PyData.keyHash w.params (Str.ofString "crash_at"), key := Value.str (Str.ofString "crash_at") q5, val := Value.none }, { hash := PyData.keyHash w.params (Str.ofString "shared"), key := Value.str (Str.ofString "shared") q6, val := Value.ref sh }, { hash := PyData.keyHash w.params (Str.ofString "locks"), key := Value.str (Str.ofString "locks") q7, val := Value.ref lk }] 7) : Addr × Obj) ∈ news) (m2 : ((fs, ofs) : Addr × Obj) ∈ news) (m3 : ((f, instObj 390 fd) : Addr × Obj) ∈ news) (m4 : ((fd, dictOf [{ hash := PyData.keyHash w.params (Str.ofString "disk"), key := Value.str (Str.ofString "disk") k1, val := Value.ref dk }, { hash := PyData.keyHash w.params (Str.ofString "name"), key := Value.str (Str.ofString "name") k2, val := Value.str (Str.ofString "db") t7 }, { hash := PyData.keyHash w.params (Str.ofString "synced"), key := Value.str (Str.ofString "synced") k3, val := sy }, { hash := PyData.keyHash w.params (Str.ofString "pending"), key := Value.str (Str.ofString "pending") k4, val := Value.ref p }, { hash := PyData.keyHash w.params (Str.ofString "now"), key := Value.str (Str.ofString "now") k5, val := Value.ref n }] 5) : Addr × Obj) ∈ news) (m5 : ((n, baObj r) : Addr × Obj) ∈ news) (m6 : ((jn, instObj 185 jx) : Addr × Obj) ∈ news) (m7 : ((jx, dictOf [{ hash := PyData.keyHash w.params (Str.ofString "disk"), key := Value.str (Str.ofString "disk") g1, val := Value.ref dk }, { hash := PyData.keyHash w.params (Str.ofString "name"), key := Value.str (Str.ofString "name") g2, val := Value.str (Str.ofString "db-journal") gt2 }, { hash := PyData.keyHash w.params (Str.ofString "page_size"), key := Value.str (Str.ofString "page_size") g3, val := Value.int 64 gt3 }, { hash := PyData.keyHash w.params (Str.ofString "nonce"), key := Value.str (Str.ofString "nonce") g4, val := Value.int 0 gt4 }, { hash := PyData.keyHash w.params (Str.ofString "count"), key := Value.str (Str.ofString "count") g5, val := Value.int 0 gt5 }, { hash := PyData.keyHash w.params (Str.ofString "safe"), key := Value.str (Str.ofString "safe") g6, val := Value.int 4294967295 gt6 }] 6) : Addr × Obj) ∈ news) (m8 : ((j, instObj 390 jd) : Addr × Obj) ∈ news) (m9 : ((jd, dictOf [{ hash := PyData.keyHash w.params (Str.ofString "disk"), key := Value.str (Str.ofString "disk") b1, val := Value.ref dk }, { hash := PyData.keyHash w.params (Str.ofString "name"), key := Value.str (Str.ofString "name") b2, val := Value.str (Str.ofString "db-journal") t9 }, { hash := PyData.keyHash w.params (Str.ofString "synced"), key := Value.str (Str.ofString "synced") b3, val := Value.bytes #[] t10 }, { hash := PyData.keyHash w.params (Str.ofString "pending"), key := Value.str (Str.ofString "pending") b4, val := Value.ref pj }, { hash := PyData.keyHash w.params (Str.ofString "now"), key := Value.str (Str.ofString "now") b5, val := Value.ref nj }] 5) : Addr × Obj) ∈ news) (m10 : ((nj, baObj x) : Addr × Obj) ∈ news) (nd0 : NdA [dk, dd, fs, f, fd, n, jn, jx, j, jd, nj]) (lo : (fs == sysModules) = false) (hfs : ofs.IsDictOf (PySem.strKind PG w) [(Str.ofString "db", .ref f), (Str.ofString "db-journal", .ref j)]) (hr : r.length ≤ 240000) (hx : x.length ≤ 240) :
    wpC (model PySem.Challenge.rw_pb0455_01.row.prog w) (callerA.deeper (lawEnv L)) (execs (lawRest 11) (lawEnv L)) (lawQ hp g os) NoE ⟨h1, g, dr, tk, os⟩ := by
  let e_dd : List DictEntry := [{ hash := PyData.keyHash w.params (Str.ofString "sector"), key := Value.str (Str.ofString "sector") q1, val := Value.int 8 t5 }, { hash := PyData.keyHash w.params (Str.ofString "room"), key := Value.str (Str.ofString "room") q2, val := Value.none }, { hash := PyData.keyHash w.params (Str.ofString "files"), key := Value.str (Str.ofString "files") q3, val := Value.ref fs }, { hash := PyData.keyHash w.params (Str.ofString "steps"), key := Value.str (Str.ofString "steps") q4, val := Value.int st t6 }, { hash := PyData.keyHash w.params (Str.ofString "crash_at"), key := Value.str (Str.ofString "crash_at") q5, val := Value.none }, { hash := PyData.keyHash w.params (Str.ofString "shared"), key := Value.str (Str.ofString "shared") q6, val := Value.ref sh }, { hash := PyData.keyHash w.params (Str.ofString "locks"), key := Value.str (Str.ofString "locks") q7, val := Value.ref lk }]
  let e_fd : List DictEntry := [{ hash := PyData.keyHash w.params (Str.ofString "disk"), key := Value.str (Str.ofString "disk") k1, val := Value.ref dk }, { hash := PyData.keyHash w.params (Str.ofString "name"), key := Value.str (Str.ofString "name") k2, val := Value.str (Str.ofString "db") t7 }, { hash := PyData.keyHash w.params (Str.ofString "synced"), key := Value.str (Str.ofString "synced") k3, val := sy }, { hash := PyData.keyHash w.params (Str.ofString "pending"), key := Value.str (Str.ofString "pending") k4, val := Value.ref p }, { hash := PyData.keyHash w.params (Str.ofString "now"), key := Value.str (Str.ofString "now") k5, val := Value.ref n }]
  let e_jx : List DictEntry := [{ hash := PyData.keyHash w.params (Str.ofString "disk"), key := Value.str (Str.ofString "disk") g1, val := Value.ref dk }, { hash := PyData.keyHash w.params (Str.ofString "name"), key := Value.str (Str.ofString "name") g2, val := Value.str (Str.ofString "db-journal") gt2 }, { hash := PyData.keyHash w.params (Str.ofString "page_size"), key := Value.str (Str.ofString "page_size") g3, val := Value.int 64 gt3 }, { hash := PyData.keyHash w.params (Str.ofString "nonce"), key := Value.str (Str.ofString "nonce") g4, val := Value.int 0 gt4 }, { hash := PyData.keyHash w.params (Str.ofString "count"), key := Value.str (Str.ofString "count") g5, val := Value.int 0 gt5 }, { hash := PyData.keyHash w.params (Str.ofString "safe"), key := Value.str (Str.ofString "safe") g6, val := Value.int 4294967295 gt6 }]
  let e_jd : List DictEntry := [{ hash := PyData.keyHash w.params (Str.ofString "disk"), key := Value.str (Str.ofString "disk") b1, val := Value.ref dk }, { hash := PyData.keyHash w.params (Str.ofString "name"), key := Value.str (Str.ofString "name") b2, val := Value.str (Str.ofString "db-journal") t9 }, { hash := PyData.keyHash w.params (Str.ofString "synced"), key := Value.str (Str.ofString "synced") b3, val := Value.bytes #[] t10 }, { hash := PyData.keyHash w.params (Str.ofString "pending"), key := Value.str (Str.ofString "pending") b4, val := Value.ref pj }, { hash := PyData.keyHash w.params (Str.ofString "now"), key := Value.str (Str.ofString "now") b5, val := Value.ref nj }]
  have N0 : News hp L h1 [(dk, instObj 489 dd), (dd, dictOf e_dd 7), (fs, ofs), (f, instObj 390 fd), (fd, dictOf e_fd 5), (n, baObj r), (jn, instObj 185 jx), (jx, dictOf e_jx 6), (j, instObj 390 jd), (jd, dictOf e_jd 5), (nj, baObj x)] := (ns_cons N m0 (ns_cons N m1 (ns_cons N m2 (ns_cons N m3 (ns_cons N m4 (ns_cons N m5 (ns_cons N m6 (ns_cons N m7 (ns_cons N m8 (ns_cons N m9 (ns_cons N m10 ns_nil)))))))))))
  have znd := nd0
  clear nd0 N m0 m1 m2 m3 m4 m5 m6 m7 m8 m9 m10
  rw [law_cut11]
  conv in nth _ 11 => whnf
  k_steps
  refine lawGo ?_
  rename Fr _ _ _ _ => kF0
  rename News _ _ _ _ => kN0
  try simp only [putB0, db_name] at kN0
  refine' law_I X T B kF0 kN0 ?m0 ?m1 ?m2 ?m3 ?m4 ?m5 ?m6 ?m7 ?m8 ?m9 ?m10 ?nd lo ?hfs ?hr ?hx
  case m0 => k_mem
  case m1 => k_mem
  case m2 => k_mem
  case m3 => k_mem
  case m4 => k_mem
  case m5 => k_mem
  case m6 => k_mem
  case m7 => k_mem
  case m8 => k_mem
  case m9 => k_mem
  case m10 => k_mem
  case nd => walk_at "nd_pick"
  case hfs => assumption
  case hr => first | assumption | omega
  case hx => assumption

theorem law_H0 {w : World} {mean : ExcName → Option Value} {mg mb : Str → Option Value} {hp h1 : Heap} {g : Array GenState} {dr : Drawn} {tk : Nat} {os : OsState} {L sc : Addr} {news : List (Addr × Obj)} {dk dd fs sh lk : Addr} {ofs : Obj} {q1 q2 q3 q4 q5 q6 q7 t5 t6 tw tr : Tok} {b r : List UInt8} {st : Int} {jn jx : Addr} {g1 g2 g3 g4 g5 g6 gt2 gt3 gt4 gt5 gt6 : Tok} {f fd p n : Addr} {k1 k2 k3 k4 k5 t7 : Tok} {j jd pj nj : Addr} {x : List UInt8} {b1 b2 b3 b4 b5 t9 t10 tx : Tok} {c cj : Nat} {T2 : Addr} {ty u1 u2 u3 : Tok}
    (X : (Mine.hd.heap_39 w.params).In hp) (T : Top VW LO mean mg mb hp) (B : Below callerA hp [] hp) (F : Fr hp L h1 (fun y => if y = Str.ofString "is_safe" then some (.bool (!false)) else if y = Str.ofString "is_wrong" then some (.bool false) else if y = Str.ofString "due" then some (.bytes r.toArray tr) else if y = Str.ofString "beside" then some (.ref j) else if y = Str.ofString "octets" then some (.bytes x.toArray tx) else if y = Str.ofString "file" then some (.ref f) else if y = Str.ofString "journal" then some (.ref jn) else if y = Str.ofString "whole" then some (.bytes b.toArray tw) else if y = Str.ofString "disk" then some (.ref dk) else if y = Str.ofString "script" then some (.ref sc) else none)) (N : News hp L h1 news) (m0 : ((dk, instObj 489 dd) : Addr × Obj) ∈ news) (m1 : ((dd, dictOf [{ hash := PyData.keyHash w.params (Str.ofString "sector"), key := Value.str (Str.ofString "sector") q1, val := Value.int 8 t5 }, { hash := PyData.keyHash w.params (Str.ofString "room"), key := Value.str (Str.ofString "room") q2, val := Value.none }, { hash := PyData.keyHash w.params (Str.ofString "files"), key := Value.str (Str.ofString "files") q3, val := Value.ref fs }, { hash := PyData.keyHash w.params (Str.ofString "steps"), key := Value.str (Str.ofString "steps") q4, val := Value.int st t6 }, { hash := PyData.keyHash w.params (Str.ofString "crash_at"), key := Value.str (Str.ofString "crash_at") q5, val := Value.none }, { hash := PyData.keyHash w.params (Str.ofString "shared"), key := Value.str (Str.ofString "shared") q6, val := Value.ref sh }, { hash := PyData.keyHash w.params (Str.ofString "locks"), key := Value.str (Str.ofString "locks") q7, val := Value.ref lk }] 7) : Addr × Obj) ∈ news) (m2 : ((fs, ofs) : Addr × Obj) ∈ news) (m3 : ((f, instObj 390 fd) : Addr × Obj) ∈ news) (m4 : ((fd, dictOf [{ hash := PyData.keyHash w.params (Str.ofString "disk"), key := Value.str (Str.ofString "disk") k1, val := Value.ref dk }, { hash := PyData.keyHash w.params (Str.ofString "name"), key := Value.str (Str.ofString "name") k2, val := Value.str (Str.ofString "db") t7 }, { hash := PyData.keyHash w.params (Str.ofString "synced"), key := Value.str (Str.ofString "synced") k3, val := Value.bytes r.toArray ty }, { hash := PyData.keyHash w.params (Str.ofString "pending"), key := Value.str (Str.ofString "pending") k4, val := Value.ref p }, { hash := PyData.keyHash w.params (Str.ofString "now"), key := Value.str (Str.ofString "now") k5, val := Value.ref n }] 5) : Addr × Obj) ∈ news) (m5 : ((p, W.listOf #[] c) : Addr × Obj) ∈ news) (m6 : ((n, baObj r) : Addr × Obj) ∈ news) (m7 : ((jn, instObj 185 jx) : Addr × Obj) ∈ news) (m8 : ((jx, dictOf [{ hash := PyData.keyHash w.params (Str.ofString "disk"), key := Value.str (Str.ofString "disk") g1, val := Value.ref dk }, { hash := PyData.keyHash w.params (Str.ofString "name"), key := Value.str (Str.ofString "name") g2, val := Value.str (Str.ofString "db-journal") gt2 }, { hash := PyData.keyHash w.params (Str.ofString "page_size"), key := Value.str (Str.ofString "page_size") g3, val := Value.int 64 gt3 }, { hash := PyData.keyHash w.params (Str.ofString "nonce"), key := Value.str (Str.ofString "nonce") g4, val := Value.int 0 gt4 }, { hash := PyData.keyHash w.params (Str.ofString "count"), key := Value.str (Str.ofString "count") g5, val := Value.int 0 gt5 }, { hash := PyData.keyHash w.params (Str.ofString "safe"), key := Value.str (Str.ofString "safe") g6, val := Value.int 4294967295 gt6 }] 6) : Addr × Obj) ∈ news) (m9 : ((j, instObj 390 jd) : Addr × Obj) ∈ news) (m10 : ((jd, dictOf [{ hash := PyData.keyHash w.params (Str.ofString "disk"), key := Value.str (Str.ofString "disk") b1, val := Value.ref dk }, { hash := PyData.keyHash w.params (Str.ofString "name"), key := Value.str (Str.ofString "name") b2, val := Value.str (Str.ofString "db-journal") t9 }, { hash := PyData.keyHash w.params (Str.ofString "synced"), key := Value.str (Str.ofString "synced") b3, val := Value.bytes #[] t10 }, { hash := PyData.keyHash w.params (Str.ofString "pending"), key := Value.str (Str.ofString "pending") b4, val := Value.ref pj }, { hash := PyData.keyHash w.params (Str.ofString "now"), key := Value.str (Str.ofString "now") b5, val := Value.ref nj }] 5) : Addr × Obj) ∈ news) (m11 : ((pj, W.listOf #[.ref T2] cj) : Addr × Obj) ∈ news) (m12 : ((nj, baObj x) : Addr × Obj) ∈ news) (m13 : ((T2, { cls := Value.type "tuple", data := Data.seq #[Value.str (Str.ofString "write") u1, Value.int 0 u2, Value.bytes x.toArray u3] }) : Addr × Obj) ∈ news) (nd0 : NdA [dk, dd, fs, f, fd, p, n, jn, jx, j, jd, pj, nj, T2]) (lo : (fs == sysModules) = false) (hfs : ofs.IsDictOf (PySem.strKind PG w) [(Str.ofString "db", .ref f), (Str.ofString "db-journal", .ref j)]) (hr : r.length ≤ 240000) (hx : x.length ≤ 240) :
    wpC (model PySem.Challenge.rw_pb0455_01.row.prog w) (callerA.deeper (lawEnv L)) (execs (lawRest 11) (lawEnv L)) (lawQ hp g os) NoE ⟨h1, g, dr, tk, os⟩ := by
  let e_dd : List DictEntry := [{ hash := PyData.keyHash w.params (Str.ofString "sector"), key := Value.str (Str.ofString "sector") q1, val := Value.int 8 t5 }, { hash := PyData.keyHash w.params (Str.ofString "room"), key := Value.str (Str.ofString "room") q2, val := Value.none }, { hash := PyData.keyHash w.params (Str.ofString "files"), key := Value.str (Str.ofString "files") q3, val := Value.ref fs }, { hash := PyData.keyHash w.params (Str.ofString "steps"), key := Value.str (Str.ofString "steps") q4, val := Value.int st t6 }, { hash := PyData.keyHash w.params (Str.ofString "crash_at"), key := Value.str (Str.ofString "crash_at") q5, val := Value.none }, { hash := PyData.keyHash w.params (Str.ofString "shared"), key := Value.str (Str.ofString "shared") q6, val := Value.ref sh }, { hash := PyData.keyHash w.params (Str.ofString "locks"), key := Value.str (Str.ofString "locks") q7, val := Value.ref lk }]
  let e_fd : List DictEntry := [{ hash := PyData.keyHash w.params (Str.ofString "disk"), key := Value.str (Str.ofString "disk") k1, val := Value.ref dk }, { hash := PyData.keyHash w.params (Str.ofString "name"), key := Value.str (Str.ofString "name") k2, val := Value.str (Str.ofString "db") t7 }, { hash := PyData.keyHash w.params (Str.ofString "synced"), key := Value.str (Str.ofString "synced") k3, val := Value.bytes r.toArray ty }, { hash := PyData.keyHash w.params (Str.ofString "pending"), key := Value.str (Str.ofString "pending") k4, val := Value.ref p }, { hash := PyData.keyHash w.params (Str.ofString "now"), key := Value.str (Str.ofString "now") k5, val := Value.ref n }]
  let e_jx : List DictEntry := [{ hash := PyData.keyHash w.params (Str.ofString "disk"), key := Value.str (Str.ofString "disk") g1, val := Value.ref dk }, { hash := PyData.keyHash w.params (Str.ofString "name"), key := Value.str (Str.ofString "name") g2, val := Value.str (Str.ofString "db-journal") gt2 }, { hash := PyData.keyHash w.params (Str.ofString "page_size"), key := Value.str (Str.ofString "page_size") g3, val := Value.int 64 gt3 }, { hash := PyData.keyHash w.params (Str.ofString "nonce"), key := Value.str (Str.ofString "nonce") g4, val := Value.int 0 gt4 }, { hash := PyData.keyHash w.params (Str.ofString "count"), key := Value.str (Str.ofString "count") g5, val := Value.int 0 gt5 }, { hash := PyData.keyHash w.params (Str.ofString "safe"), key := Value.str (Str.ofString "safe") g6, val := Value.int 4294967295 gt6 }]
  let e_jd : List DictEntry := [{ hash := PyData.keyHash w.params (Str.ofString "disk"), key := Value.str (Str.ofString "disk") b1, val := Value.ref dk }, { hash := PyData.keyHash w.params (Str.ofString "name"), key := Value.str (Str.ofString "name") b2, val := Value.str (Str.ofString "db-journal") t9 }, { hash := PyData.keyHash w.params (Str.ofString "synced"), key := Value.str (Str.ofString "synced") b3, val := Value.bytes #[] t10 }, { hash := PyData.keyHash w.params (Str.ofString "pending"), key := Value.str (Str.ofString "pending") b4, val := Value.ref pj }, { hash := PyData.keyHash w.params (Str.ofString "now"), key := Value.str (Str.ofString "now") b5, val := Value.ref nj }]
  have N0 : News hp L h1 [(dk, instObj 489 dd), (dd, dictOf e_dd 7), (fs, ofs), (f, instObj 390 fd), (fd, dictOf e_fd 5), (p, W.listOf #[] c), (n, baObj r), (jn, instObj 185 jx), (jx, dictOf e_jx 6), (j, instObj 390 jd), (jd, dictOf e_jd 5), (pj, W.listOf #[.ref T2] cj), (nj, baObj x), (T2, { cls := Value.type "tuple", data := Data.seq #[Value.str (Str.ofString "write") u1, Value.int 0 u2, Value.bytes x.toArray u3] })] := (ns_cons N m0 (ns_cons N m1 (ns_cons N m2 (ns_cons N m3 (ns_cons N m4 (ns_cons N m5 (ns_cons N m6 (ns_cons N m7 (ns_cons N m8 (ns_cons N m9 (ns_cons N m10 (ns_cons N m11 (ns_cons N m12 (ns_cons N m13 ns_nil))))))))))))))
  have znd := nd0
  clear nd0 N m0 m1 m2 m3 m4 m5 m6 m7 m8 m9 m10 m11 m12 m13
  rw [law_cut11]
  conv in nth _ 11 => whnf
  k_steps
  · refine lawGo ?_
    rename Fr _ _ _ _ => kF0
    rename News _ _ _ _ => kN0
    try simp only [putB0, db_name] at kN0
    refine' law_I X T B kF0 kN0 ?m0 ?m1 ?m2 ?m3 ?m4 ?m5 ?m6 ?m7 ?m8 ?m9 ?m10 ?nd lo ?hfs ?hr ?hx
    case m0 => k_mem
    case m1 => k_mem
    case m2 => k_mem
    case m3 => k_mem
    case m4 => k_mem
    case m5 => k_mem
    case m6 => k_mem
    case m7 => k_mem
    case m8 => k_mem
    case m9 => k_mem
    case m10 => k_mem
    case nd => walk_at "nd_pick"
    case hfs => assumption
    case hr => first | assumption | omega
    case hx => assumption
  · exact absurd (cut_all (b := r) (n := (r.length : Int) + 9) (by omega)) (by assumption)

theorem law_G {w : World} {mean : ExcName → Option Value} {mg mb : Str → Option Value} {hp h1 : Heap} {g : Array GenState} {dr : Drawn} {tk : Nat} {os : OsState} {L sc : Addr} {news : List (Addr × Obj)} {sr dk dd fs sh lk : Addr} {oce ofs : Obj} {d cc : Int} {n0 : Nat} {q1 q2 q3 q4 q5 q6 q7 t5 t6 e1 e2 : Tok} {b : List UInt8} {tw : Tok} {st : Int} {jn jx : Addr} {g1 g2 g3 g4 g5 g6 gt2 gt3 gt4 gt5 gt6 : Tok} {f fd p n : Addr} {sy : Value} {vs : Array Value} {c : Nat} {k1 k2 k3 k4 k5 t7 : Tok} {j jd pj nj T2 : Addr} {oT : Obj} {vj : Array Value} {cj : Nat} {x : List UInt8} {b1 b2 b3 b4 b5 t9 t10 tx : Tok}
    (X : (Mine.hd.heap_39 w.params).In hp) (T : Top VW LO mean mg mb hp) (B : Below callerA hp [] hp) (F : Fr hp L h1 (fun y => if y = Str.ofString "beside" then some (.ref j) else if y = Str.ofString "octets" then some (.bytes x.toArray tx) else if y = Str.ofString "file" then some (.ref f) else if y = Str.ofString "journal" then some (.ref jn) else if y = Str.ofString "whole" then some (.bytes b.toArray tw) else if y = Str.ofString "disk" then some (.ref dk) else if y = Str.ofString "script" then some (.ref sc) else none)) (N : News hp L h1 news) (m0 : ((L + 1, oce) : Addr × Obj) ∈ news) (m1 : ((sr, W.listOf #[.int d e1, .int cc e2] n0) : Addr × Obj) ∈ news) (m2 : ((dk, instObj 489 dd) : Addr × Obj) ∈ news) (m3 : ((dd, dictOf [{ hash := PyData.keyHash w.params (Str.ofString "sector"), key := Value.str (Str.ofString "sector") q1, val := Value.int 8 t5 }, { hash := PyData.keyHash w.params (Str.ofString "room"), key := Value.str (Str.ofString "room") q2, val := Value.none }, { hash := PyData.keyHash w.params (Str.ofString "files"), key := Value.str (Str.ofString "files") q3, val := Value.ref fs }, { hash := PyData.keyHash w.params (Str.ofString "steps"), key := Value.str (Str.ofString "steps") q4, val := Value.int st t6 }, { hash := PyData.keyHash w.params (Str.ofString "crash_at"), key := Value.str (Str.ofString "crash_at") q5, val := Value.none }, { hash := PyData.keyHash w.params (Str.ofString "shared"), key := Value.str (Str.ofString "shared") q6, val := Value.ref sh }, { hash := PyData.keyHash w.params (Str.ofString "locks"), key := Value.str (Str.ofString "locks") q7, val := Value.ref lk }] 7) : Addr × Obj) ∈ news) (m4 : ((fs, ofs) : Addr × Obj) ∈ news) (m5 : ((f, instObj 390 fd) : Addr × Obj) ∈ news) (m6 : ((fd, dictOf [{ hash := PyData.keyHash w.params (Str.ofString "disk"), key := Value.str (Str.ofString "disk") k1, val := Value.ref dk }, { hash := PyData.keyHash w.params (Str.ofString "name"), key := Value.str (Str.ofString "name") k2, val := Value.str (Str.ofString "db") t7 }, { hash := PyData.keyHash w.params (Str.ofString "synced"), key := Value.str (Str.ofString "synced") k3, val := sy }, { hash := PyData.keyHash w.params (Str.ofString "pending"), key := Value.str (Str.ofString "pending") k4, val := Value.ref p }, { hash := PyData.keyHash w.params (Str.ofString "now"), key := Value.str (Str.ofString "now") k5, val := Value.ref n }] 5) : Addr × Obj) ∈ news) (m7 : ((p, W.listOf vs c) : Addr × Obj) ∈ news) (m8 : ((n, baObj b) : Addr × Obj) ∈ news) (m9 : ((jn, instObj 185 jx) : Addr × Obj) ∈ news) (m10 : ((jx, dictOf [{ hash := PyData.keyHash w.params (Str.ofString "disk"), key := Value.str (Str.ofString "disk") g1, val := Value.ref dk }, { hash := PyData.keyHash w.params (Str.ofString "name"), key := Value.str (Str.ofString "name") g2, val := Value.str (Str.ofString "db-journal") gt2 }, { hash := PyData.keyHash w.params (Str.ofString "page_size"), key := Value.str (Str.ofString "page_size") g3, val := Value.int 64 gt3 }, { hash := PyData.keyHash w.params (Str.ofString "nonce"), key := Value.str (Str.ofString "nonce") g4, val := Value.int 0 gt4 }, { hash := PyData.keyHash w.params (Str.ofString "count"), key := Value.str (Str.ofString "count") g5, val := Value.int 0 gt5 }, { hash := PyData.keyHash w.params (Str.ofString "safe"), key := Value.str (Str.ofString "safe") g6, val := Value.int 4294967295 gt6 }] 6) : Addr × Obj) ∈ news) (m11 : ((j, instObj 390 jd) : Addr × Obj) ∈ news) (m12 : ((jd, dictOf [{ hash := PyData.keyHash w.params (Str.ofString "disk"), key := Value.str (Str.ofString "disk") b1, val := Value.ref dk }, { hash := PyData.keyHash w.params (Str.ofString "name"), key := Value.str (Str.ofString "name") b2, val := Value.str (Str.ofString "db-journal") t9 }, { hash := PyData.keyHash w.params (Str.ofString "synced"), key := Value.str (Str.ofString "synced") b3, val := Value.bytes #[] t10 }, { hash := PyData.keyHash w.params (Str.ofString "pending"), key := Value.str (Str.ofString "pending") b4, val := Value.ref pj }, { hash := PyData.keyHash w.params (Str.ofString "now"), key := Value.str (Str.ofString "now") b5, val := Value.ref nj }] 5) : Addr × Obj) ∈ news) (m13 : ((pj, W.listOf vj cj) : Addr × Obj) ∈ news) (m14 : ((nj, baObj x) : Addr × Obj) ∈ news) (m15 : ((T2, oT) : Addr × Obj) ∈ news) (nd0 : NdA [L + 1, sr, dk, dd, fs, f, fd, p, n, jn, jx, j, jd, pj, nj, T2]) (hce : oce.data = Data.cell (some (Value.ref sr))) (hd0 : 0 ≤ d) (hc0 : 0 ≤ cc) (hc1 : cc < 2147483647) (lo : (fs == sysModules) = false) (hfs : ofs.IsDictOf (PySem.strKind PG w) [(Str.ofString "db", .ref f), (Str.ofString "db-journal", .ref j)]) (hb : b.length ≤ 192) (hv : vs.size ≤ 1) (hx : x.length ≤ 240) (hpc : 24 ≤ x.length → w4 x 16 ≤ 7) (hxT : x ≠ [] → ∃ u1 u2 u3, vj = #[.ref T2] ∧ oT = { cls := Value.type "tuple", data := Data.seq #[Value.str (Str.ofString "write") u1, Value.int 0 u2, Value.bytes x.toArray u3] }) :
    wpC (model PySem.Challenge.rw_pb0455_01.row.prog w) (callerA.deeper (lawEnv L)) (execs (lawRest 9) (lawEnv L)) (lawQ hp g os) NoE ⟨h1, g, dr, tk, os⟩ := by
  let e_dd : List DictEntry := [{ hash := PyData.keyHash w.params (Str.ofString "sector"), key := Value.str (Str.ofString "sector") q1, val := Value.int 8 t5 }, { hash := PyData.keyHash w.params (Str.ofString "room"), key := Value.str (Str.ofString "room") q2, val := Value.none }, { hash := PyData.keyHash w.params (Str.ofString "files"), key := Value.str (Str.ofString "files") q3, val := Value.ref fs }, { hash := PyData.keyHash w.params (Str.ofString "steps"), key := Value.str (Str.ofString "steps") q4, val := Value.int st t6 }, { hash := PyData.keyHash w.params (Str.ofString "crash_at"), key := Value.str (Str.ofString "crash_at") q5, val := Value.none }, { hash := PyData.keyHash w.params (Str.ofString "shared"), key := Value.str (Str.ofString "shared") q6, val := Value.ref sh }, { hash := PyData.keyHash w.params (Str.ofString "locks"), key := Value.str (Str.ofString "locks") q7, val := Value.ref lk }]
  let e_fd : List DictEntry := [{ hash := PyData.keyHash w.params (Str.ofString "disk"), key := Value.str (Str.ofString "disk") k1, val := Value.ref dk }, { hash := PyData.keyHash w.params (Str.ofString "name"), key := Value.str (Str.ofString "name") k2, val := Value.str (Str.ofString "db") t7 }, { hash := PyData.keyHash w.params (Str.ofString "synced"), key := Value.str (Str.ofString "synced") k3, val := sy }, { hash := PyData.keyHash w.params (Str.ofString "pending"), key := Value.str (Str.ofString "pending") k4, val := Value.ref p }, { hash := PyData.keyHash w.params (Str.ofString "now"), key := Value.str (Str.ofString "now") k5, val := Value.ref n }]
  let e_jx : List DictEntry := [{ hash := PyData.keyHash w.params (Str.ofString "disk"), key := Value.str (Str.ofString "disk") g1, val := Value.ref dk }, { hash := PyData.keyHash w.params (Str.ofString "name"), key := Value.str (Str.ofString "name") g2, val := Value.str (Str.ofString "db-journal") gt2 }, { hash := PyData.keyHash w.params (Str.ofString "page_size"), key := Value.str (Str.ofString "page_size") g3, val := Value.int 64 gt3 }, { hash := PyData.keyHash w.params (Str.ofString "nonce"), key := Value.str (Str.ofString "nonce") g4, val := Value.int 0 gt4 }, { hash := PyData.keyHash w.params (Str.ofString "count"), key := Value.str (Str.ofString "count") g5, val := Value.int 0 gt5 }, { hash := PyData.keyHash w.params (Str.ofString "safe"), key := Value.str (Str.ofString "safe") g6, val := Value.int 4294967295 gt6 }]
  let e_jd : List DictEntry := [{ hash := PyData.keyHash w.params (Str.ofString "disk"), key := Value.str (Str.ofString "disk") b1, val := Value.ref dk }, { hash := PyData.keyHash w.params (Str.ofString "name"), key := Value.str (Str.ofString "name") b2, val := Value.str (Str.ofString "db-journal") t9 }, { hash := PyData.keyHash w.params (Str.ofString "synced"), key := Value.str (Str.ofString "synced") b3, val := Value.bytes #[] t10 }, { hash := PyData.keyHash w.params (Str.ofString "pending"), key := Value.str (Str.ofString "pending") b4, val := Value.ref pj }, { hash := PyData.keyHash w.params (Str.ofString "now"), key := Value.str (Str.ofString "now") b5, val := Value.ref nj }]
  have N0 : News hp L h1 [(L + 1, oce), (sr, W.listOf #[.int d e1, .int cc e2] n0), (dk, instObj 489 dd), (dd, dictOf e_dd 7), (fs, ofs), (f, instObj 390 fd), (fd, dictOf e_fd 5), (p, W.listOf vs c), (n, baObj b), (jn, instObj 185 jx), (jx, dictOf e_jx 6), (j, instObj 390 jd), (jd, dictOf e_jd 5), (pj, W.listOf vj cj), (nj, baObj x), (T2, oT)] := (ns_cons N m0 (ns_cons N m1 (ns_cons N m2 (ns_cons N m3 (ns_cons N m4 (ns_cons N m5 (ns_cons N m6 (ns_cons N m7 (ns_cons N m8 (ns_cons N m9 (ns_cons N m10 (ns_cons N m11 (ns_cons N m12 (ns_cons N m13 (ns_cons N m14 (ns_cons N m15 ns_nil))))))))))))))))
  have znd := nd0
  clear nd0 N m0 m1 m2 m3 m4 m5 m6 m7 m8 m9 m10 m11 m12 m13 m14 m15
  rw [law_cut9]
  rw [law_cut10]
  conv in nth _ 9 => whnf
  conv in nth _ 10 => whnf
  k_steps
  · exact absurd ((Prod.mk.inj (zhpd.symm.trans zhpl)).2) (fun h => by subst h; simp at *)
  · obtain ⟨hqa, hqb⟩ := Prod.mk.inj (zhpd.symm.trans zhpl)
    subst hqa hqb
    have hzl := play_len zhpl (by omega) hpc
    k_steps
    · refine lawGo ?_
      rename Fr _ _ _ _ => kF0
      rename News _ _ _ _ => kN0
      try simp only [putB0, db_name] at kN0
      refine' law_H1 X T B kF0 kN0 ?m0 ?m1 ?m2 ?m3 ?m4 ?m5 ?m6 ?m7 ?m8 ?m9 ?m10 ?nd lo ?hfs ?hr ?hx
      case m0 => k_mem
      case m1 => k_mem
      case m2 => k_mem
      case m3 => k_mem
      case m4 => k_mem
      case m5 => k_mem
      case m6 => k_mem
      case m7 => k_mem
      case m8 => k_mem
      case m9 => k_mem
      case m10 => k_mem
      case nd => walk_at "nd_pick"
      case hfs => assumption
      case hr => first | assumption | omega
      case hx => assumption
    · exact absurd (cut_all (n := _) (Int.le_refl _)) (by assumption)
  · exact absurd ((Prod.mk.inj (zhpd.symm.trans zhpl)).2) (fun h => by subst h; simp at *)
  · obtain ⟨hqa, hqb⟩ := Prod.mk.inj (zhpd.symm.trans zhpl)
    subst hqa hqb
    have hzl := play_len zhpl (by omega) hpc
    have hxn : x ≠ [] := fun h => by subst h; exact absurd (play_nil zhpl).2 (by decide)
    obtain ⟨u1, u2, u3, rfl, rfl⟩ := hxT hxn
    k_steps
    · refine lawGo ?_
      rename Fr _ _ _ _ => kF0
      rename News _ _ _ _ => kN0
      try simp only [putB0, db_name] at kN0
      refine' law_H0 X T B kF0 kN0 ?m0 ?m1 ?m2 ?m3 ?m4 ?m5 ?m6 ?m7 ?m8 ?m9 ?m10 ?m11 ?m12 ?m13 ?nd lo ?hfs ?hr ?hx
      case m0 => k_mem
      case m1 => k_mem
      case m2 => k_mem
      case m3 => k_mem
      case m4 => k_mem
      case m5 => k_mem
      case m6 => k_mem
      case m7 => k_mem
      case m8 => k_mem
      case m9 => k_mem
      case m10 => k_mem
      case m11 => k_mem
      case m12 => k_mem
      case m13 => k_mem
      case nd => walk_at "nd_pick"
      case hfs => assumption
      case hr => first | assumption | omega
      case hx => assumption
    · exact absurd (cut_all (n := _) (Int.le_refl _)) (by assumption)

theorem law_E {w : World} {mean : ExcName → Option Value} {mg mb : Str → Option Value} {hp h1 : Heap} {g : Array GenState} {dr : Drawn} {tk : Nat} {os : OsState} {L sc : Addr} {news : List (Addr × Obj)} {sr dk dd fs sh lk : Addr} {oce ofs : Obj} {d cc : Int} {n0 : Nat} {q1 q2 q3 q4 q5 q6 q7 t5 t6 e1 e2 : Tok} {b : List UInt8} {tw : Tok} {st : Int} {jn jx : Addr} {g1 g2 g3 g4 g5 g6 gt2 gt3 gt4 gt5 gt6 : Tok} {f fd p n : Addr} {sy : Value} {vs : Array Value} {c : Nat} {k1 k2 k3 k4 k5 t7 : Tok} {j jd pj nj T2 : Addr} {oT : Obj} {vj : Array Value} {cj : Nat} {x : List UInt8} {b1 b2 b3 b4 b5 t9 t10 tx : Tok}
    (X : (Mine.hd.heap_39 w.params).In hp) (T : Top VW LO mean mg mb hp) (B : Below callerA hp [] hp) (F : Fr hp L h1 (fun y => if y = Str.ofString "beside" then some (.ref j) else if y = Str.ofString "octets" then some (.bytes x.toArray tx) else if y = Str.ofString "file" then some (.ref f) else if y = Str.ofString "journal" then some (.ref jn) else if y = Str.ofString "whole" then some (.bytes b.toArray tw) else if y = Str.ofString "disk" then some (.ref dk) else if y = Str.ofString "script" then some (.ref sc) else none)) (N : News hp L h1 news) (m0 : ((L + 1, oce) : Addr × Obj) ∈ news) (m1 : ((sr, W.listOf #[.int d e1, .int cc e2] n0) : Addr × Obj) ∈ news) (m2 : ((dk, instObj 489 dd) : Addr × Obj) ∈ news) (m3 : ((dd, dictOf [{ hash := PyData.keyHash w.params (Str.ofString "sector"), key := Value.str (Str.ofString "sector") q1, val := Value.int 8 t5 }, { hash := PyData.keyHash w.params (Str.ofString "room"), key := Value.str (Str.ofString "room") q2, val := Value.none }, { hash := PyData.keyHash w.params (Str.ofString "files"), key := Value.str (Str.ofString "files") q3, val := Value.ref fs }, { hash := PyData.keyHash w.params (Str.ofString "steps"), key := Value.str (Str.ofString "steps") q4, val := Value.int st t6 }, { hash := PyData.keyHash w.params (Str.ofString "crash_at"), key := Value.str (Str.ofString "crash_at") q5, val := Value.none }, { hash := PyData.keyHash w.params (Str.ofString "shared"), key := Value.str (Str.ofString "shared") q6, val := Value.ref sh }, { hash := PyData.keyHash w.params (Str.ofString "locks"), key := Value.str (Str.ofString "locks") q7, val := Value.ref lk }] 7) : Addr × Obj) ∈ news) (m4 : ((fs, ofs) : Addr × Obj) ∈ news) (m5 : ((f, instObj 390 fd) : Addr × Obj) ∈ news) (m6 : ((fd, dictOf [{ hash := PyData.keyHash w.params (Str.ofString "disk"), key := Value.str (Str.ofString "disk") k1, val := Value.ref dk }, { hash := PyData.keyHash w.params (Str.ofString "name"), key := Value.str (Str.ofString "name") k2, val := Value.str (Str.ofString "db") t7 }, { hash := PyData.keyHash w.params (Str.ofString "synced"), key := Value.str (Str.ofString "synced") k3, val := sy }, { hash := PyData.keyHash w.params (Str.ofString "pending"), key := Value.str (Str.ofString "pending") k4, val := Value.ref p }, { hash := PyData.keyHash w.params (Str.ofString "now"), key := Value.str (Str.ofString "now") k5, val := Value.ref n }] 5) : Addr × Obj) ∈ news) (m7 : ((p, W.listOf vs c) : Addr × Obj) ∈ news) (m8 : ((n, baObj b) : Addr × Obj) ∈ news) (m9 : ((jn, instObj 185 jx) : Addr × Obj) ∈ news) (m10 : ((jx, dictOf [{ hash := PyData.keyHash w.params (Str.ofString "disk"), key := Value.str (Str.ofString "disk") g1, val := Value.ref dk }, { hash := PyData.keyHash w.params (Str.ofString "name"), key := Value.str (Str.ofString "name") g2, val := Value.str (Str.ofString "db-journal") gt2 }, { hash := PyData.keyHash w.params (Str.ofString "page_size"), key := Value.str (Str.ofString "page_size") g3, val := Value.int 64 gt3 }, { hash := PyData.keyHash w.params (Str.ofString "nonce"), key := Value.str (Str.ofString "nonce") g4, val := Value.int 0 gt4 }, { hash := PyData.keyHash w.params (Str.ofString "count"), key := Value.str (Str.ofString "count") g5, val := Value.int 0 gt5 }, { hash := PyData.keyHash w.params (Str.ofString "safe"), key := Value.str (Str.ofString "safe") g6, val := Value.int 4294967295 gt6 }] 6) : Addr × Obj) ∈ news) (m11 : ((j, instObj 390 jd) : Addr × Obj) ∈ news) (m12 : ((jd, dictOf [{ hash := PyData.keyHash w.params (Str.ofString "disk"), key := Value.str (Str.ofString "disk") b1, val := Value.ref dk }, { hash := PyData.keyHash w.params (Str.ofString "name"), key := Value.str (Str.ofString "name") b2, val := Value.str (Str.ofString "db-journal") t9 }, { hash := PyData.keyHash w.params (Str.ofString "synced"), key := Value.str (Str.ofString "synced") b3, val := Value.bytes #[] t10 }, { hash := PyData.keyHash w.params (Str.ofString "pending"), key := Value.str (Str.ofString "pending") b4, val := Value.ref pj }, { hash := PyData.keyHash w.params (Str.ofString "now"), key := Value.str (Str.ofString "now") b5, val := Value.ref nj }] 5) : Addr × Obj) ∈ news) (m13 : ((pj, W.listOf vj cj) : Addr × Obj) ∈ news) (m14 : ((nj, baObj x) : Addr × Obj) ∈ news) (m15 : ((T2, oT) : Addr × Obj) ∈ news) (nd0 : NdA [L + 1, sr, dk, dd, fs, f, fd, p, n, jn, jx, j, jd, pj, nj, T2]) (hce : oce.data = Data.cell (some (Value.ref sr))) (hd0 : 0 ≤ d) (hc0 : 0 ≤ cc) (hc1 : cc < 2147483647) (lo : (fs == sysModules) = false) (hfs : ofs.IsDictOf (PySem.strKind PG w) [(Str.ofString "db", .ref f), (Str.ofString "db-journal", .ref j)]) (hb : b.length ≤ 192) (hv : vs.size ≤ 1) (hx : x.length ≤ 240) (hpc : 24 ≤ x.length → w4 x 16 ≤ 7) (hxT : x ≠ [] → ∃ u1 u2 u3, vj = #[.ref T2] ∧ oT = { cls := Value.type "tuple", data := Data.seq #[Value.str (Str.ofString "write") u1, Value.int 0 u2, Value.bytes x.toArray u3] }) :
    wpC (model PySem.Challenge.rw_pb0455_01.row.prog w) (callerA.deeper (lawEnv L)) (execs (lawRest 8) (lawEnv L)) (lawQ hp g os) NoE ⟨h1, g, dr, tk, os⟩ := by
  let e_dd : List DictEntry := [{ hash := PyData.keyHash w.params (Str.ofString "sector"), key := Value.str (Str.ofString "sector") q1, val := Value.int 8 t5 }, { hash := PyData.keyHash w.params (Str.ofString "room"), key := Value.str (Str.ofString "room") q2, val := Value.none }, { hash := PyData.keyHash w.params (Str.ofString "files"), key := Value.str (Str.ofString "files") q3, val := Value.ref fs }, { hash := PyData.keyHash w.params (Str.ofString "steps"), key := Value.str (Str.ofString "steps") q4, val := Value.int st t6 }, { hash := PyData.keyHash w.params (Str.ofString "crash_at"), key := Value.str (Str.ofString "crash_at") q5, val := Value.none }, { hash := PyData.keyHash w.params (Str.ofString "shared"), key := Value.str (Str.ofString "shared") q6, val := Value.ref sh }, { hash := PyData.keyHash w.params (Str.ofString "locks"), key := Value.str (Str.ofString "locks") q7, val := Value.ref lk }]
  let e_fd : List DictEntry := [{ hash := PyData.keyHash w.params (Str.ofString "disk"), key := Value.str (Str.ofString "disk") k1, val := Value.ref dk }, { hash := PyData.keyHash w.params (Str.ofString "name"), key := Value.str (Str.ofString "name") k2, val := Value.str (Str.ofString "db") t7 }, { hash := PyData.keyHash w.params (Str.ofString "synced"), key := Value.str (Str.ofString "synced") k3, val := sy }, { hash := PyData.keyHash w.params (Str.ofString "pending"), key := Value.str (Str.ofString "pending") k4, val := Value.ref p }, { hash := PyData.keyHash w.params (Str.ofString "now"), key := Value.str (Str.ofString "now") k5, val := Value.ref n }]
  let e_jx : List DictEntry := [{ hash := PyData.keyHash w.params (Str.ofString "disk"), key := Value.str (Str.ofString "disk") g1, val := Value.ref dk }, { hash := PyData.keyHash w.params (Str.ofString "name"), key := Value.str (Str.ofString "name") g2, val := Value.str (Str.ofString "db-journal") gt2 }, { hash := PyData.keyHash w.params (Str.ofString "page_size"), key := Value.str (Str.ofString "page_size") g3, val := Value.int 64 gt3 }, { hash := PyData.keyHash w.params (Str.ofString "nonce"), key := Value.str (Str.ofString "nonce") g4, val := Value.int 0 gt4 }, { hash := PyData.keyHash w.params (Str.ofString "count"), key := Value.str (Str.ofString "count") g5, val := Value.int 0 gt5 }, { hash := PyData.keyHash w.params (Str.ofString "safe"), key := Value.str (Str.ofString "safe") g6, val := Value.int 4294967295 gt6 }]
  let e_jd : List DictEntry := [{ hash := PyData.keyHash w.params (Str.ofString "disk"), key := Value.str (Str.ofString "disk") b1, val := Value.ref dk }, { hash := PyData.keyHash w.params (Str.ofString "name"), key := Value.str (Str.ofString "name") b2, val := Value.str (Str.ofString "db-journal") t9 }, { hash := PyData.keyHash w.params (Str.ofString "synced"), key := Value.str (Str.ofString "synced") b3, val := Value.bytes #[] t10 }, { hash := PyData.keyHash w.params (Str.ofString "pending"), key := Value.str (Str.ofString "pending") b4, val := Value.ref pj }, { hash := PyData.keyHash w.params (Str.ofString "now"), key := Value.str (Str.ofString "now") b5, val := Value.ref nj }]
  have N0 : News hp L h1 [(L + 1, oce), (sr, W.listOf #[.int d e1, .int cc e2] n0), (dk, instObj 489 dd), (dd, dictOf e_dd 7), (fs, ofs), (f, instObj 390 fd), (fd, dictOf e_fd 5), (p, W.listOf vs c), (n, baObj b), (jn, instObj 185 jx), (jx, dictOf e_jx 6), (j, instObj 390 jd), (jd, dictOf e_jd 5), (pj, W.listOf vj cj), (nj, baObj x), (T2, oT)] := (ns_cons N m0 (ns_cons N m1 (ns_cons N m2 (ns_cons N m3 (ns_cons N m4 (ns_cons N m5 (ns_cons N m6 (ns_cons N m7 (ns_cons N m8 (ns_cons N m9 (ns_cons N m10 (ns_cons N m11 (ns_cons N m12 (ns_cons N m13 (ns_cons N m14 (ns_cons N m15 ns_nil))))))))))))))))
  have znd := nd0
  clear nd0 N m0 m1 m2 m3 m4 m5 m6 m7 m8 m9 m10 m11 m12 m13 m14 m15
  rw [law_cut8]
  conv in nth _ 8 => whnf
  k_steps
  · exact absurd (by assumption : (hotB x != hotB x) = true) (by simp)
  · refine lawGo ?_
    rename Fr _ _ _ _ => kF0
    rename News _ _ _ _ => kN0
    try simp only [putB0, db_name] at kN0
    refine' law_G (T2 := T2) X T B kF0 kN0 ?m0 ?m1 ?m2 ?m3 ?m4 ?m5 ?m6 ?m7 ?m8 ?m9 ?m10 ?m11 ?m12 ?m13 ?m14 ?m15 ?nd hce ?hd0 ?hc0 ?hc1 lo ?hfs ?hb ?hv ?hx ?hpc ?hxT
    case m0 => k_mem
    case m1 => k_mem
    case m2 => k_mem
    case m3 => k_mem
    case m4 => k_mem
    case m5 => k_mem
    case m6 => k_mem
    case m7 => k_mem
    case m8 => k_mem
    case m9 => k_mem
    case m10 => k_mem
    case m11 => k_mem
    case m12 => k_mem
    case m13 => k_mem
    case m14 => k_mem
    case m15 => k_mem
    case nd => walk_at "nd_pick"
    case hd0 => assumption
    case hc0 => assumption
    case hc1 => assumption
    case hfs => assumption
    case hb => assumption
    case hv => assumption
    case hx => assumption
    case hpc => assumption
    case hxT => assumption
  · exact absurd (cut_all (b := b) (n := 400) (by omega)) (by assumption)

theorem law_F {w : World} {mean : ExcName → Option Value} {mg mb : Str → Option Value} {hp h1 : Heap} {g : Array GenState} {dr : Drawn} {tk : Nat} {os : OsState} {L sc : Addr} {news : List (Addr × Obj)} {sr dk dd fs sh lk : Addr} {oce ofs olk : Obj} {d cc : Int} {n0 : Nat} {q1 q2 q3 q4 q5 q6 q7 t5 t6 e1 e2 : Tok} {b : List UInt8} {tw : Tok} {st : Int} {jn jx : Addr} {g1 g2 g3 g4 g5 g6 gt2 gt3 gt4 gt5 gt6 : Tok} {f fd p n : Addr} {sy : Value} {vs : Array Value} {c : Nat} {k1 k2 k3 k4 k5 t7 : Tok} {x : List UInt8} {tx : Tok}
    (X : (Mine.hd.heap_39 w.params).In hp) (T : Top VW LO mean mg mb hp) (B : Below callerA hp [] hp) (F : Fr hp L h1 (fun y => if y = Str.ofString "octets" then some (.bytes x.toArray tx) else if y = Str.ofString "file" then some (.ref f) else if y = Str.ofString "journal" then some (.ref jn) else if y = Str.ofString "whole" then some (.bytes b.toArray tw) else if y = Str.ofString "disk" then some (.ref dk) else if y = Str.ofString "script" then some (.ref sc) else none)) (N : News hp L h1 news) (m0 : ((L + 1, oce) : Addr × Obj) ∈ news) (m1 : ((sr, W.listOf #[.int d e1, .int cc e2] n0) : Addr × Obj) ∈ news) (m2 : ((dk, instObj 489 dd) : Addr × Obj) ∈ news) (m3 : ((dd, dictOf [{ hash := PyData.keyHash w.params (Str.ofString "sector"), key := Value.str (Str.ofString "sector") q1, val := Value.int 8 t5 }, { hash := PyData.keyHash w.params (Str.ofString "room"), key := Value.str (Str.ofString "room") q2, val := Value.none }, { hash := PyData.keyHash w.params (Str.ofString "files"), key := Value.str (Str.ofString "files") q3, val := Value.ref fs }, { hash := PyData.keyHash w.params (Str.ofString "steps"), key := Value.str (Str.ofString "steps") q4, val := Value.int st t6 }, { hash := PyData.keyHash w.params (Str.ofString "crash_at"), key := Value.str (Str.ofString "crash_at") q5, val := Value.none }, { hash := PyData.keyHash w.params (Str.ofString "shared"), key := Value.str (Str.ofString "shared") q6, val := Value.ref sh }, { hash := PyData.keyHash w.params (Str.ofString "locks"), key := Value.str (Str.ofString "locks") q7, val := Value.ref lk }] 7) : Addr × Obj) ∈ news) (m4 : ((fs, ofs) : Addr × Obj) ∈ news) (m5 : ((lk, olk) : Addr × Obj) ∈ news) (m6 : ((f, instObj 390 fd) : Addr × Obj) ∈ news) (m7 : ((fd, dictOf [{ hash := PyData.keyHash w.params (Str.ofString "disk"), key := Value.str (Str.ofString "disk") k1, val := Value.ref dk }, { hash := PyData.keyHash w.params (Str.ofString "name"), key := Value.str (Str.ofString "name") k2, val := Value.str (Str.ofString "db") t7 }, { hash := PyData.keyHash w.params (Str.ofString "synced"), key := Value.str (Str.ofString "synced") k3, val := sy }, { hash := PyData.keyHash w.params (Str.ofString "pending"), key := Value.str (Str.ofString "pending") k4, val := Value.ref p }, { hash := PyData.keyHash w.params (Str.ofString "now"), key := Value.str (Str.ofString "now") k5, val := Value.ref n }] 5) : Addr × Obj) ∈ news) (m8 : ((p, W.listOf vs c) : Addr × Obj) ∈ news) (m9 : ((n, baObj b) : Addr × Obj) ∈ news) (m10 : ((jn, instObj 185 jx) : Addr × Obj) ∈ news) (m11 : ((jx, dictOf [{ hash := PyData.keyHash w.params (Str.ofString "disk"), key := Value.str (Str.ofString "disk") g1, val := Value.ref dk }, { hash := PyData.keyHash w.params (Str.ofString "name"), key := Value.str (Str.ofString "name") g2, val := Value.str (Str.ofString "db-journal") gt2 }, { hash := PyData.keyHash w.params (Str.ofString "page_size"), key := Value.str (Str.ofString "page_size") g3, val := Value.int 64 gt3 }, { hash := PyData.keyHash w.params (Str.ofString "nonce"), key := Value.str (Str.ofString "nonce") g4, val := Value.int 0 gt4 }, { hash := PyData.keyHash w.params (Str.ofString "count"), key := Value.str (Str.ofString "count") g5, val := Value.int 0 gt5 }, { hash := PyData.keyHash w.params (Str.ofString "safe"), key := Value.str (Str.ofString "safe") g6, val := Value.int 4294967295 gt6 }] 6) : Addr × Obj) ∈ news) (nd0 : NdA [L + 1, sr, dk, dd, fs, lk, f, fd, p, n, jn, jx]) (hce : oce.data = Data.cell (some (Value.ref sr))) (hd0 : 0 ≤ d) (hc0 : 0 ≤ cc) (hc1 : cc < 2147483647) (lo : (fs == sysModules) = false) (hfs : ofs.IsDictOf (PySem.strKind PG w) [(Str.ofString "db", .ref f)]) (hb : b.length ≤ 192) (hv : vs.size ≤ 1) (hx : x.length ≤ 240) (hpc : 24 ≤ x.length → w4 x 16 ≤ 7) :
    wpC (model PySem.Challenge.rw_pb0455_01.row.prog w) (callerA.deeper (lawEnv L)) (execs (lawRest 6) (lawEnv L)) (lawQ hp g os) NoE ⟨h1, g, dr, tk, os⟩ := by
  let e_dd : List DictEntry := [{ hash := PyData.keyHash w.params (Str.ofString "sector"), key := Value.str (Str.ofString "sector") q1, val := Value.int 8 t5 }, { hash := PyData.keyHash w.params (Str.ofString "room"), key := Value.str (Str.ofString "room") q2, val := Value.none }, { hash := PyData.keyHash w.params (Str.ofString "files"), key := Value.str (Str.ofString "files") q3, val := Value.ref fs }, { hash := PyData.keyHash w.params (Str.ofString "steps"), key := Value.str (Str.ofString "steps") q4, val := Value.int st t6 }, { hash := PyData.keyHash w.params (Str.ofString "crash_at"), key := Value.str (Str.ofString "crash_at") q5, val := Value.none }, { hash := PyData.keyHash w.params (Str.ofString "shared"), key := Value.str (Str.ofString "shared") q6, val := Value.ref sh }, { hash := PyData.keyHash w.params (Str.ofString "locks"), key := Value.str (Str.ofString "locks") q7, val := Value.ref lk }]
  let e_fd : List DictEntry := [{ hash := PyData.keyHash w.params (Str.ofString "disk"), key := Value.str (Str.ofString "disk") k1, val := Value.ref dk }, { hash := PyData.keyHash w.params (Str.ofString "name"), key := Value.str (Str.ofString "name") k2, val := Value.str (Str.ofString "db") t7 }, { hash := PyData.keyHash w.params (Str.ofString "synced"), key := Value.str (Str.ofString "synced") k3, val := sy }, { hash := PyData.keyHash w.params (Str.ofString "pending"), key := Value.str (Str.ofString "pending") k4, val := Value.ref p }, { hash := PyData.keyHash w.params (Str.ofString "now"), key := Value.str (Str.ofString "now") k5, val := Value.ref n }]
  let e_jx : List DictEntry := [{ hash := PyData.keyHash w.params (Str.ofString "disk"), key := Value.str (Str.ofString "disk") g1, val := Value.ref dk }, { hash := PyData.keyHash w.params (Str.ofString "name"), key := Value.str (Str.ofString "name") g2, val := Value.str (Str.ofString "db-journal") gt2 }, { hash := PyData.keyHash w.params (Str.ofString "page_size"), key := Value.str (Str.ofString "page_size") g3, val := Value.int 64 gt3 }, { hash := PyData.keyHash w.params (Str.ofString "nonce"), key := Value.str (Str.ofString "nonce") g4, val := Value.int 0 gt4 }, { hash := PyData.keyHash w.params (Str.ofString "count"), key := Value.str (Str.ofString "count") g5, val := Value.int 0 gt5 }, { hash := PyData.keyHash w.params (Str.ofString "safe"), key := Value.str (Str.ofString "safe") g6, val := Value.int 4294967295 gt6 }]
  have N0 : News hp L h1 [(L + 1, oce), (sr, W.listOf #[.int d e1, .int cc e2] n0), (dk, instObj 489 dd), (dd, dictOf e_dd 7), (fs, ofs), (lk, olk), (f, instObj 390 fd), (fd, dictOf e_fd 5), (p, W.listOf vs c), (n, baObj b), (jn, instObj 185 jx), (jx, dictOf e_jx 6)] := (ns_cons N m0 (ns_cons N m1 (ns_cons N m2 (ns_cons N m3 (ns_cons N m4 (ns_cons N m5 (ns_cons N m6 (ns_cons N m7 (ns_cons N m8 (ns_cons N m9 (ns_cons N m10 (ns_cons N m11 ns_nil))))))))))))
  have znd := nd0
  clear nd0 N m0 m1 m2 m3 m4 m5 m6 m7 m8 m9 m10 m11
  rw [law_cut6]
  rw [law_cut7]
  conv in nth _ 6 => whnf
  conv in nth _ 7 => whnf
  k_steps
  · refine lawGo ?_
    have hx0 := of_decide_eq_true (by assumption : decide (x = []) = true)
    subst hx0
    rename Fr _ _ _ _ => kF0
    rename News _ _ _ _ => kN0
    try simp only [putB0, db_name] at kN0
    refine' law_E (T2 := lk) X T B kF0 kN0 ?m0 ?m1 ?m2 ?m3 ?m4 ?m5 ?m6 ?m7 ?m8 ?m9 ?m10 ?m11 ?m12 ?m13 ?m14 ?m15 ?nd hce ?hd0 ?hc0 ?hc1 lo ?hfs ?hb ?hv ?hx ?hpc ?hxT
    case m0 => k_mem
    case m1 => k_mem
    case m2 => k_mem
    case m3 => k_mem
    case m4 => k_mem
    case m5 => k_mem
    case m6 => k_mem
    case m7 => k_mem
    case m8 => k_mem
    case m9 => k_mem
    case m10 => k_mem
    case m11 => k_mem
    case m12 => k_mem
    case m13 => k_mem
    case m14 => k_mem
    case m15 => k_mem
    case nd => walk_at "nd_pick"
    case hd0 => assumption
    case hc0 => assumption
    case hc1 => assumption
    case hfs => exact zhfs'
    case hb => assumption
    case hv => assumption
    case hx => assumption
    case hpc => assumption
    case hxT => exact fun h => absurd rfl h
  · refine lawGo ?_
    rename Fr _ _ _ _ => kF0
    rename News _ _ _ _ => kN0
    try simp only [putB0, db_name] at kN0
    refine' law_E (T2 := zT') X T B kF0 kN0 ?m0 ?m1 ?m2 ?m3 ?m4 ?m5 ?m6 ?m7 ?m8 ?m9 ?m10 ?m11 ?m12 ?m13 ?m14 ?m15 ?nd hce ?hd0 ?hc0 ?hc1 lo ?hfs ?hb ?hv ?hx ?hpc ?hxT
    case m0 => k_mem
    case m1 => k_mem
    case m2 => k_mem
    case m3 => k_mem
    case m4 => k_mem
    case m5 => k_mem
    case m6 => k_mem
    case m7 => k_mem
    case m8 => k_mem
    case m9 => k_mem
    case m10 => k_mem
    case m11 => k_mem
    case m12 => k_mem
    case m13 => k_mem
    case m14 => k_mem
    case m15 => k_mem
    case nd => walk_at "nd_pick"
    case hd0 => assumption
    case hc0 => assumption
    case hc1 => assumption
    case hfs => exact zhfs'
    case hb => assumption
    case hv => assumption
    case hx => assumption
    case hpc => assumption
    case hxT => exact fun _ => ⟨_, _, _, rfl, rfl⟩

theorem law_D {w : World} {mean : ExcName → Option Value} {mg mb : Str → Option Value} {hp h1 : Heap} {g : Array GenState} {dr : Drawn} {tk : Nat} {os : OsState} {L sc : Addr} {news : List (Addr × Obj)} {sr dk dd fs sh lk : Addr} {oce ofs olk : Obj} {d cc : Int} {n0 : Nat} {q1 q2 q3 q4 q5 q6 q7 t5 t6 e1 e2 : Tok} {b : List UInt8} {tw : Tok} {st : Int} {jn jx : Addr} {g1 g2 g3 g4 g5 g6 gt2 gt3 gt4 gt5 gt6 : Tok} {f fd p n : Addr} {sy : Value} {vs : Array Value} {c : Nat} {k1 k2 k3 k4 k5 t7 : Tok}
    (X : (Mine.hd.heap_39 w.params).In hp) (T : Top VW LO mean mg mb hp) (B : Below callerA hp [] hp) (F : Fr hp L h1 (fun y => if y = Str.ofString "file" then some (.ref f) else if y = Str.ofString "journal" then some (.ref jn) else if y = Str.ofString "whole" then some (.bytes b.toArray tw) else if y = Str.ofString "disk" then some (.ref dk) else if y = Str.ofString "script" then some (.ref sc) else none)) (N : News hp L h1 news) (m0 : ((L + 1, oce) : Addr × Obj) ∈ news) (m1 : ((sr, W.listOf #[.int d e1, .int cc e2] n0) : Addr × Obj) ∈ news) (m2 : ((dk, instObj 489 dd) : Addr × Obj) ∈ news) (m3 : ((dd, dictOf [{ hash := PyData.keyHash w.params (Str.ofString "sector"), key := Value.str (Str.ofString "sector") q1, val := Value.int 8 t5 }, { hash := PyData.keyHash w.params (Str.ofString "room"), key := Value.str (Str.ofString "room") q2, val := Value.none }, { hash := PyData.keyHash w.params (Str.ofString "files"), key := Value.str (Str.ofString "files") q3, val := Value.ref fs }, { hash := PyData.keyHash w.params (Str.ofString "steps"), key := Value.str (Str.ofString "steps") q4, val := Value.int st t6 }, { hash := PyData.keyHash w.params (Str.ofString "crash_at"), key := Value.str (Str.ofString "crash_at") q5, val := Value.none }, { hash := PyData.keyHash w.params (Str.ofString "shared"), key := Value.str (Str.ofString "shared") q6, val := Value.ref sh }, { hash := PyData.keyHash w.params (Str.ofString "locks"), key := Value.str (Str.ofString "locks") q7, val := Value.ref lk }] 7) : Addr × Obj) ∈ news) (m4 : ((fs, ofs) : Addr × Obj) ∈ news) (m5 : ((lk, olk) : Addr × Obj) ∈ news) (m6 : ((f, instObj 390 fd) : Addr × Obj) ∈ news) (m7 : ((fd, dictOf [{ hash := PyData.keyHash w.params (Str.ofString "disk"), key := Value.str (Str.ofString "disk") k1, val := Value.ref dk }, { hash := PyData.keyHash w.params (Str.ofString "name"), key := Value.str (Str.ofString "name") k2, val := Value.str (Str.ofString "db") t7 }, { hash := PyData.keyHash w.params (Str.ofString "synced"), key := Value.str (Str.ofString "synced") k3, val := sy }, { hash := PyData.keyHash w.params (Str.ofString "pending"), key := Value.str (Str.ofString "pending") k4, val := Value.ref p }, { hash := PyData.keyHash w.params (Str.ofString "now"), key := Value.str (Str.ofString "now") k5, val := Value.ref n }] 5) : Addr × Obj) ∈ news) (m8 : ((p, W.listOf vs c) : Addr × Obj) ∈ news) (m9 : ((n, baObj b) : Addr × Obj) ∈ news) (m10 : ((jn, instObj 185 jx) : Addr × Obj) ∈ news) (m11 : ((jx, dictOf [{ hash := PyData.keyHash w.params (Str.ofString "disk"), key := Value.str (Str.ofString "disk") g1, val := Value.ref dk }, { hash := PyData.keyHash w.params (Str.ofString "name"), key := Value.str (Str.ofString "name") g2, val := Value.str (Str.ofString "db-journal") gt2 }, { hash := PyData.keyHash w.params (Str.ofString "page_size"), key := Value.str (Str.ofString "page_size") g3, val := Value.int 64 gt3 }, { hash := PyData.keyHash w.params (Str.ofString "nonce"), key := Value.str (Str.ofString "nonce") g4, val := Value.int 0 gt4 }, { hash := PyData.keyHash w.params (Str.ofString "count"), key := Value.str (Str.ofString "count") g5, val := Value.int 0 gt5 }, { hash := PyData.keyHash w.params (Str.ofString "safe"), key := Value.str (Str.ofString "safe") g6, val := Value.int 4294967295 gt6 }] 6) : Addr × Obj) ∈ news) (nd0 : NdA [L + 1, sr, dk, dd, fs, lk, f, fd, p, n, jn, jx]) (hce : oce.data = Data.cell (some (Value.ref sr))) (hd0 : 0 ≤ d) (hc0 : 0 ≤ cc) (hc1 : cc < 2147483647) (lo : (fs == sysModules) = false) (hfs : ofs.IsDictOf (PySem.strKind PG w) [(Str.ofString "db", .ref f)]) (hb : b.length ≤ 192) (hv : vs.size ≤ 1) :
    wpC (model PySem.Challenge.rw_pb0455_01.row.prog w) (callerA.deeper (lawEnv L)) (execs (lawRest 4) (lawEnv L)) (lawQ hp g os) NoE ⟨h1, g, dr, tk, os⟩ := by
  let e_dd : List DictEntry := [{ hash := PyData.keyHash w.params (Str.ofString "sector"), key := Value.str (Str.ofString "sector") q1, val := Value.int 8 t5 }, { hash := PyData.keyHash w.params (Str.ofString "room"), key := Value.str (Str.ofString "room") q2, val := Value.none }, { hash := PyData.keyHash w.params (Str.ofString "files"), key := Value.str (Str.ofString "files") q3, val := Value.ref fs }, { hash := PyData.keyHash w.params (Str.ofString "steps"), key := Value.str (Str.ofString "steps") q4, val := Value.int st t6 }, { hash := PyData.keyHash w.params (Str.ofString "crash_at"), key := Value.str (Str.ofString "crash_at") q5, val := Value.none }, { hash := PyData.keyHash w.params (Str.ofString "shared"), key := Value.str (Str.ofString "shared") q6, val := Value.ref sh }, { hash := PyData.keyHash w.params (Str.ofString "locks"), key := Value.str (Str.ofString "locks") q7, val := Value.ref lk }]
  let e_fd : List DictEntry := [{ hash := PyData.keyHash w.params (Str.ofString "disk"), key := Value.str (Str.ofString "disk") k1, val := Value.ref dk }, { hash := PyData.keyHash w.params (Str.ofString "name"), key := Value.str (Str.ofString "name") k2, val := Value.str (Str.ofString "db") t7 }, { hash := PyData.keyHash w.params (Str.ofString "synced"), key := Value.str (Str.ofString "synced") k3, val := sy }, { hash := PyData.keyHash w.params (Str.ofString "pending"), key := Value.str (Str.ofString "pending") k4, val := Value.ref p }, { hash := PyData.keyHash w.params (Str.ofString "now"), key := Value.str (Str.ofString "now") k5, val := Value.ref n }]
  let e_jx : List DictEntry := [{ hash := PyData.keyHash w.params (Str.ofString "disk"), key := Value.str (Str.ofString "disk") g1, val := Value.ref dk }, { hash := PyData.keyHash w.params (Str.ofString "name"), key := Value.str (Str.ofString "name") g2, val := Value.str (Str.ofString "db-journal") gt2 }, { hash := PyData.keyHash w.params (Str.ofString "page_size"), key := Value.str (Str.ofString "page_size") g3, val := Value.int 64 gt3 }, { hash := PyData.keyHash w.params (Str.ofString "nonce"), key := Value.str (Str.ofString "nonce") g4, val := Value.int 0 gt4 }, { hash := PyData.keyHash w.params (Str.ofString "count"), key := Value.str (Str.ofString "count") g5, val := Value.int 0 gt5 }, { hash := PyData.keyHash w.params (Str.ofString "safe"), key := Value.str (Str.ofString "safe") g6, val := Value.int 4294967295 gt6 }]
  have N0 : News hp L h1 [(L + 1, oce), (sr, W.listOf #[.int d e1, .int cc e2] n0), (dk, instObj 489 dd), (dd, dictOf e_dd 7), (fs, ofs), (lk, olk), (f, instObj 390 fd), (fd, dictOf e_fd 5), (p, W.listOf vs c), (n, baObj b), (jn, instObj 185 jx), (jx, dictOf e_jx 6)] := (ns_cons N m0 (ns_cons N m1 (ns_cons N m2 (ns_cons N m3 (ns_cons N m4 (ns_cons N m5 (ns_cons N m6 (ns_cons N m7 (ns_cons N m8 (ns_cons N m9 (ns_cons N m10 (ns_cons N m11 ns_nil))))))))))))
  have znd := nd0
  clear nd0 N m0 m1 m2 m3 m4 m5 m6 m7 m8 m9 m10 m11
  rw [law_cut4]
  rw [law_cut5]
  conv in nth _ 4 => whnf
  conv in nth _ 5 => whnf
  k_steps
  · exact lawQ_ret (by assumption) rfl
  · refine lawGo ?_
    rename Fr _ _ _ _ => kF0
    rename News _ _ _ _ => kN0
    try simp only [putB0, db_name] at kN0
    refine' law_F X T B kF0 kN0 ?m0 ?m1 ?m2 ?m3 ?m4 ?m5 ?m6 ?m7 ?m8 ?m9 ?m10 ?m11 ?nd hce ?hd0 ?hc0 ?hc1 lo ?hfs ?hb ?hv ?hx ?hpc
    case m0 => k_mem
    case m1 => k_mem
    case m2 => k_mem
    case m3 => k_mem
    case m4 => k_mem
    case m5 => k_mem
    case m6 => k_mem
    case m7 => k_mem
    case m8 => k_mem
    case m9 => k_mem
    case m10 => k_mem
    case m11 => k_mem
    case nd => walk_at "nd_pick"
    case hd0 => assumption
    case hc0 => assumption
    case hc1 => assumption
    case hfs => assumption
    case hb => assumption
    case hv => assumption
    case hx => exact (by assumption : BentOk _).1
    case hpc => exact (by assumption : BentOk _).2

theorem law_C {w : World} {mean : ExcName → Option Value} {mg mb : Str → Option Value} {hp h1 : Heap} {g : Array GenState} {dr : Drawn} {tk : Nat} {os : OsState} {L sc : Addr} {news : List (Addr × Obj)} {sr dk dd fs sh lk : Addr} {oce ofs olk : Obj} {d cc : Int} {n0 : Nat} {q1 q2 q3 q4 q5 q6 q7 t5 t6 e1 e2 : Tok} {b : List UInt8} {tw : Tok}
    (X : (Mine.hd.heap_39 w.params).In hp) (T : Top VW LO mean mg mb hp) (B : Below callerA hp [] hp) (F : Fr hp L h1 (fun y => if y = Str.ofString "whole" then some (.bytes b.toArray tw) else if y = Str.ofString "disk" then some (.ref dk) else if y = Str.ofString "script" then some (.ref sc) else none)) (N : News hp L h1 news) (m0 : ((L + 1, oce) : Addr × Obj) ∈ news) (m1 : ((sr, W.listOf #[.int d e1, .int cc e2] n0) : Addr × Obj) ∈ news) (m2 : ((dk, instObj 489 dd) : Addr × Obj) ∈ news) (m3 : ((dd, dictOf [{ hash := PyData.keyHash w.params (Str.ofString "sector"), key := Value.str (Str.ofString "sector") q1, val := Value.int 8 t5 }, { hash := PyData.keyHash w.params (Str.ofString "room"), key := Value.str (Str.ofString "room") q2, val := Value.none }, { hash := PyData.keyHash w.params (Str.ofString "files"), key := Value.str (Str.ofString "files") q3, val := Value.ref fs }, { hash := PyData.keyHash w.params (Str.ofString "steps"), key := Value.str (Str.ofString "steps") q4, val := Value.int 0 t6 }, { hash := PyData.keyHash w.params (Str.ofString "crash_at"), key := Value.str (Str.ofString "crash_at") q5, val := Value.none }, { hash := PyData.keyHash w.params (Str.ofString "shared"), key := Value.str (Str.ofString "shared") q6, val := Value.ref sh }, { hash := PyData.keyHash w.params (Str.ofString "locks"), key := Value.str (Str.ofString "locks") q7, val := Value.ref lk }] 7) : Addr × Obj) ∈ news) (m4 : ((fs, ofs) : Addr × Obj) ∈ news) (m5 : ((lk, olk) : Addr × Obj) ∈ news) (nd0 : NdA [L + 1, sr, dk, dd, fs, lk]) (hce : oce.data = Data.cell (some (Value.ref sr))) (hd0 : 0 ≤ d) (hc0 : 0 ≤ cc) (hc1 : cc < 2147483647) (lo : (fs == sysModules) = false) (hfs : ofs.IsDictOf (PySem.strKind PG w) []) (hb : b.length ≤ 192) :
    wpC (model PySem.Challenge.rw_pb0455_01.row.prog w) (callerA.deeper (lawEnv L)) (execs (lawRest 2) (lawEnv L)) (lawQ hp g os) NoE ⟨h1, g, dr, tk, os⟩ := by
  let e_dd : List DictEntry := [{ hash := PyData.keyHash w.params (Str.ofString "sector"), key := Value.str (Str.ofString "sector") q1, val := Value.int 8 t5 }, { hash := PyData.keyHash w.params (Str.ofString "room"), key := Value.str (Str.ofString "room") q2, val := Value.none }, { hash := PyData.keyHash w.params (Str.ofString "files"), key := Value.str (Str.ofString "files") q3, val := Value.ref fs }, { hash := PyData.keyHash w.params (Str.ofString "steps"), key := Value.str (Str.ofString "steps") q4, val := Value.int 0 t6 }, { hash := PyData.keyHash w.params (Str.ofString "crash_at"), key := Value.str (Str.ofString "crash_at") q5, val := Value.none }, { hash := PyData.keyHash w.params (Str.ofString "shared"), key := Value.str (Str.ofString "shared") q6, val := Value.ref sh }, { hash := PyData.keyHash w.params (Str.ofString "locks"), key := Value.str (Str.ofString "locks") q7, val := Value.ref lk }]
  have N0 : News hp L h1 [(L + 1, oce), (sr, W.listOf #[.int d e1, .int cc e2] n0), (dk, instObj 489 dd), (dd, dictOf e_dd 7), (fs, ofs), (lk, olk)] := (ns_cons N m0 (ns_cons N m1 (ns_cons N m2 (ns_cons N m3 (ns_cons N m4 (ns_cons N m5 ns_nil))))))
  have znd := nd0
  clear nd0 N m0 m1 m2 m3 m4 m5
  rw [law_cut2]
  rw [law_cut3]
  conv in nth _ 2 => whnf
  conv in nth _ 3 => whnf
  k_steps
  · refine lawGo ?_
    have hx0 := of_decide_eq_true (by assumption : decide (b = []) = true)
    subst hx0
    rename Fr _ _ _ _ => kF0
    rename News _ _ _ _ => kN0
    try simp only [putB0, db_name] at kN0
    refine' law_D X T B kF0 kN0 ?m0 ?m1 ?m2 ?m3 ?m4 ?m5 ?m6 ?m7 ?m8 ?m9 ?m10 ?m11 ?nd hce ?hd0 ?hc0 ?hc1 lo ?hfs ?hb ?hv
    case m0 => k_mem
    case m1 => k_mem
    case m2 => k_mem
    case m3 => k_mem
    case m4 => k_mem
    case m5 => k_mem
    case m6 => k_mem
    case m7 => k_mem
    case m8 => k_mem
    case m9 => k_mem
    case m10 => k_mem
    case m11 => k_mem
    case nd => walk_at "nd_pick"
    case hd0 => assumption
    case hc0 => assumption
    case hc1 => assumption
    case hfs => exact zhfs'
    case hb => assumption
    case hv => first | decide | exact Nat.le_refl 1
  · refine lawGo ?_
    rename Fr _ _ _ _ => kF0
    rename News _ _ _ _ => kN0
    try simp only [putB0, db_name] at kN0
    refine' law_D X T B kF0 kN0 ?m0 ?m1 ?m2 ?m3 ?m4 ?m5 ?m6 ?m7 ?m8 ?m9 ?m10 ?m11 ?nd hce ?hd0 ?hc0 ?hc1 lo ?hfs ?hb ?hv
    case m0 => k_mem
    case m1 => k_mem
    case m2 => k_mem
    case m3 => k_mem
    case m4 => k_mem
    case m5 => k_mem
    case m6 => k_mem
    case m7 => k_mem
    case m8 => k_mem
    case m9 => k_mem
    case m10 => k_mem
    case m11 => k_mem
    case nd => walk_at "nd_pick"
    case hd0 => assumption
    case hc0 => assumption
    case hc1 => assumption
    case hfs => exact zhfs'
    case hb => assumption
    case hv => first | decide | exact Nat.le_refl 1

theorem law_B {w : World} {mean : ExcName → Option Value} {mg mb : Str → Option Value} {hp h1 : Heap} {g : Array GenState} {dr : Drawn} {tk : Nat} {os : OsState} {L sc : Addr} {news : List (Addr × Obj)} {sr dk dd fs sh lk : Addr} {oce ofs olk : Obj} {d cc : Int} {n0 : Nat} {q1 q2 q3 q4 q5 q6 q7 t5 t6 e1 e2 : Tok}
    (X : (Mine.hd.heap_39 w.params).In hp) (T : Top VW LO mean mg mb hp) (B : Below callerA hp [] hp) (F : Fr hp L h1 (fun y => if y = Str.ofString "disk" then some (.ref dk) else if y = Str.ofString "script" then some (.ref sc) else none)) (N : News hp L h1 news) (m0 : ((L + 1, oce) : Addr × Obj) ∈ news) (m1 : ((sr, W.listOf #[.int d e1, .int cc e2] n0) : Addr × Obj) ∈ news) (m2 : ((dk, instObj 489 dd) : Addr × Obj) ∈ news) (m3 : ((dd, dictOf [{ hash := PyData.keyHash w.params (Str.ofString "sector"), key := Value.str (Str.ofString "sector") q1, val := Value.int 8 t5 }, { hash := PyData.keyHash w.params (Str.ofString "room"), key := Value.str (Str.ofString "room") q2, val := Value.none }, { hash := PyData.keyHash w.params (Str.ofString "files"), key := Value.str (Str.ofString "files") q3, val := Value.ref fs }, { hash := PyData.keyHash w.params (Str.ofString "steps"), key := Value.str (Str.ofString "steps") q4, val := Value.int 0 t6 }, { hash := PyData.keyHash w.params (Str.ofString "crash_at"), key := Value.str (Str.ofString "crash_at") q5, val := Value.none }, { hash := PyData.keyHash w.params (Str.ofString "shared"), key := Value.str (Str.ofString "shared") q6, val := Value.ref sh }, { hash := PyData.keyHash w.params (Str.ofString "locks"), key := Value.str (Str.ofString "locks") q7, val := Value.ref lk }] 7) : Addr × Obj) ∈ news) (m4 : ((fs, ofs) : Addr × Obj) ∈ news) (m5 : ((lk, olk) : Addr × Obj) ∈ news) (nd0 : NdA [L + 1, sr, dk, dd, fs, lk]) (hce : oce.data = Data.cell (some (Value.ref sr))) (hd0 : 0 ≤ d) (hc0 : 0 ≤ cc) (hc1 : cc < 2147483647) (lo : (fs == sysModules) = false) (hfs : ofs.IsDictOf (PySem.strKind PG w) []) :
    wpC (model PySem.Challenge.rw_pb0455_01.row.prog w) (callerA.deeper (lawEnv L)) (execs (lawRest 1) (lawEnv L)) (lawQ hp g os) NoE ⟨h1, g, dr, tk, os⟩ := by
  let e_dd : List DictEntry := [{ hash := PyData.keyHash w.params (Str.ofString "sector"), key := Value.str (Str.ofString "sector") q1, val := Value.int 8 t5 }, { hash := PyData.keyHash w.params (Str.ofString "room"), key := Value.str (Str.ofString "room") q2, val := Value.none }, { hash := PyData.keyHash w.params (Str.ofString "files"), key := Value.str (Str.ofString "files") q3, val := Value.ref fs }, { hash := PyData.keyHash w.params (Str.ofString "steps"), key := Value.str (Str.ofString "steps") q4, val := Value.int 0 t6 }, { hash := PyData.keyHash w.params (Str.ofString "crash_at"), key := Value.str (Str.ofString "crash_at") q5, val := Value.none }, { hash := PyData.keyHash w.params (Str.ofString "shared"), key := Value.str (Str.ofString "shared") q6, val := Value.ref sh }, { hash := PyData.keyHash w.params (Str.ofString "locks"), key := Value.str (Str.ofString "locks") q7, val := Value.ref lk }]
  have N0 : News hp L h1 [(L + 1, oce), (sr, W.listOf #[.int d e1, .int cc e2] n0), (dk, instObj 489 dd), (dd, dictOf e_dd 7), (fs, ofs), (lk, olk)] := (ns_cons N m0 (ns_cons N m1 (ns_cons N m2 (ns_cons N m3 (ns_cons N m4 (ns_cons N m5 ns_nil))))))
  have znd := nd0
  clear nd0 N m0 m1 m2 m3 m4 m5
  rw [law_cut1]
  conv in nth _ 1 => whnf
  k_steps
  refine compGo ?_
  dsimp only
  refine comp_all (fun i ys nw => LawStop <| ∃ (ps : List (List UInt8 × Tok)) (d' c' : Int) (t1 t2 : Tok), ys = ps.map byV ∧ ps.length = i ∧ (∀ p ∈ ps, p.1.length = 64) ∧ 0 ≤ d' ∧ 0 ≤ c' ∧ c' < 2147483647 ∧ nw = (L + 1, oce) :: (sr, W.listOf #[.int d' t1, .int c' t2] n0) :: [(dk, instObj 489 dd), (dd, dictOf e_dd 7), (fs, ofs), (lk, olk)]) ?turn ?fin zx'.toNat 0 [] _ (Nat.zero_add _) ?j0
  case j0 => exact ⟨[], _, _, _, _, rfl, rfl, (fun _ q => nomatch q), zhd0, zhc0, zhc1, rfl⟩
  case turn =>
    rintro i ys nw hi ⟨ps, d', c', t1, t2, rfl, rfl, h64, hd, hc, hc', rfl⟩ I oI C oC D m₂ h tk' E' hC F1 N1 off ne
    have off0 := off
    have znd0 := znd
    replace znd := nd_off3 znd0 off rfl ne
    simp only [LCg.Off3, and_true] at off
    k_steps
    refine lawGo ?_
    rename Fr _ _ _ _ => kF0
    rename News _ _ _ _ => kN0
    refine' LCg.CompEnd.intro kF0 kN0 ?nw ?sub ?off trivial (lawGo ⟨ps ++ [(zl', ?tt)], ?d1, ?c1, ?u1, ?u2, ?e1, ?e2, ?e3, ?e4, ?e5, ?e6, rfl⟩)
    case e1 => rw [List.map_append]; exact rfl
    case sub => exact all_cons (by k_mem) (all_cons (by k_mem) (all_cons (by k_mem) (all_cons (by k_mem) (all_cons (by k_mem) (all_cons (by k_mem) (all_cons (by k_mem) (all_cons (by k_mem) (all_cons (by k_mem) (all_nil)))))))))
    case off => exact off0
    case e2 => rw [List.length_append]; rfl
    case e4 => assumption
    case e5 => assumption
    case e6 => assumption
    case e3 =>
      intro p hp
      rcases List.mem_append.mp hp with hp | hp
      · exact h64 p hp
      · rw [List.mem_singleton.mp hp]; assumption
  case fin =>
    rintro ys nw ⟨ps, d', c', t1, t2, rfl, hlen, h64, hd, hc, hc', rfl⟩
    have hfl := flat_len h64
    have hfl2 : (flat ps).length ≤ 192 := by omega
    k_steps
    refine lawGo ?_
    rename Fr _ _ _ _ => kF0
    rename News _ _ _ _ => kN0
    try simp only [putB0, db_name] at kN0
    refine' law_C X T B kF0 kN0 ?m0 ?m1 ?m2 ?m3 ?m4 ?m5 ?nd hce ?hd0 ?hc0 ?hc1 lo ?hfs ?hb
    case m0 => k_mem
    case m1 => k_mem
    case m2 => k_mem
    case m3 => k_mem
    case m4 => k_mem
    case m5 => k_mem
    case nd => walk_at "nd_pick"
    case hd0 => assumption
    case hc0 => assumption
    case hc1 => assumption
    case hfs => assumption
    case hb => assumption
  

theorem bind_script {L sc : Addr} : bindL (lawEnv L).kindOf [(Str.ofString "script", Value.ref sc)] (fun _ => none) = fun y => if y = Str.ofString "script" then some (.ref sc) else none := by
  show (bindL (lawEnv L).kindOf [] (if (lawEnv L).kindOf (Str.ofString "script") = some .local then (fun y => if y = Str.ofString "script" then some (Value.ref sc) else none) else fun _ => none)) = _
  rw [if_pos (by rfl)]
  rfl
theorem law_A {w : World} {mean : ExcName → Option Value} {mg mb : Str → Option Value} {hp : Heap} {g : Array GenState} {dr : Drawn} {tk : Nat} {os : OsState} {sc : Addr} {vs : Array Value} {c : Nat}
    (X : (Mine.hd.heap_39 w.params).In hp) (T : Top VW LO mean mg mb hp) (hsc : hp.get? sc = some (W.listOf vs c)) (hiv : ∀ v ∈ vs.toList, ∃ k t, v = .int k t) (hbs : bsum vs.toList ≤ 2 ^ 20) :
    wpC (model PySem.Challenge.rw_pb0455_01.row.prog w) callerA (call (.ref 594) [.ref sc]) (fun v s' => v = .bool true ∧ (∀ b o, hp.get? b = some o → s'.heap.get? b = some o) ∧ s'.os = os ∧ s'.gens = g) (fun _ _ => False) ⟨hp, g, dr, tk, os⟩ := by
  refine wpC_call ?_
  k_dflt (refine' enterTop (s := ⟨hp, g, dr, tk, os⟩) (body := lawRest 0) (scope := lawScope) (binds := [(Str.ofString "script", .ref sc)]) ?kX ?kT ?k6 ?k7 ?k9 ?kB ?kD ?_ ?c2 ?c3 ?c4; (case kX => k_asm); (case kT => k_asm); (case k6 => k_is); (case k7 => k_is); (case k9 => exact BindsTo.of_eq rfl); (case kB => exact rfl); (case kD => decide +kernel); (case c2 => exact rfl); (case c3 => exact rfl); (case c4 => exact rfl); k_whole; intro L' h1 tk1 cells' F' N' Y' B' qk)
  refine wpC_mono (?_ : wpC _ _ _ (lawQ hp g os) NoE _) (fun fl s' q => by obtain ⟨rfl, k, o, q⟩ := q; exact ⟨rfl, k, o, q⟩) (fun _ _ q => q)
  clear qk
  have B := B'
  k_cells Y'
  try simp only [List.cons_append, List.nil_append] at N'
  have F1 := F'
  rw [bind_script] at F1
  clear F'
  have hsc1 := F1.keep _ _ hsc
  have znd : NdA [L' + 1] := List.nodup_cons.mpr ⟨List.not_mem_nil, List.nodup_nil⟩
  rw [law_cut0]
  conv in nth _ 0 => whnf
  k_steps
  refine lawGo ?_
  rename Fr _ _ _ _ => kF0
  rename News _ _ _ _ => kN0
  try simp only [putB0, db_name] at kN0
  refine' law_B X T B kF0 kN0 ?m0 ?m1 ?m2 ?m3 ?m4 ?m5 ?nd ?hce ?hd0 ?hc0 ?hc1 ?lo ?hfs
  case hce => assumption
  case m0 => k_mem
  case m1 => k_mem
  case m2 => k_mem
  case m3 => k_mem
  case m4 => k_mem
  case m5 => k_mem
  case nd => walk_at "nd_pick"
  case lo => assumption
  case hd0 => assumption
  case hc0 => assumption
  case hc1 => assumption
  case hfs => assumption

end
end
end Mine
end
section
open PySem PySem.W PyProof.Rows
set_option Elab.async false
set_option maxRecDepth 100000
namespace Mine
def topRunT (tb : String → Option Builtin) (p : Program) (w : World) (n₀ : Nat) (ann : Option Value) : Nat → SharedT → Thread → Option SharedT
  | 0, _, _ => none
  | n + 1, s, t => match through t with
    | true => some s
    | false => match stepOk n₀ ann t with
      | false => none
      | true => match stepT (denote tb) p w s t with
        | some (s', t') => topRunT tb p w n₀ ann n s' t'
        | none => none
theorem topRun_ofT {tb : String → Option Builtin} {p : Program} {w : World} {n₀ : Nat} {ann : Option Value} : ∀ {n : Nat} {s s' : SharedT} {t : Thread}, topRunT tb p w n₀ ann n s t = some s' → topRun tb p w n₀ ann n s.abs t = some s'.abs
  | 0, _, _, _, h => by cases h
  | n + 1, s, s', t, h => by
    unfold topRunT at h
    unfold topRun
    cases he : through t with
    | true => rw [he] at h; cases h; rfl
    | false =>
      rw [he] at h
      cases hk : stepOk n₀ ann t with
      | false => rw [hk] at h; cases h
      | true =>
        rw [hk] at h
        cases hs : stepT (denote tb) p w s t with
        | none => rw [hs] at h; cases h
        | some r => obtain ⟨s₂, t₂⟩ := r; rw [hs] at h; rw [stepT_spec hs]; exact topRun_ofT h
def ofL : List Obj → Nat → BT → BT
  | [], _, t => t
  | o :: l, i, t => ofL l (i + 1) (t.ins i o)
noncomputable def S0 (H : Params → Heap) (w : World) (os : OsState) : SharedT := ⟨ofL (H w.params).objs.toList 0 .nil, 11, (H w.params).life, #[], boot_drawn, boot_toks, os⟩
theorem S0_abs (w : World) : (fun os => (S0 boot_heap w os).abs) = fun os => ⟨boot_heap w.params, Array.mk [], boot_drawn, boot_toks, os⟩ := by kernel_rfl
noncomputable def ann0 (H : Params → Heap) (w : World) : Option Value := (H w.params).nsMap mainGlobals "__annotations__"
abbrev XT (_ : Shared) : Bool := true
noncomputable def seenAll (H : Params → Heap) (p q : Program) (loose : List Str) (as : List Nat) (w : World) := fun (os : OsState) =>
  (topRunT treeTable p w 11 (ann0 H w) 4300 (S0 H w os) (topStub p)).map fun s =>
    ((staticsOk (importedModules p.main.body) (H w.params) s.abs.heap && namesBound p s.abs.heap && gensDone s.abs && laidKept (H w.params) s.abs.heap),
      openSeen q loose (importedModules p.main.body) XT true s.abs, as.map s.abs.heap.get?)
theorem seenAll_refl : @seenAll = @seenAll := rfl
end Mine
lay_quick Mine.seenAll
namespace Mine
abbrev PW : Program := PySem.Challenge.rw_pb0455_01.row.prog
theorem seen_all : ∀ w, PySem.W.Fast.tw17491102638781660497 boot_heap PW hd.view_39 hd.loose hd.as_ w = fun _ => some (true, openGood hd.view_39 hd.loose, (hd.heap_39 w.params).map fun p => some p.2) := fun w => by kernel_rfl
theorem opening_plain : opening PW = plainProg PW.main.scope.names := by kernel_rfl
theorem fence_plain : ∀ s, fenceModules? PW s = some s := fun s => by kernel_rfl
theorem boot_ok (w : World) : ((boot_heap w.params).isNs mainGlobals && (Array.mk ([] : List GenState)).size == 0, (boot_heap w.params).objs.size) = (true, 11) := by kernel_rfl
theorem left_of {p q : Program} {loose : List Str} {as : List Nat} {K : World → List (Option Obj)} {H : Params → Heap} {N : Nat} {d : Drawn} {k : Nat} {ST : World → OsState → SharedT}
    (open_ : ∀ w : World, (fencedOpening treeTable p w N).map (fun s => (s.heap, s.gens, s.drawn, s.toks)) = some (H w.params, Array.mk [], d, k))
    (size : ∀ w : World, ((H w.params).isNs mainGlobals && (Array.mk ([] : List GenState)).size == 0, (H w.params).objs.size) = (true, 11))
    (abs : ∀ w os, (ST w os).abs = ⟨H w.params, Array.mk [], d, k, os⟩)
    (seen : ∀ (w : World) (os : OsState), (topRunT treeTable p w 11 ((H w.params).nsMap mainGlobals "__annotations__") N (ST w os) (topStub p)).map (fun s =>
      ((staticsOk (importedModules p.main.body) (H w.params) s.abs.heap && namesBound p s.abs.heap && gensDone s.abs && laidKept (H w.params) s.abs.heap),
      openSeen q loose (importedModules p.main.body) XT true s.abs, as.map s.abs.heap.get?)) = some (true, openGood q loose, K w)) :
    LeftO p q loose XT (fun s => as.map s.heap.get?) K N := fun w => by
  obtain ⟨⟨h, gs, d', k', os⟩, e, e'⟩ := Option.map_eq_some_iff.mp (open_ w)
  obtain ⟨rfl, rfl, rfl, rfl⟩ : h = H w.params ∧ gs = Array.mk [] ∧ d' = d ∧ k' = k := by simpa using e'
  obtain ⟨z1, z2⟩ : _ ∧ _ := by simpa only [Prod.mk.injEq] using size w
  obtain ⟨s, hr, hs⟩ := Option.map_eq_some_iff.mp (seen w os)
  obtain ⟨l1, l2, l3⟩ : _ ∧ _ ∧ _ := by simpa only [Prod.mk.injEq] using hs
  have r := topRun_ofT hr
  rw [abs] at r
  have t : topFrom treeTable p w N ⟨H w.params, Array.mk [], d', k', os⟩ = some s.abs := by
    unfold topFrom
    dsimp only
    rw [z1, z2, r]
    show (match staticsOk (importedModules p.main.body) (H w.params) s.abs.heap && namesBound p s.abs.heap && gensDone s.abs && laidKept (H w.params) s.abs.heap with | true => _ | false => _) = _
    rw [l1]
  unfold openEnds
  rw [e]
  show (topFrom treeTable p w N _).map _ = _
  rw [t]
  exact congrArg some (Prod.ext l2 l3)
theorem seenAll_def (H : Params → Heap) (p q : Program) (loose : List Str) (as : List Nat) (w : World) (os : OsState) : seenAll H p q loose as w os = (topRunT treeTable p w 11 ((H w.params).nsMap mainGlobals "__annotations__") 4300 (S0 H w os) (topStub p)).map fun s =>
    ((staticsOk (importedModules p.main.body) (H w.params) s.abs.heap && namesBound p s.abs.heap && gensDone s.abs && laidKept (H w.params) s.abs.heap),
      openSeen q loose (importedModules p.main.body) XT true s.abs, as.map s.abs.heap.get?) := rfl
theorem seen_of (p q : Program) (loose : List Str) (as : List Nat) (H : Params → Heap) (K : World → List (Option Obj)) (h : ∀ w, PySem.W.Fast.tw17491102638781660497 H p q loose as w = fun _ => some (true, openGood q loose, K w)) (w : World) (os : OsState) :
    (topRunT treeTable p w 11 ((H w.params).nsMap mainGlobals "__annotations__") 4300 (S0 H w os) (topStub p)).map (fun s =>
    ((staticsOk (importedModules p.main.body) (H w.params) s.abs.heap && namesBound p s.abs.heap && gensDone s.abs && laidKept (H w.params) s.abs.heap),
      openSeen q loose (importedModules p.main.body) XT true s.abs, as.map s.abs.heap.get?)) = some (true, openGood q loose, K w) := by
  have x := congrFun (h w) os
  rw [← PySem.W.Fast.te17491102638781660497] at x
  rw [seenAll_def] at x
  exact x
noncomputable abbrev obsK (s : Shared) : List (Option Obj) := hd.as_.map s.heap.get?
noncomputable abbrev valK (w : World) : List (Option Obj) := (hd.heap_39 w.params).map fun p => some p.2
theorem left : LeftO PW hd.view_39 hd.loose XT obsK valK 4300 :=
  left_of (boot_open (p := PW) (N := 4300) opening_plain rfl fence_plain) boot_ok (fun w os => congrFun (S0_abs w) os) (seen_of PW hd.view_39 hd.loose hd.as_ boot_heap valK seen_all)
end Mine
end
section
open PySem PySem.W PySem.Calls PyProof.Rows
set_option Elab.async false
set_option maxRecDepth 100000
set_option maxHeartbeats 4000000
namespace Mine
abbrev RL : OpenLaw := PySem.Challenge.rw_pb0455_01
def LawOk : Prop := ∀ (w : World) (s : Shared) (mean : ExcName → Option Value) (mg mb : Str → Option Value) (sc : Addr) (vs : Array Value) (c : Nat),
  (hd.heap_39 w.params).In s.heap → Top VW LO mean mg mb s.heap → s.heap.get? sc = some (W.listOf vs c) → (∀ v ∈ vs.toList, ∃ k t, v = .int k t) → bsum vs.toList ≤ 2 ^ 20 →
    wpC (model RL.row.prog w) callerA (call (.ref 594) [.ref sc]) (fun v s' => v = .bool true ∧ (∀ b o, s.heap.get? b = some o → s'.heap.get? b = some o) ∧ s'.os = s.os ∧ s'.gens = s.gens) (fun _ _ => False) s

theorem law_runs {p : Program} {w : World} {s : Shared} {f : Value} {vs : List Value} {mg : Str → Option Value} {name : Str} (hz : s.asleep) (hg : s.heap.Ns mainGlobals mg) (hf : mg name = some f) (h0 : s.gens = #[])
    (h : wpC (model p w) callerA (call f vs) (fun v s' => v = .bool true ∧ (∀ b o, s.heap.get? b = some o → s'.heap.get? b = some o) ∧ s'.os = s.os ∧ s'.gens = s.gens) (fun _ _ => False) s) :
    ∃ n s', schedN (denote table) p w n (.single s (callStub name vs)) = .halted (.done (.ret (.bool true))) s' ∧ (∀ b o, s.heap.get? b = some o → s'.heap.get? b = some o) ∧ s'.rest = s.rest ∧ s'.heap.life = s.heap.life := by
  have hin : (⟨.builtin "claim.caller" {}, none, none, [], none⟩ : Ctx).In callerA := caller_in
  have hcl : Clean (⟨.builtin "claim.caller" {}, none, none, [], none⟩ : Ctx) := ⟨by decide, fun x hx => nomatch hx⟩
  have tree : wpC (model p w) callerA (callStub name vs).cur (fun fin s' => fin = .done (.ret (.bool true)) ∧ (∀ b o, s.heap.get? b = some o → s'.heap.get? b = some o) ∧ s'.os = s.os ∧ s'.gens = #[]) (fun _ _ => False) s := by
    refine wpC_seq (wpAny_nsGet hg ?_)
    rw [hf]
    refine wpC_bind (wpC_mono h (fun v s' q => ?_) fun _ _ q => q)
    obtain ⟨rfl, k, o, g⟩ := q
    exact wpC_pure ⟨rfl, k, o, g.trans h0⟩
  obtain ⟨n, r, s₁, s₂, hs, hn, hfo, hR⟩ := wp_halts_full (M := model p w) (R := fun r s' => r = .ok (.ret (.bool true)) ∧ (∀ b o, s.heap.get? b = some o → s'.heap.get? b = some o) ∧ s'.os = s.os) (p := default) hz
    (Sem.wp_mono _ _ _ (fun fin p' s' q => by
      obtain ⟨rfl, k, o, g⟩ := q
      exact ⟨⟨rfl, k, o⟩, leftWithCleanup_false_of_bare (AllBare.of_eq g)⟩) (fun _ _ _ q => q.elim) _ _ (tree _ default hin hcl))
  obtain ⟨rfl, k, o⟩ := hR
  obtain ⟨eh, _, _, eo, _⟩ := Shared.forget_eq hfo
  refine ⟨n, s₂, hs, fun b x e => ?_, Shared.rest_eq ?_, runN_life _ _ _ hn⟩
  · rw [eh]; exact k b x e
  · rw [eo]; exact o
theorem weight_ints : ∀ {ts : List Value} {ns : List Int}, IntsAre ts ns → bsum ts ≤ WData.weightAll (ofPys (ns.map PyData.int))
  | _, _, .nil => Nat.zero_le _
  | _, _, .cons n t h => by
    have := weight_ints h
    simp only [bsum, List.map_cons, ofPys, ofPy, WData.weightAll, WData.weight, Builtin.Int.intBits] at this ⊢
    omega
theorem ints_each : ∀ {ts : List Value} {ns : List Int}, IntsAre ts ns → ∀ v ∈ ts, ∃ k t, v = .int k t
  | _, _, .cons n t h, v, hv => by
    rcases List.mem_cons.mp hv with rfl | hv
    · exact ⟨_, _, rfl⟩
    · exact ints_each h v hv
theorem law_holds_of {l : OpenLaw} {q : Program} {loose : List Str} {α : Type} {Yf : Shared → α} {Ya : World → α} {N : Nat} {d : DefRec} {kwd : List (Str × Expr)} (left : LeftO l.prog q loose XT Yf Ya N) (said : l.row.wellSaid = true) (hwr : l.writes = false)
    (hch : chainsOk q = true) (ho : opensWell l.prog = true) (hb : l.prog.bare) (hw : l.row.toRowW.promised)
    (hdef : defOf q l.name = some (d, kwd)) (hp : l.prog.theDef l.name = some (d.params, d.body, d.scope)) (hk : kwWritten? d.params.kwonlyargs d.params.kw_defaults = some kwd)
    (walk : ∀ (w : World) (s₀ s₁ : Shared) (mg mb : Str → Option Value), Ground q loose [] (fun _ _ => True) w s₀ mg mb s₁.heap → Yf s₀ = Ya w → ∀ (args : List WData) (vs : List Value) (as : List Addr),
      l.row.toRowW.claim.pre args = true → WData.layableAll args = true → Laid [] w s₀ s₁ args vs as → sysModules < s₀.heap.objs.size → ∃ f, mg l.name = some f ∧
        wpC (model l.prog w) callerA (call f vs) (fun v s' => v = .bool true ∧ (∀ b o, s₁.heap.get? b = some o → s'.heap.get? b = some o) ∧ s'.os = s₁.os ∧ s'.gens = s₁.gens) (fun _ _ => False) s₁) : l.row.Holds := by
  refine ⟨said, hw, ⟨hb, ho, rfl⟩, hw.witness, fun w => ⟨(left.behind (XP := fun _ _ => True) (fun _ _ => trivial) hch w).1, fun s' hs' => ?_⟩⟩
  obtain ⟨s₀, hf, hg0, s, hT, hz, hgens, hg, G, y⟩ := (left.behind (XP := fun _ _ => True) (fun _ _ => trivial) hch w).2 s' hs'
  have hgens : s.gens = #[] := Array.eq_empty_of_size_eq_zero (beq_iff_eq.mp hgens)
  refine ⟨s₀, hf, hg0, s, hT, (fun n hn => ?_), (fun x h => nomatch (show x ∈ ([] : List (Str × List (Str × WShape))) from h)), (fun x h => nomatch (show x ∈ ([] : List (Str × List (Str × WShape))) from h)), fun args hpre hlay ord hord => ?_⟩
  · obtain rfl : n = l.name := List.mem_singleton.mp hn
    exact pinned_of_view hg G hdef hp hk
  obtain ⟨⟨vs, s₁⟩, hlaid⟩ := Option.isSome_iff_exists.mp (layAllW_isSome (P := w.params) (ord := ord) G.has args l.row.args s (pre_splitW (r := l.row.toRowW) hpre).1)
  have keeps := layAllW_keeps _ _ _ hlaid
  have hal := layAllW_rest _ _ _ hlaid
  obtain ⟨as, hrd, hin, hold⟩ := reads_layAllW hord _ _ _ hlaid hlay s₁.heap (fun _ _ e => e)
  have L : Laid [] w s s₁ args vs as := ⟨⟨ord, hord, hlaid⟩, hrd, hin, hold, keeps, hal.1.trans hgens, hal.2.2.1⟩
  obtain ⟨f, hmg, h⟩ := walk w s s₁ _ _ (G.keeps (fun _ _ _ _ _ => trivial) keeps) y args vs as hpre hlay L G.low
  obtain ⟨n, s₂, hrun, hk2, hrest, hlife⟩ := law_runs (name := l.name) (Shared.asleep_of_life hal.2.2.2 hz) (G.keeps (fun _ _ _ _ _ => trivial) keeps).T.g hmg L.gens h
  refine ⟨vs, s₁, hlaid, n, _, s₂, hrun, .inl ⟨.bool true, rfl, fun _ => rfl, ⟨.bool true, args, [], as, .bool true, L.reads.keepsK fun b o e _ => hk2 b o e, ?_, ?_, fun _ _ => ident_freeW (r := l.row.toRowW) rfl rfl rfl _ _⟩, ?_, ?_, ?_⟩, ?_, ?_, ?_, ?_⟩
  · wrow_post
  · exact fun _ => ⟨.nil, nofun, nofun⟩
  · exact fun i h => nomatch (show (none : Option Nat) = some i from h)
  · exact fun b o e _ _ _ => .inl (hk2 b o e)
  · exact fun i h => nomatch (show i ∈ ([] : List Nat) from h)
  · exact fun _ i x hx => by rw [hgens] at hx; simp at hx
  · exact fun c => absurd (show l.writes = true from c) (by rw [hwr]; decide)
  · rw [hlife, hal.2.2.2]
  · exact hrest.trans (Shared.rest_eq hal.2.2.1)

theorem script_facts {l : OpenLaw} {w : World} {s₀ s₁ : Shared} {args : List WData} {vals : List Value} {as : List Addr} (hpre : l.row.toRowW.claim.pre args = true) (hlay : WData.layableAll args = true) (L : Laid [] w s₀ s₁ args vals as)
    (low : sysModules < s₀.heap.objs.size) : ∃ sc vs c, vals = [.ref sc] ∧ s₁.heap.get? sc = some (W.listOf vs c) ∧ (∀ v ∈ vs.toList, ∃ k t, v = .int k t) ∧ bsum vs.toList ≤ 2 ^ 20 := by
  have L0 := L
  have hl0 := hlay
  have hrd := L.reads
  have hwl := L.well
  have hlo := L.low low
  have hsh := (pre_splitW (r := l.row.toRowW) hpre).1
  wrow_hasAll hsh hlay
  wrow_readAll hrd hwl hlo
  rename_i ns _ _ _ _ _ _ _ a its _ hL _ _ _ hI _
  refine ⟨a, its.toArray, _, rfl, X.script_obj L0 hL, fun v hv => ints_each hI v hv, ?_⟩
  have hw : WData.weight (ofPy (PyData.list (List.map PyData.int ns))) ≤ 2 ^ 20 := by
    simp only [WData.layableAll, WData.layable, List.all_cons, List.all_nil, Bool.and_true, Bool.and_eq_true, decide_eq_true_eq] at hl0
    exact hl0.2
  exact Nat.le_trans (weight_ints hI) hw
theorem law_bare : RL.row.prog.bare := ⟨rfl, rfl, rfl, rfl, rfl, by decide +kernel⟩
def fdOf (s : Stmt) : DefRec := match s with
  | .FunctionDef nm ps bd _ _ _ sc _ _ pos => ⟨nm, ps, bd, sc, pos⟩
  | _ => ⟨Str.ofString "", ⟨[], [], none, [], [], none, []⟩, [], { kind := .function, names := [], isGenerator := false, isCoroutine := false }, default⟩
theorem law_def : defOf hd.view_39 (Str.ofString "law") = some (fdOf (st1 42), []) := by kernel_rfl
theorem law_the : PW.theDef (Str.ofString "law") = some ((fdOf (st1 42)).params, (fdOf (st1 42)).body, (fdOf (st1 42)).scope) := by kernel_rfl
theorem law_kw : kwWritten? (fdOf (st1 42)).params.kwonlyargs (fdOf (st1 42)).params.kw_defaults = some [] := by kernel_rfl
theorem law_chains : chainsOk hd.view_39 = true := by decide +kernel
theorem law_opens : opensWell RL.prog = true := by decide +kernel
theorem law_promised : RL.row.toRowW.promised := by w_witness2
theorem as_keys : ∀ P, hd.as_ = (hd.heap_39 P).map (·.1) := fun _ => by kernel_rfl
theorem law_named (P : Params) : nsIn (hd.heap_39 P) mainGlobals (Str.ofString "law") = some (some (.ref 594)) := by kernel_rfl
theorem row_half (law : LawOk) : RL.row.wellSaid = true → RL.row.Holds := fun said => by
  refine law_holds_of (l := RL) left said rfl law_chains law_opens law_bare law_promised law_def law_the law_kw ?_
  intro w s₀ s₁ mg mb G y args vs as hpre hlay L low
  have X : (hd.heap_39 w.params).In s₁.heap := InK.keeps w _ _ (InK.of as_keys w s₀ y) L.keeps
  have T : Top VW LO (ExcName.means s₀.heap) mg mb s₁.heap := G.T
  obtain ⟨sc, vs', c, rfl, h1, h2, h3⟩ := script_facts hpre hlay L low
  exact ⟨_, mg_of X T.g (law_named _), law w s₁ _ mg mb sc vs' c X T h1 h2 h3⟩
theorem law_ok : LawOk := fun w s mean mg mb sc vs c X T h1 h2 h3 => law_A (hp := s.heap) (g := s.gens) (dr := s.drawn) (tk := s.toks) (os := s.os) X T h1 h2 h3
theorem said1 : PySem.Challenge.rw_pb0455_01.wellSaid = true := (congrFun PySem.W.Fast.te9446332074065402090 PySem.Challenge.rw_pb0455_01).trans (by kernel_rfl)
end Mine
end
set_option Elab.async false
theorem PySem.Challenge.cw_pb0455_01_holds : PySem.Challenge.rw_pb0455_01.Holds := by
  exact PySem.W.holds_law Mine.said1 (Mine.row_half Mine.law_ok)
